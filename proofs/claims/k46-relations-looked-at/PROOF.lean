import PyProof.Rows.All
import Wide.All
import OpenK.AllK
import Wide.FinOn
import HandS.ForExc
import HandS.Comp
import HandS.Iter
import HandS.Walk
import HandS.Dict
import HandS.Text
import HandS.Flow
import HandS.TupAny
import HandS.TupMul
import HandS.Style
import HandS.IsInst
import HandS.Defaults
import HandS.Wide
import HandS.Zip
import HandS.Rev
import HandS.Deep
import HandS.More
import HandS.DictComp
import HandS.Conv
import HandS.ForDict
import KE.SortData
import KE.KeyNested
import KE.GoesEnumKw
import KE.GoesNew
import KE.KRevSl
import KE.DataMinMax
import HandS.RaiseMore
import HandS.ExcIs
import HandS.ExcField
import HandS.ExcOwn
import HandS.ExcInit
import KE.KExcIs
import PyProof.ExcBaseAll.ValueError
import OpenK.KCls
import HandS.TryOnly
import KE.GoesEnum
import HandS.SetKeys
import HandS.SetBool
import HandS.TupSets
import HandS.Strs
import HandS.SetFor
import HandS.Head0
import HandS.Head1
import HandS.Head2
import HandS.HeadEnd
import HandS.HeadHook1
import HandS.HeadHook2
import HandS.HeadHook3
import KE.KStateDown
import PySem.Challenge.RW_letterbench_k46_relations_looked_at
section
set_option Elab.async false
set_option linter.all false
set_option maxRecDepth 100000
set_option maxHeartbeats 4000000
/-! The layer: data, a store, worlds, what stands for what. -/
namespace LB
open PySem PySem.Spec PyProof.Rows L2

/-- what is fixed for a program: the written part, its classes -/
structure Sg where
  K : PySem.W.Frag
  cv : Nat → Value
/-- an exception that is held: its class, its dict -/
def xo (a : Addr) (cls : Value) (d : Option Addr) : HO := .ext fun h => ∃ (oe : Obj) (vs : Array Value), h.get? a = some oe ∧ Zc cls d oe ∧ oe.data = .fields vs
inductive D where
  | non | bl (b : Bool) | int (i : Int) | str (x : Str)
  | tup (ds : List D) | lst (ds : List D) | scr (ns : List Int) | ref (n : Nat)
  | exc (c : Nat) (ns : List Str) (ds : List D) | dct (ks : List Key) (ds : List D) | fn (i : Nat) | kdc (ks : List Str) (ds : List D)

inductive Ob where
  | lst (ds : List D)
  | dct (ks : List Key) (ds : List D)
  | ins (c : Nat) (ns : List Str) (ds : List D)

structure Sto where
  nx : Nat
  ob : Nat → Option Ob

/-- what may be pinned -/
def Pn : HO → Prop
  | .lst _ => True
  | .dK _ => True
  | .ext _ => True
  | _ => False
structure Xn where
  cls : Nat
  ns : List Str
  ds : List D

inductive Res (α : Type) where
  | ok (a : α) (s : Sto)
  | exn (x : Xn) (s : Sto)
  | bad

def Res.bind {α β : Type} (r : Res α) (k : α → Sto → Res β) : Res β :=
  match r with
  | .ok a s => k a s
  | .exn x s => .exn x s
  | .bad => .bad

@[simp] theorem Res.bind_ok {α β : Type} (a : α) (s : Sto) (k : α → Sto → Res β) : (Res.ok a s).bind k = k a s := rfl
@[simp] theorem Res.bind_exn {α β : Type} (x : Xn) (s : Sto) (k : α → Sto → Res β) : (Res.exn x s).bind k = .exn x s := rfl
@[simp] theorem Res.bind_bad {α β : Type} (k : α → Sto → Res β) : (Res.bad : Res α).bind k = .bad := rfl

def Sto.put (s : Sto) (n : Nat) (o : Ob) : Sto := ⟨s.nx, fun m => if m = n then some o else s.ob m⟩
def Sto.del (s : Sto) (n : Nat) : Sto := ⟨s.nx, fun m => if m = n then none else s.ob m⟩
def Sto.new (s : Sto) (o : Ob) : Sto := ⟨s.nx + 1, fun m => if m = s.nx then some o else s.ob m⟩
def Sto.cut (s : Sto) (n : Nat) : Sto := ⟨s.nx, fun m => if m < n then s.ob m else none⟩

/-- what is known to last: where the numbered objects lie, the tuples, the lists that nobody changes any more -/
structure Wd where
  io : Nat → Option Addr
  tu : Addr → List V → Prop
  fz : Addr → HO → Prop
  sc : Addr → List V → Prop
  pin : Addr → HO → Prop
  cv : Nat → Value
  kd : Addr → List (Str × V) → Prop

structure Wd.Le (W W' : Wd) : Prop where
  io : ∀ n a, W.io n = some a → W'.io n = some a
  tu : ∀ a vs, W.tu a vs → W'.tu a vs
  fz : ∀ a o, W.fz a o → W'.fz a o
  sc : ∀ a vs, W.sc a vs → W'.sc a vs
  pin : ∀ a o, W.pin a o → W'.pin a o
  cv : W'.cv = W.cv
  kd : W'.kd = W.kd
/-- .. but what is pinned -/
structure Wd.LeX (W W' : Wd) : Prop where
  io : ∀ n a, W.io n = some a → W'.io n = some a
  tu : ∀ a vs, W.tu a vs → W'.tu a vs
  fz : ∀ a o, W.fz a o → W'.fz a o
  sc : ∀ a vs, W.sc a vs → W'.sc a vs
  cv : W'.cv = W.cv
  kd : W'.kd = W.kd
theorem Wd.Le.x {W W' : Wd} (h : W.Le W') : W.LeX W' := ⟨h.io, h.tu, h.fz, h.sc, h.cv, h.kd⟩
instance {W W' : Wd} : Coe (W.Le W') (W.LeX W') := ⟨Wd.Le.x⟩
theorem Wd.LeX.refl (W : Wd) : W.LeX W := ⟨fun _ _ h => h, fun _ _ h => h, fun _ _ h => h, fun _ _ h => h, rfl, rfl⟩
theorem Wd.LeX.trans {W W1 W2 : Wd} (a : W.LeX W1) (b : W1.LeX W2) : W.LeX W2 :=
  ⟨fun n x h => b.io n x (a.io n x h), fun n x h => b.tu n x (a.tu n x h), fun n x h => b.fz n x (a.fz n x h), fun n x h => b.sc n x (a.sc n x h), b.cv.trans a.cv, b.kd.trans a.kd⟩
theorem Wd.Le.refl (W : Wd) : W.Le W := ⟨fun _ _ h => h, fun _ _ h => h, fun _ _ h => h, fun _ _ h => h, fun _ _ h => h, rfl, rfl⟩
theorem Wd.Le.trans {W W1 W2 : Wd} (a : W.Le W1) (b : W1.Le W2) : W.Le W2 :=
  ⟨fun n x h => b.io n x (a.io n x h), fun n x h => b.tu n x (a.tu n x h), fun n x h => b.fz n x (a.fz n x h), fun n x h => b.sc n x (a.sc n x h), fun n x h => b.pin n x (a.pin n x h), b.cv.trans a.cv, b.kd.trans a.kd⟩

mutual
inductive Rep (W : Wd) : V → D → Prop
  | non : Rep W .non .non
  | bl (b : Bool) : Rep W (.bl b) (.bl b)
  | int (i : Int) : Rep W (.int i) (.int i)
  | str (x : Str) : Rep W (.str x) (.str x)
  | tup {a : Addr} {vs : List V} {ds : List D} : W.tu a vs → Reps W vs ds → Rep W (.ref a) (.tup ds)
  | lst {a : Addr} {vs : List V} {ds : List D} : W.fz a (.lst vs) → Reps W vs ds → Rep W (.ref a) (.lst ds)
  | scr {a : Addr} {ns : List Int} : W.sc a (ns.map V.int) → Rep W (.ref a) (.scr ns)
  | ref {a : Addr} {n : Nat} : W.io n = some a → Rep W (.ref a) (.ref n)
  | exc0 {a : Addr} {c : Nat} : W.fz a (xo a (W.cv c) none) → Rep W (.ref a) (.exc c [] [])
  | exc {a dd : Addr} {c : Nat} {ns : List Str} {vs : List V} {ds : List D} : W.fz a (xo a (W.cv c) (some dd)) → W.fz dd (.xd (ns.zip vs)) → ns.length = vs.length → Reps W vs ds → Rep W (.ref a) (.exc c ns ds)
  | dct {a : Addr} {od : Obj} {ks : List Key} {vs : List V} {ds : List D} : W.fz a (.frz od (.dK (ks.zip vs))) → ks.length = vs.length → Reps W vs ds → Rep W (.ref a) (.dct ks ds)
  | fn {a : Addr} {i : Nat} : W.cv (100000 + i) = .ref a → Rep W (.ref a) (.fn i)
  | kdc {a : Addr} {ks : List Str} {vs : List V} {ds : List D} : W.kd a (ks.zip vs) → ks.length = vs.length → Reps W vs ds → Rep W (.ref a) (.kdc ks ds)
inductive Reps (W : Wd) : List V → List D → Prop
  | nil : Reps W [] []
  | cons {v : V} {d : D} {vs : List V} {ds : List D} : Rep W v d → Reps W vs ds → Reps W (v :: vs) (d :: ds)
end

mutual
theorem Rep.monoX {W W' : Wd} (h : W.LeX W') : ∀ {v : V} {d : D}, Rep W v d → Rep W' v d
  | _, _, .non => .non
  | _, _, .bl b => .bl b
  | _, _, .int i => .int i
  | _, _, .str x => .str x
  | _, _, .tup t r => .tup (h.tu _ _ t) (Reps.monoX h r)
  | _, _, .lst t r => .lst (h.fz _ _ t) (Reps.monoX h r)
  | _, _, .scr e => .scr (h.sc _ _ e)
  | _, _, .ref e => .ref (h.io _ _ e)
  | _, _, .exc0 t => .exc0 (h.cv.symm ▸ h.fz _ _ t)
  | _, _, .exc t u l r => .exc (h.cv.symm ▸ h.fz _ _ t) (h.fz _ _ u) l (Reps.monoX h r)
  | _, _, .dct t l r => .dct (h.fz _ _ t) l (Reps.monoX h r)
  | _, _, .fn e => .fn (h.cv.symm ▸ e)
  | _, _, .kdc e l r => .kdc (h.kd.symm ▸ e) l (Reps.monoX h r)
theorem Reps.monoX {W W' : Wd} (h : W.LeX W') : ∀ {vs : List V} {ds : List D}, Reps W vs ds → Reps W' vs ds
  | _, _, .nil => .nil
  | _, _, .cons r t => .cons (Rep.monoX h r) (Reps.monoX h t)
end

theorem Rep.mono {W W' : Wd} (h : W.Le W') {v : V} {d : D} (r : Rep W v d) : Rep W' v d := r.monoX h.x
theorem Reps.mono {W W' : Wd} (h : W.Le W') {vs : List V} {ds : List D} (r : Reps W vs ds) : Reps W' vs ds := r.monoX h.x
theorem Reps.length {W : Wd} : ∀ {vs : List V} {ds : List D}, Reps W vs ds → vs.length = ds.length
  | _, _, .nil => rfl
  | _, _, .cons _ t => congrArg (· + 1) (Reps.length t)
theorem Reps.get {W : Wd} : ∀ {vs : List V} {ds : List D} {i : Nat} {d : D}, Reps W vs ds → ds[i]? = some d → ∃ v, vs[i]? = some v ∧ Rep W v d
  | _, _, _, _, .nil, e => by simp at e
  | _, _, 0, _, .cons r _, e => by simp at e; subst e; exact ⟨_, rfl, r⟩
  | _, _, i + 1, _, .cons _ t, e => by
    obtain ⟨v, h1, h2⟩ := Reps.get (i := i) t (by simpa using e)
    exact ⟨v, by simpa using h1, h2⟩
theorem Reps.get' {W : Wd} : ∀ {vs : List V} {ds : List D} {i : Nat} {v : V}, Reps W vs ds → vs[i]? = some v → ∃ d, ds[i]? = some d ∧ Rep W v d
  | _, _, _, _, .nil, e => by simp at e
  | _, _, 0, _, .cons r _, e => by simp at e; subst e; exact ⟨_, rfl, r⟩
  | _, _, i + 1, _, .cons _ t, e => by
    obtain ⟨v, h1, h2⟩ := Reps.get' (i := i) t (by simpa using e)
    exact ⟨v, by simpa using h1, h2⟩
theorem Reps.append {W : Wd} : ∀ {vs ws : List V} {ds es : List D}, Reps W vs ds → Reps W ws es → Reps W (vs ++ ws) (ds ++ es)
  | _, _, _, _, .nil, s => s
  | _, _, _, _, .cons r t, s => .cons r (Reps.append t s)
theorem Reps.take {W : Wd} : ∀ {vs : List V} {ds : List D} (n : Nat), Reps W vs ds → Reps W (vs.take n) (ds.take n)
  | _, _, 0, _ => .nil
  | _, _, _ + 1, .nil => .nil
  | _, _, n + 1, .cons r t => .cons r (Reps.take n t)
theorem Reps.drop {W : Wd} : ∀ {vs : List V} {ds : List D} (n : Nat), Reps W vs ds → Reps W (vs.drop n) (ds.drop n)
  | _, _, 0, r => r
  | _, _, _ + 1, .nil => .nil
  | _, _, n + 1, .cons _ t => Reps.drop n t
theorem Reps.reverse {W : Wd} : ∀ {vs : List V} {ds : List D}, Reps W vs ds → Reps W vs.reverse ds.reverse
  | _, _, .nil => .nil
  | _, _, .cons r t => by
    simp only [List.reverse_cons]
    exact (Reps.reverse t).append (.cons r .nil)
theorem Reps.set {W : Wd} {v : V} {d : D} (r : Rep W v d) : ∀ {vs : List V} {ds : List D} (i : Nat), Reps W vs ds → Reps W (vs.set i v) (ds.set i d)
  | _, _, _, .nil => .nil
  | _, _, 0, .cons _ t => .cons r t
  | _, _, i + 1, .cons q t => .cons q (Reps.set r i t)
theorem Reps.eraseIdx {W : Wd} : ∀ {vs : List V} {ds : List D} (i : Nat), Reps W vs ds → Reps W (vs.eraseIdx i) (ds.eraseIdx i)
  | _, _, _, .nil => .nil
  | _, _, 0, .cons _ t => t
  | _, _, i + 1, .cons q t => .cons q (Reps.eraseIdx i t)
theorem Reps.flat {W : Wd} {vs : List V} {ds : List D} (r : Reps W vs ds) : ∀ n : Nat, Reps W (List.replicate n vs).flatten (List.replicate n ds).flatten
  | 0 => .nil
  | n + 1 => by
    simp only [List.replicate_succ, List.flatten_cons]
    exact r.append (Reps.flat r n)
theorem Reps.ints {W : Wd} : ∀ {vs : List V} {ns : List Int}, Reps W vs (ns.map D.int) → vs = ns.map V.int
  | _, [], .nil => rfl
  | _, n :: ns, .cons (.int _) t => by rw [List.map_cons, Reps.ints t]
theorem Reps.ofInts {W : Wd} : ∀ (ns : List Int), Reps W (ns.map V.int) (ns.map D.int)
  | [] => .nil
  | n :: ns => .cons (.int n) (Reps.ofInts ns)

def Wd.addT (W : Wd) (p : Addr) (vs : List V) : Wd := { W with tu := fun a xs => W.tu a xs ∨ (a = p ∧ xs = vs) }
def Wd.addF (W : Wd) (p : Addr) (o : HO) : Wd := { W with fz := fun a u => W.fz a u ∨ (a = p ∧ u = o) }
abbrev Wd.addL (W : Wd) (p : Addr) (vs : List V) : Wd := W.addF p (.lst vs)
def Wd.addO (W : Wd) (n : Nat) (p : Addr) : Wd := { W with io := fun m => if m = n then some p else W.io m }
theorem Wd.addT_le (W : Wd) (p : Addr) (vs : List V) : W.Le (W.addT p vs) := ⟨fun _ _ h => h, fun _ _ h => .inl h, fun _ _ h => h, fun _ _ h => h, fun _ _ h => h, rfl, rfl⟩
theorem Wd.addF_le (W : Wd) (p : Addr) (o : HO) : W.Le (W.addF p o) := ⟨fun _ _ h => h, fun _ _ h => h, fun _ _ h => .inl h, fun _ _ h => h, fun _ _ h => h, rfl, rfl⟩
theorem Wd.addL_le (W : Wd) (p : Addr) (vs : List V) : W.Le (W.addL p vs) := W.addF_le p _

def ObR (W : Wd) (H : Hp) (a : Addr) : Ob → Prop
  | .lst ds => ∃ vs, H a = some (.lst vs) ∧ Reps W vs ds
  | .dct ks ds => ∃ vs, H a = some (.dK (ks.zip vs)) ∧ ks.length = vs.length ∧ Reps W vs ds
  | .ins c ns ds => ∃ C dx vs, W.cv c = .ref C ∧ H a = some (.ins C dx (ns.zip vs)) ∧ ns.length = vs.length ∧ Reps W vs ds
theorem ObR.mono {W W' : Wd} (h : W.Le W') {H H' : Hp} {a : Addr} (e : H' a = H a) : ∀ {o : Ob}, ObR W H a o → ObR W' H' a o
  | .lst _, ⟨vs, q, r⟩ => ⟨vs, e.trans q, r.mono h⟩
  | .dct _ _, ⟨vs, q, l, r⟩ => ⟨vs, e.trans q, l, r.mono h⟩
  | .ins _ _ _, ⟨C, dx, vs, q0, q, l, r⟩ => ⟨C, dx, vs, by rw [h.cv]; exact q0, e.trans q, l, r.mono h⟩
theorem ObR.there {W : Wd} {H : Hp} {a : Addr} : ∀ {o : Ob}, ObR W H a o → ∃ u, H a = some u
  | .lst _, ⟨vs, q, _⟩ => ⟨_, q⟩
  | .dct _ _, ⟨vs, q, _⟩ => ⟨_, q⟩
  | .ins _ _ _, ⟨_, _, _, _, q, _⟩ => ⟨_, q⟩
/-- no numbered object is a tuple, or locked -/
theorem ObR.noTup {W : Wd} {H : Hp} {a : Addr} : ∀ {o : Ob}, ObR W H a o → ∀ vs, ¬ Rd H a (.tup vs)
  | .lst _, ⟨vs, q, _⟩, ws, h => by
    rcases h with h | ⟨o, h⟩ <;> · rw [q] at h; cases h
  | .dct _ _, ⟨vs, q, _⟩, ws, h => by
    rcases h with h | ⟨o, h⟩ <;> · rw [q] at h; cases h
  | .ins _ _ _, ⟨_, _, _, _, q, _⟩, ws, h => by
    rcases h with h | ⟨o, h⟩ <;> · rw [q] at h; cases h
theorem ObR.noFrz {W : Wd} {H : Hp} {a : Addr} : ∀ {o : Ob}, ObR W H a o → ∀ o u, H a ≠ some (.frz o u)
  | .lst _, ⟨vs, q, _⟩, _, _, h => by rw [q] at h; cases h
  | .dct _ _, ⟨vs, q, _⟩, _, _, h => by rw [q] at h; cases h
  | .ins _ _ _, ⟨_, _, _, _, q, _⟩, _, _, h => by rw [q] at h; cases h

/-- a list of the written part -/
def KL (K : PySem.W.Frag) (a : Addr) (xs : List V) : Prop :=
  ∃ (o : Obj) (its : Array Value) (n : Nat), K.lookup a = some o ∧ o.cls = .type "list" ∧ o.dict = none ∧ o.data = .seq its n ∧ its.size ≤ sizeLine ∧ Vals xs its.toList
/-- a tuple of the written part -/
def KT (K : PySem.W.Frag) (a : Addr) (xs : List V) : Prop :=
  ∃ (o : Obj) (its : Array Value) (n : Nat), K.lookup a = some o ∧ o.cls = .type "tuple" ∧ o.data = .seq its n ∧ its.size ≤ sizeLine ∧ Vals xs its.toList
/-- a dict of the written part, its keys texts -/
def KDk (g : Sg) (a : Addr) (kvs : List (Str × V)) : Prop := ∃ (i : Nat) (es : Array DictEntry) (n : Nat), g.cv (200000 + i) = .ref a ∧ g.K.lookup a = some ⟨.type "dict", none, .dict es n, #[]⟩ ∧ (a == sysModules) = false ∧
  ∀ x, (∀ v, kvs.lookup x = some v → ∃ u, PySem.W.nsIn g.K a x = some (some u) ∧ RelV v u) ∧ (kvs.lookup x = none → PySem.W.nsIn g.K a x = some none)
def Free (W : Wd) (st : Sto) (a : Addr) : Prop := ∀ n o, st.ob n = some o → W.io n ≠ some a

structure Sim (g : Sg) (W : Wd) (st : Sto) (H : Hp) : Prop where
  kt : ∀ a vs, KT g.K a vs → W.tu a vs
  tu : ∀ a vs, W.tu a vs → SqT g.K H a vs
  fz : ∀ a o, W.fz a o → H a = some o ∧ Free W st a
  sc : ∀ a vs, W.sc a vs → (∃ o, H a = some (.frz o (.lst vs))) ∨ KL g.K a vs
  pin : ∀ a o, W.pin a o → H a = some o ∧ Free W st a ∧ Pn o ∧ ∀ u, ¬ W.fz a u
  ob : ∀ n o, st.ob n = some o → ∃ a, W.io n = some a ∧ ObR W H a o
  inj : ∀ n m o u a, st.ob n = some o → st.ob m = some u → W.io n = some a → W.io m = some a → n = m
  top : ∀ n a, W.io n = some a → n < st.nx
  cv : W.cv = g.cv
  kd : W.kd = KDk g

section
variable {g : Sg} {W : Wd} {st : Sto} {H : Hp} {p : Addr} {vs : List V} {ds : List D}

theorem Sim.sqL (S : Sim g W st H) {a : Addr} {vs : List V} (h : W.fz a (.lst vs)) : SqL g.K H a vs := by
  exact .inl (.inl (S.fz a _ h).1)
theorem Sim.sqS (S : Sim g W st H) {a : Addr} {vs : List V} (h : W.sc a vs) : SqL g.K H a vs := by
  rcases S.sc a vs h with h | h
  · exact .inl (.inr h)
  · exact .inr h
theorem sc_upd {a : Addr} {vs : List V} {o : HO} (h : (∃ o, H a = some (.frz o (.lst vs))) ∨ KL g.K a vs) (hp : ∀ o u, H p ≠ some (.frz o u)) : (∃ q, upd H p o a = some (.frz q (.lst vs))) ∨ KL g.K a vs :=
  h.imp (fun ⟨q, e⟩ => ⟨q, by rw [upd_ne (fun z => hp q _ (z ▸ e))]; exact e⟩) id
theorem noFrz_none (hp : H p = none) : ∀ o u, H p ≠ some (.frz o u) := fun o u e => by rw [hp] at e; cases e
theorem rd_upd {a : Addr} {u o : HO} (h : Rd H a u) (ne : a ≠ p) : Rd (upd H p o) a u := by
  rcases h with h | ⟨q, h⟩
  · left; rw [upd_ne ne]; exact h
  · right; refine ⟨q, ?_⟩; rw [upd_ne ne]; exact h
theorem rd_ne {a : Addr} {u : HO} (h : Rd H a u) (hp : H p = none) : a ≠ p := by
  rcases h with h | ⟨q, h⟩ <;> exact ne_of_none h hp
theorem sqT_upd {a : Addr} {xs : List V} {o : HO} (h : SqT g.K H a xs) (hp : H p = none) : SqT g.K (upd H p o) a xs := by
  rcases h with h | h
  · exact .inl (rd_upd h (rd_ne h hp))
  · exact .inr h
theorem sqT_other {a : Addr} {xs : List V} {o : HO} (h : SqT g.K H a xs) (hp : ∀ vs, ¬ Rd H p (.tup vs)) : SqT g.K (upd H p o) a xs := by
  rcases h with h | h
  · exact .inl (rd_upd h fun e => hp xs (e ▸ h))
  · exact .inr h

/-- any new object, of which nothing is said -/
theorem Sim.fresh {o : HO} (S : Sim g W st H) (hp : H p = none) : Sim g W st (upd H p o) where
  kt := S.kt
  tu := fun a xs h => sqT_upd (S.tu a xs h) hp
  fz := fun a xs h => ⟨by rw [upd_ne (ne_of_none (S.fz a xs h).1 hp)]; exact (S.fz a xs h).1, (S.fz a xs h).2⟩
  sc := fun a xs h => sc_upd (S.sc a xs h) (noFrz_none hp)
  pin := fun a o h => ⟨by rw [upd_ne (ne_of_none (S.pin a o h).1 hp)]; exact (S.pin a o h).1, (S.pin a o h).2⟩
  ob := fun n u h => by
    obtain ⟨a, e, r⟩ := S.ob n u h
    obtain ⟨q, hq⟩ := r.there
    exact ⟨a, e, r.mono (.refl W) (upd_ne (ne_of_none hq hp))⟩
  inj := S.inj
  top := S.top
  cv := S.cv
  kd := S.kd
theorem Sim.newT (S : Sim g W st H) (hp : H p = none) : Sim g (W.addT p vs) st (upd H p (.tup vs)) where
  kt := fun a vs h => .inl (S.kt a vs h)
  tu := fun a xs h => by
    rcases h with h | ⟨rfl, rfl⟩
    · exact sqT_upd (S.tu a xs h) hp
    · exact .inl (.inl upd_same)
  fz := fun a xs h => ⟨by rw [upd_ne (ne_of_none (S.fz a xs h).1 hp)]; exact (S.fz a xs h).1, (S.fz a xs h).2⟩
  sc := fun a xs h => sc_upd (S.sc a xs h) (noFrz_none hp)
  pin := fun a o h => ⟨by rw [upd_ne (ne_of_none (S.pin a o h).1 hp)]; exact (S.pin a o h).1, (S.pin a o h).2⟩
  ob := fun n u h => by
    obtain ⟨a, e, r⟩ := S.ob n u h
    obtain ⟨q, hq⟩ := r.there
    exact ⟨a, e, r.mono (W.addT_le p vs) (upd_ne (ne_of_none hq hp))⟩
  inj := S.inj
  top := S.top
  cv := S.cv
  kd := S.kd
/-- a thing that stands there is known to last, if it is no numbered object's -/
theorem Sim.keepF {o : HO} (S : Sim g W st H) (h : H p = some o ∧ Free W st p) (hn : ∀ o, ¬ W.pin p o) : Sim g (W.addF p o) st H where
  kt := S.kt
  tu := S.tu
  fz := fun a xs q => by
    rcases q with q | ⟨rfl, rfl⟩
    · exact S.fz a xs q
    · exact h
  sc := S.sc
  pin := fun a o q => ⟨(S.pin a o q).1, (S.pin a o q).2.1, (S.pin a o q).2.2.1, fun xs z => by
    rcases z with z | ⟨rfl, rfl⟩
    · exact (S.pin a o q).2.2.2 xs z
    · exact hn o q⟩
  ob := fun n u h => by
    obtain ⟨a, e, r⟩ := S.ob n u h
    exact ⟨a, e, r.mono (W.addF_le p _) rfl⟩
  inj := S.inj
  top := S.top
  cv := S.cv
  kd := S.kd
theorem Sim.keepL (S : Sim g W st H) (h : H p = some (.lst vs) ∧ Free W st p) (hn : ∀ o, ¬ W.pin p o) : Sim g (W.addL p vs) st H := S.keepF h hn
theorem Sim.freeOf (S : Sim g W st H) (hp : H p = none) : Free W st p := fun n o h e => by
  obtain ⟨b, e2, r⟩ := S.ob n o h
  rw [e] at e2; cases e2
  obtain ⟨z, hz⟩ := r.there
  rw [hp] at hz; cases hz
theorem Sim.newL (S : Sim g W st H) (hp : H p = none) : Sim g (W.addL p vs) st (upd H p (.lst vs)) :=
  (S.fresh hp).keepL ⟨upd_same, S.freeOf hp⟩ fun o q => by
    have := (S.pin p o q).1
    rw [hp] at this; cases this
theorem Sim.addO_le (S : Sim g W st H) : W.Le (W.addO st.nx p) := ⟨fun n a h => by
    have := S.top n a h
    show (if n = st.nx then some p else W.io n) = some a
    rw [if_neg (by omega)]; exact h, fun _ _ h => h, fun _ _ h => h, fun _ _ h => h, fun _ _ h => h, rfl, rfl⟩
/-- a new numbered object -/
theorem Sim.newO {ho : HO} {o : Ob} (S : Sim g W st H) (hp : H p = none) (r : ObR (W.addO st.nx p) (upd H p ho) p o) : Sim g (W.addO st.nx p) (st.new o) (upd H p ho) where
  kt := S.kt
  tu := fun a xs h => sqT_upd (S.tu a xs h) hp
  fz := fun a xs h => ⟨by rw [upd_ne (ne_of_none (S.fz a xs h).1 hp)]; exact (S.fz a xs h).1, fun n u hh e => by
    have q := S.fz a xs h
    have h' : (if n = st.nx then some o else st.ob n) = some u := hh
    have e' : (if n = st.nx then some p else W.io n) = some a := e
    by_cases hn : n = st.nx
    · rw [if_pos hn] at e'; cases e'
      exact ne_of_none q.1 hp rfl
    · rw [if_neg hn] at h' e'
      exact q.2 n u h' e'⟩
  sc := fun a xs h => sc_upd (S.sc a xs h) (noFrz_none hp)
  pin := fun a u h => ⟨by rw [upd_ne (ne_of_none (S.pin a u h).1 hp)]; exact (S.pin a u h).1, fun n w hh e => by
    have q := S.pin a u h
    have h' : (if n = st.nx then some o else st.ob n) = some w := hh
    have e' : (if n = st.nx then some p else W.io n) = some a := e
    by_cases hn : n = st.nx
    · rw [if_pos hn] at e'; cases e'
      exact ne_of_none q.1 hp rfl
    · rw [if_neg hn] at h' e'
      exact q.2.1 n w h' e', (S.pin a u h).2.2⟩
  ob := fun n u h => by
    have h' : (if n = st.nx then some o else st.ob n) = some u := h
    by_cases hn : n = st.nx
    · rw [if_pos hn] at h'; cases h'
      exact ⟨p, if_pos hn, r⟩
    · rw [if_neg hn] at h'
      obtain ⟨a, e, r'⟩ := S.ob n u h'
      obtain ⟨q, hq⟩ := r'.there
      exact ⟨a, (if_neg hn).trans e, r'.mono S.addO_le (upd_ne (ne_of_none hq hp))⟩
  inj := fun n m o1 u a h1 h2 e1 e2 => by
    have h1' : (if n = st.nx then some o else st.ob n) = some o1 := h1
    have h2' : (if m = st.nx then some o else st.ob m) = some u := h2
    have e1' : (if n = st.nx then some p else W.io n) = some a := e1
    have e2' : (if m = st.nx then some p else W.io m) = some a := e2
    have key := S.freeOf hp
    by_cases hn : n = st.nx <;> by_cases hm : m = st.nx
    · rw [hn, hm]
    · rw [if_pos hn] at e1'; cases e1'
      rw [if_neg hm] at h2' e2'
      exact (key m u h2' e2').elim
    · rw [if_pos hm] at e2'; cases e2'
      rw [if_neg hn] at h1' e1'
      exact (key n o1 h1' e1').elim
    · rw [if_neg hn] at h1' e1'; rw [if_neg hm] at h2' e2'
      exact S.inj n m o1 u a h1' h2' e1' e2'
  top := fun n a h => by
    have h' : (if n = st.nx then some p else W.io n) = some a := h
    by_cases hn : n = st.nx
    · show n < st.nx + 1; omega
    · rw [if_neg hn] at h'
      have := S.top n a h'
      show n < st.nx + 1; omega
  cv := S.cv
  kd := S.kd
/-- a numbered object is changed -/
theorem Sim.setO {ho : HO} {n : Nat} {o u : Ob} {a : Addr} (S : Sim g W st H) (h : st.ob n = some o) (e : W.io n = some a) (r : ObR W (upd H a ho) a u) : Sim g W (st.put n u) (upd H a ho) where
  kt := S.kt
  tu := fun b xs q => by
    obtain ⟨a', e', r'⟩ := S.ob n o h
    rw [e] at e'; cases e'
    exact sqT_other (S.tu b xs q) r'.noTup
  sc := fun b xs q => by
    obtain ⟨a', e', r'⟩ := S.ob n o h
    rw [e] at e'; cases e'
    exact sc_upd (S.sc b xs q) r'.noFrz
  pin := fun b w q => ⟨by rw [upd_ne (fun (z : b = a) => (S.pin b w q).2.1 n o h (by rw [z]; exact e))]; exact (S.pin b w q).1, fun m w' hm em => by
    have z := (S.pin b w q).2.1
    have hm' : (if m = n then some u else st.ob m) = some w' := hm
    by_cases hmn : m = n
    · exact z n o h (hmn ▸ em)
    · rw [if_neg hmn] at hm'
      exact z m w' hm' em, (S.pin b w q).2.2⟩
  fz := fun b xs q => ⟨by rw [upd_ne (fun (z : b = a) => (S.fz b xs q).2 n o h (by rw [z]; exact e))]; exact (S.fz b xs q).1, fun m w hm em => by
    have z := S.fz b xs q
    have hm' : (if m = n then some u else st.ob m) = some w := hm
    by_cases hmn : m = n
    · exact z.2 n o h (hmn ▸ em)
    · rw [if_neg hmn] at hm'
      exact z.2 m w hm' em⟩
  ob := fun m w hm => by
    have hm' : (if m = n then some u else st.ob m) = some w := hm
    by_cases hmn : m = n
    · rw [if_pos hmn] at hm'; cases hm'
      exact ⟨a, hmn ▸ e, r⟩
    · rw [if_neg hmn] at hm'
      obtain ⟨b, eb, rb⟩ := S.ob m w hm'
      exact ⟨b, eb, rb.mono (.refl W) (upd_ne fun (q : b = a) => hmn (S.inj m n w o b hm' h eb (by rw [q]; exact e)))⟩
  inj := fun m k o1 o2 b h1 h2 e1 e2 => by
    have h1' : (if m = n then some u else st.ob m) = some o1 := h1
    have h2' : (if k = n then some u else st.ob k) = some o2 := h2
    have g : ∀ i w, (if i = n then some u else st.ob i) = some w → ∃ w', st.ob i = some w' := fun i w hi => by
      by_cases hin : i = n
      · exact ⟨o, hin ▸ h⟩
      · rw [if_neg hin] at hi; exact ⟨w, hi⟩
    obtain ⟨w1, g1⟩ := g m o1 h1'
    obtain ⟨w2, g2⟩ := g k o2 h2'
    exact S.inj m k w1 w2 b g1 g2 e1 e2
  top := S.top
  cv := S.cv
  kd := S.kd
/-- objects are let go -/
theorem Sim.less {st' : Sto} (S : Sim g W st H) (h : ∀ n o, st'.ob n = some o → st.ob n = some o) (hn : st.nx ≤ st'.nx) : Sim g W st' H where
  kt := S.kt
  tu := S.tu
  fz := fun a xs q => ⟨(S.fz a xs q).1, fun n o hn' => (S.fz a xs q).2 n o (h n o hn')⟩
  sc := S.sc
  pin := fun a o q => ⟨(S.pin a o q).1, fun n o hn' => (S.pin a _ q).2.1 n o (h n o hn'), (S.pin a o q).2.2⟩
  ob := fun n o q => S.ob n o (h n o q)
  inj := fun n m o u a h1 h2 => S.inj n m o u a (h n o h1) (h m u h2)
  top := fun n a e => Nat.lt_of_lt_of_le (S.top n a e) hn
  cv := S.cv
  kd := S.kd
theorem Sim.cut {n : Nat} (S : Sim g W st H) : Sim g W (st.cut n) H := S.less (fun m o h => by
  have h' : (if m < n then st.ob m else none) = some o := h
  split at h'
  · exact h'
  · cases h') (Nat.le_refl _)
/-- a numbered list is left to last -/
theorem Sim.frzO {n : Nat} {ds : List D} (S : Sim g W st H) (h : st.ob n = some (.lst ds)) : ∃ a vs, W.io n = some a ∧ Reps W vs ds ∧ Sim g (W.addL a vs) (st.del n) H := by
  obtain ⟨a, e, vs, hv, r⟩ := S.ob n _ h
  refine ⟨a, vs, e, r, (S.less (st' := st.del n) (fun m o q => ?_) (Nat.le_refl _)).keepL ⟨hv, fun m o q e' => ?_⟩ fun o q => (S.pin a o q).2.1 n _ h e⟩
  · have q' : (if m = n then none else st.ob m) = some o := q
    split at q'
    · cases q'
    · exact q'
  · have q' : (if m = n then none else st.ob m) = some o := q
    split at q'
    · cases q'
    · rename_i hmn
      exact hmn (S.inj m n o _ a q' h e' e)
/-- something is pinned, and let go again -/
def Wd.addP (W : Wd) (p : Addr) (o : HO) : Wd := { W with pin := fun a u => W.pin a u ∨ (a = p ∧ u = o) }
def Wd.noP (W : Wd) (p : Addr) : Wd := { W with pin := fun a u => W.pin a u ∧ a ≠ p }
theorem Wd.addP_le (W : Wd) (p : Addr) (o : HO) : W.Le (W.addP p o) := ⟨fun _ _ h => h, fun _ _ h => h, fun _ _ h => h, fun _ _ h => h, fun _ _ h => .inl h, rfl, rfl⟩
theorem Wd.noP_le {W W' : Wd} (h : W.Le W') (hn : ∀ o, ¬ W.pin p o) : W.Le (W'.noP p) := ⟨h.io, h.tu, h.fz, h.sc, fun a o q => ⟨h.pin a o q, fun e => hn o (e ▸ q)⟩, h.cv, h.kd⟩
mutual
theorem Rep.noP {W : Wd} {p : Addr} : ∀ {v : V} {d : D}, Rep W v d → Rep (W.noP p) v d
  | _, _, .non => .non
  | _, _, .bl b => .bl b
  | _, _, .int i => .int i
  | _, _, .str x => .str x
  | _, _, .tup t r => .tup t (Reps.noP r)
  | _, _, .lst t r => .lst t (Reps.noP r)
  | _, _, .scr e => .scr e
  | _, _, .ref e => .ref e
  | _, _, .exc0 t => .exc0 t
  | _, _, .exc t u l r => .exc t u l (Reps.noP r)
  | _, _, .dct t l r => .dct t l (Reps.noP r)
  | _, _, .fn e => .fn e
  | _, _, .kdc e l r => .kdc e l (Reps.noP r)
theorem Reps.noP {W : Wd} {p : Addr} : ∀ {vs : List V} {ds : List D}, Reps W vs ds → Reps (W.noP p) vs ds
  | _, _, .nil => .nil
  | _, _, .cons r t => .cons (Rep.noP r) (Reps.noP t)
end
theorem ObR.noP {W : Wd} {p a : Addr} : ∀ {o : Ob}, ObR W H a o → ObR (W.noP p) H a o
  | .lst _, ⟨vs, q, r⟩ => ⟨vs, q, r.noP⟩
  | .dct _ _, ⟨vs, q, l, r⟩ => ⟨vs, q, l, r.noP⟩
  | .ins _ _ _, ⟨C, dx, vs, q0, q, l, r⟩ => ⟨C, dx, vs, q0, q, l, r.noP⟩
theorem Sim.noP (S : Sim g W st H) : Sim g (W.noP p) st H where
  kt := S.kt
  tu := S.tu
  fz := S.fz
  sc := S.sc
  pin := fun a o q => S.pin a o q.1
  ob := fun n o q => let ⟨a, e, r⟩ := S.ob n o q; ⟨a, e, r.noP⟩
  inj := S.inj
  top := S.top
  cv := S.cv
  kd := S.kd
theorem Sim.addP {o : HO} (S : Sim g W st H) (h : H p = some o) (hf : Free W st p) (hl : Pn o ∧ ∀ u, ¬ W.fz p u) : Sim g (W.addP p o) st H where
  kt := S.kt
  tu := S.tu
  fz := S.fz
  sc := S.sc
  pin := fun a u q => by
    rcases q with q | ⟨rfl, rfl⟩
    · exact S.pin a u q
    · exact ⟨h, hf, hl⟩
  ob := fun n o q => let ⟨a, e, r⟩ := S.ob n o q; ⟨a, e, r.mono (W.addP_le _ _) rfl⟩
  inj := S.inj
  top := S.top
  cv := S.cv
  kd := S.kd
/-- what is pinned (no tuple, nothing locked) is changed, the pin let go -/
theorem Sim.setP {o u : HO} (S : Sim g W st H) (h : W.pin p o) (ht : ∀ vs, ¬ Rd H p (.tup vs)) (hz : ∀ o u, H p ≠ some (.frz o u)) : Sim g (W.noP p) st (upd H p u) where
  kt := S.kt
  tu := fun b xs q => sqT_other (S.tu b xs q) ht
  fz := fun b xs q => ⟨by rw [upd_ne (fun (z : b = p) => (S.pin p o h).2.2.2 xs (z ▸ q))]; exact (S.fz b xs q).1, (S.fz b xs q).2⟩
  sc := fun b xs q => sc_upd (S.sc b xs q) hz
  pin := fun a w q => ⟨by rw [upd_ne q.2]; exact (S.pin a w q.1).1, (S.pin a w q.1).2⟩
  ob := fun n w q => by
    obtain ⟨a, e, r⟩ := S.ob n w q
    exact ⟨a, e, (r.mono (.refl W) (upd_ne fun (z : a = p) => (S.pin p o h).2.1 n w q (by rw [← z]; exact e))).noP⟩
  inj := S.inj
  top := S.top
  cv := S.cv
  kd := S.kd
theorem Sim.noPin (S : Sim g W st H) (hp : H p = none) : ∀ o, ¬ W.pin p o := fun o q => by
  have := (S.pin p o q).1
  rw [hp] at this; cases this
theorem Sim.noLi (S : Sim g W st H) (hp : H p = none) : ∀ vs, ¬ W.fz p vs := fun o q => by
  have := (S.fz p o q).1
  rw [hp] at this; cases this
/-- what was pinned as a list is a numbered object now -/
theorem Sim.ownG {o : HO} {ob : Ob} (S : Sim g W st H) (h : W.pin p o) (r : ObR W H p ob) : Sim g ((W.addO st.nx p).noP p) (st.new ob) H where
  kt := S.kt
  tu := S.tu
  fz := fun a xs q => ⟨(S.fz a xs q).1, fun n w hh e => by
    have h' : (if n = st.nx then some ob else st.ob n) = some w := hh
    have e' : (if n = st.nx then some p else W.io n) = some a := e
    by_cases hn : n = st.nx
    · rw [if_pos hn] at e'; cases e'
      exact (S.pin p _ h).2.2.2 xs q
    · rw [if_neg hn] at h' e'
      exact (S.fz a xs q).2 n w h' e'⟩
  sc := S.sc
  pin := fun a u q => ⟨(S.pin a u q.1).1, fun n w hh e => by
    have h' : (if n = st.nx then some ob else st.ob n) = some w := hh
    have e' : (if n = st.nx then some p else W.io n) = some a := e
    by_cases hn : n = st.nx
    · rw [if_pos hn] at e'; cases e'
      exact q.2 rfl
    · rw [if_neg hn] at h' e'
      exact (S.pin a u q.1).2.1 n w h' e', (S.pin a u q.1).2.2⟩
  ob := fun n u hh => by
    have h' : (if n = st.nx then some ob else st.ob n) = some u := hh
    by_cases hn : n = st.nx
    · rw [if_pos hn] at h'; cases h'
      exact ⟨p, if_pos hn, (r.mono S.addO_le rfl).noP⟩
    · rw [if_neg hn] at h'
      obtain ⟨a, e, r'⟩ := S.ob n u h'
      exact ⟨a, (if_neg hn).trans e, (r'.mono S.addO_le rfl).noP⟩
  inj := fun n m o1 u a h1 h2 e1 e2 => by
    have h1' : (if n = st.nx then some ob else st.ob n) = some o1 := h1
    have h2' : (if m = st.nx then some ob else st.ob m) = some u := h2
    have e1' : (if n = st.nx then some p else W.io n) = some a := e1
    have e2' : (if m = st.nx then some p else W.io m) = some a := e2
    have key := (S.pin p _ h).2.1
    by_cases hn : n = st.nx <;> by_cases hm : m = st.nx
    · rw [hn, hm]
    · rw [if_pos hn] at e1'; cases e1'
      rw [if_neg hm] at h2' e2'
      exact (key m u h2' e2').elim
    · rw [if_pos hm] at e2'; cases e2'
      rw [if_neg hn] at h1' e1'
      exact (key n o1 h1' e1').elim
    · rw [if_neg hn] at h1' e1'; rw [if_neg hm] at h2' e2'
      exact S.inj n m o1 u a h1' h2' e1' e2'
  top := fun n a hh => by
    have h' : (if n = st.nx then some p else W.io n) = some a := hh
    by_cases hn : n = st.nx
    · show n < st.nx + 1; omega
    · rw [if_neg hn] at h'
      have := S.top n a h'
      show n < st.nx + 1; omega
  cv := S.cv
  kd := S.kd
theorem Sim.ownP {vs : List V} {ds : List D} (S : Sim g W st H) (h : W.pin p (.lst vs)) (r : Reps W vs ds) : Sim g ((W.addO st.nx p).noP p) (st.new (.lst ds)) H := S.ownG h ⟨vs, (S.pin p _ h).1, r⟩
/-- what was pinned as a dict lasts, locked -/
theorem Sim.lockP {kvs : List (Key × V)} (S : Sim g W st H) (h : W.pin p (.dK kvs)) (od : Obj) : Sim g ((W.noP p).addF p (.frz od (.dK kvs))) st (upd H p (.frz od (.dK kvs))) := by
  have e := (S.pin _ _ h).1
  have S5 : Sim g (W.noP p) st (upd H p (.frz od (.dK kvs))) := S.setP h (fun vs q => by
    rcases q with q | ⟨o, q⟩ <;> · rw [e] at q; cases q) fun o u q => by rw [e] at q; cases q
  exact S5.keepF ⟨upd_same, (S.pin _ _ h).2.1⟩ fun o q => q.2 rfl
/-- a numbered dict is left to last -/
theorem Sim.lockO {n : Nat} {ks : List Key} {ds : List D} (S : Sim g W st H) (h : st.ob n = some (.dct ks ds)) : ∃ a vs, W.io n = some a ∧ H a = some (.dK (ks.zip vs)) ∧ ks.length = vs.length ∧ Reps W vs ds ∧
    ∀ od, W.Le (((W.addP a (.dK (ks.zip vs))).noP a).addF a (.frz od (.dK (ks.zip vs)))) ∧ Sim g (((W.addP a (.dK (ks.zip vs))).noP a).addF a (.frz od (.dK (ks.zip vs)))) (st.del n) (upd H a (.frz od (.dK (ks.zip vs)))) := by
  obtain ⟨a, e, vs, hv, l, r⟩ := S.ob n _ h
  have np : ∀ o, ¬ W.pin a o := fun o q => (S.pin a o q).2.1 n _ h e
  have del_ob : ∀ m o, (st.del n).ob m = some o → m ≠ n ∧ st.ob m = some o := fun m o q => by
    have q' : (if m = n then none else st.ob m) = some o := q
    split at q'
    · cases q'
    · rename_i z; exact ⟨z, q'⟩
  have S2 : Sim g W (st.del n) H := S.less (st' := st.del n) (fun m o q => (del_ob m o q).2) (Nat.le_refl _)
  have fr : Free W (st.del n) a := fun m o q e' => (del_ob m o q).1 (S.inj m n o _ a (del_ob m o q).2 h e' e)
  have nf : ∀ u, ¬ W.fz a u := fun u q => (S.fz a u q).2 n _ h e
  have S3 := S2.addP (p := a) hv fr ⟨trivial, nf⟩
  refine ⟨a, vs, e, hv, l, r, fun od => ⟨(Wd.noP_le (W.addP_le a _) np).trans (Wd.addF_le _ _ _), S3.lockP (.inr ⟨rfl, rfl⟩) od⟩⟩
end
end LB
end

section
set_option Elab.async false
set_option linter.all false
set_option maxRecDepth 100000
set_option maxHeartbeats 4000000
/-! What a piece of syntax does, as a plain function over environments and stores. -/
namespace LB
open PySem PySem.Spec PyProof.Rows L2

abbrev En := List (Option D)
def EnR (W : Wd) (σ : L2.St) (en : En) : Prop := σ.length = en.length ∧ ∀ (i : Nat) (d : D), en[i]? = some (some d) → ∃ v, σ[i]? = some (some v) ∧ Rep W v d
theorem EnR.monoX {W W' : Wd} {σ : L2.St} {en : En} (h : EnR W σ en) (le : W.LeX W') : EnR W' σ en := ⟨h.1, fun i d e => let ⟨v, q, r⟩ := h.2 i d e; ⟨v, q, r.monoX le⟩⟩
theorem EnR.mono {W W' : Wd} {σ : L2.St} {en : En} (h : EnR W σ en) (le : W.Le W') : EnR W' σ en := ⟨h.1, fun i d e => let ⟨v, q, r⟩ := h.2 i d e; ⟨v, q, r.mono le⟩⟩

def ExR (g : Sg) (W : Wd) (H : Hp) (cls : Value) (dx : Option Addr) (x : Xn) : Prop := cls = g.cv x.cls ∧ match dx with
  | none => x.ns = [] ∧ x.ds = []
  | some d => ∃ vs, H d = some (.xd (x.ns.zip vs)) ∧ x.ns.length = vs.length ∧ Reps W vs x.ds

section
variable {α β γ δ : Type}
def Post (g : Sg) (Wx : WX) (R : Wd → β → α → Prop) (σ : L2.St) (Q : β → Hp → Prop) (W : Wd) : Res α → Prop
  | .ok a st' => ∀ W' b H', W.Le W' → Sim g W' st' H' → R W' b a → Q b H'
  | .exn x st' => ∀ W' cls dx H', W.Le W' → Sim g W' st' H' → ExR g W' H' cls dx x → Wx cls dx σ H'
  | .bad => False
theorem Post.mono {g : Sg} {Wx : WX} {R : Wd → β → α → Prop} {σ : L2.St} {Q : β → Hp → Prop} {W W' : Wd} (le : W.Le W') : ∀ {r : Res α}, Post g Wx R σ Q W r → Post g Wx R σ Q W' r
  | .ok a st', h => fun W2 b H' l => h W2 b H' (le.trans l)
  | .exn x st', h => fun W2 c dx H' l => h W2 c dx H' (le.trans l)
  | .bad, h => h
def tG (g : Sg) (Wx : WX) (R : Wd → β → α → Prop) (f : En → Sto → Res α) : L2.St → Hp → (β → Hp → Prop) → Prop := fun σ H Q =>
  ∃ W st en, EnR W σ en ∧ Sim g W st H ∧ Post g Wx R σ Q W (f en st)
/-- one step, and what is left -/
theorem tG_step {g : Sg} {Wx : WX} {R : Wd → β → α → Prop} {R' : Wd → δ → γ → Prop} {f : En → Sto → Res α} {k : α → Sto → Res γ} {σ : L2.St} {H : Hp} {Q : δ → Hp → Prop} {T : β → Hp → Prop} {W : Wd} {st : Sto} {en : En}
    (hE : EnR W σ en) (S : Sim g W st H) (p : Post g Wx R' σ Q W ((f en st).bind k))
    (c : ∀ a s W' b H', W.Le W' → EnR W' σ en → Sim g W' s H' → R W' b a → Post g Wx R' σ Q W' (k a s) → T b H') : tG g Wx R f σ H T := by
  refine ⟨W, st, en, hE, S, ?_⟩
  cases e : f en st with
  | ok a s =>
    simp only [e, Res.bind_ok] at p
    exact fun W' b H' le S' r => c a s W' b H' le (hE.mono le) S' r (p.mono le)
  | exn x s =>
    simp only [e, Res.bind_exn] at p
    exact p
  | bad =>
    simp only [e, Res.bind_bad] at p
    exact p
theorem tG_imp {g : Sg} {Wx : WX} {R : Wd → β → α → Prop} {f : En → Sto → Res α} {σ : L2.St} {H : Hp} {Q Q' : β → Hp → Prop} (h : tG g Wx R f σ H Q) (i : ∀ b H, Q b H → Q' b H) : tG g Wx R f σ H Q' := by
  obtain ⟨W, st, en, hE, hS, hp⟩ := h
  refine ⟨W, st, en, hE, hS, ?_⟩
  cases e : f en st with
  | ok a s => rw [e] at hp; exact fun W' b H' le S' r => i _ _ (hp W' b H' le S' r)
  | exn x s => rw [e] at hp; exact hp
  | bad => rw [e] at hp; exact hp
end

/-- the readings of an expression, a test, arguments, a part of a slice -/
abbrev tE (g : Sg) (Wx : WX) (f : En → Sto → Res D) : TE := tG g Wx Rep f
abbrev tT (g : Sg) (Wx : WX) (f : En → Sto → Res Bool) : TT := tG g Wx (fun _ b b' => b = b') f
abbrev tA (g : Sg) (Wx : WX) (f : En → Sto → Res (List D)) : TA := tG g Wx Reps f
abbrev tP (g : Sg) (Wx : WX) (f : En → Sto → Res (Option Int)) : TO := tG g Wx (fun _ b b' => b = b') f

section
variable {X : Cx}
theorem _root_.L2.PE.lb {e : Expr} {t t' : TE} (h : PE X e t) (i : ∀ σ H Q, t' σ H Q → t σ H Q) : PE X e t' := ⟨fun pins s σ H Q I q => h.run pins s σ H Q I (i σ H Q q)⟩
theorem _root_.L2.PT.lb {e : Expr} {t t' : TT} (h : PT X e t) (i : ∀ σ H Q, t' σ H Q → t σ H Q) : PT X e t' := ⟨fun pins s σ H Q I q => h.run pins s σ H Q I (i σ H Q q)⟩
theorem _root_.L2.PW.lb {e : Expr} {t t' : TT} (h : PW X e t) (i : ∀ σ H Q, t' σ H Q → t σ H Q) : PW X e t' := ⟨fun whole pins s σ H Q I q => h.run whole pins s σ H Q I (i σ H Q q)⟩
theorem _root_.L2.PA.lb {e : List Expr} {t t' : TA} (h : PA X e t) (i : ∀ σ H Q, t' σ H Q → t σ H Q) : PA X e t' := ⟨fun pos pins s σ H Q I q => h.run pos pins s σ H Q I (i σ H Q q)⟩
theorem _root_.L2.PK.lb {e : List Keyword} {t t' : TA} (h : PK X e t) (i : ∀ σ H Q, t' σ H Q → t σ H Q) : PK X e t' := ⟨fun pos pins s σ H Q I q => h.run pos pins s σ H Q I (i σ H Q q)⟩
theorem _root_.L2.PO.lb {e : Option Expr} {t t' : TO} (h : PO X e t) (i : ∀ σ H Q, t' σ H Q → t σ H Q) : PO X e t' := ⟨fun pins s σ H Q I q => h.run pins s σ H Q I (i σ H Q q)⟩
theorem _root_.L2.PS.lb {e : Stmt} {t t' : TS} (h : PS X e t) (i : ∀ D σ H, t' D σ H → t D σ H) : PS X e t' := ⟨fun pins s σ H D I q => h.run pins s σ H D I (i D σ H q)⟩
theorem _root_.L2.PSs.lb {e : List Stmt} {t t' : TS} (h : PSs X e t) (i : ∀ D σ H, t' D σ H → t D σ H) : PSs X e t' := ⟨fun pins s σ H D I q => h.run pins s σ H D I (i D σ H q)⟩
theorem _root_.L2.PTs.lb {e : List Expr} {t t' : TT} (h : PTs X e t) (i : ∀ σ H Q, t' σ H Q → t σ H Q) : PTs X e t' := ⟨fun pins s σ H Q I q => h.run pins s σ H Q I (i σ H Q q)⟩
end

/-! ### operations on values -/
def PostV (g : Sg) (Q : V → Hp → Prop) (W : Wd) : Option (D × Sto) → Prop
  | some (d, s) => ∀ W' v H', W.Le W' → Sim g W' s H' → Rep W' v d → Q v H'
  | none => False
def liftO {α : Type} : Option (α × Sto) → Res α
  | some (d, s) => .ok d s
  | none => .bad
theorem post_lift {g : Sg} {Wx : WX} {σ : L2.St} {Q : V → Hp → Prop} {W : Wd} {o : Option (D × Sto)} (h : Post g Wx Rep σ Q W (liftO o)) : PostV g Q W o := by
  cases o with
  | none => exact h
  | some p => exact h
def r1 (g : Sg) (f : D → Sto → Option (D × Sto)) : V → Hp → VK → Prop := fun x H Q => ∃ W st d, Sim g W st H ∧ Rep W x d ∧ PostV g Q W (f d st)
def r2 (g : Sg) (f : D → D → Sto → Option (D × Sto)) : R2 := fun x y H Q => ∃ W st d e, Sim g W st H ∧ Rep W x d ∧ Rep W y e ∧ PostV g Q W (f d e st)
def rL (g : Sg) (f : List D → Sto → Option (D × Sto)) : List V → Hp → VK → Prop := fun xs H Q => ∃ W st ds, Sim g W st H ∧ Reps W xs ds ∧ PostV g Q W (f ds st)
def rS (g : Sg) (f : D → Option Int → Option Int → Sto → Option (D × Sto)) : V → Option Int → Option Int → Hp → VK → Prop := fun x lo hi H Q => ∃ W st d, Sim g W st H ∧ Rep W x d ∧ PostV g Q W (f d lo hi st)

section
variable {X : Cx} {g : Sg} {Wx : WX} {a b c : Expr} {fa fb fc : En → Sto → Res D} {pos : Pos}
theorem se_un {op : UnaryOp} {f : D → Sto → Option (D × Sto)} (ho : UnR X (unaryOp op) (r1 g f)) (ha : PE X a (tE g Wx fa)) : PE X (.UnaryOp op a pos) (tE g Wx fun en st => (fa en st).bind fun d s => liftO (f d s)) :=
  (pe_un ho ha).lb fun σ H Q ⟨W, st, en, hE, S, p⟩ => tG_step hE S p fun d s W' x H' le hE' S' r p' => ⟨W', s, d, S', r, post_lift p'⟩
theorem two {R : V → V → Hp → Prop} {k : D → D → En → Sto → Res D} {σ : L2.St} {H : Hp} {Q : V → Hp → Prop} (h : tE g Wx (fun en st => (fa en st).bind fun d s => (fb en s).bind fun e s => k d e en s) σ H Q)
    (i : ∀ W st en d e x y H2, EnR W σ en → Sim g W st H2 → Rep W x d → Rep W y e → Post g Wx Rep σ Q W (k d e en st) → R x y H2) :
    tE g Wx fa σ H fun x H1 => tE g Wx fb σ H1 fun y H2 => R x y H2 := by
  obtain ⟨W, st, en, hE, S, p⟩ := h
  refine tG_step hE S p fun d s W' x H1 le hE' S' r p' => ?_
  exact tG_step hE' S' p' fun e s2 W2 y H2 le2 hE2 S2 r2 p2 => i W2 s2 en d e x y H2 hE2 S2 (r.mono le2) r2 p2
theorem se_bin {op : Operator} {f : D → D → Sto → Option (D × Sto)} (ho : OpR X (binaryOp op) (r2 g f)) (ha : PE X a (tE g Wx fa)) (hb : PE X b (tE g Wx fb)) :
    PE X (.BinOp a op b pos) (tE g Wx fun en st => (fa en st).bind fun d s => (fb en s).bind fun e s => liftO (f d e s)) :=
  (pe_op ho ha hb).lb fun σ H Q h => two h fun W st en d e x y H2 _ S r r' p => ⟨W, st, d, e, S, r, r', post_lift p⟩
theorem se_cmp {op : CmpOp} {f : D → D → Sto → Option (D × Sto)} (ho : OpR X (compareOp op) (r2 g f)) (ha : PE X a (tE g Wx fa)) (hb : PE X b (tE g Wx fb)) (hm : behindInMarks op b = false) :
    PE X (.Compare a [op] [b] pos) (tE g Wx fun en st => (fa en st).bind fun d s => (fb en s).bind fun e s => liftO (f d e s)) :=
  (pe_cmpR ho ha hb hm).lb fun σ H Q h => two h fun W st en d e x y H2 _ S r r' p => ⟨W, st, d, e, S, r, r', post_lift p⟩
theorem se_ix {f : D → D → Sto → Option (D × Sto)} (ho : IxR X (r2 g f)) (ha : PE X a (tE g Wx fa)) (hb : PE X b (tE g Wx fb)) (hp : PlainIx b) :
    PE X (.Subscript a b pos) (tE g Wx fun en st => (fa en st).bind fun d s => (fb en s).bind fun e s => liftO (f d e s)) :=
  (pe_ix ho ha hb hp).lb fun σ H Q h => two h fun W st en d e x y H2 _ S r r' p => ⟨W, st, d, e, S, r, r', post_lift p⟩
/-- a truth that comes out -/
def boolOf : D → Option Bool
  | .bl b => some b
  | _ => none
theorem boolOf_some {d : D} {b : Bool} (h : boolOf d = some b) : d = .bl b := by
  cases d <;> simp [boolOf] at h
  rw [h]
def asB (r : Res D) : Res Bool := r.bind fun d s => match boolOf d with
  | some b => .ok b s
  | none => .bad
theorem asB_test {f : En → Sto → Res D} {σ : L2.St} {H : Hp} {Q : Bool → Hp → Prop} (h : tT g Wx (fun en st => asB (f en st)) σ H Q) : tE g Wx f σ H fun x H' => ∃ k, x = .bl k ∧ Q k H' := by
  obtain ⟨W, st, en, hE, S, p⟩ := h
  refine tG_step hE S p fun d s W' x H' le hE' S' r p' => ?_
  cases q : boolOf d with
  | none => rw [q] at p'; exact False.elim p'
  | some b =>
    rw [q] at p'
    rw [boolOf_some q] at r
    cases r
    exact ⟨b, rfl, p' W' b H' (.refl W') S' rfl⟩
theorem st_cmp {op : CmpOp} {f : D → D → Sto → Option (D × Sto)} (ho : OpR X (compareOp op) (r2 g f)) (ha : PE X a (tE g Wx fa)) (hb : PE X b (tE g Wx fb)) (hm : behindInMarks op b = false) :
    PT X (.Compare a [op] [b] pos) (tT g Wx fun en st => asB ((fa en st).bind fun d s => (fb en s).bind fun e s => liftO (f d e s))) :=
  (pt_cmpR ho ha hb hm).lb fun σ H Q h => two (asB_test h) fun W st en d e x y H2 _ S r r' p => ⟨W, st, d, e, S, r, r', post_lift p⟩
/-- a op b op' c -/
def chainF (f f' : D → D → Sto → Option (D × Sto)) (fa fb fc : En → Sto → Res D) : En → Sto → Res D := fun en st => (fa en st).bind fun d s => (fb en s).bind fun e s => (liftO (f d e s)).bind fun z s => match boolOf z with
  | some true => (fc en s).bind fun h s => liftO (f' e h s)
  | some false => .ok (.bl false) s
  | none => .bad
theorem chain_ok {f f' : D → D → Sto → Option (D × Sto)} {σ : L2.St} {H : Hp} {Q : VK} (h : tE g Wx (chainF f f' fa fb fc) σ H Q) : tChain (r2 g f) (r2 g f') (tE g Wx fa) (tE g Wx fb) (tE g Wx fc) σ H Q := by
  refine two (k := fun d e en s => (liftO (f d e s)).bind fun z s => match boolOf z with
    | some true => (fc en s).bind fun h s => liftO (f' e h s)
    | some false => .ok (.bl false) s
    | none => .bad) h fun W st en d e x y H2 hE S r r' p => ?_
  refine ⟨W, st, d, e, S, r, r', ?_⟩
  cases q : f d e st with
  | none => rw [q] at p; exact p
  | some zs =>
    obtain ⟨z, s⟩ := zs
    simp only [q, liftO, Res.bind_ok] at p
    intro W' v H' le S' rv
    cases qb : boolOf z with
    | none => rw [qb] at p; exact False.elim p
    | some b =>
      rw [qb] at p
      rw [boolOf_some qb] at rv
      cases rv
      cases b with
      | false => exact ⟨false, rfl, iteF (p W' _ H' le S' (.bl false))⟩
      | true =>
        refine ⟨true, rfl, iteT ?_⟩
        exact tG_step (hE.mono le) S' (p.mono le) fun w3 s3 W3 x3 H3 le3 hE3 S3 r3 p3 => ⟨W3, s3, e, w3, S3, r'.mono (le.trans le3), r3, post_lift p3⟩
theorem se_chain {op op' : CmpOp} {f f' : D → D → Sto → Option (D × Sto)} (ho : OpR X (compareOp op) (r2 g f)) (ho' : OpR X (compareOp op') (r2 g f')) (ha : PE X a (tE g Wx fa)) (hb : PE X b (tE g Wx fb)) (hc : PE X c (tE g Wx fc)) (hm : lastMarks [op, op'] [b, c] = false) :
    PE X (.Compare a [op, op'] [b, c] pos) (tE g Wx (chainF f f' fa fb fc)) := (pe_chain ho ho' ha hb hc hm).lb fun σ H Q h => chain_ok h
theorem st_chain {op op' : CmpOp} {f f' : D → D → Sto → Option (D × Sto)} (ho : OpR X (compareOp op) (r2 g f)) (ho' : OpR X (compareOp op') (r2 g f')) (ha : PE X a (tE g Wx fa)) (hb : PE X b (tE g Wx fb)) (hc : PE X c (tE g Wx fc)) (hm : lastMarks [op, op'] [b, c] = false) :
    PT X (.Compare a [op, op'] [b, c] pos) (tT g Wx fun en st => asB (chainF f f' fa fb fc en st)) := (pt_chain ho ho' ha hb hc hm).lb fun σ H Q h => chain_ok (asB_test h)
/-- a list or tuple that may be read -/
def getL (st : Sto) : D → Option (List D)
  | .lst ds => some ds
  | .scr ns => some (ns.map D.int)
  | .ref n => match st.ob n with
    | some (.lst ds) => some ds
    | _ => none
  | _ => none
theorem getL_ok {g : Sg} {W : Wd} {st : Sto} {H : Hp} (S : Sim g W st H) {v : V} {d : D} {ds : List D} (r : Rep W v d) (h : getL st d = some ds) : ∃ a vs, v = .ref a ∧ SqL g.K H a vs ∧ Reps W vs ds := by
  cases r with
  | lst q r => simp only [getL] at h; cases h; exact ⟨_, _, rfl, S.sqL q, r⟩
  | scr q => simp only [getL] at h; cases h; exact ⟨_, _, rfl, S.sqS q, Reps.ofInts _⟩
  | @ref a n e =>
    simp only [getL] at h
    split at h
    · rename_i ds' q
      cases h
      obtain ⟨a', e', vs, hv, r⟩ := S.ob n _ q
      rw [e] at e'; cases e'
      exact ⟨a, vs, rfl, .of hv, r⟩
    · cases h
  | non => simp [getL] at h
  | bl b => simp [getL] at h
  | int i => simp [getL] at h
  | str x => simp [getL] at h
  | tup _ _ => simp [getL] at h
  | exc0 _ => simp [getL] at h
  | exc _ _ _ _ => simp [getL] at h
  | dct _ _ _ => simp [getL] at h
  | fn _ => simp [getL] at h
  | kdc _ _ _ => simp [getL] at h
/-- .. that is no script -/
def getM (st : Sto) : D → Option (List D)
  | .lst ds => some ds
  | .ref n => match st.ob n with
    | some (.lst ds) => some ds
    | _ => none
  | _ => none
theorem getM_ok {g : Sg} {W : Wd} {st : Sto} {H : Hp} (S : Sim g W st H) {v : V} {d : D} {ds : List D} (r : Rep W v d) (h : getM st d = some ds) : ∃ a vs, v = .ref a ∧ H a = some (.lst vs) ∧ Reps W vs ds := by
  cases r with
  | lst q r => simp only [getM] at h; cases h; exact ⟨_, _, rfl, (S.fz _ _ q).1, r⟩
  | @ref a n e =>
    simp only [getM] at h
    split at h
    · rename_i ds' q
      cases h
      obtain ⟨a', e', vs, hv, r⟩ := S.ob n _ q
      rw [e] at e'; cases e'
      exact ⟨a, vs, rfl, hv, r⟩
    · cases h
  | non => simp [getM] at h
  | bl b => simp [getM] at h
  | int i => simp [getM] at h
  | str x => simp [getM] at h
  | tup _ _ => simp [getM] at h
  | scr _ => simp [getM] at h
  | exc0 _ => simp [getM] at h
  | exc _ _ _ _ => simp [getM] at h
  | dct _ _ _ => simp [getM] at h
  | fn _ => simp [getM] at h
  | kdc _ _ _ => simp [getM] at h
def getT : D → Option (List D)
  | .tup ds => some ds
  | _ => none
theorem getT_ok {g : Sg} {W : Wd} {st : Sto} {H : Hp} (S : Sim g W st H) {v : V} {d : D} {ds : List D} (r : Rep W v d) (h : getT d = some ds) : ∃ a vs, v = .ref a ∧ SqT g.K H a vs ∧ Reps W vs ds := by
  cases r <;> simp [getT] at h
  rename_i a vs ds' q r
  subst h
  exact ⟨a, vs, rfl, S.tu _ _ q, r⟩
/-- a new list: left to last, or numbered -/
def mkL (fz : Bool) (ds : List D) (st : Sto) : D × Sto := match fz with
  | true => (.lst ds, st)
  | false => (.ref st.nx, st.new (.lst ds))
theorem mkL_ok {g : Sg} {W : Wd} {st : Sto} {H : Hp} {p : Addr} {vs : List V} {ds : List D} (S : Sim g W st H) (hp : H p = none) (r : Reps W vs ds) : ∀ fz : Bool,
    ∃ W', W.Le W' ∧ Sim g W' (mkL fz ds st).2 (upd H p (.lst vs)) ∧ Rep W' (.ref p) (mkL fz ds st).1
  | true => ⟨W.addL p vs, W.addL_le p vs, S.newL hp, .lst (.inr ⟨rfl, rfl⟩) (r.mono (W.addL_le p vs))⟩
  | false => ⟨W.addO st.nx p, S.addO_le, S.newO hp ⟨vs, upd_same, r.mono S.addO_le⟩, .ref (if_pos rfl)⟩
theorem mkT_ok {g : Sg} {W : Wd} {st : Sto} {H : Hp} {p : Addr} {vs : List V} {ds : List D} (S : Sim g W st H) (hp : H p = none) (r : Reps W vs ds) :
    ∃ W', W.Le W' ∧ Sim g W' st (upd H p (.tup vs)) ∧ Rep W' (.ref p) (.tup ds) := ⟨W.addT p vs, W.addT_le p vs, S.newT hp, .tup (.inr ⟨rfl, rfl⟩) (r.mono (W.addT_le p vs))⟩
end
/-- what comes out may be locked -/
theorem _root_.L2.PE.lockV {X : Cx} {e : Expr} {t : TE} (h : PE X e t) : PE X e fun σ H Q => t σ H fun v H1 => Q v H1 ∨ ∃ a u, v = .ref a ∧ H1 a = some u ∧ Mut (some u) ∧ ∀ od, Q v (upd H1 a (.frz od u)) :=
  ⟨fun pins s σ H Q I hw => thn (h.run pins s σ H _ I hw) fun v s1 ⟨x, H1, I1, r, q⟩ => q.elim (fun q => ⟨x, H1, I1, r, q⟩) fun ⟨a, u, ex, ha, mu, q⟩ => let ⟨od, I2⟩ := I1.lock ha mu; ⟨x, _, I2, r, q od⟩⟩
theorem _root_.L2.PSs.lockV {X : Cx} {es : List Stmt} {t : TS} (h : PSs X es t) : PSs X es fun D σ H => t D σ H ∨ ∃ a u, H a = some u ∧ Mut (some u) ∧ ∀ od, t D σ (upd H a (.frz od u)) :=
  ⟨fun pins s σ H D I hw => hw.elim (h.run pins s σ H D I) fun ⟨a, u, ha, mu, q⟩ => let ⟨od, I2⟩ := I.lock ha mu; h.run pins s σ _ D I2 (q od)⟩
end LB
end

section
set_option Elab.async false
set_option linter.all false
set_option maxRecDepth 100000
set_option maxHeartbeats 4000000
/-! Operators on data. -/
namespace LB
open PySem PySem.Spec PyProof.Rows L2

/-- tests of whole numbers that a kernel may look at -/
def leI : Int → Int → Bool
  | .ofNat a, .ofNat b => Nat.ble a b
  | .negSucc _, .ofNat _ => true
  | .ofNat _, .negSucc _ => false
  | .negSucc a, .negSucc b => Nat.ble b a
def ltB (a b : Int) : Bool := !leI b a
theorem leI_eq : ∀ a b : Int, leI a b = decide (a ≤ b)
  | .ofNat a, .ofNat b => by
    show Nat.ble a b = _
    rw [Bool.eq_iff_iff, Nat.ble_eq, decide_eq_true_eq]
    show a ≤ b ↔ (a : Int) ≤ (b : Int)
    omega
  | .negSucc a, .ofNat b => by
    show true = _
    rw [Bool.eq_iff_iff, decide_eq_true_eq]
    exact ⟨fun _ => by show Int.negSucc a ≤ (b : Int); omega, fun _ => rfl⟩
  | .ofNat a, .negSucc b => by
    show false = _
    rw [Bool.eq_iff_iff, decide_eq_true_eq]
    exact ⟨fun h => (nomatch h), fun h => absurd (show (a : Int) ≤ Int.negSucc b from h) (by omega)⟩
  | .negSucc a, .negSucc b => by
    show Nat.ble b a = _
    rw [Bool.eq_iff_iff, Nat.ble_eq, decide_eq_true_eq]
    omega
theorem ltB_eq (a b : Int) : ltB a b = decide (a < b) := by
  unfold ltB
  rw [leI_eq, Bool.eq_iff_iff, Bool.not_eq_true', decide_eq_false_iff_not, decide_eq_true_eq]
  omega
abbrev F2 := D → D → Sto → Option (D × Sto)
def same (st : Sto) (o : Option D) : Option (D × Sto) := o.map fun d => (d, st)
def cat (fz : Bool) : F2 := fun a b st => match a, b with
  | .int i, .int j => some (.int (i + j), st)
  | .str x, .str y => if x.length + y.length ≤ sizeLine then some (.str (x ++ y), st) else none
  | .tup xs, .tup ys => if xs.length + ys.length ≤ sizeLine then some (.tup (xs ++ ys), st) else none
  | a, b => match getL st a, getL st b with
    | some xs, some ys => if xs.length + ys.length ≤ sizeLine then some (mkL fz (xs ++ ys) st) else none
    | _, _ => none
def sub : F2 := fun a b st => match a, b with
  | .int i, .int j => some (.int (i - j), st)
  | _, _ => none
def mulOk (i j : Int) : Bool := decide (i.natAbs.log2 + j.natAbs.log2 < 1000000) || decide (j.natAbs < 2 ^ 60)
/-- a text so many times -/
def repS (x : Str) (n : Nat) : Str := ⟨(List.replicate n x.cps.toList).flatten.toArray⟩
def mul (fz : Bool) : F2 := fun a b st => match a, b with
  | .int i, .int j => if mulOk i j then some (.int (i * j), st) else none
  | .str x, .int k => if leI 0 k && leI k 1000 && decide (x.length ≤ 1000) then some (.str (repS x k.toNat), st) else none
  | .tup xs, .int k => if !xs.isEmpty && leI 2 k && leI k 1000 && decide (xs.length ≤ 1000) then some (.tup (List.replicate k.toNat xs).flatten, st) else if !xs.isEmpty && decide (k = 0) then some (.tup [], st) else none
  | a, .int k => match getM st a with
    | some xs => if leI (-9223372036854775808) k && ltB k 9223372036854775808 && decide (xs.length * k.toNat ≤ sizeLine) then some (mkL fz (List.replicate k.toNat xs).flatten st) else none
    | none => none
  | _, _ => none
def fdivOk (j : Int) : Bool := ltB 0 j && decide (j.natAbs.log2 < 9000)
def fdiv : F2 := fun a b st => match a, b with
  | .int i, .int j => if fdivOk j then some (.int (i / j), st) else none
  | _, _ => none
def mod : F2 := fun a b st => match a, b with
  | .int i, .int j => if ltB 0 j then some (.int (i % j), st) else none
  | _, _ => none
def powOk (i j : Int) : Bool := leI 0 j && leI j 1000000 && decide (i.natAbs < 2 ^ 64)
def pow : F2 := fun a b st => match a, b with
  | .int i, .int j => if powOk i j then some (.int (i ^ j.toNat), st) else none
  | _, _ => none
def shl : F2 := fun a b st => match a, b with
  | .int i, .int j => if powOk i j then some (.int (i * 2 ^ j.toNat), st) else none
  | _, _ => none
def shr : F2 := fun a b st => match a, b with
  | .int i, .int j => if leI 0 j then some (.int (i / 2 ^ j.toNat), st) else none
  | _, _ => none
def band : F2 := fun a b st => match a, b with
  | .int i, .int j => some (.int (Builtin.bitAnd i j), st)
  | _, _ => none
def bor : F2 := fun a b st => match a, b with
  | .int i, .int j => some (.int (Builtin.bitOr i j), st)
  | _, _ => none
inductive BO where
  | add | sub | mul | fdiv | mod | pow | shl | shr | band | bor
def BO.op : BO → Operator
  | .add => .Add | .sub => .Sub | .mul => .Mult | .fdiv => .FloorDiv | .mod => .Mod | .pow => .Pow | .shl => .LShift | .shr => .RShift | .band => .BitAnd | .bor => .BitOr
def BO.f (fz : Bool) : BO → F2
  | .add => cat fz | .sub => LB.sub | .mul => LB.mul fz | .fdiv => LB.fdiv | .mod => LB.mod | .pow => LB.pow | .shl => LB.shl | .shr => LB.shr | .band => LB.band | .bor => LB.bor

section
variable {X : Cx} {g : Sg}
theorem r2_int {f : Value → Value → Sem Value} {F : F2} {C : Int → Int → Prop} {G : Int → Int → D} {GV : Int → Int → V} (ho : OpR X f (rI C GV))
    (hF : ∀ a b st r, F a b st = some r → ∃ i j, a = .int i ∧ b = .int j ∧ C i j ∧ r = (G i j, st)) (hG : ∀ W i j, Rep W (GV i j) (G i j)) : OpR X f (r2 g F) := by
  intro pins s σ H x y v u Q I rx ry ⟨W, st, d, e, S, r1, r2, p⟩
  cases q : F d e st with
  | none => rw [q] at p; exact False.elim p
  | some r =>
    rw [q] at p
    obtain ⟨i, j, rfl, rfl, c, rfl⟩ := hF d e st r q
    cases r1; cases r2
    exact ho pins s σ H _ _ v u Q I rx ry ⟨i, j, rfl, rfl, c, p W _ H (.refl W) S (hG W i j)⟩
theorem rI0_rI {f : Value → Value → Sem Value} {GV : Int → Int → V} (ho : OpR X f (rI0 GV)) : OpR X f (rI (fun _ _ => True) GV) :=
  fun pins s σ H x y v u Q I rx ry ⟨i, j, e1, e2, _, q⟩ => ho pins s σ H x y v u Q I rx ry ⟨i, j, e1, e2, q⟩
theorem op_sub' : OpR X (binaryOp .Sub) (r2 g LB.sub) := r2_int (G := fun i j => .int (i - j)) (rI0_rI op_sub) (fun a b st r h => by
  unfold LB.sub at h; split at h <;> cases h; exact ⟨_, _, rfl, rfl, trivial, rfl⟩) fun W i j => .int _
theorem op_fdiv' : OpR X (binaryOp .FloorDiv) (r2 g LB.fdiv) := r2_int (G := fun i j => .int (i / j)) op_fdivW (fun a b st r h => by
  unfold LB.fdiv at h; split at h
  · split at h <;> cases h
    rename_i c
    simp only [fdivOk, ltB_eq, leI_eq, Bool.and_eq_true, decide_eq_true_eq] at c
    exact ⟨_, _, rfl, rfl, c, rfl⟩
  · cases h) fun W i j => .int _
theorem op_mod' : OpR X (binaryOp .Mod) (r2 g LB.mod) := r2_int (G := fun i j => .int (i % j)) op_mod (fun a b st r h => by
  unfold LB.mod at h; split at h
  · split at h <;> cases h
    rename_i c
    exact ⟨_, _, rfl, rfl, of_decide_eq_true (by rw [← ltB_eq]; exact c), rfl⟩
  · cases h) fun W i j => .int _
theorem powOk_ok {i j : Int} (h : powOk i j = true) : CPow i j := by
  simp only [powOk, ltB_eq, leI_eq, Bool.and_eq_true, decide_eq_true_eq] at h
  exact ⟨h.1.1, h.1.2, h.2⟩
theorem op_pow' : OpR X (binaryOp .Pow) (r2 g LB.pow) := r2_int (G := fun i j => .int (i ^ j.toNat)) op_pow (fun a b st r h => by
  unfold LB.pow at h; split at h
  · split at h <;> cases h
    rename_i c
    exact ⟨_, _, rfl, rfl, powOk_ok c, rfl⟩
  · cases h) fun W i j => .int _
theorem op_shl' : OpR X (binaryOp .LShift) (r2 g LB.shl) := r2_int (G := fun i j => .int (i * 2 ^ j.toNat)) op_shl (fun a b st r h => by
  unfold LB.shl at h; split at h
  · split at h <;> cases h
    rename_i c
    exact ⟨_, _, rfl, rfl, powOk_ok c, rfl⟩
  · cases h) fun W i j => .int _
theorem op_shr' : OpR X (binaryOp .RShift) (r2 g LB.shr) := r2_int (G := fun i j => .int (i / 2 ^ j.toNat)) op_shr (fun a b st r h => by
  unfold LB.shr at h; split at h
  · split at h <;> cases h
    rename_i c
    exact ⟨_, _, rfl, rfl, of_decide_eq_true (by rw [← leI_eq]; exact c), rfl⟩
  · cases h) fun W i j => .int _
theorem op_band' : OpR X (binaryOp .BitAnd) (r2 g LB.band) := r2_int (G := fun i j => .int (Builtin.bitAnd i j)) (rI0_rI op_and) (fun a b st r h => by
  unfold LB.band at h; split at h <;> cases h; exact ⟨_, _, rfl, rfl, trivial, rfl⟩) fun W i j => .int _
theorem op_bor' : OpR X (binaryOp .BitOr) (r2 g LB.bor) := r2_int (G := fun i j => .int (Builtin.bitOr i j)) (rI0_rI op_or) (fun a b st r h => by
  unfold LB.bor at h; split at h <;> cases h; exact ⟨_, _, rfl, rfl, trivial, rfl⟩) fun W i j => .int _
/-- list + list, whatever lists -/
theorem op_catQ : OpR X (binaryOp .Add) (fun x y H Q => ∃ l b xs zs, x = .ref l ∧ y = .ref b ∧ SqL X.K H l xs ∧ SqL X.K H b zs ∧ xs.length + zs.length ≤ sizeLine ∧ ∀ p, H p = none → Q (.ref p) (upd H p (.lst (xs ++ zs)))) := by
  intro pins s σ H x y v u Q I rx ry h
  obtain ⟨l, b, xs, zs, rfl, rfl, hH, hB, hz, q⟩ := h
  cases rx
  cases ry
  obtain ⟨its, r, ⟨⟨cls, dd, data, sl⟩, n, ho, hc, _, hd⟩, _⟩ := I.list hH
  obtain ⟨its2, r2, ⟨⟨cls2, dd2, data2, sl2⟩, n2, ho2, hc2, _, hd2⟩, _⟩ := I.list hB
  simp only at hc hd hc2 hd2
  subst hc hd hc2 hd2
  have l1 := r.length
  have l2 := r2.length
  refine PySem.concat_meets ⟨_, ho, rfl⟩ ⟨_, ho2, rfl⟩ PySem.noFill_list_add PySem.seq_list_add PySem.F.slot_list_add PySem.F.entry_list_add (PySem.F.args_list_add_2 _ _) (PyProof.Rows.list_addW l b its.toArray its2.toArray n n2 dd dd2 sl sl2 (by rw [List.size_toArray, List.size_toArray]; omega)) ⟨ho, ho2, ?_⟩
  have ea : its.toArray ++ its2.toArray = (its ++ its2).toArray := by simp
  rw [ea]
  exact ⟨.ref _, _, I.lnew (t' := s.toks) (r.append r2) (by rw [List.length_append]; omega), rfl, q _ I.fresh⟩
theorem op_cat' (fz : Bool) (hK : X.K = g.K) : OpR X (binaryOp .Add) (r2 g (cat fz)) := by
  intro pins s σ H x y v u Q I rx ry ⟨W, st, d, e, S, r1, r2, p⟩
  unfold cat at p
  split at p
  · cases r1; cases r2
    exact op_add pins s σ H _ _ v u Q I rx ry ⟨_, _, rfl, rfl, p W _ H (.refl W) S (.int _)⟩
  · split at p
    · rename_i c
      cases r1; cases r2
      exact op_add_str pins s σ H _ _ v u Q I rx ry ⟨_, _, rfl, rfl, c, p W _ H (.refl W) S (.str _)⟩
    · exact False.elim p
  · split at p
    · rename_i c
      obtain ⟨a, vs, rfl, ha, ra⟩ := getT_ok S r1 rfl
      obtain ⟨b, ws, rfl, hb, rb⟩ := getT_ok S r2 rfl
      have la := ra.length
      have lb := rb.length
      refine op_catA pins s σ H _ _ v u Q I rx ry ⟨a, b, vs, ws, rfl, rfl, hK ▸ ha, hK ▸ hb, by omega, ?_, ?_, ?_⟩
      · rintro rfl
        cases ra
        exact p W _ H (.refl W) S r2
      · rintro _ rfl
        cases rb
        rw [List.append_nil] at p
        exact p W _ H (.refl W) S r1
      · intro _ _ q hq
        obtain ⟨W', le, S', r'⟩ := mkT_ok S hq (ra.append rb)
        exact p W' _ _ le S' r'
    · exact False.elim p
  · split at p
    · rename_i xs ys q1 q2
      split at p
      · rename_i c
        obtain ⟨a, vs, rfl, ha, ra⟩ := getL_ok S r1 q1
        obtain ⟨b, ws, rfl, hb, rb⟩ := getL_ok S r2 q2
        have la := ra.length
        have lb := rb.length
        refine op_catQ pins s σ H _ _ v u Q I rx ry ⟨a, b, vs, ws, rfl, rfl, hK ▸ ha, hK ▸ hb, by omega, fun q hq => ?_⟩
        obtain ⟨W', le, S', r'⟩ := mkL_ok S hq (ra.append rb) fz
        exact p W' _ _ le S' r'
      · exact False.elim p
    · exact False.elim p
theorem rep_arr {α : Type} (a : Array α) : ∀ (m : Nat) (acc : Array α), (List.replicate m a).foldl (· ++ ·) acc = acc ++ (List.replicate m a.toList).flatten.toArray
  | 0, acc => by simp
  | m + 1, acc => by
    rw [List.replicate_succ, List.foldl_cons, rep_arr a m, List.replicate_succ, List.flatten_cons]
    apply Array.ext'
    simp
theorem op_mulS {pins : List (Addr × Obj)} {s : Shared} {σ : L2.St} {H : Hp} {v u : Value} {x : Str} {k : Int} {Q : VK} (I : Inv X pins σ H s) (rx : RelV (.str x) v) (ry : RelV (.int k) u) (h0 : 0 ≤ k) (h1 : k ≤ 1000) (h2 : x.length ≤ 1000) (q : Q (.str (repS x k.toNat)) H) :
    wpAny (model X.prog X.w) X.A (binaryOp .Mult v u) (EP X pins σ Q) X.xe s := by
  obtain ⟨t, rfl⟩ := rx
  obtain ⟨t2, rfl⟩ := ry
  have ml : x.length * k.toNat ≤ 1000 * 1000 := Nat.mul_le_mul h2 (by omega)
  refine P.mul_str ?_ (fun c1 c2 => ?_) (fun c1 c2 => ?_) ?_
  · rw [decide_eq_false (by omega), decide_eq_false (by omega)]; rfl
  · have : (1000 : Int) ≤ (2 ^ 63 - 1) / k := Int.le_ediv_of_mul_le (by omega) (by
      have : (1000 : Int) * k ≤ 1000 * 1000 := Int.mul_le_mul_of_nonneg_left h1 (by decide)
      omega)
    omega
  · unfold Builtin.Str.tooLong
    rw [sizeLine_eq]
    exact decide_eq_false (by omega)
  · have e0 : ∀ m, repS x m = ⟨(List.replicate m x.cps).foldl (· ++ ·) #[]⟩ := fun m => by
      unfold repS
      rw [rep_arr]
      simp
    split
    · have : k = 0 := by omega
      subst this
      exact ⟨by decide, .str _, H, I.tok _, ⟨_, rfl⟩, q⟩
    · split
      · rename_i c
        have e : repS x k.toNat = x := by
          have : k = 1 ∨ x.length = 0 := by simpa using c
          rcases this with rfl | z
          · unfold repS
            simp
          · have : x.cps = #[] := Array.eq_empty_of_size_eq_zero z
            unfold repS
            rw [this]
            cases x
            simp at this
            subst this
            simp
        rw [e] at q
        exact ⟨.str _, H, I, ⟨_, rfl⟩, q⟩
      · rw [e0] at q
        refine ⟨?_, .str _, H, I.tok _, ⟨_, rfl⟩, q⟩
        rw [← e0]
        have el : (repS x k.toNat).length = k.toNat * x.length := by
          show (repS x k.toNat).cps.size = _
          unfold repS
          simp
          rfl
        rw [el, sizeLine_eq, Nat.mul_comm]
        omega
theorem tup_mul0 (l : Addr) (its : Array Value) (n : Nat) (dd : Option Addr) (sl : Array (Option Value)) (u : Tok) (h1 : (its.isEmpty || (0 : Int) == 1) = false) :
    Meets (Builtin.«tuple.__mul__» ⟨[.ref l, .int 0 u], []⟩) (fun _ R s => s.heap.get? l = some { cls := .type "tuple", dict := dd, data := .seq its n, slots := sl } ∧ R (.ok (.ret (Value.ref s.heap.objs.size))) { s with heap := s.heap.push { cls := Value.type "tuple", data := Data.seq #[] }, toks := s.toks }) :=
  .of_wp fun prog w A R s h => by
    obtain ⟨hp, g, d, tk, os⟩ := s
    obtain ⟨hl, h⟩ := h
    have f1 := AutoSeq1.idx_int
    have h0 : (decide ((0 : Int) < -(2 ^ 63)) || decide ((0 : Int) ≥ 2 ^ 63)) = false := by decide
    have h2 : (decide ((0 : Int) ≤ 0) || its.isEmpty) = true := rfl
    wp_walk using wpAny_loadPart' hl
    repeat (first
      | (refine wpAny_ite_false (decide_eq_false (by rw [h0]; exact Bool.false_ne_true)) ?_; wp_walk using wpAny_loadPart' hl)
      | (refine wpAny_ite_false (decide_eq_false (by rw [h1]; exact Bool.false_ne_true)) ?_; wp_walk using wpAny_loadPart' hl)
      | (refine wpAny_ite_true (decide_eq_true h2) ?_; wp_walk using wpAny_loadPart' hl))
    exact ⟨_, rfl, h⟩
theorem op_mul0 {pins : List (Addr × Obj)} {s : Shared} {σ : L2.St} {H : Hp} {l : Addr} {v u : Value} {xs : List V} {Q : VK} (I : Inv X pins σ H s) (rx : RelV (.ref l) v) (ry : RelV (.int 0) u) (hT : SqT X.K H l xs) (hne : xs ≠ []) (q : ∀ p, H p = none → Q (.ref p) (upd H p (.tup []))) :
    wpAny (model X.prog X.w) X.A (binaryOp .Mult v u) (EP X pins σ Q) X.xe s := by
  cases rx
  obtain ⟨t, rfl⟩ := ry
  obtain ⟨its, r, ⟨⟨cls, dd, data, sl⟩, ho, hc, n, hd⟩, hs⟩ := I.tuple hT
  simp only at hc hd
  subst hc hd
  have hi : its.toArray.isEmpty = false := by
    cases its with
    | nil => cases r; exact absurd rfl hne
    | cons a b => rfl
  refine wpAny_binaryOp_repeat_ref (T := "tuple") (U := "int") (by decide) ⟨_, ho, rfl⟩ (fun s' => typeIs_int s' 0 t) noFill_tuple_mul F.fills_int_mul F.slot_int_rmul repeat_tuple F.slot_int_index.lookup
    (call_meets F.slot_int_rmul (typeIs_int s 0 t) F.entry_int_rmul (F.args_int_rmul_2 _ _) (int_rmul_tuple 0 t l its.toArray n dd sl) ⟨ho, rfl, ⟨_, ho, rfl⟩, call_meets F.slot_tuple_mul ⟨_, ho, rfl⟩ F.entry_tuple_mul (F.args_tuple_mul_2 _ _) (tup_mul0 l its.toArray n dd sl t (by rw [hi]; rfl)) ⟨ho, ?_⟩⟩)
  exact ⟨.ref s.heap.objs.size, _, I.laid (t' := s.toks) (o := .tup []) (fun b ob q => Heap.get?_push_of_some _ q) (Nat.le_refl _) ⟨Nat.zero_le _, [], .nil, IsTup.new _ _⟩, rfl, q _ (I.hok.fresh (Nat.le_refl _))⟩
theorem op_mul' (fz : Bool) (hK : X.K = g.K) : OpR X (binaryOp .Mult) (r2 g (mul fz)) := by
  intro pins s σ H x y v u Q I rx ry ⟨W, st, d, e, S, r1, r2, p⟩
  unfold mul at p
  split at p
  · split at p
    · rename_i c
      cases r1; cases r2
      simp only [mulOk, Bool.or_eq_true, decide_eq_true_eq] at c
      rcases c with c | c
      · exact op_mulW pins s σ H _ _ v u Q I rx ry ⟨_, _, rfl, rfl, (show CMulW _ _ by simpa [CMulW] using c), p W _ H (.refl W) S (.int _)⟩
      · exact op_mul pins s σ H _ _ v u Q I rx ry ⟨_, _, rfl, rfl, .inr (by omega), p W _ H (.refl W) S (.int _)⟩
    · exact False.elim p
  · split at p
    · rename_i c
      simp only [leI_eq, Bool.and_eq_true, decide_eq_true_eq] at c
      cases r1; cases r2
      exact op_mulS I rx ry c.1.1 c.1.2 c.2 (p W _ H (.refl W) S (.str _))
    · exact False.elim p
  · split at p
    · rename_i c
      simp only [leI_eq, ltB_eq, Bool.and_eq_true, decide_eq_true_eq, Bool.not_eq_true'] at c
      obtain ⟨a, vs, rfl, ha, ra⟩ := getT_ok S r1 rfl
      cases r2
      have la := ra.length
      refine op_repT pins s σ H _ _ v u Q I rx ry ⟨a, _, vs, rfl, rfl, hK ▸ ha, ?_, c.1.1.2, c.1.2, by omega, fun q hq => ?_⟩
      · rintro rfl
        cases ra
        simp at c
      · obtain ⟨W', le, S', r'⟩ := mkT_ok S hq (ra.flat _)
        exact p W' _ _ le S' r'
    · split at p
      · rename_i _ c
        simp only [Bool.and_eq_true, decide_eq_true_eq, Bool.not_eq_true'] at c
        obtain ⟨c1, rfl⟩ := c
        obtain ⟨a, vs, rfl, ha, ra⟩ := getT_ok S r1 rfl
        cases r2
        refine op_mul0 I rx ry (hK ▸ ha) (fun e => ?_) fun q hq => ?_
        · subst e; cases ra; cases c1
        · obtain ⟨W', le, S', r'⟩ := mkT_ok (vs := []) (ds := []) S hq .nil
          exact p W' _ _ le S' r'
      · exact False.elim p
  · split at p
    · rename_i xs q1
      split at p
      · rename_i c
        simp only [leI_eq, ltB_eq, Bool.and_eq_true, decide_eq_true_eq] at c
        obtain ⟨a, vs, rfl, ha, ra⟩ := getM_ok S r1 q1
        cases r2
        have la := ra.length
        refine op_rep pins s σ H _ _ v u Q I rx ry ⟨a, _, vs, rfl, rfl, ha, c.1.1, c.1.2, by rw [la]; exact c.2, fun q hq => ?_⟩
        obtain ⟨W', le, S', r'⟩ := mkL_ok S hq (ra.flat _) fz
        exact p W' _ _ le S' r'
      · exact False.elim p
    · exact False.elim p
  · exact False.elim p
theorem BO.ok (fz : Bool) (hK : X.K = g.K) : ∀ b : BO, OpR X (binaryOp b.op) (r2 g (b.f fz))
  | .add => op_cat' fz hK
  | .sub => op_sub'
  | .mul => op_mul' fz hK
  | .fdiv => op_fdiv'
  | .mod => op_mod'
  | .pow => op_pow'
  | .shl => op_shl'
  | .shr => op_shr'
  | .band => op_band'
  | .bor => op_bor'
end
end LB
end

section
set_option Elab.async false
set_option linter.all false
set_option maxRecDepth 100000
set_option maxHeartbeats 4000000
/-! Comparing, membership, places, slices, truth. -/
namespace LB
open PySem PySem.Spec PyProof.Rows L2

mutual
def pyD : D → Option PyData
  | .non => some .none
  | .bl b => some (.bool b)
  | .int i => some (.int i)
  | .str x => some (.str x)
  | .tup ds => (pyDs ds).map .tuple
  | .lst ds => (pyDs ds).map .list
  | .scr ns => some (.list (ns.map .int))
  | .ref _ => none
  | .exc _ _ _ => none
  | .dct _ _ => none
  | .fn _ => none
  | .kdc _ _ => none
def pyDs : List D → Option (List PyData)
  | [] => some []
  | d :: ds => match pyD d, pyDs ds with
    | some x, some xs => some (x :: xs)
    | _, _ => none
end
def pyT (st : Sto) : D → Option PyData
  | .ref n => match st.ob n with
    | some (.lst ds) => (pyDs ds).map .list
    | _ => none
  | d => pyD d
section
variable {g : Sg} {W : Wd} {st : Sto} {H : Hp}
theorem dp_ints : ∀ ns : List Int, DpAll g.K H (ns.map V.int) (ns.map PyData.int)
  | [] => .nil
  | n :: ns => .cons (.int n) (dp_ints ns)
mutual
theorem dp_of (S : Sim g W st H) : ∀ {v : V} {d : D} {x : PyData}, Rep W v d → pyD d = some x → Dp g.K H v x
  | _, _, _, .non, h => by simp only [pyD] at h; cases h; exact .non
  | _, _, _, .bl b, h => by simp only [pyD] at h; cases h; exact .bl b
  | _, _, _, .int i, h => by simp only [pyD] at h; cases h; exact .int i
  | _, _, _, .str x, h => by simp only [pyD] at h; cases h; exact .str x
  | _, _, _, .tup (ds := ds) q r, h => by
    simp only [pyD] at h
    cases e : pyDs ds with
    | none => rw [e] at h; cases h
    | some xs => rw [e] at h; cases h; exact .tup (S.tu _ _ q) (dp_ofs S r e)
  | _, _, _, .lst (ds := ds) q r, h => by
    simp only [pyD] at h
    cases e : pyDs ds with
    | none => rw [e] at h; cases h
    | some xs => rw [e] at h; cases h; exact .lst (S.sqL q) (dp_ofs S r e)
  | _, _, _, .scr q, h => by simp only [pyD] at h; cases h; exact .lst (S.sqS q) (dp_ints _)
  | _, _, _, .ref _, h => by simp only [pyD] at h; cases h
  | _, _, _, .exc0 _, h => by simp only [pyD] at h; cases h
  | _, _, _, .exc _ _ _ _, h => by simp only [pyD] at h; cases h
  | _, _, _, .dct _ _ _, h => by simp only [pyD] at h; cases h
  | _, _, _, .fn _, h => by simp only [pyD] at h; cases h
  | _, _, _, .kdc _ _ _, h => by simp only [pyD] at h; cases h
theorem dp_ofs (S : Sim g W st H) : ∀ {vs : List V} {ds : List D} {xs : List PyData}, Reps W vs ds → pyDs ds = some xs → DpAll g.K H vs xs
  | _, _, _, .nil, h => by simp only [pyDs] at h; cases h; exact .nil
  | _, _, _, .cons (d := d) (ds := ds) r t, h => by
    simp only [pyDs] at h
    cases e1 : pyD d with
    | none => rw [e1] at h; cases h
    | some x =>
      cases e2 : pyDs ds with
      | none => rw [e1, e2] at h; cases h
      | some xs => rw [e1, e2] at h; cases h; exact .cons (dp_of S r e1) (dp_ofs S t e2)
end
theorem dpT_of (S : Sim g W st H) {v : V} {d : D} {x : PyData} (r : Rep W v d) (h : pyT st d = some x) : Dp g.K H v x := by
  cases r with
  | @ref a n e =>
    simp only [pyT] at h
    split at h
    · rename_i ds q
      obtain ⟨a', e', vs, hv, r⟩ := S.ob n _ q
      rw [e] at e'; cases e'
      cases e2 : pyDs ds with
      | none => rw [e2] at h; cases h
      | some xs => rw [e2] at h; cases h; exact .lst (.of hv) (dp_ofs S r e2)
    · cases h
  | non => exact dp_of S .non h
  | bl b => exact dp_of S (.bl b) h
  | int i => exact dp_of S (.int i) h
  | str x => exact dp_of S (.str x) h
  | tup q r => exact dp_of S (.tup q r) h
  | lst q r => exact dp_of S (.lst q r) h
  | scr q => exact dp_of S (.scr q) h
  | exc0 q => simp [pyT, pyD] at h
  | exc _ _ _ _ => simp [pyT, pyD] at h
  | dct _ _ _ => simp [pyT, pyD] at h
  | fn _ => simp [pyT, pyD] at h
  | kdc _ _ _ => simp [pyT, pyD] at h
end

/-! dicts -/
def keyD : D → Option Key
  | .int i => some (.inl i)
  | .str x => some (.inr x)
  | _ => none
def dGet : List Key → List D → Key → Option D
  | k' :: ks, d :: ds, k => if k' = k then some d else dGet ks ds k
  | _, _, _ => none
def hasK : List Key → Key → Bool
  | [], _ => false
  | k' :: ks, k => if k' = k then true else hasK ks k
def putKs (ks : List Key) (k : Key) : List Key := if hasK ks k then ks else ks ++ [k]
def setDs : List Key → List D → Key → D → List D
  | k' :: ks, d :: ds, k, v => (if k' = k then v else d) :: setDs ks ds k v
  | _, _, _, _ => []
def putDs (ks : List Key) (ds : List D) (k : Key) (v : D) : List D := if hasK ks k then setDs ks ds k v else ds ++ [v]
section
variable {g : Sg} {W : Wd} {st : Sto} {H : Hp}
theorem keyD_ok {v : V} {d : D} {k : Key} (r : Rep W v d) (h : keyD d = some k) : v = kV k := by
  cases r <;> first | (simp only [keyD] at h; cases h; rfl) | (simp [keyD] at h)
theorem dGet_ok : ∀ {ks : List Key} {vs : List V} {ds : List D} {k : Key} {d : D}, ks.length = vs.length → Reps W vs ds → dGet ks ds k = some d → ∃ v, valV (ks.zip vs) k = some v ∧ Rep W v d
  | [], _, _, _, _, _, _, h => by simp [dGet] at h
  | _ :: _, _, _, _, _, _, .nil, h => by simp [dGet] at h
  | k' :: ks, _, _, k, d, l, .cons r t, h => by
    simp only [dGet] at h
    rw [List.zip_cons_cons]
    split at h
    · rename_i e
      cases h
      exact ⟨_, valV_pos e, r⟩
    · rename_i e
      obtain ⟨v, h1, h2⟩ := dGet_ok (by simpa using l) t h
      exact ⟨v, by rw [valV_neg e]; exact h1, h2⟩
theorem valV_in : ∀ {ks : List Key} {vs : List V} (k : Key), ks.length = vs.length → (valV (ks.zip vs) k).isSome = hasK ks k
  | [], _, k, _ => rfl
  | _ :: _, [], k, l => by simp at l
  | k' :: ks, v :: vs, k, l => by
    rw [List.zip_cons_cons]
    by_cases e : k' = k
    · rw [valV_pos e, hasK, if_pos e]; rfl
    · rw [valV_neg e, valV_in k (by simpa using l), hasK, if_neg e]
theorem setDs_ok {k : Key} {v : V} {d : D} (r : Rep W v d) : ∀ {ks : List Key} {vs : List V} {ds : List D}, ks.length = vs.length → Reps W vs ds → ∃ us, (ks.zip vs).map (fun kv => if kv.1 = k then (kv.1, v) else kv) = ks.zip us ∧ ks.length = us.length ∧ Reps W us (setDs ks ds k d)
  | [], [], _, _, .nil => ⟨[], rfl, rfl, .nil⟩
  | [], _ :: _, _, l, _ => by simp at l
  | _ :: _, [], _, l, _ => by simp at l
  | k' :: ks, _, _, l, .cons r1 t => by
    obtain ⟨us, e1, e2, e3⟩ := setDs_ok (k := k) r (by simpa using l) t
    by_cases e : k' = k
    · refine ⟨v :: us, ?_, by simp [e2], by simp only [setDs, if_pos e]; exact .cons r e3⟩
      rw [List.zip_cons_cons, List.map_cons, if_pos e, e1]; rfl
    · refine ⟨_ :: us, ?_, by simp [e2], by simp only [setDs, if_neg e]; exact .cons r1 e3⟩
      rw [List.zip_cons_cons, List.map_cons, if_neg e, e1]; rfl
theorem put_ok {ks : List Key} {vs : List V} {ds : List D} {k : Key} {v : V} {d : D} (l : ks.length = vs.length) (t : Reps W vs ds) (r : Rep W v d) : ∃ us, putK (ks.zip vs) k v = (putKs ks k).zip us ∧ (putKs ks k).length = us.length ∧ Reps W us (putDs ks ds k d) := by
  have a : ((ks.zip vs).any fun kv => decide (kv.1 = k)) = hasK ks k := by rw [valV_any, valV_in k l]
  unfold putK putKs putDs
  rw [a]
  cases e : hasK ks k
  case true =>
    simp only [if_true]
    exact setDs_ok r l t
  case false =>
    simp only [Bool.false_eq_true, if_false]
    refine ⟨vs ++ [v], ?_, by simp [l], t.append (.cons r .nil)⟩
    rw [List.zip_append l]; rfl
/-- what a dict that may be read holds -/
theorem dGet_rd {H : Hp} {a : Addr} {kvs : List (Key × V)} {k : Key} (e : Rd H a (.dK kvs)) : DGet H a (kV k) (valV kvs k) := .inl ⟨kvs, k, e, rfl, rfl⟩
/-- a dict that may be read -/
def dctOf (st : Sto) : D → Option (List Key × List D)
  | .dct ks ds => some (ks, ds)
  | .ref n => match st.ob n with
    | some (.dct ks ds) => some (ks, ds)
    | _ => none
  | _ => none
theorem dctOf_ok (S : Sim g W st H) {v : V} {d : D} {ks : List Key} {ds : List D} (r : Rep W v d) (h : dctOf st d = some (ks, ds)) : ∃ a vs, v = .ref a ∧ Rd H a (.dK (ks.zip vs)) ∧ ks.length = vs.length ∧ Reps W vs ds := by
  cases r with
  | dct q l r => simp only [dctOf] at h; cases h; exact ⟨_, _, rfl, .inr ⟨_, (S.fz _ _ q).1⟩, l, r⟩
  | @ref a n e =>
    simp only [dctOf] at h
    split at h
    · rename_i ks' ds' q
      cases h
      obtain ⟨a', e', vs, hv, l, r⟩ := S.ob n _ q
      rw [e] at e'; cases e'
      exact ⟨a, vs, rfl, .inl hv, l, r⟩
    · cases h
  | non => simp [dctOf] at h
  | bl b => simp [dctOf] at h
  | int i => simp [dctOf] at h
  | str x => simp [dctOf] at h
  | tup _ _ => simp [dctOf] at h
  | lst _ _ => simp [dctOf] at h
  | scr _ => simp [dctOf] at h
  | exc0 _ => simp [dctOf] at h
  | fn _ => simp [dctOf] at h
  | kdc _ _ _ => simp [dctOf] at h
  | exc _ _ _ _ => simp [dctOf] at h
end
/-- == -/
def eqD (a b : D) (st : Sto) : Option Bool := match a, b with
  | .int i, .int j => some (decide (i = j))
  | .str x, .str y => some (decide (x = y))
  | a, b => match pyT st a, pyT st b with
    | some x, some y => if SeqAt.shaped x && SeqAt.shaped y then some (PyData.eqv x y) else none
    | _, _ => none
/-- equal: data, or lists of anything of unlike lengths -/
def eqG (a b : D) (st : Sto) : Option Bool := match eqD a b st with
  | some k => some k
  | none => match getL st a, getL st b with
    | some xs, some ys => if xs.length = ys.length then none else some false
    | _, _ => none
def eqF : F2 := fun a b st => (eqG a b st).map fun k => (.bl k, st)
def neF : F2 := fun a b st => (eqD a b st).map fun k => (.bl (!k), st)
def ltI (p : Int → Int → Bool) : F2 := fun a b st => match a, b with
  | .int i, .int j => some (.bl (p i j), st)
  | _, _ => none
def flatD : D → Bool
  | .non => true
  | .bl _ => true
  | .int _ => true
  | .str _ => true
  | _ => false
def eqFl : D → D → Bool
  | .non, .non => true
  | .bl a, .bl b => a == b
  | .bl a, .int b => (if a then 1 else 0) == b
  | .int a, .bl b => a == (if b then 1 else 0)
  | .int a, .int b => a == b
  | .str a, .str b => a == b
  | _, _ => false
def seqOf (st : Sto) (d : D) : Option (List D) := match getT d with
  | some ds => some ds
  | none => getL st d
/-- the keys of the written dicts are written texts -/
def Lit (X : Cx) (g : Sg) : Prop := ∀ (i : Nat) (a : Addr) (es : Array DictEntry) (n : Nat), g.cv (200000 + i) = .ref a → g.K.lookup a = some ⟨.type "dict", none, .dict es n, #[]⟩ → PySem.W.KeysLit X.w.params es.toList
theorem look_str {W : Wd} : ∀ {ns : List Str} {vs : List V} {ds : List D} {f : Str} {d : D}, ns.length = vs.length → Reps W vs ds → (ns.zip ds).lookup f = some d → ∃ v, (ns.zip vs).lookup f = some v ∧ Rep W v d
  | [], _, _, _, _, _, _, h => by simp at h
  | _ :: _, _, _, _, _, _, .nil, h => by simp at h
  | n :: ns, _, _, f, d, l, .cons r t, h => by
    rw [List.zip_cons_cons, List.lookup_cons] at h
    rw [List.zip_cons_cons, List.lookup_cons]
    by_cases e : f == n
    · simp only [e] at h ⊢; cases h; exact ⟨_, rfl, r⟩
    · simp only [e] at h ⊢; exact look_str (by simpa using l) t h
theorem look_has : ∀ {ns : List Str} {vs : List V} {x : Str}, ns.length = vs.length → ((ns.zip vs).lookup x).isSome = ns.contains x
  | [], _, _, _ => rfl
  | _ :: _, [], _, l => by simp at l
  | n :: ns, v :: vs, x, l => by
    rw [List.zip_cons_cons, List.lookup_cons, List.contains_cons]
    by_cases e : x == n
    · simp [e]
    · simp only [e, Bool.false_or]; exact look_has (by simpa using l)
def inD (x : D) (y : D) (st : Sto) : Option Bool := match x, y with
  | .str x, .str z => match x.cps.toList with
    | [c] => some (decide (c ∈ z.cps.toList))
    | _ => none
  | x, .dct ks _ => (keyD x).map fun k => hasK ks k
  | x, .kdc ks _ => match x with
    | .str z => some (ks.contains z)
    | _ => none
  | x, y => match dctOf st y with
  | some (ks, _) => (keyD x).map fun k => hasK ks k
  | none => match seqOf st y with
    | some ds => if flatD x && ds.all flatD then some (ds.any fun z => eqFl z x) else
        match getL st y, pyT st x, pyT st y with
        | some _, some d, some (.list es) => if SeqAt.shaped d && SeqAt.shaped (.list es) then some (es.any fun z => PyData.eqv z d) else none
        | _, _, _ => none
    | none => none
def inF : F2 := fun a b st => (inD a b st).map fun k => (.bl k, st)
def ninF : F2 := fun a b st => (inD a b st).map fun k => (.bl (!k), st)
def isNon : D → Bool
  | .non => true
  | _ => false
def isD (a b : D) : Option Bool := match a, b with
  | a, .non => some (isNon a)
  | .bl x, .bl y => some (decide (x = y))
  | _, _ => none
def isF : F2 := fun a b st => (isD a b).map fun k => (.bl k, st)
def isnF : F2 := fun a b st => (isD a b).map fun k => (.bl (!k), st)
/-- less: whole numbers, texts, tuples of like things -/
def ltG (a b : D) (st : Sto) : Option Bool := match a, b with
  | .int i, .int j => some (ltB i j)
  | .str x, .str y => some (decide (x.cps.toList < y.cps.toList))
  | .tup xs, .tup ys => match pyD (.tup xs), pyD (.tup ys) with
    | some p, some q => if PySem.W.alike p q && decide (p.depth ≤ 8) then some (PySem.W.dataLt p q) else none
    | _, _ => none
  | _, _ => none
def leG (a b : D) (st : Sto) : Option Bool := match a, b with
  | .int i, .int j => some (leI i j)
  | .str x, .str y => some (!decide (y.cps.toList < x.cps.toList))
  | _, _ => none
def gtG (a b : D) (st : Sto) : Option Bool := match a, b with
  | .int i, .int j => some (ltB j i)
  | .str x, .str y => some (decide (y.cps.toList < x.cps.toList))
  | _, _ => none
def geG (a b : D) (st : Sto) : Option Bool := match a, b with
  | .int i, .int j => some (leI j i)
  | .str x, .str y => some (!decide (x.cps.toList < y.cps.toList))
  | _, _ => none
def bF (f : D → D → Sto → Option Bool) : F2 := fun a b st => (f a b st).map fun k => (.bl k, st)
inductive CO where
  | eq | ne | lt | le | gt | ge | in_ | nin | is_ | isn
def CO.op : CO → CmpOp
  | .eq => .Eq | .ne => .NotEq | .lt => .Lt | .le => .LtE | .gt => .Gt | .ge => .GtE | .in_ => .In | .nin => .NotIn | .is_ => .Is | .isn => .IsNot
def CO.f : CO → F2
  | .eq => eqF | .ne => neF | .lt => bF ltG | .le => bF leG | .gt => bF gtG | .ge => bF geG
  | .in_ => inF | .nin => ninF | .is_ => isF | .isn => isnF

section
variable {X : Cx} {g : Sg}
theorem r2_bool {f : Value → Value → Sem Value} {F : D → D → Sto → Option Bool} {sg : Bool → Bool}
    (ho : ∀ (pins : List (Addr × Obj)) (s : Shared) (σ : L2.St) (H : Hp) (x y : V) (v u : Value) (Q : VK) (W : Wd) (st : Sto) (d e : D) (k : Bool), Inv X pins σ H s → RelV x v → RelV y u → Sim g W st H → Rep W x d → Rep W y e → F d e st = some k → Q (.bl (sg k)) H →
      wpAny (model X.prog X.w) X.A (f v u) (EP X pins σ Q) X.xe s) : OpR X f (r2 g fun a b st => (F a b st).map fun k => (.bl (sg k), st)) := by
  intro pins s σ H x y v u Q I rx ry ⟨W, st, d, e, S, r1, r2, p⟩
  have p' : PostV g Q W ((F d e st).map fun k => (D.bl (sg k), st)) := p
  cases q : F d e st with
  | none => rw [q] at p'; exact False.elim p'
  | some k =>
    rw [q] at p'
    exact ho pins s σ H x y v u Q W st d e k I rx ry S r1 r2 q (p' W _ H (.refl W) S (.bl _))
theorem op_eq' (hK : X.K = g.K) (hu : X.A.units + 64 < cLine) : OpR X (compareOp .Eq) (r2 g eqF) := by
  refine r2_bool (sg := id) fun pins s σ H x y v u Q W st d e k I rx ry S r1 r2 h0 q => ?_
  unfold eqG at h0
  cases h : eqD d e st with
  | none =>
    rw [h] at h0
    cases e1 : getL st d with
    | none => simp only [e1] at h0; cases h0
    | some xs =>
      cases e2 : getL st e with
      | none => simp only [e1, e2] at h0; cases h0
      | some ys =>
        simp only [e1, e2] at h0
        split at h0
        · cases h0
        · rename_i nl
          cases h0
          obtain ⟨l1, vs1, rfl, hl1, rs1⟩ := getL_ok S r1 e1
          obtain ⟨l2, vs2, rfl, hl2, rs2⟩ := getL_ok S r2 e2
          obtain ⟨its1, rv1, pl1, _⟩ := I.list (hK ▸ hl1)
          obtain ⟨its2, rv2, pl2, _⟩ := I.list (hK ▸ hl2)
          cases rx; cases ry
          exact PySem.SeqAt.eq_list_lengthsAt (by simpa using pl1.isList) (by simpa using pl2.isList) (by
            have a1 := Vals.length rv1
            have a2 := Vals.length rv2
            have b1 := Reps.length rs1
            have b2 := Reps.length rs2
            simp only [List.size_toArray, bne_iff_ne, ne_eq]
            omega) (by omega) ⟨.bl false, H, I, rfl, q⟩
  | some k0 =>
  rw [h] at h0
  cases h0
  unfold eqD at h
  split at h
  · cases h; cases r1; cases r2
    exact op_eq pins s σ H _ _ v u Q I rx ry ⟨rfl, by simpa using q⟩
  · cases h; cases r1; cases r2
    exact op_eq pins s σ H _ _ v u Q I rx ry ⟨rfl, by simpa using q⟩
  · split at h
    · rename_i a b q1 q2
      split at h
      · rename_i c
        cases h
        simp only [Bool.and_eq_true] at c
        exact op_eqD hu pins s σ H x y v u Q I rx ry ⟨a, b, hK ▸ dpT_of S r1 q1, hK ▸ dpT_of S r2 q2, c.1, c.2, q⟩
      · cases h
    · cases h
theorem op_ne' (hK : X.K = g.K) (hu : X.A.units + 64 < cLine) : OpR X (compareOp .NotEq) (r2 g neF) := by
  refine r2_bool (sg := fun k => !k) fun pins s σ H x y v u Q W st d e k I rx ry S r1 r2 h q => ?_
  unfold eqD at h
  split at h
  · cases h; cases r1; cases r2
    exact op_ne pins s σ H _ _ v u Q I rx ry ⟨rfl, by simpa using q⟩
  · cases h; cases r1; cases r2
    exact op_ne pins s σ H _ _ v u Q I rx ry ⟨rfl, by simpa using q⟩
  · split at h
    · rename_i a b q1 q2
      split at h
      · rename_i c
        cases h
        simp only [Bool.and_eq_true] at c
        exact op_neD hu pins s σ H x y v u Q I rx ry ⟨a, b, hK ▸ dpT_of S r1 q1, hK ▸ dpT_of S r2 q2, c.1, c.2, q⟩
      · cases h
    · cases h
theorem op_ltG (hK : X.K = g.K) (hu : X.A.units + 64 < cLine) : OpR X (compareOp .Lt) (r2 g (bF ltG)) := by
  refine r2_bool (sg := id) fun pins s σ H x y v u Q W st d e k I rx ry S r1 r2 h q => ?_
  unfold ltG at h
  split at h
  · cases h; cases r1; cases r2
    exact op_lt pins s σ H _ _ v u Q I rx ry ⟨_, _, rfl, rfl, by simpa [ltB_eq] using q⟩
  · cases h; cases r1; cases r2
    exact op_lt_str pins s σ H _ _ v u Q I rx ry ⟨_, _, rfl, rfl, q⟩
  · rename_i xs ys
    cases e1 : pyD (.tup xs) with
    | none => rw [e1] at h; cases h
    | some p =>
      cases e2 : pyD (.tup ys) with
      | none => rw [e1, e2] at h; cases h
      | some p2 =>
        simp only [e1, e2] at h
        split at h
        · rename_i c
          rw [Bool.and_eq_true, decide_eq_true_eq] at c
          cases h
          obtain ⟨as, ra⟩ := Dp.reads I p x v (hK ▸ dp_of S r1 e1) rx
          obtain ⟨bs, rb⟩ := Dp.reads I p2 y u (hK ▸ dp_of S r2 e2) ry
          have nn : p ≠ .none := fun z => by
            simp only [pyD] at e1
            cases e3 : pyDs xs with
            | none => rw [e3] at e1; cases e1
            | some zs => rw [e3] at e1; cases e1; cases z
          have R := PySem.W.rcLt_alike p p2 X.A s v u as bs ra rb c.1 nn (by omega)
          have z : wpAny (model X.prog X.w) X.A (compareOp .Lt v u) (EP X pins σ Q) X.xe s := R X.prog X.w X.xe (EP X pins σ Q) ⟨.bl _, H, I, rfl, q⟩
          exact z
        · cases h
  · cases h
theorem op_leG : OpR X (compareOp .LtE) (r2 g (bF leG)) := by
  refine r2_bool (sg := id) fun pins s σ H x y v u Q W st d e k I rx ry S r1 r2 h q => ?_
  unfold leG at h
  split at h
  · cases h; cases r1; cases r2
    exact op_le pins s σ H _ _ v u Q I rx ry ⟨_, _, rfl, rfl, by simpa [leI_eq] using q⟩
  · cases h; cases r1; cases r2
    exact op_le_str pins s σ H _ _ v u Q I rx ry ⟨_, _, rfl, rfl, q⟩
  · cases h
theorem op_gtG : OpR X (compareOp .Gt) (r2 g (bF gtG)) := by
  refine r2_bool (sg := id) fun pins s σ H x y v u Q W st d e k I rx ry S r1 r2 h q => ?_
  unfold gtG at h
  split at h
  · cases h; cases r1; cases r2
    exact op_gt pins s σ H _ _ v u Q I rx ry ⟨_, _, rfl, rfl, by simpa [ltB_eq] using q⟩
  · cases h; cases r1; cases r2
    exact op_gt_str pins s σ H _ _ v u Q I rx ry ⟨_, _, rfl, rfl, q⟩
  · cases h
theorem op_geG : OpR X (compareOp .GtE) (r2 g (bF geG)) := by
  refine r2_bool (sg := id) fun pins s σ H x y v u Q W st d e k I rx ry S r1 r2 h q => ?_
  unfold geG at h
  split at h
  · cases h; cases r1; cases r2
    exact op_ge pins s σ H _ _ v u Q I rx ry ⟨_, _, rfl, rfl, by simpa [leI_eq] using q⟩
  · cases h; cases r1; cases r2
    exact op_ge_str pins s σ H _ _ v u Q I rx ry ⟨_, _, rfl, rfl, q⟩
  · cases h
theorem flat_rep {W : Wd} {v : V} {d : D} (r : Rep W v d) (h : flatD d = true) : flatV v = true := by cases r <;> first | rfl | cases h
theorem flat_reps {W : Wd} : ∀ {vs : List V} {ds : List D}, Reps W vs ds → ds.all flatD = true → vs.all flatV = true
  | _, _, .nil, _ => rfl
  | _, _, .cons r t, h => by
    simp only [List.all_cons, Bool.and_eq_true] at h ⊢
    exact ⟨flat_rep r h.1, flat_reps t h.2⟩
theorem eqFl_rep {W : Wd} {v w : V} {d e : D} (r : Rep W v d) (q : Rep W w e) (h1 : flatD d = true) (h2 : flatD e = true) : eqV v w = eqFl d e := by
  cases r <;> cases q <;> first | rfl | (exfalso; revert h1; decide) | (exfalso; revert h2; decide) | (simp [flatD] at h1) | (simp [flatD] at h2)
theorem any_rep {W : Wd} {w : V} {e : D} (q : Rep W w e) (h2 : flatD e = true) : ∀ {vs : List V} {ds : List D}, Reps W vs ds → ds.all flatD = true → (vs.any fun y => eqV y w) = ds.any fun z => eqFl z e
  | _, _, .nil, _ => rfl
  | _, _, .cons r t, h => by
    simp only [List.all_cons, Bool.and_eq_true] at h
    simp only [List.any_cons, eqFl_rep r q h.1 h2, any_rep q h2 t h.2]
theorem seqOf_ok {g : Sg} {W : Wd} {st : Sto} {H : Hp} (S : Sim g W st H) {v : V} {d : D} {ds : List D} (r : Rep W v d) (h : seqOf st d = some ds) : ∃ a vs, v = .ref a ∧ (SqL g.K H a vs ∨ SqT g.K H a vs) ∧ Reps W vs ds := by
  unfold seqOf at h
  split at h
  · rename_i ds' q
    cases h
    obtain ⟨a, vs, e, h1, h2⟩ := getT_ok S r q
    exact ⟨a, vs, e, .inr h1, h2⟩
  · obtain ⟨a, vs, e, h1, h2⟩ := getL_ok S r h
    exact ⟨a, vs, e, .inl h1, h2⟩
theorem str_one {x : Str} {c : Nat} (h : x.cps.toList = [c]) : x = ⟨#[c]⟩ := by
  obtain ⟨cps⟩ := x
  have : cps = #[c] := by
    apply Array.toList_inj.mp
    exact h
  rw [this]
theorem in_core {op : CmpOp} {sg : Bool → Bool} (hK : X.K = g.K) (lit : Lit X g) (h1 : OpR X (compareOp op) (fun x y H Q => ∃ (c : Nat) (z : Str), x = .str ⟨#[c]⟩ ∧ y = .str z ∧ Q (.bl (sg (decide (c ∈ z.cps.toList)))) H))
    (h2 : OpR X (compareOp op) (fun x y H Q => ∃ p xs, y = .ref p ∧ (SqL X.K H p xs ∨ SqT X.K H p xs) ∧ flatV x = true ∧ xs.all flatV = true ∧ Q (.bl (sg (inV x xs))) H))
    (h3 : OpR X (compareOp op) (fun x y H Q => ∃ d ds, Dp X.K H x d ∧ Dp X.K H y (.list ds) ∧ SeqAt.shaped d = true ∧ SeqAt.shaped (.list ds) = true ∧ Q (.bl (sg (ds.any fun z => PyData.eqv z d))) H))
    (h4 : OpR X (compareOp op) (fun y x H Q => ∃ a o, x = .ref a ∧ DGet H a y o ∧ Q (.bl (sg o.isSome)) H))
    (h5 : OpR X (compareOp op) (fun y x H Q => ∃ a z es n r, x = .ref a ∧ y = .str z ∧ X.K.lookup a = some ⟨.type "dict", none, .dict es n, #[]⟩ ∧ PySem.W.KeysLit X.w.params es.toList ∧ (a == sysModules) = false ∧ PySem.W.nsIn X.K a z = some r ∧ Q (.bl (sg r.isSome)) H)) :
    OpR X (compareOp op) (r2 g fun a b st => (inD a b st).map fun k => (.bl (sg k), st)) := by
  refine r2_bool (sg := sg) fun pins s σ H x y v u Q W st d e k I rx ry S r1 r2 h q => ?_
  unfold inD at h
  split at h
  · split at h
    · rename_i c e1
      cases h; cases r1; cases r2
      exact h1 pins s σ H _ _ v u Q I rx ry ⟨c, _, by rw [str_one e1], rfl, q⟩
    · cases h
  · rename_i ks ds0
    cases q2 : keyD d with
    | none => rw [q2] at h; cases h
    | some kk =>
      rw [q2] at h; cases h
      obtain ⟨a, vs, rfl, ha, l, rs⟩ := dctOf_ok S r2 (ks := ks) (ds := ds0) rfl
      rw [keyD_ok r1 q2] at rx
      refine h4 pins s σ H _ _ v u Q I rx ry ⟨a, _, rfl, dGet_rd ha, ?_⟩
      rw [valV_in _ l]; exact q
  · rename_i ks ds0
    split at h
    · rename_i z
      cases h
      cases r1
      cases r2 with
      | kdc kd l rs =>
        obtain ⟨i, es, n, hc, hl, hs0, hx⟩ := S.kd ▸ kd
        rename_i vs0
        have e := look_has (x := z) l
        cases e1 : ((ks.zip vs0).lookup z) with
        | none =>
          rw [e1] at e
          refine h5 pins s σ H _ _ v u Q I rx ry ⟨_, z, es, n, none, rfl, rfl, hK ▸ hl, lit i _ es n hc hl, hs0, hK ▸ (hx z).2 e1, ?_⟩
          rw [← e] at q; exact q
        | some z1 =>
          rw [e1] at e
          obtain ⟨u0, hu0, ru⟩ := (hx z).1 z1 e1
          refine h5 pins s σ H _ _ v u Q I rx ry ⟨_, z, es, n, some u0, rfl, rfl, hK ▸ hl, lit i _ es n hc hl, hs0, hK ▸ hu0, ?_⟩
          rw [← e] at q; exact q
    · cases h
  · split at h
    · rename_i ks ds0 e0
      cases q2 : keyD d with
      | none => rw [q2] at h; cases h
      | some kk =>
        rw [q2] at h; cases h
        obtain ⟨a, vs, rfl, ha, l, rs⟩ := dctOf_ok S r2 e0
        rw [keyD_ok r1 q2] at rx
        refine h4 pins s σ H _ _ v u Q I rx ry ⟨a, _, rfl, dGet_rd ha, ?_⟩
        rw [valV_in _ l]; exact q
    split at h
    · rename_i ds e1
      split at h
      · rename_i c
        cases h
        simp only [Bool.and_eq_true] at c
        obtain ⟨a, vs, rfl, hs, rs⟩ := seqOf_ok S r2 e1
        refine h2 pins s σ H _ _ v u Q I rx ry ⟨a, vs, rfl, hK ▸ hs, flat_rep r1 c.1, flat_reps rs c.2, ?_⟩
        unfold inV
        rw [any_rep r1 c.1 rs c.2]
        exact q
      · split at h
        · rename_i l dd es e2 e3 e4
          split at h
          · rename_i c
            cases h
            simp only [Bool.and_eq_true] at c
            exact h3 pins s σ H _ _ v u Q I rx ry ⟨dd, es, hK ▸ dpT_of S r1 e3, hK ▸ dpT_of S r2 e4, c.1, c.2, q⟩
          · cases h
        · cases h
    · cases h
theorem op_in' (hK : X.K = g.K) (lit : Lit X g) (hu : X.A.units + 65 < cLine) : OpR X (compareOp .In) (r2 g inF) := in_core (sg := id) hK lit op_in_sign op_in_seq (op_inD hu) (by
  intro pins s σ H y x v u Q I ry rx ⟨a, o, e, g, q⟩
  subst e
  obtain rfl : u = Value.ref a := rx
  exact d_in (by omega) I g ry fun s' I' => ⟨.bl o.isSome, H, I', rfl, q⟩) (by
  intro pins s σ H y x v u Q I ry rx ⟨a, z, es, n, r, e, ey, hl, hk, lo, hn, q⟩
  subst e ey
  obtain rfl : u = Value.ref a := rx
  obtain ⟨t, rfl⟩ := ry
  exact wpAny_in_of (strKind_is X.prog X.w z t) lo (PySem.W.mapOf_K (prog := X.prog) (w := X.w) I.kIn hl hk) (by rw [PySem.W.find_K hl hn]; exact ⟨.bl r.isSome, H, I.tok _, rfl, q⟩))
theorem op_nin' (hK : X.K = g.K) (lit : Lit X g) (hu : X.A.units + 65 < cLine) : OpR X (compareOp .NotIn) (r2 g ninF) := in_core (sg := fun k => !k) hK lit op_notIn_sign op_notIn_seq (op_notInD hu) (by
  intro pins s σ H y x v u Q I ry rx ⟨a, o, e, g, q⟩
  subst e
  obtain rfl : u = Value.ref a := rx
  exact d_notIn (by omega) I g ry fun s' I' => ⟨.bl (!o.isSome), H, I', rfl, q⟩) (by
  intro pins s σ H y x v u Q I ry rx ⟨a, z, es, n, r, e, ey, hl, hk, lo, hn, q⟩
  subst e ey
  obtain rfl : u = Value.ref a := rx
  obtain ⟨t, rfl⟩ := ry
  exact wpAny_notIn_of (strKind_is X.prog X.w z t) lo (PySem.W.mapOf_K (prog := X.prog) (w := X.w) I.kIn hl hk) (by rw [PySem.W.find_K hl hn]; exact ⟨.bl (!r.isSome), H, I.tok _, rfl, q⟩))
theorem isNon_rep {W : Wd} {v : V} {d : D} (r : Rep W v d) : decide (v = .non) = isNon d := by cases r <;> simp [isNon]
theorem op_is' : OpR X (compareOp .Is) (r2 g isF) := by
  refine r2_bool (F := fun a b _ => isD a b) (sg := id) fun pins s σ H x y v u Q W st d e k I rx ry S r1 r2 h q => ?_
  unfold isD at h
  split at h
  · cases h; cases r2
    exact op_isN pins s σ H _ _ v u Q I rx ry ⟨rfl, by rw [isNon_rep r1]; exact q⟩
  · cases h; cases r1; cases r2
    exact op_isBl pins s σ H _ _ v u Q I rx ry ⟨_, _, rfl, rfl, q⟩
  · cases h
theorem op_isn' : OpR X (compareOp .IsNot) (r2 g isnF) := by
  refine r2_bool (F := fun a b _ => isD a b) (sg := fun k => !k) fun pins s σ H x y v u Q W st d e k I rx ry S r1 r2 h q => ?_
  unfold isD at h
  split at h
  · cases h; cases r2
    exact op_notN pins s σ H _ _ v u Q I rx ry ⟨rfl, by rw [isNon_rep r1]; exact q⟩
  · cases h; cases r1; cases r2
    exact op_notBl pins s σ H _ _ v u Q I rx ry ⟨_, _, rfl, rfl, q⟩
  · cases h
theorem CO.ok (hK : X.K = g.K) (lit : Lit X g) (hu : X.A.units + 65 < cLine) : ∀ c : CO, OpR X (compareOp c.op) (r2 g c.f)
  | .eq => op_eq' hK (by omega)
  | .ne => op_ne' hK (by omega)
  | .lt => op_ltG hK (by omega)
  | .le => op_leG
  | .gt => op_gtG
  | .ge => op_geG
  | .in_ => op_in' hK lit hu
  | .nin => op_nin' hK lit hu
  | .is_ => op_is'
  | .isn => op_isn'

/-! ### places, slices, truth -/
def atD (ds : List D) (b : D) (st : Sto) : Option (D × Sto) := match b with
  | .int i => (atI ds i).map fun d => (d, st)
  | _ => none
def kyD (ks : List Key) (ds : List D) (b : D) (st : Sto) : Option (D × Sto) := (keyD b).bind fun k => (dGet ks ds k).map fun d => (d, st)
def kdF (ks : List Str) (ds : List D) (b : D) (st : Sto) : Option (D × Sto) := match b with
  | .str x => ((ks.zip ds).lookup x).map fun d => (d, st)
  | _ => none
def ixF : F2 := fun a b st => match a with
  | .dct ks ds => kyD ks ds b st
  | .kdc ks ds => kdF ks ds b st
  | .ref n => (match st.ob n with
    | some (.dct ks ds) => kyD ks ds b st
    | some (.lst ds) => atD ds b st
    | _ => none)
  | .str z => (match b with
    | .int i => if z.length ≤ sizeLine then (atI z.cps.toList i).map fun c => (.str ⟨#[c]⟩, st) else none
    | _ => none)
  | a => (seqOf st a).bind fun ds => atD ds b st
theorem atI_rep {W : Wd} {vs : List V} {ds : List D} {i : Int} {d : D} (r : Reps W vs ds) (h : atI ds i = some d) : ∃ v, atI vs i = some v ∧ Rep W v d := by
  unfold atI at h ⊢
  rw [r.length]
  cases e : ixN ds.length i with
  | none => rw [e] at h; cases h
  | some j => rw [e] at h; exact r.get h
theorem ix_dict (hu : X.A.units + 1 < cLine) : IxR X (fun x y H Q => ∃ a v, x = .ref a ∧ DGet H a y (some v) ∧ Q v H) := by
  intro value slice pins s σ H x y v u Q I rx ry ⟨a, z, e, g, q⟩ hs
  subst e
  obtain rfl : v = Value.ref a := rx
  exact tail_any (dict_typeIs I g) PySem.F.slot_dict_getitem.lookup (d_getItem hu I g ry fun w' s3 I3 rw' => ⟨z, H, I3, rw', q⟩) hs
theorem ix_ok (hK : X.K = g.K) (lit : Lit X g) (hu : X.A.units + 1 < cLine) : IxR X (r2 g ixF) := by
  intro value slice pins s σ H x y v u Q I rx ry ⟨W, st, d, e, S, r1, r2, p⟩ hs
  have dc : ∀ ks ds, dctOf st d = some (ks, ds) → PostV g Q W (kyD ks ds e st) → wpAny (model X.prog X.w) X.A (subscriptTail value slice v u) (EP X pins σ Q) X.xe s := fun ks ds h p => by
    unfold kyD at p
    cases q : keyD e with
    | none => rw [q] at p; exact False.elim p
    | some k =>
      rw [q] at p
      simp only [Option.bind_some] at p
      cases q2 : dGet ks ds k with
      | none => rw [q2] at p; exact False.elim p
      | some z =>
        rw [q2] at p
        obtain ⟨a, vs, rfl, ha, l, rs⟩ := dctOf_ok S r1 h
        obtain ⟨vz, h1, h2⟩ := dGet_ok l rs q2
        refine ix_dict hu value slice pins s σ H _ _ v u Q I rx ry ⟨a, vz, rfl, ?_, p W _ H (.refl W) S h2⟩ hs
        rw [keyD_ok r2 q, ← h1]
        exact dGet_rd ha
  have sq : ∀ ds, seqOf st d = some ds → PostV g Q W (atD ds e st) → wpAny (model X.prog X.w) X.A (subscriptTail value slice v u) (EP X pins σ Q) X.xe s := fun ds q p => by
    cases e with
    | int i =>
      cases r2
      obtain ⟨a, vs, rfl, hq, rs⟩ := seqOf_ok S r1 q
      simp only [atD] at p
      cases q2 : atI ds i with
      | none => rw [q2] at p; exact False.elim p
      | some x =>
        rw [q2] at p
        obtain ⟨vx, h1, h2⟩ := atI_rep rs q2
        rcases hq with hq | hq
        · exact ix_list value slice pins s σ H _ _ v u Q I rx ry ⟨_, _, _, _, rfl, rfl, hK ▸ hq, h1, p W _ H (.refl W) S h2⟩ hs
        · exact ix_tup value slice pins s σ H _ _ v u Q I rx ry ⟨_, _, _, _, rfl, rfl, hK ▸ hq, h1, p W _ H (.refl W) S h2⟩ hs
    | _ => exact False.elim p
  cases d with
  | dct ks ds => exact dc _ _ rfl p
  | ref n =>
    simp only [ixF] at p
    cases q : st.ob n with
    | none => rw [q] at p; exact False.elim p
    | some o =>
      rw [q] at p
      cases o with
      | dct ks ds => exact dc ks ds (by simp only [dctOf, q]) p
      | lst ds => exact sq ds (by simp only [seqOf, getT, getL, q]) p
      | ins _ _ _ => exact False.elim p
  | str z =>
    cases e with
    | int i =>
      cases r1
      cases r2
      simp only [ixF] at p
      split at p
      · rename_i c
        cases q : atI z.cps.toList i with
        | none => rw [q] at p; exact False.elim p
        | some ch =>
          rw [q] at p
          exact ix_str value slice pins s σ H _ _ v u Q I rx ry ⟨_, _, _, rfl, rfl, c, q, p W _ H (.refl W) S (.str _)⟩ hs
      · exact False.elim p
    | _ => exact False.elim p
  | tup ds => exact sq ds rfl p
  | lst ds => exact sq ds rfl p
  | scr ns => exact sq _ rfl p
  | non => exact False.elim p
  | bl _ => exact False.elim p
  | int _ => exact False.elim p
  | exc _ _ _ => exact False.elim p
  | fn _ => exact False.elim p
  | kdc ks ds =>
    simp only [ixF] at p
    cases e with
    | str x =>
      simp only [kdF] at p
      cases q : (ks.zip ds).lookup x with
      | none => rw [q] at p; exact False.elim p
      | some z =>
        rw [q] at p
        cases r2
        cases r1 with
        | kdc kd l rs =>
          obtain ⟨vz, h1, h2⟩ := look_str l rs q
          obtain ⟨i, es, n, hc, hl, hs0, hx⟩ := S.kd ▸ kd
          obtain ⟨u0, hu0, ru⟩ := (hx x).1 vz h1
          exact ix_kdict value slice pins s σ H _ _ v u Q I rx ry ⟨_, x, vz, rfl, rfl, ⟨es, n, u0, hK ▸ hl, lit i _ es n hc hl, hK ▸ hu0, ru⟩, p W _ H (.refl W) S h2⟩ hs
    | _ => exact False.elim p
def cutD (ds : List D) (lo hi : Option Int) : List D := (ds.drop (HT.sIx ds.length 0 lo)).take (HT.sIx ds.length ds.length hi - HT.sIx ds.length 0 lo)
theorem cut_rep {W : Wd} {vs : List V} {ds : List D} (r : Reps W vs ds) (lo hi : Option Int) : Reps W (cutV vs lo hi) (cutD ds lo hi) := by
  unfold cutV cutD
  rw [r.length]
  exact (r.drop _).take _
def slF (fz : Bool) : D → Option Int → Option Int → Sto → Option (D × Sto) := fun d lo hi st => match d with
  | .tup ds => some (.tup (cutD ds lo hi), st)
  | .str z => if z.length ≤ sizeLine then some (.str (cutS z lo hi), st) else none
  | d => (getL st d).map fun ds => mkL fz (cutD ds lo hi) st
theorem cut_whole {ds : List D} {lo hi : Option Int} (h : HT.sIx ds.length 0 lo = 0 ∧ HT.sIx ds.length ds.length hi = ds.length) : cutD ds lo hi = ds := by
  unfold cutD
  rw [h.1, h.2, List.drop_zero, Nat.sub_zero, List.take_length]
theorem sl_ok (fz : Bool) (hK : X.K = g.K) : SlR X (rS g (slF fz)) := by
  intro pins s σ H x v vl vu lo hi sl Q I rx hsl pl pu ⟨W, st, d, S, r1, p⟩
  unfold slF at p
  split at p
  · obtain ⟨a, vs, rfl, ha, ra⟩ := getT_ok S r1 rfl
    have la := ra.length
    refine sl_tupA pins s σ H _ v vl vu lo hi sl Q I rx hsl pl pu ⟨a, vs, rfl, hK ▸ ha, fun h => ?_, fun _ q hq => ?_⟩
    · rw [la] at h
      rw [cut_whole h] at p
      exact p W _ H (.refl W) S r1
    · obtain ⟨W', le, S', r'⟩ := mkT_ok S hq (cut_rep ra lo hi)
      exact p W' _ _ le S' r'
  · split at p
    · rename_i c
      cases r1
      exact sl_str pins s σ H _ v vl vu lo hi sl Q I rx hsl pl pu ⟨_, rfl, c, p W _ H (.refl W) S (.str _)⟩
    · exact False.elim p
  · cases q : getL st d with
    | none => rw [q] at p; exact False.elim p
    | some ds =>
      rw [q] at p
      obtain ⟨a, vs, rfl, ha, ra⟩ := getL_ok S r1 q
      refine sl_list pins s σ H _ v vl vu lo hi sl Q I rx hsl pl pu ⟨a, vs, rfl, hK ▸ ha, fun q hq => ?_⟩
      obtain ⟨W', le, S', r'⟩ := mkL_ok S hq (cut_rep ra lo hi) fz
      exact p W' _ _ le S' r'
def truD (st : Sto) : D → Option Bool
  | .non => some false
  | .bl b => some b
  | .int i => some (i != 0)
  | .str x => if x.length ≤ sizeLine then some ((x.length : Int) != 0) else none
  | .exc _ _ _ => none
  | .fn _ => none
  | .kdc _ _ => none
  | .dct _ _ => none
  | d => (seqOf st d).map fun ds => !ds.isEmpty
theorem empty_rep {W : Wd} {vs : List V} {ds : List D} (r : Reps W vs ds) : vs.isEmpty = ds.isEmpty := by cases r <;> rfl
theorem tru_of {g : Sg} {W : Wd} {st : Sto} {H : Hp} (S : Sim g W st H) {v : V} {d : D} {k : Bool} (r : Rep W v d) (h : truD st d = some k) : TruV g.K v H k := by
  have key : ∀ d, (seqOf st d).map (fun ds => !ds.isEmpty) = some k → Rep W v d → TruV g.K v H k := fun d h r => by
    cases q : seqOf st d with
    | none => rw [q] at h; cases h
    | some ds =>
      rw [q] at h
      cases h
      obtain ⟨a, vs, rfl, hq, rs⟩ := seqOf_ok S r q
      rcases hq with hq | hq
      · exact .inl ⟨vs, hq, by rw [empty_rep rs]⟩
      · exact .inr (.inl ⟨vs, hq, by rw [empty_rep rs]⟩)
  cases r with
  | non => simp only [truD] at h; cases h; exact rfl
  | bl b => simp only [truD] at h; cases h; exact rfl
  | int i => simp only [truD] at h; cases h; exact rfl
  | str x =>
    simp only [truD] at h
    split at h
    · rename_i c; cases h; exact ⟨c, rfl⟩
    · cases h
  | tup q r => exact key (.tup _) h (.tup q r)
  | lst q r => exact key (.lst _) h (.lst q r)
  | scr q => exact key (.scr _) h (.scr q)
  | ref q => exact key (.ref _) h (.ref q)
  | exc0 q => simp [truD] at h
  | fn q => simp [truD] at h
  | kdc _ _ _ => simp [truD] at h
  | exc _ _ _ _ => simp [truD] at h
  | dct _ _ _ => simp [truD] at h
end
end LB
end

section
set_option Elab.async false
set_option linter.all false
set_option maxRecDepth 100000
set_option maxHeartbeats 4000000
/-! Data with dicts: what repr reads. -/
namespace LB
open PySem PySem.Spec PyProof.Rows L2
def kyP : Key → PyData
  | .inl i => .int i
  | .inr x => .str x
mutual
def pyX : D → Option PyData
  | .non => some .none
  | .bl b => some (.bool b)
  | .int i => some (.int i)
  | .str x => some (.str x)
  | .tup ds => (pyXs ds).map .tuple
  | .lst ds => (pyXs ds).map .list
  | .dct ks ds => (pyXs ds).map fun xs => .dict ((ks.map kyP).zip xs)
  | _ => none
def pyXs : List D → Option (List PyData)
  | [] => some []
  | d :: ds => match pyX d, pyXs ds with
    | some x, some xs => some (x :: xs)
    | _, _ => none
end
/-- also what lies in the store -/
def pyXT (st : Sto) : D → Option PyData
  | .ref n => match st.ob n with
    | some (.lst ds) => (pyXs ds).map .list
    | some (.dct ks ds) => (pyXs ds).map fun xs => .dict ((ks.map kyP).zip xs)
    | _ => none
  | d => pyX d
/-- the dict of the modules is known -/
def smK (K : PySem.W.Frag) : Prop := ∃ o, K.lookup sysModules = some o ∧ o.cls = .type "dict"
def smB (K : PySem.W.Frag) : Bool := match K.lookup sysModules with
  | some ⟨.type c, _, _, _⟩ => decide (c = "dict")
  | _ => false
theorem smB_ok {K : PySem.W.Frag} (h : smB K = true) : smK K := by
  unfold smB at h
  split at h
  · rename_i c dd da sl e
    have hc : c = "dict" := of_decide_eq_true h
    subst hc
    exact ⟨_, e, rfl⟩
  · cases h
section
variable {X : Cx} {pins : List (Addr × Obj)} {σ : L2.St} {g : Sg} {W : Wd} {st : Sto} {H : Hp} {s : Shared}
theorem sm_at (I : Inv X pins σ H s) (sm : smK X.K) : ∃ o, s.heap.get? sysModules = some o ∧ o.cls = .type "dict" := by
  obtain ⟨o, h, c⟩ := sm
  exact ⟨o, I.kIn _ _ h, c⟩
theorem keys_read {h : Heap} {P : Program} {w : World} : ∀ {es : List DictEntry} {ks : List Key} {vs : List V} {kvs : List (Key × Value)}, ks.length = vs.length → KV (ks.zip vs) kvs → Pairs (mixKind P w) es kvs →
    ReadsAll h (es.map (·.key)) (ks.map kyP) [] ∧ Vals vs (es.map (·.val))
  | _, [], [], _, _, .nil, .nil => ⟨.nil, .nil⟩
  | _, k :: ks, v :: vs, _, l, .cons r rs, .cons (e := e) hk hv t => by
    obtain ⟨a, b⟩ := keys_read (h := h) (by simpa using l) rs t
    obtain ⟨r1, r2⟩ := r
    refine ⟨?_, .cons (by show RelV v e.val; rw [hv]; exact r2) b⟩
    have hk' : keyIs k e.key = true := by rw [show k = _ from r1]; exact hk
    have q : Reads h e.key (kyP k) [] := by
      rcases keyIs_shape hk' with ⟨i, t, rfl, e2⟩ | ⟨x, t, rfl, e2⟩
      · rw [e2]; exact .int i t
      · rw [e2]; exact .str x t
    exact .cons q a
  | _, [], _ :: _, _, l, _, _ => by simp at l
  | _, _ :: _, [], _, l, _, _ => by simp at l
theorem pyXs_len : ∀ {ds : List D} {xs : List PyData}, pyXs ds = some xs → ds.length = xs.length
  | [], xs, h => by simp only [pyXs] at h; cases h; rfl
  | d :: ds, xs, h => by
    simp only [pyXs] at h
    cases e1 : pyX d with
    | none => rw [e1] at h; cases h
    | some y =>
      cases e2 : pyXs ds with
      | none => rw [e1, e2] at h; cases h
      | some ys =>
        rw [e1, e2] at h
        cases h
        simp [pyXs_len e2]
mutual
theorem rdX (hK : X.K = g.K) (S : Sim g W st H) (I : Inv X pins σ H s) (sm : smK X.K) : ∀ (d : D) {x : PyData} {v : V} {u : Value}, Rep W v d → pyX d = some x → RelV v u → ∃ as, Reads s.heap u x as ∧ sysModules ∉ as
  | .non, x, v, u, r, h, ru => by
    simp only [pyX] at h; cases h; cases r; cases ru
    exact ⟨_, .none, by simp⟩
  | .bl b, x, v, u, r, h, ru => by
    simp only [pyX] at h; cases h; cases r; cases ru
    exact ⟨_, .bool b, by simp⟩
  | .int i, x, v, u, r, h, ru => by
    simp only [pyX] at h; cases h; cases r
    obtain ⟨t, rfl⟩ := ru
    exact ⟨_, .int i t, by simp⟩
  | .str z, x, v, u, r, h, ru => by
    simp only [pyX] at h; cases h; cases r
    obtain ⟨t, rfl⟩ := ru
    exact ⟨_, .str z t, by simp⟩
  | .tup ds, x, v, u, r, h, ru => by
    simp only [pyX] at h
    obtain ⟨xs, hx, rfl⟩ := Option.map_eq_some_iff.mp h
    obtain ⟨a, vs, rfl, hs, rs⟩ := getT_ok S r rfl
    cases ru
    obtain ⟨its, rv, ⟨o, ho, hc, n, hd⟩, _⟩ := I.tuple (hK ▸ hs)
    obtain ⟨as, hr, nm⟩ := rdXs hK S I sm ds rs hx rv
    exact ⟨_, .tuple ho hc hd hr, nm⟩
  | .lst ds, x, v, u, r, h, ru => by
    simp only [pyX] at h
    obtain ⟨xs, hx, rfl⟩ := Option.map_eq_some_iff.mp h
    obtain ⟨a, vs, rfl, hs, rs⟩ := getL_ok S r rfl
    cases ru
    obtain ⟨its, rv, ⟨o, n, ho, hc, _, hd⟩, _⟩ := I.list (hK ▸ hs)
    obtain ⟨as, hr, nm⟩ := rdXs hK S I sm ds rs hx rv
    refine ⟨_, .list ho hc hd hr, fun z => ?_⟩
    rcases List.mem_cons.mp z with e | z
    · obtain ⟨o', ho', hc'⟩ := sm_at I sm
      rw [e, ho] at ho'
      cases ho'
      rw [hc] at hc'
      exact absurd hc' (by decide)
    · exact nm z
  | .dct ks ds, x, v, u, r, h, ru => by
    simp only [pyX] at h
    obtain ⟨xs, hx, rfl⟩ := Option.map_eq_some_iff.mp h
    obtain ⟨a, vs, rfl, ha, l, rs⟩ := dctOf_ok S r (ks := ks) (ds := ds) rfl
    cases ru
    obtain ⟨_, lo, kvs, rel, o, es, ep, ho, hxx, hd, _, hp, _⟩ := dk_rd I.hok ha
    obtain ⟨k1, rv⟩ := keys_read (h := s.heap) l rel hp
    obtain ⟨bs, hr, nm⟩ := rdXs hK S I sm ds rs hx rv
    have lx : (ks.map kyP).length = xs.length := by
      rw [List.length_map, l, rs.length, pyXs_len hx]
    refine ⟨a :: [] ++ bs, .dict (kvs := (ks.map kyP).zip xs) ho hxx.1 hd (by rw [List.map_fst_zip (by omega)]; exact k1) (by rw [List.map_snd_zip (by omega)]; exact hr), fun z => ?_⟩
    rcases List.mem_cons.mp z with e | z
    · rw [← e] at lo
      exact absurd lo (by decide)
    · exact nm z
  | .scr _, _, _, _, _, h, _ => by simp only [pyX] at h; cases h
  | .ref _, _, _, _, _, h, _ => by simp only [pyX] at h; cases h
  | .exc _ _ _, _, _, _, _, h, _ => by simp only [pyX] at h; cases h
  | .fn _, _, _, _, _, h, _ => by simp only [pyX] at h; cases h
  | .kdc _ _, _, _, _, _, h, _ => by simp only [pyX] at h; cases h
theorem rdXs (hK : X.K = g.K) (S : Sim g W st H) (I : Inv X pins σ H s) (sm : smK X.K) : ∀ (ds : List D) {xs : List PyData} {vs : List V} {us : List Value}, Reps W vs ds → pyXs ds = some xs → Vals vs us → ∃ as, ReadsAll s.heap us xs as ∧ sysModules ∉ as
  | [], xs, vs, us, r, h, ru => by
    simp only [pyXs] at h; cases h; cases r; cases ru
    exact ⟨_, .nil, by simp⟩
  | d :: ds, xs, vs, us, r, h, ru => by
    simp only [pyXs] at h
    cases e1 : pyX d with
    | none => rw [e1] at h; cases h
    | some y =>
      cases e2 : pyXs ds with
      | none => rw [e1, e2] at h; cases h
      | some ys =>
        rw [e1, e2] at h
        cases h
        cases r with
        | cons r1 r2 =>
          cases ru with
          | cons u1 u2 =>
            obtain ⟨as, a1, n1⟩ := rdX hK S I sm d r1 e1 u1
            obtain ⟨bs, a2, n2⟩ := rdXs hK S I sm ds r2 e2 u2
            exact ⟨_, .cons a1 a2, fun z => (List.mem_append.mp z).elim n1 n2⟩
end
theorem rdXT (hK : X.K = g.K) (S : Sim g W st H) (I : Inv X pins σ H s) (sm : smK X.K) {d : D} {x : PyData} {v : V} {u : Value} (r : Rep W v d) (h : pyXT st d = some x) (ru : RelV v u) : ∃ as, Reads s.heap u x as ∧ sysModules ∉ as := by
  cases d with
  | ref n =>
    simp only [pyXT] at h
    cases e : st.ob n with
    | none => rw [e] at h; cases h
    | some o =>
      rw [e] at h
      cases o with
      | lst ds =>
        obtain ⟨xs, hx, rfl⟩ := Option.map_eq_some_iff.mp h
        obtain ⟨a, vs, rfl, hs, rs⟩ := getL_ok S r (show getL st (.ref n) = some ds by simp only [getL, e])
        cases ru
        obtain ⟨its, rv, ⟨o, n, ho, hc, _, hd⟩, _⟩ := I.list (hK ▸ hs)
        obtain ⟨as, hr, nm⟩ := rdXs hK S I sm ds rs hx rv
        refine ⟨_, .list ho hc hd hr, fun z => ?_⟩
        rcases List.mem_cons.mp z with e | z
        · obtain ⟨o', ho', hc'⟩ := sm_at I sm
          rw [e, ho] at ho'
          cases ho'
          rw [hc] at hc'
          exact absurd hc' (by decide)
        · exact nm z
      | dct ks ds =>
        obtain ⟨xs, hx, rfl⟩ := Option.map_eq_some_iff.mp h
        obtain ⟨a, vs, rfl, ha, l, rs⟩ := dctOf_ok S r (show dctOf st (.ref n) = some (ks, ds) by simp only [dctOf, e])
        cases ru
        obtain ⟨_, lo, kvs, rel, o, es, ep, ho, hxx, hd, _, hp, _⟩ := dk_rd I.hok ha
        obtain ⟨k1, rv⟩ := keys_read (h := s.heap) l rel hp
        obtain ⟨bs, hr, nm⟩ := rdXs hK S I sm ds rs hx rv
        have lx : (ks.map kyP).length = xs.length := by
          rw [List.length_map, l, rs.length, pyXs_len hx]
        refine ⟨a :: [] ++ bs, .dict (kvs := (ks.map kyP).zip xs) ho hxx.1 hd (by rw [List.map_fst_zip (by omega)]; exact k1) (by rw [List.map_snd_zip (by omega)]; exact hr), fun z => ?_⟩
        rcases List.mem_cons.mp z with e | z
        · rw [← e] at lo
          exact absurd lo (by decide)
        · exact nm z
      | _ => cases h
  | non => exact rdX hK S I sm _ r h ru
  | bl b => exact rdX hK S I sm _ r h ru
  | int i => exact rdX hK S I sm _ r h ru
  | str z => exact rdX hK S I sm _ r h ru
  | tup ds => exact rdX hK S I sm _ r h ru
  | lst ds => exact rdX hK S I sm _ r h ru
  | dct ks ds => exact rdX hK S I sm _ r h ru
  | scr ns => exact rdX hK S I sm _ r h ru
  | exc c ns ds => exact rdX hK S I sm _ r h ru
  | fn i => exact rdX hK S I sm _ r h ru
  | kdc ks ds => exact rdX hK S I sm _ r h ru
theorem refX {d : D} {x : PyData} {v : V} {u : Value} (r : Rep W v d) (h0 : pyT st d = none) (h : pyXT st d = some x) (ru : RelV v u) : ∃ a, u = .ref a := by
  cases d with
  | ref n => cases r; cases ru; exact ⟨_, rfl⟩
  | tup ds => cases r; cases ru; exact ⟨_, rfl⟩
  | lst ds => cases r; cases ru; exact ⟨_, rfl⟩
  | dct ks ds => cases r; cases ru; exact ⟨_, rfl⟩
  | non => simp [pyT, pyD] at h0
  | bl b => simp [pyT, pyD] at h0
  | int i => simp [pyT, pyD] at h0
  | str z => simp [pyT, pyD] at h0
  | scr ns => simp [pyXT, pyX] at h
  | exc c ns ds => simp [pyXT, pyX] at h
  | fn i => simp [pyXT, pyX] at h
  | kdc ks ds => simp [pyXT, pyX] at h
end
end LB
end

section
set_option Elab.async false
set_option linter.all false
set_option maxRecDepth 100000
set_option maxHeartbeats 4000000
/-! Expressions, tests, statements: what each piece does. -/
namespace LB
open PySem PySem.Spec PyProof.Rows L2
abbrev FE := En → Sto → Res D
abbrev FB := En → Sto → Res Bool
abbrev FA := En → Sto → Res (List D)
section
variable {X : Cx} {g : Sg} {Wx : WX} {a b c : Expr} {es : List Expr} {fa fb fc : FE} {fs : FA} {pos : Pos}
theorem tE_ret {σ : L2.St} {H : Hp} {Q : VK} {v : V} {d : D} (h : tE g Wx (fun _ st => .ok d st) σ H Q) (r : ∀ W, Rep W v d) : Q v H := by
  obtain ⟨W, st, en, hE, S, p⟩ := h
  exact p W v H (.refl W) S (r W)
theorem se_int {i : Int} {j : Nat} : PE X (.Constant (.int i) j pos) (tE g Wx fun _ st => .ok (.int i) st) := pe_int.lb fun σ H Q h => tE_ret h fun W => .int i
theorem se_bl {i : Bool} {j : Nat} : PE X (.Constant (.bool i) j pos) (tE g Wx fun _ st => .ok (.bl i) st) := pe_bl.lb fun σ H Q h => tE_ret h fun W => .bl i
theorem se_non {j : Nat} : PE X (.Constant .none j pos) (tE g Wx fun _ st => .ok .non st) := pe_non.lb fun σ H Q h => tE_ret h fun W => .non
theorem se_str {i : Str} {j : Nat} : PE X (.Constant (.str i) j pos) (tE g Wx fun _ st => .ok (.str i) st) := pe_str.lb fun σ H Q h => tE_ret h fun W => .str i
def varF (i : Nat) : FE := fun en st => match en[i]? with
  | some (some d) => .ok d st
  | _ => .bad
theorem se_var {i : Nat} {x : Str} (hN : X.N[i]? = some x) (hv : Vis X.env.scope x) (hd : (x == ("__debug__" : Str)) = false) (hcd : (x == ("__classdict__" : Str)) = false) : PE X (.Name x pos) (tE g Wx (varF i)) :=
  (pe_var hN hv hd hcd).lb fun σ H Q ⟨W, st, en, hE, S, p⟩ => by
    unfold varF at p
    split at p
    · rename_i d q
      obtain ⟨v, h1, h2⟩ := hE.2 i d q
      exact ⟨v, h1, p W v H (.refl W) S h2⟩
    · exact False.elim p
/-- a constant of the module: a number, a text .. -/
theorem se_glob {x : Str} {v : V} {u : Value} {d : D} (hg : Gl X x) (hm : X.mg x = some u) (r : RelV v u) (hd : (x == ("__debug__" : Str)) = false) (rd : ∀ W, Rep W v d) : PE X (.Name x pos) (tE g Wx fun _ st => .ok d st) :=
  (pe_glob hg hm r hd).lb fun σ H Q h => tE_ret h rd
/-! ### lists of arguments -/
theorem sa_nil : PA X [] (tA g Wx fun _ st => .ok [] st) := pa_nil.lb fun σ H Q ⟨W, st, en, hE, S, p⟩ => p W [] H (.refl W) S .nil
theorem sa_cons (ha : PE X a (tE g Wx fa)) (hr : PA X es (tA g Wx fs)) (hs : starEach (a :: es) X.env = (false, eval a X.env) :: starEach es X.env) :
    PA X (a :: es) (tA g Wx fun en st => (fa en st).bind fun d s => (fs en s).bind fun ds s => .ok (d :: ds) s) :=
  (pa_cons ha hr hs).lb fun σ H Q ⟨W, st, en, hE, S, p⟩ => tG_step hE S p fun d s W' x H' le hE' S' r p' => tG_step hE' S' p' fun ds s2 W2 xs H2 le2 hE2 S2 r2 p2 =>
    p2 W2 (x :: xs) H2 (.refl W2) S2 (.cons (r.mono le2) r2)
theorem sk_nil : PK X [] (tA g Wx fun _ st => .ok [] st) := pk_nil.lb fun σ H Q ⟨W, st, en, hE, S, p⟩ => p W [] H (.refl W) S .nil
theorem sk_cons {nm : Option Str} {kpos : Pos} {kws : List Keyword} (ha : PE X a (tE g Wx fa)) (hr : PK X kws (tA g Wx fs)) :
    PK X (⟨nm, a, kpos⟩ :: kws) (tA g Wx fun en st => (fa en st).bind fun d s => (fs en s).bind fun ds s => .ok (d :: ds) s) :=
  (pk_cons ha hr).lb fun σ H Q ⟨W, st, en, hE, S, p⟩ => tG_step hE S p fun d s W' x H' le hE' S' r p' => tG_step hE' S' p' fun ds s2 W2 xs H2 le2 hE2 S2 r2 p2 =>
    p2 W2 (x :: xs) H2 (.refl W2) S2 (.cons (r.mono le2) r2)
def tupF (ds : List D) (st : Sto) : Option (D × Sto) := if ds.length ≤ sizeLine then some (.tup ds, st) else none
def lstF (fz : Bool) (ds : List D) (st : Sto) : Option (D × Sto) := if ds.length ≤ sizeLine then some (mkL fz ds st) else none
theorem se_tup {k : Nat} (h : PA X es (tA g Wx fs)) : PE X (.Tuple es k pos) (tE g Wx fun en st => (fs en st).bind fun ds s => liftO (tupF ds s)) :=
  (pe_tup h).lb fun σ H Q ⟨W, st, en, hE, S, p⟩ => tG_step hE S p fun ds s W' xs H' le hE' S' r p' => by
    unfold tupF at p'
    split at p'
    · rename_i c
      refine ⟨by rw [r.length]; exact c, fun q hq => ?_⟩
      obtain ⟨W2, le2, S2, r2⟩ := mkT_ok S' hq r
      exact p' W2 _ _ le2 S2 r2
    · exact False.elim p'
theorem se_lst (fz : Bool) (h : PA X es (tA g Wx fs)) : PE X (.List es pos) (tE g Wx fun en st => (fs en st).bind fun ds s => liftO (lstF fz ds s)) :=
  (pe_lst h).lb fun σ H Q ⟨W, st, en, hE, S, p⟩ => tG_step hE S p fun ds s W' xs H' le hE' S' r p' => by
    unfold lstF at p'
    split at p'
    · rename_i c
      refine ⟨by rw [r.length]; exact c, fun q hq => ?_⟩
      obtain ⟨W2, le2, S2, r2⟩ := mkL_ok S' hq r fz
      exact p' W2 _ _ le2 S2 r2
    · exact False.elim p'
/-- a built-in called by its name -/
theorem se_blt {x : Str} {id : String} {p : Pos} {f : List D → Sto → Option (D × Sto)} (hc : CallR X (.builtin id) (rL g f)) (hg : Gl X x) (hm : X.mg x = none) (hv : bootBuiltins x = some (.builtin id)) (ha : PA X (a :: es) (tA g Wx fs)) (hn : x ≠ "__name__") (hdb : (x == ("__debug__" : Str)) = false)
    (he : starEach (a :: es) X.env = (false, eval a X.env) :: starEach es X.env) (hpl : (backTo pos (starEach es X.env)).any (·.1) = false) :
    PE X (.Call (.Name x p) (a :: es) [] pos) (tE g Wx fun en st => (fs en st).bind fun ds s => liftO (f ds s)) :=
  (pe_callB hc hg hm hv ha hn hdb he hpl).lb fun σ H Q ⟨W, st, en, hE, S, p⟩ => tG_step hE S p fun ds s W' xs H' le hE' S' r p' => ⟨W', s, ds, S', r, post_lift p'⟩
theorem se_ty {x : Str} {T : String} {p : Pos} {f : List D → Sto → Option (D × Sto)} (hc : CallR X (.type T) (rL g f)) (hg : Gl X x) (hm : X.mg x = none) (hv : bootBuiltins x = some (.type T)) (ha : PA X (a :: es) (tA g Wx fs)) (hn : x ≠ "__name__") (hdb : (x == ("__debug__" : Str)) = false)
    (he : starEach (a :: es) X.env = (false, eval a X.env) :: starEach es X.env) (hpl : (backTo pos (starEach es X.env)).any (·.1) = false) :
    PE X (.Call (.Name x p) (a :: es) [] pos) (tE g Wx fun en st => (fs en st).bind fun ds s => liftO (f ds s)) :=
  (pe_callTy hc hg hm hv ha hn hdb he hpl).lb fun σ H Q ⟨W, st, en, hE, S, p⟩ => tG_step hE S p fun ds s W' xs H' le hE' S' r p' => ⟨W', s, ds, S', r, post_lift p'⟩
/-! ### slices -/
def partF (fa : FE) : En → Sto → Res (Option Int) := fun en st => (fa en st).bind fun d s => match d with
  | .int i => .ok (some i) s
  | _ => .bad
theorem so_none : PO X none (tP g Wx fun _ st => .ok none st) := po_none.lb fun σ H Q ⟨W, st, en, hE, S, p⟩ => p W none H (.refl W) S rfl
theorem so_some (h : PE X a (tE g Wx fa)) : PO X (some a) (tP g Wx (partF fa)) := (po_some h).lb fun σ H Q ⟨W, st, en, hE, S, p⟩ => tG_step hE S p fun d s W' x H' le hE' S' r p' => by
  cases r with
  | int i => exact ⟨i, rfl, p' W' _ H' (.refl W') S' rfl⟩
  | non => exact False.elim p'
  | bl b => exact False.elim p'
  | str x => exact False.elim p'
  | tup _ _ => exact False.elim p'
  | lst _ _ => exact False.elim p'
  | scr _ => exact False.elim p'
  | ref _ => exact False.elim p'
  | exc0 _ => exact False.elim p'
  | exc _ _ _ _ => exact False.elim p'
  | dct _ _ _ => exact False.elim p'
  | fn _ => exact False.elim p'
  | kdc _ _ _ => exact False.elim p'
theorem se_sl {lo hi : Option Expr} {fl fh : En → Sto → Res (Option Int)} {p2 : Pos} {f : D → Option Int → Option Int → Sto → Option (D × Sto)} (hr : SlR X (rS g f)) (he : PE X a (tE g Wx fa)) (hl : PO X lo (tP g Wx fl)) (hu : PO X hi (tP g Wx fh)) :
    PE X (.Subscript a (.Slice lo hi none p2) pos) (tE g Wx fun en st => (fa en st).bind fun d s => (fl en s).bind fun l s => (fh en s).bind fun h s => liftO (f d l h s)) :=
  (pe_slice hr he hl hu).lb fun σ H Q ⟨W, st, en, hE, S, p⟩ => tG_step hE S p fun d s W' x H' le hE' S' r p' => tG_step hE' S' p' fun l s2 W2 xl H2 le2 hE2 S2 r2 p2 => tG_step hE2 S2 p2 fun h s3 W3 xh H3 le3 hE3 S3 r3 p3 => by
    cases r2; cases r3
    exact ⟨W3, s3, d, S3, r.mono (le2.trans le3), post_lift p3⟩
/-! ### and, or, not; if -/
def truF (r : Res D) (k : D → Bool → Sto → Res D) : Res D := r.bind fun d s => match truD s d with
  | some b => k d b s
  | none => .bad
theorem se_and {rest : List Expr} (hK : X.K = g.K) (ha : PE X a (tE g Wx fa)) (hb : PE X (.BoolOp .And (b :: rest) pos) (tE g Wx fb)) :
    PE X (.BoolOp .And (a :: b :: rest) pos) (tE g Wx fun en st => truF (fa en st) fun d t s => if t then fb en s else .ok d s) :=
  (pe_andT ha hb).lb fun σ H Q ⟨W, st, en, hE, S, p⟩ => tG_step hE S p fun d s W' x H' le hE' S' r p' => by
    cases q : truD s d with
    | none => rw [q] at p'; exact False.elim p'
    | some k =>
      rw [q] at p'
      refine ⟨k, hK ▸ tru_of S' r q, ?_⟩
      cases k with
      | true => exact iteT ⟨W', s, en, hE', S', p'⟩
      | false => exact iteF (p' W' x H' (.refl W') S' r)
theorem se_or {rest : List Expr} (hK : X.K = g.K) (ha : PE X a (tE g Wx fa)) (hb : PE X (.BoolOp .Or (b :: rest) pos) (tE g Wx fb)) :
    PE X (.BoolOp .Or (a :: b :: rest) pos) (tE g Wx fun en st => truF (fa en st) fun d t s => if t then .ok d s else fb en s) :=
  (pe_orT ha hb).lb fun σ H Q ⟨W, st, en, hE, S, p⟩ => tG_step hE S p fun d s W' x H' le hE' S' r p' => by
    cases q : truD s d with
    | none => rw [q] at p'; exact False.elim p'
    | some k =>
      rw [q] at p'
      refine ⟨k, hK ▸ tru_of S' r q, ?_⟩
      cases k with
      | true => exact iteT (p' W' x H' (.refl W') S' r)
      | false => exact iteF ⟨W', s, en, hE', S', p'⟩
theorem se_one {op : BoolOp} (ha : PE X a (tE g Wx fa)) : PE X (.BoolOp op [a] pos) (tE g Wx fa) := pe_one ha
theorem se_not (hK : X.K = g.K) (ha : PE X a (tE g Wx fa)) : PE X (.UnaryOp .Not a pos) (tE g Wx fun en st => truF (fa en st) fun d t s => .ok (.bl (!t)) s) :=
  (pe_notT ha).lb fun σ H Q ⟨W, st, en, hE, S, p⟩ => tG_step hE S p fun d s W' x H' le hE' S' r p' => by
    cases q : truD s d with
    | none => rw [q] at p'; exact False.elim p'
    | some k =>
      rw [q] at p'
      exact ⟨k, hK ▸ tru_of S' r q, p' W' _ H' (.refl W') S' (.bl _)⟩
variable {ga gb : FB}
theorem st_tru (hK : X.K = g.K) (ha : PE X a (tE g Wx fa)) (he : ∀ whole, isTrue a X.env whole = (do let v ← whole; standAt a.pos; holding [v] (truthy v))) :
    PT X a (tT g Wx fun en st => (fa en st).bind fun d s => match truD s d with
      | some b => .ok b s
      | none => .bad) :=
  (pt_truth ha he).lb fun σ H Q ⟨W, st, en, hE, S, p⟩ => tG_step hE S p fun d s W' x H' le hE' S' r p' => by
    cases q : truD s d with
    | none => rw [q] at p'; exact False.elim p'
    | some k =>
      rw [q] at p'
      exact ⟨k, hK ▸ tru_of S' r q, p' W' _ H' (.refl W') S' rfl⟩
theorem st_not (ha : PT X a (tT g Wx ga)) : PT X (.UnaryOp .Not a pos) (tT g Wx fun en st => (ga en st).bind fun b s => .ok (!b) s) :=
  (pt_not ha).lb fun σ H Q ⟨W, st, en, hE, S, p⟩ => tG_step hE S p fun d s W' x H' le hE' S' r p' => by
    cases r
    exact p' W' _ H' (.refl W') S' rfl
theorem sw_and1 (ha : PT X a (tT g Wx ga)) : PW X (.BoolOp .And [a] pos) (tT g Wx ga) := pw_and1 ha
theorem sw_or1 (ha : PT X a (tT g Wx ga)) : PW X (.BoolOp .Or [a] pos) (tT g Wx ga) := pw_or1 ha
theorem sw_and {rest : List Expr} (ha : PT X a (tT g Wx ga)) (hb : PW X (.BoolOp .And (b :: rest) pos) (tT g Wx gb)) : PW X (.BoolOp .And (a :: b :: rest) pos) (tT g Wx fun en st => (ga en st).bind fun t s => if t then gb en s else .ok false s) :=
  (pw_and ha hb).lb fun σ H Q ⟨W, st, en, hE, S, p⟩ => tG_step hE S p fun d s W' x H' le hE' S' r p' => by
    cases r
    cases d with
    | true => exact iteT ⟨W', s, en, hE', S', p'⟩
    | false => exact iteF (p' W' _ H' (.refl W') S' rfl)
theorem sw_or {rest : List Expr} (ha : PT X a (tT g Wx ga)) (hb : PW X (.BoolOp .Or (b :: rest) pos) (tT g Wx gb)) : PW X (.BoolOp .Or (a :: b :: rest) pos) (tT g Wx fun en st => (ga en st).bind fun t s => if t then .ok true s else gb en s) :=
  (pw_or ha hb).lb fun σ H Q ⟨W, st, en, hE, S, p⟩ => tG_step hE S p fun d s W' x H' le hE' S' r p' => by
    cases r
    cases d with
    | true => exact iteT (p' W' _ H' (.refl W') S' rfl)
    | false => exact iteF ⟨W', s, en, hE', S', p'⟩
theorem se_if (hc : PT X c (tT g Wx ga)) (ha : PE X a (tE g Wx fa)) (hb : PE X b (tE g Wx fb)) : PE X (.IfExp c a b pos) (tE g Wx fun en st => (ga en st).bind fun t s => if t then fa en s else fb en s) :=
  (pe_ifExp hc ha hb).lb fun σ H Q ⟨W, st, en, hE, S, p⟩ => tG_step hE S p fun d s W' x H' le hE' S' r p' => by
    cases r
    cases d with
    | true => exact iteT ⟨W', s, en, hE', S', p'⟩
    | false => exact iteF ⟨W', s, en, hE', S', p'⟩
end
end LB
end

section
set_option Elab.async false
set_option linter.all false
set_option maxRecDepth 100000
set_option maxHeartbeats 4000000
/-! Statements, targets, loops, comprehensions. -/
namespace LB
open PySem PySem.Spec PyProof.Rows L2

inductive Fl where
  | nx (en : En) (s : Sto) | rt (d : D) (s : Sto) | bk (en : En) (s : Sto) | ct (en : En) (s : Sto) | exn (x : Xn) (en : En) (s : Sto) | bad
abbrev FS := En → Sto → Fl
def PostS (g : Sg) (Wx : WX) (E : Ends) (W : Wd) : Fl → Prop
  | .nx en st => ∀ W' σ H, W.Le W' → EnR W' σ en → Sim g W' st H → E.nx σ H
  | .rt d st => ∀ W' v H, W.Le W' → Sim g W' st H → Rep W' v d → E.rt v H
  | .bk en st => ∀ W' σ H, W.Le W' → EnR W' σ en → Sim g W' st H → E.bk σ H
  | .ct en st => ∀ W' σ H, W.Le W' → EnR W' σ en → Sim g W' st H → E.ct σ H
  | .exn x en st => ∀ W' cls dx σ H, W.Le W' → EnR W' σ en → Sim g W' st H → ExR g W' H cls dx x → Wx cls dx σ H
  | .bad => False
theorem PostS.mono {g : Sg} {Wx : WX} {E : Ends} {W W' : Wd} (le : W.Le W') : ∀ {r : Fl}, PostS g Wx E W r → PostS g Wx E W' r
  | .nx _ _, h => fun W2 σ H l => h W2 σ H (le.trans l)
  | .rt _ _, h => fun W2 σ H l => h W2 σ H (le.trans l)
  | .bk _ _, h => fun W2 σ H l => h W2 σ H (le.trans l)
  | .ct _ _, h => fun W2 σ H l => h W2 σ H (le.trans l)
  | .exn _ _ _, h => fun W2 c d σ H l => h W2 c d σ H (le.trans l)
  | .bad, h => h
def tS (g : Sg) (Wx : WX) (f : FS) : TS := fun E σ H => ∃ W st en, EnR W σ en ∧ Sim g W st H ∧ PostS g Wx E W (f en st)
def Res.fl {α : Type} (r : Res α) (en : En) (k : α → Sto → Fl) : Fl := match r with
  | .ok a s => k a s
  | .exn x s => .exn x en s
  | .bad => .bad
def Fl.seq (r : Fl) (k : En → Sto → Fl) : Fl := match r with
  | .nx en s => k en s
  | r => r
section
variable {α β : Type} {X : Cx} {g : Sg} {Wx : WX} {a b c : Expr} {fa fb : FE} {ga : FB} {pos : Pos} {σ : L2.St} {H : Hp} {W : Wd} {st : Sto} {en : En} {E : Ends}
theorem tS_step {R : Wd → β → α → Prop} {f : En → Sto → Res α} {k : α → Sto → Fl} {T : β → Hp → Prop} (hE : EnR W σ en) (S : Sim g W st H) (p : PostS g Wx E W ((f en st).fl en k))
    (c : ∀ a s W' b H', W.Le W' → EnR W' σ en → Sim g W' s H' → R W' b a → PostS g Wx E W' (k a s) → T b H') : tG g Wx R f σ H T := by
  refine ⟨W, st, en, hE, S, ?_⟩
  cases e : f en st with
  | ok a s =>
    simp only [e, Res.fl] at p
    exact fun W' b H' le S' r => c a s W' b H' le (hE.mono le) S' r (p.mono le)
  | exn x s =>
    simp only [e, Res.fl] at p
    exact fun W' cls dx H' le S' r => p W' cls dx σ H' le (hE.mono le) S' r
  | bad =>
    simp only [e, Res.fl] at p
    exact p
theorem ss_nil : PSs X [] (tS g Wx fun en st => .nx en st) := pss_nil.lb fun E σ H ⟨W, st, en, hE, S, p⟩ => p W σ H (.refl W) hE S
theorem ss_cons {s : Stmt} {rest : List Stmt} {f h : FS} (h1 : PS X s (tS g Wx f)) (h2 : PSs X rest (tS g Wx h)) : PSs X (s :: rest) (tS g Wx fun en st => (f en st).seq h) :=
  (pss_cons h1 h2).lb fun E σ H ⟨W, st, en, hE, S, p⟩ => by
    refine ⟨W, st, en, hE, S, ?_⟩
    cases e : f en st with
    | nx en' s =>
      simp only [e, Fl.seq] at p
      exact fun W' σ' H' le hE' S' => ⟨W', s, en', hE', S', p.mono le⟩
    | rt d s => simp only [e, Fl.seq] at p; exact p
    | bk en' s => simp only [e, Fl.seq] at p; exact p
    | ct en' s => simp only [e, Fl.seq] at p; exact p
    | exn x en' s => simp only [e, Fl.seq] at p; exact p
    | bad => simp only [e, Fl.seq] at p; exact p
theorem ss_pass : PS X (.Pass pos) (tS g Wx fun en st => .nx en st) := ps_pass.lb fun E σ H ⟨W, st, en, hE, S, p⟩ => p W σ H (.refl W) hE S
theorem ss_break : PS X (.Break pos) (tS g Wx fun en st => .bk en st) := ps_break.lb fun E σ H ⟨W, st, en, hE, S, p⟩ => p W σ H (.refl W) hE S
theorem ss_continue : PS X (.Continue pos) (tS g Wx fun en st => .ct en st) := ps_continue.lb fun E σ H ⟨W, st, en, hE, S, p⟩ => p W σ H (.refl W) hE S
theorem ss_never {s : Stmt} : PS X s (tS g Wx fun _ _ => .bad) := ps_never.lb fun E σ H ⟨W, st, en, hE, S, p⟩ => p
theorem ss_expr (he : PE X a (tE g Wx fa)) (hs : swapsWith a none pos.line X.env = pure false) : PS X (.Expr a pos) (tS g Wx fun en st => (fa en st).fl en fun _ s => .nx en s) :=
  (ps_expr he hs).lb fun E σ H ⟨W, st, en, hE, S, p⟩ => tS_step hE S p fun d s W' x H' le hE' S' r p' => p' W' σ H' (.refl W') hE' S'
theorem ss_ret (he : PE X a (tE g Wx fa)) : PS X (.Return (some a) pos) (tS g Wx fun en st => (fa en st).fl en fun d s => .rt d s) :=
  (ps_ret he).lb fun E σ H ⟨W, st, en, hE, S, p⟩ => tS_step hE S p fun d s W' x H' le hE' S' r p' => p' W' x H' (.refl W') S' r
theorem ss_retN : PS X (.Return none pos) (tS g Wx fun en st => .rt .non st) := ps_retN.lb fun E σ H ⟨W, st, en, hE, S, p⟩ => p W .non H (.refl W) S .non
theorem ss_if {p q : List Stmt} {f h : FS} (hc : PT X c (tT g Wx ga)) (ha : PSs X p (tS g Wx f)) (hb : PSs X q (tS g Wx h)) : PS X (.If c p q pos) (tS g Wx fun en st => (ga en st).fl en fun t s => if t then f en s else h en s) :=
  (ps_if hc ha hb).lb fun E σ H ⟨W, st, en, hE, S, p⟩ => tS_step hE S p fun d s W' x H' le hE' S' r p' => by
    cases r
    cases d with
    | true => exact iteT ⟨W', s, en, hE', S', p'⟩
    | false => exact iteF ⟨W', s, en, hE', S', p'⟩
/-! ### targets -/
theorem EnR.set {v : V} {d : D} (h : EnR W σ en) (r : Rep W v d) (i : Nat) : EnR W (σ.set i (some v)) (en.set i (some d)) := by
  refine ⟨by rw [List.length_set, List.length_set]; exact h.1, fun j e q => ?_⟩
  rw [List.getElem?_set] at q ⊢
  split at q
  · rename_i hij
    split at q
    · rename_i hl
      cases q
      rw [if_pos hij, if_pos (by rw [h.1]; exact hl)]
      exact ⟨v, rfl, r⟩
    · cases q
  · rename_i hij
    rw [if_neg hij]
    exact h.2 j e q
/-- the slots that a target may change -/
def Fix (is : List Nat) (σ σ' : L2.St) : Prop := σ'.length = σ.length ∧ ∀ j : Nat, j ∉ is → σ'[j]? = σ[j]?
theorem Fix.refl (is : List Nat) (σ : L2.St) : Fix is σ σ := ⟨rfl, fun _ _ => rfl⟩
theorem Fix.trans {is js : List Nat} {σ σ1 σ2 : L2.St} (a : Fix is σ σ1) (b : Fix js σ1 σ2) : Fix (is ++ js) σ σ2 := ⟨b.1.trans a.1, fun j h => by
  rw [List.mem_append, not_or] at h
  rw [b.2 j h.2, a.2 j h.1]⟩
def tB1 (g : Sg) (is : List Nat) (bt : D → En → Option En) : TG := fun v σ H Q => ∃ W st en d, EnR W σ en ∧ Sim g W st H ∧ Rep W v d ∧ (match bt d en with
  | some en' => ∀ σ', EnR W σ' en' → Fix is σ σ' → Q σ' H
  | none => False)
def tBs (g : Sg) (is : List Nat) (bt : List D → En → Option En) : TGs := fun vs σ H Q => ∃ W st en ds, EnR W σ en ∧ Sim g W st H ∧ Reps W vs ds ∧ (match bt ds en with
  | some en' => ∀ σ', EnR W σ' en' → Fix is σ σ' → Q σ' H
  | none => False)
theorem _root_.L2.PG.lb {e : Expr} {t t' : TG} (h : PG X e t) (i : ∀ v σ H Q, t' v σ H Q → t v σ H Q) : PG X e t' := ⟨fun pins s σ H v u Q I r q => h.run pins s σ H v u Q I r (i v σ H Q q)⟩
theorem _root_.L2.PGs.lb {e : List Expr} {t t' : TGs} (h : PGs X e t) (i : ∀ v σ H Q, t' v σ H Q → t v σ H Q) : PGs X e t' := ⟨fun pins s σ H v u Q I r q => h.run pins s σ H v u Q I r (i v σ H Q q)⟩
theorem sg_name {i : Nat} {x : Str} (hN : X.N.Nodup) (hi : X.N[i]? = some x) (hx : Loc X.env.scope x) (hf : X.fn x = true ∨ X.env.scope.names.lookup x = some .local) : PG X (.Name x pos) (tB1 g [i] fun d en => some (en.set i (some d))) :=
  (pg_name hN hi hx hf).lb fun v σ H Q ⟨W, st, en, d, hE, S, r, p⟩ => p _ (hE.set r i) ⟨List.length_set .., fun j h => by
    rw [List.getElem?_set, if_neg (fun e => h (by simp [e]))]⟩
theorem sgs_nil : PGs X [] (tBs g [] fun ds en => match ds with
  | [] => some en
  | _ => none) := pgs_nil.lb fun v σ H Q ⟨W, st, en, ds, hE, S, r, p⟩ => by
    cases r with
    | nil => exact ⟨rfl, p σ hE (.refl _ σ)⟩
    | cons _ _ => exact False.elim p
def bindsF (b1 : D → En → Option En) (b2 : List D → En → Option En) : List D → En → Option En := fun ds en => match ds with
  | d :: ds => (b1 d en).bind fun en' => b2 ds en'
  | [] => none
theorem sgs_cons {e : Expr} {es : List Expr} {is js : List Nat} {b1 : D → En → Option En} {b2 : List D → En → Option En} (h1 : PG X e (tB1 g is b1)) (h2 : PGs X es (tBs g js b2)) (hs : (assignEach (e :: es) X.env).map (·.2) = assign e X.env :: (assignEach es X.env).map (·.2)) :
    PGs X (e :: es) (tBs g (is ++ js) (bindsF b1 b2)) := (pgs_cons h1 h2 hs).lb fun v σ H Q ⟨W, st, en, ds, hE, S, r, p⟩ => by
      cases r with
      | nil => exact False.elim p
      | @cons v d vs ds r t =>
        refine ⟨v, vs, rfl, W, st, en, d, hE, S, r, ?_⟩
        simp only [bindsF] at p
        cases q : b1 d en with
        | none => rw [q] at p; exact False.elim p
        | some en' =>
          rw [q, Option.bind_some] at p
          intro σ' hE' hf
          refine ⟨W, st, en', ds, hE', S, t, ?_⟩
          cases q2 : b2 ds en' with
          | none => rw [q2] at p; exact False.elim p
          | some en2 => rw [q2] at p; exact fun σ2 hE2 hf2 => p σ2 hE2 (hf.trans hf2)
def unT (n : Nat) (bt : List D → En → Option En) : D → En → Option En := fun d en => match getT d with
  | some ds => if ds.length = n then bt ds en else none
  | none => none
theorem sg_tup {es : List Expr} {k : Nat} {n : Nat} {is : List Nat} {bt : List D → En → Option En} (hK : X.K = g.K) (hc : X.calm = true) (h : PGs X es (tBs g is bt)) (hn : (assignEach es X.env).length = n) (hst : (assignEach es X.env).findIdx? (·.1) = none) :
    PG X (.Tuple es k pos) (tB1 g is (unT n bt)) := (pg_tup hc h hn hst).lb fun v σ H Q ⟨W, st, en, d, hE, S, r, p⟩ => by
      simp only [unT] at p
      cases q : getT d with
      | none => rw [q] at p; exact False.elim p
      | some ds =>
        simp only [q] at p
        obtain ⟨a, vs, rfl, ha, ra⟩ := getT_ok S r q
        by_cases hl : ds.length = n
        · rw [if_pos hl] at p
          exact ⟨a, vs, rfl, hK ▸ ha, by rw [ra.length]; exact hl, W, st, en, ds, hE, S, ra, p⟩
        · rw [if_neg hl] at p; exact False.elim p
/-- target = e -/
theorem ss_asg {tg : Expr} {is : List Nat} {bt : D → En → Option En} (he : PE X a (tE g Wx fa)) (hg : PG X tg (tB1 g is bt)) (hs : swapsWithSole [tg] a pos.line X.env = pure false) (hw : swappedStores [tg] a X.env = pure none) (h1 : (assignEach [tg] X.env).map (·.2) = [assign tg X.env]) :
    PS X (.Assign [tg] a pos) (tS g Wx fun en st => (fa en st).fl en fun d s => match bt d en with
      | some en' => .nx en' s
      | none => .bad) :=
  (ps_asg he hg hs hw h1).lb fun E σ H ⟨W, st, en, hE, S, p⟩ => tS_step hE S p fun d s W' x H' le hE' S' r p' => by
    refine ⟨W', s, en, d, hE', S', r, ?_⟩
    cases q : bt d en with
    | none => rw [q] at p'; exact p'
    | some en' => rw [q] at p'; exact fun σ' h _ => p' W' σ' H' (.refl W') h S'
theorem ss_set {i : Nat} {x : Str} {pos' : Pos} (hN : X.N.Nodup) (hi : X.N[i]? = some x) (hx : Loc X.env.scope x) (he : PE X a (tE g Wx fa)) (hs : swapsWith a (some (.Name x pos')) pos.line X.env = pure false) (hf : X.fn x = true ∨ X.env.scope.names.lookup x = some .local) :
    PS X (.Assign [.Name x pos'] a pos) (tS g Wx fun en st => (fa en st).fl en fun d s => .nx (en.set i (some d)) s) :=
  (ps_set hN hi hx he hs hf).lb fun E σ H ⟨W, st, en, hE, S, p⟩ => tS_step hE S p fun d s W' x H' le hE' S' r p' => p' W' _ H' (.refl W') (hE'.set r i) S'
/-- a[i] = e of a numbered list, a numbered dict -/
def putIx (o i v : D) (st : Sto) : Option Sto := match o with
  | .ref n => (match st.ob n with
    | some (.lst ds) => (match i with
      | .int k => (ixN ds.length k).map fun j => st.put n (.lst (ds.set j v))
      | _ => none)
    | some (.dct ks ds) => (keyD i).bind fun k => if ks.length < sizeLine then some (st.put n (.dct (putKs ks k) (putDs ks ds k v))) else none
    | _ => none)
  | _ => none
theorem set_dict (hu : X.A.units + 1 < cLine) : PSet X (fun o i v H Q => ∃ a H', o = .ref a ∧ DPut H a i v H' ∧ Q H') := by
  intro pins s σ H o i v ov iv u Q I ro ri rv ⟨a, H', e, g, q⟩
  subst e
  obtain rfl : ov = Value.ref a := ro
  exact d_setItem hu I g ri rv fun s' I' => ⟨_, I', q⟩
theorem set_ld (hu : X.A.units + 1 < cLine) : PSet X (fun o i v H Q => rSetL o i v H Q ∨ ∃ a H', o = .ref a ∧ DPut H a i v H' ∧ Q H') := by
  intro pins s σ H o i v ov iv u Q I ro ri rv h
  rcases h with h | h
  · exact set_list pins s σ H o i v ov iv u Q I ro ri rv h
  · exact set_dict hu pins s σ H o i v ov iv u Q I ro ri rv h
theorem ss_setIx {o i : Expr} {fo fi : FE} {p2 : Pos} (hu : X.A.units + 1 < cLine) (he : PE X a (tE g Wx fa)) (ho : PE X o (tE g Wx fo)) (hi : PE X i (tE g Wx fi))
    (ha : ∀ v, assign (.Subscript o i p2) X.env v = (do
      let ov ← holding [v] (eval o X.env)
      let iv ← holding [v, ov] (eval i X.env)
      standAt p2
      holding [v, ov, iv] (setItem ov iv v)
      release [v, ov, iv] []))
    (hs : swapsWithSole [.Subscript o i p2] a pos.line X.env = pure false) (hw : swappedStores [.Subscript o i p2] a X.env = pure none) (h1 : (assignEach [.Subscript o i p2] X.env).map (·.2) = [assign (.Subscript o i p2) X.env]) :
    PS X (.Assign [.Subscript o i p2] a pos) (tS g Wx fun en st => (fa en st).fl en fun v s => (fo en s).fl en fun o s => (fi en s).fl en fun i s => match putIx o i v s with
      | some s => .nx en s
      | none => .bad) :=
  (ps_asg he (pg_sub ho hi (set_ld hu) ha) hs hw h1).lb fun E σ H ⟨W, st, en, hE, S, p⟩ => tS_step hE S p fun v s W' x H' le hE' S' r p' => tS_step hE' S' p' fun o s2 W2 xo H2 le2 hE2 S2 r2 p2 => tS_step hE2 S2 p2 fun i s3 W3 xi H3 le3 hE3 S3 r3 p3 => by
    unfold putIx at p3
    split at p3
    · rename_i s4 q
      split at q
      · rename_i n
        have r2' := r2.mono le3
        split at q
        · rename_i ds qd
          split at q
          · rename_i k
            cases q2 : ixN ds.length k with
            | none => rw [q2] at q; cases q
            | some j =>
              rw [q2] at q; cases q
              cases r2' with
              | ref e =>
                cases r3
                obtain ⟨a', e', vs, hv, rs⟩ := S3.ob n _ qd
                rw [e] at e'; cases e'
                refine .inl ⟨_, vs, k, j, rfl, rfl, hv, by rw [rs.length]; exact q2, ?_⟩
                exact p3 W3 σ _ (.refl W3) hE3 (S3.setO qd e ⟨_, upd_same, rs.set (r.mono (le2.trans le3)) j⟩)
          · cases q
        · rename_i ks ds qd
          cases q2 : keyD i with
          | none => rw [q2] at q; cases q
          | some k =>
            rw [q2] at q
            simp only [Option.bind_some] at q
            split at q
            · rename_i hl
              cases q
              cases r2' with
              | ref e =>
                obtain ⟨a', e', vs, hv, l, rs⟩ := S3.ob n _ qd
                rw [e] at e'; cases e'
                obtain ⟨us, u1, u2, u3⟩ := put_ok (k := k) l rs (r.mono (le2.trans le3))
                refine .inr ⟨_, _, rfl, ?_, p3 W3 σ _ (.refl W3) hE3 (S3.setO qd e ⟨us, upd_same, u2, u3⟩)⟩
                rw [keyD_ok r3 q2, ← u1]
                exact DPut.k hv (by rw [List.length_zip]; omega)
            · cases q
        · cases q
      · cases q
    · exact False.elim p3
end
end LB
end

section
set_option Elab.async false
set_option linter.all false
set_option maxRecDepth 100000
set_option maxHeartbeats 4000000
/-! Walked things, for, while, list comprehensions. -/
namespace LB
open PySem PySem.Spec PyProof.Rows L2

structure Gives (g : Sg) (W : Wd) (J : It) (items : List D) : Prop where
  go : ∀ (i : Nat) W' st H, i < items.length → W.LeX W' → Sim g W' st H → J.go i H
  yl : ∀ (i : Nat) d W' st H x H', items[i]? = some d → W.LeX W' → Sim g W' st H → J.yld i H x H' → ∃ W2, W'.Le W2 ∧ Sim g W2 st H' ∧ Rep W2 x d
  stop : ∀ W' st H, W.LeX W' → Sim g W' st H → J.stop items.length H
theorem Gives.mono {g : Sg} {W W' : Wd} {J : It} {items : List D} (h : Gives g W J items) (le : W.Le W') : Gives g W' J items :=
  ⟨fun i W2 st H hi l => h.go i W2 st H hi (le.x.trans l), fun i d W2 st H x H' hi l => h.yl i d W2 st H x H' hi (le.x.trans l), fun W2 st H l => h.stop W2 st H (le.x.trans l)⟩
abbrev tI (g : Sg) (Wx : WX) (f : En → Sto → Res (List D)) : TI := tG g Wx (fun W J items => Gives g W J items) f
abbrev FI := En → Sto → Res (List D)

section
variable {X : Cx} {g : Sg} {Wx : WX} {tg a b c : Expr} {es : List Expr} {fa fb : FE} {fs : FA} {ga : FB} {pos : Pos}
theorem _root_.L2.PI.lb {e : Expr} {t t' : TI} (h : PI X tg e t) (i : ∀ σ H Q, t' σ H Q → t σ H Q) : PI X tg e t' := ⟨fun pins s σ H R I q => h.run pins s σ H R I (i σ H R q)⟩
theorem _root_.L2.PI.or {e : Expr} {t t' : TI} (h : PI X tg e t) (h' : PI X tg e t') : PI X tg e (fun σ H R => t σ H R ∨ t' σ H R) := ⟨fun pins s σ H R I q => q.elim (h.run pins s σ H R I) (h'.run pins s σ H R I)⟩
theorem gives_list {W : Wd} {q : Addr} {vs : List V} {ds : List D} (hv : ∀ W' st H, W.LeX W' → Sim g W' st H → SqL g.K H q vs) (r : Reps W vs ds) : Gives g W (Itl g.K q) ds where
  go := fun i W' st H hi le S => by
    obtain ⟨v, h1, h2⟩ := r.get (List.getElem?_eq_getElem hi)
    exact ⟨vs, v, hv W' st H le S, h1⟩
  yl := fun i d W' st H x H' hi le S h => by
    obtain ⟨rfl, h⟩ := h
    obtain ⟨v, h1, h2⟩ := r.get hi
    have := h vs (hv W' st H' le S)
    rw [h1] at this; cases this
    exact ⟨W', .refl W', S, h2.monoX le⟩
  stop := fun W' st H le S => ⟨vs, hv W' st H le S, Nat.le_of_eq r.length⟩
theorem gives_tup {W : Wd} {q : Addr} {vs : List V} {ds : List D} (hv : W.tu q vs) (r : Reps W vs ds) : Gives g W (Itt g.K q) ds where
  go := fun i W' st H hi le S => by
    obtain ⟨v, h1, h2⟩ := r.get (List.getElem?_eq_getElem hi)
    exact ⟨vs, v, S.tu _ _ (le.tu _ _ hv), h1⟩
  yl := fun i d W' st H x H' hi le S h => by
    obtain ⟨rfl, h⟩ := h
    obtain ⟨v, h1, h2⟩ := r.get hi
    have := h vs (S.tu _ _ (le.tu _ _ hv))
    rw [h1] at this; cases this
    exact ⟨W', .refl W', S, h2.monoX le⟩
  stop := fun W' st H le S => ⟨vs, S.tu _ _ (le.tu _ _ hv), Nat.le_of_eq r.length⟩
theorem gives_fn {W : Wd} {J : It} {n : Nat} {f : Nat → V} {ds : List D} (w : Walk J n (fun _ => True) (YFn f)) (hl : ds.length = n) (r : ∀ W (i : Nat) d, ds[i]? = some d → Rep W (f i) d) : Gives g W J ds where
  go := fun i W' st H hi le S => w.goes i H (by omega) trivial
  yl := fun i d W' st H x H' hi le S h => by
    have hi' : i < n := by
      have := (List.getElem?_eq_some_iff.mp hi).1
      omega
    obtain ⟨rfl, rfl⟩ := w.yields i H x H' hi' trivial h
    exact ⟨W', .refl W', S, r W' i d hi⟩
  stop := fun W' st H le S => by rw [hl]; exact w.stops H trivial
def strDs (z : Str) : List D := z.cps.toList.map fun c => .str ⟨#[c]⟩
def keyV : Key → D
  | .inl i => .int i
  | .inr x => .str x
/-- a list, a tuple, a text, a dict: what is walked -/
def seqI : D → Option (List D)
  | .dct ks _ => some (ks.map keyV)
  | .lst ds => some ds
  | .scr ns => some (ns.map .int)
  | .tup ds => some ds
  | .str z => some (strDs z)
  | _ => none
def liftI {α : Type} (o : Option α) (s : Sto) : Res α := match o with
  | some a => .ok a s
  | none => .bad
theorem rep_keyV {W : Wd} : ∀ k : Key, Rep W (kV k) (keyV k)
  | .inl i => .int i
  | .inr x => .str x
theorem gives_keys {W : Wd} {q : Addr} {od : Obj} {ks : List Key} {vs : List V} (hv : W.fz q (.frz od (.dK (ks.zip vs)))) (l : ks.length = vs.length) : Gives g W (Itk q od (ks.zip vs)) (ks.map keyV) where
  go := fun i W' st H hi le S => ⟨(S.fz _ _ (le.fz _ _ hv)).1, by rw [List.length_map] at hi; rw [List.length_zip]; omega⟩
  yl := fun i d W' st H x H' hi le S h => by
    obtain ⟨rfl, k, v, h1, rfl⟩ := h
    rw [List.getElem?_zip_eq_some] at h1
    rw [List.getElem?_map, h1.1] at hi
    cases hi
    exact ⟨W', .refl W', S, rep_keyV k⟩
  stop := fun W' st H le S => ⟨(S.fz _ _ (le.fz _ _ hv)).1, by rw [List.length_map, List.length_zip]; omega⟩
theorem gives_str {W : Wd} {z : Str} : Gives g W (Its z) (strDs z) where
  go := fun i W' st H hi le S => walk_str.goes i H (by simpa [strDs] using hi) trivial
  yl := fun i d W' st H x H' hi le S h => by
    have hi' : i < z.cps.size := by
      have := (List.getElem?_eq_some_iff.mp hi).1
      simpa [strDs] using this
    obtain ⟨rfl, c, hc, rfl⟩ := walk_str.yields i H x H' hi' trivial h
    refine ⟨W', .refl W', S, ?_⟩
    have : d = .str ⟨#[c]⟩ := by
      simp only [strDs, List.getElem?_map, Array.getElem?_toList, hc, Option.map_some] at hi
      exact (Option.some.inj hi).symm
    rw [this]
    exact .str _
  stop := fun W' st H le S => by
    have h := walk_str (z := z).stops H trivial
    simpa [strDs] using h
theorem si_seq (hK : X.K = g.K) (ha : PE X a (tE g Wx fa)) : PI X tg a (tI g Wx fun en st => (fa en st).bind fun d s => liftI (seqI d) s) := by
  refine (((pi_list ha).or ((pi_tup ha).or (pi_str ha))).or (pi_keys ha)).lb fun σ H Q ⟨W, st, en, hE, S, p⟩ => ?_
  cases e : fa en st with
  | exn x s =>
    simp only [e, Res.bind_exn] at p
    exact .inl (.inl ⟨W, st, en, hE, S, by rw [e]; exact p⟩)
  | bad => simp only [e, Res.bind_bad] at p; exact False.elim p
  | ok d s =>
    simp only [e, Res.bind_ok] at p
    rw [hK]
    cases d with
    | lst ds =>
      refine .inl (.inl ⟨W, st, en, hE, S, ?_⟩)
      rw [e]
      intro W' x H' le S' r
      cases r with
      | lst q r => exact ⟨_, rfl, ⟨_, S'.sqL q⟩, p W' _ H' le S' (gives_list (fun W2 st2 H2 l2 S2 => S2.sqL (l2.fz _ _ q)) r)⟩
    | scr ns =>
      refine .inl (.inl ⟨W, st, en, hE, S, ?_⟩)
      rw [e]
      intro W' x H' le S' r
      cases r with
      | scr q => exact ⟨_, rfl, ⟨_, S'.sqS q⟩, p W' _ H' le S' (gives_list (fun W2 st2 H2 l2 S2 => S2.sqS (l2.sc _ _ q)) (Reps.ofInts _))⟩
    | tup ds =>
      refine .inl (.inr (.inl ⟨W, st, en, hE, S, ?_⟩))
      rw [e]
      intro W' x H' le S' r
      cases r with
      | tup q r => exact ⟨_, rfl, ⟨_, S'.tu _ _ q⟩, p W' _ H' le S' (gives_tup q r)⟩
    | str z =>
      refine .inl (.inr (.inr ⟨W, st, en, hE, S, ?_⟩))
      rw [e]
      intro W' x H' le S' r
      cases r
      exact ⟨z, rfl, p W' _ H' le S' gives_str⟩
    | non => exact False.elim p
    | bl b => exact False.elim p
    | int i => exact False.elim p
    | ref n => exact False.elim p
    | exc _ _ _ => exact False.elim p
    | dct ks ds =>
      refine .inr ⟨W, st, en, hE, S, ?_⟩
      rw [e]
      intro W' x H' le S' r
      cases r with
      | dct q l r => exact ⟨_, _, rfl, .inl ⟨_, (S'.fz _ _ q).1, p W' _ H' le S' (gives_keys q l)⟩⟩
    | fn _ => exact False.elim p
    | kdc _ _ => exact False.elim p
def upTo (lo hi : Int) : List D := (List.range (hi - lo).toNat).map fun (i : Nat) => .int (lo + i)
theorem gives_range {W : Wd} {lo hi : Int} : Gives g W (Itr lo (hi - lo).toNat) (upTo lo hi) :=
  gives_fn walk_range (by simp [upTo]) fun W i d h => by
    simp only [upTo, List.getElem?_map] at h
    cases q : (List.range (hi - lo).toNat)[i]? with
    | none => rw [q] at h; cases h
    | some j =>
      rw [q] at h
      have hj : j = i := by
        have := List.getElem?_eq_some_iff.mp q
        obtain ⟨h1, h2⟩ := this
        rw [List.getElem_range] at h2
        exact h2.symm
      subst hj
      cases h
      exact .int _
def small62 (i : Int) : Bool := leI (-4611686018427387904) i && ltB i 4611686018427387904
def rng1 : List D → Option (List D)
  | [.int j] => if small62 j then some (upTo 0 j) else none
  | _ => none
def rng2 : List D → Option (List D)
  | [.int i, .int j] => if small62 i && small62 j then some (upTo i j) else none
  | _ => none
theorem reps1 {W : Wd} {xs : List V} {d : D} (r : Reps W xs [d]) : ∃ x, xs = [x] ∧ Rep W x d := by
  cases r with
  | cons r t => cases t; exact ⟨_, rfl, r⟩
theorem reps2 {W : Wd} {xs : List V} {d e : D} (r : Reps W xs [d, e]) : ∃ x y, xs = [x, y] ∧ Rep W x d ∧ Rep W y e := by
  cases r with
  | cons r t =>
    obtain ⟨y, rfl, r2⟩ := reps1 t
    exact ⟨_, y, rfl, r, r2⟩
theorem reps3 {W : Wd} {xs : List V} {d e h : D} (r : Reps W xs [d, e, h]) : ∃ x y z, xs = [x, y, z] ∧ Rep W x d ∧ Rep W y e ∧ Rep W z h := by
  cases r with
  | cons r t =>
    obtain ⟨y, z, rfl, r2, r3⟩ := reps2 t
    exact ⟨_, y, z, rfl, r, r2, r3⟩
theorem rng1_some {ds items : List D} (h : rng1 ds = some items) : ∃ j, ds = [.int j] ∧ small62 j = true ∧ items = upTo 0 j := by
  unfold rng1 at h
  split at h
  · split at h
    · rename_i c; cases h; exact ⟨_, rfl, c, rfl⟩
    · cases h
  · cases h
theorem rng2_some {ds items : List D} (h : rng2 ds = some items) : ∃ i j, ds = [.int i, .int j] ∧ small62 i = true ∧ small62 j = true ∧ items = upTo i j := by
  unfold rng2 at h
  split at h
  · split at h
    · rename_i c; cases h
      rw [Bool.and_eq_true] at c
      exact ⟨_, _, rfl, c.1, c.2, rfl⟩
    · cases h
  · cases h
theorem small62_ok {i : Int} (h : small62 i = true) : -(2 ^ 62) ≤ i ∧ i < 2 ^ 62 := by
  simpa [small62, leI_eq, ltB_eq] using h
theorem si_range1 {p : Pos} (hg : Gl X "range") (hm : X.mg "range" = none) (ha : PA X [a] (tA g Wx fs)) (hs : starEach [a] X.env = [(false, eval a X.env)]) : PI X tg (.Call (.Name "range" p) [a] [] pos) (tI g Wx fun en st => (fs en st).bind fun ds s => liftI (rng1 ds) s) :=
  (pi_range1 hg hm ha hs).lb fun σ H Q ⟨W, st, en, hE, S, p⟩ => tG_step hE S p fun ds s W' xs H' le hE' S' r p' => by
    cases q : rng1 ds with
    | none => rw [q] at p'; exact False.elim p'
    | some items =>
      rw [q] at p'
      obtain ⟨j, rfl, h1, rfl⟩ := rng1_some q
      obtain ⟨x, rfl, rx⟩ := reps1 r
      cases rx
      obtain ⟨h2, h3⟩ := small62_ok h1
      refine ⟨j, rfl, h2, h3, p' W' _ H' (.refl W') S' ?_⟩
      have := gives_range (g := g) (W := W') (lo := 0) (hi := j)
      simpa using this
theorem si_range2 {p : Pos} (hg : Gl X "range") (hm : X.mg "range" = none) (ha : PA X [a, b] (tA g Wx fs)) (hs : starEach [a, b] X.env = [(false, eval a X.env), (false, eval b X.env)]) (hs2 : starEach [b] X.env = [(false, eval b X.env)]) :
    PI X tg (.Call (.Name "range" p) [a, b] [] pos) (tI g Wx fun en st => (fs en st).bind fun ds s => liftI (rng2 ds) s) :=
  (pi_range2 hg hm ha hs hs2).lb fun σ H Q ⟨W, st, en, hE, S, p⟩ => tG_step hE S p fun ds s W' xs H' le hE' S' r p' => by
    cases q : rng2 ds with
    | none => rw [q] at p'; exact False.elim p'
    | some items =>
      rw [q] at p'
      obtain ⟨i, j, rfl, h1, h2, rfl⟩ := rng2_some q
      obtain ⟨x, y, rfl, rx, ry⟩ := reps2 r
      cases rx; cases ry
      obtain ⟨h3, h4⟩ := small62_ok h1
      obtain ⟨h5, h6⟩ := small62_ok h2
      exact ⟨i, j, rfl, ⟨h3, h4, h5, h6⟩, p' W' _ H' (.refl W') S' gives_range⟩
/-! ### for -/
def forF (bt : D → En → Option En) (fb : FS) : List D → En → Sto → Fl
  | [], en, s => .nx en s
  | d :: ds, en, s => match bt d en with
    | none => .bad
    | some en' => match fb en' s with
      | .nx e s => forF bt fb ds e s
      | .ct e s => forF bt fb ds e s
      | .bk e s => .nx e s
      | r => r
theorem drop_cons {α : Type} {l : List α} {i : Nat} (h : i < l.length) : l.drop i = l[i] :: l.drop (i + 1) := (List.getElem_cons_drop h).symm
theorem ss_for {iter : Expr} {body : List Stmt} {f : FI} {is : List Nat} {bt : D → En → Option En} {fb : FS} (hp : PassesOwn (model X.prog X.w) X.A X.env X.xe) (hc : X.calm = true) (hi : PI X tg iter (tI g Wx f)) (hg : PG X tg (tB1 g is bt)) (hb : PSs X body (tS g Wx fb))
    (hs : ∀ x, foldedSetIterable iter X.env x = pure x) : PS X (.For tg iter body [] pos) (tS g Wx fun en st => (f en st).fl en fun items s => forF bt fb items en s) :=
  (ps_for hp hc hi hg hb hs).lb fun E σ H ⟨W, st, en, hE, S, p⟩ => tS_step hE S p fun items s W1 J H1 le hE1 S1 G p1 => by
    refine ⟨fun i m σ H => ∃ Wd st en, i + m = items.length ∧ W1.Le Wd ∧ EnR Wd σ en ∧ Sim g Wd st H ∧ PostS g Wx E Wd (forF bt fb (items.drop i) en st),
      ⟨items.length, W1, s, en, by omega, .refl W1, hE1, S1, p1⟩, fun i m σ H ⟨Wd, st, en, hm, l, hE, S, p⟩ => ?_⟩
    by_cases hi : i < items.length
    · refine .inr ⟨G.go i Wd st H hi l S, fun σ' H' => ∃ Wd st en, W1.Le Wd ∧ EnR Wd σ' en ∧ Sim g Wd st H' ∧ PostS g Wx E Wd (forF bt fb (items.drop (i + 1)) en st), fun σ' H' ⟨Wd', st', en', l', hE', S', p'⟩ => ⟨m - 1, by omega, Wd', st', en', by omega, l', hE', S', p'⟩, fun x H' hy => ?_⟩
      rw [drop_cons hi] at p
      obtain ⟨W2, l2, S2, r2⟩ := G.yl i _ Wd st H x H' (List.getElem?_eq_getElem hi) l S hy
      refine ⟨W2, st, en, _, hE.mono l2, S2, r2, ?_⟩
      simp only [forF] at p
      cases q : bt items[i] en with
      | none => rw [q] at p; exact False.elim p
      | some en' =>
        simp only [q] at p
        intro σ2 hE2 _
        refine ⟨W2, st, en', hE2, S2, ?_⟩
        have lw : W1.Le W2 := l.trans l2
        cases qb : fb en' st with
        | nx e s => simp only [qb] at p; exact fun W3 σ3 H3 l3 hE3 S3 => ⟨W3, s, e, lw.trans l3, hE3, S3, p.mono (l2.trans l3)⟩
        | ct e s => simp only [qb] at p; exact fun W3 σ3 H3 l3 hE3 S3 => ⟨W3, s, e, lw.trans l3, hE3, S3, p.mono (l2.trans l3)⟩
        | bk e s => simp only [qb] at p; exact fun W3 σ3 H3 l3 hE3 S3 => p W3 σ3 H3 (l2.trans l3) hE3 S3
        | rt d s => simp only [qb] at p; exact fun W3 v H3 l3 S3 r3 => p W3 v H3 (l2.trans l3) S3 r3
        | exn x e s => simp only [qb] at p; exact fun W3 cl dx σ3 H3 l3 hE3 S3 r3 => p W3 cl dx σ3 H3 (l2.trans l3) hE3 S3 r3
        | bad => simp only [qb] at p; exact False.elim p
    · have e : i = items.length := by omega
      subst e
      refine .inl ⟨G.stop Wd st H l S, ?_⟩
      rw [List.drop_length] at p
      exact p Wd σ H (.refl Wd) hE S
/-! ### while -/
def whF (c : FB) (fb : FS) : Nat → En → Sto → Fl
  | 0, _, _ => .bad
  | n + 1, en, st => (c en st).fl en fun t s => if t then (match fb en s with
      | .nx e s => whF c fb n e s
      | .ct e s => whF c fb n e s
      | .bk e s => .nx e s
      | r => r) else .nx en s
theorem ss_while (n : Nat) {body : List Stmt} {fb : FS} (hp : PassesOwn (model X.prog X.w) X.A X.env X.xe) (hc : PT X c (tT g Wx ga)) (hb : PSs X body (tS g Wx fb)) : PS X (.While c body [] pos) (tS g Wx (whF ga fb n)) :=
  (ps_while hp hc hb).lb fun E σ H ⟨W, st, en, hE, S, p⟩ => by
    refine ⟨fun m σ H => ∃ Wd st en, EnR Wd σ en ∧ Sim g Wd st H ∧ PostS g Wx E Wd (whF ga fb m en st), ⟨n, W, st, en, hE, S, p⟩, fun m σ H ⟨Wd, st, en, hE, S, p⟩ => ?_⟩
    cases m with
    | zero => exact False.elim p
    | succ m =>
      refine tS_step hE S p fun t s W' x H' le hE' S' r p' => ?_
      cases r
      cases t with
      | false => exact iteF (p' W' σ H' (.refl W') hE' S')
      | true =>
        refine iteT ⟨fun σ' H' => ∃ Wd st en, EnR Wd σ' en ∧ Sim g Wd st H' ∧ PostS g Wx E Wd (whF ga fb m en st), fun σ' H' h => ⟨m, by omega, h⟩, W', s, en, hE', S', ?_⟩
        cases qb : fb en s with
        | nx e s => simp only [qb] at p'; exact fun W3 σ3 H3 l3 hE3 S3 => ⟨W3, s, e, hE3, S3, p'.mono l3⟩
        | ct e s => simp only [qb] at p'; exact fun W3 σ3 H3 l3 hE3 S3 => ⟨W3, s, e, hE3, S3, p'.mono l3⟩
        | bk e s => simp only [qb] at p'; exact fun W3 σ3 H3 l3 hE3 S3 => p' W3 σ3 H3 l3 hE3 S3
        | rt d s => simp only [qb] at p'; exact fun W3 v H3 l3 S3 r3 => p' W3 v H3 l3 S3 r3
        | exn x e s => simp only [qb] at p'; exact fun W3 cl dx σ3 H3 l3 hE3 S3 r3 => p' W3 cl dx σ3 H3 l3 hE3 S3 r3
        | bad => simp only [qb] at p'; exact False.elim p'
end
end LB
end

section
set_option Elab.async false
set_option linter.all false
set_option maxRecDepth 100000
set_option maxHeartbeats 4000000
/-! List comprehensions. -/
namespace LB
open PySem PySem.Spec PyProof.Rows L2
abbrev noX : WX := fun _ _ _ _ => False
def Res.nox {α : Type} : Res α → Res α
  | .ok a s => .ok a s
  | _ => .bad
def wipeE (en : En) : List Nat → En
  | [] => en
  | v :: vs => (wipeE en vs).set v none
theorem wipeE_length (en : En) : ∀ vs : List Nat, (wipeE en vs).length = en.length
  | [] => rfl
  | v :: vs => by rw [wipeE, List.length_set, wipeE_length en vs]
theorem wipeE_some {en : En} {i : Nat} {d : D} : ∀ {vs : List Nat}, (wipeE en vs)[i]? = some (some d) → en[i]? = some (some d) ∧ i ∉ vs
  | [], h => ⟨h, by simp⟩
  | v :: vs, h => by
    rw [wipeE, List.getElem?_set] at h
    split at h
    · split at h <;> cases h
    · rename_i hne
      obtain ⟨h1, h2⟩ := wipeE_some h
      exact ⟨h1, by simp [h2]; exact fun e => hne e.symm⟩
theorem EnR.wipe {W : Wd} {σ : L2.St} {en : En} (h : EnR W σ en) (vs : List Nat) : EnR W (wipe σ vs) (wipeE en vs) := ⟨by rw [wipe_length, wipeE_length]; exact h.1, fun i d q => by
  obtain ⟨q1, q2⟩ := wipeE_some q
  obtain ⟨v, h1, h2⟩ := h.2 i d q1
  exact ⟨v, by rw [wipe_out q2]; exact h1, h2⟩⟩
theorem wipe_in {σ : L2.St} {i : Nat} : ∀ {vs : List Nat}, i ∈ vs → (wipe σ vs)[i]? = if i < σ.length then some none else none
  | [], h => by cases h
  | v :: vs, h => by
    rw [wipe, List.getElem?_set]
    by_cases e : v = i
    · rw [if_pos e, wipe_length, e]
    · rw [if_neg e]
      rcases List.mem_cons.mp h with h | h
      · exact absurd h.symm e
      · exact wipe_in h
theorem wipe_fix {is vs : List Nat} {σ σ2 : L2.St} (hs : ∀ i ∈ is, i ∈ vs) (h : Fix is (wipe σ vs) σ2) : wipe σ2 vs = wipe σ vs := by
  apply List.ext_getElem?
  intro j
  have hl : σ2.length = σ.length := by rw [h.1, wipe_length]
  by_cases hj : j ∈ vs
  · rw [wipe_in hj, wipe_in hj, hl]
  · rw [wipe_out hj]
    rw [h.2 j (fun q => hj (hs j q)), wipe_out hj]
/-- the turns: vs the block's own slots -/
def compF (vs : List Nat) (bt : D → En → Option En) (ct : FB) (fe : FE) : List D → En → Sto → Res (List D)
  | [], _, s => .ok [] s
  | d :: ds, en, s => match bt d (wipeE en vs) with
    | none => .bad
    | some en' => (ct en' s).nox.bind fun t s => if t then (fe en' s).nox.bind fun y s => (compF vs bt ct fe ds en s).bind fun ys s => .ok (y :: ys) s else compF vs bt ct fe ds en s
def compL (fz : Bool) (vs : List Nat) (bt : D → En → Option En) (ct : FB) (fe : FE) (f : FI) : FE := fun en st => (f en st).bind fun items s => if items.length ≤ sizeLine then (compF vs bt ct fe items en s).bind fun ys s => .ok (mkL fz ys s).1 (mkL fz ys s).2 else .bad
section
variable {X : Cx} {g : Sg} {Wx : WX} {tg iter elt : Expr} {ifs : List Expr} {pos : Pos}
theorem bind_assoc {α β γ : Type} (r : Res α) (k : α → Sto → Res β) (h : β → Sto → Res γ) : (r.bind k).bind h = r.bind fun a s => (k a s).bind h := by cases r <;> rfl
theorem tLc_ok {f : FI} {is vs : List Nat} {bt : D → En → Option En} {ct : FB} {fe : FE} {fz : Bool} (hs : ∀ i ∈ is, i ∈ vs) {σ : L2.St} {H : Hp} {Q : VK} (h : tE g Wx (compL fz vs bt ct fe f) σ H Q) :
    tLc (tI g Wx f) (tB1 g is bt) (tT g noX ct) (tE g noX fe) vs σ H Q := by
  obtain ⟨W, st, en, hE, S, p⟩ := h
  refine tG_step (k := fun items s => if items.length ≤ sizeLine then (compF vs bt ct fe items en s).bind fun ys s => .ok (mkL fz ys s).1 (mkL fz ys s).2 else .bad) hE S p fun items s W1 J H1 le hE1 S1 G p1 => ?_
  by_cases hz : items.length ≤ sizeLine
  case neg => rw [if_neg hz] at p1; exact False.elim p1
  rw [if_pos hz] at p1
  intro D hD
  have nP := S1.noPin hD
  refine ⟨fun i m H => ∃ Wq st acc va, i + m = items.length ∧ acc.length ≤ i ∧ W1.Le Wq ∧ Sim g Wq st H ∧ Wq.pin D (.lst va) ∧ Reps Wq va acc ∧
      Post g Wx Rep σ Q W1 ((compF vs bt ct fe (items.drop i) en st).bind fun ys s => .ok (mkL fz (acc ++ ys) s).1 (mkL fz (acc ++ ys) s).2),
    ⟨items.length, W1.addP D (.lst []), s, [], [], by omega, by simp, W1.addP_le _ _, (S1.fresh hD).addP upd_same (S1.freeOf hD) ⟨trivial, S1.noLi hD⟩, .inr ⟨rfl, rfl⟩, .nil, by simpa using p1⟩, fun i m H ⟨Wq, st, acc, va, hm, ha, l, S, hpin, ra, p⟩ => ?_⟩
  have hE' := hE1.mono l
  by_cases hi : i < items.length
  · refine .inr ⟨G.go i Wq st H hi l S, fun H' => ∃ Wq st acc va, acc.length ≤ i + 1 ∧ W1.Le Wq ∧ Sim g Wq st H' ∧ Wq.pin D (.lst va) ∧ Reps Wq va acc ∧
      Post g Wx Rep σ Q W1 ((compF vs bt ct fe (items.drop (i + 1)) en st).bind fun ys s => .ok (mkL fz (acc ++ ys) s).1 (mkL fz (acc ++ ys) s).2),
      fun H' ⟨Wq', st', acc', va', h1, h2, h3, h4, h5, h6⟩ => ⟨m - 1, by omega, Wq', st', acc', va', by omega, h1, h2, h3, h4, h5, h6⟩, fun x H' hy => ?_⟩
    rw [drop_cons hi] at p
    obtain ⟨W2, l2, S2, r2⟩ := G.yl i _ Wq st H x H' (List.getElem?_eq_getElem hi) l S hy
    refine ⟨W2, st, wipeE en vs, _, (hE'.mono l2).wipe vs, S2, r2, ?_⟩
    simp only [compF] at p
    cases q : bt items[i] (wipeE en vs) with
    | none => simp only [q, Res.bind_bad] at p; exact False.elim p
    | some en' =>
      simp only [q] at p
      intro σ2 hE2 hf
      refine ⟨wipe_fix hs hf, W2, st, en', hE2, S2, ?_⟩
      cases qc : ct en' st with
      | exn x s => simp only [qc, Res.nox, Res.bind_bad] at p; exact False.elim p
      | bad => simp only [qc, Res.nox, Res.bind_bad] at p; exact False.elim p
      | ok t s3 =>
        simp only [qc, Res.nox, Res.bind_ok] at p
        intro W3 b H3 l3 S3 rb
        cases rb
        have lw : W1.Le W3 := l.trans (l2.trans l3)
        cases t with
        | false =>
          refine iteF ⟨W3, s3, acc, va, by omega, lw, S3, l3.pin _ _ (l2.pin _ _ hpin), ra.mono (l2.trans l3), ?_⟩
          simpa using p
        | true =>
          refine iteT ⟨W3, s3, en', hE2.mono l3, S3, ?_⟩
          simp only [if_true] at p
          cases qe : fe en' s3 with
          | exn x s => simp only [qe, Res.nox, Res.bind_bad] at p; exact False.elim p
          | bad => simp only [qe, Res.nox, Res.bind_bad] at p; exact False.elim p
          | ok y s4 =>
            simp only [qe, Res.nox, Res.bind_ok, bind_assoc] at p
            intro W4 v H4 l4 S4 rv
            have pin4 := l4.pin _ _ (l3.pin _ _ (l2.pin _ _ hpin))
            have e4 := (S4.pin _ _ pin4).1
            have ra4 := ra.mono (l2.trans (l3.trans l4))
            refine ⟨va, e4, ?_, ?_⟩
            · rw [ra4.length]; omega
            · have ht : ∀ vs, ¬ Rd H4 D (.tup vs) := fun vs h => by
                rcases h with h | ⟨o, h⟩ <;> · rw [e4] at h; cases h
              have hz' : ∀ o u, H4 D ≠ some (.frz o u) := fun o u h => by rw [e4] at h; cases h
              have S5 : Sim g (W4.noP D) s4 (upd H4 D (.lst (va ++ [v]))) := S4.setP pin4 ht hz'
              have S6 := S5.addP (p := D) (o := .lst (va ++ [v])) upd_same (S4.pin _ _ pin4).2.1 ⟨trivial, (S4.pin _ _ pin4).2.2.2⟩
              have l6 : W1.Le ((W4.noP D).addP D (.lst (va ++ [v]))) := (LB.Wd.noP_le (lw.trans l4) nP).trans (LB.Wd.addP_le _ _ _)
              refine ⟨_, s4, acc ++ [y], va ++ [v], by simp; omega, l6, S6, .inr ⟨rfl, rfl⟩, ?_, ?_⟩
              · exact Reps.mono (LB.Wd.addP_le _ _ _) (Reps.noP (ra4.append (.cons rv .nil)))
              · simpa [List.append_assoc] using p
  · have e : i = items.length := by omega
    subst e
    refine .inl ⟨G.stop Wq st H l S, ?_⟩
    rw [List.drop_length] at p
    simp only [compF, Res.bind_ok, List.append_nil] at p
    have e4 := (S.pin _ _ hpin).1
    cases fz with
    | true =>
      have S5 : Sim g (Wq.noP D) st H := S.noP
      refine p ((Wq.noP D).addL D va) _ H ((LB.Wd.noP_le l nP).trans (LB.Wd.addL_le _ _ _)) (S5.keepL ⟨e4, (S.pin _ _ hpin).2.1⟩ fun o q => q.2 rfl) (.lst (.inr ⟨rfl, rfl⟩) (Reps.mono (LB.Wd.addL_le _ _ _) (Reps.noP ra)))
    | false =>
      refine p ((Wq.addO st.nx D).noP D) _ H ?_ (S.ownP hpin ra) (.ref ?_)
      · exact LB.Wd.noP_le (l.trans S.addO_le) nP
      · show (if st.nx = st.nx then some D else Wq.io st.nx) = some D
        rw [if_pos rfl]
theorem se_lc {scope : Scope} {own : List (Str × Nat)} {f : FI} {is : List Nat} {bt : D → En → Option En} {ct : FB} {fe : FE} (fz : Bool) (hc : X.calm = true) (hN : X.N.Nodup) (hi : PI X tg iter (tI g Wx f)) (ok : BlkOk X.N X.env.scope scope own) (hsub : ∀ i ∈ is, i ∈ own.map (·.2))
    (hg : ∀ (s : Shared) (H : Hp) (C : Addr) (cl : List (Str × Addr)) (fp : List Addr), PG (X.blk s H scope (compEnvC scope cl C X.env) fp) tg (tB1 g is bt)) (ht : ∀ (s : Shared) (H : Hp) (C : Addr) (cl : List (Str × Addr)) (fp : List Addr), PTs (X.blk s H scope (compEnvC scope cl C X.env) fp) ifs (tT g noX ct))
    (he : ∀ (s : Shared) (H : Hp) (C : Addr) (cl : List (Str × Addr)) (fp : List Addr), PE (X.blk s H scope (compEnvC scope cl C X.env) fp) elt (tE g noX fe)) (hs : ∀ x, foldedSetIterable iter X.env x = pure x) :
    PE X (.ListComp elt [⟨tg, iter, ifs, 0⟩] scope pos) (tE g Wx (compL fz (own.map (·.2)) bt ct fe f)) :=
  (pe_lc hc hN hi ok hg ht he hs).lb fun σ H Q h => tLc_ok hsub h
theorem ss_setLc {i : Nat} {y : Str} {py spos : Pos} {scope : Scope} {own : List (Str × Nat)} {f : FI} {is : List Nat} {bt : D → En → Option En} {ct : FB} {fe : FE} (fz : Bool) (hc : X.calm = true) (hN : X.N.Nodup) (hy : X.N[i]? = some y) (hyl : X.env.scope.names.lookup y = some .local)
    (hsw : swapsWith (.ListComp elt [⟨tg, iter, ifs, 0⟩] scope pos) (some (.Name y py)) spos.line X.env = pure true) (hi : PI X tg iter (tI g Wx f)) (ok : BlkOk X.N X.env.scope scope own) (hsub : ∀ i ∈ is, i ∈ own.map (·.2))
    (hg : ∀ (s : Shared) (H : Hp) (C : Addr) (cl : List (Str × Addr)) (fp : List Addr), PG (X.blk s H scope (compEnvC scope cl C X.env) fp) tg (tB1 g is bt)) (ht : ∀ (s : Shared) (H : Hp) (C : Addr) (cl : List (Str × Addr)) (fp : List Addr), PTs (X.blk s H scope (compEnvC scope cl C X.env) fp) ifs (tT g noX ct))
    (he : ∀ (s : Shared) (H : Hp) (C : Addr) (cl : List (Str × Addr)) (fp : List Addr), PE (X.blk s H scope (compEnvC scope cl C X.env) fp) elt (tE g noX fe)) (hs : ∀ x, foldedSetIterable iter X.env x = pure x) :
    PS X (.Assign [.Name y py] (.ListComp elt [⟨tg, iter, ifs, 0⟩] scope pos) spos) (tS g Wx fun en st => (compL fz (own.map (·.2)) bt ct fe f en st).fl en fun d s => .nx (en.set i (some d)) s) :=
  (ps_setLc hc hN hy hyl hsw hi ok hg ht he hs).lb fun E σ H ⟨W, st, en, hE, S, p⟩ => by
    refine tLc_ok hsub (tS_step (R := Rep) (T := fun x H1 => gName i x σ H1 E.nx) hE S p fun d s W' x H' le hE' S' r p' => ?_)
    exact p' W' _ H' (.refl W') (hE'.set r i) S'
theorem sts_nil : PTs X [] (tT g Wx fun _ s => .ok true s) := pts_nil.lb fun σ H Q ⟨W, st, en, hE, S, p⟩ => p W true H (.refl W) S rfl
theorem sts_one {c : Expr} {ga : FB} (h : PT X c (tT g Wx ga)) : PTs X [c] (tT g Wx ga) := pts_one h
end
end LB
end

section
set_option Elab.async false
set_option linter.all false
set_option maxRecDepth 100000
set_option maxHeartbeats 4000000
/-! Defs: what a call of one does; calls. -/
namespace LB
open PySem PySem.Spec PyProof.Rows L2

def PostC (g : Sg) (Q : VK) (E : XK) (W : Wd) : Res D → Prop
  | .ok d s => ∀ W' v H', W.Le W' → Sim g W' s H' → Rep W' v d → Q v H'
  | .exn x s => ∀ W' cls dx H', W.Le W' → Sim g W' s H' → ExR g W' H' cls dx x → E cls dx H'
  | .bad => False
/-- what a call promises, by a plain function of data -/
def spF (g : Sg) (F : List D → Sto → Res D) : Sp := fun vs H Q E => ∃ W st ds, Reps W vs ds ∧ Sim g W st H ∧ PostC g Q E W (F ds st)
structure FnI (P : Program) (w : World) (mg : Str → Option Value) (base : Heap) (g : Sg) (k : Nat) (f : Addr) (fd : FuncData) (ps : List Str) (F : List D → Sto → Res D) : Prop where
  run : ∀ (A : Around) (outer : List Env) (s : Shared) (H : Hp) (args : Args) (us : List Value) (vs : List V) (Q : VK) (E : XK), Room k A → A.guards = some [] → Env0 P w g.K mg base A outer s H → BindsTo s fd args (ps.zip us) → Vals vs us →
    vs.length = ps.length → spF g F vs H Q E → codeAny (model P w) A (.call (.ref f) args) (CR (CX P w) outer P w H s Q E) s

/-- a def's own function: n slots, kp: whether its new objects outlive it -/
def defF (n : Nat) (kp : Bool) (fb : FS) (ds : List D) (st : Sto) : Res D := match fb (ds.map some ++ List.replicate (n - ds.length) none) st with
  | .nx _ s => .ok .non (if kp then s else s.cut st.nx)
  | .rt d s => .ok d (if kp then s else s.cut st.nx)
  | .exn x _ s => .exn x (if kp then s else s.cut st.nx)
  | _ => .bad
theorem EnR.begin {W : Wd} {N : List Str} : ∀ {vs : List V} {ds : List D}, Reps W vs ds → EnR W (L2.start N vs) (ds.map some ++ List.replicate (N.length - ds.length) none) := fun {vs ds} r => by
  have hl := r.length
  refine ⟨by simp [L2.start, hl], fun i d h => ?_⟩
  unfold L2.start
  by_cases hi : i < ds.length
  · rw [List.getElem?_append_left (by simpa using hi), List.getElem?_map] at h
    rw [List.getElem?_append_left (by simpa [hl] using hi), List.getElem?_map]
    cases q : ds[i]? with
    | none => rw [q] at h; cases h
    | some e =>
      rw [q] at h
      cases h
      obtain ⟨v, h1, h2⟩ := r.get q
      exact ⟨v, by rw [h1]; rfl, h2⟩
  · rw [List.getElem?_append_right (by simpa using Nat.le_of_not_lt hi), List.getElem?_replicate] at h
    split at h <;> cases h
theorem cutIf_ok {g : Sg} {W : Wd} {s : Sto} {H : Hp} {n : Nat} {kp : Bool} (S : Sim g W s H) : Sim g W (if kp then s else s.cut n) H := by
  cases kp with
  | true => exact S
  | false => exact S.cut

section
variable {P : Program} {w : World} {mg : Str → Option Value} {base : Heap} {g : Sg} {k : Nat} {f : Addr}
theorem fnI_of {x qual : Str} {params : Arguments} {body : List Stmt} {scope : Scope} {dvs : List V} {kws : List (Str × V)} {fd : FuncData} {N ps : List Str} {kp : Bool} {fb : FS} (Fd : FunD g.K x qual params body scope dvs kws f fd) (S : FnScope N ps scope)
    (hbody : ∀ (cdv : Value) (A : Around) (outer : List Env) (s : Shared) (H : Hp) (E : XK), Room k (A.deeper (envOfC qual scope s.heap.objs.size f cdv)) → A.guards = some [] →
      PSs (cxOf (CX P w) P w g.K mg base N qual scope f cdv A outer s H E) body (tS g (fun cls dx _ H => E cls dx H) fb)) :
    FnI P w mg base g (k + 1) f fd ps (defF N.length kp fb) := by
  obtain ⟨oc, od, dV, kV, doc, pm, an, cdv, ct, osl, rfl, lk, hcd, _, _⟩ := Fd.ex
  refine ⟨fun A outer s H args us vs Q E room gd env0 bt rv len prom => ?_⟩
  have inK : g.K.In s.heap := env0.mod.kin.keeps fun b o e => (env0.bs b o e).1
  have noLim : s.heap.NoLimit := env0.mod.nolimit.keeps fun b o e => (env0.bs b o e).1
  refine codeAny_call_function room.depth (inK _ _ lk) rfl S.co S.gen rfl (PySem.W.codeRec_of inK hcd) (bt _ _ _ _ (wpAny_newFunctionEnv_cells S.kind (fun ⟨n, v⟩ hy => ?_) fun env he s1 inCall => ?_))
  · exact (S.par n (List.of_mem_zip hy).1).imp id fun q => ⟨q, PySem.W.cellsFrom_some _ _ _ (.inl q)⟩
  · subst he
    refine ⟨noLim.keeps inCall.toInCall.keep, codeAny_func ?_⟩
    have J := inv_start (CX := CX P w) (E := E) S room.hd env0 len rv inCall
    obtain ⟨W, st, ds, rds, sim, post⟩ := prom
    have run := (hbody cdv A outer s H E (room.deeper _) gd).run [] s1 (L2.start N vs) H { nx := fun _ H' => Q .non H', rt := Q } J ⟨W, st, _, EnR.begin (N := N) rds, sim, ?_⟩
    · refine wpAny_mono run (fun fl s' hs => ?_) fun _ _ hs => hs
      cases fl with
      | brk => obtain ⟨_, _, _, q⟩ := hs; exact q.elim
      | cont => obtain ⟨_, _, _, q⟩ := hs; exact q.elim
      | next =>
        obtain ⟨σ', H', J', q⟩ := hs
        exact ⟨V.non, H', J'.os, J'.bare, J'.base, J'.hok, rfl, q⟩
      | ret u =>
        obtain ⟨v, σ', H', J', r, q⟩ := hs
        exact ⟨v, H', J'.os, J'.bare, J'.base, J'.hok, r, q⟩
    · unfold defF at post
      cases e : fb (ds.map some ++ List.replicate (N.length - ds.length) none) st with
      | nx en s => simp only [e] at post; exact fun W' σ' H' le _ S' => post W' .non H' le (cutIf_ok S') .non
      | rt d s => simp only [e] at post; exact fun W' v H' le S' r => post W' v H' le (cutIf_ok S') r
      | exn x en s => simp only [e] at post; exact fun W' cl dx σ' H' le _ S' r => post W' cl dx H' le (cutIf_ok S') r
      | bk en s => simp only [e] at post; exact post.elim
      | ct en s => simp only [e] at post; exact post.elim
      | bad => simp only [e] at post; exact post.elim
theorem FnI.mono {fd : FuncData} {ps : List Str} {F : List D → Sto → Res D} {j : Nat} (h : FnI P w mg base g j f fd ps F) (hj : j ≤ k) : FnI P w mg base g k f fd ps F :=
  ⟨fun A outer s H args us vs Q E room => h.run A outer s H args us vs Q E (room.mono hj)⟩
end

/-! ### calls -/
/-- how the arguments of a written call come to the parameters: by place, by word, by default -/
inductive Src where
  | ps (i : Nat) | kw (j : Nat) | df (i : Nat)
def Src.get {α : Type} (us ws ds : List α) : Src → Option α
  | .ps i => us[i]?
  | .kw j => ws[j]?
  | .df i => ds[i]?
def arr {α : Type} (us ws ds : List α) : List Src → Option (List α)
  | [] => some []
  | s :: r => match s.get us ws ds, arr us ws ds r with
    | some a, some l => some (a :: l)
    | _, _ => none
theorem arr_length {α : Type} {us ws ds : List α} : ∀ {ss : List Src} {l : List α}, arr us ws ds ss = some l → l.length = ss.length
  | [], l, h => by cases h; rfl
  | s :: r, l, h => by
    unfold arr at h
    split at h
    · rename_i a l' _ q
      cases h
      simp [arr_length q]
    · cases h
theorem arr_rel {vs zs es : List V} {us ws ds : List Value} (h1 : Vals vs us) (h2 : Vals zs ws) (h3 : Vals es ds) : ∀ {ss : List Src} {l : List V}, arr vs zs es ss = some l → ∃ l', arr us ws ds ss = some l' ∧ Vals l l'
  | [], l, h => by cases h; exact ⟨[], rfl, .nil⟩
  | s :: r, l, h => by
    unfold arr at h
    split at h
    · rename_i a l' q1 q2
      cases h
      obtain ⟨m, hm, rm⟩ := arr_rel h1 h2 h3 q2
      have : ∃ u, s.get us ws ds = some u ∧ RelV a u := by
        cases s with
        | ps i => exact h1.get q1
        | kw j => exact h2.get q1
        | df i => exact h3.get q1
      obtain ⟨u, hu, ru⟩ := this
      exact ⟨u :: m, by unfold arr; rw [hu, hm], .cons ru rm⟩
    · cases h
theorem arr_rep {W : Wd} {vs zs es : List V} {us ws ds : List D} (h1 : Reps W vs us) (h2 : Reps W zs ws) (h3 : Reps W es ds) : ∀ {ss : List Src} {l : List D}, arr us ws ds ss = some l → ∃ l', arr vs zs es ss = some l' ∧ Reps W l' l
  | [], l, h => by cases h; exact ⟨[], rfl, .nil⟩
  | s :: r, l, h => by
    unfold arr at h
    split at h
    · rename_i a l' q1 q2
      cases h
      obtain ⟨m, hm, rm⟩ := arr_rep h1 h2 h3 q2
      have : ∃ u, s.get vs zs es = some u ∧ Rep W u a := by
        cases s with
        | ps i => exact h1.get q1
        | kw j => exact h2.get q1
        | df i => exact h3.get q1
      obtain ⟨u, hu, ru⟩ := this
      exact ⟨u :: m, by unfold arr; rw [hu, hm], .cons ru rm⟩
    · cases h
/-- a def can be called so: n by place, the words ks, the parameters filled as src says; dvs: values of defaults -/
structure Bnd (K : PySem.W.Frag) (fd : FuncData) (ps : List Str) (n : Nat) (ks : List Str) (src : List Src) (dvs : List V) : Prop where
  to : ∃ ds : List Value, Vals dvs ds ∧ ∀ (s : Shared) (us ws l : List Value), K.In s.heap → us.length = n → ws.length = ks.length → arr us ws ds src = some l → BindsTo s fd ⟨us, ks.zip ws⟩ (ps.zip l)
  len : src.length = ps.length
/-- what a call in an expression does -/
def callF (F : List D → Sto → Res D) (n m : Nat) (src : List Src) (dds : List D) (fs fk : FA) : FE := fun en st => (fs en st).bind fun us s => (fk en s).bind fun ws s => if us.length = n ∧ ws.length = m then (match arr us ws dds src with
  | some l => F l s
  | none => .bad) else .bad
section
variable {X : Cx} {g : Sg} {Wx : WX} {k : Nat} {f : Addr} {fd : FuncData} {ps ks : List Str} {F : List D → Sto → Res D} {n : Nat} {src : List Src} {dvs : List V} {dds : List D} {x : Str} {p pos : Pos} {es : List Expr} {kws : List Keyword} {fs fk : FA}
/-- the callee runs -/
theorem run_fnI {pins : List (Addr × Obj)} {σ : L2.St} {H : Hp} {s : Shared} {Q : VK} {us ws : List Value} {vs zs : List V} (hK : X.K = g.K) (Fi : FnI X.prog X.w X.mg X.base g k f fd ps F) (hr : Room k X.A) (gd : X.A.guards = some []) (hb : Bnd g.K fd ps n ks src dvs) (hd : ∀ W, Reps W dvs dds) (tk : Takes X Wx)
    (I : Inv X pins σ H s) (r : Vals vs us) (rz : Vals zs ws) {W : Wd} {st : Sto} {ds es : List D} (S : Sim g W st H) (r1 : Reps W vs ds) (r2 : Reps W zs es) (l1 : ds.length = n) (l2 : es.length = ks.length)
    (h : Post g Wx Rep σ Q W (match arr ds es dds src with
      | some l => F l st
      | none => .bad)) : wpAny (model X.prog X.w) X.A (call (.ref f) us (ks.zip ws)) (EP X pins σ Q) X.xe s := by
  cases q : arr ds es dds src with
  | none => rw [q] at h; exact h.elim
  | some l =>
    rw [q] at h
    have h : Post g Wx Rep σ Q W (F l st) := h
    obtain ⟨lv, hlv, rl⟩ := arr_rep r1 r2 (hd W) q
    obtain ⟨dsv, rdv, to⟩ := hb.to
    obtain ⟨lu, hlu, rlu⟩ := arr_rel r rz rdv hlv
    have len : lv.length = ps.length := by rw [arr_length hlv, hb.len]
    have env0 : Env0 X.prog X.w g.K X.mg X.base X.A X.stack s H := hK ▸ I.env0
    have bt := to s us ws lu (hK ▸ I.kIn) (by rw [← r.length, r1.length]; exact l1) (by rw [← rz.length, r2.length]; exact l2) hlu
    refine wpAny_call (codeAny_mono (Fi.run X.A X.stack s H ⟨us, ks.zip ws⟩ lu lv Q (fun cls dx H' => Wx cls dx σ H') hr gd env0 bt rlu len ⟨W, st, l, rl, S, ?_⟩) fun res s' hq => ?_)
    · cases e : F l st with
      | ok d s => rw [e] at h; exact h
      | exn x s => rw [e] at h; exact h
      | bad => rw [e] at h; exact h
    · cases res with
      | error e => exact tk e s' (XE.of_call I (fun cls d H' z => z) hq)
      | ok fl =>
        cases fl with
        | ret u => exact I.after hq
        | next => exact False.elim hq
        | brk => exact False.elim hq
        | cont => exact False.elim hq
end
end LB
end

section
set_option Elab.async false
set_option linter.all false
set_option maxRecDepth 100000
set_option maxHeartbeats 4000000
/-! Written calls. -/
namespace LB
open PySem PySem.Spec PyProof.Rows L2
def noStar : Expr → Bool
  | .Starred .. => false
  | _ => true
theorem star_cons {e : Expr} {es : List Expr} {env : Env} (h : noStar e = true) : starEach (e :: es) env = (false, eval e env) :: starEach es env := by
  cases e <;> first | rfl | cases h
theorem star_any {env : Env} {pos : Pos} : ∀ {es : List Expr}, es.all noStar = true → (backTo pos (starEach es env)).any (·.1) = false
  | [], _ => rfl
  | e :: es, h => by
    simp only [List.all_cons, Bool.and_eq_true] at h
    rw [star_cons h.1]
    have ih := star_any (env := env) (pos := pos) h.2
    simpa [backTo] using ih
def kwNames : List Keyword → List (Option Str)
  | [] => []
  | ⟨n, _, _⟩ :: r => n :: kwNames r
theorem kw_each {env : Env} {pos : Pos} : ∀ {kws : List Keyword} {ks : List Str}, kwNames kws = ks.map some →
    (backToKw pos (keywordEach kws env)).all (·.1.isSome) = true ∧ (backToKw pos (keywordEach kws env)).filterMap (·.1) = ks ∧ (backToKw pos (keywordEach kws env)).any (·.1.isNone) = false
  | [], [], _ => ⟨rfl, rfl, rfl⟩
  | [], _ :: _, h => by cases h
  | ⟨n, v, p⟩ :: r, [], h => by cases h
  | ⟨n, v, p⟩ :: r, k :: ks, h => by
    simp only [kwNames, List.map_cons, List.cons.injEq] at h
    obtain ⟨rfl, h⟩ := h
    obtain ⟨h1, h2, h3⟩ := kw_each (env := env) (pos := pos) h
    refine ⟨?_, ?_, ?_⟩
    · simpa [keywordEach, backToKw] using h1
    · simpa [keywordEach, backToKw] using h2
    · simpa [keywordEach, backToKw] using h3
section
variable {X : Cx} {g : Sg} {Wx : WX} {k : Nat} {f : Addr} {fd : FuncData} {ps ks : List Str} {F : List D → Sto → Res D} {n : Nat} {src : List Src} {dvs : List V} {dds : List D} {x : Str} {p pos : Pos} {es : List Expr} {kws : List Keyword} {fs fk : FA}
/-- behind the arguments by place: those by word, then the callee -/
theorem call_mid {pins : List (Addr × Obj)} {σ : L2.St} {Q : VK} {en : En} (hK : X.K = g.K) (Fi : FnI X.prog X.w X.mg X.base g k f fd ps F) (hr : Room k X.A) (gd : X.A.guards = some []) (hb : Bnd g.K fd ps n ks src dvs) (hd : ∀ W, Reps W dvs dds) (tk : Takes X Wx) (hkw : PK X kws (tA g Wx fk))
    {us : List Value} {vs : List V} {s1 : Shared} {H1 : Hp} {W1 : Wd} {st1 : Sto} {as : List D} (I1 : Inv X pins σ H1 s1) (rv : Vals vs us) (hE1 : EnR W1 σ en) (S1 : Sim g W1 st1 H1) (ra : Reps W1 vs as)
    (post1 : Post g Wx Rep σ Q W1 ((fk en st1).bind fun ws s => if as.length = n ∧ ws.length = ks.length then (match arr as ws dds src with
        | some l => F l s
        | none => .bad) else .bad)) :
    wpAny (model X.prog X.w) X.A (evalAll ((backToKw pos (keywordEach kws X.env)).map (·.2))) (fun ws s2 => X.K.In s2.heap ∧ wpAny (model X.prog X.w) X.A (call (.ref f) us (ks.zip ws)) (EP X pins σ Q) X.xe s2) X.xe s1 := by
  refine thn (hkw.run pos pins s1 σ H1 _ I1 (tG_step (T := fun zs H2 => ∃ W2 st2 bs, Sim g W2 st2 H2 ∧ Reps W2 zs bs ∧ Reps W2 vs as ∧ Post g Wx Rep σ Q W2 (if as.length = n ∧ bs.length = ks.length then (match arr as bs dds src with
        | some l => F l st2
        | none => .bad) else .bad)) hE1 S1 post1 fun bs s2 W2 zs H2 le _ S2 rb post2 => ⟨W2, s2, bs, S2, rb, ra.mono le, post2⟩)) fun ws s2 ⟨zs, H2, I2, rz, W2, st2, bs, S2, rb, ra2, post2⟩ => ⟨I2.kIn, ?_⟩
  by_cases hc : as.length = n ∧ bs.length = ks.length
  · rw [if_pos hc] at post2
    exact run_fnI hK Fi hr gd hb hd tk I2 rv rz S2 ra2 rb hc.1 hc.2 post2
  · rw [if_neg hc] at post2; exact post2.elim
theorem se_call {e : Expr} (hK : X.K = g.K) (Fi : FnI X.prog X.w X.mg X.base g k f fd ps F) (hr : Room k X.A) (gd : X.A.guards = some []) (hb : Bnd g.K fd ps n ks src dvs) (hd : ∀ W, Reps W dvs dds) (tk : Takes X Wx)
    (hg : Gl X x) (hm : X.mg x = some (.ref f)) (hk : PySem.W.keepIn g.K (.ref f) = true) (hdb : (x == ("__debug__" : Str)) = false) (ha : PA X (e :: es) (tA g Wx fs)) (hkw : PK X kws (tA g Wx fk)) (hes : (e :: es).all noStar = true) (hks : kwNames kws = ks.map some) :
    PE X (.Call (.Name x p) (e :: es) kws pos) (tE g Wx (callF F n ks.length src dds fs fk)) := by
  refine ⟨fun pins s σ H Q I ⟨W, st, en, hE, S, post⟩ => wpAny_Call_Name_kw (ld_glob I hg hm ?_ hdb)⟩
  have kx : PySem.W.keepIn X.K (.ref f) = true := hK ▸ hk
  obtain ⟨k1, k2, k3⟩ := kw_each (env := X.env) (pos := pos) hks
  have h1 : noStar e = true := by simp only [List.all_cons, Bool.and_eq_true] at hes; exact hes.1
  refine PySem.W.callWith_KW (h₀ := X.base) I.ok.mod.kin kx k1 ?_ (by rw [star_any hes, k3]; rfl) (star_cons h1)
  rw [k2]
  refine thn (ha.run pos pins s σ H _ I (tG_step (T := fun vs H1 => ∃ W1 st1 as, EnR W1 σ en ∧ Sim g W1 st1 H1 ∧ Reps W1 vs as ∧ Post g Wx Rep σ Q W1 ((fk en st1).bind fun ws s => if as.length = n ∧ ws.length = ks.length then (match arr as ws dds src with
      | some l => F l s
      | none => .bad) else .bad)) hE S post fun as s1 W1 vs H1 le hE1 S1 ra post1 => ⟨W1, s1, as, hE1, S1, ra, post1⟩)) fun us s1 ⟨vs, H1, I1, rv, W1, st1, as, hE1, S1, ra, post1⟩ => ?_
  exact call_mid hK Fi hr gd hb hd tk hkw I1 rv hE1 S1 ra post1
theorem se_call0 (hK : X.K = g.K) (Fi : FnI X.prog X.w X.mg X.base g k f fd ps F) (hr : Room k X.A) (gd : X.A.guards = some []) (hb : Bnd g.K fd ps n ks src dvs) (hd : ∀ W, Reps W dvs dds) (tk : Takes X Wx)
    (hg : Gl X x) (hm : X.mg x = some (.ref f)) (hk : PySem.W.keepIn g.K (.ref f) = true) (hdb : (x == ("__debug__" : Str)) = false) (hkw : PK X kws (tA g Wx fk)) (hks : kwNames kws = ks.map some) :
    PE X (.Call (.Name x p) [] kws pos) (tE g Wx (callF F n ks.length src dds (fun _ s => .ok [] s) fk)) := by
  refine ⟨fun pins s σ H Q I ⟨W, st, en, hE, S, post⟩ => wpAny_Call_Name_kw (ld_glob I hg hm ?_ hdb)⟩
  have kx : PySem.W.keepIn X.K (.ref f) = true := hK ▸ hk
  obtain ⟨k1, k2, k3⟩ := kw_each (env := X.env) (pos := pos) hks
  refine PySem.W.callWith_KW0 (h₀ := X.base) I.ok.mod.kin kx k1 ?_ (by rw [k3]; rfl)
  rw [k2]
  exact call_mid (us := []) (vs := []) (as := []) hK Fi hr gd hb hd tk hkw I .nil hE S .nil post
end
end LB
end

section
set_option Elab.async false
set_option linter.all false
set_option maxRecDepth 100000
set_option maxHeartbeats 4000000
/-! Data as keys, sorted data, sorted sets: what is told. -/
namespace LB
open PySem PySem.Spec PyProof.Rows L2
/-- how many unlike ones -/
def unlike {α : Type} [DecidableEq α] : List α → List α → List α
  | acc, [] => acc
  | acc, x :: xs => unlike (if x ∈ acc then acc else acc ++ [x]) xs
section
variable {α : Type}
def insS (le : α → α → Bool) (x : α) : List α → List α
  | [] => [x]
  | y :: r => if le x y then x :: y :: r else y :: insS le x r
def isort (le : α → α → Bool) : List α → List α
  | [] => []
  | x :: r => insS le x (isort le r)
end
mutual
def keyN : D → Option NestedKey
  | .non => some .none
  | .int i => some (.num i)
  | .str x => some (.text x)
  | .tup ds => (keyNs ds).map .tup
  | _ => none
def keyNs : List D → Option (List NestedKey)
  | [] => some []
  | d :: ds => match keyN d, keyNs ds with
    | some x, some xs => some (x :: xs)
    | _, _ => none
end
mutual
def ofN : NestedKey → D
  | .none => .non
  | .num i => .int i
  | .text x => .str x
  | .tup ks => .tup (ofNs ks)
def ofNs : List NestedKey → List D
  | [] => []
  | k :: ks => ofN k :: ofNs ks
end
def tokD (d : D) : List (Int ⊕ List Nat) := match pyD d with
  | some x => PySem.W.keyToks x
  | none => []
def leD : D → D → Bool := PySem.W.sortLe (listOrd itemOrd) false tokD
def alikeB (ps : List PyData) : Bool := ps.all fun x => ps.all fun y => PySem.W.alike x y
def tup1 : PyData → Bool
  | .tuple (_ :: _) => true
  | _ => false
def noTN : PyData → Bool
  | .none => false
  | .tuple _ => false
  | _ => true
def srtOk (ps : List PyData) : Bool := alikeB ps && ((ps.all tup1 || ps.all noTN) && ps.all fun x => decide (x.depth ≤ 8))
def srtD (ds : List D) : Option (List D) := (pyDs ds).bind fun ps => if srtOk ps then some (isort leD ds) else none
def uniN (ks : List NestedKey) : List NestedKey := unlike [] ks
def kindS (tp : Bool) : NestedKey → Bool
  | .tup _ => tp
  | .num _ => !tp
  | _ => false
structure ClF where
  bt : D → En → Option En
  is : List Nat
  vs : List Nat
  ct : FB
  f : FI
def runC {α : Type} (bt : D → En → Option En) (vs : List Nat) (ct : FB) (inner : En → α → Sto → Res α) : List D → En → α → Sto → Res α
  | [], _, a, s => .ok a s
  | d :: ds, en, a, s => match bt d (wipeE en vs) with
    | none => .bad
    | some en' => (ct en' s).nox.bind fun t s => if t then (inner en' a s).bind fun a s => runC bt vs ct inner ds en a s else runC bt vs ct inner ds en a s
def nxC {α : Type} (em : En → α → Sto → Res α) : List ClF → En → α → Sto → Res α
  | [] => em
  | c :: r => fun en a s => (c.f en s).nox.bind fun items s => runC c.bt c.vs c.ct (nxC em r) items en a s
def vsOf : List ClF → List Nat
  | [] => []
  | c :: _ => c.vs
def inSet (tp : Bool) (ks : List NestedKey) (k : NestedKey) : Bool := decide (ks.length + 1 < 64) && (decide (k.depth ≤ 8) && kindS tp k)
/-- an element goes into the set -/
def emS (tp : Bool) (fe : FE) : En → List NestedKey → Sto → Res (List NestedKey) := fun en ks s => (fe en s).nox.bind fun y s => match keyN y with
  | some k => if inSet tp ks k then .ok (ks ++ [k]) s else .bad
  | none => .bad
/-- what it does -/
def sortCL (fz tp : Bool) (vs : List Nat) (bt : D → En → Option En) (ct : FB) (f : FI) (cs : List ClF) (fe : FE) : FE := fun en st => (f en st).bind fun items s => (runC bt vs ct (nxC (emS tp fe) cs) items en [] s).nox.bind fun ks s =>
  liftO (if ks.length < 64 then (srtD (ofNs (uniN ks))).map fun ds => mkL fz ds s else none)
def sortF (fz : Bool) (d : D) (st : Sto) : Option (D × Sto) := (getL st d).bind fun ds => if ds.length ≤ sizeLine then (srtD ds).map fun es => mkL fz es st else none
/-- sorted(set(xs)), xs a list of tuples -/
def sortSF (fz : Bool) (d : D) (st : Sto) : Option (D × Sto) := (getL st d).bind fun ds => (keyNs ds).bind fun ks => if ks.length < 64 ∧ (ks.all fun k => decide (k.depth ≤ 8) && kindS true k) = true then (srtD (ofNs (uniN ks))).map fun es => mkL fz es st else none
end LB
end

section
set_option Elab.async false
set_option linter.all false
set_option maxRecDepth 100000
set_option maxHeartbeats 4000000
/-! Further pieces: a tuple turned about, isinstance, repr, enumerate. -/
namespace LB
open PySem PySem.Spec PyProof.Rows L2
def noStarE : Expr → Bool
  | .Starred .. => false
  | _ => true
section
variable {prog : Program} {w : World} {A : Around} {E : Value → Shared → Prop} {s : Shared}
theorem back_adjust (n : Nat) : Builtin.Slice.sliceAdjust none none (-1) (n : Int) = ((n : Int) - 1, -1) := rfl
theorem back_places (n : Nat) : Builtin.Slice.slicePlaces ((n : Int) - 1) (-1) (-1) = n := by
  unfold Builtin.Slice.slicePlaces
  rw [if_neg (by decide)]
  cases n with
  | zero => rfl
  | succ m =>
    rw [if_pos (by omega)]
    show ((((m + 1 : Nat) : Int) - 1 - -1 - 1) / 1 + 1).toNat = m + 1
    rw [Int.ediv_one]
    omega
theorem back_pick (xs : Array Value) : ((List.range xs.size).filterMap fun (k : Nat) => xs[(((xs.size : Nat) : Int) - 1 + (k : Int) * (-1)).toNat]?) = xs.toList.reverse := by
  have e : (List.range xs.size).filterMap (fun (k : Nat) => xs[(((xs.size : Nat) : Int) - 1 + (k : Int) * (-1)).toNat]?) = ((List.range xs.size).map fun k => xs.size - 1 - k).filterMap fun x => xs[x]? := by
    rw [List.filterMap_map]
    congr 1
    funext k
    have : (((xs.size : Nat) : Int) - 1 + (k : Int) * (-1)).toNat = xs.size - 1 - k := by omega
    show xs[(((xs.size : Nat) : Int) - 1 + (k : Int) * (-1)).toNat]? = xs[xs.size - 1 - k]?
    rw [this]
  rw [e, PySem.W.krv_range, List.filterMap_reverse, PySem.W.krv_all]
theorem back_applied {sl : Addr} {n : Nat} {vs : Value} {Q : Int × Int × Nat → Shared → Prop} (hs : s.heap.IsSliceOf sl .none .none vs) (hv : IsPart vs (some (-1))) (h : Q ((n : Int) - 1, -1, n) s) :
    wpAny (model prog w) A (Builtin.Slice.sliceApplied (.ref sl) (pure (n : Int))) Q E s := by
  obtain ⟨os, hos, hcs, hds⟩ := id hs
  have hu : ∃ u, vs = .int (-1) u := by
    cases hv
    exact ⟨_, rfl⟩
  obtain ⟨u, rfl⟩ := hu
  unfold Builtin.Slice.sliceApplied Builtin.Slice.sliceFields
  refine wpAny_bind (wpAny_bind (wpAny_field hos hds (x := .none) rfl (wpAny_bind (wpAny_field hos hds (x := .none) rfl (wpAny_bind (wpAny_field hos hds (x := .int (-1) u) rfl (wpAny_pure ?_)))))))
  refine wpAny_bind (slicePart_int ?_)
  show wpAny _ _ (if ((-1 : Int) == 0) = true then _ else _) _ _ s
  rw [if_neg (by decide)]
  refine wpAny_bind (slicePart_none (wpAny_bind (slicePart_none (wpAny_bind (wpAny_pure ?_)))))
  show wpAny _ _ (match Builtin.Slice.sliceAdjust none none (-1) (n : Int) with | (lo, hi) => pure (lo, (-1 : Int), Builtin.Slice.slicePlaces lo hi (-1))) _ _ s
  rw [back_adjust]
  show wpAny _ _ (pure ((n : Int) - 1, (-1 : Int), Builtin.Slice.slicePlaces ((n : Int) - 1) (-1) (-1))) _ _ s
  rw [back_places]
  exact wpAny_pure h
theorem back_get {t sl : Addr} {items : Array Value} {vs : Value} {Q : Value → Shared → Prop} (ht : IsTup s.heap t items) (hs : s.heap.IsSliceOf sl .none .none vs) (hv : IsPart vs (some (-1)))
    (h : Q (.ref s.heap.objs.size) { s with heap := s.heap.push { cls := .type "tuple", data := .seq items.toList.reverse.toArray } }) (hsz : items.size ≤ sizeLine) : wpAny (model prog w) A (getItem (.ref t) (.ref sl)) Q E s := by
  have fits : sizeOk (.seq items.toList.reverse.toArray) := by
    show items.toList.reverse.toArray.size ≤ sizeLine
    rw [List.size_toArray, List.length_reverse, Array.length_toList]
    exact hsz
  obtain ⟨os, hos, hcs, hds⟩ := id hs
  have isSl : s.TypeIs (.ref sl) "slice" := ⟨os, hos, hcs⟩
  unfold getItem
  try with_reducible refine wpAny_holding ?_
  first | refine wpAny_bind (wpAny_pure ?_) | skip
  refine wpAny_bind (wpAny_sequenceKey ht.typeIs (by decide) (wpAny_bind (wpAny_callSpecial?_slot (name := Str.ofString "__getitem__") ht.typeIs PyProof.Rows.slot_tuple_getitem (wpAny_call_entry PyProof.Rows.slot_tuple_getitem ht.typeIs entry_tuple_getitem ?_ (args_tuple_getitem _ _)))))
  show wpAny _ _ (Builtin.Tuple.tupleItemsOf (.ref t) >>= _) _ _ s
  refine wpAny_bind (tupleItemsOf_ ht (wpAny_bind (wpAny_typeOf isSl ?_)))
  rw [if_pos (by decide)]
  refine wpAny_bind (back_applied hs hv ?_)
  show wpAny _ _ (if (((items.size : Int) - 1) == 0 && (-1 : Int) == 1 && items.size == items.size) = true then _ else _) _ _ s
  rw [if_neg (by simp), back_pick]
  first
    | exact wpAny_bind (m := Builtin.Tuple.tupleExact _) (wpAny_newObj_type (wpAny_pure ⟨_, rfl, wpAny_pure h⟩) fits)
    | exact wpAny_bind (m := Builtin.Tuple.tupleExact _) (wpAny_newObj_type (wpAny_bind (wpAny_pure (wpAny_pure ⟨_, rfl, wpAny_pure h⟩))) fits)
    | exact wpAny_bind (wpAny_bind (m := Builtin.Tuple.tupleExact _) (wpAny_newObj_type (wpAny_pure (wpAny_pure ⟨_, rfl, wpAny_pure h⟩)) fits))
    | exact wpAny_bind (wpAny_bind (m := Builtin.Tuple.tupleExact _) (wpAny_newObj_type (wpAny_pure ⟨_, rfl, wpAny_pure h⟩) fits))
end
section
variable {X : Cx} {g : Sg} {Wx : WX} {a : Expr} {fa : FE} {pos : Pos}
/-- t[::-1] -/
theorem pe_revT {e : Expr} {te : TE} {k : Nat} {p1 p2 p3 pos : Pos} (he : PE X e te) : PE X (.Subscript e (.Slice none none (some (.UnaryOp .USub (.Constant (.int 1) k p1) p2)) p3) pos)
    (fun σ H Q => te σ H fun x H1 => ∃ a xs, x = .ref a ∧ SqT X.K H1 a xs ∧ ∀ p, H1 p = none → Q (.ref p) (upd H1 p (.tup xs.reverse))) := by
  refine ⟨fun pins s σ H Q I h => Subscript_ (thn (he.run pins s σ H _ I h) fun v s1 ⟨x, H1, I1, r1, a, xs, ex, hx, q⟩ => ?_)⟩
  subst ex
  cases r1
  have hst : PO X (some (.UnaryOp .USub (.Constant (.int 1) k p1) p2)) (tPart (tUn (rU fun i => .int (-i)) (tC (.int 1)))) := po_some (pe_un un_neg pe_int)
  refine wpAny_Slice (thn (po_none.run pins s1 σ H1 (fun o H2 => o = none ∧ H2 = H1) I1 ⟨rfl, rfl⟩) fun vl s2 ⟨l, H2, I2, pl, el, e2⟩ => ?_)
  subst el e2
  refine thn (po_none.run pins s2 σ H2 (fun o H3 => o = none ∧ H3 = H2) I2 ⟨rfl, rfl⟩) fun vu s3 ⟨u, H3, I3, pu, eu, e3⟩ => ?_
  subst eu e3
  refine thn (hst.run pins s3 σ H3 (fun o H4 => o = some (-1) ∧ H4 = H3) I3 ⟨1, rfl, -1, rfl, rfl, rfl⟩) fun vs s4 ⟨o, H4, I4, ps, eo, e4⟩ => ?_
  subst eo e4
  have hl : vl = .none := by cases pl; rfl
  have hu : vu = .none := by cases pu; rfl
  subst hl hu
  have J : Inv X pins σ H4 { s4 with heap := s4.heap.push { cls := .type "slice", data := .fields #[.none, .none, vs] } } := I4.kept (t' := s4.toks) fun b ob q => Heap.get?_push_of_some _ q
  obtain ⟨its, r, ht, hz⟩ := J.tuple hx
  have hlen := r.length
  show wpAny (model X.prog X.w) X.A (subscriptTail e (.Slice none none (some (.UnaryOp .USub (.Constant (.int 1) k p1) p2)) p3) (.ref a) (.ref s4.heap.objs.size)) (EP X pins σ Q) X.xe { s4 with heap := s4.heap.push { cls := .type "slice", data := .fields #[.none, .none, vs] } }
  refine tail_any (ops := [.ref a, .ref s4.heap.objs.size]) ht.typeIs PyProof.Rows.slot_tuple_getitem.lookup ?_ (by with_unfolding_all rfl)
  refine back_get ht (Heap.IsSliceOf.new _ .none .none vs) ps ?_ (by rw [List.size_toArray]; omega)
  refine ⟨.ref _, _, J.laid (t' := s4.toks) (o := .tup xs.reverse) (fun b ob q => Heap.get?_push_of_some _ q) (Nat.le_refl _) ?_, rfl, q _ (J.hok.fresh (Nat.le_refl _))⟩
  exact ⟨by rw [List.length_reverse]; exact hz, _, r.reverse, IsTup.new _ _⟩
def revF (fz : Bool) : D → Sto → Option (D × Sto) := fun d st => match d with
  | .tup ds => some (.tup ds.reverse, st)
  | d => (getL st d).map fun ds => mkL fz ds.reverse st
theorem se_rev (fz : Bool) {k : Nat} {p1 p2 p3 : Pos} (hK : X.K = g.K) (ha : PE X a (tE g Wx fa)) : PE X (.Subscript a (.Slice none none (some (.UnaryOp .USub (.Constant (.int 1) k p1) p2)) p3) pos) (tE g Wx fun en st => (fa en st).bind fun d s => liftO (revF fz d s)) := by
  have both : PE X (.Subscript a (.Slice none none (some (.UnaryOp .USub (.Constant (.int 1) k p1) p2)) p3) pos) (fun σ H Q => tRevL X.K (tE g Wx fa) σ H Q ∨ tE g Wx fa σ H fun x H1 => ∃ a xs, x = .ref a ∧ SqT X.K H1 a xs ∧ ∀ p, H1 p = none → Q (.ref p) (upd H1 p (.tup xs.reverse))) :=
    ⟨fun pins s σ H Q I q => q.elim ((pe_revL ha).run pins s σ H Q I) ((pe_revT ha).run pins s σ H Q I)⟩
  refine both.lb fun σ H Q ⟨W, st, en, hE, S, p⟩ => ?_
  cases e : fa en st with
  | bad => simp only [e, Res.bind_bad] at p; exact p.elim
  | exn x s =>
    simp only [e, Res.bind_exn] at p
    exact .inl ⟨W, st, en, hE, S, by rw [e]; exact p⟩
  | ok d s =>
    simp only [e, Res.bind_ok] at p
    by_cases ht : ∃ ds, d = .tup ds
    · obtain ⟨ds, rfl⟩ := ht
      refine .inr ⟨W, st, en, hE, S, ?_⟩
      rw [e]
      intro W' x H' le S' r
      obtain ⟨b, vs, rfl, hb, rb⟩ := getT_ok S' r rfl
      refine ⟨b, vs, rfl, hK ▸ hb, fun q hq => ?_⟩
      obtain ⟨W2, le2, S2, r2⟩ := mkT_ok S' hq rb.reverse
      exact p W2 _ _ (le.trans le2) S2 r2
    · refine .inl ⟨W, st, en, hE, S, ?_⟩
      rw [e]
      intro W' x H' le S' r
      have p' : Post g Wx Rep σ Q W (liftO ((getL s d).map fun ds => mkL fz ds.reverse s)) := by
        cases d <;> first | exact p | exact absurd ⟨_, rfl⟩ ht
      cases q : getL s d with
      | none => rw [q] at p'; exact p'.elim
      | some ds =>
        rw [q] at p'
        obtain ⟨b, vs, rfl, hb, rb⟩ := getL_ok S' r q
        refine ⟨b, vs, rfl, hK ▸ hb, fun q hq => ?_⟩
        obtain ⟨W2, le2, S2, r2⟩ := mkL_ok S' hq rb.reverse fz
        exact p' W2 _ _ (le.trans le2) S2 r2
/-! ### isinstance of a built-in class -/
def tyD (st : Sto) : D → Option String
  | .non => some "NoneType"
  | .bl _ => some "bool"
  | .int _ => some "int"
  | .str _ => some "str"
  | .tup _ => some "tuple"
  | .lst _ => some "list"
  | .scr _ => some "list"
  | .ref n => match st.ob n with
    | some (.lst _) => some "list"
    | some (.dct _ _) => some "dict"
    | _ => none
  | .exc _ _ _ => none
  | .fn _ => none
  | .kdc _ _ => none
  | .dct _ _ => some "dict"
theorem tyD_ok {g : Sg} {W : Wd} {st : Sto} {H : Hp} (S : Sim g W st H) {v : V} {d : D} {t : String} (r : Rep W v d) (h : tyD st d = some t) : TyX g.K H v (.type t) := by
  cases r with
  | non => simp only [tyD] at h; cases h; exact .base .non
  | bl b => simp only [tyD] at h; cases h; exact .base (.bl b)
  | int i => simp only [tyD] at h; cases h; exact .base (.int i)
  | str x => simp only [tyD] at h; cases h; exact .base (.str x)
  | tup q r =>
    simp only [tyD] at h; cases h
    rcases S.tu _ _ q with (z | ⟨o, z⟩) | ⟨o, its, n, z, c, _⟩
    · exact .base (.tup z)
    · exact .fTuple z
    · exact .kTuple z c
  | lst q r => simp only [tyD] at h; cases h; exact .base (.lst (S.fz _ _ q).1)
  | scr q =>
    simp only [tyD] at h; cases h
    rcases S.sc _ _ q with ⟨o, z⟩ | ⟨o, its, n, z, c, _⟩
    · exact .base (.frz z)
    · exact .kList z c
  | @ref a n e =>
    simp only [tyD] at h
    split at h
    · rename_i ds q
      cases h
      obtain ⟨a', e', vs, hv, r⟩ := S.ob n _ q
      rw [e] at e'; cases e'
      exact .base (.lst hv)
    · rename_i ks ds q
      cases h
      obtain ⟨a', e', vs, hv, r⟩ := S.ob n _ q
      rw [e] at e'; cases e'
      exact .base (.dK hv)
    · cases h
  | exc0 _ => simp [tyD] at h
  | fn _ => simp [tyD] at h
  | kdc _ _ _ => simp [tyD] at h
  | exc _ _ _ _ => simp [tyD] at h
  | dct q _ _ => simp only [tyD] at h; cases h; exact .fDict (S.fz _ _ q).1
def isiF (T : String) (d : D) (st : Sto) : Option (D × Sto) := (tyD st d).bind fun t => (kitB t T).map fun b => (.bl b, st)
theorem se_isi {T : String} {x : Str} {p p2 : Pos} (hK : X.K = g.K) (ha : PE X a (tE g Wx fa)) (hg : Gl X "isinstance") (hm : X.mg "isinstance" = none) (hgT : Gl X x) (hmT : X.mg x = none) (hv : bootBuiltins x = some (.type T)) (hn : x ≠ "__name__") (hd : (x == ("__debug__" : Str)) = false) (hs : noStarE a = true) :
    PE X (.Call (.Name "isinstance" p) [a, .Name x p2] [] pos) (tE g Wx fun en st => (fa en st).bind fun d s => liftO (isiF T d s)) := by
  refine (pe_callB call_isi hg hm (by decide +kernel) (pa_cons ha (pa_cons (pe_bltn (v := .ty T) hgT hmT hv rfl hn hd) pa_nil rfl) (by cases a <;> first | rfl | cases hs)) (by decide) (by decide) (by cases a <;> first | rfl | cases hs) rfl).lb fun σ H Q ⟨W, st, en, hE, S, p⟩ => ?_
  refine tG_step hE S p fun d s W' x H' le hE' S' r p' => ?_
  unfold isiF at p'
  cases e : tyD s d with
  | none => rw [e] at p'; exact p'.elim
  | some t =>
    cases e2 : kitB t T with
    | none => simp only [e, Option.bind_some, e2] at p'; exact p'.elim
    | some b =>
      simp only [e, Option.bind_some, e2] at p'
      exact ⟨x, .ty T, .type t, .type T, b, rfl, .ty T, hK ▸ tyD_ok S' r e, kit_ty e2, p' W' _ H' (.refl W') S' (.bl _)⟩
end
end LB
end

section
set_option Elab.async false
set_option linter.all false
set_option maxRecDepth 100000
set_option maxHeartbeats 4000000
/-! enumerate. -/
namespace LB
open PySem PySem.Spec PyProof.Rows L2
/-- the numbered items -/
def enF (c : Int) : List D → List D
  | [] => []
  | d :: ds => .tup [.int c, d] :: enF (c + 1) ds
theorem enF_length : ∀ (c : Int) (ds : List D), (enF c ds).length = ds.length
  | _, [] => rfl
  | c, d :: ds => congrArg (· + 1) (enF_length (c + 1) ds)
theorem enF_get : ∀ {c : Int} {ds : List D} {i : Nat} {d : D}, (enF c ds)[i]? = some d → ∃ e, ds[i]? = some e ∧ d = .tup [.int (c + (i : Nat)), e]
  | c, [], i, d, h => by simp [enF] at h
  | c, e :: ds, 0, d, h => by
    simp only [enF, List.getElem?_cons_zero] at h
    cases h
    exact ⟨e, rfl, by simp⟩
  | c, e :: ds, i + 1, d, h => by
    simp only [enF, List.getElem?_cons_succ] at h
    obtain ⟨e', h1, h2⟩ := enF_get h
    refine ⟨e', by simpa using h1, ?_⟩
    rw [h2]
    have : c + 1 + (i : Int) = c + ((i + 1 : Nat) : Int) := by omega
    rw [this]
/-- enumerate of a tuple, from c on -/
def IteT (K : PySem.W.Frag) (a : Addr) (c : Int) : L2.It :=
  ⟨fun i H => ∃ xs x, SqT K H a xs ∧ xs[i]? = some x, fun i H v H' => ∃ T x, v = .ref T ∧ H T = none ∧ H' = upd H T (.tup [.int (c + (i : Nat)), x]) ∧ ∀ xs, SqT K H a xs → xs[i]? = some x, fun i H => ∃ xs, SqT K H a xs ∧ xs.length = i⟩
theorem turn_enT {P : Program} {w : World} {K : PySem.W.Frag} {elts : List Expr} {kk : Nat} {tpos : Pos} (a e it : Addr) (c : Int) :
    Turn P w K (.Tuple elts kk tpos) (IteT K a c) [e, it] e (fun i h => (∃ old, IsEnum h e it (c + (i : Nat)) old) ∧ h.IsTupleIter it a i ∧ e ≠ it) where
  mem := by simp
  obj := fun i h st b hb => by
    obtain ⟨⟨old, he⟩, ⟨o, ho, hc, hd⟩, _⟩ := st
    rcases (show b = e ∨ b = it by simpa using hb) with z | z
    · rw [z]; exact ⟨_, he, fun v q => nomatch q⟩
    · rw [z]; exact ⟨o, ho, fun v q => by rw [hd] at q; cases q⟩
  keep := fun i h h' st k => by
    obtain ⟨⟨old, he⟩, ⟨o, ho, hc, hd⟩, hne⟩ := st
    exact ⟨⟨old, k e (by simp) _ he⟩, ⟨o, k it (by simp) o ho, hc, hd⟩, hne⟩
  item := by
    intro X hP hw hK hc i pins s σ H E I hf st hg
    subst hP hw hK
    obtain ⟨⟨old, he⟩, hit, hne⟩ := st
    obtain ⟨xs, x, hq, hx⟩ := hg
    obtain ⟨its, rv, ht, hz⟩ := I.tuple hq
    obtain ⟨o, ho, hoc, hrest⟩ := ht
    have ai : a ≠ it := by
      obtain ⟨o2, ho2, hc2, _⟩ := hit
      intro z
      rw [z, ho2] at ho
      cases ho
      rw [hc2] at hoc
      exact absurd hoc (by decide)
    have ae : a ≠ e := by
      intro z
      have he' := he
      unfold IsEnum at he'
      rw [z, he'] at ho
      cases ho
      exact absurd hoc (by simp)
    have hi : i < its.toArray.size := by
      have h1 := (List.getElem?_eq_some_iff.mp hx).1
      have h2 := rv.length
      rw [List.size_toArray]
      omega
    have G := GoesN.enumFrom (prog := X.prog) (w := X.w) (A := X.A) (elts := elts) (x1 := kk) (pos := tpos) c (Draws.tuple (A := X.A.in1) (I.ok.hd hc) it a ai its.toArray) e hne (by simp; exact ⟨hne, fun z => ae z.symm⟩) (by simp)
    refine G.goes i s (fun u s2 => ∃ x H', Inv X pins σ H' s2 ∧ RelV x u ∧ (IteT X.K a c).yld i H x H' ∧ ((∃ old, IsEnum s2.heap e it (c + ((i + 1 : Nat) : Int)) old) ∧ s2.heap.IsTupleIter it a (i + 1) ∧ e ≠ it) ∧ ∀ b ∈ [e, it], H' b = none) E hi ⟨⟨old, he⟩, hit, ⟨o, ho, hoc, hrest⟩⟩ fun v h' tk y st' keep _ => ?_
    obtain ⟨T, t, x', rfl, hT, hx', hTup⟩ := y
    obtain ⟨u, hu, ru⟩ := rv.get hx
    have ex : u = x' := by
      have : its[i]? = some x' := by simpa using hx'
      rw [hu] at this
      exact Option.some.inj this
    subst ex
    have tn : H T = none := I.hok.fresh hT
    have new : ObjOk X.prog X.w (upd H T (.tup [.int (c + (i : Nat)), x])) h' T (.tup [.int (c + (i : Nat)), x]) := by
      obtain ⟨o3, ho3, hc3, n3, hd3⟩ := hTup
      exact ⟨by show 2 ≤ sizeLine; decide, [.int (c + (i : Nat)) t, u], .cons ⟨_, rfl⟩ (.cons ru .nil), ⟨o3, ho3, hc3, n3, hd3⟩⟩
    refine ⟨.ref T, _, I.turnedNew (ch := [e, it]) (t' := tk) (fun b ob hb q => keep b ob hb q) hf hT new, rfl, ⟨T, x, rfl, tn, rfl, fun ys hy => ?_⟩, ⟨st'.1, st'.2.1, hne⟩, fun b hb => ?_⟩
    · rw [I.tuple_inj hy hq]; exact hx
    · have hb' : b < s.heap.objs.size := by
        rcases (show b = e ∨ b = it by simpa using hb) with z | z
        · rw [z]; exact Heap.lt_size he
        · obtain ⟨o2, ho2, _⟩ := hit
          rw [z]; exact Heap.lt_size ho2
      rw [upd_ne (Nat.ne_of_lt (Nat.lt_of_lt_of_le hb' hT))]
      exact (hf b hb).1
  done := by
    intro X hP hw hK hc i pins s σ H E I hf st hg
    subst hP hw hK
    obtain ⟨⟨old, he⟩, hit, hne⟩ := st
    obtain ⟨xs, hq, hx⟩ := hg
    obtain ⟨its, rv, ht, hz⟩ := I.tuple hq
    obtain ⟨o, ho, hoc, hrest⟩ := ht
    have ai : a ≠ it := by
      obtain ⟨o2, ho2, hc2, _⟩ := hit
      intro z
      rw [z, ho2] at ho
      cases ho
      rw [hc2] at hoc
      exact absurd hoc (by decide)
    have ae : a ≠ e := by
      intro z
      have he' := he
      unfold IsEnum at he'
      rw [z, he'] at ho
      cases ho
      exact absurd hoc (by simp)
    have hin : i = its.toArray.size := by
      have h2 := rv.length
      rw [List.size_toArray]
      omega
    subst hin
    have G := GoesN.enumFrom (prog := X.prog) (w := X.w) (A := X.A) (elts := elts) (x1 := kk) (pos := tpos) c (Draws.tuple (A := X.A.in1) (I.ok.hd hc) it a ai its.toArray) e hne (by simp; exact ⟨hne, fun z => ae z.symm⟩) (by simp)
    exact G.stops s (fun s1 => Inv X pins σ H s1) E ⟨⟨old, he⟩, hit, ⟨o, ho, hoc, hrest⟩⟩ fun h' tk keep _ => I.turnedL (t' := tk) (ch := [e, it]) (fun b o hb q => keep b o hb q) hf
  self := fun A i s Q E st h => let ⟨⟨_, he⟩, _⟩ := st; wpAny_pyIter_enum he h
/-- an enumerate object, just made over the tuple at a -/
theorem made_enT {X : Cx} {pins : List (Addr × Obj)} {σ : L2.St} {H : Hp} {s : Shared} {a : Addr} {c : Int} {h' : Heap} {R : L2.It → Hp → Prop} {E : Value → Shared → Prop} {elts : List Expr} {kk : Nat} {tpos : Pos} (I : Inv X pins σ H s)
    (he : IsEnum h' (s.heap.objs.size + 1) s.heap.objs.size c .none) (hit : h'.IsTupleIter s.heap.objs.size a 0) (hk : ∀ b o, s.heap.get? b = some o → h'.get? b = some o) (q : R (IteT X.K a c) H) :
    wpAny (model X.prog X.w) X.A (pyIter (.ref (s.heap.objs.size + 1))) (PIE X pins σ (.Tuple elts kk tpos) R) E { s with heap := h' } := by
  refine wpAny_pyIter_enum he ?_
  have J : Inv X pins σ H { s with heap := h' } := I.kept (t' := s.toks) hk
  refine ⟨s.heap.objs.size + 1, [s.heap.objs.size + 1, s.heap.objs.size], _, _, H, rfl, J, turn_enT a (s.heap.objs.size + 1) s.heap.objs.size c, ⟨⟨.none, by simpa using he⟩, hit, Nat.succ_ne_self _⟩, fun b hb => ?_, q⟩
  have hle : s.heap.objs.size ≤ b := by
    rcases (show b = s.heap.objs.size + 1 ∨ b = s.heap.objs.size by simpa using hb) with z | z
    · rw [z]; exact Nat.le_add_right _ _
    · rw [z]; exact Nat.le_refl _
  exact I.fpOk hle (I.hok.fresh hle)
theorem gives_enT {g : Sg} {W : Wd} {q : Addr} {vs : List V} {ds : List D} {c : Int} (hv : ∀ W' st H, W.LeX W' → Sim g W' st H → SqT g.K H q vs) (r : Reps W vs ds) : Gives g W (IteT g.K q c) (enF c ds) where
  go := fun i W' st H hi le S => by
    rw [enF_length] at hi
    obtain ⟨v, h1, h2⟩ := r.get (List.getElem?_eq_getElem hi)
    exact ⟨vs, v, hv W' st H le S, h1⟩
  yl := fun i d W' st H x H' hi le S h => by
    obtain ⟨T, y, rfl, hT, rfl, h⟩ := h
    obtain ⟨e, he, rfl⟩ := enF_get hi
    obtain ⟨v, h1, h2⟩ := r.get he
    have := h vs (hv W' st H le S)
    rw [h1] at this; cases this
    obtain ⟨W2, le2, S2, r2⟩ := mkT_ok S hT (.cons (.int (c + (i : Nat))) (.cons (h2.monoX le) .nil))
    exact ⟨W2, le2, S2, r2⟩
  stop := fun W' st H le S => ⟨vs, hv W' st H le S, by rw [enF_length]; exact r.length⟩
/-- enumerate of a list, from c on -/
def IteL (K : PySem.W.Frag) (a : Addr) (c : Int) : L2.It :=
  ⟨fun i H => ∃ xs x, SqL K H a xs ∧ xs[i]? = some x, fun i H v H' => ∃ T x, v = .ref T ∧ H T = none ∧ H' = upd H T (.tup [.int (c + (i : Nat)), x]) ∧ ∀ xs, SqL K H a xs → xs[i]? = some x, fun i H => ∃ xs, SqL K H a xs ∧ xs.length = i⟩
theorem turn_enL {P : Program} {w : World} {K : PySem.W.Frag} {elts : List Expr} {kk : Nat} {tpos : Pos} (a e it : Addr) (c : Int) :
    Turn P w K (.Tuple elts kk tpos) (IteL K a c) [e, it] e (fun i h => (∃ old, IsEnum h e it (c + (i : Nat)) old) ∧ h.IsListIter it a i ∧ e ≠ it) where
  mem := by simp
  obj := fun i h st b hb => by
    obtain ⟨⟨old, he⟩, ⟨o, ho, hc, hd⟩, _⟩ := st
    rcases (show b = e ∨ b = it by simpa using hb) with z | z
    · rw [z]; exact ⟨_, he, fun v q => nomatch q⟩
    · rw [z]; exact ⟨o, ho, fun v q => by rw [hd] at q; cases q⟩
  keep := fun i h h' st k => by
    obtain ⟨⟨old, he⟩, ⟨o, ho, hc, hd⟩, hne⟩ := st
    exact ⟨⟨old, k e (by simp) _ he⟩, ⟨o, k it (by simp) o ho, hc, hd⟩, hne⟩
  item := by
    intro X hP hw hK hc i pins s σ H E I hf st hg
    subst hP hw hK
    obtain ⟨⟨old, he⟩, hit, hne⟩ := st
    obtain ⟨xs, x, hq, hx⟩ := hg
    obtain ⟨its, rv, ht, hz⟩ := I.list hq
    obtain ⟨o, ho, hoc, hrest⟩ := ht.isList
    have ai : a ≠ it := by
      obtain ⟨o2, ho2, hc2, _⟩ := hit
      intro z
      rw [z, ho2] at ho
      cases ho
      rw [hc2] at hoc
      exact absurd hoc (by decide)
    have ae : a ≠ e := by
      intro z
      have he' := he
      unfold IsEnum at he'
      rw [z, he'] at ho
      cases ho
      exact absurd hoc (by simp)
    have hi : i < its.toArray.size := by
      have h1 := (List.getElem?_eq_some_iff.mp hx).1
      have h2 := rv.length
      rw [List.size_toArray]
      omega
    have G := GoesN.enumFrom (prog := X.prog) (w := X.w) (A := X.A) (elts := elts) (x1 := kk) (pos := tpos) c (Draws.list (A := X.A.in1) (I.ok.hd hc) it a ai its.toArray) e hne (by simp; exact ⟨hne, fun z => ae z.symm⟩) (by simp)
    refine G.goes i s (fun u s2 => ∃ x H', Inv X pins σ H' s2 ∧ RelV x u ∧ (IteL X.K a c).yld i H x H' ∧ ((∃ old, IsEnum s2.heap e it (c + ((i + 1 : Nat) : Int)) old) ∧ s2.heap.IsListIter it a (i + 1) ∧ e ≠ it) ∧ ∀ b ∈ [e, it], H' b = none) E hi ⟨⟨old, he⟩, hit, ⟨o, ho, hoc, hrest⟩⟩ fun v h' tk y st' keep _ => ?_
    obtain ⟨T, t, x', rfl, hT, hx', hTup⟩ := y
    obtain ⟨u, hu, ru⟩ := rv.get hx
    have ex : u = x' := by
      have : its[i]? = some x' := by simpa using hx'
      rw [hu] at this
      exact Option.some.inj this
    subst ex
    have tn : H T = none := I.hok.fresh hT
    have new : ObjOk X.prog X.w (upd H T (.tup [.int (c + (i : Nat)), x])) h' T (.tup [.int (c + (i : Nat)), x]) := by
      obtain ⟨o3, ho3, hc3, n3, hd3⟩ := hTup
      exact ⟨by show 2 ≤ sizeLine; decide, [.int (c + (i : Nat)) t, u], .cons ⟨_, rfl⟩ (.cons ru .nil), ⟨o3, ho3, hc3, n3, hd3⟩⟩
    refine ⟨.ref T, _, I.turnedNew (ch := [e, it]) (t' := tk) (fun b ob hb q => keep b ob hb q) hf hT new, rfl, ⟨T, x, rfl, tn, rfl, fun ys hy => ?_⟩, ⟨st'.1, st'.2.1, hne⟩, fun b hb => ?_⟩
    · rw [I.list_inj hy hq]; exact hx
    · have hb' : b < s.heap.objs.size := by
        rcases (show b = e ∨ b = it by simpa using hb) with z | z
        · rw [z]; exact Heap.lt_size he
        · obtain ⟨o2, ho2, _⟩ := hit
          rw [z]; exact Heap.lt_size ho2
      rw [upd_ne (Nat.ne_of_lt (Nat.lt_of_lt_of_le hb' hT))]
      exact (hf b hb).1
  done := by
    intro X hP hw hK hc i pins s σ H E I hf st hg
    subst hP hw hK
    obtain ⟨⟨old, he⟩, hit, hne⟩ := st
    obtain ⟨xs, hq, hx⟩ := hg
    obtain ⟨its, rv, ht, hz⟩ := I.list hq
    obtain ⟨o, ho, hoc, hrest⟩ := ht.isList
    have ai : a ≠ it := by
      obtain ⟨o2, ho2, hc2, _⟩ := hit
      intro z
      rw [z, ho2] at ho
      cases ho
      rw [hc2] at hoc
      exact absurd hoc (by decide)
    have ae : a ≠ e := by
      intro z
      have he' := he
      unfold IsEnum at he'
      rw [z, he'] at ho
      cases ho
      exact absurd hoc (by simp)
    have hin : i = its.toArray.size := by
      have h2 := rv.length
      rw [List.size_toArray]
      omega
    subst hin
    have G := GoesN.enumFrom (prog := X.prog) (w := X.w) (A := X.A) (elts := elts) (x1 := kk) (pos := tpos) c (Draws.list (A := X.A.in1) (I.ok.hd hc) it a ai its.toArray) e hne (by simp; exact ⟨hne, fun z => ae z.symm⟩) (by simp)
    exact G.stops s (fun s1 => Inv X pins σ H s1) E ⟨⟨old, he⟩, hit, ⟨o, ho, hoc, hrest⟩⟩ fun h' tk keep _ => I.turnedL (t' := tk) (ch := [e, it]) (fun b o hb q => keep b o hb q) hf
  self := fun A i s Q E st h => let ⟨⟨_, he⟩, _⟩ := st; wpAny_pyIter_enum he h
/-- an enumerate object, just made over the list at a -/
theorem made_enL {X : Cx} {pins : List (Addr × Obj)} {σ : L2.St} {H : Hp} {s : Shared} {a : Addr} {c : Int} {h' : Heap} {R : L2.It → Hp → Prop} {E : Value → Shared → Prop} {elts : List Expr} {kk : Nat} {tpos : Pos} (I : Inv X pins σ H s)
    (he : IsEnum h' (s.heap.objs.size + 1) s.heap.objs.size c .none) (hit : h'.IsListIter s.heap.objs.size a 0) (hk : ∀ b o, s.heap.get? b = some o → h'.get? b = some o) (q : R (IteL X.K a c) H) :
    wpAny (model X.prog X.w) X.A (pyIter (.ref (s.heap.objs.size + 1))) (PIE X pins σ (.Tuple elts kk tpos) R) E { s with heap := h' } := by
  refine wpAny_pyIter_enum he ?_
  have J : Inv X pins σ H { s with heap := h' } := I.kept (t' := s.toks) hk
  refine ⟨s.heap.objs.size + 1, [s.heap.objs.size + 1, s.heap.objs.size], _, _, H, rfl, J, turn_enL a (s.heap.objs.size + 1) s.heap.objs.size c, ⟨⟨.none, by simpa using he⟩, hit, Nat.succ_ne_self _⟩, fun b hb => ?_, q⟩
  have hle : s.heap.objs.size ≤ b := by
    rcases (show b = s.heap.objs.size + 1 ∨ b = s.heap.objs.size by simpa using hb) with z | z
    · rw [z]; exact Nat.le_add_right _ _
    · rw [z]; exact Nat.le_refl _
  exact I.fpOk hle (I.hok.fresh hle)
theorem gives_enL {g : Sg} {W : Wd} {q : Addr} {vs : List V} {ds : List D} {c : Int} (hv : ∀ W' st H, W.LeX W' → Sim g W' st H → SqL g.K H q vs) (r : Reps W vs ds) : Gives g W (IteL g.K q c) (enF c ds) where
  go := fun i W' st H hi le S => by
    rw [enF_length] at hi
    obtain ⟨v, h1, h2⟩ := r.get (List.getElem?_eq_getElem hi)
    exact ⟨vs, v, hv W' st H le S, h1⟩
  yl := fun i d W' st H x H' hi le S h => by
    obtain ⟨T, y, rfl, hT, rfl, h⟩ := h
    obtain ⟨e, he, rfl⟩ := enF_get hi
    obtain ⟨v, h1, h2⟩ := r.get he
    have := h vs (hv W' st H le S)
    rw [h1] at this; cases this
    obtain ⟨W2, le2, S2, r2⟩ := mkT_ok S hT (.cons (.int (c + (i : Nat))) (.cons (h2.monoX le) .nil))
    exact ⟨W2, le2, S2, r2⟩
  stop := fun W' st H le S => ⟨vs, hv W' st H le S, by rw [enF_length]; exact r.length⟩

section
variable {X : Cx} {g : Sg} {Wx : WX} {a b : Expr} {fa fb : FE} {pos p tpos kp : Pos} {elts : List Expr} {kk : Nat}
def enI (d k : D) : Option (List D) := match k with
  | .int c => if leI (-9223372036854775808) c && ltB c 9223372036854775808 then (match d with
    | .tup ds => some (enF c ds)
    | .lst ds => some (enF c ds)
    | .scr ns => some (enF c (ns.map .int))
    | _ => none) else none
  | _ => none
theorem enI_some {d k : D} {l : List D} (h : enI d k = some l) : ∃ c ds, k = .int c ∧ -(2 ^ 63) ≤ c ∧ c < 2 ^ 63 ∧ l = enF c ds ∧ (d = .tup ds ∨ d = .lst ds ∨ ∃ ns, d = .scr ns ∧ ds = ns.map .int) := by
  unfold enI at h
  split at h
  · split at h
    · rename_i c hc
      simp only [leI_eq, ltB_eq, Bool.and_eq_true, decide_eq_true_eq] at hc
      split at h
      · cases h; exact ⟨_, _, rfl, hc.1, hc.2, rfl, .inl rfl⟩
      · cases h; exact ⟨_, _, rfl, hc.1, hc.2, rfl, .inr (.inl rfl)⟩
      · cases h; exact ⟨_, _, rfl, hc.1, hc.2, rfl, .inr (.inr ⟨_, rfl, rfl⟩)⟩
      · cases h
    · cases h
  · cases h
/-- enumerate(a, start=b) -/
theorem si_enumS (hK : X.K = g.K) (hg : Gl X "enumerate") (hm : X.mg "enumerate" = none) (ha : PE X a (tE g Wx fa)) (hb : PE X b (tE g Wx fb)) (hs : noStarE a = true) :
    PI X (.Tuple elts kk tpos) (.Call (.Name "enumerate" p) [a] [⟨some "start", b, kp⟩] pos) (tI g Wx fun en st => (fa en st).bind fun d s => (fb en s).bind fun k s => liftI (enI d k) s) := by
  refine ⟨fun pins s σ H R I ⟨W, st, en, hE, S, post⟩ => wpAny_Call_Name_kw (ld_blt I hg hm boot_enumerate ?_)⟩
  have hst : starEach [a] X.env = [(false, eval a X.env)] := by cases a <;> first | rfl | cases hs
  refine PySem.W.callWith_of (P := fun _ => True) (by rw [hst]; rfl) (fun h _ => ⟨.machine, .inr (.inl rfl), PySem.W.Looks.of_pure rfl⟩) (evalArgs_kw2 rfl ?_ hst)
  have pa : PA X [a] (tA g Wx fun en st => (fa en st).bind fun d s => ((fun _ s => .ok [] s : FA) en s).bind fun ds s => .ok (d :: ds) s) := sa_cons ha sa_nil hst
  have pk : PK X [⟨some "start", b, kp⟩] (tA g Wx fun en st => (fb en st).bind fun d s => ((fun _ s => .ok [] s : FA) en s).bind fun ds s => .ok (d :: ds) s) := sk_cons hb sk_nil
  refine thn (pa.run pos pins s σ H (fun vs H1 => ∃ W1 st1 d, EnR W1 σ en ∧ Sim g W1 st1 H1 ∧ Reps W1 vs [d] ∧ Post g Wx (fun W J items => Gives g W J items) σ R W1 ((fb en st1).bind fun k s => liftI (enI d k) s)) I ⟨W, st, en, hE, S, ?_⟩) fun us s1 ⟨vs, H1, I1, r1, W1, st1, d, hE1, S1, rd, post1⟩ => ?_
  · cases e : fa en st with
    | ok d s =>
      simp only [e, Res.bind_ok] at post ⊢
      exact fun W' b H' le S' r => ⟨W', s, d, hE.mono le, S', r, post.mono le⟩
    | exn x s => simp only [e, Res.bind_exn] at post ⊢; exact post
    | bad => simp only [e, Res.bind_bad] at post; exact post.elim
  · refine thn (pk.run pos pins s1 σ H1 (fun zs H2 => ∃ W2 st2 k, Sim g W2 st2 H2 ∧ Reps W2 vs [d] ∧ Reps W2 zs [k] ∧ Post g Wx (fun W J items => Gives g W J items) σ R W2 (liftI (enI d k) st2)) I1 ⟨W1, st1, en, hE1, S1, ?_⟩) fun ws s2 ⟨zs, H2, I2, r2, W2, st2, k, S2, rd2, rk, post2⟩ => ⟨trivial, ?_⟩
    · cases e : fb en st1 with
      | ok d s =>
        simp only [e, Res.bind_ok] at post1 ⊢
        exact fun W' b H' le S' r => ⟨W', s, d, S', rd.mono le, r, post1.mono le⟩
      | exn x s => simp only [e, Res.bind_exn] at post1 ⊢; exact post1
      | bad => simp only [e, Res.bind_bad] at post1; exact post1.elim
    · cases q : enI d k with
      | none => rw [q] at post2; exact post2.elim
      | some items =>
        rw [q] at post2
        obtain ⟨c, ds, rfl, c1, c2, rfl, hd⟩ := enI_some q
        obtain ⟨x, rfl, rx⟩ := reps1 rd2
        obtain ⟨z, rfl, rz⟩ := reps1 rk
        cases rz
        obtain ⟨uu, rfl, ru⟩ := vals1 r1
        obtain ⟨ww, rfl, rw'⟩ := vals1 r2
        obtain ⟨tk, rfl⟩ := rw'
        show wpAny (model X.prog X.w) X.A (call (.type "enumerate") [uu] [(Str.ofString "start", .int c tk)]) _ _ s2
        have viaT : ∀ (q : Addr) (vs : List V), x = .ref q → (∀ W' st H, W2.LeX W' → Sim g W' st H → SqT g.K H q vs) → Reps W2 vs ds → wpAny (model X.prog X.w) X.A (call (.type "enumerate") [uu] [(Str.ofString "start", .int c tk)]) (fun v s1 => wpAny (model X.prog X.w) X.A (pyIter v) (PIE X pins σ (.Tuple elts kk tpos) R) X.xe s1) X.xe s2 := by
          intro q vs hx hv rv
          subst hx
          cases ru
          have hq := hv W2 st2 H2 (.refl W2) S2
          obtain ⟨its, rvi, ht, hz⟩ := I2.tuple (hK ▸ hq)
          refine enum_begins_start (begins_tuple q its.toArray) ht c1 c2 fun h' he ho _ hk => ?_
          exact made_enT I2 he ⟨_, ho, rfl, rfl⟩ hk (hK ▸ post2 W2 _ H2 (.refl W2) S2 (gives_enT hv rv))
        have viaL : ∀ (q : Addr) (vs : List V), x = .ref q → (∀ W' st H, W2.LeX W' → Sim g W' st H → SqL g.K H q vs) → Reps W2 vs ds → wpAny (model X.prog X.w) X.A (call (.type "enumerate") [uu] [(Str.ofString "start", .int c tk)]) (fun v s1 => wpAny (model X.prog X.w) X.A (pyIter v) (PIE X pins σ (.Tuple elts kk tpos) R) X.xe s1) X.xe s2 := by
          intro q vs hx hv rv
          subst hx
          cases ru
          have hq := hv W2 st2 H2 (.refl W2) S2
          obtain ⟨its, rvi, ht, hz⟩ := I2.list (hK ▸ hq)
          refine enum_begins_start (begins_list q its.toArray) ht.isList c1 c2 fun h' he ho _ hk => ?_
          exact made_enL I2 he ⟨_, ho, rfl, rfl⟩ hk (hK ▸ post2 W2 _ H2 (.refl W2) S2 (gives_enL hv rv))
        rcases hd with rfl | rfl | ⟨ns, rfl, rfl⟩
        · cases rx with
          | tup z r => exact viaT _ _ rfl (fun W' st H le S => S.tu _ _ (le.tu _ _ z)) r
        · cases rx with
          | lst z r => exact viaL _ _ rfl (fun W' st H le S => S.sqL (le.fz _ _ z)) r
        · cases rx with
          | scr z => exact viaL _ _ rfl (fun W' st H le S => S.sqS (le.sc _ _ z)) (Reps.ofInts _)
end
end LB
end

section
set_option Elab.async false
set_option linter.all false
set_option maxRecDepth 100000
set_option maxHeartbeats 4000000
/-! The small language, what it does, and how it is held against the syntax. -/
namespace LB
open PySem PySem.Spec PyProof.Rows L2

mutual
inductive Tg where
  | nm (i : Nat) | tp (ts : Tgs)
inductive Tgs where
  | nil | cons (t : Tg) (r : Tgs)
end
inductive Bl where
  | len | abs | sum | tuple | list (fz : Bool) | int | all | any | max2 | min2 | repr | min1 | max1 | keys (fz : Bool) | sorted (fz : Bool)
/-- built-in methods -/
inductive Mt where
  | app | idx | ext | ins | popi | upd | get
mutual
inductive Ex where
  | non | bl (b : Bool) | int (i : Int) | str (x : Str)
  | var (i : Nat) | glo (c : Nat)
  | bin (o : BO) (fz : Bool) (a b : Ex) | neg (a : Ex)
  | cmp (o : CO) (a b : Ex) | chain (o o' : CO) (a b c : Ex)
  | andV (a : Ex) (r : Exs) | orV (a : Ex) (r : Exs) | notV (a : Ex)
  | ife (c : Te) (a b : Ex)
  | tup (es : Exs) | lst (fz : Bool) (es : Exs)
  | ix (a i : Ex) | sl (fz : Bool) (a : Ex) (lo hi : ExO) | rev (fz : Bool) (a : Ex) | isi (a : Ex) (T : String)
  | call (f sh : Nat) (es ks : Exs)
  | dnew (fz : Bool) | ifld (a : Ex) (f : Str) | mk (c f sh : Nat) (es : Exs) | mcall (m : Str) (sh : Nat) (o : Ex) (es : Exs) | join (s a : Ex) | isx (a : Ex) (cs : List Nat) | isxT (a : Ex) (cs : List Nat) | fld (a : Ex) (f : Str)
  | blt (b : Bl) (es : Exs) | meth (m : Mt) (o : Ex) (es : Exs) | lenC (own : List (Str × Nat)) (t : Tg) (it : It) (c : TeO) (e : Ex) | lenS (e : Ex)
  | comp (fz : Bool) (own : List (Str × Nat)) (t : Tg) (it : It) (c : TeO) (e : Ex)
  | comp2 (fz : Bool) (own : List (Str × Nat)) (t : Tg) (it : It) (c : TeO) (t1 : Tg) (it1 : It) (c1 : TeO) (e : Ex)
  | dcomp (fz : Bool) (own : List (Str × Nat)) (t : Tg) (it : It) (c : TeO) (k v : Ex)
  | disp (fz : Bool) (es : Exs) | pop0 (o : Ex) | callL (i : Nat) (n : Nat) (es : Exs)
  | sortS (fz : Bool) (e : Ex) | sortC (fz tp : Bool) (own : List (Str × Nat)) (t : Tg) (it : It) (c : TeO) (cs : Cgs) (e : Ex)
inductive Cgs where
  | nil | cons (t : Tg) (it : It) (c : TeO) (r : Cgs)
inductive Exs where
  | nil | cons (e : Ex) (r : Exs)
inductive ExO where
  | no | yes (e : Ex)
inductive Te where
  | val (e : Ex) | not (t : Te) | and (t : Te) (r : Tes) | or (t : Te) (r : Tes) | cmp (o : CO) (a b : Ex) | chain (o o' : CO) (a b c : Ex)
inductive Tes where
  | nil | cons (t : Te) (r : Tes)
inductive TeO where
  | no | yes (t : Te)
inductive It where
  | seq (e : Ex) | rng1 (a : Ex) | rng2 (a b : Ex) | enumS (a k : Ex) | enum1 (a : Ex)
end
mutual
inductive Sm where
  | pass | brk | cont | never | expr (e : Ex) | ret (e : Ex) | retN
  | set (i : Nat) (e : Ex) | asg (t : Tg) (e : Ex) | setIx (o i e : Ex) | setF (o : Ex) (f : Str) (e : Ex) | augF (o : Ex) (f : Str) (e : Ex)
  | setLc (i : Nat) (fz : Bool) (own : List (Str × Nat)) (t : Tg) (it : It) (c : TeO) (e : Ex)
  | setLc2 (i : Nat) (fz : Bool) (own : List (Str × Nat)) (t : Tg) (it : It) (c : TeO) (t1 : Tg) (it1 : It) (c1 : TeO) (e : Ex)
  | raise_ (c : Nat) (m : Str) | raiseI (c : Nat) (es : Exs) | tryAs (b : Sms) (c i : Nat) (su : Sms) | tryNo (b : Sms) (c : Nat) (su : Sms) | par (i j : Nat) (a b : Ex)
  | ite (c : Te) (p q : Sms) | for_ (t : Tg) (it : It) (b : Sms) | while_ (c : Te) (n : Nat) (b : Sms)
inductive Sms where
  | nil | cons (s : Sm) (r : Sms) | frz (i : Nat) (r : Sms)
end
/-- a way of calling a def -/
structure Shp where
  n : Nat
  ks : List Str
  src : List Src
  dds : List D
structure Df where
  own : Option (Nat × Str) := none
  name : Str
  qual : Str
  ps : List Str
  N : List Str
  kp : Bool
  body : Sms
  shs : List Shp
/-- a class: an own one, or a built-in type -/
structure Cl where
  name : Str
  own : Bool
  T : String
structure Pr where
  defs : List Df
  cons : List (Str × D)
  free : List Str
  cls : List Cl := []
  isa : List ((Nat × Nat) × Bool) := []
  exm : List ((Nat × Nat) × Bool) := []
  plain : List Nat := []
  flds : List (Nat × Str) := []
  inis : List (Nat × List Str) := []
  atts : List (Nat × List Str) := []
  mths : List ((Nat × Str) × Nat) := []
  icl : List (Nat × Str) := []
  fns : List (Nat × Str) := []
  kds : List (Nat × Str) := []
def dnewF0 (fz : Bool) (st : Sto) : D × Sto := match fz with
  | true => (.dct [] [], st)
  | false => (.ref st.nx, st.new (.dct [] []))
/-! instances -/
def putN (f : Str) : List Str → List Str
  | [] => [f]
  | n :: ns => if n = f then n :: ns else n :: putN f ns
def putV (f : Str) (v : D) : List Str → List D → List D
  | [], _ => [v]
  | n :: ns, ds => match ds with
    | d :: ds => if n = f then v :: ds else d :: putV f v ns ds
    | [] => []
def clsAt (st : Sto) : D → Option Nat
  | .ref n => match st.ob n with
    | some (.ins c _ _) => some c
    | _ => none
  | _ => none
def ifldF (pr : Pr) (f : Str) (d : D) (st : Sto) : Option (D × Sto) := match d with
  | .ref n => (match st.ob n with
    | some (.ins c ns ds) => (match pr.atts.lookup c with
      | some fs => if fs.contains f then ((ns.zip ds).lookup f).map fun v => (v, st) else none
      | none => none)
    | _ => none)
  | _ => none
def putFld (pr : Pr) (f : Str) (d v : D) (st : Sto) : Option Sto := match d with
  | .ref n => (match st.ob n with
    | some (.ins c ns ds) => (match pr.atts.lookup c with
      | some fs => if fs.contains f && decide (ns.length < 1000) then some (st.put n (.ins c (putN f ns) (putV f v ns ds))) else none
      | none => none)
    | _ => none)
  | _ => none
def augFld (pr : Pr) (f : Str) (d z y : D) (s s2 : Sto) : Option Sto := match z, y with
  | .int i, .int j => if clsAt s d = clsAt s2 d then putFld pr f d (.int (i + j)) s2 else none
  | _, _ => none
def mkR (F : List D → Sto → Res D) (dds : List D) (src : List Src) (c : Nat) (ds : List D) (st : Sto) : Res D := match arr (.ref st.nx :: ds) [] dds src with
  | some l => (match F l (st.new (.ins c [] [])) with
    | .ok .non s => .ok (.ref st.nx) s
    | .exn x s => .exn x s
    | _ => .bad)
  | none => .bad
/-- a method call, its receiver known -/
def mcR (tbl : Nat → Option (Nat × Shp)) (call : Nat → List D → Sto → Res D) (m : Str) (fs : FA) (en : En) (d : D) (s : Sto) : Res D := match d with
  | .ref n => (match s.ob n with
    | some (.ins c ns _) => if ns.contains m then .bad else (match tbl c with
      | some (i, sp) => (fs en s).bind fun us s => if us.length + 1 = sp.n then (match arr (.ref n :: us) [] sp.dds sp.src with
        | some l => call i l s
        | none => .bad) else .bad
      | none => .bad)
    | _ => .bad)
  | _ => .bad
def isAny (pr : Pr) (c : Nat) : List Nat → Option Bool
  | [] => some false
  | c' :: r => match pr.isa.lookup (c, c') with
    | some true => some true
    | some false => isAny pr c r
    | none => none
def isxF (pr : Pr) (cs : List Nat) (d : D) (st : Sto) : Option (D × Sto) := match d with
  | .exc c _ _ => (isAny pr c cs).map fun b => (.bl b, st)
  | _ => none
def fldF (pr : Pr) (f : Str) (d : D) (st : Sto) : Option (D × Sto) := match d with
  | .exc c ns ds => if pr.flds.contains (c, f) then ((ns.zip ds).lookup f).map fun v => (v, st) else none
  | _ => none
def strsOf : List D → Option (List Str)
  | [] => some []
  | .str i :: r => (strsOf r).map (i :: ·)
  | _ => none
def joinF (d e : D) (st : Sto) : Option (D × Sto) := match d with
  | .str a => (seqOf st e).bind fun ds => (strsOf ds).bind fun ys => if (ys.map (·.length)).sum + ys.length * a.length ≤ 16777216 then some (.str (Txt.join a ys), st) else none
  | _ => none
/-- behind an except suite: its name is gone -/
def Fl.wipe (i : Nat) : Fl → Fl
  | .nx en s => .nx (en.set i none) s
  | .bk en s => .bk (en.set i none) s
  | .ct en s => .ct (en.set i none) s
  | .rt d s => .rt d s
  | _ => .bad

/-! ### what it does -/
mutual
def Tg.bt : Tg → D → En → Option En
  | .nm i => fun d en => some (en.set i (some d))
  | .tp ts => unT ts.len ts.bt
def Tgs.bt : Tgs → List D → En → Option En
  | .nil => fun ds en => match ds with
    | [] => some en
    | _ => none
  | .cons t r => bindsF t.bt r.bt
def Tgs.len : Tgs → Nat
  | .nil => 0
  | .cons _ r => r.len + 1
end
mutual
def Tg.is : Tg → List Nat
  | .nm i => [i]
  | .tp ts => ts.is
def Tgs.is : Tgs → List Nat
  | .nil => []
  | .cons t r => t.is ++ r.is
end
def f1 (f : D → Sto → Option (D × Sto)) : List D → Sto → Option (D × Sto) := fun ds st => match ds with
  | [d] => f d st
  | _ => none
def intsOf : List D → Option (List Int)
  | [] => some []
  | .int i :: r => (intsOf r).map (i :: ·)
  | _ => none
def blsOf : List D → Option (List Bool)
  | [] => some []
  | .bl i :: r => (blsOf r).map (i :: ·)
  | _ => none
def lenD (st : Sto) : D → Option Nat
  | .str x => if x.length ≤ sizeLine then some x.length else none
  | d => (seqOf st d).map List.length
def leaf : D → Bool
  | .non => true
  | .bl _ => true
  | .str _ => true
  | _ => false
def reprL (d : D) : Option Str := match d with
  | .non => some "None"
  | .bl b => some (if b then "True" else "False")
  | .str x => if (reprText x).length ≤ sizeLine then some (reprText x) else none
  | _ => none
def reprD (st : Sto) (d : D) : Option Str := if leaf d then reprL d else match pyT st d with
  | some x => if SeqAt.shaped x && x.showable && decide (x.shown.length ≤ sizeLine) then some x.shown else none
  | none => match pyXT st d with
    | some x => if x.showable && (decide (x.depth ≤ 60) && decide (x.shown.length ≤ sizeLine)) then some x.shown else none
    | none => none
def minL : List Int → Option Int
  | [] => none
  | [i] => some i
  | i :: r => (minL r).map fun m => if m < i then m else i
def maxL : List Int → Option Int
  | [] => none
  | [i] => some i
  | i :: r => (maxL r).map fun m => if m > i then m else i
/-- pairs put one behind the other -/
def mrgK : List Key → List D → List Key → List Key
  | ks, _ :: es, l :: ls => mrgK (putKs ks l) es ls
  | ks, _, _ => ks
def mrgD : List Key → List D → List Key → List D → List D
  | ks, ds, l :: ls, e :: es => mrgD (putKs ks l) (putDs ks ds l e) ls es
  | _, ds, _, _ => ds
def pairK : List D → Option (List Key × List D)
  | [] => some ([], [])
  | k :: v :: r => (keyD k).bind fun k => (pairK r).map fun q => (k :: q.1, v :: q.2)
  | _ => none
def mkDct (fz : Bool) (ks : List Key) (ds : List D) (st : Sto) : D × Sto := match fz with
  | true => (.dct ks ds, st)
  | false => (.ref st.nx, st.new (.dct ks ds))
def dispF (fz : Bool) (ds : List D) (st : Sto) : Option (D × Sto) := (pairK ds).map fun q => mkDct fz (mrgK [] q.2 q.1) (mrgD [] [] q.1 q.2) st
def pop0F (d : D) (st : Sto) : Option (D × Sto) := match d with
  | .ref n => match st.ob n with
    | some (.lst ds) => (ds[ds.length - 1]?).map fun y => (y, st.put n (.lst ds.dropLast))
    | _ => none
  | _ => none
def isLs (st : Sto) : D → Bool
  | .ref n => match st.ob n with
    | some (.lst _) => true
    | _ => false
  | _ => false
/-- the larger (the smaller) of two like tuples -/
def mxT (mx : Bool) (a b : D) : Option D := match pyD a, pyD b with
  | some p, some q => if srtOk [p, q] then some (if (if mx then PySem.W.dataLt p q else PySem.W.dataLt q p) then b else a) else none
  | _, _ => none
def Bl.f : Bl → List D → Sto → Option (D × Sto)
  | .len => f1 fun d st => (lenD st d).map fun n => (.int n, st)
  | .abs => f1 fun d st => match d with
    | .int i => some (.int (if i < 0 then -i else i), st)
    | _ => none
  | .sum => f1 fun d st => (seqOf st d).bind fun ds => (intsOf ds).map fun ns => (.int ns.sum, st)
  | .tuple => f1 fun d st => (seqOf st d).map fun ds => (.tup ds, st)
  | .list fz => f1 fun d st => (seqOf st d).map fun ds => mkL fz ds st
  | .int => f1 fun d st => match d with
    | .int i => some (.int i, st)
    | .bl b => some (.int (if b then 1 else 0), st)
    | _ => none
  | .all => f1 fun d st => (getL st d).bind fun ds => (blsOf ds).map fun bs => (.bl (bs.all id), st)
  | .any => f1 fun d st => (getL st d).bind fun ds => (blsOf ds).map fun bs => (.bl (bs.any id), st)
  | .max2 => fun ds st => match ds with
    | [.int i, .int j] => some (.int (if j > i then j else i), st)
    | [.tup xs, .tup ys] => (mxT true (.tup xs) (.tup ys)).map fun d => (d, st)
    | _ => none
  | .min2 => fun ds st => match ds with
    | [.int i, .int j] => some (.int (if j < i then j else i), st)
    | [.tup xs, .tup ys] => (mxT false (.tup xs) (.tup ys)).map fun d => (d, st)
    | _ => none
  | .repr => f1 fun d st => (reprD st d).map fun x => (.str x, st)
  | .min1 => f1 fun d st => (getL st d).bind fun ds => (intsOf ds).bind fun ns => (minL ns).map fun i => (.int i, st)
  | .max1 => f1 fun d st => (getL st d).bind fun ds => (intsOf ds).bind fun ns => (maxL ns).map fun i => (.int i, st)
  | .keys fz => f1 fun d st => (dctOf st d).map fun q => mkL fz (q.1.map keyV) st
  | .sorted fz => f1 (sortF fz)
def Mt.recv : Mt → D → Sto → Bool
  | .app, d, st => match d with
    | .ref n => (match st.ob n with
      | some (.lst _) => true
      | _ => false)
    | _ => false
  | .idx, d, st => (match getL st d with
    | some _ => true
    | none => false)
  | .ext, d, st => isLs st d
  | .ins, d, st => isLs st d
  | .popi, d, st => isLs st d
  | .upd, d, st => (dctOf st d).isSome
  | .get, d, st => (dctOf st d).isSome
def notN (n : Nat) : D → Bool
  | .ref m => decide (m ≠ n)
  | _ => true
def Mt.f : Mt → D → List D → Sto → Option (D × Sto)
  | .app, d, es, st => match d, es with
    | .ref n, [e] => (match st.ob n with
      | some (.lst ds) => if ds.length < sizeLine then some (.non, st.put n (.lst (ds ++ [e]))) else none
      | _ => none)
    | _, _ => none
  | .idx, d, es, st => (match getL st d, es with
    | some ds, [e] => if flatD e && ds.all flatD then (ds.findIdx? fun z => eqFl z e).map fun j => (.int (j : Nat), st) else none
    | _, _ => none)
  | .ext, d, es, st => match d, es with
    | .ref n, [e] => (match st.ob n, getM st e with
      | some (.lst ds), some xs => if ds.length + xs.length ≤ sizeLine then some (.non, st.put n (.lst (ds ++ xs))) else none
      | _, _ => none)
    | _, _ => none
  | .ins, d, es, st => match d, es with
    | .ref n, [.int i, e] => (match st.ob n with
      | some (.lst ds) => if leI 0 i && (small62 i && decide (ds.length < sizeLine)) then some (.non, st.put n (.lst (ds.take i.toNat ++ [e] ++ ds.drop i.toNat))) else none
      | _ => none)
    | _, _ => none
  | .popi, d, es, st => match d, es with
    | .ref n, [.int i] => (match st.ob n with
      | some (.lst ds) => if small62 i then (seqIndex? i ds.length).bind fun k => (ds[k]?).map fun y => (y, st.put n (.lst (ds.eraseIdx k))) else none
      | _ => none)
    | _, _ => none
  | .upd, d, es, st => match d, es with
    | .ref n, [e] => (match st.ob n, dctOf st e with
      | some (.dct ks ds), some (ls, xs) => if notN n e && decide (ks.length + ls.length ≤ sizeLine) then some (.non, st.put n (.dct (mrgK ks xs ls) (mrgD ks ds ls xs))) else none
      | _, _ => none)
    | _, _ => none
  | .get, d, es, st => match dctOf st d, es with
    | some (ks, ds), [k] => (keyD k).map fun k => ((dGet ks ds k).getD .non, st)
    | some (ks, ds), [k, z] => (keyD k).map fun k => ((dGet ks ds k).getD z, st)
    | _, _ => none
def keysOf : List D → Option (List Key)
  | [] => some []
  | d :: r => (keyD d).bind fun k => (keysOf r).map (k :: ·)
def lenKF (ds : List D) (st : Sto) : Option (D × Sto) := (keysOf ds).bind fun ks => if ks.length < 4000 then some (.int (unlike [] ks).length, st) else none
def lenSF (d : D) (st : Sto) : Option (D × Sto) := (getL st d).bind fun ds => lenKF ds st
def keyF (fe : FE) : FE := fun en s => (fe en s).bind fun y s => match keyD y with
  | some _ => .ok y s
  | none => .bad
def compK (vs : List Nat) (bt : D → En → Option En) (ct : FB) (fe : FE) (f : FI) : FE := fun en st => (f en st).bind fun items s => if items.length < 4000 then (compF vs bt ct (keyF fe) items en s).bind fun ys s => liftO (lenKF ys s) else .bad
/-- dict comprehensions -/
def compD (vs : List Nat) (bt : D → En → Option En) (ct : FB) (fk fv : FE) : List D → List Key → List D → En → Sto → Res (List Key × List D)
  | [], ks, ds, _, s => .ok (ks, ds) s
  | d :: r, ks, ds, en, s => match bt d (wipeE en vs) with
    | none => .bad
    | some en' => (ct en' s).nox.bind fun t s => if t then (fk en' s).nox.bind fun k s => (fv en' s).nox.bind fun v s => (match keyD k with
        | some k => if ks.length < sizeLine then compD vs bt ct fk fv r (putKs ks k) (putDs ks ds k v) en s else .bad
        | none => .bad) else compD vs bt ct fk fv r ks ds en s
def compDL (fz : Bool) (vs : List Nat) (bt : D → En → Option En) (ct : FB) (fk fv : FE) (f : FI) : FE := fun en st => (f en st).bind fun items s => (compD vs bt ct fk fv items [] [] en s).bind fun q s => .ok (mkDct fz q.1 q.2 s).1 (mkDct fz q.1 q.2 s).2
/-- list comprehensions with two sources -/
def comp2F (vs : List Nat) (bt : D → En → Option En) (ct : FB) (vs1 : List Nat) (bt1 : D → En → Option En) (ct1 : FB) (fe : FE) (f1 : FI) : List D → En → Sto → Res (List D)
  | [], _, s => .ok [] s
  | d :: ds, en, s => match bt d (wipeE en vs) with
    | none => .bad
    | some en' => (ct en' s).nox.bind fun t s => if t then (f1 en' s).nox.bind fun items s => if items.length ≤ 4000 then (compF vs1 bt1 ct1 fe items en' s).bind fun xs s => (comp2F vs bt ct vs1 bt1 ct1 fe f1 ds en s).bind fun ys s => .ok (xs ++ ys) s else .bad else comp2F vs bt ct vs1 bt1 ct1 fe f1 ds en s
def comp2L (fz : Bool) (vs : List Nat) (bt : D → En → Option En) (ct : FB) (vs1 : List Nat) (bt1 : D → En → Option En) (ct1 : FB) (fe : FE) (f1 : FI) (f : FI) : FE := fun en st => (f en st).bind fun items s => if items.length ≤ 4000 then (comp2F vs bt ct vs1 bt1 ct1 fe f1 items en s).bind fun ys s => .ok (mkL fz ys s).1 (mkL fz ys s).2 else .bad
structure Ev where
  call : Nat → List D → Sto → Res D
  pr : Pr
def Ev.mtb (E : Ev) (m : Str) (sh : Nat) (c : Nat) : Option (Nat × Shp) := (E.pr.mths.lookup (c, m)).bind fun i => (E.pr.defs[i]?).bind fun d => if d.own = some (c, m) then (d.shs[sh]?).bind fun p => if p.ks = [] then some (i, p) else none else none
def Ev.shp (E : Ev) (f sh : Nat) : Option Shp := (E.pr.defs[f]?).bind fun d => d.shs[sh]?
def Ev.shpN (E : Ev) (f n : Nat) : Option Shp := (E.pr.defs[f]?).bind fun d => if d.own = none ∧ E.pr.fns.lookup f = some d.name then d.shs.find? fun p => decide (p.n = n) && p.ks.isEmpty else none
/-- a call of a local name that holds a def -/
def callLF (E : Ev) (i n : Nat) (fs : FA) : FE := fun en st => match en[i]? with
  | some (some (.fn f)) => (match E.shpN f n with
    | some p => callF (E.call f) p.n 0 p.src p.dds fs (fun _ s => .ok [] s) en st
    | none => .bad)
  | _ => .bad
/-- the names of the clauses behind the first -/
def Cgs.vs : Cgs → List Nat
  | .nil => []
  | .cons t _ _ r => t.is ++ r.vs
mutual
def Ex.ev (E : Ev) : Ex → FE
  | .non => fun _ st => .ok .non st
  | .bl b => fun _ st => .ok (.bl b) st
  | .int i => fun _ st => .ok (.int i) st
  | .str x => fun _ st => .ok (.str x) st
  | .var i => varF i
  | .glo c => fun _ st => match E.pr.cons[c]? with
    | some (_, d) => .ok d st
    | none => .bad
  | .bin o fz a b => fun en st => (a.ev E en st).bind fun d s => (b.ev E en s).bind fun e s => liftO (o.f fz d e s)
  | .neg a => fun en st => (a.ev E en st).bind fun d s => liftO (match d with
    | .int i => some (.int (-i), s)
    | _ => none)
  | .cmp o a b => fun en st => (a.ev E en st).bind fun d s => (b.ev E en s).bind fun e s => liftO (o.f d e s)
  | .chain o o' a b c => chainF o.f o'.f (a.ev E) (b.ev E) (c.ev E)
  | .andV a r => r.evA E (a.ev E)
  | .orV a r => r.evO E (a.ev E)
  | .notV a => fun en st => truF (a.ev E en st) fun d t s => .ok (.bl (!t)) s
  | .ife c a b => fun en st => (c.ev E en st).bind fun t s => if t then a.ev E en s else b.ev E en s
  | .tup es => fun en st => (es.ev E en st).bind fun ds s => liftO (tupF ds s)
  | .lst fz es => fun en st => (es.ev E en st).bind fun ds s => liftO (lstF fz ds s)
  | .ix a i => fun en st => (a.ev E en st).bind fun d s => (i.ev E en s).bind fun e s => liftO (ixF d e s)
  | .sl fz a lo hi => fun en st => (a.ev E en st).bind fun d s => (lo.ev E en s).bind fun l s => (hi.ev E en s).bind fun h s => liftO (slF fz d l h s)
  | .rev fz a => fun en st => (a.ev E en st).bind fun d s => liftO (revF fz d s)
  | .isi a T => fun en st => (a.ev E en st).bind fun d s => liftO (isiF T d s)
  | .call f sh es ks => match E.shp f sh with
    | some p => callF (E.call f) p.n p.ks.length p.src p.dds (es.ev E) (ks.ev E)
    | none => fun _ _ => .bad
  | .dnew fz => fun _ st => .ok (dnewF0 fz st).1 (dnewF0 fz st).2
  | .ifld a f => fun en st => (a.ev E en st).bind fun d s => liftO (ifldF E.pr f d s)
  | .mk c f sh es => match E.shp f sh with
    | some p => fun en st => (es.ev E en st).bind fun us s => if us.length + 1 = p.n then mkR (E.call f) p.dds p.src c us s else .bad
    | none => fun _ _ => .bad
  | .mcall m sh o es => fun en st => (o.ev E en st).bind fun d s => mcR (E.mtb m sh) E.call m (es.ev E) en d s
  | .join s a => fun en st => (s.ev E en st).bind fun d s => match d with
    | .str x => (a.ev E en s).bind fun e s => liftO (joinF (.str x) e s)
    | _ => .bad
  | .isx a cs => fun en st => (a.ev E en st).bind fun d s => liftO (isxF E.pr cs d s)
  | .isxT a cs => fun en st => (a.ev E en st).bind fun d s => liftO (isxF E.pr cs d s)
  | .fld a f => fun en st => (a.ev E en st).bind fun d s => liftO (fldF E.pr f d s)
  | .blt b es => fun en st => (es.ev E en st).bind fun ds s => liftO (b.f ds s)
  | .meth m o es => fun en st => (o.ev E en st).bind fun d s => if m.recv d s then (es.ev E en s).bind fun ds s => liftO (m.f d ds s) else .bad
  | .lenC own t it c e => compK (own.map (·.2)) t.bt (c.ev E) (e.ev E) (it.ev E)
  | .lenS e => fun en st => (e.ev E en st).bind fun d s => liftO (lenSF d s)
  | .comp fz own t it c e => compL fz (own.map (·.2)) t.bt (c.ev E) (e.ev E) (it.ev E)
  | .comp2 fz own t it c t1 it1 c1 e => comp2L fz (own.map (·.2)) t.bt (c.ev E) t1.is t1.bt (c1.ev E) (e.ev E) (it1.ev E) (it.ev E)
  | .dcomp fz own t it c k v => compDL fz (own.map (·.2)) t.bt (c.ev E) (k.ev E) (v.ev E) (it.ev E)
  | .disp fz es => fun en st => (es.ev E en st).bind fun ds s => liftO (dispF fz ds s)
  | .pop0 o => fun en st => (o.ev E en st).bind fun d s => liftO (pop0F d s)
  | .callL i n es => callLF E i n (es.ev E)
  | .sortS fz e => fun en st => (e.ev E en st).bind fun d s => liftO (sortSF fz d s)
  | .sortC fz tp own t it c cs e => sortCL fz tp (own.map (·.2)) t.bt (c.ev E) (it.ev E) (cs.ev E) (e.ev E)
def Cgs.ev (E : Ev) : Cgs → List ClF
  | .nil => []
  | .cons t it c r => ⟨t.bt, t.is, t.is ++ vsOf (r.ev E), c.ev E, it.ev E⟩ :: r.ev E
def Exs.ev (E : Ev) : Exs → FA
  | .nil => fun _ st => .ok [] st
  | .cons e r => fun en st => (e.ev E en st).bind fun d s => (r.ev E en s).bind fun ds s => .ok (d :: ds) s
def Exs.evA (E : Ev) : Exs → FE → FE
  | .nil, f => f
  | .cons b r, f => fun en st => truF (f en st) fun d t s => if t then r.evA E (b.ev E) en s else .ok d s
def Exs.evO (E : Ev) : Exs → FE → FE
  | .nil, f => f
  | .cons b r, f => fun en st => truF (f en st) fun d t s => if t then .ok d s else r.evO E (b.ev E) en s
def ExO.ev (E : Ev) : ExO → En → Sto → Res (Option Int)
  | .no => fun _ st => .ok none st
  | .yes e => partF (e.ev E)
def Te.ev (E : Ev) : Te → FB
  | .val e => fun en st => (e.ev E en st).bind fun d s => match truD s d with
    | some b => .ok b s
    | none => .bad
  | .not t => fun en st => (t.ev E en st).bind fun b s => .ok (!b) s
  | .and t r => r.evA E (t.ev E)
  | .or t r => r.evO E (t.ev E)
  | .cmp o a b => fun en st => asB ((a.ev E en st).bind fun d s => (b.ev E en s).bind fun e s => liftO (o.f d e s))
  | .chain o o' a b c => fun en st => asB (chainF o.f o'.f (a.ev E) (b.ev E) (c.ev E) en st)
def Tes.evA (E : Ev) : Tes → FB → FB
  | .nil, f => f
  | .cons b r, f => fun en st => (f en st).bind fun t s => if t then r.evA E (b.ev E) en s else .ok false s
def Tes.evO (E : Ev) : Tes → FB → FB
  | .nil, f => f
  | .cons b r, f => fun en st => (f en st).bind fun t s => if t then .ok true s else r.evO E (b.ev E) en s
def TeO.ev (E : Ev) : TeO → FB
  | .no => fun _ s => .ok true s
  | .yes t => t.ev E
def It.ev (E : Ev) : It → FI
  | .seq e => fun en st => (e.ev E en st).bind fun d s => liftI (seqI d) s
  | .rng1 a => fun en st => ((fun en st => (a.ev E en st).bind fun d s => .ok [d] s : FA) en st).bind fun ds s => liftI (LB.rng1 ds) s
  | .rng2 a b => fun en st => ((fun en st => (a.ev E en st).bind fun d s => ((fun en s => (b.ev E en s).bind fun e s => .ok [e] s : FA) en s).bind fun ds s => .ok (d :: ds) s : FA) en st).bind fun ds s => liftI (LB.rng2 ds) s
  | .enum1 a => fun en st => (a.ev E en st).bind fun d s => liftI (enI d (.int 0)) s
  | .enumS a k => fun en st => (a.ev E en st).bind fun d s => (k.ev E en s).bind fun k s => liftI (enI d k) s
end
mutual
def Sm.ev (E : Ev) : Sm → FS
  | .pass => fun en st => .nx en st
  | .brk => fun en st => .bk en st
  | .cont => fun en st => .ct en st
  | .never => fun _ _ => .bad
  | .expr e => fun en st => (e.ev E en st).fl en fun _ s => .nx en s
  | .ret e => fun en st => (e.ev E en st).fl en fun d s => .rt d s
  | .retN => fun _ st => .rt .non st
  | .set i e => fun en st => (e.ev E en st).fl en fun d s => .nx (en.set i (some d)) s
  | .asg t e => fun en st => (e.ev E en st).fl en fun d s => match t.bt d en with
    | some en' => .nx en' s
    | none => .bad
  | .setIx o i e => fun en st => (e.ev E en st).fl en fun v s => (o.ev E en s).fl en fun o s => (i.ev E en s).fl en fun i s => match putIx o i v s with
    | some s => .nx en s
    | none => .bad
  | .setF o f e => fun en st => (e.ev E en st).fl en fun y s => (o.ev E en s).fl en fun d s => match putFld E.pr f d y s with
    | some s => .nx en s
    | none => .bad
  | .augF o f e => fun en st => (o.ev E en st).fl en fun d s => (liftO (ifldF E.pr f d s)).fl en fun z s => (e.ev E en s).fl en fun y s2 => match augFld E.pr f d z y s s2 with
    | some s => .nx en s
    | none => .bad
  | .setLc i fz own t it c e => fun en st => (compL fz (own.map (·.2)) t.bt (c.ev E) (e.ev E) (it.ev E) en st).fl en fun d s => .nx (en.set i (some d)) s
  | .setLc2 i fz own t it c t1 it1 c1 e => fun en st => (comp2L fz (own.map (·.2)) t.bt (c.ev E) t1.is t1.bt (c1.ev E) (e.ev E) (it1.ev E) (it.ev E) en st).fl en fun d s => .nx (en.set i (some d)) s
  | .raise_ c m => fun en st => .exn ⟨c, [], []⟩ en st
  | .raiseI c es => fun en st => (es.ev E en st).fl en fun ds s => match E.pr.inis.lookup c with
    | some fs => if fs.length = ds.length then .exn ⟨c, fs.reverse, ds.reverse⟩ en s else .bad
    | none => .bad
  | .par i j a b => fun en st => (a.ev E en st).fl en fun d s => (b.ev E en s).fl en fun e s => .nx ((en.set i (some d)).set j (some e)) s
  | .tryNo b c su => fun en st => match b.ev E en st with
    | .exn x en' s => (match E.pr.exm.lookup (x.cls, c) with
      | some true => (match su.ev E en' s with
        | .exn _ _ _ => .bad
        | r => r)
      | some false => .exn x en' s
      | none => .bad)
    | r => r
  | .tryAs b c i su => fun en st => match b.ev E en st with
    | .exn x en' s => (match E.pr.exm.lookup (x.cls, c) with
      | some true => (su.ev E (en'.set i (some (.exc x.cls x.ns x.ds))) s).wipe i
      | some false => .exn x en' s
      | none => .bad)
    | r => r
  | .ite c p q => fun en st => (c.ev E en st).fl en fun t s => if t then p.ev E en s else q.ev E en s
  | .for_ t it b => fun en st => (it.ev E en st).fl en fun items s => forF t.bt (b.ev E) items en s
  | .while_ c n b => whF (c.ev E) (b.ev E) n
def Sms.ev (E : Ev) : Sms → FS
  | .nil => fun en st => .nx en st
  | .cons s r => fun en st => (s.ev E en st).seq (r.ev E)
  | .frz i r => fun en st => match en[i]? with
    | some (some (.ref n)) => (match st.ob n with
      | some (.lst ds) => r.ev E (en.set i (some (.lst ds))) (st.del n)
      | some (.dct ks ds) => r.ev E (en.set i (some (.dct ks ds))) (st.del n)
      | _ => .bad)
    | _ => .bad
end
/-- the defs, by how deep they may call -/
def Pr.run (pr : Pr) : Nat → Nat → List D → Sto → Res D
  | 0, _, _, _ => .bad
  | k + 1, f, ds, st => match pr.defs[f]? with
    | some d => defF d.N.length d.kp (d.body.ev ⟨pr.run k, pr⟩) ds st
    | none => .bad
end LB
end

section
set_option Elab.async false
set_option linter.all false
set_option maxRecDepth 100000
set_option maxHeartbeats 4000000
/-! The small language held against the syntax. -/
namespace LB
open PySem PySem.Spec PyProof.Rows L2
structure Sc where
  N : List Str
  sc : Scope
  wr : Option Scope
  cm : Bool := true
def fnb : Option Scope → Str → Bool
  | none, _ => true
  | some s, x => s.names.lookup x == some .cell
def nodbg (x : Str) : Bool := !(x == ("__debug__" : Str))
def Sc.stor (S : Sc) (i : Nat) (x : Str) : Bool := decide (S.N[i]? = some x) && (match S.sc.names.lookup x with
  | some .local => true
  | some .cell => fnb S.wr x
  | _ => false)
def Sc.vis (S : Sc) (i : Nat) (x : Str) : Bool := decide (S.N[i]? = some x) && nodbg x && !(x == ("__classdict__" : Str)) && (match S.sc.names.lookup x with
  | some .local => true
  | some .cell => true
  | some .free => true
  | _ => false)
def Sc.gl (S : Sc) (x : Str) : Bool := nodbg x && (match S.sc.names.lookup x with
  | some .globalImplicit => true
  | _ => false)
def Sc.blk (S : Sc) (scope : Scope) : Sc := ⟨S.N, relS scope S.sc, some scope, S.cm⟩
mutual
def Tg.ck (S : Sc) : Tg → Expr → Bool
  | .nm i, .Name x _ => S.stor i x
  | .tp ts, .Tuple es _ _ => ts.ck S es && S.cm
  | _, _ => false
def Tgs.ck (S : Sc) : Tgs → List Expr → Bool
  | .nil, [] => true
  | .cons t r, e :: es => t.ck S e && noStar e && r.ck S es
  | _, _ => false
end
def Bl.name : Bl → Str
  | .len => "len" | .abs => "abs" | .sum => "sum" | .tuple => "tuple" | .list _ => "list" | .int => "int" | .all => "all" | .any => "any" | .max2 => "max" | .min2 => "min" | .repr => "repr" | .min1 => "min" | .max1 => "max" | .keys _ => "list" | .sorted _ => "sorted"
/-- what needs no calm -/
def Bl.cold : Bl → Bool
  | .len => true | .abs => true | .tuple => true | .list _ => true | .int => true | .repr => true | _ => false
def noCall : Expr → Bool
  | .Call .. => false
  | _ => true
def clsN (pr : Pr) (S : Sc) : List Nat → List Expr → Bool
  | [], [] => true
  | c :: cs, .Name x _ :: es => (match pr.cls[c]? with
    | some cl => decide (cl.name = x) && S.gl x
    | none => false) && clsN pr S cs es
  | _, _ => false
def Mt.name : Mt → Str
  | .app => "append"
  | .idx => "index"
  | .ext => "extend"
  | .ins => "insert"
  | .popi => "pop"
  | .upd => "update"
  | .get => "get"
def noSet : Expr → Bool
  | .Set .. => false
  | _ => true
def noSlice : Expr → Bool
  | .Slice .. => false
  | _ => true
def noComp : Expr → Bool
  | .ListComp .. => false
  | .SetComp .. => false
  | .DictComp .. => false
  | _ => true
def noTup : Expr → Bool
  | .Tuple .. => false
  | _ => true
def isTup : Expr → Bool
  | .Tuple .. => true
  | _ => false
def plainT : Expr → Bool
  | .UnaryOp .Not _ _ => false
  | .BoolOp .. => false
  | .IfExp .. => false
  | .Compare .. => false
  | _ => true
def opIs (o : Operator) (b : BO) : Bool := decide (o = b.op)
def cmpIs (o : CmpOp) (b : CO) : Bool := decide (o = b.op)
mutual
def Ex.ck (pr : Pr) : Ex → Sc → Expr → Bool
  | .non, _, .Constant .none _ _ => true
  | .bl b, _, .Constant (.bool c) _ _ => b == c
  | .int i, _, .Constant (.int j) _ _ => decide (i = j)
  | .str x, _, .Constant (.str y) _ _ => decide (x = y)
  | .var i, S, .Name x _ => S.vis i x
  | .glo c, S, .Name x _ => S.gl x && (match pr.cons[c]? with
    | some (y, _) => decide (x = y)
    | none => false)
  | .bin o _ a b, S, .BinOp l op r _ => opIs op o && a.ck pr S l && b.ck pr S r
  | .neg a, S, .UnaryOp .USub x _ => a.ck pr S x
  | .cmp o a b, S, .Compare l [op] [r] _ => cmpIs op o && a.ck pr S l && b.ck pr S r && !behindInMarks op r
  | .chain o o' a b c, S, .Compare l [op, op'] [m, r] _ => cmpIs op o && cmpIs op' o' && a.ck pr S l && b.ck pr S m && c.ck pr S r && !lastMarks [op, op'] [m, r]
  | .andV a r, S, .BoolOp .And (e :: es) _ => a.ck pr S e && r.ck pr S es
  | .orV a r, S, .BoolOp .Or (e :: es) _ => a.ck pr S e && r.ck pr S es
  | .notV a, S, .UnaryOp .Not x _ => a.ck pr S x
  | .ife c a b, S, .IfExp t x y _ => c.ck pr S t && a.ck pr S x && b.ck pr S y
  | .tup es, S, .Tuple l _ _ => es.ck pr S l && l.all noStar
  | .lst _ es, S, .List l _ => es.ck pr S l && l.all noStar
  | .ix a i, S, .Subscript o b _ => a.ck pr S o && i.ck pr S b && noSlice b
  | .sl _ a lo hi, S, .Subscript o (.Slice l h none _) _ => a.ck pr S o && lo.ck pr S l && hi.ck pr S h
  | .rev _ a, S, .Subscript o (.Slice none none (some (.UnaryOp .USub (.Constant (.int i) _ _) _)) _) _ => a.ck pr S o && decide (i = 1)
  | .isi a T, S, .Call (.Name x _) [e, .Name y _] [] _ => decide (x = "isinstance") && S.gl x && pr.free.contains x && S.gl y && pr.free.contains y && decide (bootBuiltins y = some (.type T)) && decide (y ≠ "__name__") && a.ck pr S e && noStar e
  | .call f sh es ks, S, .Call (.Name x _) args kws _ => S.gl x && es.ck pr S args && ks.ckK pr S kws && args.all noStar && S.cm && (match pr.defs[f]? with
    | some d => decide (d.name = x) && d.own.isNone && (match d.shs[sh]? with
      | some p => decide (kwNames kws = p.ks.map some)
      | none => false)
    | none => false)
  | .dnew _, _, .Dict [] [] _ => true
  | .ifld a f, S, .Attribute o m _ => a.ck pr S o && decide (f = m) && noCall o
  | .mk c f sh es, S, .Call (.Name x _) args [] _ => S.gl x && es.ck pr S args && args.all noStar && S.cm && decide (pr.icl.lookup c = some x) && (match pr.defs[f]? with
    | some d => decide (d.own = some (c, ("__init__" : Str))) && (match d.shs[sh]? with
      | some p => decide (p.ks = [])
      | none => false)
    | none => false)
  | .mcall m _ o es, S, .Call (.Attribute x n ap) args [] p => o.ck pr S x && es.ck pr S args && args.all noStar && decide (n = m) && noCall x && (ap.endLine == p.line) && decide (args.length < 10) && S.cm
  | .join a b, S, .Call (.Attribute o m ap) [e] [] p => a.ck pr S o && b.ck pr S e && decide (m = "join") && noStar e && noCall o && (ap.endLine == p.line)
  | .isx a cs, S, .Call (.Name x _) [e, y] [] _ => decide (x = "isinstance") && S.gl x && pr.free.contains x && a.ck pr S e && noStar e && clsN pr S cs [y]
  | .isxT a cs, S, .Call (.Name x _) [e, .Tuple ys _ _] [] _ => decide (x = "isinstance") && S.gl x && pr.free.contains x && a.ck pr S e && noStar e && clsN pr S cs ys && decide (cs.length ≤ 100) && decide (cs ≠ [])
  | .fld a f, S, .Attribute o m _ => a.ck pr S o && decide (f = m) && noCall o
  | .blt b es, S, .Call (.Name x _) (a :: args) [] _ => S.gl x && es.ck pr S (a :: args) && (a :: args).all noStar && decide (x = b.name) && pr.free.contains x && (S.cm || b.cold)
  | .comp _ own t it c e, S, .ListComp elt [⟨tg, iter, ifs, 0⟩] scope _ => S.cm && it.ck pr S tg iter && noSet iter && blkC S.N S.sc scope own && (t.is.all fun i => (own.map (·.2)).contains i) && t.ck (S.blk scope) tg && c.ck pr (S.blk scope) ifs && e.ck pr (S.blk scope) elt
  | .comp2 _ own t it c t1 it1 c1 e, S, .ListComp elt [⟨tg, iter, ifs, 0⟩, ⟨tg1, iter1, ifs1, 0⟩] scope _ => S.cm && it.ck pr S tg iter && noSet iter && blkC S.N S.sc scope own && (t.is.all fun i => (own.map (·.2)).contains i) && t.ck (S.blk scope) tg && c.ck pr (S.blk scope) ifs && e.ck pr (S.blk scope) elt && it1.ck pr (S.blk scope) tg1 iter1 && noSet iter1 && (t1.is.all fun i => (own.map (·.2)).contains i) && t1.ck (S.blk scope) tg1 && c1.ck pr (S.blk scope) ifs1
  | .dcomp _ own t it c k e, S, .DictComp kx elt [⟨tg, iter, ifs, 0⟩] scope _ => S.cm && it.ck pr S tg iter && noSet iter && blkC S.N S.sc scope own && (t.is.all fun i => (own.map (·.2)).contains i) && t.ck (S.blk scope) tg && c.ck pr (S.blk scope) ifs && e.ck pr (S.blk scope) elt && k.ck pr (S.blk scope) kx
  | .disp _ es, S, .Dict (k0 :: keys) vals _ => Exs.ckD pr es S (k0 :: keys) vals && decide ((k0 :: keys).length ≤ 15)
  | .pop0 o, S, .Call (.Attribute x n ap) [] [] p => o.ck pr S x && decide (n = "pop") && noCall x && (ap.endLine == p.line)
  | .callL i n es, S, .Call (.Name x _) (a :: args) [] _ => S.vis i x && es.ck pr S (a :: args) && (a :: args).all noStar && S.cm && decide ((a :: args).length = n)
  | .meth m o es, S, .Call (.Attribute x n ap) (a :: args) [] p => o.ck pr S x && es.ck pr S (a :: args) && (a :: args).all noStar && decide (n = m.name) && noCall x && (ap.endLine == p.line) && decide ((a :: args).length < 10)
  | .lenS e, S, .Call (.Name x _) [.Call (.Name y _) [a] [] _] [] _ => S.cm && decide (x = "len") && S.gl x && pr.free.contains x && decide (y = "set") && S.gl y && pr.free.contains y && e.ck pr S a && noStar a
  | .lenC own t it c e, S, .Call (.Name x _) [.SetComp elt [⟨tg, iter, ifs, 0⟩] scope _] [] _ => S.cm && decide (x = "len") && S.gl x && pr.free.contains x && it.ck pr S tg iter && noSet iter && blkC S.N S.sc scope own && (t.is.all fun i => (own.map (·.2)).contains i) && t.ck (S.blk scope) tg && c.ck pr (S.blk scope) ifs && e.ck pr (S.blk scope) elt
  | .sortS _ e, S, .Call (.Name x _) [.Call (.Name y _) [a] [] _] [] _ => S.cm && decide (x = "sorted") && S.gl x && pr.free.contains x && decide (y = "set") && S.gl y && pr.free.contains y && e.ck pr S a && noStar a
  | .sortC _ _ own t it c cs e, S, .Call (.Name x _) [.SetComp elt (⟨tg, iter, ifs, 0⟩ :: post) scope _] [] _ => S.cm && decide (x = "sorted") && S.gl x && pr.free.contains x && it.ck pr S tg iter && noSet iter && blkC S.N S.sc scope own && (t.is.all fun i => (own.map (·.2)).contains i) && t.ck (S.blk scope) tg && c.ck pr (S.blk scope) ifs && e.ck pr (S.blk scope) elt && cs.ck pr (S.blk scope) post && (cs.vs.all fun i => (own.map (·.2)).contains i)
  | _, _, _ => false
def Cgs.ck (pr : Pr) : Cgs → Sc → List Comprehension → Bool
  | .nil, _, [] => true
  | .cons t it c r, S, ⟨tg, iter, ifs, 0⟩ :: gs => it.ck pr S tg iter && noSet iter && t.ck S tg && c.ck pr S ifs && r.ck pr S gs
  | _, _, _ => false
def Exs.ck (pr : Pr) : Exs → Sc → List Expr → Bool
  | .nil, _, [] => true
  | .cons a r, S, e :: es => a.ck pr S e && r.ck pr S es
  | _, _, _ => false
def Exs.ckD (pr : Pr) : Exs → Sc → List (Option Expr) → List Expr → Bool
  | .nil, _, [], [] => true
  | .cons a (.cons b r), S, some k :: ks, v :: vs => a.ck pr S k && b.ck pr S v && Exs.ckD pr r S ks vs
  | _, _, _, _ => false
def Exs.ckK (pr : Pr) : Exs → Sc → List Keyword → Bool
  | .nil, _, [] => true
  | .cons a r, S, ⟨_, e, _⟩ :: es => a.ck pr S e && r.ckK pr S es
  | _, _, _ => false
def ExO.ck (pr : Pr) : ExO → Sc → Option Expr → Bool
  | .no, _, none => true
  | .yes a, S, some e => a.ck pr S e
  | _, _, _ => false
def Te.ck (pr : Pr) : Te → Sc → Expr → Bool
  | .not t, S, .UnaryOp .Not x _ => t.ck pr S x
  | .and t r, S, .BoolOp .And (e :: es) _ => t.ck pr S e && r.ck pr S es
  | .or t r, S, .BoolOp .Or (e :: es) _ => t.ck pr S e && r.ck pr S es
  | .cmp o a b, S, .Compare l [op] [r] _ => cmpIs op o && a.ck pr S l && b.ck pr S r && !behindInMarks op r
  | .chain o o' a b c, S, .Compare l [op, op'] [m, r] _ => cmpIs op o && cmpIs op' o' && a.ck pr S l && b.ck pr S m && c.ck pr S r && !lastMarks [op, op'] [m, r]
  | .val a, S, e => a.ck pr S e && plainT e
  | _, _, _ => false
def Tes.ck (pr : Pr) : Tes → Sc → List Expr → Bool
  | .nil, _, [] => true
  | .cons a r, S, e :: es => a.ck pr S e && r.ck pr S es
  | _, _, _ => false
def TeO.ck (pr : Pr) : TeO → Sc → List Expr → Bool
  | .no, _, [] => true
  | .yes a, S, [e] => a.ck pr S e
  | _, _, _ => false
def It.ck (pr : Pr) : It → Sc → Expr → Expr → Bool
  | .rng1 a, S, _, .Call (.Name x _) [e] [] _ => decide (x = "range") && S.gl x && pr.free.contains x && a.ck pr S e && noStar e
  | .rng2 a b, S, _, .Call (.Name x _) [e, e'] [] _ => decide (x = "range") && S.gl x && pr.free.contains x && a.ck pr S e && b.ck pr S e' && noStar e && noStar e'
  | .enumS a b, S, tg, .Call (.Name x _) [e] [⟨some n, e', _⟩] _ => decide (x = "enumerate") && S.gl x && pr.free.contains x && decide (n = "start") && a.ck pr S e && b.ck pr S e' && noStar e && isTup tg
  | .enum1 a, S, tg, .Call (.Name x _) [e] [] _ => decide (x = "enumerate") && S.gl x && pr.free.contains x && a.ck pr S e && noStar e && isTup tg
  | .seq a, S, _, e => a.ck pr S e
  | _, _, _, _ => false
end
def swOk (S : Sc) (y : Str) (py : Pos) (scope : Scope) (pos : Pos) : Bool := (match S.sc.kind with
  | .function => true
  | _ => false) && (match S.sc.names.lookup y with
  | some .local => true
  | _ => false) && (py.line == pos.line) && !(scope.names.any fun (n, k) => n == y && (k == .local || k == .cell))
/-- a, b = x, y: both names at once -/
def parOk (S : Sc) (i j : Nat) (x y : Str) (px py : Pos) (a b : Expr) : Bool := decide (S.N[i]? = some x) && decide (S.N[j]? = some y) && decide (i ≠ j) && decide (S.sc.names.lookup x = some .local) && decide (S.sc.names.lookup y = some .local) && (py.line == px.line) && noStar a && noStar b && decide (x ≠ y) && !(foldedForSure 8 a && foldedForSure 8 b) && !(constantsAlone 8 a && constantsAlone 8 b)
mutual
def Sm.ck (pr : Pr) : Sm → Sc → Stmt → Bool
  | .pass, _, .Pass _ => true
  | .brk, _, .Break _ => true
  | .cont, _, .Continue _ => true
  | .never, _, _ => true
  | .expr e, S, .Expr a _ => e.ck pr S a && noComp a
  | .ret e, S, .Return (some a) _ => e.ck pr S a
  | .retN, _, .Return none _ => true
  | .set i e, S, .Assign [.Name x _] a _ => S.stor i x && e.ck pr S a && noComp a
  | .asg t e, S, .Assign [tg] a _ => t.ck S tg && e.ck pr S a && noComp a && noTup a && noStar tg
  | .setIx o i e, S, .Assign [.Subscript x y _] a _ => o.ck pr S x && i.ck pr S y && e.ck pr S a && noComp a && noSlice y
  | .setF o f e, S, .Assign [.Attribute x m _] a _ => o.ck pr S x && e.ck pr S a && decide (f = m) && noComp a
  | .augF o f e, S, .AugAssign (.Attribute x m _) .Add a _ => o.ck pr S x && e.ck pr S a && decide (f = m)
  | .setLc i _ own t it c e, S, .Assign [.Name y py] (.ListComp elt [⟨tg, iter, ifs, 0⟩] scope pos) _ => S.cm && S.stor i y && swOk S y py scope pos && it.ck pr S tg iter && noSet iter && blkC S.N S.sc scope own && (t.is.all fun i => (own.map (·.2)).contains i) && t.ck (S.blk scope) tg && c.ck pr (S.blk scope) ifs && e.ck pr (S.blk scope) elt
  | .setLc2 i _ own t it c t1 it1 c1 e, S, .Assign [.Name y py] (.ListComp elt [⟨tg, iter, ifs, 0⟩, ⟨tg1, iter1, ifs1, 0⟩] scope pos) _ => S.stor i y && swOk S y py scope pos && S.cm && it.ck pr S tg iter && noSet iter && blkC S.N S.sc scope own && (t.is.all fun i => (own.map (·.2)).contains i) && t.ck (S.blk scope) tg && c.ck pr (S.blk scope) ifs && e.ck pr (S.blk scope) elt && it1.ck pr (S.blk scope) tg1 iter1 && noSet iter1 && (t1.is.all fun i => (own.map (·.2)).contains i) && t1.ck (S.blk scope) tg1 && c1.ck pr (S.blk scope) ifs1
  | .ite c p q, S, .If t a b _ => c.ck pr S t && p.ck pr S a && q.ck pr S b
  | .raise_ c m, S, .Raise (some (.Call (.Name x _) [.Constant (.str y) _ _] [] _)) none _ => S.cm && pr.plain.contains c && clsN pr S [c] [.Name x ⟨0, 0, 0, 0⟩] && decide (m = y)
  | .tryAs b c i su, S, .Try body [.ExceptHandler (some (.Name x _)) (some n) (s0 :: ss) _] [] [] _ => S.cm && b.ck pr S body && su.ck pr { S with cm := false } (s0 :: ss) && clsN pr S [c] [.Name x ⟨0, 0, 0, 0⟩] && decide (S.N[i]? = some n) && (match S.sc.names.lookup n with
    | some .local => true
    | _ => false) && (match S.wr with
    | none => true
    | _ => false)
  | .raiseI c es, S, .Raise (some (.Call (.Name x _) (a :: args) [] _)) none _ => S.cm && clsN pr S [c] [.Name x ⟨0, 0, 0, 0⟩] && es.ck pr S (a :: args) && (a :: args).all noStar && decide ((a :: args).length < 10) && (match pr.inis.lookup c with
    | some fs => decide (fs.length = (a :: args).length)
    | none => false)
  | .tryNo b c su, S, .Try body [.ExceptHandler (some (.Name x _)) none (s0 :: ss) _] [] [] _ => S.cm && b.ck pr S body && su.ck pr { S with cm := false } (s0 :: ss) && clsN pr S [c] [.Name x ⟨0, 0, 0, 0⟩] && (match S.wr with
    | none => true
    | _ => false)
  | .par i j a b, S, .Assign [.Tuple [.Name x px, .Name y py] _ _] (.Tuple [e, e'] _ _) _ => S.cm && a.ck pr S e && b.ck pr S e' && parOk S i j x y px py e e'
  | .for_ t it b, S, .For tg iter body [] _ => S.cm && t.ck S tg && it.ck pr S tg iter && noSet iter && b.ck pr S body
  | .while_ c _ b, S, .While t body [] _ => c.ck pr S t && b.ck pr S body
  | _, _, _ => false
def Sms.ck (pr : Pr) : Sms → Sc → List Stmt → Bool
  | .nil, _, [] => true
  | .cons s r, S, a :: as => s.ck pr S a && r.ck pr S as
  | .frz _ r, S, as => r.ck pr S as
  | _, _, _ => false
end
end LB
end

section
set_option Elab.async false
set_option linter.all false
set_option maxRecDepth 100000
set_option maxHeartbeats 4000000
/-! max and min of two tuples of like data. -/
namespace LB
open PySem PySem.Spec PySem.W PySem.SeqAt PyProof.Rows
section
variable {prog : Program} {w : World} {A : Around} {E : Value → Shared → Prop} {s : Shared}
theorem max_two_walkH {a b : Value} {Q : Value → Shared → Prop}
    (h : wpAny (model prog w) A.in1 (pyIter (.ref s.heap.objs.size)) (fun it s₂ => ∃ I fp wr G n P St H bt, it = .ref I ∧ WalksS prog w A.in1 I fp wr G n P St ∧ St 0 s₂ ∧ (∀ b ∈ fp, b < s₂.heap.objs.size) ∧ 0 < n ∧
      (∀ b o, H.get? b = some o → b ∉ wr) ∧ (∀ b o, H.get? b = some o → s₂.heap.get? b = some o) ∧ CmpIn prog w A.in1 .Gt H P bt ∧ ∀ v s', P (argBest bt (n - 1)) v → Moved wr G s₂ s' → Q v s') E
      { s with heap := s.heap.push { cls := .type "tuple", data := .seq #[a, b] } }) :
    wpAny (model prog w) A (call (.builtin "max") [a, b]) Q E s := by
  have hname : (toString "max" ++ toString ".loop" : String) = "max.loop" := by decide
  refine call_function_tree F.kind_max F.plain_max F.entry_max (F.args_max2 _ _) ?_
  show wpAny _ A.in1 (Builtin.Builtins.bindParams "max" ["key", "default"] 0 ⟨[], []⟩ >>= _) _ _ s
  refine wpAny_bind (wpAny_of_eq (show Builtin.Builtins.bindParams "max" ["key", "default"] 0 ⟨[], []⟩ = pure [none, none] from rfl) ?_)
  show wpAny _ A.in1 (newTuple [a, b] >>= _) _ _ s
  refine wpAny_bind (wpAny_newObj_type ?_)
  refine wpAny_bind (wpAny_mono h (fun it s₂ h₂ => ?_) fun _ _ e => e)
  obtain ⟨I, fp, wr, G, n, P, St, H, bt, rfl, W, hst, hfp, hn, hw, hkeep, hcmp, hQ⟩ := h₂
  refine wpAny_bind (wpAny_newObj_type ?_)
  have hSf : s₂.heap.objs.size ∉ fp := fun hm => Nat.lt_irrefl _ (hfp _ hm)
  rw [hname]
  refine wpAny_pure ⟨plainId_quiet F.plain_max_loop _, codeAny_max_loop_firstH W H hw bt hcmp s₂.heap.objs.size hSf (fresh_in hkeep) _ hn (fun b o e => Heap.get?_push_of_some _ (hkeep b o e)) (W.frame 0 s₂ _ s₂.toks hst (Nat.le_refl _) fun b _ o e => Heap.get?_push_of_some _ e) (Heap.get?_push_size _ rfl) fun v s' hP hm => ?_⟩
  exact hQ v s' hP (Moved.drop_new (tk := s₂.toks) hm (Nat.le_refl _))
theorem min_two_walkH {a b : Value} {Q : Value → Shared → Prop}
    (h : wpAny (model prog w) A.in1 (pyIter (.ref s.heap.objs.size)) (fun it s₂ => ∃ I fp wr G n P St H bt, it = .ref I ∧ WalksS prog w A.in1 I fp wr G n P St ∧ St 0 s₂ ∧ (∀ b ∈ fp, b < s₂.heap.objs.size) ∧ 0 < n ∧
      (∀ b o, H.get? b = some o → b ∉ wr) ∧ (∀ b o, H.get? b = some o → s₂.heap.get? b = some o) ∧ CmpIn prog w A.in1 .Lt H P bt ∧ ∀ v s', P (argBest bt (n - 1)) v → Moved wr G s₂ s' → Q v s') E
      { s with heap := s.heap.push { cls := .type "tuple", data := .seq #[a, b] } }) :
    wpAny (model prog w) A (call (.builtin "min") [a, b]) Q E s := by
  have hname : (toString "min" ++ toString ".loop" : String) = "min.loop" := by decide
  refine call_function_tree F.kind_min F.plain_min F.entry_min (F.args_min2 _ _) ?_
  show wpAny _ A.in1 (Builtin.Builtins.bindParams "min" ["key", "default"] 0 ⟨[], []⟩ >>= _) _ _ s
  refine wpAny_bind (wpAny_of_eq (show Builtin.Builtins.bindParams "min" ["key", "default"] 0 ⟨[], []⟩ = pure [none, none] from rfl) ?_)
  show wpAny _ A.in1 (newTuple [a, b] >>= _) _ _ s
  refine wpAny_bind (wpAny_newObj_type ?_)
  refine wpAny_bind (wpAny_mono h (fun it s₂ h₂ => ?_) fun _ _ e => e)
  obtain ⟨I, fp, wr, G, n, P, St, H, bt, rfl, W, hst, hfp, hn, hw, hkeep, hcmp, hQ⟩ := h₂
  refine wpAny_bind (wpAny_newObj_type ?_)
  have hSf : s₂.heap.objs.size ∉ fp := fun hm => Nat.lt_irrefl _ (hfp _ hm)
  rw [hname]
  refine wpAny_pure ⟨plainId_quiet F.plain_min_loop _, codeAny_min_loop_firstH W H hw bt hcmp s₂.heap.objs.size hSf (fresh_in hkeep) _ hn (fun b o e => Heap.get?_push_of_some _ (hkeep b o e)) (W.frame 0 s₂ _ s₂.toks hst (Nat.le_refl _) fun b _ o e => Heap.get?_push_of_some _ e) (Heap.get?_push_size _ rfl) fun v s' hP hm => ?_⟩
  exact hQ v s' hP (Moved.drop_new (tk := s₂.toks) hm (Nat.le_refl _))
theorem max_two_dat {a b : Value} {x y : PyData} {as bs : List Addr} {Q : Value → Shared → Prop} (hh : A.handled = none) (ra : Reads s.heap a x as) (rb : Reads s.heap b y bs) (al : AlikeAll [x, y]) (hu : A.units + 1 + PyData.depthAll [x, y] < cLine)
    (h : ∀ h' tk, (∀ b o, s.heap.get? b = some o → h'.get? b = some o) → Q (if dataLt x y then b else a) { s with heap := h', toks := tk }) :
    wpAny (model prog w) A (call (.builtin "max") [a, b]) Q E s := by
  have kp : ∀ c o, s.heap.get? c = some o → (s.heap.push { cls := .type "tuple", data := .seq #[a, b] }).get? c = some o := fun c o e => Heap.get?_push_of_some _ e
  have hl : (s.heap.push { cls := .type "tuple", data := .seq #[a, b] }).IsTuple s.heap.objs.size #[a, b] := ⟨_, Heap.get?_push_size _ rfl, rfl, 0, rfl⟩
  have hr : ReadsAll (s.heap.push { cls := .type "tuple", data := .seq #[a, b] }) (#[a, b] : Array Value).toList [x, y] (as ++ (bs ++ [])) := .cons (reads_keeps kp ra) (.cons (reads_keeps kp rb) .nil)
  refine max_two_walkH (iter_tupleW (A := A.in1) hh hl fun s₂ e W st hfp hw hk => ?_)
  refine ⟨_, _, _, _, _, _, _, _, _, rfl, W, st, hfp, Nat.succ_pos 1, hw, hk, cmpIn_gt (s := { s with heap := s.heap.push { cls := .type "tuple", data := .seq #[a, b] } }) (A := A.in1) hr al (by show A.units + 1 + _ < _; exact hu), fun v s' hP m => ?_⟩
  obtain ⟨h', tk, rfl, hk'⟩ := moved_old e rfl m
  have hv : v = if dataLt x y then b else a := by
    have e1 : argBest (fun i j => dataLt ([x, y].getD j .none) ([x, y].getD i .none)) ((#[a, b] : Array Value).size - 1) = if dataLt x y then 1 else 0 := rfl
    rw [e1] at hP
    split at hP
    · rename_i c; rw [if_pos c]; exact (Option.some.inj hP).symm
    · rename_i c; rw [if_neg c]; exact (Option.some.inj hP).symm
  rw [hv]
  exact h h' tk fun c o e => hk' c o (kp c o e)
theorem min_two_dat {a b : Value} {x y : PyData} {as bs : List Addr} {Q : Value → Shared → Prop} (hh : A.handled = none) (ra : Reads s.heap a x as) (rb : Reads s.heap b y bs) (al : AlikeAll [x, y]) (hu : A.units + 1 + PyData.depthAll [x, y] < cLine)
    (h : ∀ h' tk, (∀ b o, s.heap.get? b = some o → h'.get? b = some o) → Q (if dataLt y x then b else a) { s with heap := h', toks := tk }) :
    wpAny (model prog w) A (call (.builtin "min") [a, b]) Q E s := by
  have kp : ∀ c o, s.heap.get? c = some o → (s.heap.push { cls := .type "tuple", data := .seq #[a, b] }).get? c = some o := fun c o e => Heap.get?_push_of_some _ e
  have hl : (s.heap.push { cls := .type "tuple", data := .seq #[a, b] }).IsTuple s.heap.objs.size #[a, b] := ⟨_, Heap.get?_push_size _ rfl, rfl, 0, rfl⟩
  have hr : ReadsAll (s.heap.push { cls := .type "tuple", data := .seq #[a, b] }) (#[a, b] : Array Value).toList [x, y] (as ++ (bs ++ [])) := .cons (reads_keeps kp ra) (.cons (reads_keeps kp rb) .nil)
  refine min_two_walkH (iter_tupleW (A := A.in1) hh hl fun s₂ e W st hfp hw hk => ?_)
  refine ⟨_, _, _, _, _, _, _, _, _, rfl, W, st, hfp, Nat.succ_pos 1, hw, hk, cmpIn_lt (s := { s with heap := s.heap.push { cls := .type "tuple", data := .seq #[a, b] } }) (A := A.in1) hr al (by show A.units + 1 + _ < _; exact hu), fun v s' hP m => ?_⟩
  obtain ⟨h', tk, rfl, hk'⟩ := moved_old e rfl m
  have hv : v = if dataLt y x then b else a := by
    have e1 : argBest (fun i j => dataLt ([x, y].getD i .none) ([x, y].getD j .none)) ((#[a, b] : Array Value).size - 1) = if dataLt y x then 1 else 0 := rfl
    rw [e1] at hP
    split at hP
    · rename_i c; rw [if_pos c]; exact (Option.some.inj hP).symm
    · rename_i c; rw [if_neg c]; exact (Option.some.inj hP).symm
  rw [hv]
  exact h h' tk fun c o e => hk' c o (kp c o e)
end
end LB
end

section
set_option Elab.async false
set_option linter.all false
set_option maxRecDepth 100000
set_option maxHeartbeats 4000000
/-! Built-ins by their names. -/
namespace LB
open PySem PySem.Spec PyProof.Rows L2
def Bl.val : Bl → Value
  | .len => .builtin "len" | .abs => .builtin "abs" | .sum => .builtin "sum" | .tuple => .type "tuple" | .list _ => .type "list" | .int => .type "int" | .all => .builtin "all" | .any => .builtin "any" | .max2 => .builtin "max" | .min2 => .builtin "min" | .repr => .builtin "repr" | .min1 => .builtin "min" | .max1 => .builtin "max" | .keys _ => .type "list" | .sorted _ => .builtin "sorted"
theorem Bl.boot : ∀ b : Bl, bootBuiltins b.name = some b.val
  | .len => by decide +kernel
  | .abs => by decide +kernel
  | .sum => by decide +kernel
  | .tuple => by decide +kernel
  | .list _ => by
    show bootBuiltins "list" = some (.type "list")
    decide +kernel
  | .int => by decide +kernel
  | .all => by decide +kernel
  | .any => by decide +kernel
  | .max2 => by decide +kernel
  | .min2 => by decide +kernel
  | .repr => by decide +kernel
  | .min1 => by decide +kernel
  | .max1 => by decide +kernel
  | .keys _ => by
    show bootBuiltins "list" = some (.type "list")
    decide +kernel
  | .sorted _ => by
    show bootBuiltins "sorted" = some (.builtin "sorted")
    decide +kernel
theorem Bl.nn : ∀ b : Bl, b.name ≠ "__name__"
  | .len => by decide
  | .abs => by decide
  | .sum => by decide
  | .tuple => by decide
  | .list _ => by
    show ("list" : Str) ≠ "__name__"
    decide
  | .int => by decide
  | .all => by decide
  | .any => by decide
  | .max2 => by decide
  | .min2 => by decide
  | .repr => by decide
  | .min1 => by decide
  | .max1 => by decide
  | .keys _ => by
    show ("list" : Str) ≠ "__name__"
    decide
  | .sorted _ => by
    show ("sorted" : Str) ≠ "__name__"
    decide
section
variable {X : Cx} {g : Sg}
theorem rL_one {f : Value} {F : D → Sto → Option (D × Sto)} (h : ∀ (pins : List (Addr × Obj)) (s : Shared) (σ : L2.St) (H : Hp) (x : V) (us : List Value) (Q : VK) (W : Wd) (st : Sto) (d : D), Inv X pins σ H s → Vals [x] us → Sim g W st H → Rep W x d → PostV g Q W (F d st) →
      wpAny (model X.prog X.w) X.A (call f us) (EP X pins σ Q) X.xe s) : CallR X f (rL g (f1 F)) := by
  intro pins s σ H xs us Q I r ⟨W, st, ds, S, rs, p⟩
  unfold f1 at p
  split at p
  · obtain ⟨x, rfl, rx⟩ := reps1 rs
    exact h pins s σ H x us Q W st _ I r S rx p
  · exact p.elim
theorem intsOf_rep {W : Wd} : ∀ {vs : List V} {ds : List D} {ns : List Int}, Reps W vs ds → intsOf ds = some ns → vs = ns.map V.int ∧ ds = ns.map D.int
  | _, _, _, .nil, h => by simp only [intsOf] at h; cases h; exact ⟨rfl, rfl⟩
  | _, _, ns, .cons (d := d) (ds := ds) r t, h => by
    cases r with
    | int i =>
      simp only [intsOf] at h
      cases q : intsOf ds with
      | none => rw [q] at h; cases h
      | some ms =>
        rw [q] at h; cases h
        obtain ⟨e1, e2⟩ := intsOf_rep t q
        rw [e1, e2]
        exact ⟨rfl, rfl⟩
    | non => simp [intsOf] at h
    | bl b => simp [intsOf] at h
    | str x => simp [intsOf] at h
    | tup _ _ => simp [intsOf] at h
    | lst _ _ => simp [intsOf] at h
    | scr _ => simp [intsOf] at h
    | ref _ => simp [intsOf] at h
    | exc0 _ => simp [intsOf] at h
    | exc _ _ _ _ => simp [intsOf] at h
    | dct _ _ _ => simp [intsOf] at h
    | fn _ => simp [intsOf] at h
    | kdc _ _ _ => simp [intsOf] at h
theorem blsOf_rep {W : Wd} : ∀ {vs : List V} {ds : List D} {ns : List Bool}, Reps W vs ds → blsOf ds = some ns → vs = ns.map V.bl
  | _, _, _, .nil, h => by simp only [blsOf] at h; cases h; rfl
  | _, _, ns, .cons (d := d) (ds := ds) r t, h => by
    cases r with
    | bl i =>
      simp only [blsOf] at h
      cases q : blsOf ds with
      | none => rw [q] at h; cases h
      | some ms =>
        rw [q] at h; cases h
        rw [blsOf_rep t q]
        rfl
    | non => simp [blsOf] at h
    | int b => simp [blsOf] at h
    | str x => simp [blsOf] at h
    | tup _ _ => simp [blsOf] at h
    | lst _ _ => simp [blsOf] at h
    | scr _ => simp [blsOf] at h
    | ref _ => simp [blsOf] at h
    | exc0 _ => simp [blsOf] at h
    | exc _ _ _ _ => simp [blsOf] at h
    | dct _ _ _ => simp [blsOf] at h
    | fn _ => simp [blsOf] at h
    | kdc _ _ _ => simp [blsOf] at h
theorem len_ok (hK : X.K = g.K) : CallR X (.builtin "len") (rL g Bl.len.f) := rL_one fun pins s σ H x us Q W st d I r S rx p => by
  cases q : lenD st d with
  | none => simp only [q] at p; exact p.elim
  | some n =>
    simp only [q] at p
    refine call_len pins s σ H _ us Q I r ⟨x, n, rfl, ?_, p W _ H (.refl W) S (.int _)⟩
    have key : (seqOf st d).map List.length = some n → LenV X.K x H n := fun h => by
      cases e : seqOf st d with
      | none => rw [e] at h; cases h
      | some ds =>
        rw [e] at h; cases h
        obtain ⟨a, vs, rfl, hq, rs⟩ := seqOf_ok S rx e
        rcases hq with hq | hq
        · exact .inl ⟨vs, hK ▸ hq, rs.length.symm⟩
        · exact .inr ⟨vs, hK ▸ hq, rs.length.symm⟩
    cases rx with
    | str z =>
      simp only [lenD] at q
      split at q
      · rename_i c; cases q; exact ⟨c, rfl⟩
      · cases q
    | non => exact key q
    | bl b => exact key q
    | int b => exact key q
    | tup _ _ => exact key q
    | lst _ _ => exact key q
    | scr _ => exact key q
    | ref _ => exact key q
    | exc0 _ => exact key q
    | exc _ _ _ _ => exact key q
    | dct _ _ _ => exact key q
    | fn _ => exact key q
    | kdc _ _ _ => exact key q
theorem abs_ok : CallR X (.builtin "abs") (rL g Bl.abs.f) := rL_one fun pins s σ H x us Q W st d I r S rx p => by
  cases rx with
  | int i => exact call_abs pins s σ H _ us Q I r ⟨i, rfl, p W _ H (.refl W) S (.int _)⟩
  | non => exact p.elim
  | bl b => exact p.elim
  | str b => exact p.elim
  | tup _ _ => exact p.elim
  | lst _ _ => exact p.elim
  | scr _ => exact p.elim
  | ref _ => exact p.elim
  | exc0 _ => exact p.elim
  | exc _ _ _ _ => exact p.elim
  | dct _ _ _ => exact p.elim
  | fn _ => exact p.elim
  | kdc _ _ _ => exact p.elim
theorem int_ok : CallR X (.type "int") (rL g Bl.int.f) := rL_one fun pins s σ H x us Q W st d I r S rx p => by
  cases rx with
  | int i => exact call_int1 pins s σ H _ us Q I r (.inl ⟨i, rfl, p W _ H (.refl W) S (.int _)⟩)
  | bl b => exact call_int1 pins s σ H _ us Q I r (.inr ⟨b, rfl, p W _ H (.refl W) S (.int _)⟩)
  | non => exact p.elim
  | str b => exact p.elim
  | tup _ _ => exact p.elim
  | lst _ _ => exact p.elim
  | scr _ => exact p.elim
  | ref _ => exact p.elim
  | exc0 _ => exact p.elim
  | exc _ _ _ _ => exact p.elim
  | dct _ _ _ => exact p.elim
  | fn _ => exact p.elim
  | kdc _ _ _ => exact p.elim
theorem tuple_ok (hK : X.K = g.K) : CallR X (.type "tuple") (rL g Bl.tuple.f) := rL_one fun pins s σ H x us Q W st d I r S rx p => by
  cases q : getT d with
  | some ds =>
    have e : seqOf st d = some ds := by simp [seqOf, q]
    simp only [e] at p
    obtain ⟨a, vs, rfl, ha, ra⟩ := getT_ok S rx q
    have ed : d = .tup ds := by cases d <;> simp [getT] at q; rw [q]
    rw [ed] at rx
    exact call_tuple_of pins s σ H _ us Q I r ⟨a, vs, rfl, .inr ⟨hK ▸ ha, p W _ H (.refl W) S rx⟩⟩
  | none =>
    cases e : getL st d with
    | none => simp only [seqOf, q, e] at p; exact p.elim
    | some ds =>
      simp only [seqOf, q, e] at p
      obtain ⟨a, vs, rfl, ha, ra⟩ := getL_ok S rx e
      refine call_tuple_of pins s σ H _ us Q I r ⟨a, vs, rfl, .inl ⟨hK ▸ ha, fun l hl => ?_⟩⟩
      obtain ⟨W', le, S', r'⟩ := mkT_ok S hl ra
      exact p W' _ _ le S' r'
theorem list_ok (fz : Bool) (hK : X.K = g.K) : CallR X (.type "list") (rL g (Bl.list fz).f) := rL_one fun pins s σ H x us Q W st d I r S rx p => by
  cases e : seqOf st d with
  | none => simp only [e] at p; exact p.elim
  | some ds =>
    simp only [e] at p
    obtain ⟨a, vs, rfl, ha, ra⟩ := seqOf_ok S rx e
    refine call_list_of pins s σ H _ us Q I r ⟨a, vs, rfl, hK ▸ ha, fun l hl => ?_⟩
    obtain ⟨W', le, S', r'⟩ := mkL_ok S hl ra fz
    exact p W' _ _ le S' r'
theorem all_ok (hK : X.K = g.K) (hc : X.calm = true) : CallR X (.builtin "all") (rL g Bl.all.f) := rL_one fun pins s σ H x us Q W st d I r S rx p => by
  cases e : getL st d with
  | none => simp only [e] at p; exact p.elim
  | some ds =>
    cases e2 : blsOf ds with
    | none => simp only [e, Option.bind_some, e2] at p; exact p.elim
    | some bs =>
      simp only [e, Option.bind_some, e2] at p
      obtain ⟨a, vs, rfl, ha, ra⟩ := getL_ok S rx e
      have := blsOf_rep ra e2
      subst this
      exact cr_all hc pins s σ H _ us Q I r ⟨a, bs, rfl, hK ▸ ha, p W _ H (.refl W) S (.bl _)⟩
theorem any_ok (hK : X.K = g.K) (hc : X.calm = true) : CallR X (.builtin "any") (rL g Bl.any.f) := rL_one fun pins s σ H x us Q W st d I r S rx p => by
  cases e : getL st d with
  | none => simp only [e] at p; exact p.elim
  | some ds =>
    cases e2 : blsOf ds with
    | none => simp only [e, Option.bind_some, e2] at p; exact p.elim
    | some bs =>
      simp only [e, Option.bind_some, e2] at p
      obtain ⟨a, vs, rfl, ha, ra⟩ := getL_ok S rx e
      have := blsOf_rep ra e2
      subst this
      exact cr_any hc pins s σ H _ us Q I r ⟨a, bs, rfl, hK ▸ ha, p W _ H (.refl W) S (.bl _)⟩
theorem mxT_ok {mx : Bool} {a b d : D} (h : mxT mx a b = some d) (nt : ∀ z, pyD a = some z → z ≠ .none) (nt2 : ∀ z, pyD b = some z → z ≠ .none) : ∃ p q, pyD a = some p ∧ pyD b = some q ∧ PySem.W.AlikeAll [p, q] ∧ PyData.depthAll [p, q] ≤ 8 ∧ d = if (if mx then PySem.W.dataLt p q else PySem.W.dataLt q p) then b else a := by
  unfold mxT at h
  cases e1 : pyD a with
  | none => rw [e1] at h; cases h
  | some p =>
    cases e2 : pyD b with
    | none => rw [e1, e2] at h; cases h
    | some q =>
      simp only [e1, e2] at h
      split at h
      case isFalse => cases h
      rename_i c
      cases h
      simp only [srtOk, Bool.and_eq_true] at c
      have al := c.1
      simp only [alikeB, List.all_eq_true] at al
      have d1 : p.depth ≤ 8 := by
        have := List.all_eq_true.mp c.2.2 p (List.mem_cons_self ..)
        simpa using this
      have d2 : q.depth ≤ 8 := by
        have := List.all_eq_true.mp c.2.2 q (List.mem_cons_of_mem _ (List.mem_cons_self ..))
        simpa using this
      refine ⟨p, q, rfl, rfl, ⟨al, fun z hz => ?_⟩, ?_, rfl⟩
      · rcases List.mem_cons.mp hz with e | hz
        · rw [e]; exact nt p e1
        · rw [List.mem_singleton.mp hz]; exact nt2 q e2
      · show max p.depth (max q.depth 0) ≤ 8
        omega
theorem tup_nn {ds : List D} : ∀ z, pyD (.tup ds) = some z → z ≠ .none := fun z h e => by
  simp only [pyD] at h
  cases q : pyDs ds with
  | none => rw [q] at h; cases h
  | some zs => rw [q] at h; cases h; cases e
theorem max_ok (hK : X.K = g.K) (hc : X.calm = true) (hu : X.A.units + 20 < cLine) : CallR X (.builtin "max") (rL g Bl.max2.f) := by
  intro pins s σ H xs us Q I r ⟨W, st, ds, S, rs, p⟩
  simp only [Bl.f] at p
  split at p
  · obtain ⟨x, y, rfl, rx, ry⟩ := reps2 rs
    cases rx; cases ry
    exact call_max2 hc pins s σ H _ us Q I r ⟨_, _, rfl, p W _ H (.refl W) S (.int _)⟩
  · rename_i xs' ys'
    obtain ⟨x, y, rfl, rx, ry⟩ := reps2 rs
    cases e : mxT true (.tup xs') (.tup ys') with
    | none => rw [e] at p; exact p.elim
    | some d =>
      rw [e] at p
      obtain ⟨a, b, e1, e2, al, dp, rfl⟩ := mxT_ok e tup_nn tup_nn
      obtain ⟨u, w', rfl, r1, r2⟩ := vals2 r
      obtain ⟨as, ra⟩ := Dp.reads I a x u (hK ▸ dp_of S rx e1) r1
      obtain ⟨bs, rb⟩ := Dp.reads I b y w' (hK ▸ dp_of S ry e2) r2
      refine max_two_dat (I.ok.hd hc) ra rb al (by omega) fun h' tk kp => ?_
      cases c : PySem.W.dataLt a b with
      | true =>
        rw [if_pos rfl]
        exact ⟨y, H, I.kept kp, r2, p W _ H (.refl W) S (by simpa [c] using ry)⟩
      | false =>
        rw [if_neg Bool.false_ne_true]
        exact ⟨x, H, I.kept kp, r1, p W _ H (.refl W) S (by simpa [c] using rx)⟩
  · exact p.elim
theorem min_ok (hK : X.K = g.K) (hc : X.calm = true) (hu : X.A.units + 20 < cLine) : CallR X (.builtin "min") (rL g Bl.min2.f) := by
  intro pins s σ H xs us Q I r ⟨W, st, ds, S, rs, p⟩
  simp only [Bl.f] at p
  split at p
  · obtain ⟨x, y, rfl, rx, ry⟩ := reps2 rs
    cases rx; cases ry
    exact call_min2 hc pins s σ H _ us Q I r ⟨_, _, rfl, p W _ H (.refl W) S (.int _)⟩
  · rename_i xs' ys'
    obtain ⟨x, y, rfl, rx, ry⟩ := reps2 rs
    cases e : mxT false (.tup xs') (.tup ys') with
    | none => rw [e] at p; exact p.elim
    | some d =>
      rw [e] at p
      obtain ⟨a, b, e1, e2, al, dp, rfl⟩ := mxT_ok e tup_nn tup_nn
      obtain ⟨u, w', rfl, r1, r2⟩ := vals2 r
      obtain ⟨as, ra⟩ := Dp.reads I a x u (hK ▸ dp_of S rx e1) r1
      obtain ⟨bs, rb⟩ := Dp.reads I b y w' (hK ▸ dp_of S ry e2) r2
      refine min_two_dat (I.ok.hd hc) ra rb al (by omega) fun h' tk kp => ?_
      cases c : PySem.W.dataLt b a with
      | true =>
        rw [if_pos rfl]
        exact ⟨y, H, I.kept kp, r2, p W _ H (.refl W) S (by simpa [c] using ry)⟩
      | false =>
        rw [if_neg Bool.false_ne_true]
        exact ⟨x, H, I.kept kp, r1, p W _ H (.refl W) S (by simpa [c] using rx)⟩
  · exact p.elim
/-- sum of a tuple -/
theorem preSum_list : ∀ (ns : List Int) (j : Nat), j ≤ ns.length → preSum (fun i => ns.getD i 0) j = (ns.take j).sum
  | ns, 0, _ => by simp [preSum]
  | ns, j + 1, h => by
    rw [show preSum (fun i => ns.getD i 0) (j + 1) = preSum (fun i => ns.getD i 0) j + ns.getD j 0 from rfl, preSum_list ns j (by omega), List.take_succ_eq_append_getElem (show j < ns.length by omega), List.sum_append]
    simp [List.getD, List.getElem?_eq_getElem (show j < ns.length by omega)]
theorem vals_int_at {ns : List Int} {its : List Value} (r : Vals (ns.map V.int) its) {i : Nat} {v : Value} (h : its[i]? = some v) : ∃ t, v = .int (ns.getD i 0) t := by
  have hl := r.length
  have hi := (List.getElem?_eq_some_iff.mp h).1
  rw [List.length_map] at hl
  have e : (ns.map V.int)[i]? = some (.int (ns.getD i 0)) := by
    rw [List.getElem?_map, List.getElem?_eq_getElem (show i < ns.length by omega)]
    simp [List.getD, List.getElem?_eq_getElem (show i < ns.length by omega)]
  obtain ⟨u, hu, t, ht⟩ := r.get e
  rw [h] at hu; cases hu
  exact ⟨t, ht⟩
theorem sum_ok (hK : X.K = g.K) (hc : X.calm = true) : CallR X (.builtin "sum") (rL g Bl.sum.f) := rL_one fun pins s σ H x us Q W st d I r S rx p => by
  cases e : seqOf st d with
  | none => simp only [e] at p; exact p.elim
  | some ds =>
    cases e2 : intsOf ds with
    | none => simp only [e, Option.bind_some, e2] at p; exact p.elim
    | some ns =>
      simp only [e, Option.bind_some, e2] at p
      obtain ⟨a, vs, rfl, ha, ra⟩ := seqOf_ok S rx e
      obtain ⟨rfl, _⟩ := intsOf_rep ra e2
      have hQ := p W _ H (.refl W) S (.int _)
      rcases ha with ha | ha
      · exact cr_sum hc pins s σ H _ us Q I r ⟨a, ns, rfl, hK ▸ ha, hQ⟩
      · have ha' : SqT X.K H a (ns.map V.int) := hK ▸ ha
        obtain ⟨its, rv, ht, hz⟩ := I.tuple ha'
        have : us = [.ref a] := by cases r with | cons r t => cases t; cases r; rfl
        subst this
        obtain ⟨o, ho, hoc, n, hon⟩ := ht
        have hlt : a < s.heap.objs.size := Heap.lt_size ho
        have hin := rv.length
        rw [List.length_map] at hin
        refine call_sum_walkG (iter_tuple ⟨o, ho, hoc, n, hon⟩ ⟨s.heap.objs.size, _, _, _, _, _, fun i => ns.getD i 0, rfl, Walks.tuple (A := X.A.in1) (I.ok.hd hc) _ a (Nat.ne_of_lt hlt) its.toArray, ?_, ?_, ?_, fun h' tk t' hk => ?_⟩)
        · exact ⟨⟨_, Heap.get?_push_size _ rfl, rfl, rfl⟩, o, Heap.get?_push_of_some _ ho, hoc, n, hon⟩
        · intro b hb
          have hb' : b = s.heap.objs.size ∨ b = a := by simpa using hb
          have hsz : (s.heap.push { cls := .type "tuple_iterator", data := .fields #[.ref a, .int 0 0] }).objs.size = s.heap.objs.size + 1 := by simp [Heap.push]
          show b < (s.heap.push { cls := .type "tuple_iterator", data := .fields #[.ref a, .int 0 0] }).objs.size
          rw [hsz]
          rcases hb' with z | z
          · rw [z]; exact Nat.lt_succ_self _
          · rw [z]; exact Nat.lt_succ_of_lt hlt
        · intro i v hv
          exact vals_int_at rv (by simpa using hv)
        · refine ⟨.int _, H, I.kept (t' := tk) (fun b u q => hk b u ?_ (Heap.get?_push_of_some _ q)), ⟨t', ?_⟩, hQ⟩
          · intro hb
            have : b = s.heap.objs.size := by simpa using hb
            exact absurd (Heap.lt_size q) (by rw [this]; exact Nat.lt_irrefl _)
          · rw [List.size_toArray, ← hin, preSum_list ns ns.length (Nat.le_refl _), List.take_length]
/-- repr of data -/
theorem repr_ok (hK : X.K = g.K) (sm : smK g.K) (gd : X.A.guards = some []) (hu : X.A.units + 66 < cLine) : CallR X (.builtin "repr") (rL g Bl.repr.f) := rL_one fun pins s σ H x us Q W st d I r S rx p => by
  cases e : reprD st d with
  | none => simp only [e] at p; exact p.elim
  | some z =>
    simp only [e] at p
    have hQ := p W _ H (.refl W) S (.str _)
    unfold reprD at e
    by_cases lf : leaf d = true
    case pos =>
      rw [if_pos lf] at e
      obtain ⟨u, rfl, ru⟩ := vals1 r
      cases d with
      | non =>
        simp only [reprL] at e; cases e; cases rx
        obtain rfl := ru
        exact PySem.P.repr_of_none ⟨.str _, H, I.tok _, ⟨_, rfl⟩, hQ⟩
      | bl b =>
        simp only [reprL] at e; cases e; cases rx
        obtain rfl := ru
        exact PySem.P.repr_of_bool ⟨.str _, H, I.tok _, ⟨_, rfl⟩, hQ⟩
      | str z =>
        simp only [reprL] at e
        split at e
        · rename_i hz
          cases e; cases rx
          obtain ⟨t, rfl⟩ := ru
          exact PySem.P.repr_of_str ⟨.str _, H, I.tok _, ⟨_, rfl⟩, hQ⟩ hz
        · cases e
      | _ => cases lf
    rw [if_neg lf] at e
    cases e1 : pyT st d with
    | none =>
      simp only [e1] at e
      cases e2 : pyXT st d with
      | none => rw [e2] at e; cases e
      | some y =>
        simp only [e2] at e
        split at e
        case isFalse => cases e
        rename_i c
        cases e
        simp only [Bool.and_eq_true, decide_eq_true_eq] at c
        obtain ⟨c2, c4, c3⟩ := c
        obtain ⟨u, rfl, ru⟩ := vals1 r
        obtain ⟨as, rd, nm⟩ := rdXT hK S I (hK ▸ sm) rx e2 ru
        obtain ⟨a, rfl⟩ := refX rx e1 e2 ru
        exact repr_of_reads' rd c2 (fun _ => nm) gd (by omega) (fun _ _ z => z) (fun h' t tk hk => ⟨.str _, H, I.kept (t' := tk) hk, ⟨_, rfl⟩, hQ⟩) c3
    | some y =>
      simp only [e1] at e
      split at e
      · rename_i c
        cases e
        simp only [Bool.and_eq_true, decide_eq_true_eq] at c
        obtain ⟨⟨c1, c2⟩, c3⟩ := c
        have c1' := c1
        unfold SeqAt.shaped at c1'
        simp only [Bool.and_eq_true, decide_eq_true_eq] at c1'
        have dp : Dp X.K H x y := hK ▸ dpT_of S rx e1
        obtain ⟨u, rfl, ru⟩ := vals1 r
        obtain ⟨as, rd⟩ := Dp.reads I y x u dp ru
        by_cases hr : ∃ a, u = .ref a
        · obtain ⟨a, rfl⟩ := hr
          exact repr_of_reads' rd c2 (PyData.noDict_hsm (PyData.hasDict_of_canLay _ c1'.1)) gd (by omega) (fun _ _ z => z) (fun h' t tk hk => ⟨.str _, H, I.kept (t' := tk) hk, ⟨_, rfl⟩, hQ⟩) c3
        · cases rd with
          | int i t =>
            have : x = .int i := by cases dp; rfl
            subst this
            exact SkE.call_repr_int pins s σ H _ _ Q I r ⟨i, rfl, by simpa [PyData.showable] using c2, hQ⟩
          | none => cases dp; cases rx; exact absurd rfl lf
          | bool b => cases dp; cases rx; exact absurd rfl lf
          | str y t => cases dp; cases rx; exact absurd rfl lf
          | list _ _ _ _ => exact absurd ⟨_, rfl⟩ hr
          | tuple _ _ _ _ => exact absurd ⟨_, rfl⟩ hr
          | dict _ _ _ _ _ => exact absurd ⟨_, rfl⟩ hr
      · cases e
end
end LB
end

section
set_option Elab.async false
set_option linter.all false
set_option maxRecDepth 100000
set_option maxHeartbeats 4000000
/-! Exceptions: caught and held as things, asked, read. -/
namespace LB
open PySem PySem.Spec PyProof.Rows L2
section
variable {X : Cx} {pins : List (Addr × Obj)} {σ : L2.St} {H : Hp} {s : Shared} {a : Addr}
/-- an object of ours of which nothing was said is told of from now on -/
theorem track {o : HO} (I : Inv X pins σ H s) (hn : H a = none) (h0 : X.s_0.heap.get? a = none) (hL : X.env.locals ≠ a) (hC : ∀ x c, X.env.cells.lookup x = some c → c ≠ a) (hp : ∀ p ∈ X.pn ++ pins, p.1 ≠ a)
    (new : ObjOk X.prog X.w (upd H a o) s.heap a o) : Inv X pins σ (upd H a o) s where
  ok := I.ok
  os := I.os
  bare := I.bare
  base :=
    { keep := I.base.keep, slot := I.base.slot, there := I.base.there
      free := fun b ob q n x => by
        rw [upd_ne (fun (z : b = a) => by rw [z, h0] at q; cases q)]
        exact I.base.free b ob q n x
      tups := fun b xs q => by rw [upd_ne (ne_of_none (I.base.tups b xs q) hn)]; exact I.base.tups b xs q
      frzs := fun b ob u q => by rw [upd_ne (ne_of_none (I.base.frzs b ob u q) hn)]; exact I.base.frzs b ob u q
      tbls := fun b ps q => let ⟨m, e⟩ := I.base.tbls b ps q; ⟨m, by rw [upd_ne (ne_of_none e hn)]; exact e⟩ }
  loc := I.loc
  cell := I.cell
  free := by rw [upd_ne hL]; exact I.free
  freeC := fun x c e => by rw [upd_ne (hC x c e)]; exact I.freeC x c e
  pin := fun p m => by
    obtain ⟨q1, q2, q3⟩ := I.pin p m
    exact ⟨q1, by rw [upd_ne (hp p m)]; exact q2, q3⟩
  hok := fun b u e => by
    by_cases z : b = a
    · rw [z, upd_same] at e
      cases e
      rw [z]; exact new
    · rw [upd_ne z] at e
      exact (I.hok b u e).stay (fun c v _ q => q) (fun c q => by rw [upd_ne (ne_of_none q hn)]; exact q) fun c _ q => by rw [upd_ne (ne_of_none q hn)]; exact q
  len := I.len
theorem toSuite (I : Inv X pins σ H s) : Inv (X.suite a (X.pn ++ pins)) [] σ H s :=
  ⟨I.ok.suite _ _, I.os, I.bare, I.base, I.loc, I.cell, I.free, I.freeC, fun p m => I.pin p (by simpa using m), I.hok, I.len⟩
theorem ofSuite {pn : List (Addr × Obj)} (ok : X.Ok) (I : Inv (X.suite a (X.pn ++ pins)) pn σ H s) : Inv X pins σ H s :=
  ⟨ok, I.os, I.bare, I.base, I.loc, I.cell, I.free, I.freeC, fun p m => I.pin p (List.mem_append_left _ m), I.hok, I.len⟩
end
/-- the wish of a clause 'except x as n' that holds the exception as a thing -/
def wHold (K : PySem.W.Frag) (c : Value) (i : Nat) (ts : Addr → Value → Option Addr → TS) (Wo : WX) (D : Ends) : WX := fun cls d σ H => ∃ b, PySem.W.exmOne K cls c = some b ∧
  (b = false → Wo cls d σ H) ∧ (b = true → ∀ a, H a = none → ts a cls d ⟨fun σ H => D.nx (σ.set i none) H, D.rt, fun σ H => D.bk (σ.set i none) H, fun σ H => D.ct (σ.set i none) H⟩ (σ.set i (some (.ref a))) (upd H a (xo a cls d)))
section
variable {X : Cx} {x n : Str} {c : Value} {i : Nat} {bd su : List Stmt} {b0 : Stmt} {p1 p2 p3 : Pos} {tb : WX → TS} {ts : Addr → Value → Option Addr → TS} {Wo : WX}
theorem xo_ok {P : Program} {w : World} {H : Hp} {h : Heap} {a : Addr} {cls : Value} {d : Option Addr} {oe : Obj} {vs : Array Value} (e : h.get? a = some oe) (z : Zc cls d oe) (q : oe.data = .fields vs) : ObjOk P w H h a (xo a cls d) := ⟨⟨oe, vs, e, z, q⟩, ⟨oe, e⟩, fun _ _ ⟨o, v, e1, z1, q1⟩ k => ⟨o, v, k _ e1, z1, q1⟩⟩
theorem ps_hold (hst : X.stack = X.env :: X.outer) (hfr : X.env.frame = some X.env.locals) (hex : X.ex = []) (nd : X.N.Nodup) (hi : X.N[i]? = some n) (hk : X.env.kindOf n = some .local) (nm : Names X x c) (tk : Takes X Wo)
    (hb : ∀ (W : WX) (pn : List (Addr × Obj)) (xe : Value → Shared → Prop), Takes (X.tr pn xe) W → PassesOwn (model X.prog X.w) X.A X.env xe → PSs (X.tr pn xe) bd (tb W))
    (hh : ∀ (a : Addr) (cls : Value) (d : Option Addr) (pn : List (Addr × Obj)), PSs (X.suite a pn) (b0 :: su) (ts a cls d)) :
    PS X (.Try bd [.ExceptHandler (some (.Name x p1)) (some n) (b0 :: su) p2] [] [] p3) (fun D σ H => tb (wHold X.K c i ts Wo D) D σ H) := by
  constructor
  intro pins s σ H D I h
  have ok := I.ok
  have fr : X.A.frames = some (X.env :: X.outer) := by rw [ok.frames, hst]
  refine wpAny_Try_except (wpAny_mono ((hb _ (X.pn ++ pins) (fun e s₁ => wpAny (model X.prog X.w) X.A (noteFrame e X.env) (fun _ t => wpAny (model X.prog X.w) X.A (setFlight e none) (fun _ t =>
    wpAny (model X.prog X.w) X.A (handleBy e X.env [.ExceptHandler (some (.Name x p1)) (some n) (b0 :: su) p2]) (SP X pins D) X.xe t) X.xe t) X.xe s₁) ?_ PassesOwn.looking).run [] s σ H D (I.toTry _) h) ?_ fun _ _ z => z)
  · rintro u t ⟨a, B, sI, pn, σ1, H1, cls, d, rfl, J0, nb, up, sky, na, os, ag, k, hk1, hno, hyes⟩
    have J : Inv X pins σ1 H1 sI := J0.ofTry ok
    rw [show X.stack = (X.tr (X.pn ++ pins) (fun e s₁ => wpAny (model X.prog X.w) X.A (noteFrame e X.env) (fun _ t => wpAny (model X.prog X.w) X.A (setFlight e none) (fun _ t =>
      wpAny (model X.prog X.w) X.A (handleBy e X.env [.ExceptHandler (some (.Name x p1)) (some n) (b0 :: su) p2]) (SP X pins D) X.xe t) X.xe t) X.xe s₁)).stack from rfl] at hst
    have sky1 : Sky B (X.env :: X.outer) a (Zc cls d) X.env.locals t.heap := hst ▸ sky
    refine Sky.land Zc.steady fr hfr sky1 fun h3 fl up3 => ?_
    have J3 : Inv X pins σ1 H1 { t with heap := h3 } := J.landed nb fl.1 (up.trans up3) os ag
    obtain ⟨oe, vs, he, hz, hd⟩ := fl.there
    have nfr : a ∉ frs (X.env :: X.outer) := fun m => by
      obtain ⟨_, ob, e1, nf⟩ := fl.2.2.1.mem m
      rw [he] at e1; cases e1
      exact nf _ hd
    have nL : X.env.locals ≠ a := fun z => nfr (List.mem_filterMap.mpr ⟨X.env, List.mem_cons_self, by rw [hfr, z]⟩)
    have gone : sI.heap.get? a = none := by
      cases q : sI.heap.get? a with
      | none => rfl
      | some ob =>
        have := nb a ob q (fun m => nfr (hst ▸ m))
        rw [fl.2.1] at this; cases this
    have new0 : X.s_0.heap.get? a = none := by
      cases q : X.s_0.heap.get? a with
      | none => rfl
      | some ob =>
        obtain ⟨ob', e1⟩ := J.base.there a ob q (by rw [hex]; exact List.not_mem_nil)
        rw [gone] at e1; cases e1
    have nP : ∀ p ∈ X.pn ++ pins, p.1 ≠ a := fun p m z => by
      have := (J.pin p m).1
      rw [z, gone] at this; cases this
    refine wpAny_handleBy_cons (codeAny_handlers_test ?_) (fun q => by cases q)
    have LT : PySem.W.Looks (model X.prog X.w) h3 (typeOf (.ref a)) cls := fun A Q E t k q => wpAny_typeOf_ref (k _ _ he) (by rw [hz.1]; exact q)
    have LM := PySem.W.exm_one (M := model X.prog X.w) J3.kIn LT hk1
    have S3 : Inv (X.suite a (X.pn ++ pins)) [] σ1 H1 { t with heap := h3 } := toSuite J3
    have named : ∀ {Q : Value → Shared → Prop} {E : Value → Shared → Prop}, Q c { t with heap := h3 } → wpAny (model X.prog X.w) (X.A.mark (some (.ref a))) (eval (.Name x p1) X.env) Q E { t with heap := h3 } := fun {Q E} q => by
      rcases nm with ⟨g1, g2, g3 | ⟨g3, g4, g5⟩⟩
      · exact ld_glob (X := X.suite a (X.pn ++ pins)) S3 g1 g3 q g2
      · exact ld_blt (X := X.suite a (X.pn ++ pins)) S3 g1 g3 g4 q g5 g2
    refine named (LM.here ?_)
    cases k with
    | false =>
      refine wpAny_handleBy_nil ?_
      obtain ⟨k1, k2, k3, o1, v1, T, oT, tt, e1, z1, d1, w1, _⟩ := id fl
      unfold PySem.passOn
      refine wpAny_bind (wpAny_field e1 d1 w1 ?_)
      rw [if_neg (show ¬ ((Value.ref T == Value.none) = true) from by simp)]
      have last : wpAny (model X.prog X.w) X.A (setFlight (.ref a) X.env.frame) (fun _ t => wpAny (model X.prog X.w) X.A (throw (.ref a) : Sem Flow) (SP X pins D) X.xe t) X.xe { t with heap := h3 } := by
        rw [hfr]
        exact HandSPX.setFlight_upZ fl fun h4 hl4 up4 => wpAny_throw (tk _ _ ⟨a, B, sI, pins, σ1, H1, cls, d, rfl, J, nb, (up.trans up3).trans up4, .inr (.inr (hst.symm ▸ hl4)), na, os, ag, hno rfl⟩)
      first
        | exact wpAny_bind last
        | exact wpAny_bind (wpAny_pure (wpAny_bind last))
    | true =>
      refine codeAny_handlers_suite_as (HandSPX.lands_againZ fl fun h4 fl4 up4 => ?_)
      have J4 : Inv X pins σ1 H1 { t with heap := h4 } := J.landed nb fl4.1 ((up.trans up3).trans up4) os ag
      obtain ⟨o4, v4, e4, z4, d4⟩ := fl4.there
      have J5 := track (o := xo a cls d) J4 na new0 nL (fun y b q z => by
        obtain ⟨v, ob, e5, q5⟩ := J4.cell y b q
        rw [z, e4] at e5; cases e5
        rw [d4] at q5; cases q5) nP (xo_ok e4 z4 d4)
      refine store_ok (X := X.suite a (X.pn ++ pins)) (v := .ref a) (toSuite J5) nd hi (.inl hk) rfl (fun s5 S5 => ?_) (.inr hk)
      refine wpAny_mono ((hh a cls d (X.pn ++ pins)).run [] s5 _ _ _ S5 (hyes rfl a na)) (fun f s6 sp => ?_) fun _ _ z => z.elim
      have leave : ∀ {σ6 : L2.St} {H6 : Hp} {Q : Shared → Prop}, Inv (X.suite a (X.pn ++ pins)) [] σ6 H6 s6 → (∀ t, Inv X pins (σ6.set i none) H6 t → Q t) →
        wpAny (model X.prog X.w) X.A (do bindName X.env n .none; unbindBehindTheSuite X.env n p2) (fun _ t => Q t) X.xe s6 := fun {σ6 H6 Q} S6 hq => gone_ok (ofSuite ok S6) nd hi hk hq
      cases f with
      | ret u =>
        obtain ⟨v, σ6, H6, S6, r6, q6⟩ := sp
        exact leave S6 fun t K => ⟨v, _, _, K, r6, q6⟩
      | next => obtain ⟨σ6, H6, S6, q6⟩ := sp; exact leave S6 fun t K => ⟨_, _, K, q6⟩
      | brk => obtain ⟨σ6, H6, S6, q6⟩ := sp; exact leave S6 fun t K => ⟨_, _, K, q6⟩
      | cont => obtain ⟨σ6, H6, S6, q6⟩ := sp; exact leave S6 fun t K => ⟨_, _, K, q6⟩
  · intro f t sp
    cases f with
    | next => obtain ⟨σ1, H1, J, q⟩ := sp; exact wpAny_execs_nil ⟨σ1, H1, J.ofTry ok, q⟩
    | ret u => obtain ⟨v, σ1, H1, J, r, q⟩ := sp; exact ⟨v, σ1, H1, J.ofTry ok, r, q⟩
    | brk => obtain ⟨σ1, H1, J, q⟩ := sp; exact ⟨σ1, H1, J.ofTry ok, q⟩
    | cont => obtain ⟨σ1, H1, J, q⟩ := sp; exact ⟨σ1, H1, J.ofTry ok, q⟩
end
end LB
end

section
set_option Elab.async false
set_option linter.all false
set_option maxRecDepth 100000
set_option maxHeartbeats 4000000
/-! Exceptions in the small language. -/
namespace LB
open PySem PySem.Spec PyProof.Rows L2
/-- what is known of the classes -/
structure ClsOk (g : Sg) (mg : Str → Option Value) (pr : Pr) : Prop where
  own : ∀ (c : Nat) cl, pr.cls[c]? = some cl → cl.own = true → ∃ C, g.cv c = .ref C ∧ mg cl.name = some (.ref C) ∧ PySem.W.keepIn g.K (.ref C) = true ∧ ExcC g.K C ∧ PySem.W.typeIn g.K (.ref C) = some (.type "type")
  bui : ∀ (c : Nat) cl, pr.cls[c]? = some cl → cl.own = false → g.cv c = .type cl.T ∧ mg cl.name = none ∧ bootBuiltins cl.name = some (.type cl.T) ∧ cl.name ≠ "__name__"
  isa : ∀ c c' b, pr.isa.lookup (c, c') = some b → (∃ C, g.cv c = .ref C ∧ ExcC g.K C) ∧ PySem.W.kitOne g.K (g.cv c) (g.cv c') = some b
  exm : ∀ c c' b, pr.exm.lookup (c, c') = some b → PySem.W.exmOne g.K (g.cv c) (g.cv c') = some b
  pla : ∀ c ∈ pr.plain, ∃ C, g.cv c = .ref C ∧ PySem.W.excIn g.K C [.type "ValueError", .type "Exception", .type "BaseException", .type "object"] "ValueError.__new__" = true
  fld : ∀ c f, pr.flds.contains (c, f) = true → ∃ C, g.cv c = .ref C ∧ ExcC g.K C ∧ PySem.W.findIn g.K (.ref C) f = some none
section
variable {X : Cx} {pins : List (Addr × Obj)} {σ : L2.St} {H : Hp} {s : Shared} {a C : Addr} {d : Option Addr}
/-- what stands in the heap for a held exception -/
theorem held_at (I : Inv X pins σ H s) (h : H a = some (xo a (.ref C) d)) (hd : ∀ dd, d = some dd → ∃ fs, H dd = some (.xd fs)) : ∃ ox od, PySem.W.InstAt s.heap a ox C od ∧ ∀ dd, d = some dd → s.heap.get? dd = od ∧ ox.dict = some dd := by
  obtain ⟨⟨oe, vs, e, z, q⟩, _⟩ := (show ObjOk X.prog X.w H s.heap a (xo a (.ref C) d) from I.hok a _ h)
  have nc : PySem.W.notCls oe := by unfold PySem.W.notCls; rw [q]
  cases d with
  | none => exact ⟨oe, none, ⟨e, z.1, nc, by rw [z.2]; trivial⟩, fun _ w => nomatch w⟩
  | some dd =>
    obtain ⟨fs, hf⟩ := hd dd rfl
    obtain ⟨mA, hns, _⟩ := (show ObjOk X.prog X.w H s.heap dd (.xd fs) from I.hok dd _ hf)
    obtain ⟨od, ho, _⟩ := lookIn_ns hns
    exact ⟨oe, some od, ⟨e, z.1, nc, by rw [z.2]; exact ho⟩, fun b w => by cases w; exact ⟨ho, z.2⟩⟩
theorem kit_held {ox : Obj} {od : Option Obj} (T : ExcC X.K C) : PySem.W.KitX X.K (.ref a) (.ref C) (fun h => PySem.W.InstAt h a ox C od) :=
  PySem.W.kitx_exc (by obtain ⟨cd, hc, _⟩ := PySem.W.any_some T.hd; rw [hc]; rfl) T.hg T.hk T.hs T.ha T.hn T.ht T.hm
/-- isinstance of a held exception -/
theorem call_isX1 : CallR X (.builtin "isinstance") (fun xs H Q => ∃ (a C : Addr) (d : Option Addr) (c : V) (u : Value) (b : Bool), xs = [.ref a, c] ∧ H a = some (xo a (.ref C) d) ∧ (∀ dd, d = some dd → ∃ fs, H dd = some (.xd fs)) ∧ ExcC X.K C ∧ ClsV c u ∧ PySem.W.kitOne X.K (.ref C) u = some b ∧ Q (.bl b) H) := by
  intro pins s σ H xs us Q I r h
  obtain ⟨a, C, d, c, u, b, rfl, ha, hd, T, k, e, q⟩ := h
  obtain ⟨u1, u2, rfl, r1, r2⟩ := vals2 r
  cases (show u1 = Value.ref a from r1)
  have e2 := k.eq r2
  subst e2
  obtain ⟨ox, od, J, _⟩ := held_at I ha hd
  exact PySem.W.kia_one (kit_held T) I.kIn J e (fun z => nomatch z) fun tk => ⟨.bl b, H, I.tok tk, rfl, q⟩
theorem call_isXT : CallR X (.builtin "isinstance") (fun xs H Q => ∃ (a C tp : Addr) (d : Option Addr) (cs : List V) (ws : List Value) (b : Bool), xs = [.ref a, .ref tp] ∧ H a = some (xo a (.ref C) d) ∧ (∀ dd, d = some dd → ∃ fs, H dd = some (.xd fs)) ∧ ExcC X.K C ∧
    H tp = some (.tup cs) ∧ Paired ClsV cs ws ∧ PySem.W.kitAny X.K (.ref C) ws = some b ∧ Q (.bl b) H) := by
  intro pins s σ H xs us Q I r h
  obtain ⟨a, C, tp, d, cs, ws, b, rfl, ha, hd, T, hT, k, e, q⟩ := h
  obtain ⟨u1, u2, rfl, r1, r2⟩ := vals2 r
  cases (show u1 = Value.ref a from r1)
  cases (show u2 = Value.ref tp from r2)
  obtain ⟨ox, od, J, _⟩ := held_at I ha hd
  obtain ⟨_, its, rv, o, h1, h2, n, h3⟩ := (show ObjOk X.prog X.w H s.heap tp (.tup cs) from I.hok tp _ hT)
  have e3 := ClsV.all k rv
  subst e3
  cases o
  simp only at h2 h3
  subst h2 h3
  exact PySem.W.kia_tup (kit_held T) I.kIn J h1 e (fun z => nomatch z) fun tk => ⟨.bl b, H, I.tok tk, rfl, q⟩
/-- a field of a held exception -/
theorem pe_held {e : Expr} {te : TE} {n : Str} {pos : Pos} (he : PE X e te) (hb : attributeBase e n X.env (eval e X.env) = eval e X.env) :
    PE X (.Attribute e n pos) (fun σ H Q => te σ H fun x H1 => ∃ (a C dd : Addr) (fs : List (Str × V)) (v : V), x = .ref a ∧ H1 a = some (xo a (.ref C) (some dd)) ∧ H1 dd = some (.xd fs) ∧ ExcC X.K C ∧ PySem.W.findIn X.K (.ref C) n = some none ∧ fs.lookup n = some v ∧ Q v H1) := by
  refine ⟨fun pins s σ H Q I h => attr_of hb (thn (he.run pins s σ H _ I h) fun u s1 hh => ?_)⟩
  obtain ⟨x, H1, I1, rx, a, C, dd, fs, v, rfl, ha, hx, T, hno, l, q⟩ := hh
  cases (show u = Value.ref a from rx)
  obtain ⟨ox, od, J, hdd⟩ := held_at I1 ha (fun b w => by cases w; exact ⟨fs, hx⟩)
  obtain ⟨mA, hns, hr⟩ := (show ObjOk X.prog X.w H1 s1.heap dd (.xd fs) from I1.hok dd _ hx)
  obtain ⟨ob, ho, hl⟩ := lookIn_ns hns
  obtain ⟨w, hw, rw'⟩ := RelO.some_of (v := v) (o := mA n) (by rw [← l]; exact hr n)
  have eo : od = some ob := by rw [← (hdd dd rfl).1]; exact ho
  subst eo
  exact HandSPX.exc_get I1.kIn J T.hg T.hk T.hs (PySem.W.findObj_own T.hd hno rfl (by rw [hl, hw])) (handed_of rw') ⟨v, H1, I1.tok _, rw', q⟩
end
section
variable {X : Cx} {g : Sg} {Wx : WX} {pr : Pr} {a : Expr} {fa : FE} {pos : Pos}
theorem exc_rep {W : Wd} {st : Sto} {H : Hp} (S : Sim g W st H) {v : V} {c : Nat} {ns : List Str} {ds : List D} (r : Rep W v (.exc c ns ds)) {C : Addr} (hC : g.cv c = .ref C) :
    ∃ b d, v = .ref b ∧ H b = some (xo b (.ref C) d) ∧ (∀ dd, d = some dd → ∃ vs, H dd = some (.xd (ns.zip vs)) ∧ ns.length = vs.length ∧ Reps W vs ds) ∧ (d = none → ns = []) := by
  cases r with
  | exc0 z =>
    have q := (S.fz _ _ z).1
    rw [S.cv, hC] at q
    exact ⟨_, none, rfl, q, (fun dd w => by cases w), fun _ => rfl⟩
  | exc z y l r =>
    have q := (S.fz _ _ z).1
    rw [S.cv, hC] at q
    exact ⟨_, some _, rfl, q, (fun dd w => by cases w; exact ⟨_, (S.fz _ _ y).1, l, r⟩), (fun w => by cases w)⟩
/-- the classes that are named -/
theorem pa_cls {mg : Str → Option Value} {S : Sc} (k : ClsOk g mg pr) (hmg : X.mg = mg) (hgl : ∀ x, S.gl x = true → Gl X x ∧ (x == ("__debug__" : Str)) = false) : ∀ (cs : List Nat) (es : List Expr), clsN pr S cs es = true →
    ∃ vs us, PA X es (fun σ H Q => Q vs H) ∧ Paired ClsV vs us ∧ us = cs.map g.cv ∧ es.all noStar = true ∧ es.length = cs.length
  | [], [], _ => ⟨[], [], pa_nil, .nil, rfl, rfl, rfl⟩
  | c :: cs, .Name x p :: es, h => by
    simp only [clsN, Bool.and_eq_true] at h
    obtain ⟨h1, h2⟩ := h
    cases q : pr.cls[c]? with
    | none => rw [q] at h1; cases h1
    | some cl =>
      rw [q] at h1
      simp only [Bool.and_eq_true, decide_eq_true_eq] at h1
      obtain ⟨rfl, h3⟩ := h1
      obtain ⟨g1, g2⟩ := hgl _ h3
      obtain ⟨vs, us, pa, pk, rfl, ns, ln⟩ := pa_cls k hmg hgl cs es h2
      obtain ⟨v, pv, kv⟩ : ∃ v, PE X (.Name cl.name p) (tC v) ∧ ClsV v (g.cv c) := by
        cases o : cl.own with
        | true =>
          obtain ⟨C, e1, e2, _⟩ := k.own c cl q o
          exact ⟨.ref C, pe_glob g1 (by rw [hmg]; exact e2) rfl g2, by rw [e1]; exact .own C⟩
        | false =>
          obtain ⟨e1, e2, e3, e4⟩ := k.bui c cl q o
          exact ⟨.ty cl.T, pe_bltn g1 (by rw [hmg]; exact e2) e3 rfl e4 g2, by rw [e1]; exact .ty _⟩
      refine ⟨v :: vs, g.cv c :: cs.map g.cv, ?_, .cons kv pk, rfl, by simpa [noStar] using ns, by simp [ln]⟩
      exact (pa_cons pv pa rfl).lb fun σ H Q z => z
  | [], _ :: _, h => by simp [clsN] at h
  | _ :: _, [], h => by simp [clsN] at h
theorem kitAny_of {K : PySem.W.Frag} {cv : Nat → Value} {c : Nat} (hk : ∀ c' b, pr.isa.lookup (c, c') = some b → PySem.W.kitOne K (cv c) (cv c') = some b) : ∀ (cs : List Nat) (b : Bool), isAny pr c cs = some b → PySem.W.kitAny K (cv c) (cs.map cv) = some b
  | [], b, h => by simp only [isAny] at h; cases h; rfl
  | c' :: cs, b, h => by
    simp only [isAny] at h
    split at h
    · rename_i q; cases h; exact kitAny_cons (hk _ _ q) (fun z => nomatch z) fun _ => rfl
    · rename_i q; exact kitAny_cons (hk _ _ q) (fun _ => kitAny_of hk cs b h) fun z => nomatch z
    · cases h
theorem isAny_one {c c' : Nat} {b : Bool} (h : isAny pr c [c'] = some b) : pr.isa.lookup (c, c') = some b := by
  simp only [isAny] at h
  split at h
  · rename_i q; cases h; exact q
  · rename_i q; cases h; exact q
  · cases h
theorem isAny_ex {c : Nat} : ∀ {cs : List Nat} {b : Bool}, cs ≠ [] → isAny pr c cs = some b → ∃ c' b', pr.isa.lookup (c, c') = some b'
  | [], _, h, _ => absurd rfl h
  | c' :: _, b, _, h => by
    simp only [isAny] at h
    split at h
    · rename_i q; exact ⟨_, _, q⟩
    · rename_i q; exact ⟨_, _, q⟩
    · cases h
/-- isinstance(e, C), isinstance(e, (C, ..)) -/
theorem se_isx {mg : Str → Option Value} {S : Sc} {p p2 : Pos} {cs : List Nat} {y : Expr} (hK : X.K = g.K) (k : ClsOk g mg pr) (hmg : X.mg = mg) (hgl : ∀ x, S.gl x = true → Gl X x ∧ (x == ("__debug__" : Str)) = false)
    (hg : Gl X "isinstance") (hm : X.mg "isinstance" = none) (ha : PE X a (tE g Wx fa)) (hs : noStar a = true) (hc : clsN pr S cs [y] = true) :
    PE X (.Call (.Name "isinstance" p) [a, y] [] pos) (tE g Wx fun en st => (fa en st).bind fun d s => liftO (isxF pr cs d s)) := by
  obtain ⟨vs, us, pa, pk, rfl, ns, ln⟩ := pa_cls (X := X) k hmg hgl cs [y] hc
  match cs, vs, pk, ln with
  | [c'], [v], pk, _ =>
    have sy : noStar y = true := by simpa using ns
    refine (pe_callB call_isX1 hg hm (by decide +kernel) (pa_cons ha pa (star_cons hs)) (by decide) (by decide) (star_cons hs) (star_any ns)).lb fun σ H Q ⟨W, st, en, hE, S, p⟩ => tG_step hE S p fun d s W' x H' le hE' S' r p' => ?_
    cases d with
    | exc c fn ds =>
      simp only [isxF] at p'
      cases q : isAny pr c [c'] with
      | none => rw [q] at p'; exact p'.elim
      | some b =>
        rw [q] at p'
        obtain ⟨⟨C, hC, T⟩, kk⟩ := k.isa _ _ _ (isAny_one q)
        obtain ⟨b', d', rfl, hx, hd, _⟩ := exc_rep S' r hC
        cases pk with
        | cons kv _ =>
          rw [hC] at kk
          exact ⟨b', C, d', v, _, b, rfl, hx, fun dd w => by obtain ⟨vs, z, _⟩ := hd dd w; exact ⟨_, z⟩, hK ▸ T, kv, hK ▸ kk, p' W' _ H' (.refl W') S' (.bl _)⟩
    | _ => exact p'.elim
theorem se_isxT {mg : Str → Option Value} {S : Sc} {p p2 : Pos} {cs : List Nat} {ys : List Expr} {j : Nat} (hK : X.K = g.K) (k : ClsOk g mg pr) (hmg : X.mg = mg) (hgl : ∀ x, S.gl x = true → Gl X x ∧ (x == ("__debug__" : Str)) = false)
    (hg : Gl X "isinstance") (hm : X.mg "isinstance" = none) (ha : PE X a (tE g Wx fa)) (hs : noStar a = true) (hc : clsN pr S cs ys = true) (hl : cs.length ≤ 100) (h0 : cs ≠ []) :
    PE X (.Call (.Name "isinstance" p) [a, .Tuple ys j p2] [] pos) (tE g Wx fun en st => (fa en st).bind fun d s => liftO (isxF pr cs d s)) := by
  obtain ⟨vs, us, pa, pk, rfl, ns, ln⟩ := pa_cls (X := X) k hmg hgl cs ys hc
  have lv : vs.length = cs.length := by rw [pk.length, List.length_map]
  refine (pe_callB call_isXT hg hm (by decide +kernel) (pa_cons ha (pa_cons (pe_tup pa) pa_nil rfl) (star_cons hs)) (by decide) (by decide) (star_cons hs) rfl).lb fun σ H Q ⟨W, st, en, hE, S, p⟩ => tG_step hE S p fun d s W' x H' le hE' S' r p' => ?_
  cases d with
  | exc c fn ds =>
    simp only [isxF] at p'
    cases q : isAny pr c cs with
    | none => rw [q] at p'; exact p'.elim
    | some b =>
      rw [q] at p'
      obtain ⟨c1, b1, q1⟩ := isAny_ex h0 q
      obtain ⟨⟨C, hC, T⟩, _⟩ := k.isa _ _ _ q1
      obtain ⟨b', d', rfl, hx, hd, _⟩ := exc_rep S' r hC
      have kk := kitAny_of (K := g.K) (cv := g.cv) (fun c' b z => (k.isa _ _ _ z).2) cs b q
      rw [hC] at kk
      refine ⟨by rw [lv]; exact Nat.le_trans hl (by decide), fun t ht => ?_⟩
      have ne : b' ≠ t := ne_of_none hx ht
      refine ⟨b', C, t, d', vs, _, b, rfl, by rw [upd_ne ne]; exact hx, fun dd w => ?_, hK ▸ T, upd_same, pk, hK ▸ kk, p' W' _ _ (.refl W') (S'.fresh ht) (.bl _)⟩
      obtain ⟨vs, z, _⟩ := hd dd w
      exact ⟨_, by rw [upd_ne (ne_of_none z ht)]; exact z⟩
  | _ => exact p'.elim
theorem zip_look {W : Wd} {f : Str} : ∀ {ns : List Str} {vs : List V} {ds : List D} {d : D}, ns.length = vs.length → Reps W vs ds → (ns.zip ds).lookup f = some d → ∃ v, (ns.zip vs).lookup f = some v ∧ Rep W v d
  | [], _, _, _, _, _, h => by simp at h
  | n :: ns, _, _, _, l, .nil, h => by simp at h
  | n :: ns, _, _, _, l, .cons r t, h => by
    simp only [List.zip_cons_cons, List.lookup_cons] at h ⊢
    split at h
    · cases h; exact ⟨_, rfl, r⟩
    · exact zip_look (by simpa using l) t h
/-- e.f -/
theorem se_fld {mg : Str → Option Value} {f : Str} (hK : X.K = g.K) (k : ClsOk g mg pr) (ha : PE X a (tE g Wx fa)) (hb : attributeBase a f X.env (eval a X.env) = eval a X.env) :
    PE X (.Attribute a f pos) (tE g Wx fun en st => (fa en st).bind fun d s => liftO (fldF pr f d s)) := by
  refine (pe_held ha hb).lb fun σ H Q ⟨W, st, en, hE, S, p⟩ => tG_step hE S p fun d s W' x H' le hE' S' r p' => ?_
  cases d with
  | exc c fn ds =>
    simp only [fldF] at p'
    split at p'
    · rename_i hc
      cases q : (fn.zip ds).lookup f with
      | none => rw [q] at p'; exact p'.elim
      | some v =>
        rw [q] at p'
        obtain ⟨C, hC, T, hno⟩ := k.fld c f hc
        obtain ⟨b', d', rfl, hx, hd, h0⟩ := exc_rep S' r hC
        cases d' with
        | none => rw [h0 rfl] at q; simp at q
        | some dd =>
          obtain ⟨vs, z, l, rs⟩ := hd dd rfl
          obtain ⟨w, lw, rw'⟩ := zip_look l rs q
          exact ⟨b', C, dd, _, w, rfl, hx, z, hK ▸ T, hK ▸ hno, lw, p' W' w H' (.refl W') S' rw'⟩
    · exact p'.elim
  | _ => exact p'.elim
theorem strs_rep {W : Wd} : ∀ {vs : List V} {ds : List D} {ys : List Str}, Reps W vs ds → strsOf ds = some ys → vs = ys.map V.str
  | _, [], _, .nil, h => by simp only [strsOf] at h; cases h; rfl
  | _, d :: ds, ys, .cons r t, h => by
    cases r with
    | str x =>
      simp only [strsOf] at h
      cases q : strsOf ds with
      | none => rw [q] at h; cases h
      | some zs => rw [q] at h; cases h; rw [strs_rep t q]; rfl
    | _ => simp [strsOf] at h
/-- s.join(e) -/
theorem se_join {b : Expr} {fb : FE} {ap : Pos} (hK : X.K = g.K) (ha : PE X a (tE g Wx fa)) (hb : PE X b (tE g Wx fb)) (hs : noStar b = true) (hba : attributeBase a "join" X.env (eval a X.env) = eval a X.env) (hl : (ap.endLine == pos.line) = true) :
    PE X (.Call (.Attribute a "join" ap) [b] [] pos) (tE g Wx fun en st => (fa en st).bind fun d s => match d with
      | .str x => (fb en s).bind fun e s => liftO (joinF (.str x) e s)
      | _ => .bad) := by
  refine (pe_join ha hb (star_cons hs) hba hl).lb fun σ H Q ⟨W, st, en, hE, S, p⟩ => tG_step hE S p fun d s W' x H' le hE' S' r p' => ?_
  cases d with
  | str z =>
    cases r
    refine ⟨⟨z, rfl⟩, tG_step hE' S' p' fun e s2 W2 y H2 le2 hE2 S2 r2 p2 => ?_⟩
    simp only [joinF] at p2
    cases q : seqOf s2 e with
    | none => rw [q] at p2; exact p2.elim
    | some ds =>
      rw [q, Option.bind_some] at p2
      cases q2 : strsOf ds with
      | none => rw [q2] at p2; exact p2.elim
      | some ys =>
        rw [q2, Option.bind_some] at p2
        split at p2
        · rename_i c
          obtain ⟨b', vs, rfl, hq, rs⟩ := seqOf_ok S2 r2 q
          have ev := strs_rep rs q2
          subst ev
          exact ⟨z, b', ys, rfl, rfl, by rw [hK]; exact hq, c, p2 W2 _ H2 (.refl W2) S2 (.str _)⟩
        · exact p2.elim
  | _ => exact p'.elim
/-- {} -/
theorem dnew_ok {W : Wd} {st : Sto} {H : Hp} {q : Addr} (S : Sim g W st H) (hq : H q = none) : ∃ W' d s, dnewF0 false st = (d, s) ∧ W.Le W' ∧ Sim g W' s (upd H q (.dK [])) ∧ Rep W' (.ref q) d :=
  ⟨W.addO st.nx q, _, _, rfl, S.addO_le, S.newO hq ⟨[], upd_same, rfl, .nil⟩, .ref (if_pos rfl)⟩
theorem dnew_lock {W : Wd} {st : Sto} {H : Hp} {q : Addr} (S : Sim g W st H) (hq : H q = none) (od : Obj) : ∃ W' d s, dnewF0 true st = (d, s) ∧ W.Le W' ∧ Sim g W' s (upd (upd H q (.dK [])) q (.frz od (.dK []))) ∧ Rep W' (.ref q) d :=
  ⟨((W.addP q (.dK [])).noP q).addF q (.frz od (.dK [])), _, _, rfl, (Wd.noP_le (W.addP_le q _) (S.noPin hq)).trans (Wd.addF_le _ _ _), ((Sim.addP (o := .dK []) (S.fresh hq) upd_same (S.freeOf hq) ⟨trivial, S.noLi hq⟩).lockP (.inr ⟨rfl, rfl⟩) od), .dct (vs := []) (.inr ⟨rfl, rfl⟩) rfl .nil⟩
theorem se_dnew (fz : Bool) : PE X (.Dict [] [] pos) (tE g Wx fun _ st => .ok (dnewF0 fz st).1 (dnewF0 fz st).2) := pe_dnewK.lockV.lb fun σ H Q ⟨W, st, en, hE, S, p⟩ q hq => by
  cases fz with
  | false =>
    obtain ⟨W', d, s, e, le, S', r⟩ := dnew_ok S hq
    simp only [e] at p
    exact .inl (p W' _ _ le S' r)
  | true =>
    refine .inr ⟨q, _, rfl, upd_same, trivial, fun od => ?_⟩
    obtain ⟨W', d, s, e, le, S', r⟩ := dnew_lock S hq od
    simp only [e] at p
    exact p W' _ _ le S' r
end
end LB
end

section
set_option Elab.async false
set_option linter.all false
set_option maxRecDepth 100000
set_option maxHeartbeats 4000000
/-! raise, try. -/
namespace LB
open PySem PySem.Spec PyProof.Rows L2
section
variable {X : Cx} {g : Sg} {Wx : WX} {pr : Pr} {pos : Pos}
theorem ss_raise {cl : Cl} {c j : Nat} {m : Str} {p p2 p3 : Pos} (hK : X.K = g.K) (hc : X.calm = true) (tk : Takes X Wx) (k : ClsOk g X.mg pr) (hcl : pr.cls[c]? = some cl) (ho : cl.own = true) (hp : c ∈ pr.plain) (hg : Gl X cl.name) (hd : (cl.name == ("__debug__" : Str)) = false) :
    PS X (.Raise (some (.Call (.Name cl.name p) [.Constant (.str m) j p2] [] p3)) none pos) (tS g Wx fun en st => .exn ⟨c, [], []⟩ en st) := by
  obtain ⟨C, hC, hm, kp, T, ty⟩ := k.own c cl hcl ho
  obtain ⟨C', hC', q⟩ := k.pla c hp
  rw [hC] at hC'; cases hC'
  refine (ps_raise hc tk (pmk_own PySem.F.excBase_ValueError (by rw [hK]; exact q) hm (by rw [hK]; exact kp) (raises_own (by rw [hK]; exact T.hs) (by rw [hK]; exact ty)) hg hd)).lb fun E σ H ⟨W, st, en, hE, S, p⟩ => ?_
  exact p W _ none σ H (.refl W) hE S ⟨hC.symm, rfl, rfl⟩
theorem EnR.setN {W : Wd} {σ : L2.St} {en : En} (h : EnR W σ en) (i : Nat) : EnR W (σ.set i none) (en.set i none) := ⟨by rw [List.length_set, List.length_set, h.1], fun j d e => by
  rw [List.getElem?_set] at e ⊢
  by_cases hij : i = j
  · rw [if_pos hij] at e
    split at e
    · cases e
    · cases e
  · rw [if_neg hij] at e
    rw [if_neg hij]
    exact h.2 j d e⟩
theorem free_xd {W : Wd} {st : Sto} {H : Hp} (S : Sim g W st H) {p : Addr} {fs : List (Str × V)} (h : H p = some (.xd fs)) : Free W st p ∧ ∀ o, ¬ W.pin p o := by
  refine ⟨fun n o q e => ?_, fun o q => ?_⟩
  · obtain ⟨b, e2, r⟩ := S.ob n o q
    rw [e] at e2; cases e2
    cases o with
    | lst ds => obtain ⟨vs, hv, _⟩ := r; rw [h] at hv; cases hv
    | dct ks ds => obtain ⟨vs, hv, _⟩ := r; rw [h] at hv; cases hv
    | ins c ns ds => obtain ⟨_, _, vs, _, hv, _⟩ := r; rw [h] at hv; cases hv
  · obtain ⟨h1, _, h2, _⟩ := S.pin p o q
    rw [h] at h1; cases h1; exact h2
/-- what is caught is a thing -/
theorem hold_rep {W : Wd} {st : Sto} {H : Hp} (S : Sim g W st H) {cls : Value} {dx : Option Addr} {x : Xn} (r : ExR g W H cls dx x) {a : Addr} (ha : H a = none) : ∃ W', W.Le W' ∧ Sim g W' st (upd H a (xo a cls dx)) ∧ Rep W' (.ref a) (.exc x.cls x.ns x.ds) := by
  obtain ⟨rfl, r⟩ := r
  have S1 : Sim g (W.addF a (xo a (g.cv x.cls) dx)) st (upd H a (xo a (g.cv x.cls) dx)) := (S.fresh ha).keepF ⟨upd_same, S.freeOf ha⟩ (S.noPin ha)
  cases dx with
  | none =>
    obtain ⟨c, ns, ds⟩ := x
    obtain ⟨h1, h2⟩ := r
    simp only at h1 h2
    subst h1 h2
    exact ⟨_, W.addF_le _ _, S1, .exc0 (.inr ⟨rfl, by rw [show (W.addF a (xo a (g.cv c) none)).cv = W.cv from rfl, S.cv]⟩)⟩
  | some dd =>
    obtain ⟨vs, hv, l, rs⟩ := r
    have ne : dd ≠ a := ne_of_none hv ha
    have hv' : upd H a (xo a (g.cv x.cls) (some dd)) dd = some (.xd (x.ns.zip vs)) := by rw [upd_ne ne]; exact hv
    obtain ⟨f1, f2⟩ := free_xd S1 hv'
    refine ⟨_, (W.addF_le _ _).trans (Wd.addF_le _ dd _), S1.keepF ⟨hv', f1⟩ f2, .exc (dd := dd) (vs := vs) (.inl (.inr ⟨rfl, ?_⟩)) (.inr ⟨rfl, rfl⟩) l (rs.mono ((W.addF_le _ _).trans (Wd.addF_le _ dd _)))⟩
    show xo a (W.cv x.cls) (some dd) = _
    rw [S.cv]
/-- try: .. except C as n: .. -/
theorem ss_try {cl : Cl} {c i : Nat} {n : Str} {bd su : List Stmt} {b0 : Stmt} {p1 p2 : Pos} {fb fs : FS} (hK : X.K = g.K) (hst : X.stack = X.env :: X.outer) (hfr : X.env.frame = some X.env.locals) (hex : X.ex = []) (nd : X.N.Nodup) (hi : X.N[i]? = some n) (hk : X.env.kindOf n = some .local)
    (k : ClsOk g X.mg pr) (hcl : pr.cls[c]? = some cl) (hg : Gl X cl.name) (hd : (cl.name == ("__debug__" : Str)) = false) (tk : Takes X Wx)
    (hb : ∀ (W : WX) (pn : List (Addr × Obj)) (xe : Value → Shared → Prop), Takes (X.tr pn xe) W → PassesOwn (model X.prog X.w) X.A X.env xe → PSs (X.tr pn xe) bd (tS g W fb))
    (hh : ∀ (a : Addr) (pn : List (Addr × Obj)), PSs (X.suite a pn) (b0 :: su) (tS g noX fs)) :
    PS X (.Try bd [.ExceptHandler (some (.Name cl.name p1)) (some n) (b0 :: su) p2] [] [] pos) (tS g Wx fun en st => match fb en st with
      | .exn x en' s => (match pr.exm.lookup (x.cls, c) with
        | some true => (fs (en'.set i (some (.exc x.cls x.ns x.ds))) s).wipe i
        | some false => .exn x en' s
        | none => .bad)
      | r => r) := by
  have nm : Names X cl.name (g.cv c) := by
    refine ⟨hg, hd, ?_⟩
    cases o : cl.own with
    | true => obtain ⟨C, e1, e2, _⟩ := k.own c cl hcl o; exact .inl (by rw [e1]; exact e2)
    | false => obtain ⟨e1, e2, e3, e4⟩ := k.bui c cl hcl o; exact .inr ⟨e2, by rw [e1]; exact e3, e4⟩
  refine (ps_hold hst hfr hex nd hi hk nm tk hb (ts := fun _ _ _ => tS g noX fs) (fun a _ _ pn => hh a pn)).lb fun E σ H ⟨W, st, en, hE, S, p⟩ => ?_
  refine ⟨W, st, en, hE, S, ?_⟩
  cases q : fb en st with
  | nx e s => simp only [q] at p; exact p
  | rt d s => simp only [q] at p; exact p
  | bk e s => simp only [q] at p; exact p
  | ct e s => simp only [q] at p; exact p
  | bad => simp only [q] at p; exact p
  | exn x en' s =>
    simp only [q] at p
    intro W' cls dx σ' H' le hE' S' r
    cases q2 : pr.exm.lookup (x.cls, c) with
    | none => rw [q2] at p; exact p.elim
    | some b =>
      rw [q2] at p
      refine ⟨b, by rw [hK, r.1]; exact k.exm _ _ _ q2, fun z => ?_, fun z a ha => ?_⟩
      · subst z; exact p W' cls dx σ' H' le hE' S' r
      · subst z
        obtain ⟨W2, le2, S2, r2⟩ := hold_rep S' r ha
        refine ⟨W2, s, en'.set i (some (.exc x.cls x.ns x.ds)), (hE'.mono le2).set r2 i, S2, ?_⟩
        have lw := le.trans le2
        cases q3 : fs (en'.set i (some (.exc x.cls x.ns x.ds))) s with
        | nx e s1 => simp only [q3, Fl.wipe] at p; exact fun W3 σ3 H3 l3 hE3 S3 => p W3 _ H3 (lw.trans l3) (hE3.setN i) S3
        | bk e s1 => simp only [q3, Fl.wipe] at p; exact fun W3 σ3 H3 l3 hE3 S3 => p W3 _ H3 (lw.trans l3) (hE3.setN i) S3
        | ct e s1 => simp only [q3, Fl.wipe] at p; exact fun W3 σ3 H3 l3 hE3 S3 => p W3 _ H3 (lw.trans l3) (hE3.setN i) S3
        | rt d s1 => simp only [q3, Fl.wipe] at p; exact fun W3 v H3 l3 S3 r3 => p W3 v H3 (lw.trans l3) S3 r3
        | exn y e s1 => simp only [q3, Fl.wipe] at p; exact p.elim
        | bad => simp only [q3, Fl.wipe] at p; exact p.elim
end
end LB
end

section
set_option Elab.async false
set_option linter.all false
set_option maxRecDepth 100000
set_option maxHeartbeats 4000000
/-! raise C(x, ..), C with an own __init__ that hands a text to the class above and keeps what it is told. -/
namespace LB
open PySem PySem.Spec PyProof.Rows L2
/-- what the written part must say for it -/
def oexB (K : PySem.W.Frag) (C : Addr) : Bool := (match K.lookup C with
  | some ⟨.type "type", _, .cls cd, sl⟩ => (match cd.mro, sl.toList with
    | .ref D :: bm, [_, _, _, _, some (.builtin n), _] => D == C && (n == "ValueError.__new__" && (!cd.hasDel && (cd.hasDict && HandSPX.refsVE bm)))
    | _, _ => false)
  | _ => false) && (decide (PySem.W.findIn K (.ref C) "__setattr__" = some (some (.builtin "object.__setattr__"))) && (decide (PySem.W.subIn K (.ref C) (.type "BaseException") = some true) && (decide (PySem.W.typeIn K (.ref C) = some (.type "type")) && PySem.W.keepIn K (.ref C))))
theorem oexB_ok {K : PySem.W.Frag} {C : Addr} (h : oexB K C = true) : OexC K C := by
  simp only [oexB, Bool.and_eq_true, decide_eq_true_eq] at h
  obtain ⟨h1, h2, h3, h4, h5⟩ := h
  refine ⟨?_, h2, h3, h4, h5⟩
  split at h1
  · rename_i dd cd sl ho
    split at h1
    · rename_i D bm k0 k1 k2 k3 n k5 hm hs
      simp only [Bool.and_eq_true, beq_iff_eq, Bool.not_eq_true'] at h1
      obtain ⟨rfl, rfl, z1, z2, z3⟩ := h1
      obtain ⟨nm, bs, mro, ns, qn, hd, sn, sub, ab, col, del⟩ := cd
      simp only at hm z1 z2
      subst hm z1 z2
      have e : sl = #[k0, k1, k2, k3, some (.builtin "ValueError.__new__"), k5] := by
        obtain ⟨l⟩ := sl
        simp only at hs
        rw [hs]
      subst e
      exact ⟨_, _, _, _, bm, _, _, _, _, _, _, _, _, _, _, ho, z3⟩
    · cases h1
  · cases h1
/-- the class above -/
structure UpC (K : PySem.W.Frag) (B : Addr) : Prop where
  sp : PySem.W.specialIn K (.ref B) "__getattribute__" = some (some (.builtin "type.__getattribute__"))
  rd : PySem.W.readsIn K B (.type "type") = true
  fd : PySem.W.findCls K (.ref B) (.type "type") "__init__" = some (.val (.builtin "ValueError.__init__"))
/-- o.m(..), a call whose dot and bracket stand on one row -/
theorem wp_meth {M : Model} {A : Around} {E : Value → Shared → Prop} {s : Shared} {env : Env} {o : Expr} {m : Str} {ap pos : Pos} {args : List Expr} {Q : Value → Shared → Prop} (h0 : attributeBase o m env (eval o env) = eval o env)
    (h1 : methodCallForm (args.length + 0) (backTo pos (starEach args env)) (backToKw pos (keywordEach [] env)) = true) (h2 : (ap.endLine == pos.line) = true)
    (h : wpAny M A (eval o env) (fun v t => ∀ pl, wpAny M A (getMethod v m pl) (fun fx t2 => wpAny M A (callWith pos fx.1 fx.2 (backTo pos (starEach args env)) []) Q E t2) E t) E s) : wpAny M A (eval (.Call (.Attribute o m ap) args [] pos) env) Q E s := by
  rw [arm_eval_Call, h0]
  refine wpAny_bind (wpAny_mono h (fun v t q => wpAny_bind (wpAny_standAt ?_)) fun _ _ z => z)
  have hp : methodCallPos true o env ap pos = pure pos := by unfold methodCallPos; simp [h2]
  show wpAny M A (methodCall o m ap pos env v (args.length + 0) (backTo pos (starEach args env)) (backToKw pos (keywordEach [] env))) Q E t
  unfold methodCall
  rw [h1]
  refine wpAny_bind (wpAny_holding (wpAny_mono (q _) (fun fx t2 q2 => ?_) fun _ _ z => z))
  exact wpAny_bind (wpAny_of_eq hp q2)
section
variable {X : Cx} {e : Expr} {es : List Expr} {ta : TA} {p1 p2 pos : Pos}
/-- B.__init__(self, ..) -/
theorem pe_upinit {b : Str} {B : Addr} (U : UpC X.K B) (hg : Gl X b) (hm : X.mg b = some (.ref B)) (hd : (b == ("__debug__" : Str)) = false) (ha : PA X (e :: es) ta) (hl : (p2.endLine == pos.line) = true)
    (hf : methodCallForm ((e :: es).length + 0) (backTo pos (starEach (e :: es) X.env)) (backToKw pos (keywordEach [] X.env)) = true)
    (h1 : starEach (e :: es) X.env = (false, eval e X.env) :: starEach es X.env := by rfl) (h2 : (backTo pos (starEach es X.env)).any (·.1) = false := by rfl) :
    PE X (.Call (.Attribute (.Name b p1) "__init__" p2) (e :: es) [] pos) (tVeI X.K ta) := by
  constructor
  intro pins s σ H Q I h
  refine wp_meth rfl hf hl (ld_glob I hg hm (fun pl => ?_) hd)
  refine PySem.W.method_cls I.kIn U.sp (PySem.W.cls_value I.kIn U.rd U.fd (by decide +kernel) ?_)
  refine PyProof.Rows.callWith_method1 (thn (ha.run pos pins _ σ H _ (I.tok _) h) fun us s1 ⟨vs, H1, I1, r1, a, C, ws, ev, hl, T, ea, q⟩ => ?_) h1 h2
  subst ev
  cases r1 with
  | @cons _ u _ ur ra rr =>
    obtain rfl : u = Value.ref a := ra
    exact oinit_ok T I1 ea (by rw [← Paired.length rr, sizeLine_eq]; omega) fun s' J => ⟨.non, H1, J, rfl, q⟩
end
/-- what such an __init__ does: fs the names, in order -/
def spIni (K : PySem.W.Frag) (fs : List Str) : Sp := fun vs H Q _ => ∃ (a C : Addr) (ws : List V), vs = .ref a :: ws ∧ ws.length = fs.length ∧ OexC K C ∧ (∀ f ∈ fs, PySem.W.findIn K (.ref C) f = some none) ∧ H a = some (exo a C none) ∧
  ∀ (dx : Addr) (H' : Hp), H dx = none → dx ≠ a → H' a = some (exo a C (some dx)) → H' dx = some (exd dx (fs.zip ws).reverse) → (∀ x, x ≠ a → x ≠ dx → H' x = H x) → Q .non H'
/-- the body -/
def iniCk (b : Str) (fs : List Str) : List Stmt → Bool
  | .Expr (.Call (.Attribute (.Name b' _) m ap) [.Name s _, .Constant (.str _) _ _] [] p) _ :: r => decide (b' = b) && ((ap.endLine == p.line) && (decide (m = "__init__") && (decide (s = "self") && (match fs, r with
    | [f], [.Assign [.Attribute (.Name s1 _) f1 _] (.Name x1 _) _] => decide (s1 = "self") && (decide (f1 = f) && decide (x1 = f))
    | [f, g], [.Assign [.Attribute (.Name s1 _) f1 _] (.Name x1 _) _, .Assign [.Attribute (.Name s2 _) f2 _] (.Name x2 _) _] => decide (s1 = "self") && (decide (f1 = f) && (decide (x1 = f) && (decide (s2 = "self") && (decide (f2 = g) && decide (x2 = g)))))
    | _, _ => false))))
  | _ => false
section
variable {P : Program} {w : World} {K : PySem.W.Frag} {mg : Str → Option Value} {base : Heap} {CX : CXT} {x qual b : Str} {params : Arguments} {body : List Stmt} {scope : Scope} {f : Addr} {fd : FuncData} {fs : List Str} {B : Addr}
def nameOk (scope : Scope) (x : Str) : Bool := decide (scope.names.lookup x = some .local) && (!(x == ("__debug__" : Str)) && !(x == ("__classdict__" : Str)))
theorem ini_ok {dvs : List V} {kws : List (Str × V)} (F : FunD K x qual params body scope dvs kws f fd) (S : FnScope ("self" :: fs) ("self" :: fs) scope) (hn : (("self" : Str) :: fs).all (nameOk scope) = true) (hb : iniCk b fs body = true)
    (hg : scope.names.lookup b = some .globalImplicit) (hd : (b == ("__debug__" : Str)) = false) (U : UpC K B) (hm : mg b = some (.ref B)) : FnOk P w K mg base CX 1 f fd ("self" :: fs) (spIni K fs) := by
  obtain ⟨oc, od, dV, kV, doc, pm, an, cdv, ct, osl, rfl, lk, hcd, _, _⟩ := F.ex
  refine fn_of (k := 0) (N := "self" :: fs) lk hcd S (fun vs H Q E ⟨a, C, ws, e, l, _⟩ => by rw [e]; simp [l]) fun A outer s H vs Q E hr sp => ?_
  obtain ⟨a, C, ws, rfl, hl, T, hno, ha, fin⟩ := sp
  have var : ∀ (i : Nat) (y : Str) (p : Pos), (("self" : Str) :: fs)[i]? = some y → PE (cxOf CX P w K mg base ("self" :: fs) qual scope f cdv A outer s H E) (.Name y p) (tVar i) := fun i y p hi => by
    have q := List.all_eq_true.mp hn y (List.mem_of_getElem? hi)
    simp only [nameOk, Bool.and_eq_true, decide_eq_true_eq, Bool.not_eq_true'] at q
    exact pe_var hi (.inl q.1) q.2.1 q.2.2
  unfold iniCk at hb
  split at hb
  · rename_i b' p1 m p2 s0 p3 txt j p4 p5 p6 r
    simp only [Bool.and_eq_true, decide_eq_true_eq] at hb
    obtain ⟨rfl, hln, rfl, rfl, hb⟩ := hb
    have up := ps_expr (pos := p6) (pe_upinit (X := cxOf CX P w K mg base ("self" :: fs) qual scope f cdv A outer s H E) (p1 := p1) (p2 := p2) (pos := p5) U (show scope.names.lookup _ = _ from hg) hm hd (pa_cons (var 0 ("self" : Str) p3 rfl) (pa_cons (pe_str (x := txt) (j := j) (pos := p4)) pa_nil)) hln rfl)
    split at hb
    · rename_i f1 s1 p7 g1 p8 x1 p9 p10
      simp only [Bool.and_eq_true, decide_eq_true_eq] at hb
      obtain ⟨rfl, rfl, rfl⟩ := hb
      match ws, hl with
      | [y], _ =>
        refine ⟨_, pss_cons up (pss_cons (ps_ost (var 0 ("self" : Str) p7 rfl) (var 1 _ p9 rfl)) pss_nil), ?_⟩
        refine ⟨_, rfl, ?_⟩
        refine ⟨a, C, [.str txt], rfl, by simp, T, ha, ?_⟩
        refine ⟨y, rfl, _, rfl, a, C, rfl, T, hno _ (List.mem_cons_self ..), .inl ⟨ha, fun dx hx hne => ?_⟩⟩
        refine fin dx _ hx hne upd_same ?_ fun z h1 h2 => by rw [upd_ne h1, upd_ne h2]
        rw [upd_ne hne, upd_same]; rfl
    · rename_i f1 f2 s1 p7 g1 p8 x1 p9 p10 s2 q7 g2 q8 x2 q9 q10
      simp only [Bool.and_eq_true, decide_eq_true_eq] at hb
      obtain ⟨rfl, rfl, rfl, rfl, rfl, rfl⟩ := hb
      match ws, hl with
      | [y, y2], _ =>
        refine ⟨_, pss_cons up (pss_cons (ps_ost (var 0 ("self" : Str) p7 rfl) (var 1 _ p9 rfl)) (pss_cons (ps_ost (var 0 ("self" : Str) q7 rfl) (var 2 _ q9 rfl)) pss_nil)), ?_⟩
        refine ⟨_, rfl, ?_⟩
        refine ⟨a, C, [.str txt], rfl, by simp, T, ha, ?_⟩
        refine ⟨y, rfl, _, rfl, a, C, rfl, T, hno _ (List.mem_cons_self ..), .inl ⟨ha, fun dx hx hne => ?_⟩⟩
        refine ⟨y2, rfl, _, rfl, a, C, rfl, T, hno _ (by simp), .inr ⟨dx, _, upd_same, by rw [upd_ne hne]; exact upd_same, by simp, ?_⟩⟩
        refine fin dx _ hx hne ?_ upd_same fun z h1 h2 => by rw [upd_ne h2, upd_ne h1, upd_ne h2]
        rw [upd_ne (Ne.symm hne), upd_same]
    · cases hb
  · cases hb
end
end LB
end

section
set_option Elab.async false
set_option linter.all false
set_option maxRecDepth 100000
set_option maxHeartbeats 4000000
/-! More of the language: raise with fields, except without a name, two names at once, append, enumerate. -/
namespace LB
open PySem PySem.Spec PyProof.Rows L2
structure Ini1 (g : Sg) (mg : Str → Option Value) (c : Nat) (fs : List Str) : Prop where
  ex : ∃ (C fI : Addr) (fd : FuncData), g.cv c = .ref C ∧ OexC g.K C ∧ (∀ f ∈ fs, PySem.W.findIn g.K (.ref C) f = some none) ∧ PySem.W.findIn g.K (.ref C) "__init__" = some (some (.ref fI)) ∧ PySem.W.typeIn g.K (.ref fI) = some (.type "function") ∧
    (∀ (P : Program) (w : World) (base : Heap) (CX : CXT), FnOk P w g.K mg base CX 1 fI fd ("self" :: fs) (spIni g.K fs)) ∧ Binds g.K fd ("self" :: fs) []
def IniOk (g : Sg) (mg : Str → Option Value) (pr : Pr) : Prop := ∀ c fs, pr.inis.lookup c = some fs → Ini1 g mg c fs
section
variable {X : Cx} {g : Sg} {Wx : WX} {pr : Pr} {pos : Pos} {e : Expr} {es : List Expr} {fa : FA}
theorem ss_raiseI {cl : Cl} {c : Nat} {fs : List Str} {p p3 : Pos} (hK : X.K = g.K) (hc : X.calm = true) (tk : Takes X Wx) (k : ClsOk g X.mg pr) (i : Ini1 g X.mg c fs) (hcl : pr.cls[c]? = some cl) (ho : cl.own = true) (hr : Room 2 X.A) (hg : Gl X cl.name) (hd : (cl.name == ("__debug__" : Str)) = false)
    (ha : PA X (e :: es) (tA g Wx fa)) (hs : (e :: es).all noStar = true) (hl : fs.length < 900) :
    PS X (.Raise (some (.Call (.Name cl.name p) (e :: es) [] p3)) none pos) (tS g Wx fun en st => (fa en st).fl en fun ds s => if fs.length = ds.length then .exn ⟨c, fs.reverse, ds.reverse⟩ en s else .bad) := by
  obtain ⟨C, fI, fd, hC, T, hno, iC, tI, F, hb⟩ := i.ex
  obtain ⟨C', hC', hm, _⟩ := k.own c cl hcl ho
  rw [hC] at hC'; cases hC'
  simp only [List.all_cons, Bool.and_eq_true] at hs
  rw [← hK] at T iC tI hb
  refine (ps_raise hc tk (pmk_oex (CX := fun _ _ _ _ _ _ => False) (k := 1) (dvs := []) (pos := p3) T iC tI (hK ▸ F X.prog X.w X.base _) hr hb .nil (fun _ _ _ _ _ _ _ z => z.elim) hg hm ha hd (star_cons hs.1) (star_any hs.2))).lb fun E σ H ⟨W, st, en, hE, S, q⟩ => ?_
  refine tS_step hE S q fun ds s W1 vs H1 le hE1 S1 rs q1 => ?_
  split at q1
  · rename_i hlen
    have lv := rs.length
    refine ⟨by omega, fun a ha => ⟨a, C, vs, by simp, by omega, T, fun f hf => by rw [hK]; exact hno f hf, upd_same, fun dx H' hx hne h1 h2 h3 => ⟨rfl, dx, _, h1, h2, ?_, ?_⟩⟩⟩
    · rw [upd_ne hne] at hx; exact hx
    · have hx1 : H1 dx = none := by rw [upd_ne hne] at hx; exact hx
      have eh : upd (del H' a) dx (.xd (fs.zip vs).reverse) = upd H1 dx (.xd (fs.zip vs).reverse) := by
        funext z
        by_cases z1 : z = dx
        · rw [z1, upd_same, upd_same]
        · rw [upd_ne z1, upd_ne z1]
          by_cases z2 : z = a
          · rw [z2, del_same, ha]
          · rw [del_ne z2, h3 z z2 z1, upd_ne z2]
      rw [eh]
      have ez : (fs.zip vs).reverse = fs.reverse.zip vs.reverse := by
        rw [List.zip_eq_zipWith, List.zip_eq_zipWith, List.reverse_zipWith (by omega)]
      exact q1 W1 _ (some dx) σ _ (.refl W1) hE1 (S1.fresh hx1) ⟨hC.symm, vs.reverse, by rw [upd_same, ez], by simp; omega, rs.reverse⟩
  · exact q1.elim
/-- try: .. except C: .. -/
theorem ss_tryNo {cl : Cl} {c : Nat} {bd su : List Stmt} {b0 : Stmt} {p1 p2 : Pos} {fb fs : FS} (hK : X.K = g.K) (hst : X.stack = X.env :: X.outer) (hfr : X.env.frame = some X.env.locals)
    (k : ClsOk g X.mg pr) (hcl : pr.cls[c]? = some cl) (hg : Gl X cl.name) (hd : (cl.name == ("__debug__" : Str)) = false) (tk : Takes X Wx)
    (hb : ∀ (W : WX) (pn : List (Addr × Obj)) (xe : Value → Shared → Prop), Takes (X.tr pn xe) W → PassesOwn (model X.prog X.w) X.A X.env xe → PSs (X.tr pn xe) bd (tS g W fb))
    (hh : ∀ (a : Addr) (pn : List (Addr × Obj)), PSs (X.suite a pn) (b0 :: su) (tS g noX fs)) :
    PS X (.Try bd [.ExceptHandler (some (.Name cl.name p1)) none (b0 :: su) p2] [] [] pos) (tS g Wx fun en st => match fb en st with
      | .exn x en' s => (match pr.exm.lookup (x.cls, c) with
        | some true => (match fs en' s with
          | .exn _ _ _ => .bad
          | r => r)
        | some false => .exn x en' s
        | none => .bad)
      | r => r) := by
  have nm : Names X cl.name (g.cv c) := by
    refine ⟨hg, hd, ?_⟩
    cases o : cl.own with
    | true => obtain ⟨C, e1, e2, _⟩ := k.own c cl hcl o; exact .inl (by rw [e1]; exact e2)
    | false => obtain ⟨e1, e2, e3, e4⟩ := k.bui c cl hcl o; exact .inr ⟨e2, by rw [e1]; exact e3, e4⟩
  refine (ps_try_only hst hfr nm tk hb (ts := fun _ _ _ => tS g noX fs) (fun a oe _ _ pn _ _ => hh a _)).lb fun E σ H ⟨W, st, en, hE, S, q⟩ => ?_
  refine ⟨W, st, en, hE, S, ?_⟩
  cases r : fb en st with
  | nx e s => simp only [r] at q; exact q
  | rt d s => simp only [r] at q; exact q
  | bk e s => simp only [r] at q; exact q
  | ct e s => simp only [r] at q; exact q
  | bad => simp only [r] at q; exact q
  | exn x en' s =>
    simp only [r] at q
    intro W' cls dx σ' H' le hE' S' rx
    cases m : pr.exm.lookup (x.cls, c) with
    | none => rw [m] at q; exact q.elim
    | some b =>
      rw [m] at q
      refine ⟨b, by rw [hK, rx.1]; exact k.exm _ _ _ m, fun z a ha => ?_, fun z => ?_⟩
      · subst z
        refine ⟨W', s, en', hE', S', ?_⟩
        cases m2 : fs en' s with
        | nx e s1 => simp only [m2] at q; exact q.mono le
        | bk e s1 => simp only [m2] at q; exact q.mono le
        | ct e s1 => simp only [m2] at q; exact q.mono le
        | rt d s1 => simp only [m2] at q; exact q.mono le
        | exn y e s1 => simp only [m2] at q; exact q.elim
        | bad => simp only [m2] at q; exact q.elim
      · subst z; exact q W' cls dx σ' H' le hE' S' rx
/-- a, b = x, y -/
theorem ss_par {i j : Nat} {x y : Str} {a b : Expr} {f1 f2 : FE} {px py pt pt2 : Pos} {kt k2} (hc : X.calm = true) (hN : X.N.Nodup) (hi : X.N[i]? = some x) (hj : X.N[j]? = some y) (hij : i ≠ j)
    (hx : X.env.scope.names.lookup x = some .local) (hy : X.env.scope.names.lookup y = some .local) (ha : PE X a (tE g Wx f1)) (hb : PE X b (tE g Wx f2)) (sa : noStar a = true) (sb : noStar b = true)
    (hw : swappedStores [.Tuple [.Name x px, .Name y py] kt pt] (.Tuple [a, b] k2 pt2) X.env = pure (some [x, y])) :
    PS X (.Assign [.Tuple [.Name x px, .Name y py] kt pt] (.Tuple [a, b] k2 pt2) pos) (tS g Wx fun en st => (f1 en st).fl en fun d s => (f2 en s).fl en fun e s => .nx ((en.set i (some d)).set j (some e)) s) := by
  have pa : PA X [a, b] (tA g Wx fun en st => (f1 en st).bind fun d s => ((fun en st => (f2 en st).bind fun d s => ((fun _ s => .ok [] s : FA) en s).bind fun ds s => .ok (d :: ds) s : FA) en s).bind fun ds s => .ok (d :: ds) s) := sa_cons ha (sa_cons hb sa_nil (star_cons sb)) (star_cons sa)
  refine (ps_par hc hN hi hj hij hx hy pa hw).lb fun E σ H ⟨W, st, en, hE, S, q⟩ => ?_
  refine ⟨W, st, en, hE, S, ?_⟩
  cases e1 : f1 en st with
  | bad => simp only [e1, Res.fl] at q; exact q.elim
  | exn z s => simp only [e1, Res.fl] at q; simp only [e1, Res.bind_exn]; exact fun W' cl dx H' le S' r => q W' cl dx σ H' le (hE.mono le) S' r
  | ok d s =>
    simp only [e1, Res.fl] at q
    simp only [e1, Res.bind_ok]
    cases e2 : f2 en s with
    | bad => simp only [e2] at q; exact q.elim
    | exn z s2 => simp only [e2] at q; simp only [e2, Res.bind_exn]; exact fun W' cl dx H' le S' r => q W' cl dx σ H' le (hE.mono le) S' r
    | ok d2 s2 =>
      simp only [e2] at q
      simp only [e2, Res.bind_ok]
      intro W' vs H' le S' r
      cases r with
      | cons r1 r2 =>
        cases r2 with
        | cons r2 r3 =>
          cases r3
          exact ⟨_, _, rfl, q W' _ H' le (((hE.mono le).set r1 i).set r2 j) S'⟩
end
/-! enumerate(x) -/
theorem meets_en0 {v : Value} {o : Obj} {H : Heap → Prop} (B : Begins v o H) : Meets (Builtin.«enumerate.__new__» ⟨[.type "enumerate", v], []⟩) (fun _ R s => H s.heap ∧
      R (.ok (.ret (.ref (s.heap.push o).objs.size))) { s with heap := (s.heap.push o).push { cls := .type "enumerate", data := .fields #[.none, .bool false, .ref s.heap.objs.size, rawInt 0, .none, .none] } }) :=
  .of_wp fun prog w A R s h => by
    obtain ⟨hp, g, d, tk, os⟩ := s
    obtain ⟨h1, h⟩ := h
    have hsub := sub_enumerate
    have it : ∀ {A' : Around} {E : Value → Shared → Prop} {Q : Value → Shared → Prop}, Q (.ref hp.objs.size) ⟨hp.push o, g, d, tk, os⟩ → wpAny (model prog w) A' (pyIter v) Q E ⟨hp, g, d, tk, os⟩ :=
      fun z => B.iter prog w _ _ ⟨hp, g, d, tk, os⟩ _ h1 z
    wp_walk using it
    refine wpAny_stack_any fun st => wpAny_pure ?_
    split
    · rename_i c _ _ _ _ _
      cases (c == Value.type "enumerate")
      all_goals
        wp_walk using it
        exact ⟨_, rfl, h⟩
    · wp_walk using it
      exact ⟨_, rfl, h⟩
theorem en_begins0 {prog : Program} {w : World} {A : Around} {E : Value → Shared → Prop} {s : Shared} {v : Value} {o : Obj} {H : Heap → Prop} {Q : Value → Shared → Prop} (B : Begins v o H) (h1 : H s.heap)
    (h : ∀ h', IsEnum h' (s.heap.objs.size + 1) s.heap.objs.size 0 .none → h'.get? s.heap.objs.size = some o → h'.objs.size = s.heap.objs.size + 2 → (∀ b u, s.heap.get? b = some u → h'.get? b = some u) → Q (.ref (s.heap.objs.size + 1)) { s with heap := h' }) :
    wpAny (model prog w) A (call (.type "enumerate") [v]) Q E s := by
  refine callType_new F.called_enumerate (by decide) (F.typeCall_enumerate_1 _) (F.newCall_enumerate_1 _) (fun z => F.args_object_init_2 z _) F.entry_enumerate_new (meets_en0 B) ⟨h1, ?_⟩
  have hz : (s.heap.push o).objs.size = s.heap.objs.size + 1 := Heap.size_push ..
  show _ ∧ _
  rw [hz]
  have he : IsEnum ((s.heap.push o).push { cls := .type "enumerate", data := .fields #[.none, .bool false, .ref s.heap.objs.size, rawInt 0, .none, .none] }) (s.heap.objs.size + 1) s.heap.objs.size 0 .none := by
    have z := Heap.get?_push_size (s.heap.push o) (o := { cls := .type "enumerate", data := .fields #[.none, .bool false, .ref s.heap.objs.size, rawInt 0, .none, .none] }) rfl
    rw [hz] at z
    exact z
  exact ⟨⟨_, he, rfl⟩, h _ he (Heap.get?_push_of_some _ (Heap.get?_push_size _ B.free)) (by rw [Heap.size_push, hz]) fun b u q => Heap.get?_push_of_some _ (Heap.get?_push_of_some _ q)⟩
section
variable {X : Cx} {g : Sg} {Wx : WX} {a : Expr} {fa : FE} {pos p tpos : Pos} {elts : List Expr} {kk : Nat}
theorem si_enum1 (hK : X.K = g.K) (hg : Gl X "enumerate") (hm : X.mg "enumerate" = none) (ha : PE X a (tE g Wx fa)) (hs : noStar a = true) :
    PI X (.Tuple elts kk tpos) (.Call (.Name "enumerate" p) [a] [] pos) (tI g Wx fun en st => (fa en st).bind fun d s => liftI (enI d (.int 0)) s) := by
  refine ⟨fun pins s σ H R I ⟨W, st, en, hE, S, post⟩ => wpAny_Call_Name_kw (ld_blt I hg hm boot_enumerate ?_)⟩
  refine PyProof.Rows.callWith_type1 (PyProof.Rows.args_cons (thn (ha.run pins s σ H (fun x H2 => ∃ W2 st2 d, Sim g W2 st2 H2 ∧ Rep W2 x d ∧ Post g Wx (fun W J items => Gives g W J items) σ R W2 (liftI (enI d (.int 0)) st2)) I ⟨W, st, en, hE, S, ?_⟩) fun uu s2 ⟨x, H2, I2, ru, W2, st2, d, S2, rx, post2⟩ => PyProof.Rows.args_nil ?_) (star_cons hs)) (star_cons hs) rfl
  · cases e : fa en st with
    | ok d s =>
      simp only [e, Res.bind_ok] at post ⊢
      exact fun W' b H' le S' r => ⟨W', s, d, S', r, post.mono le⟩
    | exn x s => simp only [e, Res.bind_exn] at post ⊢; exact post
    | bad => simp only [e, Res.bind_bad] at post; exact post.elim
  · cases q : enI d (.int 0) with
    | none => rw [q] at post2; exact post2.elim
    | some items =>
      rw [q] at post2
      obtain ⟨c, ds, hc0, c1, c2, rfl, hd⟩ := enI_some q
      cases hc0
      have viaT : ∀ (q : Addr) (vs : List V), x = .ref q → (∀ W' st H, W2.LeX W' → Sim g W' st H → SqT g.K H q vs) → Reps W2 vs ds → wpAny (model X.prog X.w) X.A (call (.type "enumerate") [uu]) (fun v s1 => wpAny (model X.prog X.w) X.A (pyIter v) (PIE X pins σ (.Tuple elts kk tpos) R) X.xe s1) X.xe s2 := by
        intro q vs hx hv rv
        subst hx
        cases ru
        obtain ⟨its, rvi, ht, hz⟩ := I2.tuple (hK ▸ hv W2 st2 H2 (.refl W2) S2)
        refine en_begins0 (begins_tuple q its.toArray) ht fun h' he ho _ hk => ?_
        exact made_enT I2 he ⟨_, ho, rfl, rfl⟩ hk (hK ▸ post2 W2 _ H2 (.refl W2) S2 (gives_enT hv rv))
      have viaL : ∀ (q : Addr) (vs : List V), x = .ref q → (∀ W' st H, W2.LeX W' → Sim g W' st H → SqL g.K H q vs) → Reps W2 vs ds → wpAny (model X.prog X.w) X.A (call (.type "enumerate") [uu]) (fun v s1 => wpAny (model X.prog X.w) X.A (pyIter v) (PIE X pins σ (.Tuple elts kk tpos) R) X.xe s1) X.xe s2 := by
        intro q vs hx hv rv
        subst hx
        cases ru
        obtain ⟨its, rvi, ht, hz⟩ := I2.list (hK ▸ hv W2 st2 H2 (.refl W2) S2)
        refine en_begins0 (begins_list q its.toArray) ht.isList fun h' he ho _ hk => ?_
        exact made_enL I2 he ⟨_, ho, rfl, rfl⟩ hk (hK ▸ post2 W2 _ H2 (.refl W2) S2 (gives_enL hv rv))
      rcases hd with rfl | rfl | ⟨ns, rfl, rfl⟩
      · cases rx with
        | tup z r => exact viaT _ _ rfl (fun W' st H le S => S.tu _ _ (le.tu _ _ z)) r
      · cases rx with
        | lst z r => exact viaL _ _ rfl (fun W' st H le S => S.sqL (le.fz _ _ z)) r
      · cases rx with
        | scr z => exact viaL _ _ rfl (fun W' st H le S => S.sqS (le.sc _ _ z)) (Reps.ofInts _)
end
section
variable {X : Cx} {g : Sg} {Wx : WX} {pos ap : Pos} {o : Expr} {e : Expr} {es : List Expr} {fo : FE} {fa : FA}
/-- xs.append(e) -/
theorem se_app (hK : X.K = g.K) (ho : PE X o (tE g Wx fo)) (ha : PA X (e :: es) (tA g Wx fa)) (hs : (e :: es).all noStar = true) (hb : attributeBase o "append" X.env (eval o X.env) = eval o X.env) (hl : (ap.endLine == pos.line) = true) (hn : (e :: es).length < 10) :
    PE X (.Call (.Attribute o "append" ap) (e :: es) [] pos) (tE g Wx fun en st => (fo en st).bind fun d s => if Mt.app.recv d s then (fa en s).bind fun ds s => liftO (Mt.app.f d ds s) else .bad) := by
  have hs' := hs
  simp only [List.all_cons, Bool.and_eq_true] at hs'
  have few : ∀ l : List Expr, l.all noStar = true → (backTo pos (starEach l X.env)).all (fun x => !x.1) = true := fun l hl => by
    have := star_any (pos := pos) (env := X.env) hl
    rw [List.any_eq_false] at this
    rw [List.all_eq_true]
    intro z hz
    have := this z hz
    simpa using this
  refine (pe_bm PySem.F.plainAttrs_list PySem.F.slot_list_append PySem.F.type_list_append mt_append ho ha hb (by
    rw [few _ hs]
    simp only [Bool.true_and, Bool.and_eq_true, decide_eq_true_eq]
    refine ⟨rfl, ?_⟩
    simp only [List.length_nil, List.isEmpty_nil, if_true]
    omega) hl (star_cons hs'.1) (star_any hs'.2)).lb fun σ H Q ⟨W, st, en, hE, S, q⟩ => ?_
  refine tG_step hE S q fun d s W1 x H1 le hE1 S1 r q1 => ?_
  split at q1
  · rename_i hr
    unfold Mt.recv at hr
    simp only at hr
    split at hr
    · rename_i n
      split at hr
      · rename_i ds0 hob
        obtain ⟨a, ea, vs0, hv, rs0⟩ := S1.ob n _ hob
        cases r with
        | ref er =>
          rw [ea] at er; cases er
          refine ⟨.inl ⟨rfl, _, .inl (.inl hv)⟩, tG_step hE1 S1 q1 fun ds s2 W2 xs H2 le2 hE2 S2 rs q2 => ?_⟩
          cases rs with
          | nil => exact q2.elim
          | cons ry rn =>
            cases rn with
            | cons _ _ => exact q2.elim
            | nil =>
              simp only [Mt.f] at q2
              split at q2
              · rename_i dsn hob2
                split at q2
                · rename_i hlen
                  obtain ⟨a2, ea2, vs2, hv2, rs2⟩ := S2.ob n _ hob2
                  have ea' := le2.io _ _ ea
                  rw [ea'] at ea2; cases ea2
                  refine ⟨_, vs2, _, rfl, rfl, hv2, by rw [rs2.length]; exact hlen, ?_⟩
                  exact q2 W2 .non _ (.refl W2) (S2.setO hob2 ea' ⟨_, upd_same, rs2.append (.cons ry .nil)⟩) .non
                · exact q2.elim
              · exact q2.elim
      · cases hr
    · cases hr
  · exact q1.elim
end
end LB
end

section
set_option Elab.async false
set_option linter.all false
set_option maxRecDepth 100000
set_option maxHeartbeats 4000000
/-! How many unlike things: len of a set. -/
namespace LB
open PySem PySem.Spec PyProof.Rows L2
section
variable {α : Type} [DecidableEq α]
def stp (acc : List α) (x : α) : List α := if x ∈ acc then acc else acc ++ [x]
theorem unlike_fold : ∀ (xs acc : List α), unlike acc xs = xs.foldl stp acc
  | [], _ => rfl
  | x :: xs, acc => by rw [unlike, unlike_fold xs]; rfl
theorem mem_stp {acc : List α} {x k : α} : k ∈ stp acc x ↔ k ∈ acc ∨ k = x := by
  unfold stp
  split
  · rename_i h
    exact ⟨.inl, fun z => z.elim id fun e => e ▸ h⟩
  · simp
theorem len_stp {acc : List α} {x : α} : (stp acc x).length = if x ∈ acc then acc.length else acc.length + 1 := by
  unfold stp
  split <;> simp
theorem len_unlike : ∀ (xs acc : List α), (unlike acc xs).length ≤ acc.length + xs.length
  | [], acc => by simp [unlike]
  | x :: xs, acc => by
    have := len_unlike xs (stp acc x)
    rw [len_stp] at this
    show (unlike (stp acc x) xs).length ≤ _
    simp only [List.length_cons]
    split at this <;> omega
theorem unlike_next {xs : List α} {i : Nat} {x : α} (h : xs[i]? = some x) : unlike [] (xs.take (i + 1)) = stp (unlike [] (xs.take i)) x := by
  rw [unlike_fold, unlike_fold, List.take_succ, h]
  simp
end
/-- the set whose members are those of a list -/
def OfL {α : Type} [DecidableEq α] (l : List α) : α → Bool := fun k => decide (k ∈ l)
section
variable {α : Type} [DecidableEq α]
theorem ofL_step {l : List α} {k : α} : (fun j => OfL l j || decide (j = k)) = OfL (stp l k) := by
  funext j
  rw [Bool.eq_iff_iff, Bool.or_eq_true]
  unfold OfL
  rw [decide_eq_true_eq, decide_eq_true_eq, decide_eq_true_eq, mem_stp]
theorem n_step {l : List α} {k : α} : (if OfL l k = true then l.length else l.length + 1) = (stp l k).length := by
  rw [len_stp]
  unfold OfL
  by_cases h : k ∈ l
  · rw [if_pos h, if_pos (decide_eq_true h)]
  · rw [if_neg h, if_neg (by rw [decide_eq_false h]; exact Bool.false_ne_true)]
theorem ofL_nil : OfL ([] : List α) = fun _ => false := by
  funext k
  unfold OfL
  exact decide_eq_false (by simp)
end
theorem unlike_one (ks : List Key) (k : Key) : unlike [] (ks ++ [k]) = stp (unlike [] ks) k := by
  rw [unlike_fold, unlike_fold, List.foldl_append]
  rfl
theorem keysOf_one : ∀ {acc : List D} {ks : List Key} {y : D} {k : Key}, keysOf acc = some ks → keyD y = some k → keysOf (acc ++ [y]) = some (ks ++ [k])
  | [], ks, y, k, h, e => by cases h; simp [keysOf, e]
  | a :: acc, ks, y, k, h, e => by
    simp only [keysOf, List.cons_append] at h ⊢
    cases q : keyD a with
    | none => rw [q] at h; cases h
    | some j =>
      rw [q] at h
      simp only [Option.bind_some] at h ⊢
      cases q2 : keysOf acc with
      | none => rw [q2] at h; cases h
      | some js =>
        rw [q2] at h
        cases h
        rw [keysOf_one q2 e]
        rfl
theorem keysOf_len : ∀ {acc : List D} {ks : List Key}, keysOf acc = some ks → ks.length = acc.length
  | [], ks, h => by cases h; rfl
  | a :: acc, ks, h => by
    simp only [keysOf] at h
    cases q : keyD a with
    | none => rw [q] at h; cases h
    | some j =>
      rw [q] at h
      simp only [Option.bind_some] at h
      cases q2 : keysOf acc with
      | none => rw [q2] at h; cases h
      | some js =>
        rw [q2] at h
        cases h
        simp [keysOf_len q2]
theorem key_rep {W : Wd} {v : V} {d : D} {k : Key} (r : Rep W v d) (h : keyD d = some k) : v = kV k := by
  cases r <;> first | (cases h; rfl) | (simp [keyD] at h)
theorem keys_reps {W : Wd} : ∀ {vs : List V} {ds : List D} {ks : List Key}, Reps W vs ds → keysOf ds = some ks → vs = ks.map kV
  | _, _, ks, .nil, h => by cases h; rfl
  | _, _, ks, .cons (v := v) (d := d) (ds := ds) r t, h => by
    simp only [keysOf] at h
    cases q : keyD d with
    | none => rw [q] at h; cases h
    | some j =>
      rw [q] at h
      simp only [Option.bind_some] at h
      cases q2 : keysOf ds with
      | none => rw [q2] at h; cases h
      | some js =>
        rw [q2] at h
        cases h
        rw [List.map_cons, key_rep r q, keys_reps t q2]
/-! ### the comprehension -/
section
variable {X : Cx}
theorem addK_ok {pins : List (Addr × Obj)} {σ : L2.St} {H : Hp} {s : Shared} {E : Value → Shared → Prop} {D : Addr} {S : Key → Bool} {n : Nat} {k : Key} {u : Value} {Q : Value → Shared → Prop} (I : Inv X pins σ H s) (hD : H D = some (SetK X.prog X.w D S n)) (ru : RelV (kV k) u) (room : n + 1 < scanBound)
    (h : ∀ s', Inv X pins σ (upd H D (SetK X.prog X.w D (fun j => S j || decide (j = k)) (if S k = true then n else n + 1))) s' → Q .none s') : wpAny (model X.prog X.w) X.A (call (.builtin "set.add") [.ref D, u]) Q E s := by
  refine call_set_add (kV_is ru) (key_scan ru) (setK_get I hD) room fun h' sb new => ?_
  have ex : ∃ u, h'.get? D = some u := let ⟨o, _, _, _, ho, _⟩ := new; ⟨o, ho⟩
  exact h _ (I.write (e := D) (t' := s.toks + 1) (by rw [hD]; trivial) (.inl rfl) (fun b u hb hu => (sb.2 b hb).trans hu) ex (setK_new new))
def tSk (P : Program) (w : World) (wi : TI) (g : TG) (tt : TT) (te : TE) (vs : List Nat) : TE := fun σ H Q => wi σ H fun J H1 => ∀ D, H1 D = none → ∃ W : Nat → Nat → Hp → Prop, (∃ m, W 0 m (upd H1 D (SetK P w D (fun _ => false) 0))) ∧ ∀ i m H, W i m H →
  (J.stop i H ∧ Q (.ref D) H) ∨ (J.go i H ∧ ∃ Nx : Hp → Prop, (∀ H', Nx H' → ∃ m', m' < m ∧ W (i + 1) m' H') ∧ ∀ x H', J.yld i H x H' → g x (wipe σ vs) H' fun σ2 H2 => wipe σ2 vs = wipe σ vs ∧ tt σ2 H2 fun b H3 =>
    if b = true then te σ2 H3 fun y H4 => ∃ (k : Key) (S : Key → Bool) (n : Nat), y = kV k ∧ H4 D = some (SetK P w D S n) ∧ n + 1 < scanBound ∧ Nx (upd H4 D (SetK P w D (fun j => S j || decide (j = k)) (if S k = true then n else n + 1))) else Nx H3)
abbrev nSet (w : World) : Obj := { cls := .type "set", dict := none, data := .set #[] 0 (.fresh 0 0 (!w.params.followText "set-order")) }
theorem nSet_ok {P : Program} {w : World} {h : Heap} : (h.push (nSet w)).SetOf (mixKind P w) h.objs.size (fun _ => false) 0 :=
  ⟨_, #[], 0, _, Heap.get?_push_size _ rfl, ⟨rfl, rfl, rfl⟩, rfl, (fun e he => by simp at he), (fun k => by simp), (by decide), (by rfl), rfl⟩
theorem pe_sk {elt tg iter : Expr} {ifs : List Expr} {scope : Scope} {own : List (Str × Nat)} {pos : Pos} {wi : TI} {g : TG} {tt : TT} {te : TE} (hc : X.calm = true) (hN : X.N.Nodup) (hi : PI X tg iter wi) (ok : BlkOk X.N X.env.scope scope own)
    (hg : ∀ (s : Shared) (H : Hp) (C : Addr) (cl : List (Str × Addr)) (fp : List Addr), PG (X.blk s H scope (compEnvC scope cl C X.env) fp) tg g) (ht : ∀ (s : Shared) (H : Hp) (C : Addr) (cl : List (Str × Addr)) (fp : List Addr), PTs (X.blk s H scope (compEnvC scope cl C X.env) fp) ifs tt)
    (he : ∀ (s : Shared) (H : Hp) (C : Addr) (cl : List (Str × Addr)) (fp : List Addr), PE (X.blk s H scope (compEnvC scope cl C X.env) fp) elt te) (hs : ∀ x, foldedSetIterable iter X.env x = pure x) :
    PE X (.SetComp elt [⟨tg, iter, ifs, 0⟩] scope pos) (tSk X.prog X.w wi g tt te (own.map (·.2))) := by
  refine ⟨fun pins s σ H Q I h => ?_⟩
  rw [PpSet.eval_SetComp]
  have clo : ∀ y ∈ scope.names, y.2 = .free → ∃ c, X.env.cells.lookup y.1 = some c := fun y hy e => (ok.free y hy e).elim (fun k => I.ok.has _ (.inl k)) fun k => I.ok.has _ (.inr k)
  refine wpAny_comprehension_free (use := none) rfl hs (closure_ok clo) ok.kind (fun y hy e => by rw [ok.uniq y hy, e]) (thn (hi.run pins s σ H _ I h) fun xv s1 hx => thn hx fun itv s2 ⟨it, fp, tn, J, H2, e, I2, T, st2, f2, q⟩ => ?_)
  subst e
  refine PpSet.newSet_ok (newEnv_comp ?_)
  generalize hD : s2.heap.objs.size = D
  have dn : H2 D = none := I2.hok.fresh (Nat.le_of_eq hD)
  obtain ⟨W, ⟨m0, w0⟩, turn⟩ := q D dn
  generalize hs3 : ({ s2 with heap := s2.heap.push (nSet X.w) } : Shared) = s3
  have h3 : s3.heap = s2.heap.push (nSet X.w) := by rw [← hs3]
  have I3 : Inv X pins σ (upd H2 D (SetK X.prog X.w D (fun _ => false) 0)) s3 := by
    rw [← hs3]
    refine I2.laid (t' := s2.toks) (fun b o e => Heap.get?_push_of_some _ e) (Nat.le_of_eq hD) ?_
    rw [← hD]
    exact setK_new nSet_ok
  have f3 : ∀ b ∈ fp, FpOk X pins (upd H2 D (SetK X.prog X.w D (fun _ => false) 0)) b ∧ b < s3.heap.objs.size := fun b hb => by
    obtain ⟨o, ho, _⟩ := T.obj _ _ st2 b hb
    have lt := Heap.lt_size ho
    refine ⟨⟨?_, (f2 b hb).2⟩, by rw [h3, Heap.size_push]; exact Nat.lt_succ_of_lt lt⟩
    rw [upd_ne (by rw [← hD]; exact Nat.ne_of_lt lt)]
    exact (f2 b hb).1
  have st3 : tn 0 s3.heap := T.keep _ _ _ st2 fun b _ o e => by rw [h3]; exact Heap.get?_push_of_some _ e
  have I4 := block_start I3 ok hN f3
  have cells := cellsFrom (s3.heap.objs.size + 1) scope.names (cloFrom X.env.cells scope.names [])
  have pg := hg s3 (upd H2 D (SetK X.prog X.w D (fun _ => false) 0)) s3.heap.objs.size (cellsFrom (s3.heap.objs.size + 1) scope.names (cloFrom X.env.cells scope.names [])) fp
  have pt := ht s3 (upd H2 D (SetK X.prog X.w D (fun _ => false) 0)) s3.heap.objs.size (cellsFrom (s3.heap.objs.size + 1) scope.names (cloFrom X.env.cells scope.names [])) fp
  have pe := he s3 (upd H2 D (SetK X.prog X.w D (fun _ => false) 0)) s3.heap.objs.size (cellsFrom (s3.heap.objs.size + 1) scope.names (cloFrom X.env.cells scope.names [])) fp
  show codeAny _ _ (.compStart (.SetComp elt [⟨tg, iter, ifs, 0⟩] scope pos) 0 (.ref it) (.ref D) (compEnvC scope (cellsFrom (s3.heap.objs.size + 1) scope.names (cloFrom X.env.cells scope.names [])) s3.heap.objs.size X.env)) (compPost (model X.prog X.w) X.A X.xe none (EP X pins σ Q) (.ref D) s3.heap.objs.size) { s3 with heap := pushCells (s3.heap.push { cls := .type "dict", data := .dict #[] }) scope.names }
  have nfp : ∀ b ∈ fp, (upd H2 D (SetK X.prog X.w D (fun _ => false) 0)) b = none := fun b hb => (f3 b hb).1.1
  generalize hce : compEnvC scope (cellsFrom (s3.heap.objs.size + 1) scope.names (cloFrom X.env.cells scope.names [])) s3.heap.objs.size X.env = ce at I4 pg pt pe ⊢
  have cL : ce.locals = s3.heap.objs.size := by subst hce; rfl
  generalize hH3 : upd H2 D (SetK X.prog X.w D (fun _ => false) 0) = H3 at I3 I4 pg pt pe w0 nfp f3
  generalize hs4 : ({ s3 with heap := pushCells (s3.heap.push { cls := .type "dict", data := .dict #[] }) scope.names } : Shared) = s4 at I4 ⊢
  have st4 : tn 0 s4.heap := T.keep _ _ _ st3 fun b _ o e => by rw [← hs4]; exact pushCells_keeps _ _ _ _ (Heap.get?_push_of_some _ e)
  have far : ∀ {σ' : L2.St} {H' : Hp} {s' : Shared}, Inv (X.blk s3 H3 scope ce fp) [] σ' H' s' → (∀ b ∈ fp, H' b = none) → ∀ b ∈ fp, FpOk (X.blk s3 H3 scope ce fp) [] H' b := fun {σ' H' s'} I' hn b hb =>
    ⟨hn b hb, (I'.ok.exf b hb).1, I'.ok.exfs b hb, .inl hb, fun x c e => (I'.ok.exf b hb).2 x c e, fun p hp => absurd (show p ∈ ([] : List (Addr × Obj)) ++ [] from hp) (by simp)⟩
  have loop : codeAny (model X.prog X.w) X.A (.compLoop (.SetComp elt [⟨tg, iter, ifs, 0⟩] scope pos) 0 (.ref it) (.ref D) ce) (compPost (model X.prog X.w) X.A X.xe none (EP X pins σ Q) (.ref D) s3.heap.objs.size) s4 := by
    refine PpSet.compLoopS_any (fun n s' => ∃ i H', Inv (X.blk s3 H3 scope ce fp) [] (wipe σ (own.map (·.2))) H' s' ∧ tn i s'.heap ∧ (∀ b ∈ fp, H' b = none) ∧ W i n H') ?_ m0 ⟨0, H3, I4, st4, nfp, w0⟩
    rintro n s5 ⟨i, H5, I5, st5, n5, w5⟩
    rcases turn i n H5 w5 with ⟨stop, qq⟩ | ⟨go, Nx, hNx, step⟩
    · refine thnF (T.done (X.blk s3 H3 scope ce fp) rfl rfl rfl hc i [] s5 _ H5 (fun _ _ => False) I5 (far I5 n5) st5 stop) fun r s6 ⟨hr, I6⟩ => ?_
      subst hr
      have I7 : Inv X pins σ H5 s6 := I3.call' (ch := fp) I6.os I6.base I6.hok I6.bare fun b hb => ⟨(f3 b hb).1.2.2.2.1, (f3 b hb).1.2.1, (f3 b hb).1.2.2.2.2.1, (f3 b hb).1.2.2.2.2.2⟩
      have nC : H5 s3.heap.objs.size = none := cL ▸ (show H5 ce.locals = none from I6.free)
      obtain ⟨m, hn, _⟩ := I6.loc
      have hn : s6.heap.Ns ce.locals m := hn
      rw [cL] at hn
      refine ⟨m, hn, fun h'' sb => ?_⟩
      obtain ⟨f0, f1, f2, f3, f4, f5⟩ := I3.fpOk (Nat.le_refl _) nC
      exact ⟨.ref D, H5, I7.turned (t' := s6.toks) (fun b o hb e => (sb.2 b hb).trans e) f0 f1 f3 f4 f5, rfl, qq⟩
    · refine thnF (T.item (X.blk s3 H3 scope ce fp) rfl rfl rfl hc i [] s5 _ H5 (fun _ _ => False) I5 (far I5 n5) st5 go) fun r s6 ⟨u, hr, h6⟩ => ?_
      subst hr
      refine thnF h6 fun _ s7 ⟨x, H7, I7, r7, y7, st7, n7⟩ => ?_
      have I7' := I7.pinned (far I7 n7) (T.obj _ _ st7)
      refine thnF (pg.run _ s7 _ H7 x u _ I7' r7 (step x H7 y7)) fun _ s8 ⟨σ8, H8, I8, hw8, q8⟩ => thnF (pt.run _ s8 σ8 H8 _ I8 q8) fun b s9 ⟨H9, I9, q9⟩ => ?_
      have fin : ∀ {s' : Shared} {H' : Hp}, Inv (X.blk s3 H3 scope ce fp) ([] ++ pinsAt fp s7.heap) σ8 H' s' → Nx H' → ∃ m, m < n ∧ ∃ i H', Inv (X.blk s3 H3 scope ce fp) [] (wipe σ (own.map (·.2))) H' s' ∧ tn i s'.heap ∧ (∀ b ∈ fp, H' b = none) ∧ W i m H' := fun {s' H'} I' nx => by
        obtain ⟨m', hm, w'⟩ := hNx H' nx
        have there : ∀ b ∈ fp, ∀ o, s7.heap.get? b = some o → s'.heap.get? b = some o ∧ H' b = none := fun b hb o e =>
          let z := I'.pin (b, o) (List.mem_append_right _ (List.mem_append_right _ (mem_pinsAt hb e)))
          ⟨z.1, z.2.1⟩
        refine ⟨m', hm, i + 1, H', (I'.unpinned (pins := [])).weak (by rw [← hw8, wipe_length]) (fun j v e => ?_), T.keep _ _ _ st7 fun b hb o e => (there b hb o e).1, fun b hb => ?_, w'⟩
        · rw [← hw8] at e
          exact (wipe_some e).1
        · obtain ⟨o, e, _⟩ := T.obj _ _ st7 b hb
          exact (there b hb o e).2
      cases b with
      | false =>
        simp only [Bool.false_eq_true, if_false] at q9 ⊢
        exact fin I9 q9
      | true =>
        simp only [if_true] at q9 ⊢
        refine thnF (pe.run _ s9 σ8 H9 _ I9 q9) fun z s10 ⟨yv, H10, I10, r10, k, S0, n0, ey, hD10, hz10, nx⟩ => ?_
        subst ey
        exact addK_ok (X := X.blk s3 H3 scope ce fp) I10 hD10 r10 hz10 fun s11 I11 => fin I11 nx
  exact PpSet.codeAny_compStart_set loop (T.self X.A 0 _ _ _ st4 loop)
end
section
variable {X : Cx} {g : Sg} {Wx : WX} {tg iter elt : Expr} {ifs : List Expr} {pos p : Pos}
theorem setK_ne {P : Program} {w : World} {a : Addr} {S : Key → Bool} {n : Nat} {H : Hp} (e : H a = some (SetK P w a S n)) : (∀ vs, ¬ Rd H a (.tup vs)) ∧ ∀ o u, H a ≠ some (.frz o u) := by
  refine ⟨fun vs h => ?_, fun o u h => ?_⟩
  · rcases h with h | ⟨o, h⟩ <;> · rw [e] at h; injection h with h; unfold SetK at h; cases h
  · rw [e] at h; injection h with h; unfold SetK at h; cases h
def rLenK (P : Program) (w : World) : List V → Hp → VK → Prop := fun xs H Q => ∃ (a : Addr) (S : Key → Bool) (n : Nat), xs = [.ref a] ∧ H a = some (SetK P w a S n) ∧ Q (.int n) H
theorem cr_lenK : CallR X (.builtin "len") (rLenK X.prog X.w) := by
  intro pins s σ H xs us Q I r h
  obtain ⟨a, S, n, rfl, ha, q⟩ := h
  cases r with
  | cons r1 r2 =>
    cases r2
    cases r1
    obtain ⟨o, es, ep, t, ho, hex, hd, _, _, hb, hf, hn⟩ := setK_get I ha
    have : scanBound = 4096 := rfl
    exact call_len_set ho hex hd hf (by omega) ⟨.int n, H, I.tok _, ⟨_, by rw [hn]⟩, q⟩
theorem tSk_ok {P : Program} {w : World} {f : FI} {is vs : List Nat} {bt : D → En → Option En} {ct : FB} {fe : FE} (hs : ∀ i ∈ is, i ∈ vs) {σ : L2.St} {H : Hp} {Q : VK} (h : tE g Wx (compK vs bt ct fe f) σ H Q) :
    tSk P w (tI g Wx f) (tB1 g is bt) (tT g noX ct) (tE g noX fe) vs σ H fun x H1 => rLenK P w [x] H1 Q := by
  obtain ⟨W, st, en, hE, S, p⟩ := h
  refine tG_step (k := fun items s => if items.length < 4000 then (compF vs bt ct (keyF fe) items en s).bind fun ys s => liftO (lenKF ys s) else .bad) hE S p fun items s W1 J H1 le hE1 S1 G p1 => ?_
  by_cases hz : items.length < 4000
  case neg => rw [if_neg hz] at p1; exact False.elim p1
  rw [if_pos hz] at p1
  intro D hD
  have nP := S1.noPin hD
  have sB : scanBound = 4096 := rfl
  refine ⟨fun i m H => ∃ Wq st acc ks, i + m = items.length ∧ acc.length ≤ i ∧ keysOf acc = some ks ∧ W1.Le Wq ∧ Sim g Wq st H ∧ Wq.pin D (SetK P w D (OfL (unlike [] ks)) (unlike [] ks).length) ∧
      Post g Wx Rep σ Q W1 ((compF vs bt ct (keyF fe) (items.drop i) en st).bind fun ys s => liftO (lenKF (acc ++ ys) s)),
    ⟨items.length, W1.addP D (SetK P w D (fun _ => false) 0), s, [], [], by omega, by simp, rfl, W1.addP_le _ _, (S1.fresh hD).addP upd_same (S1.freeOf hD) ⟨trivial, S1.noLi hD⟩, .inr ⟨rfl, by rw [unlike, ofL_nil]; rfl⟩, by simpa using p1⟩, fun i m H ⟨Wq, st, acc, ks, hm, ha, hk, l, S, hpin, p⟩ => ?_⟩
  have hE' := hE1.mono l
  by_cases hi : i < items.length
  · refine .inr ⟨G.go i Wq st H hi l S, fun H' => ∃ Wq st acc ks, acc.length ≤ i + 1 ∧ keysOf acc = some ks ∧ W1.Le Wq ∧ Sim g Wq st H' ∧ Wq.pin D (SetK P w D (OfL (unlike [] ks)) (unlike [] ks).length) ∧
      Post g Wx Rep σ Q W1 ((compF vs bt ct (keyF fe) (items.drop (i + 1)) en st).bind fun ys s => liftO (lenKF (acc ++ ys) s)),
      fun H' ⟨Wq', st', acc', ks', h1, h2, h3, h4, h5, h6⟩ => ⟨m - 1, by omega, Wq', st', acc', ks', by omega, h1, h2, h3, h4, h5, h6⟩, fun x H' hy => ?_⟩
    rw [drop_cons hi] at p
    obtain ⟨W2, l2, S2, r2⟩ := G.yl i _ Wq st H x H' (List.getElem?_eq_getElem hi) l S hy
    refine ⟨W2, st, wipeE en vs, _, (hE'.mono l2).wipe vs, S2, r2, ?_⟩
    simp only [compF] at p
    cases q : bt items[i] (wipeE en vs) with
    | none => simp only [q, Res.bind_bad] at p; exact False.elim p
    | some en' =>
      simp only [q] at p
      intro σ2 hE2 hf
      refine ⟨wipe_fix hs hf, W2, st, en', hE2, S2, ?_⟩
      cases qc : ct en' st with
      | exn x s => simp only [qc, Res.nox, Res.bind_bad] at p; exact False.elim p
      | bad => simp only [qc, Res.nox, Res.bind_bad] at p; exact False.elim p
      | ok t s3 =>
        simp only [qc, Res.nox, Res.bind_ok] at p
        intro W3 b H3 l3 S3 rb
        cases rb
        have lw : W1.Le W3 := l.trans (l2.trans l3)
        cases t with
        | false =>
          refine iteF ⟨W3, s3, acc, ks, by omega, hk, lw, S3, l3.pin _ _ (l2.pin _ _ hpin), ?_⟩
          simpa using p
        | true =>
          refine iteT ⟨W3, s3, en', hE2.mono l3, S3, ?_⟩
          simp only [if_true, keyF] at p
          cases qe : fe en' s3 with
          | exn x s => simp only [qe, Res.nox, Res.bind_exn, Res.bind_bad] at p; exact False.elim p
          | bad => simp only [qe, Res.nox, Res.bind_bad] at p; exact False.elim p
          | ok y s4 =>
            cases qk : keyD y with
            | none => simp only [qe, qk, Res.nox, Res.bind_ok, Res.bind_bad] at p; exact False.elim p
            | some k =>
              simp only [qe, qk, Res.nox, Res.bind_ok, bind_assoc] at p
              intro W4 v H4 l4 S4 rv
              have pin4 := l4.pin _ _ (l3.pin _ _ (l2.pin _ _ hpin))
              have e4 := (S4.pin _ _ pin4).1
              have hl : (unlike [] ks).length ≤ i := by
                have h1 := len_unlike ks []
                have h2 := keysOf_len hk
                simp only [List.length_nil] at h1
                omega
              refine ⟨k, OfL (unlike [] ks), (unlike [] ks).length, key_rep rv qk, e4, by omega, ?_⟩
              rw [ofL_step, n_step, ← unlike_one]
              have S5 := S4.setP (u := SetK P w D (OfL (unlike [] (ks ++ [k]))) (unlike [] (ks ++ [k])).length) pin4 (setK_ne e4).1 (setK_ne e4).2
              have S6 := S5.addP (p := D) upd_same (S4.pin _ _ pin4).2.1 ⟨trivial, (S4.pin _ _ pin4).2.2.2⟩
              refine ⟨_, s4, acc ++ [y], ks ++ [k], by simp; omega, keysOf_one hk qk, (LB.Wd.noP_le (lw.trans l4) nP).trans (LB.Wd.addP_le _ _ _), S6, .inr ⟨rfl, rfl⟩, ?_⟩
              simpa [List.append_assoc] using p
  · have e : i = items.length := by omega
    subst e
    refine .inl ⟨G.stop Wq st H l S, D, _, _, rfl, (S.pin _ _ hpin).1, ?_⟩
    rw [List.drop_length] at p
    simp only [compF, Res.bind_ok, List.append_nil, lenKF, hk, Option.bind_some] at p
    rw [if_pos (by rw [keysOf_len hk]; omega)] at p
    exact p (Wq.noP D) _ H (LB.Wd.noP_le l nP) S.noP (.int _)
theorem se_lenC {scope : Scope} {own : List (Str × Nat)} {f : FI} {is : List Nat} {bt : D → En → Option En} {ct : FB} {fe : FE} {p2 : Pos} (hgl : Gl X "len") (hm : X.mg "len" = none) (hc : X.calm = true) (hN : X.N.Nodup) (hi : PI X tg iter (tI g Wx f)) (ok : BlkOk X.N X.env.scope scope own) (hsub : ∀ i ∈ is, i ∈ own.map (·.2))
    (hg : ∀ (s : Shared) (H : Hp) (C : Addr) (cl : List (Str × Addr)) (fp : List Addr), PG (X.blk s H scope (compEnvC scope cl C X.env) fp) tg (tB1 g is bt)) (ht : ∀ (s : Shared) (H : Hp) (C : Addr) (cl : List (Str × Addr)) (fp : List Addr), PTs (X.blk s H scope (compEnvC scope cl C X.env) fp) ifs (tT g noX ct))
    (he : ∀ (s : Shared) (H : Hp) (C : Addr) (cl : List (Str × Addr)) (fp : List Addr), PE (X.blk s H scope (compEnvC scope cl C X.env) fp) elt (tE g noX fe)) (hs : ∀ x, foldedSetIterable iter X.env x = pure x) :
    PE X (.Call (.Name "len" p) [.SetComp elt [⟨tg, iter, ifs, 0⟩] scope p2] [] pos) (tE g Wx (compK (own.map (·.2)) bt ct fe f)) := by
  refine (pe_callB cr_lenK hgl hm (by decide +kernel) (pa_cons (pe_sk hc hN hi ok hg ht he hs) pa_nil rfl) (by decide) (by decide) rfl rfl).lb fun σ H Q h => ?_
  exact tSk_ok hsub h
end
/-! ### set(xs) -/
theorem vals_key : ∀ {ks : List Key} {us : List Value} {i : Nat} {v : Value}, Vals (ks.map kV) us → us[i]? = some v → ∃ k, ks[i]? = some k ∧ RelV (kV k) v
  | [], _, _, _, .nil, e => by simp at e
  | k :: ks, _, 0, _, .cons r _, e => by simp at e; subst e; exact ⟨k, rfl, r⟩
  | k :: ks, _, i + 1, _, .cons _ t, e => by
    obtain ⟨j, h1, h2⟩ := vals_key (i := i) t (by simpa using e)
    exact ⟨j, by simpa using h1, h2⟩
section
variable {P : Program} {w : World} {A : Around} {R : Result → Shared → Prop} {I : Addr} {fp wr : List Addr} {G : Array GenState → Array GenState → Prop} {n : Nat} {Pv : Nat → Value → Prop} {St : Nat → Shared → Prop}
abbrev Un (P : Program) (w : World) (h : Heap) (a : Addr) (ks : List Key) : Prop := h.SetOf (mixKind P w) a (OfL (unlike [] ks)) (unlike [] ks).length
theorem Un.keep {h h' : Heap} {a : Addr} {ks : List Key} (u : Un P w h a ks) (k : ∀ o, h.get? a = some o → h'.get? a = some o) : Un P w h' a ks := setOf_at u k
theorem loopK (W : WalksS P w A.in1 I fp wr G n Pv St) (a : Addr) (ha : a ∉ fp) (ks : List Key) (hn : ks.length = n) (hb : n + 1 < scanBound) (hv : ∀ i v, Pv i v → ∃ k, ks[i]? = some k ∧ RelV (kV k) v) : ∀ (j i : Nat) (s : Shared), i + j = n → St i s → Un P w s.heap a (ks.take i) →
      (∀ s', Moved (a :: wr) G s s' → Un P w s'.heap a ks → R (.ok (.ret .none)) s') → codeAny (model P w) A (.builtin "set.update.loop" ⟨[.ref a, .ref I], []⟩) R s
  | 0, i, s, e, st, u, fin => by
    have hw : a ∉ wr := fun z => ha (W.sub _ z)
    refine codeAny_builtin PyProof.Rows.F.entry_set_update_loop ?_
    rw [Around.under_plainId PyProof.Rows.F.plain_set_update_loop _]
    have e' : i = n := by omega
    subst e'
    refine wpAny_bind (m := pyNext (.ref I)) (W.done s _ _ st fun s' hm => wpAny_pure (fin s' (hm.mono fun b z => List.mem_cons_of_mem _ z) ?_))
    have u' := u.keep (h' := s'.heap) fun o q => hm.heap a o hw q
    rw [List.take_of_length_le (by omega)] at u'
    exact u'
  | j + 1, i, s, e, st, u, fin => by
    have hw : a ∉ wr := fun z => ha (W.sub _ z)
    have lt : i < n := by omega
    refine codeAny_builtin PyProof.Rows.F.entry_set_update_loop ?_
    rw [Around.under_plainId PyProof.Rows.F.plain_set_update_loop _]
    refine wpAny_bind (m := pyNext (.ref I)) (W.item i s _ _ lt st fun v s' pv st' hm => ?_)
    obtain ⟨k, hk, rk⟩ := hv i v pv
    have u' : Un P w s'.heap a (ks.take i) := u.keep fun o q => hm.heap a o hw q
    show wpAny _ A.in1 (holding [v] (setAdd a v) >>= _) _ _ s'
    refine wpAny_bind (wpAny_holding ?_)
    unfold setAdd
    refine wpAny_holding (wpAny_bind ((mixKind P w).pyHash (k := k) (kV_is rk) ?_))
    have few : (unlike [] (ks.take i)).length + 1 < scanBound := by
      have h1 := len_unlike (ks.take i) []
      have h2 := List.length_take_le i ks
      simp only [List.length_nil] at h1
      omega
    refine wpAny_setAddHashed_of (knd := mixKind P w) (s := { s' with toks := s'.toks + 1 }) (kV_is rk) (key_scan rk) u' few fun h' sb u2 => ?_
    rw [ofL_step, n_step, ← unlike_next hk] at u2
    refine wpAny_pure ⟨plainId_quiet PyProof.Rows.F.plain_set_update_loop _, loopK W a ha ks hn hb hv j (i + 1) _ (by omega) (W.frame _ s' _ _ st' (Nat.le_succ _) fun b hb o q => ?_) u2 fun s'' hm'' u3 => ?_⟩
    · rw [sb.2 b (fun z : b = a => ha (by rw [← z]; exact hb))]; exact q
    · refine fin s'' (Moved.trans W.gtrans ((hm.mono fun b z => List.mem_cons_of_mem _ z).then_heap (Nat.le_succ _) fun b o hb q => ?_) hm'') u3
      rw [sb.2 b (fun z : b = a => hb (by rw [z]; exact List.mem_cons_self))]; exact q
end
section
variable {P : Program} {w : World} {A : Around} {E : Value → Shared → Prop} {s : Shared}
theorem call_setKL {l : Addr} {its : Array Value} {ks : List Key} {Q : Value → Shared → Prop} (hh : A.handled = none) (hl : s.heap.IsList l its) (hi : Vals (ks.map kV) its.toList) (hb : ks.length + 1 < scanBound)
    (fin : ∀ (h' : Heap) (tk : Nat), Un P w h' s.heap.objs.size ks → (∀ b o, b < s.heap.objs.size → s.heap.get? b = some o → h'.get? b = some o) → Q (.ref s.heap.objs.size) { s with heap := h', toks := tk }) : wpAny (model P w) A (call (.type "set") [.ref l]) Q E s := by
  have sz : its.size = ks.length := by rw [← Array.length_toList, ← hi.length, List.length_map]
  obtain ⟨c, tl, m1⟩ := PySem.F.called_set.mro
  have m2 := PySem.F.called_set.made
  have m3 := PySem.F.called_set.sub
  refine wpAny_call (codeAny_of_tree (show wpAny _ _ (callAny (.type "set") _) _ _ _ from wpAny_pure ⟨Code.quiet_builtin _ (by decide +kernel), codeAny_builtin PySem.F.entry_type_call ?_⟩))
  rw [Around.under_plain (weight_type_call_type "set" [.ref l] []) rfl]
  have m4 := PySem.F.called_set.notType
  have m5 := PySem.F.called_set.canCreate
  have m6 := PySem.F.typeCall_set_1 (.ref l)
  repeat (any_goals (first | assumption | wp_step))
  refine codeAny_mono (code_set_new_1 (.ref l) (E := E) (Q₁ := fun ob t => ∃ led : Bool, ob = .ref s.heap.objs.size ∧ t = { s with heap := s.heap.push { cls := .type "set", dict := none, data := .set #[] 0 (.fresh 0 0 led) } }) fun led => ⟨led, rfl, rfl⟩) fun r t hr => ?_
  cases r with
  | error e => exact hr
  | ok fl =>
    cases fl with
    | ret ob =>
      obtain ⟨led, rfl, rfl⟩ := hr
      have g0 : (s.heap.push { cls := .type "set", dict := none, data := .set #[] 0 (.fresh 0 0 led) }).get? s.heap.objs.size = some { cls := .type "set", dict := none, data := .set #[] 0 (.fresh 0 0 led) } := Heap.get?_push_size _ rfl
      have ty : Shared.TypeIs { s with heap := s.heap.push { cls := .type "set", dict := none, data := .set #[] 0 (.fresh 0 0 led) } } (.ref s.heap.objs.size) "set" := ⟨_, g0, rfl⟩
      have i1 := PySem.F.called_set.init.lookup
      have i2 := PySem.F.called_set.init.bind (.ref s.heap.objs.size)
      repeat (any_goals (first | assumption | wp_step))
      refine codeAny_mono (codeAny_call_builtin (R := wants (fun r t => r = .none ∧ ∃ h' tk, t = { s with heap := h', toks := tk } ∧ Un P w h' s.heap.objs.size ks ∧ (∀ b o, b < s.heap.objs.size → s.heap.get? b = some o → h'.get? b = some o)) E) PySem.F.called_set.init.plain PySem.F.entry_set_init (check_set_init_1 ty ?_)) fun r2 t2 hr2 => ?_
      · obtain ⟨⟨oc, od, oa, os⟩, hol, hcl, nl, hdl⟩ := hl
        simp only at hcl hdl
        subst hcl; subst hdl
        have hol' : (s.heap.push { cls := .type "set", dict := none, data := .set #[] 0 (.fresh 0 0 led) }).get? l = some { cls := .type "list", dict := od, data := .seq its nl, slots := os } := Heap.get?_push_of_some _ hol
        have n1 := PySem.F.sub_list_set
        have n2 := PySem.F.sub_list_frozenset
        have n3 : (Value.type "list" == Value.type "dict") = false := by decide
        have hl1 : (s.heap.push { cls := .type "set", dict := none, data := .set #[] 0 (.fresh 0 0 led) }).IsList l its := ⟨_, hol', rfl, nl, rfl⟩
        unfold Builtin.«set.__init__» noKeywords Builtin.Frozenset.updateFrom
        generalize hit : pyIter = PI
        wp_walk
        subst hit
        refine wpAny_pyIter_list hl1 ?_; refine (wpAny_bind (wpAny_runValue ?_))
        have below : l < s.heap.objs.size := Heap.lt_size hol
        have h3 : A.in1.in1.in1.handled = none := by simp [hh]
        have ne1 : l ≠ (s.heap.push { cls := .type "set", dict := none, data := .set #[] 0 (.fresh 0 0 led) }).objs.size := by rw [Heap.size_push]; exact Nat.ne_of_lt (Nat.lt_succ_of_lt below)
        have nin : s.heap.objs.size ∉ [(s.heap.push { cls := .type "set", dict := none, data := .set #[] 0 (.fresh 0 0 led) }).objs.size, l] := by
          rw [Heap.size_push]
          intro z
          rcases List.mem_cons.mp z with z | z
          · omega
          · exact Nat.ne_of_gt below (List.mem_singleton.mp z)
        refine loopK ((Walks.list h3 _ l ne1 its).toS) s.heap.objs.size nin ks sz.symm (by rw [sz]; exact hb) (fun i v hv => ?_) its.size 0 _ (by omega) ⟨⟨_, Heap.get?_push_size _ rfl, rfl, rfl⟩, (hl1.push _)⟩ ?_ fun s' hm u => ?_
        · have hv' : its.toList[i]? = some v := by rw [Array.getElem?_toList]; exact hv
          exact vals_key hi hv'
        · show Un P w _ s.heap.objs.size []
          unfold Un
          rw [unlike, ofL_nil]
          exact ⟨_, #[], 0, _, Heap.get?_push_of_some _ g0, ⟨rfl, rfl, rfl⟩, rfl, (fun e he => by simp at he), (fun k => by simp), (by decide), (by rfl), rfl⟩
        · obtain ⟨h', g', d', tk', os'⟩ := s'
          have e1 : g' = s.gens := hm.gens
          have e2 : d' = s.drawn := hm.drawn
          have e3 : os' = s.os := hm.os
          subst e1; subst e2; subst e3
          show wpAny _ _ _ _ _ _
          refine wpAny_pure (show wpAny _ _ (ret Value.none) _ _ _ from wpAny_pure ⟨rfl, h', tk', rfl, u, fun b o lt q => ?_⟩)
          refine hm.heap b o (fun z => ?_) (Heap.get?_push_of_some _ (Heap.get?_push_of_some _ q))
          rcases List.mem_cons.mp z with z | z
          · exact absurd z (Nat.ne_of_lt lt)
          · exact absurd (List.mem_singleton.mp z) (by rw [Heap.size_push]; exact Nat.ne_of_lt (Nat.lt_succ_of_lt lt))
      · cases r2 with
        | error e => exact hr2
        | ok f2 =>
          cases f2 with
          | ret r =>
            obtain ⟨rfl, h', tk, rfl, u, hk⟩ := hr2
            repeat (any_goals (first | assumption | wp_step))
            exact fin _ _ u hk
          | _ => exact hr2.elim
    | _ => exact hr.elim
end
section
variable {P : Program} {w : World} {A : Around} {E : Value → Shared → Prop} {s : Shared}
theorem call_setKT {l : Addr} {its : Array Value} {ks : List Key} {Q : Value → Shared → Prop} (hh : A.handled = none) (hl : s.heap.IsTuple l its) (hi : Vals (ks.map kV) its.toList) (hb : ks.length + 1 < scanBound)
    (fin : ∀ (h' : Heap) (tk : Nat), Un P w h' s.heap.objs.size ks → (∀ b o, b < s.heap.objs.size → s.heap.get? b = some o → h'.get? b = some o) → Q (.ref s.heap.objs.size) { s with heap := h', toks := tk }) : wpAny (model P w) A (call (.type "set") [.ref l]) Q E s := by
  have sz : its.size = ks.length := by rw [← Array.length_toList, ← hi.length, List.length_map]
  obtain ⟨c, tl, m1⟩ := PySem.F.called_set.mro
  have m2 := PySem.F.called_set.made
  have m3 := PySem.F.called_set.sub
  refine wpAny_call (codeAny_of_tree (show wpAny _ _ (callAny (.type "set") _) _ _ _ from wpAny_pure ⟨Code.quiet_builtin _ (by decide +kernel), codeAny_builtin PySem.F.entry_type_call ?_⟩))
  rw [Around.under_plain (weight_type_call_type "set" [.ref l] []) rfl]
  have m4 := PySem.F.called_set.notType
  have m5 := PySem.F.called_set.canCreate
  have m6 := PySem.F.typeCall_set_1 (.ref l)
  repeat (any_goals (first | assumption | wp_step))
  refine codeAny_mono (code_set_new_1 (.ref l) (E := E) (Q₁ := fun ob t => ∃ led : Bool, ob = .ref s.heap.objs.size ∧ t = { s with heap := s.heap.push { cls := .type "set", dict := none, data := .set #[] 0 (.fresh 0 0 led) } }) fun led => ⟨led, rfl, rfl⟩) fun r t hr => ?_
  cases r with
  | error e => exact hr
  | ok fl =>
    cases fl with
    | ret ob =>
      obtain ⟨led, rfl, rfl⟩ := hr
      have g0 : (s.heap.push { cls := .type "set", dict := none, data := .set #[] 0 (.fresh 0 0 led) }).get? s.heap.objs.size = some { cls := .type "set", dict := none, data := .set #[] 0 (.fresh 0 0 led) } := Heap.get?_push_size _ rfl
      have ty : Shared.TypeIs { s with heap := s.heap.push { cls := .type "set", dict := none, data := .set #[] 0 (.fresh 0 0 led) } } (.ref s.heap.objs.size) "set" := ⟨_, g0, rfl⟩
      have i1 := PySem.F.called_set.init.lookup
      have i2 := PySem.F.called_set.init.bind (.ref s.heap.objs.size)
      repeat (any_goals (first | assumption | wp_step))
      refine codeAny_mono (codeAny_call_builtin (R := wants (fun r t => r = .none ∧ ∃ h' tk, t = { s with heap := h', toks := tk } ∧ Un P w h' s.heap.objs.size ks ∧ (∀ b o, b < s.heap.objs.size → s.heap.get? b = some o → h'.get? b = some o)) E) PySem.F.called_set.init.plain PySem.F.entry_set_init (check_set_init_1 ty ?_)) fun r2 t2 hr2 => ?_
      · obtain ⟨⟨oc, od, oa, os⟩, hol, hcl, nl, hdl⟩ := hl
        simp only at hcl hdl
        subst hcl; subst hdl
        have hol' : (s.heap.push { cls := .type "set", dict := none, data := .set #[] 0 (.fresh 0 0 led) }).get? l = some { cls := .type "tuple", dict := od, data := .seq its nl, slots := os } := Heap.get?_push_of_some _ hol
        have n1 := PySem.F.sub_tuple_set
        have n2 := PySem.F.sub_tuple_frozenset
        have n3 : (Value.type "tuple" == Value.type "dict") = false := by decide
        have hl1 : (s.heap.push { cls := .type "set", dict := none, data := .set #[] 0 (.fresh 0 0 led) }).IsTuple l its := ⟨_, hol', rfl, nl, rfl⟩
        unfold Builtin.«set.__init__» noKeywords Builtin.Frozenset.updateFrom
        generalize hit : pyIter = PI
        wp_walk
        subst hit
        refine wpAny_pyIter_tuple hl1 ?_; refine (wpAny_bind (wpAny_runValue ?_))
        have below : l < s.heap.objs.size := Heap.lt_size hol
        have h3 : A.in1.in1.in1.handled = none := by simp [hh]
        have ne1 : l ≠ (s.heap.push { cls := .type "set", dict := none, data := .set #[] 0 (.fresh 0 0 led) }).objs.size := by rw [Heap.size_push]; exact Nat.ne_of_lt (Nat.lt_succ_of_lt below)
        have nin : s.heap.objs.size ∉ [(s.heap.push { cls := .type "set", dict := none, data := .set #[] 0 (.fresh 0 0 led) }).objs.size, l] := by
          rw [Heap.size_push]
          intro z
          rcases List.mem_cons.mp z with z | z
          · omega
          · exact Nat.ne_of_gt below (List.mem_singleton.mp z)
        refine loopK ((Walks.tuple h3 _ l ne1 its).toS) s.heap.objs.size nin ks sz.symm (by rw [sz]; exact hb) (fun i v hv => ?_) its.size 0 _ (by omega) ⟨⟨_, Heap.get?_push_size _ rfl, rfl, rfl⟩, (hl1.push _)⟩ ?_ fun s' hm u => ?_
        · have hv' : its.toList[i]? = some v := by rw [Array.getElem?_toList]; exact hv
          exact vals_key hi hv'
        · show Un P w _ s.heap.objs.size []
          unfold Un
          rw [unlike, ofL_nil]
          exact ⟨_, #[], 0, _, Heap.get?_push_of_some _ g0, ⟨rfl, rfl, rfl⟩, rfl, (fun e he => by simp at he), (fun k => by simp), (by decide), (by rfl), rfl⟩
        · obtain ⟨h', g', d', tk', os'⟩ := s'
          have e1 : g' = s.gens := hm.gens
          have e2 : d' = s.drawn := hm.drawn
          have e3 : os' = s.os := hm.os
          subst e1; subst e2; subst e3
          show wpAny _ _ _ _ _ _
          refine wpAny_pure (show wpAny _ _ (ret Value.none) _ _ _ from wpAny_pure ⟨rfl, h', tk', rfl, u, fun b o lt q => ?_⟩)
          refine hm.heap b o (fun z => ?_) (Heap.get?_push_of_some _ (Heap.get?_push_of_some _ q))
          rcases List.mem_cons.mp z with z | z
          · exact absurd z (Nat.ne_of_lt lt)
          · exact absurd (List.mem_singleton.mp z) (by rw [Heap.size_push]; exact Nat.ne_of_lt (Nat.lt_succ_of_lt lt))
      · cases r2 with
        | error e => exact hr2
        | ok f2 =>
          cases f2 with
          | ret r =>
            obtain ⟨rfl, h', tk, rfl, u, hk⟩ := hr2
            repeat (any_goals (first | assumption | wp_step))
            exact fin _ _ u hk
          | _ => exact hr2.elim
    | _ => exact hr.elim
end
section
variable {X : Cx} {g : Sg} {Wx : WX} {pos p : Pos}
theorem se_lenS {a : Expr} {fa : FE} {p2 q2 : Pos} (hK : X.K = g.K) (hc : X.calm = true) (hg : Gl X "len") (hm : X.mg "len" = none) (hg2 : Gl X "set") (hm2 : X.mg "set" = none) (ha : PE X a (tE g Wx fa)) (hs : noStar a = true) :
    PE X (.Call (.Name "len" p) [.Call (.Name "set" p2) [a] [] q2] [] pos) (tE g Wx fun en st => (fa en st).bind fun d s => liftO (lenSF d s)) := by
  refine ⟨fun pins s σ H Q I ⟨W, st, en, hE, S, post⟩ => ?_⟩
  refine Call_ (ld_blt I hg hm boot_len (PyProof.Rows.callWith_builtin1 (PyProof.Rows.args_cons (Call_ (ld_blt I hg2 hm2 boot_set ?_)) rfl) rfl rfl))
  have na := star_cons (env := X.env) (es := []) hs
  refine PyProof.Rows.callWith_type1 (PyProof.Rows.args_cons (thn (ha.run pins s σ H (fun x H2 => ∃ W2 st2 d, Sim g W2 st2 H2 ∧ Rep W2 x d ∧ PostV g Q W2 (lenSF d st2)) I ⟨W, st, en, hE, S, ?_⟩) fun v s1 ⟨x, H1, I1, r1, W2, st2, d, S2, rx, q1⟩ => PyProof.Rows.args_nil ?_) na) na rfl
  · cases e : fa en st with
    | ok d s =>
      simp only [e, Res.bind_ok] at post ⊢
      exact fun W' b H' le S' r => ⟨W', s, d, S', r, post_lift (post.mono le)⟩
    | exn x s => simp only [e, Res.bind_exn] at post ⊢; exact post
    | bad => simp only [e, Res.bind_bad] at post; exact post.elim
  · unfold lenSF at q1
    cases e1 : getL st2 d with
    | none => rw [e1] at q1; exact q1.elim
    | some ds =>
      simp only [e1, Option.bind_some, lenKF] at q1
      cases e2 : keysOf ds with
      | none => rw [e2] at q1; exact q1.elim
      | some ks =>
        simp only [e2, Option.bind_some] at q1
        split at q1
        · rename_i few
          obtain ⟨l, vs, rfl, hl, rs⟩ := getL_ok S2 rx e1
          have ev := keys_reps rs e2
          subst ev
          cases r1
          obtain ⟨its, r, pl, hz⟩ := I1.list (hK ▸ hl)
          refine call_setKL (I1.ok.hd hc) pl.isList (by simpa using r) (by unfold scanBound; omega) fun h' tk u hk => PyProof.Rows.args_nil ?_
          obtain ⟨o, es, ep, t, ho, hex, hd, _, _, hb, hf, hn⟩ := u
          have I2 : Inv X pins σ H1 { s1 with heap := h', toks := tk } := I1.kept fun b o e => hk b o (Heap.lt_size e) e
          have sB : scanBound = 4096 := rfl
          exact call_len_set ho hex hd hf (by omega) ⟨.int _, H1, I2.tok _, ⟨_, by rw [hn]⟩, q1 W2 _ H1 (.refl W2) S2 (.int _)⟩
        · exact q1.elim
end
end LB
end

section
set_option Elab.async false
set_option linter.all false
set_option maxRecDepth 100000
set_option maxHeartbeats 4000000
/-! Methods of lists that are read. -/
namespace LB
open PySem PySem.Spec PyProof.Rows L2
theorem few_ok {X : Cx} {pos : Pos} {l : List Expr} (hs : l.all noStar = true) (hn : l.length < 10) : ((backTo pos (starEach l X.env)).all (fun x => !x.1) && (backToKw pos (keywordEach [] X.env)).all (fun x => x.1.isSome) && decide (l.length + ([] : List Keyword).length + (if ([] : List Keyword).isEmpty then 0 else 1) < 30)) = true := by
  have h1 : (backTo pos (starEach l X.env)).all (fun x => !x.1) = true := by
    have := star_any (pos := pos) (env := X.env) hs
    rw [List.any_eq_false] at this
    rw [List.all_eq_true]
    intro z hz
    simpa using this z hz
  rw [h1]
  simp only [Bool.true_and, Bool.and_eq_true, decide_eq_true_eq]
  refine ⟨rfl, ?_⟩
  simp only [List.length_nil, List.isEmpty_nil, if_true]
  omega
section
variable {X : Cx} {g : Sg} {Wx : WX} {pos ap : Pos} {o : Expr} {e : Expr} {es : List Expr} {fo : FE} {fa : FA}
theorem se_idx (hK : X.K = g.K) (ho : PE X o (tE g Wx fo)) (ha : PA X (e :: es) (tA g Wx fa)) (hs : (e :: es).all noStar = true) (hb : attributeBase o "index" X.env (eval o X.env) = eval o X.env) (hl : (ap.endLine == pos.line) = true) (hn : (e :: es).length < 10) :
    PE X (.Call (.Attribute o "index" ap) (e :: es) [] pos) (tE g Wx fun en st => (fo en st).bind fun d s => if Mt.idx.recv d s then (fa en s).bind fun ds s => liftO (Mt.idx.f d ds s) else .bad) := by
  have hs' := hs
  simp only [List.all_cons, Bool.and_eq_true] at hs'
  refine (pe_bm PySem.F.plainAttrs_list PySem.F.slot_list_index PySem.F.type_list_index mt_index ho ha hb (few_ok hs hn) hl (star_cons hs'.1) (star_any hs'.2)).lb fun σ H Q ⟨W, st, en, hE, S, q⟩ => ?_
  refine tG_step hE S q fun d s W1 x H1 le hE1 S1 r q1 => ?_
  split at q1
  · rename_i hr
    cases h0 : getL s d with
    | none => unfold Mt.recv at hr; simp only [h0] at hr; cases hr
    | some ds0 =>
      obtain ⟨a0, vs0, rfl, hv0, _⟩ := getL_ok S1 r h0
      refine ⟨.inl ⟨rfl, _, hK ▸ hv0⟩, tG_step hE1 S1 q1 fun ds s2 W2 xs H2 le2 hE2 S2 rs q2 => ?_⟩
      cases rs with
      | nil => unfold Mt.f at q2; simp only at q2; split at q2 <;> first | exact q2.elim | (rename_i h; cases h)
      | cons ry rn =>
        cases rn with
        | cons _ _ => unfold Mt.f at q2; simp only at q2; split at q2 <;> first | exact q2.elim | (rename_i h; cases h)
        | nil =>
          rename_i v y
          unfold Mt.f at q2
          simp only at q2
          cases h2 : getL s2 d with
          | none => rw [h2] at q2; exact q2.elim
          | some ds2 =>
            rw [h2] at q2
            simp only at q2
            split at q2
            · rename_i c
              simp only [Bool.and_eq_true] at c
              obtain ⟨a2, vs2, ea, hv2, rv2⟩ := getL_ok S2 (r.mono le2) h2
              cases ea
              cases h3 : ds2.findIdx? (fun z => eqFl z y) with
              | none => rw [h3] at q2; exact q2.elim
              | some j =>
                rw [h3] at q2
                obtain ⟨hj, pj, nj⟩ := List.findIdx?_eq_some_iff_getElem.mp h3
                obtain ⟨z, hz, rz⟩ := rv2.get (List.getElem?_eq_getElem hj)
                have fl : ∀ d ∈ ds2, flatD d = true := List.all_eq_true.mp c.2
                refine ⟨a0, vs2, v, j, z, rfl, rfl, hK ▸ hv2, flat_rep ry c.1, flat_reps rv2 c.2, hz, ?_, fun i z' hi hz' => ?_, ?_⟩
                · rw [eqFl_rep rz ry (fl _ (List.getElem_mem hj)) c.1]; exact pj
                · obtain ⟨d', hd', rd'⟩ := rv2.get' hz'
                  rw [eqFl_rep rd' ry (fl _ (List.mem_of_getElem? hd')) c.1]
                  have hi2 : i < ds2.length := by omega
                  have := nj i hi
                  rw [List.getElem?_eq_getElem hi2] at hd'
                  cases hd'
                  simpa using this
                · exact q2 W2 _ H2 (.refl W2) S2 (.int _)
            · exact q2.elim
  · exact q1.elim
end
end LB
end

section
set_option Elab.async false
set_option linter.all false
set_option maxRecDepth 100000
set_option maxHeartbeats 4000000
/-! Instances of own classes: made, read, stored, their methods called. -/
namespace LB
open PySem PySem.Spec PyProof.Rows L2
def flV : D → V
  | .bl b => .bl b
  | .int i => .int i
  | .str x => .str x
  | _ => .non
def flAll (ds : List D) : Prop := ∀ d ∈ ds, flatD d = true
theorem flV_rep {W : Wd} {d : D} (h : flatD d = true) : Rep W (flV d) d := by
  cases d <;> first | exact .non | exact .bl _ | exact .int _ | exact .str _ | simp [flatD] at h
theorem flVs_rep {W : Wd} : ∀ {ds : List D}, flAll ds → Reps W (ds.map flV) ds
  | [], _ => .nil
  | d :: ds, h => .cons (flV_rep (h d (List.mem_cons_self ..))) (flVs_rep fun e q => h e (List.mem_cons_of_mem _ q))
structure InsC (g : Sg) (c : Nat) (fs : List Str) : Prop where
  ex : ∃ C, g.cv c = .ref C ∧ Cls g.K C ∧ ∀ f ∈ fs, NoAttr g.K C f
def InsOk (g : Sg) (pr : Pr) : Prop := ∀ c fs, pr.atts.lookup c = some fs → InsC g c fs
def IclOk (g : Sg) (mg : Str → Option Value) (pr : Pr) : Prop := ∀ c x, pr.icl.lookup c = some x → ∃ C, g.cv c = .ref C ∧ mg x = some (.ref C) ∧ PySem.W.makesIn g.K C = true ∧ PySem.W.keepIn g.K (.ref C) = true
section
variable {g : Sg} {W : Wd} {st : Sto} {H : Hp}
theorem look_ok : ∀ {ns : List Str} {vs : List V} {ds : List D} {f : Str} {d : D}, Reps W vs ds → (ns.zip ds).lookup f = some d → ∃ v, (ns.zip vs).lookup f = some v ∧ Rep W v d
  | [], _, _, _, _, _, h => by simp at h
  | _ :: _, _, _, _, _, .nil, h => by simp at h
  | n :: ns, _, _, f, d, .cons r t, h => by
    rw [List.zip_cons_cons, List.lookup_cons] at h
    rw [List.zip_cons_cons, List.lookup_cons]
    by_cases e : f == n
    · simp only [e] at h ⊢; cases h; exact ⟨_, rfl, r⟩
    · simp only [e] at h ⊢; exact look_ok t h
theorem look_no {α : Type} : ∀ {ns : List Str} {vs : List α} {m : Str}, ns.contains m = false → (ns.zip vs).lookup m = none
  | [], _, _, _ => rfl
  | _ :: _, [], _, _ => rfl
  | n :: ns, v :: vs, m, h => by
    rw [List.contains_cons, Bool.or_eq_false_iff] at h
    rw [List.zip_cons_cons, List.lookup_cons, h.1]
    exact look_no h.2
theorem putF_ok {f : Str} {y : V} {e : D} (r : Rep W y e) : ∀ {ns : List Str} {vs : List V} {ds : List D}, ns.length = vs.length → Reps W vs ds → ∃ us, putF f y (ns.zip vs) = (putN f ns).zip us ∧ (putN f ns).length = us.length ∧ Reps W us (putV f e ns ds)
  | [], [], _, _, .nil => ⟨[y], rfl, rfl, .cons r .nil⟩
  | [], _ :: _, _, l, _ => by simp at l
  | _ :: _, [], _, l, _ => by simp at l
  | n :: ns, v :: vs, _, l, .cons r1 t => by
    by_cases c : n = f
    · refine ⟨y :: vs, ?_, by simp only [putN, if_pos c]; simpa using l, by simp only [putV, if_pos c]; exact .cons r t⟩
      rw [List.zip_cons_cons, putF, if_pos c, putN, if_pos c]; rfl
    · obtain ⟨us, e1, e2, e3⟩ := putF_ok (f := f) r (by simpa using l) t
      refine ⟨v :: us, ?_, by simp only [putN, if_neg c]; simpa using e2, by simp only [putV, if_neg c]; exact .cons r1 e3⟩
      rw [List.zip_cons_cons, putF, if_neg c, putN, if_neg c, e1]; rfl
/-- an instance that is there -/
theorem ins_at {pr : Pr} (S : Sim g W st H) (io : InsOk g pr) {a : Addr} {n c : Nat} {ns fs : List Str} {ds : List D} (e : W.io n = some a) (h : st.ob n = some (.ins c ns ds)) (hf : pr.atts.lookup c = some fs) :
    ∃ C dx vs, H a = some (.ins C dx (ns.zip vs)) ∧ ns.length = vs.length ∧ Reps W vs ds ∧ W.cv c = .ref C ∧ Cls g.K C ∧ ∀ f ∈ fs, NoAttr g.K C f := by
  obtain ⟨a', e', C, dx, vs, q0, q, l, r⟩ := S.ob n _ h
  rw [e] at e'; cases e'
  obtain ⟨C', h1, h2, h3⟩ := (io c fs hf).ex
  rw [S.cv, h1] at q0
  cases q0
  exact ⟨C, dx, vs, q, l, r, by rw [S.cv]; exact h1, h2, h3⟩
end
section
variable {X : Cx} {g : Sg} {Wx : WX} {pr : Pr} {pos pos' ap : Pos} {o e v : Expr} {es : List Expr} {f m : Str} {fo fv : FE} {fa : FA}
theorem ifldF_ok {W : Wd} {st s : Sto} {H : Hp} {d z : D} {x : V} (S : Sim g W st H) (io : InsOk g pr) (r : Rep W x d) (h : ifldF pr f d st = some (z, s)) : s = st ∧ ∃ a C dx fs v, x = .ref a ∧ H a = some (.ins C dx fs) ∧ Cls g.K C ∧ NoAttr g.K C f ∧ fs.lookup f = some v ∧ Rep W v z ∧ ∃ c, clsAt st d = some c ∧ W.cv c = .ref C := by
  cases d with
  | ref n =>
    simp only [ifldF] at h
    cases q : st.ob n with
    | none => rw [q] at h; cases h
    | some ob =>
      rw [q] at h
      cases ob with
      | ins c ns ds =>
        simp only at h
        cases q2 : pr.atts.lookup c with
        | none => rw [q2] at h; cases h
        | some fs =>
          rw [q2] at h
          simp only at h
          split at h
          · rename_i hc
            cases q3 : (ns.zip ds).lookup f with
            | none => rw [q3] at h; cases h
            | some z' =>
              rw [q3] at h; cases h
              cases r with
              | ref e =>
                obtain ⟨C, dx, vs, h1, l, rs, h0, h2, h3⟩ := ins_at S io e q q2
                obtain ⟨v, h4, h5⟩ := look_ok rs q3
                exact ⟨rfl, _, C, dx, _, v, rfl, h1, h2, h3 f (by simpa using hc), h4, h5, c, by simp only [clsAt, q], h0⟩
          · cases h
      | lst _ => cases h
      | dct _ _ => cases h
  | _ => cases h
theorem putFld_ok {W : Wd} {st s : Sto} {H : Hp} {d z : D} {x y : V} (S : Sim g W st H) (io : InsOk g pr) (r : Rep W x d) (ry : Rep W y z) (h : putFld pr f d z st = some s) :
    ∃ a C dx fs, x = .ref a ∧ H a = some (.ins C dx fs) ∧ Cls g.K C ∧ NoAttr g.K C f ∧ fs.length < 1000 ∧ Sim g W s (upd H a (.ins C dx (putF f y fs))) ∧ ∃ c, clsAt st d = some c ∧ W.cv c = .ref C := by
  cases d with
  | ref n =>
    simp only [putFld] at h
    cases q : st.ob n with
    | none => rw [q] at h; cases h
    | some ob =>
      rw [q] at h
      cases ob with
      | ins c ns ds =>
        simp only at h
        cases q2 : pr.atts.lookup c with
        | none => rw [q2] at h; cases h
        | some fs =>
          rw [q2] at h
          simp only at h
          split at h
          · rename_i hc
            cases h
            rw [Bool.and_eq_true, decide_eq_true_eq] at hc
            cases r with
            | ref e =>
              obtain ⟨C, dx, vs, h1, l, rs, h0, h2, h3⟩ := ins_at S io e q q2
              obtain ⟨us, e1, e2, e3⟩ := putF_ok (f := f) ry l rs
              refine ⟨_, C, dx, _, rfl, h1, h2, h3 f (by simpa using hc.1), by rw [List.length_zip]; omega, S.setO q e ⟨C, dx, us, h0, by rw [upd_same, e1], e2, e3⟩, c, by simp only [clsAt, q], h0⟩
          · cases h
      | lst _ => cases h
      | dct _ _ => cases h
  | _ => cases h
theorem se_ifld (hK : X.K = g.K) (io : InsOk g pr) (ho : PE X o (tE g Wx fo)) (hb : attributeBase o f X.env (eval o X.env) = eval o X.env) : PE X (.Attribute o f pos) (tE g Wx fun en st => (fo en st).bind fun d s => liftO (ifldF pr f d s)) :=
  (pe_fld ho hb).lb fun σ H Q ⟨W, st, en, hE, S, p⟩ => tG_step hE S p fun d s W' x H' le hE' S' r p' => by
    cases q : ifldF pr f d s with
    | none => rw [q] at p'; exact False.elim p'
    | some zs =>
      obtain ⟨z, s'⟩ := zs
      rw [q] at p'
      obtain ⟨rfl, a, C, dx, fs, v, h1, h2, h3, h4, h5, h6, _⟩ := ifldF_ok S' io r q
      exact ⟨a, C, dx, fs, v, h1, h2, hK ▸ h3, hK ▸ h4, h5, p' W' v H' (.refl W') S' h6⟩
theorem ss_setF (hK : X.K = g.K) (io : InsOk g pr) (ho : PE X o (tE g Wx fo)) (hv : PE X v (tE g Wx fv)) (hs : swapsWith v (some (.Attribute o f pos')) pos.line X.env = pure false) :
    PS X (.Assign [.Attribute o f pos'] v pos) (tS g Wx fun en st => (fv en st).fl en fun y s => (fo en s).fl en fun d s => match putFld pr f d y s with
      | some s => .nx en s
      | none => .bad) :=
  (ps_fld ho hv hs).lb fun E σ H ⟨W, st, en, hE, S, p⟩ => tS_step hE S p fun y s W1 yv H1 le hE1 S1 ry p1 => tS_step hE1 S1 p1 fun d s2 W2 x H2 le2 hE2 S2 r p2 => by
    cases q : putFld pr f d y s2 with
    | none => rw [q] at p2; exact False.elim p2
    | some s3 =>
      rw [q] at p2
      obtain ⟨a, C, dx, fs, h1, h2, h3, h4, h5, h6, _⟩ := putFld_ok S2 io r (ry.mono le2) q
      exact ⟨a, C, dx, fs, h1, h2, hK ▸ h3, hK ▸ h4, h5, p2 W2 σ _ (.refl W2) hE2 h6⟩
/-- o.f += v, of whole numbers -/
theorem ss_augF (hK : X.K = g.K) (io : InsOk g pr) (ho : PE X o (tE g Wx fo)) (hv : PE X v (tE g Wx fv)) :
    PS X (.AugAssign (.Attribute o f pos') .Add v pos) (tS g Wx fun en st => (fo en st).fl en fun d s => (liftO (ifldF pr f d s)).fl en fun z s => (fv en s).fl en fun y s2 => match augFld pr f d z y s s2 with
      | some s => .nx en s
      | none => .bad) :=
  (ps_fldaug ho hv in_add).lb fun E σ H ⟨W, st, en, hE, S, p⟩ => tS_step hE S p fun d s W1 x H1 le hE1 S1 r p1 => by
    cases q : ifldF pr f d s with
    | none => rw [q] at p1; exact False.elim p1
    | some zs =>
      obtain ⟨z, s'⟩ := zs
      rw [q] at p1
      obtain ⟨rfl, a, C, dx, fs, zv, h1, h2, h3, h4, h5, h6, c, h7, h8⟩ := ifldF_ok S1 io r q
      refine ⟨a, C, dx, fs, zv, h1, h2, hK ▸ h3, hK ▸ h4, h5, tS_step hE1 S1 p1 fun y s2 W2 yv H2 le2 hE2 S2 ry p2 => ?_⟩
      cases q2 : augFld pr f d z y s' s2 with
      | none => rw [q2] at p2; exact False.elim p2
      | some s3 =>
        rw [q2] at p2
        cases z with
        | int i =>
          cases y with
          | int j =>
            cases h6
            cases ry
            simp only [augFld] at q2
            split at q2
            · rename_i hc
              obtain ⟨a', C', dx', fs', g1, g2, g3, g4, g5, g6, c', g7, g8⟩ := putFld_ok S2 io (r.mono le2) (.int (i + j)) q2
              rw [h1] at g1; cases g1
              have e1 : c' = c := by
                have := hc
                rw [h7, g7] at this
                exact (Option.some.inj this).symm
              rw [e1, le2.cv, h8] at g8
              cases g8
              exact ⟨i, j, rfl, rfl, dx', fs', g2, g5, p2 W2 σ _ (.refl W2) hE2 g6⟩
            · cases q2
          | _ => simp [augFld] at q2
        | _ => simp [augFld] at q2
end
/-! ### making, calling methods -/
section
variable {X : Cx} {g : Sg} {Wx : WX} {k : Nat} {f C : Addr} {fd : FuncData} {ps : List Str} {F : List D → Sto → Res D} {n c : Nat} {src : List Src} {dvs : List V} {dds : List D} {x : Str} {p pos : Pos} {e : Expr} {es : List Expr} {fs : FA}
theorem under_guards {A : Around} {vs : List Value} {kw : List (Str × Value)} : (A.under (.builtin "type.__call__" ⟨vs, kw⟩)).guards = A.guards := by
  first | rfl | simp [Around.under]
theorem run_mkI {pins : List (Addr × Obj)} {σ : L2.St} {H : Hp} {s : Shared} {Q : VK} {us : List Value} {vs : List V} (hK : X.K = g.K) (M : Mk g.K C f) (hC : g.cv c = .ref C) (Fi : FnI X.prog X.w X.mg X.base g k f fd ps F) (hr : Room (k + 1) X.A) (gd : X.A.guards = some []) (hb : Bnd g.K fd ps n [] src dvs) (hd : ∀ W, Reps W dvs dds) (tk : Takes X Wx)
    (I : Inv X pins σ H s) (r : Vals vs us) {W : Wd} {st : Sto} {ds : List D} (S : Sim g W st H) (r1 : Reps W vs ds) (l1 : ds.length + 1 = n)
    (h : Post g Wx Rep σ Q W (mkR F dds src c ds st)) : wpAny (model X.prog X.w) X.A (call (.ref C) us) (EP X pins σ Q) X.xe s := by
  have n1 : H (s.heap.objs.size + 1) = none := I.hok.fresh (Nat.le_succ _)
  have n2 : H s.heap.objs.size = none := I.hok.fresh (Nat.le_refl _)
  have ne : s.heap.objs.size ≠ s.heap.objs.size + 1 := Nat.ne_of_lt (Nat.lt_succ_self _)
  have I2 := Inv.made (C := C) I
  have S1 : Sim g W st (upd H s.heap.objs.size (.own (s.heap.objs.size + 1))) := S.fresh n2
  have n3 : (upd H s.heap.objs.size (.own (s.heap.objs.size + 1))) (s.heap.objs.size + 1) = none := by rw [upd_ne (Ne.symm ne)]; exact n1
  have S2 := S1.newO (p := s.heap.objs.size + 1) (ho := .ins C s.heap.objs.size []) (o := .ins c [] []) n3 ⟨C, _, [], by rw [show (W.addO st.nx (s.heap.objs.size + 1)).cv = W.cv from rfl, S.cv]; exact hC, upd_same, rfl, .nil⟩
  have le := S1.addO_le (p := s.heap.objs.size + 1)
  have rx : Rep (W.addO st.nx (s.heap.objs.size + 1)) (.ref (s.heap.objs.size + 1)) (.ref st.nx) := .ref (if_pos rfl)
  unfold mkR at h
  cases q : arr (.ref st.nx :: ds) [] dds src with
  | none => rw [q] at h; exact h.elim
  | some l =>
    rw [q] at h
    obtain ⟨lv, hlv, rl⟩ := arr_rep (.cons rx (r1.mono le)) (.nil) (hd _) q
    obtain ⟨dsv, rdv, to⟩ := hb.to
    obtain ⟨lu, hlu, rlu⟩ := arr_rel (show Vals (V.ref (s.heap.objs.size + 1) :: vs) (Value.ref (s.heap.objs.size + 1) :: us) from .cons rfl r) .nil rdv hlv
    have len : lv.length = ps.length := by rw [arr_length hlv, hb.len]
    have kin : g.K.In ({ s with heap := (s.heap.push PySem.W.emptyDict).push (PySem.W.instObj C s.heap.objs.size) } : Shared).heap := hK ▸ I2.kIn
    have env0 : Env0 X.prog X.w g.K X.mg X.base (X.A.under (.builtin "type.__call__" ⟨.ref C :: us, []⟩)) X.stack _ _ := hK ▸ I2.env0.make C us []
    have bt := to _ (.ref (s.heap.objs.size + 1) :: us) [] lu kin (by rw [List.length_cons, ← r.length, r1.length]; exact l1) rfl hlu
    refine wpAny_call (make_map (f := f) I.kIn (hK ▸ M.makes) (hK ▸ M.init) (beq_iff_eq.mp (hK ▸ M.fn)) (codeAny_mono (Fi.run _ X.stack _ _ ⟨.ref (s.heap.objs.size + 1) :: us, []⟩ lu lv (fun v H2 => v = .non ∧ Q (.ref (s.heap.objs.size + 1)) H2) (fun cls dx H' => Wx cls dx σ H') (hr.make C us []) (under_guards.trans gd) env0 bt rlu len ⟨_, _, l, rl, S2, ?_⟩) fun res s' hq => ?_))
    · have h : Post g Wx Rep σ Q W (match F l (st.new (.ins c [] [])) with
        | .ok .non s => .ok (.ref st.nx) s
        | .exn x s => .exn x s
        | _ => .bad) := h
      cases e : F l (st.new (.ins c [] [])) with
      | ok d s2 =>
        rw [e] at h
        cases d with
        | non => exact fun W' v H' le' S' rv => by cases rv; exact ⟨rfl, h W' _ H' (le.trans le') S' (rx.mono le')⟩
        | _ => exact h.elim
      | exn z s2 => rw [e] at h; exact fun W' cls dx H' le' => h W' cls dx H' (le.trans le')
      | bad => rw [e] at h; exact h.elim
    · cases res with
      | error e => exact tk e s' (XE.of_call I2 (fun cls d H' z => z) hq)
      | ok fl =>
        cases fl with
        | ret u =>
          obtain ⟨v, H', I3, rv, ev, q3⟩ := I2.after hq
          subst ev
          exact ⟨rv, ⟨V.ref (s.heap.objs.size + 1), H', I3, rfl, q3⟩⟩
        | next => exact False.elim hq
        | brk => exact False.elim hq
        | cont => exact False.elim hq
theorem se_mk (hK : X.K = g.K) (M : Mk g.K C f) (hC : g.cv c = .ref C) (Fi : FnI X.prog X.w X.mg X.base g k f fd ps F) (hr : Room (k + 1) X.A) (gd : X.A.guards = some []) (hb : Bnd g.K fd ps n [] src dvs) (hd : ∀ W, Reps W dvs dds) (tk : Takes X Wx)
    (hg : Gl X x) (hm : X.mg x = some (.ref C)) (hdb : (x == ("__debug__" : Str)) = false) (ha : PA X (e :: es) (tA g Wx fs)) (hes : (e :: es).all noStar = true) :
    PE X (.Call (.Name x p) (e :: es) [] pos) (tE g Wx fun en st => (fs en st).bind fun us s => if us.length + 1 = n then mkR F dds src c us s else .bad) := by
  refine ⟨fun pins s σ H Q I ⟨W, st, en, hE, S, post⟩ => wpAny_Call_Name_kw (ld_glob I hg hm ?_ hdb)⟩
  have h1 : noStar e = true := by simp only [List.all_cons, Bool.and_eq_true] at hes; exact hes.1
  have h2 : es.all noStar = true := by simp only [List.all_cons, Bool.and_eq_true] at hes; exact hes.2
  refine PySem.W.callWith_K (h₀ := X.base) I.ok.mod.kin (hK ▸ M.kp) ?_ (star_cons h1) (star_any h2)
  refine thn (ha.run pos pins s σ H _ I (tG_step (T := fun vs H1 => ∃ W1 st1 as, Sim g W1 st1 H1 ∧ Reps W1 vs as ∧ Post g Wx Rep σ Q W1 (if as.length + 1 = n then mkR F dds src c as st1 else .bad)) hE S post fun as s1 W1 vs H1 le hE1 S1 ra post1 => ⟨W1, s1, as, S1, ra, post1⟩)) fun us s1 ⟨vs, H1, I1, rv, W1, st1, as, S1, ra, post1⟩ => ⟨I1.kIn, ?_⟩
  by_cases hc : as.length + 1 = n
  · rw [if_pos hc] at post1
    exact run_mkI hK M hC Fi hr gd hb hd tk I1 rv S1 ra hc post1
  · rw [if_neg hc] at post1; exact post1.elim
theorem se_mk0 (hK : X.K = g.K) (M : Mk g.K C f) (hC : g.cv c = .ref C) (Fi : FnI X.prog X.w X.mg X.base g k f fd ps F) (hr : Room (k + 1) X.A) (gd : X.A.guards = some []) (hb : Bnd g.K fd ps n [] src dvs) (hd : ∀ W, Reps W dvs dds) (tk : Takes X Wx)
    (hg : Gl X x) (hm : X.mg x = some (.ref C)) (hdb : (x == ("__debug__" : Str)) = false) :
    PE X (.Call (.Name x p) [] [] pos) (tE g Wx fun en st => ((fun _ s => .ok [] s : FA) en st).bind fun us s => if us.length + 1 = n then mkR F dds src c us s else .bad) := by
  refine ⟨fun pins s σ H Q I ⟨W, st, en, hE, S, post⟩ => wpAny_Call_Name_kw (ld_glob I hg hm ?_ hdb)⟩
  refine PySem.W.callWith_K0 I.kIn (hK ▸ M.kp) ?_
  simp only [Res.bind_ok] at post
  by_cases hc : ([] : List D).length + 1 = n
  · rw [if_pos hc] at post
    exact run_mkI (us := []) hK M hC Fi hr gd hb hd tk I .nil S .nil hc post
  · rw [if_neg hc] at post; exact post.elim
/-- a method that may be called -/
structure MthAt (P : Program) (w : World) (mg : Str → Option Value) (base : Heap) (g : Sg) (k : Nat) (c : Nat) (m : Str) (sp : Shp) (F : List D → Sto → Res D) : Prop where
  ex : ∃ C f fd ps, g.cv c = .ref C ∧ Cls g.K C ∧ Meth g.K C m f ∧ FnI P w mg base g k f fd ps F ∧ sp.ks = [] ∧ Bnd g.K fd ps sp.n [] sp.src (sp.dds.map flV) ∧ flAll sp.dds
variable {o : Expr} {m : Str} {ap : Pos} {fo : FE} {tbl : Nat → Option (Nat × Shp)} {call : Nat → List D → Sto → Res D}
theorem run_meth {pins : List (Addr × Obj)} {σ : L2.St} {Q : VK} {en : En} (hK : X.K = g.K) (ht : ∀ c i sp, tbl c = some (i, sp) → MthAt X.prog X.w X.mg X.base g k c m sp (call i)) (hr : Room k X.A) (gd : X.A.guards = some []) (tk : Takes X Wx) {d : D} {st1 : Sto} {W1 : Wd} {x : V} {u : Value} {H1 : Hp} {s1 : Shared} {pl : Sem Bool} {args : List Expr}
    (hE1 : EnR W1 σ en) (S1 : Sim g W1 st1 H1) (r : Rep W1 x d) (rx : RelV x u) (I1 : Inv X pins σ H1 s1) (post : Post g Wx Rep σ Q W1 (mcR tbl call m fs en d st1))
    (go : ∀ (f a : Addr) (T : List V → Hp → Prop), PySem.W.keepIn X.K (.ref f) = true → tA g Wx fs σ H1 T → (∀ (us : List Value) s2 (vs : List V) H2, Inv X pins σ H2 s2 → Vals vs us → T vs H2 → wpAny (model X.prog X.w) X.A (PySem.call (.ref f) (Value.ref a :: us)) (EP X pins σ Q) X.xe s2) →
      wpAny (model X.prog X.w) X.A (callWith pos (.ref f) [.ref a] (backTo pos (starEach args X.env)) []) (EP X pins σ Q) X.xe s1) :
    wpAny (model X.prog X.w) X.A (getMethod u m pl) (fun fx t2 => wpAny (model X.prog X.w) X.A (callWith pos fx.1 fx.2 (backTo pos (starEach args X.env)) []) (EP X pins σ Q) X.xe t2) X.xe s1 := by
  cases d with
  | ref n =>
    simp only [mcR] at post
    cases q : st1.ob n with
    | none => rw [q] at post; exact post.elim
    | some ob =>
      rw [q] at post
      cases ob with
      | ins c ns ds =>
        simp only at post
        cases hc : ns.contains m with
        | true => rw [hc] at post; exact post.elim
        | false =>
          rw [hc] at post
          simp only [Bool.false_eq_true, if_false] at post
          cases q2 : tbl c with
          | none => rw [q2] at post; exact post.elim
          | some ip =>
            obtain ⟨i, sp⟩ := ip
            rw [q2] at post
            simp only at post
            obtain ⟨C, f, fd, ps, h1, h2, h3, Fi, h5, h6, h7⟩ := (ht c i sp q2).ex
            cases r with
            | ref e =>
              rename_i a
              obtain ⟨a', e', C', dx, vs0, w1, w2, w3, w4⟩ := S1.ob n _ q
              rw [e] at e'; cases e'
              rw [S1.cv, h1] at w1
              cases w1
              obtain rfl : u = Value.ref a := rx
              refine getmeth_ok I1 w2 (hK ▸ h2) (hK ▸ h3) (look_no hc) ?_
              refine go f a (fun vs H2 => ∃ W2 st2 as, Sim g W2 st2 H2 ∧ Reps W2 vs as ∧ Rep W2 (.ref a) (.ref n) ∧ Post g Wx Rep σ Q W2 (if as.length + 1 = sp.n then (match arr (.ref n :: as) [] sp.dds sp.src with
                | some l => call i l st2
                | none => .bad) else .bad)) (hK ▸ h3.kp) (tG_step hE1 S1 post fun as s2 W2 vs H2 le hE2 S2 ra post2 => ⟨W2, s2, as, S2, ra, .ref (le.io _ _ e), post2⟩) fun us s2 vs H2 I2 rv ⟨W2, st2, as, S2, ra, rr, post2⟩ => ?_
              by_cases hl : as.length + 1 = sp.n
              · rw [if_pos hl] at post2
                exact run_fnI (ks := []) (us := .ref a :: us) (ws := []) (vs := .ref a :: vs) (zs := []) hK Fi hr gd h6 (fun W => flVs_rep h7) tk I2 (.cons rfl rv) .nil S2 (.cons rr ra) .nil (by simpa using hl) rfl post2
              · rw [if_neg hl] at post2; exact post2.elim
      | lst _ => exact post.elim
      | dct _ _ => exact post.elim
  | _ => exact post.elim
theorem form_ok {es : List Expr} (hs : es.all noStar = true) (hn : es.length < 10) : methodCallForm (es.length + 0) (backTo pos (starEach es X.env)) (backToKw pos (keywordEach [] X.env)) = true := by
  have h1 : (backTo pos (starEach es X.env)).all (fun x => !x.1) = true := by
    have := star_any (pos := pos) (env := X.env) hs
    rw [List.any_eq_false] at this
    rw [List.all_eq_true]
    intro z hz
    simpa using this z hz
  unfold methodCallForm
  rw [h1]
  simp [backToKw, keywordEach]
  omega
theorem se_mcall (hK : X.K = g.K) (ht : ∀ c i sp, tbl c = some (i, sp) → MthAt X.prog X.w X.mg X.base g k c m sp (call i)) (hr : Room k X.A) (gd : X.A.guards = some []) (tk : Takes X Wx)
    (ho : PE X o (tE g Wx fo)) (ha : PA X (e :: es) (tA g Wx fs)) (hs : (e :: es).all noStar = true) (hb : attributeBase o m X.env (eval o X.env) = eval o X.env) (hl : (ap.endLine == pos.line) = true) (hn : (e :: es).length < 10) :
    PE X (.Call (.Attribute o m ap) (e :: es) [] pos) (tE g Wx fun en st => (fo en st).bind fun d s => mcR tbl call m fs en d s) := by
  refine ⟨fun pins s σ H Q I ⟨W, st, en, hE, S, post⟩ => wp_meth hb (form_ok hs hn) hl ?_⟩
  have hs' := hs
  simp only [List.all_cons, Bool.and_eq_true] at hs'
  refine thn (ho.run pins s σ H _ I (tG_step (T := fun x H1 => ∃ W1 st1 d, EnR W1 σ en ∧ Sim g W1 st1 H1 ∧ Rep W1 x d ∧ Post g Wx Rep σ Q W1 (mcR tbl call m fs en d st1)) hE S post fun d s1 W1 x H1 le hE1 S1 r post1 => ⟨W1, s1, d, hE1, S1, r, post1⟩)) fun u s1 ⟨x, H1, I1, rx, W1, st1, d, hE1, S1, r, post1⟩ pl => ?_
  refine run_meth hK ht hr gd tk hE1 S1 r rx I1 post1 fun f a T kp q2 fin => ?_
  exact PySem.W.callWith_K (first := [.ref a]) (h₀ := X.base) I.ok.mod.kin kp (thn (ha.run pos pins s1 σ H1 _ I1 q2) fun us s2 ⟨vs, H2, I2, rv, q3⟩ => ⟨I2.kIn, fin us s2 vs H2 I2 rv q3⟩) (star_cons hs'.1) (star_any hs'.2)
theorem se_mcall0 (hK : X.K = g.K) (ht : ∀ c i sp, tbl c = some (i, sp) → MthAt X.prog X.w X.mg X.base g k c m sp (call i)) (hr : Room k X.A) (gd : X.A.guards = some []) (tk : Takes X Wx)
    (ho : PE X o (tE g Wx fo)) (hb : attributeBase o m X.env (eval o X.env) = eval o X.env) (hl : (ap.endLine == pos.line) = true) :
    PE X (.Call (.Attribute o m ap) [] [] pos) (tE g Wx fun en st => (fo en st).bind fun d s => mcR tbl call m (fun _ s => .ok [] s) en d s) := by
  refine ⟨fun pins s σ H Q I ⟨W, st, en, hE, S, post⟩ => wp_meth hb (form_ok rfl (by decide)) hl ?_⟩
  refine thn (ho.run pins s σ H _ I (tG_step (T := fun x H1 => ∃ W1 st1 d, EnR W1 σ en ∧ Sim g W1 st1 H1 ∧ Rep W1 x d ∧ Post g Wx Rep σ Q W1 (mcR tbl call m (fun _ s => .ok [] s) en d st1)) hE S post fun d s1 W1 x H1 le hE1 S1 r post1 => ⟨W1, s1, d, hE1, S1, r, post1⟩)) fun u s1 ⟨x, H1, I1, rx, W1, st1, d, hE1, S1, r, post1⟩ pl => ?_
  refine run_meth hK ht hr gd tk hE1 S1 r rx I1 post1 fun f a T kp q2 fin => ?_
  obtain ⟨W2, st2, en2, hE2, S2, p2⟩ := q2
  exact PySem.W.callWith_K0 (first := [.ref a]) I1.kIn kp (fin [] s1 [] H1 I1 .nil (p2 W2 [] H1 (.refl W2) S2 .nil))
end
end LB
end

section
set_option Elab.async false
set_option linter.all false
set_option maxRecDepth 100000
set_option maxHeartbeats 4000000
/-! Methods of lists and dicts: extend, insert, pop, update, get. -/
namespace LB
open PySem PySem.Spec PyProof.Rows L2
def rM (g : Sg) (m : Mt) : V → List V → Hp → VK → Prop := fun x xs H Q => ∃ W st d ds, Sim g W st H ∧ Rep W x d ∧ Reps W xs ds ∧ PostV g Q W (m.f d ds st)
section
variable {X : Cx} {g : Sg} {Wx : WX} {pos ap : Pos} {o e : Expr} {es : List Expr} {fo : FE} {fa : FA}
/-- what a receiver's type must be -/
def TyR (X : Cx) (T : String) (x : V) (H : Hp) : Prop := ∀ (pins : List (Addr × Obj)) (s : Shared) (σ : L2.St) (v : Value), Inv X pins σ H s → RelV x v → s.TypeIs v T ∧ ∀ a, v = .ref a → ∃ ob, s.heap.get? a = some ob ∧ ob.dict = none
theorem tyR_of {T : String} {x : V} {H : Hp} (h : tyV X.K T x H) : TyR X T x H := fun _ _ _ _ I r => tyV_is I r h
theorem tyR_dct {a : Addr} {H : Hp} {kvs : List (Key × V)} (h : Rd H a (.dK kvs)) : TyR X "dict" (.ref a) H := fun _ _ _ v I r => by
  obtain rfl : v = Value.ref a := r
  have q := dGet_rd (k := .inl 0) h
  exact ⟨dict_typeIs I q, dict_noDict I q⟩
theorem pe_mtR {T id : String} {name : Str} {r : V → List V → Hp → VK → Prop} {to : TE} {t : TA} (pa : PlainAttrs T) (slot : Slot T name id) (hty : typeOf (.builtin id) = pure (.type "method_descriptor")) (hm : MtR X id r) (ho : PE X o to) (ha : PA X (e :: es) t)
    (hb : attributeBase o name X.env (eval o X.env) = eval o X.env) (hs : (e :: es).all noStar = true) (hn : (e :: es).length < 10) (hl : (ap.endLine == pos.line) = true) :
    PE X (.Call (.Attribute o name ap) (e :: es) [] pos) (fun σ H Q => to σ H fun x H1 => TyR X T x H1 ∧ t σ H1 fun vs H2 => r x vs H2 Q) := by
  have hs' := hs
  simp only [List.all_cons, Bool.and_eq_true] at hs'
  refine ⟨fun pins s σ H Q I h => wpAny_Call_method_late hb (few_ok hs hn) hl rfl (thn (ho.run pins s σ H _ I h) fun v s1 ⟨x, H1, I1, r1, ty, q1⟩ => ?_)⟩
  obtain ⟨h1, h2⟩ := ty pins s1 σ v I1 r1
  refine ⟨T, id, pa, slot, hty, h1, h2, ?_⟩
  have hA := ha.run pos pins s1 σ H1 _ I1 q1
  have hst := star_cons (env := X.env) (es := es) hs'.1
  have hpl := star_any (env := X.env) (pos := pos) hs'.2
  rw [hst] at hA ⊢
  exact Calls.callWith_builtin (by show (false || (backTo pos (starEach es X.env)).any (·.1)) = false; rw [hpl]; rfl) (Calls.evalArgs_plain (thn hA fun us s2 ⟨vs, H2, I2, r2, q2⟩ => hm pins s2 σ H2 x vs v us Q I2 r1 r2 q2))
theorem se_methG {m : Mt} {T id : String} (pa : PlainAttrs T) (slot : Slot T m.name id) (hty : typeOf (.builtin id) = pure (.type "method_descriptor")) (hm : MtR X id (rM g m))
    (hr : ∀ W st H x d, Sim g W st H → Rep W x d → m.recv d st = true → TyR X T x H)
    (ho : PE X o (tE g Wx fo)) (ha : PA X (e :: es) (tA g Wx fa)) (hs : (e :: es).all noStar = true) (hb : attributeBase o m.name X.env (eval o X.env) = eval o X.env) (hl : (ap.endLine == pos.line) = true) (hn : (e :: es).length < 10) :
    PE X (.Call (.Attribute o m.name ap) (e :: es) [] pos) (tE g Wx fun en st => (fo en st).bind fun d s => if m.recv d s then (fa en s).bind fun ds s => liftO (m.f d ds s) else .bad) := by
  refine (pe_mtR pa slot hty hm ho ha hb hs hn hl).lb fun σ H Q ⟨W, st, en, hE, S, q⟩ => ?_
  refine tG_step hE S q fun d s W1 x H1 le hE1 S1 r q1 => ?_
  split at q1
  · rename_i hrc
    exact ⟨hr W1 s H1 x d S1 r hrc, tG_step hE1 S1 q1 fun ds s2 W2 xs H2 le2 hE2 S2 rs q2 => ⟨W2, s2, d, ds, S2, r.mono le2, rs, post_lift q2⟩⟩
  · exact q1.elim
/-- a numbered list -/
theorem isLs_ok {W : Wd} {st : Sto} {H : Hp} {x : V} {d : D} (S : Sim g W st H) (r : Rep W x d) (h : isLs st d = true) : TyR X "list" x H := by
  refine tyR_of ?_
  cases d with
  | ref n =>
    simp only [isLs] at h
    cases q : st.ob n with
    | none => rw [q] at h; cases h
    | some ob =>
      rw [q] at h
      cases ob with
      | lst ds =>
        cases r with
        | ref e =>
          obtain ⟨a', e', vs, hv, _⟩ := S.ob n _ q
          rw [e] at e'; cases e'
          exact .inl ⟨rfl, _, .inl (.inl hv)⟩
      | _ => cases h
  | _ => cases h
theorem isDc_ok {W : Wd} {st : Sto} {H : Hp} {x : V} {d : D} (S : Sim g W st H) (r : Rep W x d) (h : (dctOf st d).isSome = true) : TyR X "dict" x H := by
  cases q : dctOf st d with
  | none => rw [q] at h; cases h
  | some z =>
    obtain ⟨a, vs, rfl, ha, _⟩ := dctOf_ok S r q
    exact tyR_dct ha
/-- the numbered list at n -/
theorem lst_at {W : Wd} {st : Sto} {H : Hp} {a : Addr} {n : Nat} {ds : List D} (S : Sim g W st H) (e : W.io n = some a) (q : st.ob n = some (.lst ds)) : ∃ vs, H a = some (.lst vs) ∧ Reps W vs ds := by
  obtain ⟨a', e', vs, hv, r⟩ := S.ob n _ q
  rw [e] at e'; cases e'
  exact ⟨vs, hv, r⟩
theorem dct_at {W : Wd} {st : Sto} {H : Hp} {a : Addr} {n : Nat} {ks : List Key} {ds : List D} (S : Sim g W st H) (e : W.io n = some a) (q : st.ob n = some (.dct ks ds)) : ∃ vs, H a = some (.dK (ks.zip vs)) ∧ ks.length = vs.length ∧ Reps W vs ds := by
  obtain ⟨a', e', vs, hv, l, r⟩ := S.ob n _ q
  rw [e] at e'; cases e'
  exact ⟨vs, hv, l, r⟩
theorem m_ext : MtR X "list.extend" (rM g .ext) := by
  intro pins s σ H x xs v us Q I rx rxs ⟨W, st, d, ds, S, r, rs, p⟩
  unfold Mt.f at p
  simp only at p
  split at p
  · rename_i n e0
    cases r with
    | ref er =>
      split at p
      · rename_i dl xl q1 q2
        split at p
        · rename_i hz
          obtain ⟨y, rfl, ry⟩ := reps1 rs
          obtain ⟨vs, hv, rv⟩ := lst_at S er q1
          obtain ⟨b, zs, rfl, hb, rz⟩ := getM_ok S ry q2
          refine mt_extend pins s σ H _ _ v us Q I rx rxs ⟨_, b, vs, zs, rfl, rfl, hv, hb, by rw [rv.length, rz.length]; exact hz, ?_⟩
          exact p W .non _ (.refl W) (S.setO q1 er ⟨_, upd_same, rv.append rz⟩) .non
        · exact p.elim
      · exact p.elim
  · exact p.elim
theorem m_ins : MtR X "list.insert" (rM g .ins) := by
  intro pins s σ H x xs v us Q I rx rxs ⟨W, st, d, ds, S, r, rs, p⟩
  unfold Mt.f at p
  simp only at p
  split at p
  · rename_i n i e0
    cases r with
    | ref er =>
      split at p
      · rename_i dl q1
        split at p
        · rename_i hc
          rw [Bool.and_eq_true, Bool.and_eq_true, decide_eq_true_eq, leI_eq, decide_eq_true_eq] at hc
          obtain ⟨h0, h1, h2⟩ := hc
          obtain ⟨_, h3⟩ := small62_ok h1
          obtain ⟨y, z, rfl, ry, rz⟩ := reps2 rs
          cases ry
          obtain ⟨vs, hv, rv⟩ := lst_at S er q1
          refine mt_insert pins s σ H _ _ v us Q I rx rxs ⟨_, vs, i, z, rfl, rfl, hv, by rw [rv.length]; exact h2, h0, by omega, ?_⟩
          exact p W .non _ (.refl W) (S.setO q1 er ⟨_, upd_same, ((rv.take _).append (.cons rz .nil)).append (rv.drop _)⟩) .non
        · exact p.elim
      · exact p.elim
  · exact p.elim
theorem m_popi : MtR X "list.pop" (rM g .popi) := by
  intro pins s σ H x xs v us Q I rx rxs ⟨W, st, d, ds, S, r, rs, p⟩
  unfold Mt.f at p
  simp only at p
  split at p
  · rename_i n i
    cases r with
    | ref er =>
      split at p
      · rename_i dl q1
        split at p
        · rename_i hc
          obtain ⟨h2, h3⟩ := small62_ok hc
          obtain ⟨y, rfl, ry⟩ := reps1 rs
          cases ry
          obtain ⟨vs, hv, rv⟩ := lst_at S er q1
          cases q2 : seqIndex? i dl.length with
          | none => rw [q2] at p; exact p.elim
          | some k =>
            rw [q2, Option.bind_some] at p
            cases q3 : dl[k]? with
            | none => rw [q3] at p; exact p.elim
            | some z =>
              rw [q3] at p
              obtain ⟨zv, hz, rz⟩ := rv.get q3
              refine mt_popAt pins s σ H _ _ v us Q I rx rxs ⟨_, vs, i, k, zv, rfl, rfl, hv, by omega, by omega, by rw [rv.length]; exact q2, hz, ?_⟩
              exact p W zv _ (.refl W) (S.setO q1 er ⟨_, upd_same, rv.eraseIdx k⟩) rz
        · exact p.elim
      · exact p.elim
  · exact p.elim
theorem dGet_no : ∀ {W : Wd} {ks : List Key} {vs : List V} {ds : List D} {k : Key}, ks.length = vs.length → Reps W vs ds → dGet ks ds k = none → valV (ks.zip vs) k = none
  | _, [], _, _, _, _, _, _ => rfl
  | _, _ :: _, _, _, _, l, .nil, _ => by simp at l
  | W, k' :: ks, _, _, k, l, .cons r t, h => by
    simp only [dGet] at h
    rw [List.zip_cons_cons]
    split at h
    · cases h
    · rename_i e
      rw [valV_neg e]
      exact dGet_no (by simpa using l) t h
theorem m_get (hu : X.A.units + 1 < cLine) : MtR X "dict.get" (rM g .get) := by
  intro pins s σ H x xs v us Q I rx rxs ⟨W, st, d, ds, S, r, rs, p⟩
  unfold Mt.f at p
  simp only at p
  split at p
  · rename_i ks vs kd q1
    obtain ⟨a, us', rfl, ha, l, rv⟩ := dctOf_ok S r q1
    obtain ⟨y, rfl, ry⟩ := reps1 rs
    cases q2 : keyD kd with
    | none => rw [q2] at p; exact p.elim
    | some k =>
      rw [q2, Option.map_some] at p
      obtain rfl := keyD_ok ry q2
      obtain ⟨u, rfl, ru⟩ := vals1 rxs
      obtain rfl : v = Value.ref a := rx
      cases q3 : dGet ks vs k with
      | some z =>
        obtain ⟨zv, h1, h2⟩ := dGet_ok l rv q3
        rw [q3] at p
        exact d_get1 hu I (dGet_rd ha) ru fun w' s' I' rw' => ⟨_, H, I', rw', by rw [h1]; exact p W zv H (.refl W) S h2⟩
      | none =>
        have h1 := dGet_no l rv q3
        rw [q3] at p
        exact d_get1 hu I (dGet_rd ha) ru fun w' s' I' rw' => ⟨_, H, I', rw', by rw [h1]; exact p W .non H (.refl W) S .non⟩
  · rename_i ks vs kd zd q1
    obtain ⟨a, us', rfl, ha, l, rv⟩ := dctOf_ok S r q1
    obtain ⟨y, z0, rfl, ry, rz0⟩ := reps2 rs
    cases q2 : keyD kd with
    | none => rw [q2] at p; exact p.elim
    | some k =>
      rw [q2, Option.map_some] at p
      obtain rfl := keyD_ok ry q2
      obtain ⟨u, u2, rfl, ru, ru2⟩ := rxs.two
      obtain rfl : v = Value.ref a := rx
      cases q3 : dGet ks vs k with
      | some z =>
        obtain ⟨zv, h1, h2⟩ := dGet_ok l rv q3
        rw [q3] at p
        exact d_get2 hu I (dGet_rd ha) ru ru2 fun w' s' I' rw' => ⟨_, H, I', rw', by rw [h1]; exact p W zv H (.refl W) S h2⟩
      | none =>
        have h1 := dGet_no l rv q3
        rw [q3] at p
        exact d_get2 hu I (dGet_rd ha) ru ru2 fun w' s' I' rw' => ⟨_, H, I', rw', by rw [h1]; exact p W z0 H (.refl W) S rz0⟩
  · exact p.elim
/-- pairs put one behind the other -/
theorem mrg_ok {W : Wd} : ∀ {ls : List Key} {es : List V} {xs : List D} {ks : List Key} {vs : List V} {ds : List D}, ls.length = es.length → Reps W es xs → ks.length = vs.length → Reps W vs ds →
    ∃ us, mergeK (ks.zip vs) (ls.zip es) = (mrgK ks xs ls).zip us ∧ (mrgK ks xs ls).length = us.length ∧ Reps W us (mrgD ks ds ls xs)
  | [], _, _, ks, vs, ds, _, .nil, l, r => ⟨vs, rfl, l, r⟩
  | [], _, _, ks, vs, ds, l0, .cons _ _, l, r => by simp at l0
  | _ :: _, _, _, ks, vs, ds, l0, .nil, l, r => by simp at l0
  | k :: ls, _, _, ks, vs, ds, l0, .cons r1 t, l, r => by
    obtain ⟨us, e1, e2, e3⟩ := put_ok (k := k) l r r1
    obtain ⟨ws, g1, g2, g3⟩ := mrg_ok (ls := ls) (by simpa using l0) t e2 e3
    refine ⟨ws, ?_, g2, g3⟩
    rw [List.zip_cons_cons]
    show mergeK (putK (ks.zip vs) k _) (ls.zip _) = _
    rw [e1]
    exact g1
theorem dk_upd {pins : List (Addr × Obj)} {σ : L2.St} {H : Hp} {s : Shared} {a b : Addr} {ks ls : List (Key × V)} {A : Around} {E : Value → Shared → Prop} {Q : Value → Shared → Prop} (I : Inv X pins σ H s) (ha : H a = some (.dK ks)) (hb : Rd H b (.dK ls)) (ne : a ≠ b) (hz : ks.length + ls.length ≤ sizeLine)
    (h : ∀ s', Inv X pins σ (upd H a (.dK (mergeK ks ls))) s' → Q .none s') : wpAny (model X.prog X.w) A (call (.builtin "dict.update") [.ref a, .ref b]) Q E s := by
  obtain ⟨z, hd, vs, rel, dd⟩ := dk_of I.hok ha
  obtain ⟨z2, hd2, ws, rel2, dd2⟩ := dk_rd I.hok hb
  refine call_meetsIn PySem.F.slot_dict_update dd.typeIs PySem.F.entry_dict_update (PySem.F.args_dict_update_2 _ _) (meets_dict_update (mixKind X.prog X.w) a b ne hd2)
    ⟨vs, ws, dd, dd2, by rw [← rel.length, ← rel2.length]; exact hz, fun h' dd' _ hs => h _ ?_⟩
  have he : ∃ q, h'.get? a = some q := let ⟨q, _, _, hq, _⟩ := dd'; ⟨q, hq⟩
  have hl := length_mergeK ls ks
  exact d_write I (by rw [ha]; exact True.intro) hs he (dk_new (by omega) hd (rel2.merge rel) dd')
theorem m_upd : MtR X "dict.update" (rM g .upd) := by
  intro pins s σ H x xs v us Q I rx rxs ⟨W, st, d, ds, S, r, rs, p⟩
  unfold Mt.f at p
  simp only at p
  split at p
  · rename_i n e0
    cases r with
    | @ref a _ er =>
      split at p
      · rename_i ks dl ls xl q1 q2
        split at p
        · rename_i hc
          rw [Bool.and_eq_true, decide_eq_true_eq] at hc
          obtain ⟨y, rfl, ry⟩ := reps1 rs
          obtain ⟨vs, hv, l, rv⟩ := dct_at S er q1
          obtain ⟨b, zs, rfl, hb, l2, rz⟩ := dctOf_ok S ry q2
          have ne : a ≠ b := fun e => by
            subst e
            cases ry with
            | ref e2 =>
              rename_i m
              have hm : ∃ o2, st.ob m = some o2 := by
                simp only [dctOf] at q2
                cases q3 : st.ob m with
                | none => rw [q3] at q2; cases q2
                | some o2 => exact ⟨o2, rfl⟩
              obtain ⟨o2, q3⟩ := hm
              have := S.inj n m _ _ _ q1 q3 er e2
              subst this
              have := hc.1
              simp [notN] at this
            | dct q _ _ => exact (S.fz _ _ q).2 n _ q1 er
            | _ => simp [dctOf] at q2
          obtain rfl : v = Value.ref a := rx
          obtain ⟨u, rfl, ru⟩ := vals1 rxs
          obtain rfl : u = Value.ref b := ru
          obtain ⟨us', g1, g2, g3⟩ := mrg_ok l2 rz l rv
          refine dk_upd I hv hb ne (by rw [List.length_zip, List.length_zip]; omega) fun s' I' => ⟨.non, _, I', rfl, ?_⟩
          rw [g1]
          exact p W .non _ (.refl W) (S.setO q1 er ⟨us', upd_same, g2, g3⟩) .non
        · exact p.elim
      · exact p.elim
  · exact p.elim
/-- o.pop() -/
theorem se_pop0 (ho : PE X o (tE g Wx fo)) (hb : attributeBase o "pop" X.env (eval o X.env) = eval o X.env) (hl : (ap.endLine == pos.line) = true) :
    PE X (.Call (.Attribute o "pop" ap) [] [] pos) (tE g Wx fun en st => (fo en st).bind fun d s => liftO (pop0F d s)) := by
  refine (pe_bm0 PySem.F.plainAttrs_list PySem.F.slot_list_pop PySem.F.type_list_pop mt_pop ho hb hl).lb fun σ H Q ⟨W, st, en, hE, S, q⟩ => ?_
  refine tG_step hE S q fun d s W1 x H1 le hE1 S1 r q1 => ?_
  cases d with
  | ref n =>
    simp only [pop0F] at q1
    cases q2 : s.ob n with
    | none => rw [q2] at q1; exact q1.elim
    | some ob =>
      rw [q2] at q1
      cases ob with
      | lst ds =>
        simp only at q1
        cases q3 : ds[ds.length - 1]? with
        | none => rw [q3] at q1; exact q1.elim
        | some y =>
          rw [q3] at q1
          cases r with
          | ref er =>
            obtain ⟨vs, hv, rv⟩ := lst_at S1 er q2
            obtain ⟨yv, hy, ry⟩ := rv.get q3
            refine ⟨.inl ⟨rfl, _, .inl (.inl hv)⟩, _, vs, yv, rfl, rfl, hv, by rw [rv.length]; exact hy, ?_⟩
            refine q1 W1 yv _ (.refl W1) (S1.setO q2 er ⟨_, upd_same, ?_⟩) ry
            rw [List.dropLast_eq_take, List.dropLast_eq_take, rv.length]
            exact rv.take _
      | dct _ _ => exact q1.elim
      | ins _ _ _ => exact q1.elim
  | _ => exact q1.elim
end
end LB
end

section
set_option Elab.async false
set_option linter.all false
set_option maxRecDepth 100000
set_option maxHeartbeats 4000000
/-! Displays and comprehensions of dicts; comprehensions with two sources. -/
namespace LB
open PySem PySem.Spec PyProof.Rows L2
section
variable {X : Cx} {g : Sg} {Wx : WX} {tg iter elt kx : Expr} {ifs : List Expr} {pos : Pos}
theorem noFrz_dK {H : Hp} {p : Addr} {kvs : List (Key × V)} (e : H p = some (.dK kvs)) : (∀ vs, ¬ Rd H p (.tup vs)) ∧ ∀ o u, H p ≠ some (.frz o u) := by
  refine ⟨fun vs h => ?_, fun o u h => ?_⟩
  · rcases h with h | ⟨o, h⟩ <;> · rw [e] at h; cases h
  · rw [e] at h; cases h
/-- what was pinned as a dict comes out as data -/
theorem dctOut {W1 Wq : Wd} {st : Sto} {H : Hp} {p : Addr} {ks : List Key} {vs : List V} {ds : List D} {Q : VK} (le : W1.Le Wq) (nP : ∀ o, ¬ W1.pin p o) (S : Sim g Wq st H) (hp : Wq.pin p (.dK (ks.zip vs))) (l : ks.length = vs.length) (r : Reps Wq vs ds) (fz : Bool)
    (fin : ∀ W' H', W1.Le W' → Sim g W' (mkDct fz ks ds st).2 H' → Rep W' (.ref p) (mkDct fz ks ds st).1 → Q (.ref p) H') : Q (.ref p) H ∨ ∃ a u, V.ref p = .ref a ∧ H a = some u ∧ Mut (some u) ∧ ∀ od, Q (.ref p) (upd H a (.frz od u)) := by
  cases fz with
  | true => exact .inr ⟨p, _, rfl, (S.pin _ _ hp).1, trivial, fun od => fin (((Wq.noP p).addF p (.frz od (.dK (ks.zip vs))))) _ ((Wd.noP_le le nP).trans (Wd.addF_le _ _ _)) (S.lockP hp od) (.dct (.inr ⟨rfl, rfl⟩) l (Reps.mono (Wd.addF_le _ _ _) (Reps.noP r)))⟩
  | false => exact .inl (fin _ _ (Wd.noP_le (le.trans S.addO_le) nP) (S.ownG hp ⟨vs, (S.pin _ _ hp).1, l, r⟩) (.ref (show (if st.nx = st.nx then some p else Wq.io st.nx) = some p from if_pos rfl)))
/-- a pinned dict is changed, pinned again -/
theorem dctPin {W1 Wq : Wd} {st : Sto} {H : Hp} {p : Addr} {a b : List (Key × V)} (le : W1.Le Wq) (nP : ∀ o, ¬ W1.pin p o) (S : Sim g Wq st H) (hp : Wq.pin p (.dK a)) :
    W1.Le ((Wq.noP p).addP p (.dK b)) ∧ Sim g ((Wq.noP p).addP p (.dK b)) st (upd H p (.dK b)) := by
  obtain ⟨h1, h2⟩ := noFrz_dK (S.pin _ _ hp).1
  have S5 : Sim g (Wq.noP p) st (upd H p (.dK b)) := S.setP hp h1 h2
  exact ⟨(Wd.noP_le le nP).trans (Wd.addP_le _ _ _), S5.addP (p := p) upd_same (S.pin _ _ hp).2.1 ⟨trivial, (S.pin _ _ hp).2.2.2⟩⟩
theorem tDc_ok {f : FI} {is vs : List Nat} {bt : D → En → Option En} {ct : FB} {fk fe : FE} {fz : Bool} (hs : ∀ i ∈ is, i ∈ vs) {σ : L2.St} {H : Hp} {Q : VK} (h : tE g Wx (compDL fz vs bt ct fk fe f) σ H Q) :
    tDc (tI g Wx f) (tB1 g is bt) (tT g noX ct) (tE g noX fk) (tE g noX fe) vs σ H fun v H1 => Q v H1 ∨ ∃ a u, v = .ref a ∧ H1 a = some u ∧ Mut (some u) ∧ ∀ od, Q v (upd H1 a (.frz od u)) := by
  obtain ⟨W, st, en, hE, S, p⟩ := h
  refine tG_step (k := fun items s => (compD vs bt ct fk fe items [] [] en s).bind fun q s => .ok (mkDct fz q.1 q.2 s).1 (mkDct fz q.1 q.2 s).2) hE S p fun items s W1 J H1 le hE1 S1 G p1 => ?_
  intro D hD
  have nP := S1.noPin hD
  refine ⟨fun i m H => ∃ Wq st ks ds va, i + m = items.length ∧ W1.Le Wq ∧ Sim g Wq st H ∧ Wq.pin D (.dK (ks.zip va)) ∧ ks.length = va.length ∧ Reps Wq va ds ∧
      Post g Wx Rep σ Q W1 ((compD vs bt ct fk fe (items.drop i) ks ds en st).bind fun q s => .ok (mkDct fz q.1 q.2 s).1 (mkDct fz q.1 q.2 s).2),
    ⟨items.length, W1.addP D (.dK []), s, [], [], [], by omega, W1.addP_le _ _, (S1.fresh hD).addP upd_same (S1.freeOf hD) ⟨trivial, S1.noLi hD⟩, .inr ⟨rfl, rfl⟩, rfl, .nil, by simpa using p1⟩, fun i m H ⟨Wq, st, ks, ds, va, hm, l, S, hpin, hl, ra, p⟩ => ?_⟩
  have hE' := hE1.mono l
  by_cases hi : i < items.length
  · refine .inr ⟨G.go i Wq st H hi l S, fun H' => ∃ Wq st ks ds va, W1.Le Wq ∧ Sim g Wq st H' ∧ Wq.pin D (.dK (ks.zip va)) ∧ ks.length = va.length ∧ Reps Wq va ds ∧
      Post g Wx Rep σ Q W1 ((compD vs bt ct fk fe (items.drop (i + 1)) ks ds en st).bind fun q s => .ok (mkDct fz q.1 q.2 s).1 (mkDct fz q.1 q.2 s).2),
      fun H' ⟨Wq', st', ks', ds', va', h2, h3, h4, h5, h6, h7⟩ => ⟨m - 1, by omega, Wq', st', ks', ds', va', by omega, h2, h3, h4, h5, h6, h7⟩, fun x H' hy => ?_⟩
    rw [drop_cons hi] at p
    obtain ⟨W2, l2, S2, r2⟩ := G.yl i _ Wq st H x H' (List.getElem?_eq_getElem hi) l S hy
    refine ⟨W2, st, wipeE en vs, _, (hE'.mono l2).wipe vs, S2, r2, ?_⟩
    simp only [compD] at p
    cases q : bt items[i] (wipeE en vs) with
    | none => simp only [q, Res.bind_bad] at p; exact False.elim p
    | some en' =>
      simp only [q] at p
      intro σ2 hE2 hf
      refine ⟨wipe_fix hs hf, W2, st, en', hE2, S2, ?_⟩
      cases qc : ct en' st with
      | exn x s => simp only [qc, Res.nox, Res.bind_bad] at p; exact False.elim p
      | bad => simp only [qc, Res.nox, Res.bind_bad] at p; exact False.elim p
      | ok t s3 =>
        simp only [qc, Res.nox, Res.bind_ok] at p
        intro W3 b H3 l3 S3 rb
        cases rb
        have lw : W1.Le W3 := l.trans (l2.trans l3)
        cases t with
        | false =>
          refine iteF ⟨W3, s3, ks, ds, va, lw, S3, l3.pin _ _ (l2.pin _ _ hpin), hl, ra.mono (l2.trans l3), ?_⟩
          simpa using p
        | true =>
          refine iteT ⟨W3, s3, en', hE2.mono l3, S3, ?_⟩
          simp only [if_true] at p
          cases qe : fk en' s3 with
          | exn x s => simp only [qe, Res.nox, Res.bind_bad] at p; exact False.elim p
          | bad => simp only [qe, Res.nox, Res.bind_bad] at p; exact False.elim p
          | ok y s4 =>
            simp only [qe, Res.nox, Res.bind_ok] at p
            intro W4 kv H4 l4 S4 rk
            refine ⟨W4, s4, en', (hE2.mono l3).mono l4, S4, ?_⟩
            cases qv : fe en' s4 with
            | exn x s => simp only [qv, Res.nox, Res.bind_bad] at p; exact False.elim p
            | bad => simp only [qv, Res.nox, Res.bind_bad] at p; exact False.elim p
            | ok z s5 =>
              simp only [qv, Res.nox, Res.bind_ok] at p
              intro W5 v H5 l5 S5 rv
              cases qk : keyD y with
              | none => simp only [qk, Res.bind_bad] at p; exact False.elim p
              | some k =>
                simp only [qk] at p
                by_cases hz : ks.length < sizeLine
                case neg => rw [if_neg hz] at p; exact False.elim p
                rw [if_pos hz] at p
                have pin5 := l5.pin _ _ (l4.pin _ _ (l3.pin _ _ (l2.pin _ _ hpin)))
                have e5 := (S5.pin _ _ pin5).1
                have ra5 := ra.mono (l2.trans (l3.trans (l4.trans l5)))
                refine ⟨_, k, keyD_ok rk qk, e5, by rw [List.length_zip]; omega, ?_⟩
                obtain ⟨us, g1, g2, g3⟩ := put_ok (k := k) hl ra5 rv
                obtain ⟨le6, S6⟩ := dctPin (b := putK (ks.zip va) k v) (lw.trans (l4.trans l5)) nP S5 pin5
                refine ⟨_, s5, putKs ks k, putDs ks ds k z, us, le6, S6, .inr ⟨rfl, by rw [g1]⟩, g2, ?_, p⟩
                exact Reps.mono (Wd.addP_le _ _ _) (Reps.noP g3)
  · have e : i = items.length := by omega
    subst e
    refine .inl ⟨G.stop Wq st H l S, ?_⟩
    rw [List.drop_length] at p
    simp only [compD, Res.bind_ok] at p
    exact dctOut l nP S hpin hl ra fz fun W' H' le' S' r' => p W' _ H' le' S' r'
theorem se_dc {scope : Scope} {own : List (Str × Nat)} {f : FI} {is : List Nat} {bt : D → En → Option En} {ct : FB} {fk fe : FE} (fz : Bool) (hc : X.calm = true) (hN : X.N.Nodup) (hi : PI X tg iter (tI g Wx f)) (ok : BlkOk X.N X.env.scope scope own) (hsub : ∀ i ∈ is, i ∈ own.map (·.2))
    (hg : ∀ (s : Shared) (H : Hp) (C : Addr) (cl : List (Str × Addr)) (fp : List Addr), PG (X.blk s H scope (compEnvC scope cl C X.env) fp) tg (tB1 g is bt)) (ht : ∀ (s : Shared) (H : Hp) (C : Addr) (cl : List (Str × Addr)) (fp : List Addr), PTs (X.blk s H scope (compEnvC scope cl C X.env) fp) ifs (tT g noX ct))
    (hk : ∀ (s : Shared) (H : Hp) (C : Addr) (cl : List (Str × Addr)) (fp : List Addr), PE (X.blk s H scope (compEnvC scope cl C X.env) fp) kx (tE g noX fk))
    (he : ∀ (s : Shared) (H : Hp) (C : Addr) (cl : List (Str × Addr)) (fp : List Addr), PE (X.blk s H scope (compEnvC scope cl C X.env) fp) elt (tE g noX fe)) (hs : ∀ x, foldedSetIterable iter X.env x = pure x) :
    PE X (.DictComp kx elt [⟨tg, iter, ifs, 0⟩] scope pos) (tE g Wx (compDL fz (own.map (·.2)) bt ct fk fe f)) :=
  (pe_dc hc hN hi ok hg ht hk he hs).lockV.lb fun σ H Q h => tDc_ok hsub h
/-! displays -/
def flat2 : List (V × V) → List V
  | [] => []
  | p :: r => p.1 :: p.2 :: flat2 r
/-- the pairs of a display, as one row of values -/
structure Prs (X : Cx) (g : Sg) (Wx : WX) (pos : Pos) (keys : List (Option Expr)) (vals : List Expr) (fa : FA) : Prop where
  ex : ∃ trs, PPs X pos keys vals trs ∧ ∀ σ H (Q : List (V × V) → Hp → Prop), tA g Wx fa σ H (fun ws H' => ∀ ps, flat2 ps = ws → Q ps H') → tPairs trs σ H Q
theorem prs_nil : Prs X g Wx pos [] [] (fun _ s => .ok [] s) := ⟨[], pps_nil, fun σ H Q ⟨W, st, en, hE, S, p⟩ => p W [] H (.refl W) S .nil [] rfl⟩
theorem prs_cons {k v : Expr} {ks : List (Option Expr)} {vs : List Expr} {fk fv : FE} {fa : FA} (hk : PE X k (tE g Wx fk)) (hv : PE X v (tE g Wx fv)) (hr : Prs X g Wx pos ks vs fa) :
    Prs X g Wx pos (some k :: ks) (v :: vs) (fun en st => (fk en st).bind fun d s => ((fun en st => (fv en st).bind fun d s => (fa en s).bind fun ds s => .ok (d :: ds) s : FA) en s).bind fun ds s => .ok (d :: ds) s) := by
  obtain ⟨trs, h1, h2⟩ := hr.ex
  refine ⟨_, pps_cons hk hv h1, fun σ H Q ⟨W, st, en, hE, S, p⟩ => ?_⟩
  refine tG_step hE S p fun d s W1 x H1 le hE1 S1 r p1 => ?_
  simp only [bind_assoc] at p1
  refine tG_step hE1 S1 p1 fun d2 s2 W2 y H2 le2 hE2 S2 r2 p2 => h2 σ H2 _ ?_
  simp only [bind_assoc, Res.bind_ok] at p2
  exact tG_step hE2 S2 p2 fun ds s3 W3 zs H3 le3 hE3 S3 rs p3 ps hps => p3 W3 _ H3 (.refl W3) S3 (.cons ((r.mono le2).mono le3) (.cons (r2.mono le3) rs)) ((x, y) :: ps) (by rw [flat2, hps])
theorem pairK_len : ∀ {ds : List D} {q : List Key × List D}, pairK ds = some q → 2 * q.1.length = ds.length
  | [], _, h => by simp only [pairK] at h; cases h; rfl
  | [_], _, h => by simp [pairK] at h
  | a :: b :: r, q, h => by
    simp only [pairK] at h
    cases e : keyD a with
    | none => rw [e] at h; cases h
    | some k =>
      rw [e, Option.bind_some] at h
      cases e2 : pairK r with
      | none => rw [e2] at h; cases h
      | some z =>
        rw [e2] at h
        cases h
        have := pairK_len e2
        simp only [List.length_cons]
        omega
theorem pairK_ok {W : Wd} : ∀ {ps : List (V × V)} {ds : List D} {ks : List Key} {es : List D}, Reps W (flat2 ps) ds → pairK ds = some (ks, es) → ∃ vs, ps = (ks.zip vs).map (fun kv => (kV kv.1, kv.2)) ∧ ks.length = vs.length ∧ Reps W vs es
  | [], _, _, _, .nil, h => by simp only [pairK] at h; cases h; exact ⟨[], rfl, rfl, .nil⟩
  | (a, b) :: ps, _, ks, es, .cons (d := d) (ds := ds0) r t, h => by
    cases t with
    | @cons _ d2 _ ds r2 t =>
      simp only [pairK] at h
      cases q : keyD d with
      | none => rw [q] at h; cases h
      | some k =>
        rw [q, Option.bind_some] at h
        cases q2 : pairK ds with
        | none => rw [q2] at h; cases h
        | some z =>
          obtain ⟨ks', es'⟩ := z
          rw [q2] at h
          cases h
          obtain ⟨vs, e1, e2, e3⟩ := pairK_ok t q2
          refine ⟨b :: vs, ?_, by simp [e2], .cons r2 e3⟩
          rw [List.zip_cons_cons, List.map_cons, ← e1]
          have : a = kV k := keyD_ok r q
          rw [this]
theorem se_disp {k0 : Option Expr} {keys : List (Option Expr)} {vals : List Expr} {fa : FA} (fz : Bool) (h : Prs X g Wx pos (k0 :: keys) vals fa) (hall : (k0 :: keys).all (·.isSome) = true) (hl : (k0 :: keys).length = vals.length) (h15 : (k0 :: keys).length ≤ 15)
    (hlen : ∀ en st ds s, fa en st = .ok ds s → ds.length ≤ 30) :
    PE X (.Dict (k0 :: keys) vals pos) (tE g Wx fun en st => (fa en st).bind fun ds s => liftO (dispF fz ds s)) := by
  obtain ⟨trs, h1, h2⟩ := h.ex
  refine (pe_disp h1 hall hl (by simp) h15).lockV.lb fun σ H Q ⟨W, st, en, hE, S, p⟩ q hq => h2 σ _ _ ?_
  have nP := S.noPin hq
  refine ⟨W.addP q (.dK []), st, en, hE.mono (W.addP_le _ _), (S.fresh hq).addP upd_same (S.freeOf hq) ⟨trivial, S.noLi hq⟩, ?_⟩
  cases e : fa en st with
  | bad => simp only [e, Res.bind_bad] at p; exact p.elim
  | exn x s =>
    simp only [e, Res.bind_exn] at p
    exact fun W' cls dx H' le S' r => p W' cls dx H' ((W.addP_le _ _).trans le) S' r
  | ok ds s =>
    simp only [e, Res.bind_ok] at p
    intro W' xs H' le S' rs ps hps
    subst hps
    have le0 := (W.addP_le q (.dK [])).trans le
    have pin : W'.pin q (.dK []) := le.pin _ _ (.inr ⟨rfl, rfl⟩)
    simp only [dispF] at p
    cases qk : pairK ds with
    | none => rw [qk] at p; exact p.elim
    | some z =>
      obtain ⟨ks, es⟩ := z
      rw [qk] at p
      obtain ⟨vs, e1, e2, e3⟩ := pairK_ok rs qk
      have l1 := pairK_len qk
      have l2 := hlen en st ds s e
      refine ⟨(S'.pin _ _ pin).1, ks.zip vs, e1, ?_, ?_⟩
      · rw [List.length_zip]
        simp only at l1
        omega
      obtain ⟨us, g1, g2, g3⟩ := mrg_ok (W := W') (ks := []) (vs := []) (ds := []) e2 e3 rfl .nil
      obtain ⟨le6, S6⟩ := dctPin (b := mergeK [] (ks.zip vs)) le0 nP S' pin
      exact dctOut le6 nP S6 (ks := mrgK [] es ks) (vs := us) (ds := mrgD [] [] ks es) (.inr ⟨rfl, by rw [← g1]; rfl⟩) g2 (Reps.mono (Wd.addP_le _ _ _) (Reps.noP g3)) fz fun W2 H2 l7 S7 r7 => p W2 _ H2 l7 S7 r7
end
end LB
end

section
set_option Elab.async false
set_option linter.all false
set_option maxRecDepth 100000
set_option maxHeartbeats 4000000
/-! List comprehensions with two sources. -/
namespace LB
open PySem PySem.Spec PyProof.Rows L2
section
variable {X : Cx} {g : Sg} {Wx : WX} {tg iter elt tg1 iter1 : Expr} {ifs ifs1 : List Expr} {pos : Pos}
/-- a pinned list takes one more, pinned again -/
theorem lstPin {W1 Wq : Wd} {st : Sto} {H : Hp} {p : Addr} {a b : List V} (le : W1.Le Wq) (nP : ∀ o, ¬ W1.pin p o) (S : Sim g Wq st H) (hp : Wq.pin p (.lst a)) :
    W1.Le ((Wq.noP p).addP p (.lst b)) ∧ Sim g ((Wq.noP p).addP p (.lst b)) st (upd H p (.lst b)) := by
  have e4 := (S.pin _ _ hp).1
  have ht : ∀ vs, ¬ Rd H p (.tup vs) := fun vs h => by
    rcases h with h | ⟨o, h⟩ <;> · rw [e4] at h; cases h
  have hz' : ∀ o u, H p ≠ some (.frz o u) := fun o u h => by rw [e4] at h; cases h
  have S5 : Sim g (Wq.noP p) st (upd H p (.lst b)) := S.setP hp ht hz'
  exact ⟨(Wd.noP_le le nP).trans (Wd.addP_le _ _ _), S5.addP (p := p) upd_same (S.pin _ _ hp).2.1 ⟨trivial, (S.pin _ _ hp).2.2.2⟩⟩
theorem lstOut {W1 Wq : Wd} {st : Sto} {H : Hp} {p : Addr} {vs : List V} {ds : List D} (le : W1.Le Wq) (nP : ∀ o, ¬ W1.pin p o) (S : Sim g Wq st H) (hp : Wq.pin p (.lst vs)) (r : Reps Wq vs ds) : ∀ fz : Bool,
    ∃ W', W1.Le W' ∧ Sim g W' (mkL fz ds st).2 H ∧ Rep W' (.ref p) (mkL fz ds st).1
  | true => ⟨(Wq.noP p).addF p (.lst vs), (Wd.noP_le le nP).trans (Wd.addF_le _ _ _), (S.noP).keepF ⟨(S.pin _ _ hp).1, (S.pin _ _ hp).2.1⟩ fun o q => q.2 rfl, .lst (.inr ⟨rfl, rfl⟩) (Reps.mono (Wd.addF_le _ _ _) (Reps.noP r))⟩
  | false => ⟨(Wq.addO st.nx p).noP p, Wd.noP_le (le.trans S.addO_le) nP, S.ownP hp r, .ref (show (if st.nx = st.nx then some p else Wq.io st.nx) = some p from if_pos rfl)⟩
theorem tLc2_ok {f f1 : FI} {is vs is1 : List Nat} {bt bt1 : D → En → Option En} {ct ct1 : FB} {fe : FE} {fz : Bool} (hs : ∀ i ∈ is, i ∈ vs) {σ : L2.St} {H : Hp} {Q : VK} (h : tE g Wx (comp2L fz vs bt ct is1 bt1 ct1 fe f1 f) σ H Q) :
    tLc2 (tI g Wx f) (tB1 g is bt) (tT g noX ct) (tI g noX f1) (tB1 g is1 bt1) (tT g noX ct1) (tE g noX fe) vs is1 σ H Q := by
  obtain ⟨W, st, en, hE, S, p⟩ := h
  refine tG_step (k := fun items s => if items.length ≤ 4000 then (comp2F vs bt ct is1 bt1 ct1 fe f1 items en s).bind fun ys s => .ok (mkL fz ys s).1 (mkL fz ys s).2 else .bad) hE S p fun items s W1 J H1 le hE1 S1 G p1 => ?_
  by_cases hz : items.length ≤ 4000
  case neg => rw [if_neg hz] at p1; exact False.elim p1
  rw [if_pos hz] at p1
  intro D hD
  have nP := S1.noPin hD
  refine ⟨fun i m H => ∃ Wq st acc va, i + m = items.length ∧ acc.length ≤ 4000 * i ∧ W1.Le Wq ∧ Sim g Wq st H ∧ Wq.pin D (.lst va) ∧ Reps Wq va acc ∧
      Post g Wx Rep σ Q W1 ((comp2F vs bt ct is1 bt1 ct1 fe f1 (items.drop i) en st).bind fun ys s => .ok (mkL fz (acc ++ ys) s).1 (mkL fz (acc ++ ys) s).2),
    ⟨items.length, W1.addP D (.lst []), s, [], [], by omega, by simp, W1.addP_le _ _, (S1.fresh hD).addP upd_same (S1.freeOf hD) ⟨trivial, S1.noLi hD⟩, .inr ⟨rfl, rfl⟩, .nil, by simpa using p1⟩, fun i m H ⟨Wq, st, acc, va, hm, ha, l, S, hpin, ra, p⟩ => ?_⟩
  have hE' := hE1.mono l
  by_cases hi : i < items.length
  · refine .inr ⟨G.go i Wq st H hi l S, fun H' => ∃ Wq st acc va, acc.length ≤ 4000 * (i + 1) ∧ W1.Le Wq ∧ Sim g Wq st H' ∧ Wq.pin D (.lst va) ∧ Reps Wq va acc ∧
      Post g Wx Rep σ Q W1 ((comp2F vs bt ct is1 bt1 ct1 fe f1 (items.drop (i + 1)) en st).bind fun ys s => .ok (mkL fz (acc ++ ys) s).1 (mkL fz (acc ++ ys) s).2),
      fun H' ⟨Wq', st', acc', va', h1, h2, h3, h4, h5, h6⟩ => ⟨m - 1, by omega, Wq', st', acc', va', by omega, h1, h2, h3, h4, h5, h6⟩, fun x H' hy => ?_⟩
    rw [drop_cons hi] at p
    obtain ⟨W2, l2, S2, r2⟩ := G.yl i _ Wq st H x H' (List.getElem?_eq_getElem hi) l S hy
    refine ⟨W2, st, wipeE en vs, _, (hE'.mono l2).wipe vs, S2, r2, ?_⟩
    simp only [comp2F] at p
    cases q : bt items[i] (wipeE en vs) with
    | none => simp only [q, Res.bind_bad] at p; exact False.elim p
    | some en' =>
      simp only [q] at p
      intro σ2 hE2 hf
      refine ⟨wipe_fix hs hf, W2, st, en', hE2, S2, ?_⟩
      cases qc : ct en' st with
      | exn x s => simp only [qc, Res.nox, Res.bind_bad] at p; exact False.elim p
      | bad => simp only [qc, Res.nox, Res.bind_bad] at p; exact False.elim p
      | ok t s3 =>
        simp only [qc, Res.nox, Res.bind_ok] at p
        intro W3 b H3 l3 S3 rb
        cases rb
        have lw : W1.Le W3 := l.trans (l2.trans l3)
        cases t with
        | false =>
          refine iteF ⟨W3, s3, acc, va, by omega, lw, S3, l3.pin _ _ (l2.pin _ _ hpin), ra.mono (l2.trans l3), ?_⟩
          simpa using p
        | true =>
          refine iteT ⟨W3, s3, en', hE2.mono l3, S3, ?_⟩
          simp only [if_true] at p
          cases qf : f1 en' s3 with
          | exn x s => simp only [qf, Res.nox, Res.bind_bad] at p; exact False.elim p
          | bad => simp only [qf, Res.nox, Res.bind_bad] at p; exact False.elim p
          | ok items1 s4 =>
            simp only [qf, Res.nox, Res.bind_ok] at p
            by_cases hz1 : items1.length ≤ 4000
            case neg => rw [if_neg hz1] at p; exact False.elim p
            rw [if_pos hz1] at p
            intro W4 J1 H4 l4 S4 G1
            have lw4 : W1.Le W4 := lw.trans l4
            have hE4 : EnR W4 σ2 en' := (hE2.mono l3).mono l4
            simp only [bind_assoc] at p
            refine ⟨fun j k H => ∃ Wq st acc va, j + k = items1.length ∧ acc.length ≤ 4000 * i + j ∧ W4.LeX Wq ∧ W1.Le Wq ∧ Sim g Wq st H ∧ Wq.pin D (.lst va) ∧ Reps Wq va acc ∧
                Post g Wx Rep σ Q W1 ((compF is1 bt1 ct1 fe (items1.drop j) en' st).bind fun xs s => (comp2F vs bt ct is1 bt1 ct1 fe f1 (items.drop (i + 1)) en s).bind fun ys s => .ok (mkL fz (acc ++ (xs ++ ys)) s).1 (mkL fz (acc ++ (xs ++ ys)) s).2),
              ⟨items1.length, W4, s4, acc, va, by omega, by omega, Wd.LeX.refl W4, lw4, S4, l4.pin _ _ (l3.pin _ _ (l2.pin _ _ hpin)), ra.mono (l2.trans (l3.trans l4)), by simpa [bind_assoc] using p⟩, fun j k H ⟨Wr, st5, acc5, va5, hm5, ha5, l54, l5, S5, hpin5, ra5, p5⟩ => ?_⟩
            have hE5 := hE4.monoX l54
            by_cases hj : j < items1.length
            · refine .inr ⟨G1.go j Wr st5 H hj l54 S5, fun H' => ∃ Wq st acc va, acc.length ≤ 4000 * i + (j + 1) ∧ W4.LeX Wq ∧ W1.Le Wq ∧ Sim g Wq st H' ∧ Wq.pin D (.lst va) ∧ Reps Wq va acc ∧
                Post g Wx Rep σ Q W1 ((compF is1 bt1 ct1 fe (items1.drop (j + 1)) en' st).bind fun xs s => (comp2F vs bt ct is1 bt1 ct1 fe f1 (items.drop (i + 1)) en s).bind fun ys s => .ok (mkL fz (acc ++ (xs ++ ys)) s).1 (mkL fz (acc ++ (xs ++ ys)) s).2),
                fun H' ⟨Wq', st', acc', va', h1, h2, h3, h4, h5, h6, h7⟩ => ⟨k - 1, by omega, Wq', st', acc', va', by omega, h1, h2, h3, h4, h5, h6, h7⟩, fun x1 H6 hy1 => ?_⟩
              rw [drop_cons hj] at p5
              obtain ⟨W6, l6, S6, r6⟩ := G1.yl j _ Wr st5 H x1 H6 (List.getElem?_eq_getElem hj) l54 S5 hy1
              refine ⟨W6, st5, wipeE en' is1, _, (hE5.mono l6).wipe is1, S6, r6, ?_⟩
              simp only [compF] at p5
              cases q1 : bt1 items1[j] (wipeE en' is1) with
              | none => simp only [q1, Res.bind_bad] at p5; exact False.elim p5
              | some en1 =>
                simp only [q1] at p5
                intro σ3 hE6 hf1
                refine ⟨wipe_fix (fun _ z => z) hf1, W6, st5, en1, hE6, S6, ?_⟩
                cases qc1 : ct1 en1 st5 with
                | exn x s => simp only [qc1, Res.nox, Res.bind_bad] at p5; exact False.elim p5
                | bad => simp only [qc1, Res.nox, Res.bind_bad] at p5; exact False.elim p5
                | ok t1 s7 =>
                  simp only [qc1, Res.nox, Res.bind_ok] at p5
                  intro W7 b1 H7 l7 S7 rb1
                  cases rb1
                  have lw7 : W1.Le W7 := l5.trans (l6.trans l7)
                  have l47 : W4.LeX W7 := l54.trans (l6.trans l7).x
                  cases t1 with
                  | false =>
                    refine iteF ⟨W7, s7, acc5, va5, by omega, l47, lw7, S7, l7.pin _ _ (l6.pin _ _ hpin5), ra5.mono (l6.trans l7), ?_⟩
                    simpa using p5
                  | true =>
                    refine iteT ⟨W7, s7, en1, hE6.mono l7, S7, ?_⟩
                    simp only [if_true] at p5
                    cases qe : fe en1 s7 with
                    | exn x s => simp only [qe, Res.nox, Res.bind_bad] at p5; exact False.elim p5
                    | bad => simp only [qe, Res.nox, Res.bind_bad] at p5; exact False.elim p5
                    | ok y s8 =>
                      simp only [qe, Res.nox, Res.bind_ok, bind_assoc] at p5
                      intro W8 v H8 l8 S8 rv
                      have pin8 := l8.pin _ _ (l7.pin _ _ (l6.pin _ _ hpin5))
                      have ra8 := ra5.mono (l6.trans (l7.trans l8))
                      refine ⟨va5, (S8.pin _ _ pin8).1, ?_, ?_⟩
                      · rw [ra8.length, sizeLine_eq]; omega
                      · obtain ⟨le9, S9⟩ := lstPin (b := va5 ++ [v]) (lw7.trans l8) nP S8 pin8
                        have le10 : W4.LeX ((W8.noP D).addP D (.lst (va5 ++ [v]))) := let h := l47.trans l8.x; ⟨h.io, h.tu, h.fz, h.sc, h.cv, h.kd⟩
                        refine ⟨_, s8, acc5 ++ [y], va5 ++ [v], by simp; omega, le10, le9, S9, .inr ⟨rfl, rfl⟩, ?_, ?_⟩
                        · exact Reps.mono (Wd.addP_le _ _ _) (Reps.noP (ra8.append (.cons rv .nil)))
                        · simpa [List.append_assoc] using p5
            · have e : j = items1.length := by omega
              subst e
              refine .inl ⟨G1.stop Wr st5 H l54 S5, ?_⟩
              rw [List.drop_length] at p5
              simp only [compF, Res.bind_ok, List.nil_append] at p5
              exact ⟨Wr, st5, acc5, va5, by omega, l5, S5, hpin5, ra5, p5⟩
  · have e : i = items.length := by omega
    subst e
    refine .inl ⟨G.stop Wq st H l S, ?_⟩
    rw [List.drop_length] at p
    simp only [comp2F, Res.bind_ok, List.append_nil] at p
    obtain ⟨W', le', S', r'⟩ := lstOut l nP S hpin ra fz
    exact p W' _ H le' S' r'
theorem se_lc2 {scope : Scope} {own : List (Str × Nat)} {f f1 : FI} {is is1 : List Nat} {bt bt1 : D → En → Option En} {ct ct1 : FB} {fe : FE} (fz : Bool) (hc : X.calm = true) (hN : X.N.Nodup) (hi : PI X tg iter (tI g Wx f)) (ok : BlkOk X.N X.env.scope scope own) (hsub : ∀ i ∈ is, i ∈ own.map (·.2)) (hsub1 : ∀ i ∈ is1, i ∈ own.map (·.2))
    (hg : ∀ (s : Shared) (H : Hp) (C : Addr) (cl : List (Str × Addr)) (fp : List Addr), PG (X.blk s H scope (compEnvC scope cl C X.env) fp) tg (tB1 g is bt)) (ht : ∀ (s : Shared) (H : Hp) (C : Addr) (cl : List (Str × Addr)) (fp : List Addr), PTs (X.blk s H scope (compEnvC scope cl C X.env) fp) ifs (tT g noX ct))
    (hi1 : ∀ (s : Shared) (H : Hp) (C : Addr) (cl : List (Str × Addr)) (fp : List Addr), PI (X.blk s H scope (compEnvC scope cl C X.env) fp) tg1 iter1 (tI g noX f1))
    (hg1 : ∀ (s : Shared) (H : Hp) (C : Addr) (cl : List (Str × Addr)) (fp : List Addr), PG (X.blk s H scope (compEnvC scope cl C X.env) fp) tg1 (tB1 g is1 bt1)) (ht1 : ∀ (s : Shared) (H : Hp) (C : Addr) (cl : List (Str × Addr)) (fp : List Addr), PTs (X.blk s H scope (compEnvC scope cl C X.env) fp) ifs1 (tT g noX ct1))
    (he : ∀ (s : Shared) (H : Hp) (C : Addr) (cl : List (Str × Addr)) (fp : List Addr), PE (X.blk s H scope (compEnvC scope cl C X.env) fp) elt (tE g noX fe)) (hs : ∀ x, foldedSetIterable iter X.env x = pure x) (hs1 : ∀ env x, foldedSetIterable iter1 env x = pure x) :
    PE X (.ListComp elt [⟨tg, iter, ifs, 0⟩, ⟨tg1, iter1, ifs1, 0⟩] scope pos) (tE g Wx (comp2L fz (own.map (·.2)) bt ct is1 bt1 ct1 fe f1 f)) :=
  (pe_lc2 hc hN hi ok hsub1 hg ht hi1 hg1 ht1 he hs hs1).lb fun σ H Q h => tLc2_ok hsub h
theorem ss_setLc2 {i : Nat} {y : Str} {py spos : Pos} {scope : Scope} {own : List (Str × Nat)} {f f1 : FI} {is is1 : List Nat} {bt bt1 : D → En → Option En} {ct ct1 : FB} {fe : FE} (fz : Bool) (hc : X.calm = true) (hN : X.N.Nodup) (hy : X.N[i]? = some y) (hyl : X.env.scope.names.lookup y = some .local)
    (hsw : swapsWith (.ListComp elt [⟨tg, iter, ifs, 0⟩, ⟨tg1, iter1, ifs1, 0⟩] scope pos) (some (.Name y py)) spos.line X.env = pure true) (hi : PI X tg iter (tI g Wx f)) (ok : BlkOk X.N X.env.scope scope own) (hsub : ∀ i ∈ is, i ∈ own.map (·.2)) (hsub1 : ∀ i ∈ is1, i ∈ own.map (·.2))
    (hg : ∀ (s : Shared) (H : Hp) (C : Addr) (cl : List (Str × Addr)) (fp : List Addr), PG (X.blk s H scope (compEnvC scope cl C X.env) fp) tg (tB1 g is bt)) (ht : ∀ (s : Shared) (H : Hp) (C : Addr) (cl : List (Str × Addr)) (fp : List Addr), PTs (X.blk s H scope (compEnvC scope cl C X.env) fp) ifs (tT g noX ct))
    (hi1 : ∀ (s : Shared) (H : Hp) (C : Addr) (cl : List (Str × Addr)) (fp : List Addr), PI (X.blk s H scope (compEnvC scope cl C X.env) fp) tg1 iter1 (tI g noX f1))
    (hg1 : ∀ (s : Shared) (H : Hp) (C : Addr) (cl : List (Str × Addr)) (fp : List Addr), PG (X.blk s H scope (compEnvC scope cl C X.env) fp) tg1 (tB1 g is1 bt1)) (ht1 : ∀ (s : Shared) (H : Hp) (C : Addr) (cl : List (Str × Addr)) (fp : List Addr), PTs (X.blk s H scope (compEnvC scope cl C X.env) fp) ifs1 (tT g noX ct1))
    (he : ∀ (s : Shared) (H : Hp) (C : Addr) (cl : List (Str × Addr)) (fp : List Addr), PE (X.blk s H scope (compEnvC scope cl C X.env) fp) elt (tE g noX fe)) (hs : ∀ x, foldedSetIterable iter X.env x = pure x) (hs1 : ∀ env x, foldedSetIterable iter1 env x = pure x) :
    PS X (.Assign [.Name y py] (.ListComp elt [⟨tg, iter, ifs, 0⟩, ⟨tg1, iter1, ifs1, 0⟩] scope pos) spos) (tS g Wx fun en st => (comp2L fz (own.map (·.2)) bt ct is1 bt1 ct1 fe f1 f en st).fl en fun d s => .nx (en.set i (some d)) s) :=
  (ps_setLc2 hc hN hy hyl hsw hi ok hsub1 hg ht hi1 hg1 ht1 he hs hs1).lb fun E σ H ⟨W, st, en, hE, S, p⟩ => by
    refine tLc2_ok hsub (tS_step (R := Rep) (T := fun x H1 => gName i x σ H1 E.nx) hE S p fun d s W' x H' le hE' S' r p' => ?_)
    exact p' W' _ H' (.refl W') (hE'.set r i) S'
end
/-! min, max of a list; the keys of a dict -/
section
variable {X : Cx} {g : Sg}
theorem minL_ok : ∀ {ns : List Int} {m : Int}, minL ns = some m → m ∈ ns ∧ ∀ y ∈ ns, m ≤ y
  | [], _, h => by simp [minL] at h
  | [i], _, h => by simp only [minL] at h; cases h; simp
  | i :: j :: r, m, h => by
    simp only [minL] at h
    cases q : minL (j :: r) with
    | none => rw [q] at h; cases h
    | some m0 =>
      rw [q, Option.map_some] at h
      obtain ⟨h1, h2⟩ := minL_ok q
      have h := Option.some.inj h
      split at h
      · subst h
        refine ⟨List.mem_cons_of_mem _ h1, fun y hy => ?_⟩
        rcases List.mem_cons.mp hy with rfl | hy
        · omega
        · exact h2 y hy
      · subst h
        refine ⟨List.mem_cons_self .., fun y hy => ?_⟩
        rcases List.mem_cons.mp hy with rfl | hy
        · omega
        · have := h2 y hy; omega
theorem maxL_ok : ∀ {ns : List Int} {m : Int}, maxL ns = some m → m ∈ ns ∧ ∀ y ∈ ns, y ≤ m
  | [], _, h => by simp [maxL] at h
  | [i], _, h => by simp only [maxL] at h; cases h; simp
  | i :: j :: r, m, h => by
    simp only [maxL] at h
    cases q : maxL (j :: r) with
    | none => rw [q] at h; cases h
    | some m0 =>
      rw [q, Option.map_some] at h
      obtain ⟨h1, h2⟩ := maxL_ok q
      have h := Option.some.inj h
      split at h
      · subst h
        refine ⟨List.mem_cons_of_mem _ h1, fun y hy => ?_⟩
        rcases List.mem_cons.mp hy with rfl | hy
        · omega
        · exact h2 y hy
      · subst h
        refine ⟨List.mem_cons_self .., fun y hy => ?_⟩
        rcases List.mem_cons.mp hy with rfl | hy
        · omega
        · have := h2 y hy; omega
theorem mem_len {ns : List Int} {m : Int} (h : m ∈ ns) : 0 < ns.length := List.length_pos_of_mem h
theorem min1_ok (hK : X.K = g.K) (hc : X.calm = true) : CallR X (.builtin "min") (rL g Bl.min1.f) := rL_one fun pins s σ H x us Q W st d I r S rx p => by
  cases e : getL st d with
  | none => simp only [e] at p; exact p.elim
  | some ds =>
    cases e2 : intsOf ds with
    | none => simp only [e, Option.bind_some, e2] at p; exact p.elim
    | some ns =>
      cases e3 : minL ns with
      | none => simp only [e, Option.bind_some, e2, e3] at p; exact p.elim
      | some m =>
        simp only [e, Option.bind_some, e2, e3] at p
        obtain ⟨a, vs, rfl, ha, ra⟩ := getL_ok S rx e
        obtain ⟨rfl, _⟩ := intsOf_rep ra e2
        obtain ⟨h1, h2⟩ := minL_ok e3
        refine cr_min hc pins s σ H _ us Q I r ⟨a, ns, rfl, hK ▸ ha, mem_len h1, fun m' q1 q2 => ?_⟩
        obtain rfl : m' = m := by have := h2 m' q1; have := q2 m h1; omega
        exact p W _ H (.refl W) S (.int _)
theorem max1_ok (hK : X.K = g.K) (hc : X.calm = true) : CallR X (.builtin "max") (rL g Bl.max1.f) := rL_one fun pins s σ H x us Q W st d I r S rx p => by
  cases e : getL st d with
  | none => simp only [e] at p; exact p.elim
  | some ds =>
    cases e2 : intsOf ds with
    | none => simp only [e, Option.bind_some, e2] at p; exact p.elim
    | some ns =>
      cases e3 : maxL ns with
      | none => simp only [e, Option.bind_some, e2, e3] at p; exact p.elim
      | some m =>
        simp only [e, Option.bind_some, e2, e3] at p
        obtain ⟨a, vs, rfl, ha, ra⟩ := getL_ok S rx e
        obtain ⟨rfl, _⟩ := intsOf_rep ra e2
        obtain ⟨h1, h2⟩ := maxL_ok e3
        refine cr_max hc pins s σ H _ us Q I r ⟨a, ns, rfl, hK ▸ ha, mem_len h1, fun m' q1 q2 => ?_⟩
        obtain rfl : m' = m := by have := h2 m' q1; have := q2 m h1; omega
        exact p W _ H (.refl W) S (.int _)
theorem keys_rep {W : Wd} : ∀ (ks : List Key), Reps W (ks.map kV) (ks.map keyV)
  | [] => .nil
  | .inl i :: r => .cons (.int i) (keys_rep r)
  | .inr x :: r => .cons (.str x) (keys_rep r)
theorem zip_fst {α β : Type} : ∀ {as : List α} {bs : List β}, as.length = bs.length → (as.zip bs).map (·.1) = as
  | [], _, _ => rfl
  | _ :: _, [], h => by simp at h
  | a :: as, b :: bs, h => by rw [List.zip_cons_cons, List.map_cons, zip_fst (by simpa using h)]
theorem keys_ok (hc : X.calm = true) (fz : Bool) : CallR X (.type "list") (rL g (Bl.keys fz).f) := rL_one fun pins s σ H x us Q W st d I r S rx p => by
  cases e : dctOf st d with
  | none => simp only [e] at p; exact p.elim
  | some z =>
    obtain ⟨ks, ds⟩ := z
    simp only [e, Option.map_some] at p
    obtain ⟨a, vs, rfl, ha, l, ra⟩ := dctOf_ok S rx e
    refine call_listD hc pins s σ H _ us Q I r ⟨a, _, rfl, ha, fun q hq => ?_⟩
    have e1 : ((ks.zip vs).map fun kv => kV kv.1) = ks.map kV := by
      rw [show (fun kv : Key × V => kV kv.1) = kV ∘ (·.1) from rfl, ← List.map_map, zip_fst l]
    rw [e1]
    obtain ⟨W', le, S', r'⟩ := mkL_ok S hq (keys_rep ks) fz
    exact p W' _ _ le S' r'
end
end LB
end

section
set_option Elab.async false
set_option linter.all false
set_option maxRecDepth 100000
set_option maxHeartbeats 4000000
/-! A call of a local name that holds a def. -/
namespace LB
open PySem PySem.Spec PyProof.Rows L2
section
variable {X : Cx} {g : Sg} {Wx : WX} {k i n : Nat} {x : Str} {p pos : Pos} {e : Expr} {es : List Expr} {fs : FA} {E : Ev}
theorem se_callL (hK : X.K = g.K) (hT : ∀ f sp, E.shpN f n = some sp → ∃ fa fd ps, g.cv (100000 + f) = .ref fa ∧ PySem.W.keepIn g.K (.ref fa) = true ∧ FnI X.prog X.w X.mg X.base g k fa fd ps (E.call f) ∧ Bnd g.K fd ps sp.n [] sp.src (sp.dds.map flV) ∧ flAll sp.dds)
    (hr : Room k X.A) (gd : X.A.guards = some []) (tk : Takes X Wx) (hN : X.N[i]? = some x) (hv : Vis X.env.scope x) (hdb : (x == ("__debug__" : Str)) = false) (hcd : (x == ("__classdict__" : Str)) = false) (ha : PA X (e :: es) (tA g Wx fs)) (hes : (e :: es).all noStar = true) :
    PE X (.Call (.Name x p) (e :: es) [] pos) (tE g Wx (callLF E i n fs)) := by
  refine ⟨fun pins s σ H Q I ⟨W, st, en, hE, S, post⟩ => ?_⟩
  have h1 : noStar e = true := by simp only [List.all_cons, Bool.and_eq_true] at hes; exact hes.1
  have h2 : es.all noStar = true := by simp only [List.all_cons, Bool.and_eq_true] at hes; exact hes.2
  unfold callLF at post
  split at post
  case h_2 => exact post.elim
  rename_i f q
  obtain ⟨v, hs, rv⟩ := hE.2 i _ q
  cases rv with
  | @fn a _ hc =>
    cases q2 : E.shpN f n with
    | none => rw [q2] at post; exact post.elim
    | some sp =>
      rw [q2] at post
      simp only at post
      obtain ⟨fa, fd, ps, c1, c2, Fi, hb, hfl⟩ := hT f sp q2
      rw [S.cv, c1] at hc
      cases hc
      refine wpAny_Call_Name_kw (thn ((pe_var (pos := p) hN hv hdb hcd).run pins s σ H (fun v H1 => v = .ref a ∧ H1 = H) I ⟨.ref a, hs, rfl, rfl⟩) fun u s1 ⟨v, H1, I1, r1, q1⟩ => ?_)
      obtain ⟨rfl, rfl⟩ := q1
      cases r1
      have post : Post g Wx Rep σ Q W ((fs en st).bind fun us s => if us.length = sp.n ∧ ([] : List D).length = 0 then (match arr us [] sp.dds sp.src with
        | some l => E.call f l s
        | none => .bad) else .bad) := post
      refine PySem.W.callWith_K (h₀ := X.base) I.ok.mod.kin (hK ▸ c2) (thn (ha.run pos pins s1 σ _ _ I1 (tG_step (T := fun vs H1 => ∃ W1 st1 as, Sim g W1 st1 H1 ∧ Reps W1 vs as ∧ Post g Wx Rep σ Q W1 (if as.length = sp.n ∧ ([] : List D).length = 0 then (match arr as [] sp.dds sp.src with
        | some l => E.call f l st1
        | none => .bad) else .bad)) hE S post fun as s1 W1 vs H1 le hE1 S1 ra post1 => ⟨W1, s1, as, S1, ra, post1⟩)) fun us s2 ⟨vs, H2, I2, r, W1, st1, as, S1, ra, post1⟩ => ⟨I2.kIn, ?_⟩) (star_cons h1) (star_any h2)
      by_cases hc : as.length = sp.n ∧ ([] : List D).length = 0
      · rw [if_pos hc] at post1
        exact run_fnI (ws := []) (zs := []) hK Fi hr gd hb (fun W => flVs_rep hfl) tk I2 r .nil S1 ra .nil hc.1 rfl post1
      · rw [if_neg hc] at post1; exact post1.elim
end
end LB
end

section
set_option Elab.async false
set_option linter.all false
set_option maxRecDepth 100000
set_option maxHeartbeats 4000000
/-! Sets of tuples of any data: whole numbers, texts, None, tuples of these. -/
namespace LB
open PySem PySem.Spec PyProof.Rows L2
abbrev NIs (h : Heap) (k : NestedKey) (x : Addr) : Prop := NestedIs h k (.ref x) ∧ k.depth ≤ 8
section
variable {P : Program} {w : World}
/-- none of it is of an own class -/
def NoCls (P : Program) (w : World) (n : Nat) (s : Shared) (v : Value) : Prop := ∀ (A : Around) (E : Value → Shared → Prop) (Q : Bool → Shared → Prop), Q false s → wpAny (model P w) A (ofAClassStatement n v) Q E s
theorem noCls_tup {n : Nat} {s : Shared} {a : Addr} {o : Obj} {vs : Array Value} {m : Nat} (ho : s.heap.get? a = some o) (hc : o.cls = .type "tuple") (hd : o.data = .seq vs m) (each : ∀ v ∈ vs.toList, NoCls P w n s v) : NoCls P w (n + 1) s (.ref a) := fun A E Q fin => by
  have ty : s.TypeIs (.ref a) "tuple" := ⟨o, ho, hc⟩
  unfold ofAClassStatement
  refine wpAny_bind (wpAny_typeOf ty ?_)
  have e1 : (("tuple" : String) == "tuple") = true := by decide
  simp only [e1, if_true, Bool.not_true, Bool.false_eq_true, if_false]
  first | refine wpAny_bind (wpAny_pure ?_) | skip
  first | simp only [Bool.not_true, Bool.false_eq_true, if_false] | skip
  refine wpAny_bind (m := seqItems? (.ref a)) (wpAny_seqItems ho hd ?_)
  dsimp only
  refine wpAny_bind ?_
  show wpAny _ _ (forIn vs _ _) _ _ s
  rw [← Array.forIn_toList]
  refine wpAny_forIn_list _ (fun left r t => r.1 = none ∧ t = s ∧ ∀ v ∈ left, NoCls P w n s v) _ ?_ ?_ _ _ ⟨rfl, rfl, each⟩
  · rintro v left r t ⟨hr, rfl, al⟩
    refine wpAny_bind (al v List.mem_cons_self _ _ _ ?_)
    simp only [Bool.false_eq_true, if_false]
    exact wpAny_pure ⟨rfl, rfl, fun u hu => al u (List.mem_cons_of_mem _ hu)⟩
  · rintro ⟨r1, r2⟩ t ⟨hr, rfl, _⟩
    obtain rfl : r1 = none := hr
    exact wpAny_pure fin
theorem noCls_val {n : Nat} {s : Shared} {v : Value} (h : carriedByValue v = true) : NoCls P w n s v := fun A E Q fin => by
  have e : ofAClassStatement n v = pure false := by
    cases v <;> first | (exact absurd (show false = true from h) Bool.false_ne_true) | (cases n <;> rfl)
  rw [e]
  exact wpAny_pure fin
mutual
theorem noCls_key : ∀ (k : NestedKey) (v : Value) (n : Nat) (s : Shared), NestedIs s.heap k v → k.depth ≤ n → NoCls P w n s v
  | .none, _, n, s, x, _ => by cases x; exact noCls_val rfl
  | .num i, _, n, s, x, _ => by cases x <;> exact noCls_val rfl
  | .text y, _, n, s, x, _ => by cases x; exact noCls_val rfl
  | .tup ks, _, n, s, x, hn => by
    cases x with
    | tup g1 g2 g3 g4 =>
      rw [NestedKey.depth] at hn
      match n, hn with
      | n + 1, hn => exact noCls_tup g1 g2 g3 (noCls_keys ks _ n s g4 (by omega))
theorem noCls_keys : ∀ (ks : List NestedKey) (vs : List Value) (n : Nat) (s : Shared), NestedAll s.heap ks vs → NestedKey.depthAll ks ≤ n → ∀ v ∈ vs, NoCls P w n s v
  | [], _, n, s, x, _, v, hv => by cases x; cases hv
  | k :: ks, _, n, s, x, hn, v, hv => by
    cases x with
    | cons x1 x2 =>
      rw [NestedKey.depthAll] at hn
      cases hv with
      | head => exact noCls_key k _ n s x1 (by omega)
      | tail _ hv => exact noCls_keys ks _ n s x2 (by omega) v hv
end
/-- whether its hash hangs on its value alone: some truth -/
def HashB (P : Program) (w : World) (n : Nat) (s : Shared) (v : Value) : Prop := ∀ (A : Around) (E : Value → Shared → Prop) (Q : Bool → Shared → Prop), (∀ b, Q b s) → wpAny (model P w) A (hashByValue n v) Q E s
theorem hashB_tup {n : Nat} {s : Shared} {a : Addr} {o : Obj} {vs : Array Value} {m : Nat} (ho : s.heap.get? a = some o) (hc : o.cls = .type "tuple") (hd : o.data = .seq vs m) (each : ∀ v ∈ vs.toList, HashB P w n s v) : HashB P w (n + 1) s (.ref a) := fun A E Q fin => by
  have ty : s.TypeIs (.ref a) "tuple" := ⟨o, ho, hc⟩
  unfold hashByValue
  refine wpAny_bind (wpAny_specialOf ty PySem.F.slot_tuple_hash.lookup ?_)
  refine wpAny_bind (m := seqItems? (.ref a)) (wpAny_seqItems ho hd ?_)
  refine wpAny_bind ?_
  show wpAny _ _ (forIn vs _ _) _ _ s
  rw [← Array.forIn_toList]
  refine wpAny_forIn_list _ (fun left r t => t = s ∧ ∀ v ∈ left, HashB P w n s v) _ ?_ ?_ _ _ ⟨rfl, each⟩
  · rintro v left r t ⟨rfl, al⟩
    refine wpAny_bind (al v List.mem_cons_self _ _ _ fun b => ?_)
    cases b
    · simp only [Bool.not_false, if_true]
      exact wpAny_pure (wpAny_pure (fin _))
    · simp only [Bool.not_true, Bool.false_eq_true, if_false]
      exact wpAny_pure ⟨rfl, fun u hu => al u (List.mem_cons_of_mem _ hu)⟩
  · rintro ⟨r1, r2⟩ t ht
    cases r1 with
    | none => obtain ⟨rfl, _⟩ := ht; exact wpAny_pure (fin _)
    | some b => obtain ⟨rfl, _⟩ := ht; exact wpAny_pure (fin _)
theorem hashB_val {n : Nat} {s : Shared} {v : Value} {b : Bool} (h : hashByValue n v = pure b) : HashB P w n s v := fun A E Q fin => by
  rw [h]
  exact wpAny_pure (fin b)
mutual
theorem hashB_key : ∀ (k : NestedKey) (v : Value) (n : Nat) (s : Shared), NestedIs s.heap k v → k.depth ≤ n → HashB P w n s v
  | .none, _, n, s, x, _ => by cases x; exact hashB_val (b := true) (by cases n <;> rfl)
  | .num i, _, n, s, x, _ => by cases x <;> exact hashB_val (b := true) (by cases n <;> rfl)
  | .text y, _, n, s, x, _ => by cases x; exact hashB_val (b := false) (by cases n <;> rfl)
  | .tup ks, _, n, s, x, hn => by
    cases x with
    | tup g1 g2 g3 g4 =>
      rw [NestedKey.depth] at hn
      match n, hn with
      | n + 1, hn => exact hashB_tup g1 g2 g3 (hashB_keys ks _ n s g4 (by omega))
theorem hashB_keys : ∀ (ks : List NestedKey) (vs : List Value) (n : Nat) (s : Shared), NestedAll s.heap ks vs → NestedKey.depthAll ks ≤ n → ∀ v ∈ vs, HashB P w n s v
  | [], _, n, s, x, _, v, hv => by cases x; cases hv
  | k :: ks, _, n, s, x, hn, v, hv => by
    cases x with
    | cons x1 x2 =>
      rw [NestedKey.depthAll] at hn
      cases hv with
      | head => exact hashB_key k _ n s x1 (by omega)
      | tail _ hv => exact hashB_keys ks _ n s x2 (by omega) v hv
end
/-- a search among such tuples shows nothing -/
theorem unseen {A : Around} {E : Value → Shared → Prop} {s : Shared} {k : NestedKey} {b : Addr} {Q : Bool → Shared → Prop} (hk : NIs s.heap k b) {ys : List Value} (hy : ∀ y ∈ ys, ∃ j c, y = Value.ref c ∧ NIs s.heap j c) (fin : Q false s) :
    wpAny (model P w) A (searchCouldBeSeen (.ref b) ys) Q E s := by
  unfold searchCouldBeSeen
  refine wpAny_bind ?_
  refine wpAny_forIn_list _ (fun left r t => r.1 = none ∧ t = s ∧ ∀ y ∈ left, ∃ j c, y = Value.ref c ∧ NIs s.heap j c) _ ?_ ?_ _ _ ⟨rfl, rfl, hy⟩
  · rintro v left r t ⟨hr, rfl, al⟩
    obtain ⟨j, c, rfl, hc⟩ := al v List.mem_cons_self
    have more : ∀ y ∈ left, ∃ j c, y = Value.ref c ∧ NIs t.heap j c := fun u hu => al u (List.mem_cons_of_mem _ hu)
    dsimp only
    split
    · exact wpAny_pure ⟨rfl, rfl, more⟩
    · refine wpAny_bind (quiet_key _ _ 8 _ hk.1 hk.2 _ _ _ ?_)
      simp only [Bool.not_true, Bool.false_eq_true, if_false]
      refine wpAny_bind (quiet_key _ _ 8 _ hc.1 hc.2 _ _ _ ?_)
      simp only [Bool.not_true, Bool.false_eq_true, if_false]
      refine wpAny_bind (noCls_key _ _ 8 _ hk.1 hk.2 _ _ _ ?_)
      simp only [Bool.false_eq_true, if_false]
      refine wpAny_bind (noCls_key _ _ 8 _ hc.1 hc.2 _ _ _ ?_)
      simp only [Bool.false_eq_true, if_false]
      exact wpAny_pure ⟨rfl, rfl, more⟩
  · rintro ⟨r1, r2⟩ t ⟨hr, rfl, _⟩
    obtain rfl : r1 = none := hr
    exact wpAny_pure fin
end
/-! ### the set -/
abbrev EnS (w : World) (L : List (Addr × NestedKey)) : List (Int × Value) := L.map fun p => (p.2.hash w, Value.ref p.1)
structure NS (w : World) (h : Heap) (a : Addr) (L : List (Addr × NestedKey)) (es : Array (Int × Value)) (ep : Nat) (t : SetTable) : Prop where
  ob : ∃ o, h.get? a = some o ∧ o.ExactSet ∧ o.data = .set es ep t
  en : es.toList = EnS w L
  tb : TabOk t (L.map fun p => p.2.hash w)
  nd : (L.map (·.2)).Nodup
  el : ∀ p ∈ L, NIs h p.2 p.1
  ld : w.params.followText "set-order" = true ∨ t.led = true
  rm : L.length * 5 < t.mask * 3
  fw : L.length < 64
/-- the c-th step of the way of a hash -/
abbrev stp0 (m : Nat) (h : Int) (c : Nat) : SetTable.Probe := nth m (runAt m (SetTable.bits h % (m + 1)) (SetTable.bits h)) c
section
variable {P : Program} {w : World} {A : Around} {E : Value → Shared → Prop} {s : Shared} {a : Addr} {L : List (Addr × NestedKey)} {es : Array (Int × Value)} {ep : Nat} {t : SetTable}
theorem NS.sz (R : NS w s.heap a L es ep t) : es.size = L.length := by
  have h := congrArg List.length R.en
  rwa [Array.length_toList, List.length_map] at h
theorem NS.fits (R : NS w s.heap a L es ep t) : t.fits es.size = true := by
  have h1 := R.tb.sz
  have h2 := R.rm
  rw [List.length_map] at h1
  simp only [SetTable.fits, SetTable.fill, R.tb.dm, R.sz, h1, beq_self_eq_true, Bool.true_and, decide_eq_true_eq]
  show L.length + 0 ≤ t.mask
  omega
theorem NS.at_ (R : NS w s.heap a L es ep t) {i : Nat} {p : Addr × NestedKey} (h : L[i]? = some p) : es[i]? = some (p.2.hash w, Value.ref p.1) := by
  rw [← Array.getElem?_toList, R.en, List.getElem?_map, h]; rfl
theorem NS.gone (R : NS w s.heap a L es ep t) : ¬ t.gaveWay = true := by
  unfold SetTable.gaveWay
  rw [mask_odd R.tb.mok]
  decide
theorem nth_dm (m : Nat) : ∀ (n : Nat) (p : SetTable.Probe), p.dummy = none → (nth m p n).dummy = none
  | 0, _, h => h
  | n + 1, p, h => nth_dm m n (adv m p) (by unfold adv; split <;> exact h)
theorem NS.search (R : NS w s.heap a L es ep t) {x : Addr} {k : NestedKey} (hx : NIs s.heap k x) (hu : A.units + 8 < cLine) {K : Nat} (hF : K < 10 * SetTable.turns t.mask)
    (hK : way t.mask (k.hash w) K ∉ t.place.toList) (hB : ∀ c, c < K → way t.mask (k.hash w) c ∈ t.place.toList) {Q : SetFound → Shared → Prop}
    (yes : k ∈ L.map (·.2) → Q (.there none) s) (no : k ∉ L.map (·.2) → Q (.free (way t.mask (k.hash w) K) false) s) :
    ∀ (f c : Nat) (stand : Option SetTable.Probe), stand.getD (t.probeStart (k.hash w)) = stp0 t.mask (k.hash w) c → c ≤ K → K - c < f →
      (∀ (i : Nat) p, L[i]? = some p → p.2 = k → ∃ d, c ≤ d ∧ d < K ∧ t.place.toList[i]? = some (way t.mask (k.hash w) d)) →
      wpAny (model P w) A (setSearchFrom a (.ref x) (k.hash w) true f stand) Q E s
  | 0, c, stand, _, _, hf, _ => by omega
  | f + 1, c, stand, hst, hc, hf, far => by
    obtain ⟨o, ho, hex, hd⟩ := R.ob
    generalize hh : k.hash w = h at *
    rw [setSearchFrom_succ]
    refine wpAny_bind (wpAny_setState_of ho hd R.fits ?_)
    dsimp only
    rw [if_neg R.gone]
    first | refine wpAny_bind (wpAny_pure ?_) | skip
    have sh : ∀ q, nth t.mask (stp0 t.mask h c) q = stp0 t.mask h (c + q) := fun q => (nth_add t.mask c _ q).symm
    have hJ : ∀ q, (nth t.mask (stp0 t.mask h c) q).j = way t.mask h (c + q) := fun q => by rw [sh]
    have hashAt : ∀ (i : Nat) p, L[i]? = some p → (es[i]?.map (·.1)).getD 0 = p.2.hash w := fun i p hp => by rw [R.at_ hp]; rfl
    have spec := go_spec t R.tb.ris R.tb.dm (fun i => (es[i]?.map (·.1)).getD 0) h (10 * SetTable.turns t.mask) (K - c) (stp0 t.mask h c) (nth_dm _ _ _ rfl) (by omega)
      (fun q hq => by rw [hJ]; exact hB _ (by omega)) (by rw [hJ, show c + (K - c) = K by omega]; exact hK)
    rcases spec with ⟨q, i, hq, hi, he, none_, pr⟩ | ⟨none_, pr⟩
    · have pr' : t.probe (fun i => (es[i]?.map (·.1)).getD 0) h (stand.getD (t.probeStart h)) = some (.candidate (way t.mask h (c + q)) i (stp0 t.mask h (c + (q + 1)))) := by
        rw [hst, ← sh, ← hJ q]; exact pr
      rw [pr']
      dsimp only
      rw [hJ] at hi
      have hil : i < L.length := by
        obtain ⟨h1, _⟩ := List.getElem?_eq_some_iff.mp hi
        have h2 := R.tb.sz
        rw [List.length_map] at h2
        rw [Array.length_toList] at h1
        omega
      obtain ⟨p, hp⟩ : ∃ p, L[i]? = some p := ⟨L[i], List.getElem?_eq_getElem hil⟩
      have hm : p ∈ L := List.mem_of_getElem? hp
      have go : wpAny (model P w) A (searchRest a (.ref x) h true f es t (way t.mask h (c + q)) i (stp0 t.mask h (c + (q + 1)))) Q E s := by
        unfold searchRest
        rw [R.at_ hp]
        dsimp only
        refine wpAny_bind (wpAny_holding ((nestedKind P w).eqBool (x := p.2) (y := k) hu (R.el p hm) hx ?_))
        refine wpAny_bind (wpAny_setState_of ho hd R.fits ?_)
        dsimp only
        by_cases e : p.2 = k
        · simp only [e, decide_true, Bool.and_self, if_true]
          exact wpAny_pure (yes (List.mem_map.mpr ⟨p, hm, e⟩))
        · simp only [e, decide_false, Bool.and_false, Bool.false_eq_true, if_false]
          first | refine wpAny_bind (wpAny_pure ?_) | skip
          rw [sameMem]
          dsimp only
          have sl : t.slot (way t.mask h (c + q)) = .live i := slot_live R.tb.ris hi
          simp only [if_true, sl, R.at_ hp]
          refine wpAny_bind (wpAny_isSame_ref_self (wpAny_bind (wpAny_pure ?_)))
          simp only [if_true, Bool.false_eq_true, if_false]
          have rc := NS.search R hx hu hF (hh ▸ hK) (hh ▸ hB) (Q := Q) yes (hh ▸ no) f (c + (q + 1)) (some (stp0 t.mask h (c + (q + 1)))) (by rw [hh]; rfl) (by omega) (by omega) fun i0 p0 h0 e0 => by
            rw [hh]
            obtain ⟨d, d1, d2, d3⟩ := far i0 p0 h0 e0
            refine ⟨d, ?_, d2, d3⟩
            rcases Nat.lt_trichotomy d (c + q) with z | z | z
            · exact absurd ((hashAt i0 p0 h0).trans ((congrArg (NestedKey.hash w) e0).trans hh)) (none_ (d - c) i0 (by omega) (by rw [hJ, show c + (d - c) = d by omega]; exact d3))
            · subst z
              have s1 := slot_live R.tb.ris d3
              rw [sl] at s1
              cases s1
              rw [hp] at h0
              cases h0
              exact absurd e0 e
            · omega
          rw [hh] at rc
          exact rc
      cases hl : t.led with
      | true =>
        simp only [Bool.not_true, Bool.false_eq_true, if_false]
        first | exact go | (refine wpAny_bind (wpAny_pure ?_); exact go)
      | false =>
        simp only [Bool.not_false, if_true]
        refine wpAny_bind (unseen hx (fun y hy => ?_) ?_)
        · obtain ⟨e, g1, g2⟩ := List.mem_map.mp hy
          have g3 : e ∈ es.toList := by
            have : e ∈ es ∧ e.1 = h := by simpa using g1
            simpa using this.1
          rw [R.en] at g3
          obtain ⟨p2, g4, g5⟩ := List.mem_map.mp g3
          exact ⟨p2.2, p2.1, by rw [← g2, ← g5], R.el p2 g4⟩
        · simp only [Bool.false_eq_true, if_false]
          first | exact go | (refine wpAny_bind (wpAny_pure ?_); exact go)
    · have pr' : t.probe (fun i => (es[i]?.map (·.1)).getD 0) h (stand.getD (t.probeStart h)) = some (.empty (way t.mask h K) none) := by
        have e2 : way t.mask h K = (nth t.mask (stp0 t.mask h c) (K - c)).j := by rw [hJ, show c + (K - c) = K by omega]
        rw [hst, e2]; exact pr
      rw [pr']
      refine wpAny_pure (no fun hm => ?_)
      obtain ⟨p0, g1, g2⟩ := List.mem_map.mp hm
      obtain ⟨i0, g3⟩ := List.mem_iff_getElem?.mp g1
      obtain ⟨d, d1, d2, d3⟩ := far i0 p0 g3 g2
      exact none_ (d - c) i0 (by omega) (by rw [hJ, show c + (d - c) = d by omega]; exact d3) ((hashAt i0 p0 g3).trans ((congrArg (NestedKey.hash w) g2).trans hh))
theorem NS.find (R : NS w s.heap a L es ep t) {x : Addr} {k : NestedKey} (hx : NIs s.heap k x) (hu : A.units + 8 < cLine) {Q : SetFound → Shared → Prop} (yes : k ∈ L.map (·.2) → Q (.there none) s)
    (no : ∀ K, k ∉ L.map (·.2) → way t.mask (k.hash w) K ∉ t.place.toList → (∀ c, c < K → way t.mask (k.hash w) c ∈ t.place.toList) → Q (.free (way t.mask (k.hash w) K) false) s) :
    wpAny (model P w) A (setSearch a (.ref x) (k.hash w) true) Q E s := by
  have rm := R.rm
  obtain ⟨K, c1, c2, c3⟩ := R.tb.first (by rw [List.length_map]; omega) (k.hash w)
  have big : 10 * SetTable.turns t.mask ≤ 1420 := by
    unfold SetTable.turns
    rcases R.tb.mok with e | e | e <;> omega
  unfold setSearch
  refine NS.search R hx hu c1 c2 c3 yes (fun n => no K n c2 c3) 100000 0 none rfl (Nat.zero_le _) (by omega) fun i p hp e => ?_
  have hi : (L.map fun p => p.2.hash w)[i]? = some (k.hash w) := by rw [List.getElem?_map, hp, ← e]; rfl
  have lt : i < t.place.toList.length := by
    have h1 := (List.getElem?_eq_some_iff.mp hi).1
    rw [Array.length_toList, R.tb.sz]
    exact h1
  obtain ⟨d, d1, d2⟩ := R.tb.before c2 hi (List.getElem?_eq_getElem lt)
  exact ⟨d, Nat.zero_le _, d1, by rw [List.getElem?_eq_getElem lt, d2]⟩
end
/-! ### adding -/
theorem fmap_all {α β : Type} {f : α → Option β} {g : α → β} : ∀ {l : List α}, (∀ i ∈ l, f i = some (g i)) → l.filterMap f = l.map g
  | [], _ => rfl
  | i :: l, h => by rw [List.filterMap_cons_some (h i (List.mem_cons_self ..)), fmap_all fun j hj => h j (List.mem_cons_of_mem _ hj)]; rfl
theorem fmap_take {α : Type} (L : List α) : ∀ n, (List.range n).filterMap (fun i => L[i]?) = L.take n
  | 0 => rfl
  | n + 1 => by
    rw [List.range_succ, List.filterMap_append, fmap_take L n, List.take_succ]
    congr 1
theorem ord_en {w : World} {L : List (Addr × NestedKey)} {es : Array (Int × Value)} {order : Array Nat} (hr : es.toList = EnS w L) (hp : order.toList.Perm (List.range L.length)) :
    ∃ L2, (order.filterMap (es[·]?)).toList = EnS w L2 ∧ L2.Perm L ∧ (L2.map fun p => p.2.hash w) = order.toList.map fun i => (es.map (·.1)).getD i 0 := by
  have ent : ∀ i : Nat, es[i]? = (L[i]?).map fun p : Addr × NestedKey => (p.2.hash w, Value.ref p.1) := fun i => by rw [← Array.getElem?_toList, hr, List.getElem?_map]
  refine ⟨order.toList.filterMap fun i => L[i]?, ?_, ?_, ?_⟩
  · rw [Array.toList_filterMap]
    show _ = List.map _ _
    rw [List.map_filterMap]
    exact congrArg (fun f => order.toList.filterMap f) (funext ent)
  · have h := hp.filterMap fun i => L[i]?
    rwa [fmap_take, List.take_length] at h
  · rw [List.map_filterMap]
    refine fmap_all fun i hi => ?_
    have lt : i < L.length := List.mem_range.mp (hp.mem_iff.mp hi)
    have e2 : (es.map (·.1))[i]? = some ((L[i]).2.hash w) := by rw [Array.getElem?_map, ent, List.getElem?_eq_getElem lt]; rfl
    rw [List.getElem?_eq_getElem lt, Array.getD_eq_getD_getElem?, e2]
    rfl
theorem nIs_same {h h' : Heap} {k : NestedKey} {a b : Addr} {o : Obj} {es : Array (Int × Value)} {ep : Nat} {t : SetTable} (hb : NIs h k b) (ho : h.get? a = some o) (hd : o.data = .set es ep t) (hs : Heap.SameBut a h h') : NIs h' k b :=
  ⟨NestedIs.at (fun c oc vs n hc hv => by
    refine (hs.2 c fun e => ?_).trans hc
    subst e
    rw [ho] at hc
    cases hc
    rw [hd] at hv
    cases hv) k _ hb.1, hb.2⟩
theorem nIs_keep {h h' : Heap} {k : NestedKey} {b : Addr} (hb : NIs h k b) (hk : ∀ c o, h.get? c = some o → h'.get? c = some o) : NIs h' k b := ⟨NestedIs.at (fun c o vs n hc _ => hk c o hc) k _ hb.1, hb.2⟩
section
variable {P : Program} {w : World} {A : Around} {E : Value → Shared → Prop} {s : Shared} {a : Addr} {L : List (Addr × NestedKey)} {es : Array (Int × Value)} {ep : Nat} {t : SetTable}
theorem NS.relay {o : Obj} (ho : s.heap.get? a = some o) (hex : o.ExactSet) (hd : o.data = .set es ep t) (en : es.toList = EnS w L) (hf : t.fits es.size = true) (nd : (L.map (·.2)).Nodup) (el : ∀ p ∈ L, NIs s.heap p.2 p.1)
    (ld : w.params.followText "set-order" = true ∨ t.led = true) (fw : L.length < 64) {wanted M : Nat} (hw : SetTable.sizeAbove wanted - 1 = M) (hM : MaskOk M) (hs : SetTable.sizeAbove wanted ≤ 128) (hn : L.length * 5 < M * 3) {Q : Unit → Shared → Prop}
    (fin : ∀ h' L' es' ep' t', Heap.SameBut a s.heap h' → NS w h' a L' es' ep' t' → L'.Perm L → Q () { s with heap := h' }) : wpAny (model P w) A (setRelay a wanted) Q E s := by
  have sz : es.size = L.length := by
    have h := congrArg List.length en
    rwa [Array.length_toList, List.length_map] at h
  obtain ⟨t', order, e, hp, T, em, el', ep', ed⟩ := relaid_ok t (hs := es.map (·.1)) (wanted := wanted) hw hM (by rw [Array.size_map, sz]; omega)
  rw [Array.size_map, sz] at hp
  obtain ⟨L2, r1, r2, r3⟩ := ord_en en hp
  rw [← r3] at T
  have s2 : (order.filterMap (es[·]?)).size = es.size := by
    have h := congrArg List.length r1
    rw [Array.length_toList, List.length_map, r2.length_eq] at h
    rw [h, sz]
  rw [setRelay_eq]
  refine wpAny_bind (wpAny_setState_of ho hd hf ?_)
  dsimp only
  rw [if_neg (by rw [sizeLine_eq]; omega)]
  first | refine wpAny_bind (wpAny_pure ?_) | skip
  rw [e]
  dsimp only
  refine wpAny_bind ?_
  simp only [s2, bne_self_eq_false, Bool.false_eq_true, if_false]
  first | refine wpAny_bind (wpAny_pure ?_) | skip
  refine wpAny_pure ?_
  dsimp only
  refine wpAny_storeSet_of ho hd ?_ (by rw [s2, sz, sizeLine_eq]; omega)
  have sb : Heap.SameBut a s.heap (s.heap.update a (Obj.putSet (order.filterMap (es[·]?)) t')) := Heap.SameBut.update ..
  refine fin _ L2 _ (ep + 1) t' sb ⟨⟨_, store_at ho hd, ⟨hex.1, hex.2.1, hex.2.2⟩, rfl⟩, r1, T, (r2.map (·.2)).nodup_iff.mpr nd, fun p q => nIs_same (el p (r2.mem_iff.mp q)) ho hd sb, by rw [el']; exact ld, by rw [r2.length_eq, em]; exact hn, by rw [r2.length_eq]; exact fw⟩ r2
theorem NS.add (R : NS w s.heap a L es ep t) {x : Addr} {k : NestedKey} (hx : NIs s.heap k x) (hu : A.units + 8 < cLine) (few : L.length + 1 < 64) {Q : Bool → Shared → Prop}
    (fin : ∀ b h' L' es' ep' t', Heap.SameBut a s.heap h' → NS w h' a L' es' ep' t' → (k ∈ L.map (·.2) → L' = L) → (k ∉ L.map (·.2) → L'.Perm ((x, k) :: L)) → Q b { s with heap := h' }) :
    wpAny (model P w) A (setAddHashed a (.ref x) (k.hash w)) Q E s := by
  obtain ⟨o, ho, hex, hd⟩ := R.ob
  have sz := R.sz
  have rm := R.rm
  unfold setAddHashed
  refine wpAny_holding ?_
  rw [show (100000 : Nat) = 99999 + 1 from rfl, setAddHashedIn_succ]
  refine wpAny_bind (wpAny_setState_of ho hd R.fits ?_)
  dsimp only
  rw [if_neg (by simp [byScan, Value.scannable])]
  first | refine wpAny_bind (wpAny_pure ?_) | skip
  refine wpAny_bind (R.find hx hu (fun hm => ?_) fun K hm hK hB => ?_)
  · exact wpAny_pure (fin false s.heap L es ep t (Heap.SameBut.refl a s.heap) R (fun _ => rfl) fun z => absurd hm z)
  · dsimp only
    refine wpAny_bind (wpAny_setState_of ho hd R.fits ?_)
    dsimp only
    obtain ⟨q1, q2, q3, q4, q5, q6, q7, q8, q9⟩ := R.tb.put hK hB
    generalize way t.mask (k.hash w) K = j at q1 q2 q3 q4 q5 q6 q7 q8 q9 hK
    rw [List.length_map] at q2 q9
    generalize hpt : t.put j = pt at *
    obtain ⟨t1, p⟩ := pt
    dsimp only at q1 q3 q4 q5 q6 q7 q8 q9 ⊢
    subst q1
    generalize SetTable.below t.place j = p at *
    have pm : (L.take p ++ (x, k) :: L.drop p).Perm ((x, k) :: L) := by
      have h : (L.take p ++ (x, k) :: L.drop p).Perm ((x, k) :: (L.take p ++ L.drop p)) := List.perm_middle
      rwa [List.take_append_drop] at h
    have en1 : (SetTable.insertAt es p (k.hash w, Value.ref x)).toList = EnS w (L.take p ++ (x, k) :: L.drop p) := by
      rw [SetTable.toList_insertAt, R.en]
      simp [EnS, List.map_take, List.map_drop]
    have tb1 : TabOk t1 ((L.take p ++ (x, k) :: L.drop p).map fun p => p.2.hash w) := by
      have e : (L.take p ++ (x, k) :: L.drop p).map (fun p => p.2.hash w) = (L.map fun p => p.2.hash w).take p ++ k.hash w :: (L.map fun p => p.2.hash w).drop p := by simp [List.map_take, List.map_drop]
      rw [e]; exact q3
    generalize hL1 : L.take p ++ (x, k) :: L.drop p = L1 at *
    generalize SetTable.insertAt es p (k.hash w, Value.ref x) = es1 at *
    have len1 : L1.length = L.length + 1 := pm.length_eq
    have sz1 : es1.size = L.length + 1 := by
      have h := congrArg List.length en1
      rwa [Array.length_toList, List.length_map, len1] at h
    have nd1 : (L1.map (·.2)).Nodup := (pm.map (·.2)).nodup_iff.mpr (List.nodup_cons.mpr ⟨hm, R.nd⟩)
    have tail : ∀ t2 : SetTable, t2.place = t1.place → t2.dummies = t1.dummies → t2.mask = t1.mask → t2.led = t1.led → TabOk t2 (L1.map fun p => p.2.hash w) →
        wpAny (model P w) A (do
          storeSet a es1 t2
          if !false && t2.tooFull then setRelay a (SetTable.grown (es.size + 1))
          return true) Q E s := fun t2 z1 z2 z3 z4 T2 => by
      refine wpAny_bind (wpAny_storeSet_of ho hd ?_ (by rw [sz1, sizeLine_eq]; omega))
      have sb : Heap.SameBut a s.heap (s.heap.update a (Obj.putSet es1 t2)) := Heap.SameBut.update ..
      have ho1 := store_at (es' := es1) (t' := t2) ho hd
      generalize s.heap.update a (Obj.putSet es1 t2) = h1 at sb ho1 ⊢
      have el1 : ∀ p ∈ L1, NIs h1 p.2 p.1 := fun p hp => by
        rcases List.mem_cons.mp (pm.mem_iff.mp hp) with e | hp
        · rw [e]; exact nIs_same hx ho hd sb
        · exact nIs_same (R.el p hp) ho hd sb
      have ld1 : w.params.followText "set-order" = true ∨ t2.led = true := by rw [z4, q5]; exact R.ld
      have fl : t2.fill = L.length + 1 := by
        rw [← q9]
        unfold SetTable.fill
        rw [z1, z2]
      have m2 : t2.mask = t.mask := z3.trans q4
      cases hf : t2.tooFull with
      | true =>
        have full : (L.length + 1) * 5 ≥ t.mask * 3 := by
          unfold SetTable.tooFull at hf
          rw [decide_eq_true_eq, fl, m2] at hf
          exact hf
        have cs : (t.mask = 7 ∧ L.length = 4) ∨ (t.mask = 31 ∧ L.length = 18) := by
          rcases R.tb.mok with e | e | e
          · left; rw [e] at full rm; exact ⟨e, by omega⟩
          · right; rw [e] at full rm; exact ⟨e, by omega⟩
          · rw [e] at full; omega
        have fit1 : t2.fits es1.size = true := by
          have h := T2.sz
          rw [List.length_map, len1] at h
          simp only [SetTable.fits, h, sz1, beq_self_eq_true, Bool.true_and, decide_eq_true_eq]
          rw [fl, m2]
          rcases cs with ⟨e, e2⟩ | ⟨e, e2⟩ <;> omega
        have go : ∀ M, SetTable.sizeAbove (SetTable.grown (L.length + 1)) - 1 = M → MaskOk M → SetTable.sizeAbove (SetTable.grown (L.length + 1)) ≤ 128 → (L.length + 1) * 5 < M * 3 →
            wpAny (model P w) A (setRelay a (SetTable.grown (L.length + 1))) (fun _ s' => wpAny (model P w) A (pure true) Q E s') E { s with heap := h1 } := fun M g1 g2 g3 g4 =>
          NS.relay (s := { s with heap := h1 }) ho1 ⟨hex.1, hex.2.1, hex.2.2⟩ rfl en1 fit1 nd1 el1 ld1 (by rw [len1]; exact few) g1 g2 g3 (by rw [len1]; exact g4) fun h2 L2 es2 ep2 t2 sb2 R2 pm2 =>
            wpAny_pure (fin true h2 L2 es2 ep2 t2 (sb.trans sb2) R2 (fun z => absurd z hm) fun _ => pm2.trans pm)
        simp only [Bool.not_false, Bool.true_and, if_true]
        rw [sz]
        refine wpAny_bind ?_
        rcases cs with ⟨_, e2⟩ | ⟨_, e2⟩
        · exact go 31 (by rw [e2, size_20]) (.inr (.inl rfl)) (by rw [e2, size_20]; decide) (by omega)
        · exact go 127 (by rw [e2, size_76]) (.inr (.inr rfl)) (by rw [e2, size_76]; decide) (by omega)
      | false =>
        simp only [Bool.not_false, Bool.true_and, Bool.false_eq_true, if_false]
        refine wpAny_pure (fin true h1 L1 es1 (ep + 1) t2 sb ⟨⟨_, ho1, ⟨hex.1, hex.2.1, hex.2.2⟩, rfl⟩, en1, T2, nd1, el1, ld1, ?_, by rw [len1]; exact few⟩ (fun z => absurd z hm) fun _ => pm)
        unfold SetTable.tooFull at hf
        rw [decide_eq_false_iff_not, fl, m2] at hf
        rw [len1, m2]
        omega
    have T2 : TabOk { t1 with plain := false } (L1.map fun p => p.2.hash w) := ⟨tb1.ris, tb1.dm, tb1.sz, tb1.mok, tb1.bd, tb1.reach⟩
    cases hp1 : t1.plain with
    | true =>
      simp only [if_true]
      refine wpAny_bind (hashB_key _ _ 8 _ hx.1 hx.2 _ _ _ fun b => ?_)
      cases b with
      | true => exact tail t1 rfl rfl rfl rfl tb1
      | false => exact tail { t1 with plain := false } rfl rfl rfl rfl T2
    | false =>
      simp only [Bool.false_eq_true, if_false]
      refine wpAny_bind (wpAny_pure ?_)
      exact tail t1 rfl rfl rfl rfl tb1
end
end LB
end

section
set_option Elab.async false
set_option linter.all false
set_option maxRecDepth 100000
set_option maxHeartbeats 4000000
/-! Sorting by what things are; sets of tuples sorted. -/
namespace LB
open PySem PySem.Spec PyProof.Rows L2
/-! ### a plain sort -/
section
variable {α : Type}
variable {le : α → α → Bool}
theorem insS_perm (x : α) : ∀ l : List α, (insS le x l).Perm (x :: l)
  | [] => .refl _
  | y :: r => by
    unfold insS
    split
    · exact .refl _
    · exact ((insS_perm x r).cons y).trans (.swap x y r)
theorem isort_perm : ∀ l : List α, (isort le l).Perm l
  | [] => .refl _
  | x :: r => (insS_perm x _).trans ((isort_perm r).cons x)
theorem insS_mem {x y : α} {l : List α} : y ∈ insS le x l ↔ y = x ∨ y ∈ l := by rw [(insS_perm x l).mem_iff, List.mem_cons]
theorem isort_mem {y : α} {l : List α} : y ∈ isort le l ↔ y ∈ l := (isort_perm l).mem_iff
theorem insS_pw (T : PySem.W.TotalLe le) (x : α) : ∀ {l : List α}, l.Pairwise (fun a b => le a b = true) → (insS le x l).Pairwise fun a b => le a b = true
  | [], _ => List.pairwise_singleton _ _
  | y :: r, h => by
    unfold insS
    obtain ⟨h1, h2⟩ := List.pairwise_cons.mp h
    split
    · rename_i c
      refine List.pairwise_cons.mpr ⟨fun z hz => ?_, h⟩
      rcases List.mem_cons.mp hz with e | e
      · rw [e]; exact c
      · exact T.trans _ _ _ c (h1 z e)
    · rename_i c
      refine List.pairwise_cons.mpr ⟨fun z hz => ?_, insS_pw T x h2⟩
      rcases insS_mem.mp hz with e | e
      · rw [e]
        exact (T.total x y).resolve_left c
      · exact h1 z e
theorem isort_pw (T : PySem.W.TotalLe le) : ∀ l : List α, (isort le l).Pairwise fun a b => le a b = true
  | [] => .nil
  | x :: r => insS_pw T x (isort_pw T r)
theorem insS_rank (T : PySem.W.TotalLe le) (x c : α) : ∀ l : List α, (insS le x l).filter (PySem.W.sameRank le c) = (x :: l).filter (PySem.W.sameRank le c)
  | [] => rfl
  | y :: r => by
    unfold insS
    split
    · rfl
    · rename_i h
      have hyx : le y x = true := (T.total x y).resolve_left h
      rw [List.filter_cons, insS_rank T x c r, List.filter_cons, List.filter_cons (x := x), List.filter_cons (x := y)]
      cases h1 : PySem.W.sameRank le c x with
      | false => simp
      | true =>
        cases h2 : PySem.W.sameRank le c y with
        | false => simp
        | true =>
          unfold PySem.W.sameRank at h1 h2
          rw [Bool.and_eq_true] at h1 h2
          exact absurd (T.trans _ _ _ h1.2 h2.1) h
theorem isort_rank (T : PySem.W.TotalLe le) (c : α) : ∀ l : List α, (isort le l).filter (PySem.W.sameRank le c) = l.filter (PySem.W.sameRank le c)
  | [] => rfl
  | x :: r => by
    show (insS le x (isort le r)).filter _ = _
    rw [insS_rank T, List.filter_cons, List.filter_cons, isort_rank T c r]
theorem isort_merge (T : PySem.W.TotalLe le) (l : List α) : isort le l = l.mergeSort le := PySem.W.sort_unique T (isort_pw T l) fun c => isort_rank T c l
/-- a sorted rearrangement is one, where ties are equal -/
theorem sorted_one (T : PySem.W.TotalLe le) : ∀ {l m : List α}, l.Perm m → l.Pairwise (fun a b => le a b = true) → m.Pairwise (fun a b => le a b = true) → (∀ a ∈ l, ∀ b ∈ l, le a b = true → le b a = true → a = b) → l = m
  | [], m, p, _, _, _ => (List.Perm.nil_eq p)
  | x :: l, [], p, _, _, _ => absurd p.length_eq (by simp)
  | x :: l, y :: m, p, h1, h2, an => by
    obtain ⟨a1, a2⟩ := List.pairwise_cons.mp h1
    obtain ⟨b1, b2⟩ := List.pairwise_cons.mp h2
    have e : x = y := by
      have hx : x ∈ y :: m := p.mem_iff.mp (List.mem_cons_self ..)
      have hy : y ∈ x :: l := p.mem_iff.mpr (List.mem_cons_self ..)
      rcases List.mem_cons.mp hx with e | hx
      · exact e
      rcases List.mem_cons.mp hy with e | hy
      · exact e.symm
      exact an x (List.mem_cons_self ..) y (List.mem_cons_of_mem _ hy) (a1 y hy) (b1 x hx)
    subst e
    rw [sorted_one T (List.Perm.cons_inv p) a2 b2 fun a ha b hb => an a (List.mem_cons_of_mem _ ha) b (List.mem_cons_of_mem _ hb)]
theorem isort_congr (T : PySem.W.TotalLe le) {l m : List α} (p : l.Perm m) (an : ∀ a ∈ l, ∀ b ∈ l, le a b = true → le b a = true → a = b) : isort le l = isort le m :=
  sorted_one T ((isort_perm l).trans (p.trans (isort_perm m).symm)) (isort_pw T l) (isort_pw T m) fun a ha b hb => an a (isort_mem.mp ha) b (isort_mem.mp hb)
end
theorem perm_map_inv {α β : Type} {f : α → β} : ∀ {m l : List β}, m.Perm l → ∀ L : List α, m = L.map f → ∃ L1, L.Perm L1 ∧ l = L1.map f := by
  intro m l p
  induction p with
  | nil => intro L h; exact ⟨L, .refl _, h⟩
  | cons x _ ih =>
    intro L h
    cases L with
    | nil => cases h
    | cons y L =>
      rw [List.map_cons] at h
      injection h with h1 h2
      obtain ⟨L1, p1, e1⟩ := ih L h2
      exact ⟨y :: L1, p1.cons y, by rw [List.map_cons, h1, e1]⟩
  | swap x y l =>
    intro L h
    match L, h with
    | a :: b :: L, h =>
      simp only [List.map_cons, List.cons.injEq] at h
      obtain ⟨rfl, rfl, rfl⟩ := h
      exact ⟨b :: a :: L, .swap .., rfl⟩
  | trans _ _ ih1 ih2 =>
    intro L h
    obtain ⟨L1, p1, e1⟩ := ih1 L h
    obtain ⟨L2, p2, e2⟩ := ih2 L1 e1
    exact ⟨L2, p1.trans p2, e2⟩
/-! ### read as data -/
mutual
theorem reads_nil {h : Heap} : ∀ (k : NestedKey) (v : Value) (as : List Addr), Reads h v k.data as → as = []
  | .none, _, _, r => by rw [NestedKey.data] at r; cases r; rfl
  | .num i, _, _, r => by rw [NestedKey.data] at r; cases r; rfl
  | .text y, _, _, r => by rw [NestedKey.data] at r; cases r; rfl
  | .tup ks, _, _, r => by
    rw [NestedKey.data] at r
    cases r with
    | tuple g1 g2 g3 g4 => exact readsAll_nil ks _ _ g4
theorem readsAll_nil {h : Heap} : ∀ (ks : List NestedKey) (vs : List Value) (as : List Addr), ReadsAll h vs (NestedKey.datas ks) as → as = []
  | [], _, _, r => by rw [NestedKey.datas] at r; cases r; rfl
  | k :: ks, _, _, r => by
    rw [NestedKey.datas] at r
    cases r with
    | cons r1 r2 => rw [reads_nil k _ _ r1, readsAll_nil ks _ _ r2]; rfl
end
mutual
theorem depth_data : ∀ k : NestedKey, k.data.depth ≤ k.depth
  | .none => by simp [NestedKey.data, NestedKey.depth, PyData.depth]
  | .num i => by simp [NestedKey.data, NestedKey.depth, PyData.depth]
  | .text y => by simp [NestedKey.data, NestedKey.depth, PyData.depth]
  | .tup ks => by
    have := depths_data ks
    simp only [NestedKey.data, NestedKey.depth, PyData.depth]
    omega
theorem depths_data : ∀ ks : List NestedKey, PyData.depthAll (NestedKey.datas ks) ≤ NestedKey.depthAll ks
  | [] => by simp [NestedKey.datas, NestedKey.depthAll, PyData.depthAll]
  | k :: ks => by
    have := depth_data k
    have := depths_data ks
    simp only [NestedKey.datas, NestedKey.depthAll, PyData.depthAll]
    omega
end
theorem each_eq {β : Type} {f : β → Value} : ∀ {vs : List Value} {bs : List β}, PySem.W.EachIs (fun v b => v = f b) vs bs → vs = bs.map f
  | _, _, .nil => rfl
  | _, _, .cons h t => by rw [h, each_eq t]; rfl
theorem each_of {β : Type} {f : β → Value} {T : Value → β → Prop} : ∀ {bs : List β}, (∀ b ∈ bs, T (f b) b) → PySem.W.EachIs T (bs.map f) bs
  | [], _ => .nil
  | b :: bs, h => .cons (h b (List.mem_cons_self ..)) (each_of fun c hc => h c (List.mem_cons_of_mem _ hc))
section
variable {P : Program} {w : World} {A : Around} {E : Value → Shared → Prop} {s : Shared} {a : Addr} {L : List (Addr × NestedKey)} {es : Array (Int × Value)} {ep : Nat} {t : SetTable}
theorem NS.sorted (R : NS w s.heap a L es ep t) (hh : A.handled = none) (hu : A.units + 20 < cLine) (al : PySem.W.AllAlike (L.map fun p => p.2.data)) (so : PySem.W.Sortable (L.map fun p => p.2.data))
    (rd : ∀ p ∈ L, ∃ as, Reads s.heap (.ref p.1) p.2.data as) {Q : Value → Shared → Prop}
    (fin : ∀ s' p c (L1 : List (Addr × NestedKey)), (∀ b o, s.heap.get? b = some o → s'.heap.get? b = some o) → s'.gens = s.gens → s'.os = s.os → s.heap.objs.size ≤ p → L.Perm L1 →
      s'.heap.get? p = some (seqObj "list" ((L1.mergeSort (PySem.W.dataLe false fun q => q.2.data)).map fun q => Value.ref q.1).toArray c) → Q (.ref p) s') :
    wpAny (model P w) A (call (.builtin "sorted") [.ref a]) Q E s := by
  obtain ⟨o, ho, hex, hd⟩ := R.ob
  have sz := R.sz
  have fw := R.fw
  refine Calls.call_function_entry kind_sorted plain_sorted entry_sorted (args_sorted1 _) ?_
  unfold Builtin.«sorted»
  refine wpAny_bind (m := checkCount "sorted" 1 1 _) (wpAny_pure ?_)
  refine wpAny_bind (collect_set (A := A.in1) hh ⟨o, ho, hex.1, hd⟩ R.fits (by unfold scanBound; omega) R.tb.ris R.ld fun s1 vs k1 z1 g1 o1 pm => ?_)
  have e1 : es.toList.map (·.2) = L.map fun q => Value.ref q.1 := by rw [R.en, List.map_map]; rfl
  rw [e1] at pm
  obtain ⟨L1, pL, rfl⟩ := perm_map_inv pm.symm L rfl
  have len1 : L1.length < 64 := by rw [← pL.length_eq]; exact fw
  refine wpAny_bind (wpAny_newList ?_ (by rw [List.length_map, sizeLine_eq]; omega))
  have oL : (s1.heap.push (seqObj "list" (L1.map fun q => Value.ref q.1).toArray 0)).get? s1.heap.objs.size = some (seqObj "list" (L1.map fun q => Value.ref q.1).toArray 0) := Heap.get?_push_size _ rfl
  have mem : ∀ q ∈ L1, q ∈ L := fun q hq => pL.mem_iff.mpr hq
  have pd : (L.map fun p => p.2.data).Perm (L1.map fun p => p.2.data) := pL.map _
  refine wpAny_bind (wpAny_holding (PySem.W.list_sort_data (s := { s1 with heap := s1.heap.push (seqObj "list" (L1.map fun q => Value.ref q.1).toArray 0) }) (R := fun v q => v = Value.ref q.1) (enc := fun q => q.2.data) (bs := L1) oL (each_of fun q _ => rfl) (each_of fun q hq => ?_) ?_ ?_ (by rw [sizeLine_eq]; omega) (fun q hq => ?_) fun out a1 a2 => ?_))
  · obtain ⟨as, r⟩ := rd q (mem q hq)
    obtain rfl := reads_nil _ _ _ r
    exact ⟨[], PyProof.Rows.Reads.keeps (fun b u e => Heap.get?_push_of_some _ (k1 b u e)) r, by simp⟩
  · exact fun x hx y hy => al x (pd.mem_iff.mpr hx) y (pd.mem_iff.mpr hy)
  · rcases so with h | h
    · exact .inl fun x hx => h x (pd.mem_iff.mpr hx)
    · exact .inr fun x hx => h x (pd.mem_iff.mpr hx)
  · have h1 := depth_data q.2
    have h2 := (R.el q (mem q hq)).2
    simp only [Around.in1] at *
    omega
  · obtain rfl := each_eq a2
    obtain ⟨c, hc⟩ := sortedHeap_at (vs := L1.map fun q => Value.ref q.1) (out := ((L1.mergeSort (PySem.W.dataLe false fun q => q.2.data)).map fun q => Value.ref q.1).toArray) oL
    refine wpAny_pure ⟨_, rfl, fin _ s1.heap.objs.size c L1 (fun b u e => ?_) g1 o1 z1 pL hc⟩
    have q := k1 b u e
    have lt := Heap.lt_size q
    refine (sortedHeap_old (Nat.ne_of_lt lt) (by rw [size_push']; exact Nat.lt_succ_of_lt lt)).trans (Heap.get?_push_of_some _ q)
/-- d.add(x) -/
theorem NS.addCall (R : NS w s.heap a L es ep t) {x : Addr} {k : NestedKey} (hx : NIs s.heap k x) (hu : A.units + 20 < cLine) (few : L.length + 1 < 64) {Q : Value → Shared → Prop}
    (fin : ∀ h' tk L' es' ep' t', Heap.SameBut a s.heap h' → NS w h' a L' es' ep' t' → (k ∈ L.map (·.2) → L' = L) → (k ∉ L.map (·.2) → L'.Perm ((x, k) :: L)) → Q .none { s with heap := h', toks := tk }) :
    wpAny (model P w) A (call (.builtin "set.add") [.ref a, .ref x]) Q E s := by
  obtain ⟨o, ho, hex, hd⟩ := R.ob
  refine wpAny_call_entry PySem.F.slot_set_add (show s.TypeIs (.ref a) "set" from ⟨o, ho, hex.1⟩) PySem.F.entry_set_add ?_ (PySem.F.args_set_add_2 _ _)
  unfold Builtin.«set.add» Builtin.Frozenset.oneOther
  simp only [List.isEmpty_nil, LawfulMonad.bind_assoc]
  unfold Builtin.Frozenset.addrOf setAdd
  refine wpAny_bind (wpAny_pure ?_)
  try dsimp only
  refine wpAny_bind (wpAny_pure ?_)
  try dsimp only
  refine wpAny_bind (wpAny_holding (wpAny_bind ((nestedKind P w).pyHash (k := k) (by simp only [nestedKind, Around.in1]; omega) hx ?_)))
  refine NS.add (s := { s with toks := s.toks + k.draws }) ⟨R.ob, R.en, R.tb, R.nd, R.el, R.ld, R.rm, R.fw⟩ hx (by simp only [Around.in1]; omega) few fun b h' L' es' ep' t' sb R' c1 c2 => ?_
  show wpAny _ _ (ret Value.none) _ _ _
  exact wpAny_pure ⟨_, rfl, fin h' _ L' es' ep' t' sb R' c1 c2⟩
end
end LB
end

section
set_option Elab.async false
set_option linter.all false
set_option maxRecDepth 100000
set_option maxHeartbeats 4000000
/-! Sets of data, sorted lists of data: over the layer's worlds. -/
namespace LB
open PySem PySem.Spec PyProof.Rows L2
/-! ### keys -/
mutual
theorem ofN_key : ∀ (d : D) (k : NestedKey), keyN d = some k → ofN k = d
  | .non, _, h => by simp only [keyN] at h; cases h; rfl
  | .int i, _, h => by simp only [keyN] at h; cases h; rfl
  | .str x, _, h => by simp only [keyN] at h; cases h; rfl
  | .tup ds, _, h => by
    simp only [keyN] at h
    cases e : keyNs ds with
    | none => rw [e] at h; cases h
    | some ks => rw [e] at h; cases h; rw [ofN, ofNs_keys ds ks e]
  | .bl _, _, h => by simp [keyN] at h
  | .lst _, _, h => by simp [keyN] at h
  | .scr _, _, h => by simp [keyN] at h
  | .ref _, _, h => by simp [keyN] at h
  | .exc _ _ _, _, h => by simp [keyN] at h
  | .dct _ _, _, h => by simp [keyN] at h
  | .fn _, _, h => by simp [keyN] at h
  | .kdc _ _, _, h => by simp [keyN] at h
theorem ofNs_keys : ∀ (ds : List D) (ks : List NestedKey), keyNs ds = some ks → ofNs ks = ds
  | [], _, h => by simp only [keyNs] at h; cases h; rfl
  | d :: ds, _, h => by
    simp only [keyNs] at h
    cases e1 : keyN d with
    | none => rw [e1] at h; cases h
    | some x =>
      cases e2 : keyNs ds with
      | none => rw [e1, e2] at h; cases h
      | some xs => rw [e1, e2] at h; cases h; rw [ofNs, ofN_key d x e1, ofNs_keys ds xs e2]
end
mutual
theorem pyD_ofN : ∀ k : NestedKey, pyD (ofN k) = some k.data
  | .none => by simp [ofN, pyD, NestedKey.data]
  | .num i => by simp [ofN, pyD, NestedKey.data]
  | .text x => by simp [ofN, pyD, NestedKey.data]
  | .tup ks => by simp [ofN, pyD, NestedKey.data, pyDs_ofNs ks]
theorem pyDs_ofNs : ∀ ks : List NestedKey, pyDs (ofNs ks) = some (NestedKey.datas ks)
  | [] => by simp [ofNs, pyDs, NestedKey.datas]
  | k :: ks => by simp [ofNs, pyDs, NestedKey.datas, pyD_ofN k, pyDs_ofNs ks]
end
section
variable {X : Cx} {g : Sg} {pins : List (Addr × Obj)} {σ : L2.St} {W : Wd} {st : Sto} {H : Hp} {s : Shared}
mutual
theorem rep_nis (hK : X.K = g.K) (S : Sim g W st H) (I : Inv X pins σ H s) : ∀ (k : NestedKey) (v : V) (u : Value), Rep W v (ofN k) → RelV v u → NestedIs s.heap k u
  | .none, _, _, r, h => by rw [ofN] at r; cases r; cases h; exact .none
  | .num i, _, _, r, h => by rw [ofN] at r; cases r; obtain ⟨t, rfl⟩ := h; exact .int i t
  | .text x, _, _, r, h => by rw [ofN] at r; cases r; obtain ⟨t, rfl⟩ := h; exact .text x t
  | .tup ks, _, _, r, h => by
    rw [ofN] at r
    cases r with
    | @tup a vs _ q r =>
      obtain rfl := h
      obtain ⟨its, rv, ⟨o, ho, hc, n, hd⟩, _⟩ := I.tuple (hK ▸ S.tu _ _ q)
      exact .tup ho hc hd (by simpa using reps_nis hK S I ks vs its r rv)
theorem reps_nis (hK : X.K = g.K) (S : Sim g W st H) (I : Inv X pins σ H s) : ∀ (ks : List NestedKey) (vs : List V) (us : List Value), Reps W vs (ofNs ks) → Vals vs us → NestedAll s.heap ks us
  | [], _, _, r, h => by rw [ofNs] at r; cases r; cases h; exact .nil
  | k :: ks, _, _, r, h => by
    rw [ofNs] at r
    cases r with
    | cons r1 r2 =>
      cases h with
      | cons h1 h2 => exact .cons (rep_nis hK S I k _ _ r1 h1) (reps_nis hK S I ks _ _ r2 h2)
end
theorem rep_reads (hK : X.K = g.K) (S : Sim g W st H) (I : Inv X pins σ H s) {v : V} {d : D} {x : PyData} {u : Value} (r : Rep W v d) (h : pyD d = some x) (ru : RelV v u) : ∃ as, Reads s.heap u x as :=
  Dp.reads I x v u (hK ▸ dp_of S r h) ru
end
/-! ### the order -/
theorem leD_T : PySem.W.TotalLe leD := PySem.W.sortLe_total _ _ _
theorem alikeB_ok {ps : List PyData} (h : alikeB ps = true) : PySem.W.AllAlike ps := fun x hx y hy => by
  simp only [alikeB, List.all_eq_true] at h
  exact h x hx y hy
theorem sortable_ok {ps : List PyData} (h : (ps.all tup1 || ps.all noTN) = true) : PySem.W.Sortable ps := by
  rw [Bool.or_eq_true] at h
  rcases h with h | h
  · refine .inl fun x hx => ?_
    have := List.all_eq_true.mp h x hx
    unfold tup1 at this
    split at this
    · exact ⟨_, _, rfl⟩
    · cases this
  · refine .inr fun x hx => ?_
    have := List.all_eq_true.mp h x hx
    unfold noTN at this
    split at this
    · cases this
    · cases this
    · exact ⟨by assumption, by assumption⟩
theorem leD_data {α : Type} {f : α → D} {e : α → PyData} (h : ∀ a, pyD (f a) = some (e a)) (a b : α) : PySem.W.dataLe false e a b = leD (f a) (f b) := by
  show (!(listOrd itemOrd).blt (PySem.W.keyToks (e b)) (PySem.W.keyToks (e a))) = !(listOrd itemOrd).blt (tokD (f b)) (tokD (f a))
  simp only [tokD, h]
mutual
theorem eqv_key : ∀ (k j : NestedKey), PySem.W.alike k.data j.data = true → PyData.eqv k.data j.data = true → k = j
  | .none, j, h, e => by cases j <;> simp [NestedKey.data, PySem.W.alike, PyData.eqv] at h e ⊢
  | .num i, j, h, e => by cases j <;> simp [NestedKey.data, PySem.W.alike, PyData.eqv] at h e ⊢; exact e
  | .text x, j, h, e => by cases j <;> simp [NestedKey.data, PySem.W.alike, PyData.eqv] at h e ⊢; exact e
  | .tup ks, j, h, e => by
    cases j with
    | tup js =>
      simp only [NestedKey.data, PySem.W.alike, PyData.eqv] at h e
      rw [eqv_keys ks js h e]
    | _ => simp [NestedKey.data, PySem.W.alike] at h
theorem eqv_keys : ∀ (ks js : List NestedKey), PySem.W.alikeAll (NestedKey.datas ks) (NestedKey.datas js) = true → PyData.eqvAll (NestedKey.datas ks) (NestedKey.datas js) = true → ks = js
  | [], [], _, _ => rfl
  | [], j :: js, _, e => by simp [NestedKey.datas, PyData.eqvAll] at e
  | k :: ks, [], _, e => by simp [NestedKey.datas, PyData.eqvAll] at e
  | k :: ks, j :: js, h, e => by
    simp only [NestedKey.datas] at h e
    obtain ⟨h1, h2⟩ := PySem.W.alike_all_cons h
    rw [PySem.W.eqv_all_cons, Bool.and_eq_true] at e
    rw [eqv_key k j h1 e.1, eqv_keys ks js h2 e.2]
end
theorem leD_anti {k j : NestedKey} (al : PySem.W.alike k.data j.data = true) (h1 : leD (ofN k) (ofN j) = true) (h2 : leD (ofN j) (ofN k) = true) : k = j := by
  have e1 : tokD (ofN k) = PySem.W.keyToks k.data := by rw [tokD, pyD_ofN]
  have e2 : tokD (ofN j) = PySem.W.keyToks j.data := by rw [tokD, pyD_ofN]
  have g1 : PyProof.Rows.lexLt itemOrd (PySem.W.keyToks j.data) (PySem.W.keyToks k.data) = false := by
    have : (!PyProof.Rows.lexLt itemOrd (tokD (ofN j)) (tokD (ofN k))) = true := h1
    rw [e1, e2] at this
    simpa using this
  have g2 : PyProof.Rows.lexLt itemOrd (PySem.W.keyToks k.data) (PySem.W.keyToks j.data) = false := by
    have : (!PyProof.Rows.lexLt itemOrd (tokD (ofN k)) (tokD (ofN j))) = true := h2
    rw [e1, e2] at this
    simpa using this
  have te := lex_total _ _ g2 g1
  refine eqv_key k j al ?_
  cases ev : PyData.eqv k.data j.data with
  | true => rfl
  | false =>
    have z := (PySem.W.toks_eqv k.data j.data al).2 ev [] [Sum.inl 0]
    rw [te, PySem.W.lex_pre] at z
    rw [lex_irrefl] at z
    exact absurd z (by decide)
end LB
end

section
set_option Elab.async false
set_option linter.all false
set_option maxRecDepth 100000
set_option maxHeartbeats 4000000
/-! Sets of data over the layer's worlds: adding, sorting. -/
namespace LB
open PySem PySem.Spec PyProof.Rows L2
def NS0 (w : World) (h : Heap) (a : Addr) (L : List (Addr × NestedKey)) : Prop :=
  ∃ (es : Array (Int × Value)) (ep : Nat) (t : SetTable), (∃ o, h.get? a = some o ∧ o.ExactSet ∧ o.data = .set es ep t) ∧ es.toList = EnS w L ∧ TabOk t (L.map fun p => p.2.hash w) ∧ (L.map (·.2)).Nodup ∧
    (w.params.followText "set-order" = true ∨ t.led = true) ∧ L.length * 5 < t.mask * 3 ∧ L.length < 64
theorem NS0.full {w : World} {h : Heap} {a : Addr} {L : List (Addr × NestedKey)} (r : NS0 w h a L) (el : ∀ p ∈ L, NIs h p.2 p.1) : ∃ es ep t, NS w h a L es ep t :=
  let ⟨es, ep, t, h1, h2, h3, h4, h5, h6, h7⟩ := r; ⟨es, ep, t, h1, h2, h3, h4, el, h5, h6, h7⟩
theorem NS.less {w : World} {h : Heap} {a : Addr} {L : List (Addr × NestedKey)} {es : Array (Int × Value)} {ep : Nat} {t : SetTable} (R : NS w h a L es ep t) : NS0 w h a L := ⟨es, ep, t, R.ob, R.en, R.tb, R.nd, R.ld, R.rm, R.fw⟩
theorem NS0.new {w : World} {h : Heap} {a : Addr} (ho : h.get? a = some (nSet w)) : NS0 w h a [] := by
  refine ⟨#[], 0, _, ⟨_, ho, ⟨rfl, rfl, rfl⟩, rfl⟩, rfl, ⟨List.Pairwise.nil, rfl, rfl, .inl rfl, (fun x z => nomatch z), (fun i h j z => nomatch z)⟩, List.nodup_nil, ?_, (by decide : 0 * 5 < 7 * 3), (by decide : 0 < 64)⟩
  show _ ∨ (!w.params.followText "set-order") = true
  cases w.params.followText "set-order"
  · exact .inr rfl
  · exact .inl rfl
def SetN (w : World) (a : Addr) (L : List (Addr × NestedKey)) : HO := .ext fun h => NS0 w h a L
theorem setN_ok {P : Program} {w : World} {H : Hp} {h : Heap} {a : Addr} {L : List (Addr × NestedKey)} (R : NS0 w h a L) : ObjOk P w H h a (SetN w a L) := by
  obtain ⟨es, ep, t, ⟨o, ho, r⟩, q⟩ := id R
  exact ⟨R, ⟨o, ho⟩, fun h1 h2 p k => let ⟨es', ep', t', ⟨o', ho', r'⟩, q'⟩ := p; ⟨es', ep', t', ⟨o', k o' ho', r'⟩, q'⟩⟩
theorem ext_not {φ : Heap → Prop} {H : Hp} {a : Addr} (e : H a = some (.ext φ)) : (∀ vs, ¬ Rd H a (.tup vs)) ∧ ∀ o u, H a ≠ some (.frz o u) := by
  refine ⟨fun vs h => ?_, fun o u h => ?_⟩
  · rcases h with h | ⟨o, h⟩ <;> · rw [e] at h; cases h
  · rw [e] at h; cases h
/-- a pinned thing of any kind is changed, pinned again -/
theorem extPin {g : Sg} {W1 Wq : Wd} {st : Sto} {H : Hp} {p : Addr} {φ ψ : Heap → Prop} (le : W1.Le Wq) (nP : ∀ o, ¬ W1.pin p o) (S : Sim g Wq st H) (hp : Wq.pin p (.ext φ)) :
    W1.Le ((Wq.noP p).addP p (.ext ψ)) ∧ Wq.LeX ((Wq.noP p).addP p (.ext ψ)) ∧ Sim g ((Wq.noP p).addP p (.ext ψ)) st (upd H p (.ext ψ)) := by
  obtain ⟨h1, h2⟩ := ext_not (S.pin _ _ hp).1
  have S5 : Sim g (Wq.noP p) st (upd H p (.ext ψ)) := S.setP hp h1 h2
  exact ⟨(Wd.noP_le le nP).trans (Wd.addP_le _ _ _), ⟨fun _ _ h => h, fun _ _ h => h, fun _ _ h => h, fun _ _ h => h, rfl, rfl⟩, S5.addP (p := p) upd_same (S.pin _ _ hp).2.1 ⟨trivial, (S.pin _ _ hp).2.2.2⟩⟩
/-- what a set that grows holds: D is the set; tuples, or whole numbers -/
def AccS (w : World) (D : Addr) (W : Wd) : Bool → List NestedKey → Prop
  | true, ks => ∃ L, W.pin D (SetN w D L) ∧ (L.map (·.2)).Perm (uniN ks) ∧ (∀ p ∈ L, p.2.depth ≤ 8) ∧ ∀ p ∈ L, Rep W (.ref p.1) (ofN p.2)
  | false, ks => ∃ ns, ks = ns.map NestedKey.num ∧ W.pin D (SetO w D (OfL (unlike [] ns)) (unlike [] ns).length)
theorem AccS.mono {w : World} {D : Addr} {W W' : Wd} (le : W.Le W') : ∀ {tp : Bool} {ks : List NestedKey}, AccS w D W tp ks → AccS w D W' tp ks
  | true, _, ⟨L, h1, h2, h3, h4⟩ => ⟨L, le.pin _ _ h1, h2, h3, fun p hp => (h4 p hp).mono le⟩
  | false, _, ⟨ns, h1, h2⟩ => ⟨ns, h1, le.pin _ _ h2⟩
theorem uni_one (ks : List NestedKey) (k : NestedKey) : uniN (ks ++ [k]) = stp (uniN ks) k := by
  unfold uniN
  rw [unlike_fold, unlike_fold, List.foldl_append]; rfl
theorem unlike_nodup {α : Type} [DecidableEq α] : ∀ (xs acc : List α), acc.Nodup → (unlike acc xs).Nodup
  | [], acc, h => h
  | x :: xs, acc, h => by
    show (unlike (stp acc x) xs).Nodup
    refine unlike_nodup xs _ ?_
    unfold stp
    split
    · exact h
    · rename_i hx
      exact List.nodup_append.mpr ⟨h, by simp, fun a ha b hb e => by simp at hb; subst hb; subst e; exact hx ha⟩
theorem mem_unlike {α : Type} [DecidableEq α] {y : α} : ∀ (xs acc : List α), y ∈ unlike acc xs ↔ y ∈ acc ∨ y ∈ xs
  | [], acc => by simp [unlike]
  | x :: xs, acc => by
    show y ∈ unlike (stp acc x) xs ↔ _
    rw [mem_unlike xs, mem_stp, List.mem_cons, or_assoc]
section
variable {X : Cx} {g : Sg} {pins : List (Addr × Obj)} {σ : L2.St} {W W1 : Wd} {st : Sto} {H : Hp} {s : Shared} {E : Value → Shared → Prop} {D : Addr}
theorem accS_nil (S : Sim g W st H) (hD : H D = none) (tp : Bool) : ∃ o, (∀ h : Heap, h.get? D = some (nSet X.w) → ObjOk X.prog X.w (upd H D o) h D o) ∧ ∃ W', W.Le W' ∧ W.LeX W' ∧ Sim g W' st (upd H D o) ∧ AccS X.w D W' tp [] := by
  cases tp with
  | true =>
    refine ⟨SetN X.w D [], fun h e => setN_ok (NS0.new e), W.addP D (SetN X.w D []), W.addP_le _ _, (W.addP_le _ _).x, Sim.addP (o := SetN X.w D []) (S.fresh hD) upd_same (S.freeOf hD) ⟨trivial, S.noLi hD⟩, ⟨[], .inr ⟨rfl, rfl⟩, .refl _, (fun p z => nomatch z), (fun p z => nomatch z)⟩⟩
  | false =>
    refine ⟨SetO X.w D (OfL (unlike [] [])) 0, fun h e => setO_new ?_, W.addP D (SetO X.w D (OfL (unlike [] [])) 0), W.addP_le _ _, (W.addP_le _ _).x, Sim.addP (o := SetO X.w D (OfL (unlike [] [])) 0) (S.fresh hD) upd_same (S.freeOf hD) ⟨trivial, S.noLi hD⟩, [], rfl, .inr ⟨rfl, rfl⟩⟩
    have := setR_new_at (ns := []) e
    have e : OfL (unlike [] ([] : List Int)) = fun j => decide (j ∈ ([] : List Int).take 0) := by rw [unlike, ofL_nil]; funext k; simp
    rw [e]; exact this
/-- D.add(x) -/
theorem accS_add (hK : X.K = g.K) (hu : X.A.units + 30 < cLine) (I : Inv X pins σ H s) (S : Sim g W st H) (le : W1.Le W) (nP : ∀ o, ¬ W1.pin D o) {tp : Bool} {ks : List NestedKey} {k : NestedKey} {v : V} {u : Value} (a : AccS X.w D W tp ks) (r : Rep W v (ofN k)) (ru : RelV v u)
    (hd : k.depth ≤ 8) (ht : kindS tp k = true) (few : ks.length + 1 < 64) {Q : Value → Shared → Prop}
    (fin : ∀ s' H' W', Inv X pins σ H' s' → W1.Le W' → W.LeX W' → Sim g W' st H' → AccS X.w D W' tp (ks ++ [k]) → Q .none s') : wpAny (model X.prog X.w) X.A (call (.builtin "set.add") [.ref D, u]) Q E s := by
  cases tp with
  | true =>
    obtain ⟨L, hp, pm, dp, rp⟩ := a
    cases k with
    | tup js =>
      have r' := r
      rw [ofN] at r'
      cases r' with
      | @tup x vs _ q rs =>
        obtain rfl := ru
        have ha := (S.pin _ _ hp).1
        have R0 : NS0 X.w s.heap D L := (I.hok D _ ha).1
        obtain ⟨es, ep, t, R⟩ := R0.full fun p h => ⟨rep_nis hK S I p.2 _ _ (rp p h) rfl, dp p h⟩
        have len : L.length ≤ ks.length := by
          have h1 := pm.length_eq
          have h2 := len_unlike ks []
          rw [List.length_map] at h1
          unfold uniN at h1
          simp only [List.length_nil] at h2
          omega
        refine R.addCall (k := .tup js) (P := X.prog) ⟨rep_nis hK S I _ _ _ r rfl, hd⟩ (by omega) (by omega) fun h' tk L' es' ep' t' sb R' c1 c2 => ?_
        obtain ⟨le', lx', S'⟩ := extPin (ψ := fun h => NS0 X.w h D L') le nP S hp
        have he : ∃ o, h'.get? D = some o := let ⟨o, ho, _⟩ := R'.ob; ⟨o, ho⟩
        refine fin _ _ _ (I.write (e := D) (t' := tk) (by rw [ha]; trivial) (.inl rfl) (fun b o hb e => (sb.2 b hb).trans e) he (setN_ok R'.less)) le' lx' S' ⟨L', .inr ⟨rfl, rfl⟩, ?_, ?_, ?_⟩
        · rw [uni_one]
          unfold stp
          by_cases hm : NestedKey.tup js ∈ L.map (·.2)
          · rw [c1 hm, if_pos (pm.mem_iff.mp hm)]; exact pm
          · rw [if_neg fun z => hm (pm.mem_iff.mpr z)]
            exact ((c2 hm).map _).trans ((pm.cons _).trans (List.perm_append_comm (l₁ := [_])))
        · intro p hp'
          by_cases hm : NestedKey.tup js ∈ L.map (·.2)
          · rw [c1 hm] at hp'; exact dp p hp'
          · rcases List.mem_cons.mp ((c2 hm).mem_iff.mp hp') with e | e
            · rw [e]; exact hd
            · exact dp p e
        · intro p hp'
          by_cases hm : NestedKey.tup js ∈ L.map (·.2)
          · rw [c1 hm] at hp'; exact (rp p hp').monoX lx'
          · rcases List.mem_cons.mp ((c2 hm).mem_iff.mp hp') with e | e
            · rw [e]; exact r.monoX lx'
            · exact (rp p e).monoX lx'
    | _ => cases ht
  | false =>
    obtain ⟨ns, rfl, hp⟩ := a
    cases k with
    | num i =>
      rw [ofN] at r
      cases r
      obtain ⟨tk, rfl⟩ := ru
      have ha := (S.pin _ _ hp).1
      have R := setO_get I ha
      have len : (unlike [] ns).length ≤ ns.length := by
        have h2 := len_unlike ns []
        simpa using h2
      rw [List.length_map] at few
      refine setR_add (P := X.prog) R (by unfold scanBound; omega) fun h' sb new => ?_
      rw [ofL_step, n_step] at new
      have e1 : unlike [] (ns ++ [i]) = stp (unlike [] ns) i := by rw [unlike_fold, unlike_fold, List.foldl_append]; rfl
      rw [← e1] at new
      have he : ∃ u, h'.get? D = some u := let ⟨o, _, _, _, ho, _⟩ := id new; ⟨o, ho⟩
      obtain ⟨le', lx', S'⟩ := extPin (ψ := fun h => SetR X.w h D (OfL (unlike [] (ns ++ [i]))) (unlike [] (ns ++ [i])).length) le nP S hp
      exact fin _ _ _ (I.write (e := D) (t' := s.toks + 1) (by rw [ha]; trivial) (.inl rfl) (fun b u hb hu => (sb.2 b hb).trans hu) he (setO_new new)) le' lx' S' ⟨ns ++ [i], by simp, .inr ⟨rfl, rfl⟩⟩
    | _ => cases ht
end
end LB
end

section
set_option Elab.async false
set_option linter.all false
set_option maxRecDepth 100000
set_option maxHeartbeats 4000000
/-! Sets of data sorted; lists of data sorted; set(xs). -/
namespace LB
open PySem PySem.Spec PyProof.Rows L2
theorem ofNs_map : ∀ ks : List NestedKey, ofNs ks = ks.map ofN
  | [] => rfl
  | k :: ks => by rw [ofNs, ofNs_map ks]; rfl
theorem datas_map : ∀ ks : List NestedKey, NestedKey.datas ks = ks.map NestedKey.data
  | [] => rfl
  | k :: ks => by rw [NestedKey.datas, datas_map ks]; rfl
theorem srtD_ok {ks : List NestedKey} {ds : List D} (h : srtD (ofNs ks) = some ds) : ds = isort leD (ks.map ofN) ∧ PySem.W.AllAlike (ks.map NestedKey.data) ∧ PySem.W.Sortable (ks.map NestedKey.data) := by
  unfold srtD at h
  rw [pyDs_ofNs, Option.bind_some] at h
  split at h
  · rename_i c
    simp only [srtOk, Bool.and_eq_true] at c
    rw [datas_map] at c
    cases h
    exact ⟨by rw [ofNs_map], alikeB_ok c.1, sortable_ok c.2.1⟩
  · cases h
theorem keys_one {ks js : List NestedKey} (p : ks.Perm js) (al : PySem.W.AllAlike (js.map NestedKey.data)) : isort leD (ks.map ofN) = isort leD (js.map ofN) := by
  refine isort_congr leD_T (p.map _) fun a ha b hb h1 h2 => ?_
  obtain ⟨k, hk, rfl⟩ := List.mem_map.mp ha
  obtain ⟨j, hj, rfl⟩ := List.mem_map.mp hb
  rw [leD_anti (al _ (List.mem_map.mpr ⟨k, p.mem_iff.mp hk, rfl⟩) _ (List.mem_map.mpr ⟨j, p.mem_iff.mp hj, rfl⟩)) h1 h2]
theorem reps_map {α : Type} {W : Wd} {f : α → V} {h : α → D} : ∀ {l : List α}, (∀ a ∈ l, Rep W (f a) (h a)) → Reps W (l.map f) (l.map h)
  | [], _ => .nil
  | a :: l, r => .cons (r a (List.mem_cons_self ..)) (reps_map fun b hb => r b (List.mem_cons_of_mem _ hb))
theorem valsR {α : Type} {f : α → Addr} : ∀ l : List α, Vals (l.map fun q => V.ref (f q)) (l.map fun q => Value.ref (f q))
  | [] => .nil
  | _ :: l => .cons rfl (valsR l)
theorem uni_nums : ∀ (ns acc : List Int), unlike (acc.map NestedKey.num) (ns.map NestedKey.num) = (unlike acc ns).map NestedKey.num
  | [], acc => rfl
  | n :: ns, acc => by
    have inj : (NestedKey.num n ∈ acc.map NestedKey.num) = (n ∈ acc) := by
      refine propext ⟨fun h => ?_, fun h => List.mem_map.mpr ⟨n, h, rfl⟩⟩
      obtain ⟨m, hm, e⟩ := List.mem_map.mp h
      cases e; exact hm
    rw [List.map_cons, unlike, unlike]
    have : (if NestedKey.num n ∈ acc.map NestedKey.num then acc.map NestedKey.num else acc.map NestedKey.num ++ [NestedKey.num n]) = (if n ∈ acc then acc else acc ++ [n]).map NestedKey.num := by
      by_cases h : n ∈ acc
      · rw [if_pos h, if_pos (inj ▸ h)]
      · rw [if_neg h, if_neg (inj ▸ h)]; simp
    rw [this, uni_nums ns]
theorem leD_int (i j : Int) : leD (.int i) (.int j) = decide (i ≤ j) := by
  have h := leD_data (f := fun i : Int => D.int i) (e := fun i => PyData.int i) (fun i => by simp [pyD]) i j
  rw [← h, PySem.W.dataLe_int]
section
variable {X : Cx} {g : Sg} {pins : List (Addr × Obj)} {σ : L2.St} {W W1 : Wd} {st : Sto} {H : Hp} {s : Shared} {D : Addr}
theorem accS_sorted (hK : X.K = g.K) (hc : X.calm = true) (hu : X.A.units + 30 < cLine) (I : Inv X pins σ H s) (S : Sim g W st H) (le : W1.Le W) (nP : ∀ o, ¬ W1.pin D o) {tp : Bool} {ks : List NestedKey} (a : AccS X.w D W tp ks) {ds : List LB.D} (h : srtD (ofNs (uniN ks)) = some ds)
    (few : ks.length < 64) (fz : Bool) {Q : VK} (fin : ∀ p H' W', W1.Le W' → Sim g W' (mkL fz ds st).2 H' → Rep W' (.ref p) (mkL fz ds st).1 → Q (.ref p) H') : wpAny (model X.prog X.w) X.A (call (.builtin "sorted") [.ref D]) (EP X pins σ Q) X.xe s := by
  obtain ⟨rfl, al, so⟩ := srtD_ok h
  have le1 : W1.Le (W.noP D) := Wd.noP_le le nP
  have out : ∀ (p : Addr) (vs : List V), H p = none → Reps W vs (isort leD ((uniN ks).map ofN)) → Q (.ref p) (upd H p (.lst vs)) := fun p vs hp r => by
    obtain ⟨W', l2, S2, r2⟩ := mkL_ok S.noP hp (Reps.noP (p := D) r) fz
    exact fin p _ W' (le1.trans l2) S2 r2
  cases tp with
  | true =>
    obtain ⟨L, hp, pm, dp, rp⟩ := a
    have R0 : NS0 X.w s.heap D L := (I.hok D _ (S.pin _ _ hp).1).1
    obtain ⟨es, ep, t, R⟩ := R0.full fun p h => ⟨rep_nis hK S I p.2 _ _ (rp p h) rfl, dp p h⟩
    have pd : (L.map fun p => p.2.data).Perm ((uniN ks).map NestedKey.data) := by
      have := pm.map NestedKey.data
      rwa [List.map_map] at this
    refine R.sorted (P := X.prog) (I.ok.hd hc) (by omega) (fun x hx y hy => al x (pd.mem_iff.mp hx) y (pd.mem_iff.mp hy)) (so.imp (fun z x hx => z x (pd.mem_iff.mp hx)) (fun z x hx => z x (pd.mem_iff.mp hx))) (fun p hp' => rep_reads hK S I (rp p hp') (pyD_ofN p.2) rfl) fun s' p c L1 k g1 o1 z pL ho => ?_
    have hn : H p = none := I.hok.fresh z
    have e1 : (L1.mergeSort (PySem.W.dataLe false fun q => q.2.data)).map (fun q => ofN q.2) = isort leD ((uniN ks).map ofN) := by
      rw [PySem.W.sort_maps (s := leD) (fun q : Addr × NestedKey => ofN q.2) (fun a _ b _ => leD_data (f := fun q : Addr × NestedKey => ofN q.2) (e := fun q => q.2.data) (fun q => pyD_ofN q.2) a b), ← isort_merge leD_T]
      have e2 : L1.map (fun q => ofN q.2) = (L1.map (·.2)).map ofN := by rw [List.map_map]; rfl
      rw [e2]
      exact keys_one ((pL.symm.map _).trans pm) al
    have lenL : L1.length < 64 := by rw [← pL.length_eq]; exact R.fw
    have J : Inv X pins σ (upd H p (.lst ((L1.mergeSort (PySem.W.dataLe false fun q => q.2.data)).map fun q => V.ref q.1))) { s with heap := s'.heap, gens := s'.gens, drawn := s'.drawn, toks := s'.toks } :=
      I.call (ch := []) (L2.Un.laid k z hn) (I.hok.laid k z ⟨by rw [List.length_map, List.length_mergeSort, sizeLine_eq]; omega, _, c, valsR _, ho⟩) (by rw [g1]; exact I.bare) (fun _ z => nomatch z)
    have e : s' = { s with heap := s'.heap, gens := s'.gens, drawn := s'.drawn, toks := s'.toks } := by
      cases s'; cases s; cases o1; rfl
    rw [e]
    refine ⟨.ref p, _, J, rfl, out p _ hn ?_⟩
    rw [← e1]
    exact reps_map fun q hq => rp q (pL.mem_iff.mpr (List.mem_mergeSort.mp hq))
  | false =>
    obtain ⟨ns, rfl, hp⟩ := a
    have len : (unlike [] ns).length ≤ ns.length := by simpa using len_unlike ns []
    rw [List.length_map] at few
    refine cr_sortedSet hc pins s σ H [.ref D] [.ref D] Q I (.cons rfl .nil) ⟨D, _, _, rfl, (S.pin _ _ hp).1, by omega, fun ms p pw hm hl hn => out p _ hn ?_⟩
    have e1 : isort leD ((uniN (ns.map NestedKey.num)).map ofN) = ms.map LB.D.int := by
      have e2 : (uniN (ns.map NestedKey.num)).map ofN = (unlike [] ns).map LB.D.int := by
        have := uni_nums ns []
        unfold uniN
        rw [show ([] : List NestedKey) = ([] : List Int).map NestedKey.num from rfl, this, List.map_map]
        rfl
      rw [e2]
      have pm : ms.Perm (unlike [] ns) := by
        refine (List.perm_ext_iff_of_nodup (pw.imp fun h => by omega) (unlike_nodup ns [] List.nodup_nil)).mpr fun k => ?_
        rw [hm k]
        unfold OfL
        rw [decide_eq_true_eq]
      refine (sorted_one leD_T ?_ ?_ (isort_pw leD_T _) ?_).symm
      · exact (pm.map _).trans (isort_perm _).symm
      · exact List.pairwise_map.mpr (pw.imp fun h => by rw [leD_int, decide_eq_true_eq]; omega)
      · intro a ha b hb h1 h2
        obtain ⟨i, _, rfl⟩ := List.mem_map.mp ha
        obtain ⟨j, _, rfl⟩ := List.mem_map.mp hb
        rw [leD_int, decide_eq_true_eq] at h1 h2
        rw [show i = j by omega]
    rw [e1]
    exact Reps.ofInts ms
end
end LB
end

section
set_option Elab.async false
set_option linter.all false
set_option maxRecDepth 100000
set_option maxHeartbeats 4000000
/-! Set comprehensions with any number of sources. -/
namespace LB
open PySem PySem.Spec PyProof.Rows L2
abbrev FF : Value → Shared → Prop := fun _ _ => False
section
variable {P : Program} {w : World} {A : Around} {R : Result → Shared → Prop} {elt tg iter : Expr} {ifs : List Expr} {gens : List Comprehension} {scope : Scope} {pos : Pos} {it acc : Value} {env : Env} {j : Nat} {s : Shared}
/-- what comes behind a clause's tests: the element, or the next clause -/
def NextS (P : Program) (w : World) (A : Around) (elt : Expr) (gens : List Comprehension) (scope : Scope) (pos : Pos) (acc : Value) (env : Env) (j : Nat) (Ok : Shared → Prop) (s : Shared) : Option Comprehension → Prop
  | none => wpAny (model P w) A (eval elt env) (fun x s1 => wpAny (model P w) A (call (.builtin "set.add") [acc, x]) (fun _ s2 => Ok s2) FF s1) FF s
  | some c => c.is_async = 0 ∧ (∀ x, foldedSetIterable c.iter env x = pure x) ∧ wpAny (model P w) A (eval c.iter env) (fun x s1 => wpAny (model P w) A (pyIter x) (fun i1 s2 => codeAny (model P w) A (.compStart (.SetComp elt gens scope pos) (j + 1) i1 acc env) (fun r s' => match r with
      | .ok _ => Ok s'
      | .error _ => False) s2) FF s1) FF s
theorem NextS.mono {Ok Ok' : Shared → Prop} (i : ∀ s, Ok s → Ok' s) : ∀ {c : Option Comprehension}, NextS P w A elt gens scope pos acc env j Ok s c → NextS P w A elt gens scope pos acc env j Ok' s c
  | none, h => thn h fun x s1 q => thn q fun _ s2 z => i s2 z
  | some c, ⟨h1, h2, h3⟩ => ⟨h1, h2, thn h3 fun x s1 q => thn q fun i1 s2 z => codeAny_mono z fun r s' y => by
    cases r with
    | ok _ => exact i s' y
    | error _ => exact y⟩
theorem loopC (hg : gens[j]? = some ⟨tg, iter, ifs, 0⟩) (Iv : Nat → Shared → Prop)
    (turn : ∀ n s, Iv n s → wpAny (model P w) A (pyNext it) (fun r s1 => match r with
      | none => R (.ok .next) s1
      | some v => wpAny (model P w) A (letOwnedTupleGo tg it v) (fun _ s2 => wpAny (model P w) A (assign tg env v) (fun _ s3 =>
          wpAny (model P w) A (forIn ifs true fun c r => if r = true then do let ok ← isTrue c env (eval c env); pure (ForInStep.yield ok) else pure (ForInStep.yield r)) (fun ok s4 =>
            if ok = true then NextS P w A elt gens scope pos acc env j (fun s' => ∃ m, m < n ∧ Iv m s') s4 gens[j + 1]? else ∃ m, m < n ∧ Iv m s4) FF s3) FF s2) FF s1) FF s)
    (n : Nat) (h : Iv n s) : codeAny (model P w) A (.compLoop (.SetComp elt gens scope pos) j it acc env) R s := by
  refine codeAny_loop rfl Iv (fun n s hI => ?_) n h
  show wpAny _ A ((compTurn (.SetComp elt gens scope pos) j it acc env).onRaise (fun x => do noteFrame x env; theTreesLotGoes x)) _ _ s
  refine wpAny_noted ?_
  unfold compTurn
  simp only [hg]
  refine wpAny_bind (wpAny_standAt (wpAny_bind (wpAny_mono (turn n s hI) (fun r s1 h1 => ?_) fun _ _ z => z.elim)))
  cases r with
  | none => exact wpAny_pure h1
  | some v =>
    refine wpAny_bind (wpAny_mono h1 (fun _ s2 h2 => ?_) fun _ _ z => z.elim)
    refine wpAny_bind (wpAny_mono h2 (fun _ s3 h3 => wpAny_bind (wpAny_mono h3 (fun ok s4 h4 => ?_) fun _ _ z => z.elim)) fun _ _ z => z.elim)
    cases ok with
    | false => exact wpAny_pure ⟨rfl, h4⟩
    | true =>
      simp only [if_true] at h4 ⊢
      cases q : gens[j + 1]? with
      | none =>
        rw [q] at h4
        exact wpAny_bind (wpAny_bind (wpAny_mono h4 (fun x s5 h5 => wpAny_bind (wpAny_standAt (wpAny_bind (wpAny_mono h5 (fun _ s6 h6 => wpAny_pure (wpAny_pure ⟨rfl, h6⟩)) fun _ _ z => z.elim)))) fun _ _ z => z.elim))
      | some c =>
        rw [q] at h4
        obtain ⟨a0, fs, h4⟩ := h4
        refine wpAny_bind (wpAny_mono h4 (fun x s5 h5 => ?_) fun _ _ z => z.elim)
        simp only [a0, bne_self_eq_false, Bool.false_eq_true, if_false]
        refine wpAny_bind (wpAny_standAt (wpAny_bind (wpAny_of_eq (fs x) (wpAny_bind (wpAny_holding (wpAny_mono h5 (fun i1 s6 h6 => ?_) fun _ _ z => z.elim))))))
        refine wpAny_bind (wpAny_runOwn ?_)
        rw [Around.mark_none]
        refine codeAny_mono h6 fun r s' hr => ?_
        cases r with
        | ok f => exact wpAny_pure ⟨rfl, hr⟩
        | error e => exact hr.elim
theorem startC {c : Comprehension} (hg : gens[j]? = some c) (ha : c.is_async = 0) (h0 : codeAny (model P w) A (.compLoop (.SetComp elt gens scope pos) j it acc env) R s)
    (h : wpAny (model P w) A (pyIter it) (fun i1 s1 => codeAny (model P w) A (.compLoop (.SetComp elt gens scope pos) j i1 acc env) R s1) FF s) : codeAny (model P w) A (.compStart (.SetComp elt gens scope pos) j it acc env) R s := by
  refine codeAny_of_tree ?_
  show wpAny _ _ ((compStart (.SetComp elt gens scope pos) j it acc env).onRaise (fun x => do noteFrame x env; standAt theWindowsPlace)) _ _ s
  refine wpAny_notedAt ?_
  unfold compStart
  simp only [clausesOf, hg, Option.elim_some, ha, bne_self_eq_false, Bool.false_eq_true, if_false]
  first | refine wpAny_bind (wpAny_pure ?_) | skip
  refine wpAny_bind (wpAny_askSetting (wpAny_ite ?_))
  split
  · exact wpAny_bind (wpAny_pure (wpAny_pure (And.intro rfl h0)))
  · exact wpAny_bind (wpAny_rule (wpAny_bind (wpAny_standAt (wpAny_bind (wpAny_mono h (fun i1 s1 q => wpAny_pure (And.intro rfl q)) fun _ _ z => z.elim)))))
end
end LB
end

section
set_option Elab.async false
set_option linter.all false
set_option maxRecDepth 100000
set_option maxHeartbeats 4000000
/-! Set comprehensions with any number of sources: over the layer's worlds. -/
namespace LB
open PySem PySem.Spec PyProof.Rows L2
section
variable {X : Cx} {g : Sg}
/-- the clauses behind the first -/
inductive ClausOk (X : Cx) (g : Sg) : List Comprehension → List ClF → Prop
  | nil : ClausOk X g [] []
  | cons {tg iter : Expr} {ifs : List Expr} {gs : List Comprehension} {c : ClF} {r : List ClF} : PI X tg iter (tI g noX c.f) → PG X tg (tB1 g c.is c.bt) → PTs X ifs (tT g noX c.ct) → (∀ x, foldedSetIterable iter X.env x = pure x) → (∀ i ∈ c.is, i ∈ c.vs) → (∀ i ∈ vsOf r, i ∈ c.vs) → ClausOk X g gs r → ClausOk X g (⟨tg, iter, ifs, 0⟩ :: gs) (c :: r)
/-- where the clauses' loops end -/
def AftS (X : Cx) (g : Sg) (tp : Bool) (D : Addr) (W1 W : Wd) (pins : List (Addr × Obj)) (σ : L2.St) (a' : List NestedKey) (st' : Sto) (s' : Shared) : Prop :=
  ∃ H' W', Inv X pins σ H' s' ∧ W1.Le W' ∧ W.LeX W' ∧ Sim g W' st' H' ∧ AccS X.w D W' tp a'
variable {tp : Bool} {D : Addr} {W1 : Wd} {elt : Expr} {gens : List Comprehension} {scope : Scope} {pos : Pos} {fe : FE}
/-- what a clause's inner part is -/
def NxtOk (X : Cx) (g : Sg) (tp : Bool) (D : Addr) (W1 : Wd) (elt : Expr) (gens : List Comprehension) (scope : Scope) (pos : Pos) (fe : FE) (j : Nat) (cs : List ClF) : Prop :=
  ∀ (pins : List (Addr × Obj)) (σ : L2.St) (H : Hp) (s : Shared) (W : Wd) (en : En) (a : List NestedKey) (st : Sto) (a' : List NestedKey) (st' : Sto), Inv X pins σ H s → W1.Le W → EnR W σ en → Sim g W st H → AccS X.w D W tp a → nxC (emS tp fe) cs en a st = .ok a' st' →
    NextS X.prog X.w X.A elt gens scope pos (.ref D) X.env j (AftS X g tp D W1 W pins (wipe σ (vsOf cs)) a' st') s gens[j + 1]?
theorem loopOk (hc : X.calm = true) (hx : X.xe = FF) {tg iter : Expr} {ifs : List Expr} {j : Nat} {c : ClF} {r : List ClF} (hg : gens[j]? = some ⟨tg, iter, ifs, 0⟩) (pg : PG X tg (tB1 g c.is c.bt)) (pt : PTs X ifs (tT g noX c.ct)) (hs : ∀ i ∈ c.is, i ∈ c.vs) (hv : ∀ i ∈ vsOf r, i ∈ c.vs)
    (nxt : NxtOk X g tp D W1 elt gens scope pos fe j r) {it : Addr} {fp : List Addr} {tn : Nat → Heap → Prop} {J : L2.It} {W2 : Wd} {items : List LB.D} (T : Turn X.prog X.w X.K tg J fp it tn) (G : Gives g W2 J items) {pins : List (Addr × Obj)} {σ : L2.St} {en : En} {a' : List NestedKey} {st' : Sto}
    (stat : ∀ {σ' : L2.St} {H' : Hp} {s' : Shared}, Inv X pins σ' H' s' → (∀ b ∈ fp, H' b = none) → ∀ b ∈ fp, FpOk X pins H' b) (hE : EnR W2 σ en) {R : Result → Shared → Prop} (fin : ∀ s', AftS X g tp D W1 W2 pins (wipe σ c.vs) a' st' s' → R (.ok .next) s')
    {s : Shared} {H : Hp} {Wq : Wd} {st : Sto} {a : List NestedKey} (I : Inv X pins (wipe σ c.vs) H s) (t0 : tn 0 s.heap) (nf : ∀ b ∈ fp, H b = none) (le : W1.Le Wq) (lx : W2.LeX Wq) (S : Sim g Wq st H) (ac : AccS X.w D Wq tp a)
    (run : runC c.bt c.vs c.ct (nxC (emS tp fe) r) items en a st = .ok a' st') : codeAny (model X.prog X.w) X.A (.compLoop (.SetComp elt gens scope pos) j (.ref it) (.ref D) X.env) R s := by
  refine loopC hg (fun n s => ∃ i H Wq st a, i + n = items.length ∧ Inv X pins (wipe σ c.vs) H s ∧ tn i s.heap ∧ (∀ b ∈ fp, H b = none) ∧ W1.Le Wq ∧ W2.LeX Wq ∧ Sim g Wq st H ∧ AccS X.w D Wq tp a ∧ runC c.bt c.vs c.ct (nxC (emS tp fe) r) (items.drop i) en a st = .ok a' st')
    (fun n s ⟨i, H, Wq, st, a, hi, I, ti, nf, le, lx, S, ac, run⟩ => ?_) items.length ⟨0, H, Wq, st, a, by omega, I, t0, nf, le, lx, S, ac, by simpa using run⟩
  by_cases hlt : i < items.length
  · refine thn (T.item X rfl rfl rfl hc i pins s _ H FF I (stat I nf) ti (G.go i Wq st H hlt lx S)) fun r1 s1 ⟨u, er, h1⟩ => ?_
    subst er
    refine thn h1 fun _ s2 ⟨x, H2, I2, rx, y2, t2, n2⟩ => ?_
    obtain ⟨W3, l3, S3, r3⟩ := G.yl i _ Wq st H x H2 (List.getElem?_eq_getElem hlt) lx S y2
    have I2' := I2.pinned (stat I2 n2) (T.obj _ _ t2)
    rw [drop_cons hlt] at run
    simp only [runC] at run
    cases q : c.bt items[i] (wipeE en c.vs) with
    | none => rw [q] at run; cases run
    | some en' =>
      simp only [q] at run
      have hE3 : EnR W3 (wipe σ c.vs) (wipeE en c.vs) := ((hE.monoX lx).mono l3).wipe c.vs
      have pgr := pg.run _ s2 _ H2 x u (fun σ8 H8 => wipe σ8 c.vs = wipe σ c.vs ∧ EnR W3 σ8 en' ∧ H8 = H2) I2' rx ⟨W3, st, wipeE en c.vs, _, hE3, S3, r3, by
        rw [q]
        exact fun σ8 hE8 hf => ⟨wipe_fix hs hf, hE8, rfl⟩⟩
      rw [hx] at pgr
      refine thn pgr fun _ s3 ⟨σ8, H8, I8, hw8, hE8, e8⟩ => ?_
      subst e8
      cases qc : c.ct en' st with
      | exn x s => simp only [qc, Res.nox, Res.bind_bad] at run; cases run
      | bad => simp only [qc, Res.nox, Res.bind_bad] at run; cases run
      | ok t st4 =>
        simp only [qc, Res.nox, Res.bind_ok] at run
        have ptr := pt.run _ s3 σ8 H8 (fun b H9 => b = t ∧ ∃ W4, W3.Le W4 ∧ Sim g W4 st4 H9) I8 ⟨W3, st, en', hE8, S3, by
          rw [qc]
          exact fun W' b H' l S' rb => ⟨by cases rb; rfl, W', l, S'⟩⟩
        rw [hx] at ptr
        refine thn ptr fun b s4 ⟨H9, I9, eb, W4, l4, S4⟩ => ?_
        subst eb
        have lw : W1.Le W4 := le.trans (l3.trans l4)
        have lx4 : W2.LeX W4 := lx.trans (l3.trans l4).x
        have ac4 : AccS X.w D W4 tp a := ac.mono (l3.trans l4)
        have there : ∀ {σ' : L2.St} {H' : Hp} {s' : Shared}, Inv X (pins ++ pinsAt fp s2.heap) σ' H' s' → ∀ b ∈ fp, ∀ o, s2.heap.get? b = some o → s'.heap.get? b = some o ∧ H' b = none := fun {σ' H' s'} I' b hb o e =>
          let z := I'.pin (b, o) (List.mem_append_right _ (List.mem_append_right _ (mem_pinsAt hb e)))
          ⟨z.1, z.2.1⟩
        have goOn : ∀ {σ' : L2.St} {H' : Hp} {s' : Shared} {W' : Wd} {st5 : Sto} {a5 : List NestedKey}, Inv X (pins ++ pinsAt fp s2.heap) σ' H' s' → (wipe σ c.vs).length = σ'.length → (∀ (i : Nat) v, (wipe σ c.vs)[i]? = some (some v) → σ'[i]? = some (some v)) → W1.Le W' → W2.LeX W' → Sim g W' st5 H' → AccS X.w D W' tp a5 →
            runC c.bt c.vs c.ct (nxC (emS tp fe) r) (items.drop (i + 1)) en a5 st5 = .ok a' st' → ∃ m, m < n ∧ ∃ i H Wq st a, i + m = items.length ∧ Inv X pins (wipe σ c.vs) H s' ∧ tn i s'.heap ∧ (∀ b ∈ fp, H b = none) ∧ W1.Le Wq ∧ W2.LeX Wq ∧ Sim g Wq st H ∧ AccS X.w D Wq tp a ∧
              runC c.bt c.vs c.ct (nxC (emS tp fe) r) (items.drop i) en a st = .ok a' st' := fun {σ' H' s' W' st5 a5} I' hl hk l' x' S' ac' run' =>
          ⟨n - 1, by omega, i + 1, H', W', st5, a5, by omega, I'.unpinned.weak hl hk, T.keep _ _ _ t2 fun b hb o e => (there I' b hb o e).1, fun b hb => (by
            obtain ⟨o, e, _⟩ := T.obj _ _ t2 b hb
            exact (there I' b hb o e).2), l', x', S', ac', run'⟩
        have hl8 : (wipe σ c.vs).length = σ8.length := by rw [← hw8, wipe_length]
        cases b with
        | false =>
          simp only [Bool.false_eq_true, if_false] at run ⊢
          exact goOn I9 hl8 (fun i v e => by rw [← hw8] at e; exact (wipe_some e).1) lw lx4 S4 ac4 run
        | true =>
          simp only [if_true] at run ⊢
          cases qn : nxC (emS tp fe) r en' a st4 with
          | exn x s => rw [qn] at run; cases run
          | bad => rw [qn] at run; cases run
          | ok a5 st5 =>
            rw [qn, Res.bind_ok] at run
            refine (nxt _ σ8 H9 s4 W4 en' a st4 a5 st5 I9 lw ((hE8.mono l4)) S4 ac4 qn).mono fun s' ⟨H', W', I', l', x', S', ac'⟩ => ?_
            refine goOn I' (by rw [hl8, wipe_length]) (fun i v e => ?_) l' (lx4.trans x') S' ac' run
            rw [← hw8] at e
            obtain ⟨e1, e2⟩ := wipe_some e
            rw [wipe_out fun z => e2 (hv i z)]
            exact e1
  · have e : i = items.length := by omega
    subst e
    refine thn (T.done X rfl rfl rfl hc _ pins s _ H FF I (stat I nf) ti (G.stop Wq st H lx S)) fun r1 s1 ⟨er, I1⟩ => ?_
    subst er
    rw [List.drop_length] at run
    simp only [runC] at run
    cases run
    exact fin s1 ⟨H, Wq, I1, le, lx, S, ac⟩
end
end LB
end

section
set_option Elab.async false
set_option linter.all false
set_option maxRecDepth 100000
set_option maxHeartbeats 4000000
/-! sorted({e for .. for ..}). -/
namespace LB
open PySem PySem.Spec PyProof.Rows L2
section
variable {X : Cx} {g : Sg} {tp : Bool} {D : Addr} {W1 : Wd} {elt : Expr} {gens : List Comprehension} {scope : Scope} {pos : Pos} {fe : FE}
theorem nextOk (hK : X.K = g.K) (hc : X.calm = true) (hx : X.xe = FF) (hu : X.A.units + 30 < cLine) (pe : PE X elt (tE g noX fe)) (nP : ∀ o, ¬ W1.pin D o) : ∀ {post : List Comprehension} {cs : List ClF}, ClausOk X g post cs → ∀ j, (∀ i, gens[j + 1 + i]? = post[i]?) → NxtOk X g tp D W1 elt gens scope pos fe j cs
  | _, _, .nil, j, hj => fun pins σ H s W en a st a' st' I le hE S ac run => by
    have e0 : gens[j + 1]? = none := by simpa using hj 0
    rw [e0]
    simp only [nxC, emS] at run
    cases qe : fe en st with
    | exn x s => simp only [qe, Res.nox, Res.bind_bad] at run; cases run
    | bad => simp only [qe, Res.nox, Res.bind_bad] at run; cases run
    | ok y st5 =>
      simp only [qe, Res.nox, Res.bind_ok] at run
      cases qk : keyN y with
      | none => simp only [qk] at run; cases run
      | some k =>
        simp only [qk] at run
        by_cases c : inSet tp a k = true
        · rw [if_pos c] at run
          simp only [inSet, Bool.and_eq_true, decide_eq_true_eq] at c
          cases run
          have per := pe.run pins s σ H (fun v H1 => ∃ W', W.Le W' ∧ Sim g W' st' H1 ∧ Rep W' v y) I ⟨W, st, en, hE, S, by
            rw [qe]
            exact fun W' b H' l S' r => ⟨W', l, S', r⟩⟩
          rw [hx] at per
          refine thn per fun u s1 ⟨v, H1, I1, ru, W', l, S', r⟩ => ?_
          rw [← ofN_key y k qk] at r
          exact accS_add hK hu I1 S' (le.trans l) nP (ac.mono l) r ru c.2.1 c.2.2 c.1 fun s2 H2 W2 I2 l2 x2 S2 ac2 => ⟨H2, W2, I2, l2, l.x.trans x2, S2, ac2⟩
        · rw [if_neg c] at run; cases run
  | _, _, .cons (tg := tg) (iter := iter) (ifs := ifs) (gs := gs) (c := c) (r := r) pi pg pt fs hs hv rest, j, hj => fun pins σ H s W en a st a' st' I le hE S ac run => by
    have e0 : gens[j + 1]? = some ⟨tg, iter, ifs, 0⟩ := by simpa using hj 0
    rw [e0]
    refine ⟨rfl, fs, ?_⟩
    simp only [nxC] at run
    cases qf : c.f en st with
    | exn x s => simp only [qf, Res.nox, Res.bind_bad] at run; cases run
    | bad => simp only [qf, Res.nox, Res.bind_bad] at run; cases run
    | ok items st2 =>
      simp only [qf, Res.nox, Res.bind_ok] at run
      have pir := pi.run pins s σ H (fun J H1 => ∃ W2, W.Le W2 ∧ Sim g W2 st2 H1 ∧ Gives g W2 J items) I ⟨W, st, en, hE, S, by
        rw [qf]
        exact fun W' b H' l S' r => ⟨W', l, S', r⟩⟩
      rw [hx] at pir
      refine thn pir fun xv s1 h1 => thn h1 fun itv s2 ⟨it, fp, tn, J, H2, e, I2, T, t2, f2, W2, l2, S2, G⟩ => ?_
      subst e
      have nxt := nextOk hK hc hx hu pe nP rest (j + 1) fun i => by
        have := hj (i + 1)
        rw [List.getElem?_cons_succ] at this
        rw [← this]; congr 1; omega
      have loop := loopOk (R := fun r s' => match r with
        | .ok _ => AftS X g tp D W1 W pins (wipe σ c.vs) a' st' s'
        | .error _ => False) hc hx e0 pg pt hs hv nxt T G (pins := pins) (σ := σ) (en := en) (fun {σ' H' s'} _ hn b hb => ⟨hn b hb, (f2 b hb).2⟩) (hE.mono l2) (fun s' ⟨H', W', I', l', x', S', ac'⟩ => ⟨H', W', I', l', l2.x.trans x', S', ac'⟩)
        (I2.weak (wipe_length _ _) fun i v e => (wipe_some e).1) t2 (fun b hb => (f2 b hb).1) (le.trans l2) (Wd.LeX.refl W2) S2 (ac.mono l2) run
      exact startC e0 rfl loop (T.self X.A 0 s2 _ FF t2 loop)
theorem boot_sorted : bootBuiltins "sorted" = some (.builtin "sorted") := by decide +kernel
theorem se_sortC {Wx : WX} {tg iter : Expr} {ifs : List Expr} {post : List Comprehension} {own : List (Str × Nat)} {is : List Nat} {bt : LB.D → En → Option En} {ct : FB} {f : FI} {cs : List ClF} {p p2 : Pos} (fz : Bool) (hK : X.K = g.K) (hc : X.calm = true) (hN : X.N.Nodup) (hu : X.A.units + 30 < cLine) (hgl : Gl X "sorted") (hm : X.mg "sorted" = none)
    (hi : PI X tg iter (tI g Wx f)) (ok : BlkOk X.N X.env.scope scope own) (hsub : ∀ i ∈ is, i ∈ own.map (·.2)) (hvs : ∀ i ∈ vsOf cs, i ∈ own.map (·.2))
    (hg : ∀ (s : Shared) (H : Hp) (C : Addr) (cl : List (Str × Addr)) (fp : List Addr), PG (X.blk s H scope (compEnvC scope cl C X.env) fp) tg (tB1 g is bt)) (ht : ∀ (s : Shared) (H : Hp) (C : Addr) (cl : List (Str × Addr)) (fp : List Addr), PTs (X.blk s H scope (compEnvC scope cl C X.env) fp) ifs (tT g noX ct))
    (he : ∀ (s : Shared) (H : Hp) (C : Addr) (cl : List (Str × Addr)) (fp : List Addr), PE (X.blk s H scope (compEnvC scope cl C X.env) fp) elt (tE g noX fe)) (hcs : ∀ (s : Shared) (H : Hp) (C : Addr) (cl : List (Str × Addr)) (fp : List Addr), ClausOk (X.blk s H scope (compEnvC scope cl C X.env) fp) g post cs)
    (hs : ∀ x, foldedSetIterable iter X.env x = pure x) : PE X (.Call (.Name "sorted" p) [.SetComp elt (⟨tg, iter, ifs, 0⟩ :: post) scope p2] [] pos) (tE g Wx (sortCL fz tp (own.map (·.2)) bt ct f cs fe)) := by
  refine ⟨fun pins s σ H Q I ⟨W, st, en, hE, S, p⟩ => ?_⟩
  refine Call_ (ld_blt I hgl hm boot_sorted (PyProof.Rows.callWith_builtin1 (PyProof.Rows.args_cons ?_ rfl) rfl rfl))
  rw [PpSet.eval_SetComp]
  have clo : ∀ y ∈ scope.names, y.2 = .free → ∃ c, X.env.cells.lookup y.1 = some c := fun y hy e => (ok.free y hy e).elim (fun k => I.ok.has _ (.inl k)) fun k => I.ok.has _ (.inr k)
  refine wpAny_comprehension_free (use := none) rfl hs (closure_ok clo) ok.kind (fun y hy e => by rw [ok.uniq y hy, e]) (thn (hi.run pins s σ H (fun J H1 => ∃ W2 items st2, W.Le W2 ∧ EnR W2 σ en ∧ Sim g W2 st2 H1 ∧ Gives g W2 J items ∧ Post g Wx Rep σ Q W2 ((runC bt (own.map (·.2)) ct (nxC (emS tp fe) cs) items en [] st2).nox.bind fun ks s =>
      liftO (if ks.length < 64 then (srtD (ofNs (uniN ks))).map fun ds => mkL fz ds s else none))) I (tG_step hE S p fun items s2 W2 J H1 le hE2 S2 G p2 => ⟨W2, items, s2, le, hE2, S2, G, p2⟩)) fun xv s1 hx => thn hx fun itv s2 ⟨it, fp, tn, J, H2, e, I2, T, t2, f2, W2, items, st2, le2, hE2, S2, G, pq⟩ => ?_)
  subst e
  cases qr : runC bt (own.map (·.2)) ct (nxC (emS tp fe) cs) items en [] st2 with
  | exn x s => simp only [qr, Res.nox, Res.bind_bad] at pq; exact pq.elim
  | bad => simp only [qr, Res.nox, Res.bind_bad] at pq; exact pq.elim
  | ok ks st3 =>
    simp only [qr, Res.nox, Res.bind_ok] at pq
    split at pq
    case isFalse => exact pq.elim
    rename_i few
    cases qs : srtD (ofNs (uniN ks)) with
    | none => rw [qs] at pq; exact pq.elim
    | some ds =>
      rw [qs, Option.map_some] at pq
      refine PpSet.newSet_ok (newEnv_comp ?_)
      generalize hD : s2.heap.objs.size = D
      have dn : H2 D = none := I2.hok.fresh (Nat.le_of_eq hD)
      have nP := S2.noPin dn
      obtain ⟨o, oOk, W3, le3, lx3, S3, ac3⟩ := accS_nil (X := X) S2 dn tp
      generalize hs3 : ({ s2 with heap := s2.heap.push (nSet X.w) } : Shared) = s3
      have h3 : s3.heap = s2.heap.push (nSet X.w) := by rw [← hs3]
      have I3 : Inv X pins σ (upd H2 D o) s3 := by
        rw [← hs3]
        refine I2.laid (t' := s2.toks) (fun b o e => Heap.get?_push_of_some _ e) (Nat.le_of_eq hD) (oOk _ ?_)
        rw [← hD]
        exact Heap.get?_push_size _ rfl
      have f3 : ∀ b ∈ fp, FpOk X pins (upd H2 D o) b ∧ b < s3.heap.objs.size := fun b hb => by
        obtain ⟨ob, ho, _⟩ := T.obj _ _ t2 b hb
        have lt := Heap.lt_size ho
        refine ⟨⟨?_, (f2 b hb).2⟩, by rw [h3, Heap.size_push]; exact Nat.lt_succ_of_lt lt⟩
        rw [upd_ne (by rw [← hD]; exact Nat.ne_of_lt lt)]
        exact (f2 b hb).1
      have t3 : tn 0 s3.heap := T.keep _ _ _ t2 fun b _ o e => by rw [h3]; exact Heap.get?_push_of_some _ e
      have I4 := block_start I3 ok hN f3
      have pg := hg s3 (upd H2 D o) s3.heap.objs.size (cellsFrom (s3.heap.objs.size + 1) scope.names (cloFrom X.env.cells scope.names [])) fp
      have pt := ht s3 (upd H2 D o) s3.heap.objs.size (cellsFrom (s3.heap.objs.size + 1) scope.names (cloFrom X.env.cells scope.names [])) fp
      have pe := he s3 (upd H2 D o) s3.heap.objs.size (cellsFrom (s3.heap.objs.size + 1) scope.names (cloFrom X.env.cells scope.names [])) fp
      have pc := hcs s3 (upd H2 D o) s3.heap.objs.size (cellsFrom (s3.heap.objs.size + 1) scope.names (cloFrom X.env.cells scope.names [])) fp
      show codeAny _ _ (.compStart (.SetComp elt (⟨tg, iter, ifs, 0⟩ :: post) scope p2) 0 (.ref it) (.ref D) (compEnvC scope (cellsFrom (s3.heap.objs.size + 1) scope.names (cloFrom X.env.cells scope.names [])) s3.heap.objs.size X.env)) (compPost _ _ _ none _ (.ref D) s3.heap.objs.size) { s3 with heap := pushCells (s3.heap.push { cls := .type "dict", data := .dict #[] }) scope.names }
      have nfp : ∀ b ∈ fp, (upd H2 D o) b = none := fun b hb => (f3 b hb).1.1
      generalize hce : compEnvC scope (cellsFrom (s3.heap.objs.size + 1) scope.names (cloFrom X.env.cells scope.names [])) s3.heap.objs.size X.env = ce at I4 pg pt pe pc ⊢
      have cL : ce.locals = s3.heap.objs.size := by subst hce; rfl
      generalize hH3 : upd H2 D o = H3 at I3 I4 pg pt pe pc S3 nfp f3
      generalize hs4 : ({ s3 with heap := pushCells (s3.heap.push { cls := .type "dict", data := .dict #[] }) scope.names } : Shared) = s4 at I4 ⊢
      have t4 : tn 0 s4.heap := T.keep _ _ _ t3 fun b _ o e => by rw [← hs4]; exact pushCells_keeps _ _ _ _ (Heap.get?_push_of_some _ e)
      have far : ∀ {σ' : L2.St} {H' : Hp} {s' : Shared}, Inv (X.blk s3 H3 scope ce fp) [] σ' H' s' → (∀ b ∈ fp, H' b = none) → ∀ b ∈ fp, FpOk (X.blk s3 H3 scope ce fp) [] H' b := fun {σ' H' s'} I' hn b hb =>
        ⟨hn b hb, (I'.ok.exf b hb).1, I'.ok.exfs b hb, .inl hb, fun x c e => (I'.ok.exf b hb).2 x c e, fun p hp => absurd (show p ∈ ([] : List (Addr × Obj)) ++ [] from hp) (by simp)⟩
      have ee : (X.blk s3 H3 scope ce fp).env = ce := rfl
      have lj : ∀ i, (⟨tg, iter, ifs, 0⟩ :: post)[0 + 1 + i]? = post[i]? := fun i => by rw [show 0 + 1 + i = i + 1 by omega, List.getElem?_cons_succ]
      refine PpSet.codeAny_compStart_set (R := compPost (model X.prog X.w) X.A X.xe none _ (.ref D) s3.heap.objs.size) ?loop (T.self X.A 0 _ _ _ t4 ?loop)
      case loop =>
        refine loopOk (X := X.blk s3 H3 scope ce fp) (scope := scope) (pos := p2) (c := ⟨bt, is, own.map (·.2), ct, f⟩) (r := cs) (W1 := W2) (W2 := W3) (j := 0) hc rfl rfl pg pt hsub hvs (nextOk (X := X.blk s3 H3 scope ce fp) hK hc rfl hu pe nP pc 0 lj) T (G.mono le3) (pins := []) (σ := σ) (en := en) far (hE2.mono le3) (fun s' ⟨H', W', I', l', x', S', ac'⟩ => ?_) I4 t4 nfp le3 (Wd.LeX.refl W3) S3 ac3 qr
        have I7 : Inv X pins σ H' s' := I3.call' (ch := fp) I'.os I'.base I'.hok I'.bare fun b hb => ⟨(f3 b hb).1.2.2.2.1, (f3 b hb).1.2.1, (f3 b hb).1.2.2.2.2.1, (f3 b hb).1.2.2.2.2.2⟩
        have nC : H' s3.heap.objs.size = none := cL ▸ (show H' ce.locals = none from I'.free)
        obtain ⟨m, hn, _⟩ := I'.loc
        have hn : s'.heap.Ns ce.locals m := hn
        rw [cL] at hn
        refine ⟨m, hn, fun h'' sb => ?_⟩
        obtain ⟨g0, g1, g2, g3, g4, g5⟩ := I3.fpOk (Nat.le_refl _) nC
        have I8 := I7.turned (t' := s'.toks) (fun b o hb e => (sb.2 b hb).trans e) g0 g1 g3 g4 g5
        refine PyProof.Rows.args_nil (accS_sorted hK hc hu I8 S' l' nP ac' qs few fz fun q H9 W9 l9 S9 r9 => ?_)
        exact pq W9 _ H9 l9 S9 r9
end
end LB
end

section
set_option Elab.async false
set_option linter.all false
set_option maxRecDepth 100000
set_option maxHeartbeats 4000000
/-! set(xs), xs a list of tuples; sorted(xs). -/
namespace LB
open PySem PySem.Spec PyProof.Rows L2
/-- what the set at a has got of the first i items -/
def GotN (w : World) (h : Heap) (a : Addr) (ps : List (Addr × NestedKey)) (i : Nat) : Prop := ∃ L es ep t, NS w h a L es ep t ∧ (L.map (·.2)).Perm (uniN ((ps.take i).map (·.2))) ∧ ∀ p ∈ L, p ∈ ps
section
variable {P : Program} {w : World} {A : Around} {R : Result → Shared → Prop} {I : Addr} {fp wr : List Addr} {G : Array GenState → Array GenState → Prop} {n : Nat} {Pv : Nat → Value → Prop} {St : Nat → Shared → Prop}
theorem GotN.keep {h h' : Heap} {a : Addr} {ps : List (Addr × NestedKey)} {i : Nat} (u : GotN w h a ps i) (k : ∀ o, h.get? a = some o → h'.get? a = some o) (el : ∀ p ∈ ps, NIs h' p.2 p.1) : GotN w h' a ps i :=
  let ⟨L, es, ep, t, R, pm, sub⟩ := u; let ⟨o, ho, r⟩ := R.ob; ⟨L, es, ep, t, ⟨⟨o, k o ho, r⟩, R.en, R.tb, R.nd, fun p hp => el p (sub p hp), R.ld, R.rm, R.fw⟩, pm, sub⟩
theorem loopN (W : WalksS P w A.in1 I fp wr G n Pv St) (a : Addr) (ha : a ∉ fp) (ps : List (Addr × NestedKey)) (hn : ps.length = n) (hb : n < 64) (hv : ∀ i v, Pv i v → ∃ p, ps[i]? = some p ∧ v = .ref p.1) (h0 : Heap) (hk : ∀ p ∈ ps, NIs h0 p.2 p.1) (ha0 : h0.get? a = none) (hw0 : ∀ b ∈ wr, h0.get? b = none)
    (hu : A.in1.units + 20 < cLine) : ∀ (j i : Nat) (s : Shared), i + j = n → St i s → (∀ b o, h0.get? b = some o → s.heap.get? b = some o) → GotN w s.heap a ps i →
      (∀ s', Moved (a :: wr) G s s' → GotN w s'.heap a ps n → R (.ok (.ret .none)) s') → codeAny (model P w) A (.builtin "set.update.loop" ⟨[.ref a, .ref I], []⟩) R s
  | 0, i, s, e, st, k0, u, fin => by
    have hw : a ∉ wr := fun z => ha (W.sub _ z)
    have e' : i = n := by omega
    subst e'
    refine codeAny_builtin PyProof.Rows.F.entry_set_update_loop ?_
    rw [Around.under_plainId PyProof.Rows.F.plain_set_update_loop _]
    refine wpAny_bind (m := pyNext (.ref I)) (W.done s _ _ st fun s' hm => wpAny_pure (fin s' (hm.mono fun b z => List.mem_cons_of_mem _ z) ?_))
    have k1 : ∀ b o, h0.get? b = some o → s'.heap.get? b = some o := fun b o q => hm.heap b o (fun z => by rw [hw0 b z] at q; cases q) (k0 b o q)
    exact u.keep (fun o q => hm.heap a o hw q) fun p hp => nIs_keep (hk p hp) k1
  | j + 1, i, s, e, st, k0, u, fin => by
    have hw : a ∉ wr := fun z => ha (W.sub _ z)
    have lt : i < n := by omega
    have hu1 : A.units + 21 < cLine := by have h1 := hu; rw [Around.in1_units] at h1; omega
    refine codeAny_builtin PyProof.Rows.F.entry_set_update_loop ?_
    rw [Around.under_plainId PyProof.Rows.F.plain_set_update_loop _]
    refine wpAny_bind (m := pyNext (.ref I)) (W.item i s _ _ lt st fun v s' pv st' hm => ?_)
    obtain ⟨p, hp, rfl⟩ := hv i v pv
    have k1 : ∀ b o, h0.get? b = some o → s'.heap.get? b = some o := fun b o q => hm.heap b o (fun z => by rw [hw0 b z] at q; cases q) (k0 b o q)
    obtain ⟨L, es, ep, t, R1, pm, sub⟩ := u.keep (h' := s'.heap) (fun o q => hm.heap a o hw q) fun p hp => nIs_keep (hk p hp) k1
    have hx : NIs s'.heap p.2 p.1 := nIs_keep (hk p (List.mem_of_getElem? hp)) k1
    have few : L.length ≤ i := by
      have h1 := pm.length_eq
      have h2 := len_unlike ((ps.take i).map (·.2)) []
      rw [List.length_map] at h1
      simp only [List.length_nil, List.length_map, List.length_take] at h2
      unfold uniN at h1
      omega
    show wpAny _ A.in1 (holding [.ref p.1] (setAdd a (.ref p.1)) >>= _) _ _ s'
    refine wpAny_bind (wpAny_holding ?_)
    unfold setAdd
    refine wpAny_holding (wpAny_bind ((nestedKind P w).pyHash (k := p.2) (by simp only [nestedKind]; omega) hx ?_))
    refine NS.add (s := { s' with toks := s'.toks + p.2.draws }) ⟨R1.ob, R1.en, R1.tb, R1.nd, R1.el, R1.ld, R1.rm, R1.fw⟩ hx (by omega) (by omega) fun b h' L' es' ep' t' sb R2 c1 c2 => ?_
    have g2 : GotN w h' a ps (i + 1) := by
      refine ⟨L', es', ep', t', R2, ?_, fun q hq => ?_⟩
      · rw [List.take_succ, hp, Option.toList_some, List.map_append, List.map_cons, List.map_nil, uni_one]
        unfold stp
        by_cases hm : p.2 ∈ L.map (·.2)
        · rw [c1 hm, if_pos (pm.mem_iff.mp hm)]; exact pm
        · rw [if_neg fun z => hm (pm.mem_iff.mpr z)]
          exact ((c2 hm).map _).trans ((pm.cons _).trans (List.perm_append_comm (l₁ := [_])))
      · by_cases hm : p.2 ∈ L.map (·.2)
        · rw [c1 hm] at hq; exact sub q hq
        · rcases List.mem_cons.mp ((c2 hm).mem_iff.mp hq) with e | e
          · rw [e]; exact List.mem_of_getElem? hp
          · exact sub q e
    refine wpAny_pure ⟨plainId_quiet PyProof.Rows.F.plain_set_update_loop _, loopN W a ha ps hn hb hv h0 hk ha0 hw0 hu j (i + 1) _ (by omega) (W.frame _ s' _ _ st' (by show s'.toks ≤ s'.toks + _; omega) fun b hb o q => ?_) (fun b o q => ?_) g2 fun s'' hm'' u3 => ?_⟩
    · rw [sb.2 b (fun z : b = a => ha (by rw [← z]; exact hb))]; exact q
    · exact (sb.2 b (fun z => by rw [z, ha0] at q; cases q)).trans (k1 b o q)
    · refine fin s'' (Moved.trans W.gtrans ((hm.mono fun b z => List.mem_cons_of_mem _ z).then_heap (by show s'.toks ≤ s'.toks + _; omega) fun b o hb q => ?_) hm'') u3
      rw [sb.2 b (fun z : b = a => hb (by rw [z]; exact List.mem_cons_self))]; exact q
end
section
variable {P : Program} {w : World} {A : Around} {E : Value → Shared → Prop} {s : Shared}
theorem call_setNL {l : Addr} {its : Array Value} {ps : List (Addr × NestedKey)} {Q : Value → Shared → Prop} (hh : A.handled = none) (hu : A.units + 30 < cLine) (hl : s.heap.IsList l its) (hi : its.toList = ps.map fun p => Value.ref p.1) (hk : ∀ p ∈ ps, NIs s.heap p.2 p.1) (hb : ps.length < 64)
    (fin : ∀ (h' : Heap) (tk : Nat), GotN w h' s.heap.objs.size ps ps.length → (∀ b o, b < s.heap.objs.size → s.heap.get? b = some o → h'.get? b = some o) → Q (.ref s.heap.objs.size) { s with heap := h', toks := tk }) : wpAny (model P w) A (call (.type "set") [.ref l]) Q E s := by
  have sz : its.size = ps.length := by rw [← Array.length_toList, hi, List.length_map]
  obtain ⟨c, tl, m1⟩ := PySem.F.called_set.mro
  have m2 := PySem.F.called_set.made
  have m3 := PySem.F.called_set.sub
  refine wpAny_call (codeAny_of_tree (show wpAny _ _ (callAny (.type "set") _) _ _ _ from wpAny_pure ⟨Code.quiet_builtin _ (by decide +kernel), codeAny_builtin PySem.F.entry_type_call ?_⟩))
  rw [Around.under_plain (weight_type_call_type "set" [.ref l] []) rfl]
  have m4 := PySem.F.called_set.notType
  have m5 := PySem.F.called_set.canCreate
  have m6 := PySem.F.typeCall_set_1 (.ref l)
  repeat (any_goals (first | assumption | wp_step))
  refine codeAny_mono (code_set_led1 (.ref l) (E := E) (Q₁ := fun ob t => ob = .ref s.heap.objs.size ∧ t = { s with heap := s.heap.push (nSet w) }) ⟨rfl, rfl⟩) fun r t hr => ?_
  cases r with
  | error e => exact hr
  | ok fl =>
    cases fl with
    | ret ob =>
      obtain ⟨rfl, rfl⟩ := hr
      have g0 : (s.heap.push (nSet w)).get? s.heap.objs.size = some (nSet w) := Heap.get?_push_size _ rfl
      have ty : Shared.TypeIs { s with heap := s.heap.push (nSet w) } (.ref s.heap.objs.size) "set" := ⟨_, g0, rfl⟩
      have i1 := PySem.F.called_set.init.lookup
      have i2 := PySem.F.called_set.init.bind (.ref s.heap.objs.size)
      repeat (any_goals (first | assumption | wp_step))
      refine codeAny_mono (codeAny_call_builtin (R := wants (fun r t => r = .none ∧ ∃ h' tk, t = { s with heap := h', toks := tk } ∧ GotN w h' s.heap.objs.size ps ps.length ∧ (∀ b o, b < s.heap.objs.size → s.heap.get? b = some o → h'.get? b = some o)) E) PySem.F.called_set.init.plain PySem.F.entry_set_init (check_set_init_1 ty ?_)) fun r2 t2 hr2 => ?_
      · obtain ⟨⟨oc, od, oa, os⟩, hol, hcl, nl, hdl⟩ := hl
        simp only at hcl hdl
        subst hcl; subst hdl
        have hol' : (s.heap.push (nSet w)).get? l = some { cls := .type "list", dict := od, data := .seq its nl, slots := os } := Heap.get?_push_of_some _ hol
        have n1 := PySem.F.sub_list_set
        have n2 := PySem.F.sub_list_frozenset
        have n3 : (Value.type "list" == Value.type "dict") = false := by decide
        have hl1 : (s.heap.push (nSet w)).IsList l its := ⟨_, hol', rfl, nl, rfl⟩
        unfold Builtin.«set.__init__» noKeywords Builtin.Frozenset.updateFrom
        generalize hit : pyIter = PI
        wp_walk
        subst hit
        refine wpAny_pyIter_list hl1 ?_; refine (wpAny_bind (wpAny_runValue ?_))
        have below : l < s.heap.objs.size := Heap.lt_size hol
        have none_ : ∀ b, s.heap.objs.size ≤ b → s.heap.get? b = none := fun b hb => by
          cases q : s.heap.get? b with
          | none => rfl
          | some o => exact absurd (Heap.lt_size q) (Nat.not_lt.mpr hb)
        have h3 : A.in1.in1.in1.handled = none := by simp [hh]
        have ne1 : l ≠ (s.heap.push (nSet w)).objs.size := by rw [Heap.size_push]; exact Nat.ne_of_lt (Nat.lt_succ_of_lt below)
        have nin : s.heap.objs.size ∉ [(s.heap.push (nSet w)).objs.size, l] := by
          rw [Heap.size_push]
          intro z
          rcases List.mem_cons.mp z with z | z
          · omega
          · exact Nat.ne_of_gt below (List.mem_singleton.mp z)
        refine loopN ((Walks.list h3 _ l ne1 its).toS) s.heap.objs.size nin ps sz.symm (by rw [sz]; exact hb) (fun i v hv => ?_) s.heap hk (none_ _ (Nat.le_refl _)) (fun b hb => none_ b (by rw [List.mem_singleton.mp hb, Heap.size_push]; exact Nat.le_succ _)) (by simp only [Around.in1_units]; omega) its.size 0 _ (by omega) ⟨⟨_, Heap.get?_push_size _ rfl, rfl, rfl⟩, (hl1.push _)⟩ (fun b o q => Heap.get?_push_of_some _ (Heap.get?_push_of_some _ q)) ?_ fun s' hm u => ?_
        · have hv' : its.toList[i]? = some v := by rw [Array.getElem?_toList]; exact hv
          rw [hi, List.getElem?_map] at hv'
          cases q : ps[i]? with
          | none => rw [q] at hv'; cases hv'
          | some p => rw [q] at hv'; cases hv'; exact ⟨p, rfl, rfl⟩
        · obtain ⟨es, ep, t, R⟩ := (NS0.new (w := w) (Heap.get?_push_of_some _ g0)).full (fun p z => nomatch z)
          exact ⟨[], es, ep, t, R, .refl _, fun p z => nomatch z⟩
        · obtain ⟨h', g', d', tk', os'⟩ := s'
          have e1 : g' = s.gens := hm.gens
          have e2 : d' = s.drawn := hm.drawn
          have e3 : os' = s.os := hm.os
          subst e1; subst e2; subst e3
          show wpAny _ _ _ _ _ _
          refine wpAny_pure (show wpAny _ _ (ret Value.none) _ _ _ from wpAny_pure ⟨rfl, h', tk', rfl, sz ▸ u, fun b o lt q => ?_⟩)
          refine hm.heap b o (fun z => ?_) (Heap.get?_push_of_some _ (Heap.get?_push_of_some _ q))
          rcases List.mem_cons.mp z with z | z
          · exact absurd z (Nat.ne_of_lt lt)
          · exact absurd (List.mem_singleton.mp z) (by rw [Heap.size_push]; exact Nat.ne_of_lt (Nat.lt_succ_of_lt lt))
      · cases r2 with
        | error e => exact hr2
        | ok f2 =>
          cases f2 with
          | ret r =>
            obtain ⟨rfl, h', tk, rfl, u, hk⟩ := hr2
            repeat (any_goals (first | assumption | wp_step))
            exact fin _ _ u hk
          | _ => exact hr2.elim
    | _ => exact hr.elim
end
end LB
end

section
set_option Elab.async false
set_option linter.all false
set_option maxRecDepth 100000
set_option maxHeartbeats 4000000
/-! sorted(xs), sorted(set(xs)). -/
namespace LB
open PySem PySem.Spec PyProof.Rows L2
theorem tok_eq (d : LB.D) : tokD d = PySem.W.keyToks ((pyD d).getD .none) := by
  unfold tokD
  cases pyD d with
  | none => rfl
  | some x => rfl
theorem le_eq {α : Type} (f : α → LB.D) (a b : α) : PySem.W.dataLe false (fun a => (pyD (f a)).getD .none) a b = leD (f a) (f b) := by
  show (!(listOrd itemOrd).blt _ _) = !(listOrd itemOrd).blt (tokD (f b)) (tokD (f a))
  rw [tok_eq, tok_eq]
theorem zip3 {W : Wd} : ∀ {its : List Value} {vs : List V} {ds : List LB.D}, Vals vs its → Reps W vs ds → ∃ bs : List (Value × V × LB.D), bs.map (·.1) = its ∧ bs.map (·.2.1) = vs ∧ bs.map (·.2.2) = ds ∧ ∀ b ∈ bs, RelV b.2.1 b.1 ∧ Rep W b.2.1 b.2.2
  | _, _, _, .nil, .nil => ⟨[], rfl, rfl, rfl, (fun b z => nomatch z)⟩
  | _, _, _, .cons (a := v) (b := u) h1 h2, .cons (d := d) r1 r2 => by
    obtain ⟨bs, e1, e2, e3, h⟩ := zip3 h2 r2
    refine ⟨(u, v, d) :: bs, by simp [e1], by simp [e2], by simp [e3], fun b hb => ?_⟩
    rcases List.mem_cons.mp hb with e | hb
    · subst e; exact ⟨h1, r1⟩
    · exact h b hb
theorem pyDs_mem : ∀ {ds : List LB.D} {ps : List PyData}, pyDs ds = some ps → ps = ds.map (fun d => (pyD d).getD .none) ∧ ∀ d ∈ ds, (pyD d).isSome = true
  | [], _, h => by simp only [pyDs] at h; cases h; exact ⟨rfl, (fun d z => nomatch z)⟩
  | d :: ds, _, h => by
    simp only [pyDs] at h
    cases e1 : pyD d with
    | none => rw [e1] at h; cases h
    | some x =>
      cases e2 : pyDs ds with
      | none => rw [e1, e2] at h; cases h
      | some xs =>
        rw [e1, e2] at h
        cases h
        obtain ⟨h1, h2⟩ := pyDs_mem e2
        refine ⟨by rw [List.map_cons, e1, ← h1]; rfl, fun y hy => ?_⟩
        rcases List.mem_cons.mp hy with e | hy
        · rw [e, e1]; rfl
        · exact h2 y hy
section
variable {X : Cx} {g : Sg} {Wx : WX} {pos p : Pos}
theorem sorted_ok (hK : X.K = g.K) (hu : X.A.units + 30 < cLine) (fz : Bool) : CallR X (.builtin "sorted") (rL g (f1 (sortF fz))) := rL_one fun pins s σ H x us Q W st d I r S rx pq => by
  unfold sortF at pq
  cases e : getL st d with
  | none => simp only [e] at pq; exact pq.elim
  | some ds =>
    simp only [e, Option.bind_some] at pq
    split at pq
    case isFalse => exact pq.elim
    rename_i hz
    cases e2 : srtD ds with
    | none => rw [e2] at pq; exact pq.elim
    | some es =>
      rw [e2, Option.map_some] at pq
      unfold srtD at e2
      cases e3 : pyDs ds with
      | none => rw [e3] at e2; cases e2
      | some ps =>
        rw [e3, Option.bind_some] at e2
        split at e2
        case isFalse => cases e2
        rename_i c
        cases e2
        simp only [srtOk, Bool.and_eq_true] at c
        obtain ⟨ep, hsome⟩ := pyDs_mem e3
        obtain ⟨l, vs, rfl, hl, rs⟩ := getL_ok S rx e
        obtain ⟨its, rv, pl, hz2⟩ := I.list (hK ▸ hl)
        obtain ⟨bs, b1, b2, b3, hb⟩ := zip3 rv rs
        rw [Vals.ref1 r]
        have emap : bs.map (fun b => (pyD b.2.2).getD .none) = ps := by
          rw [ep, ← b3, List.map_map]; rfl
        have mem : ∀ b ∈ bs, b.2.2 ∈ ds := fun b h => by rw [← b3]; exact List.mem_map.mpr ⟨b, h, rfl⟩
        refine PySem.W.sorted_data (prog := X.prog) (w := X.w) (vs := its) (bs := bs) (enc := fun b => (pyD b.2.2).getD .none) (R := fun v b => v = b.1) (by simpa using pl.isList) ?_ ?_ (emap ▸ alikeB_ok c.1) (emap ▸ sortable_ok c.2.1) ?_ (fun b hb' => ?_) fun out ho eo => ?_
        · rw [← b1]; exact each_of fun b _ => rfl
        · rw [← b1]
          refine each_of fun b h => ?_
          have hs := hsome _ (mem b h)
          cases q : pyD b.2.2 with
          | none => rw [q] at hs; cases hs
          | some y => exact rep_reads hK S I (hb b h).2 q (hb b h).1
        · rw [← List.length_map (f := fun b : Value × V × LB.D => b.2.2), b3]; exact hz
        · have h1 := List.all_eq_true.mp c.2.2 _ (emap ▸ List.mem_map.mpr ⟨b, hb', rfl⟩)
          rw [decide_eq_true_eq] at h1
          omega
        · obtain rfl := each_eq eo
          obtain ⟨cc, hc⟩ := sortedAll_at s.heap its ((bs.mergeSort (PySem.W.dataLe false fun b => (pyD b.2.2).getD .none)).map (·.1)).toArray
          have hn : H (s.heap.objs.size + 1) = none := I.hok.fresh (Nat.le_succ _)
          have kp : ∀ b o, s.heap.get? b = some o → (sortedAll s.heap its ((bs.mergeSort (PySem.W.dataLe false fun b => (pyD b.2.2).getD .none)).map (·.1)).toArray).get? b = some o := fun b o q => sortedAll_old q
          generalize sortedAll s.heap its ((bs.mergeSort (PySem.W.dataLe false fun b => (pyD b.2.2).getD .none)).map (·.1)).toArray = h' at hc kp ⊢
          have emem : ∀ b ∈ bs.mergeSort (PySem.W.dataLe false fun b => (pyD b.2.2).getD .none), b ∈ bs := fun b h => List.mem_mergeSort.mp h
          have vv : ∀ l : List (Value × V × LB.D), (∀ b ∈ l, b ∈ bs) → Vals (l.map (·.2.1)) (l.map (·.1)) := fun l => by
            induction l with
            | nil => exact fun _ => .nil
            | cons b l ih => exact fun h => .cons (hb b (h b (List.mem_cons_self ..))).1 (ih fun c hc => h c (List.mem_cons_of_mem _ hc))
          have J : Inv X pins σ (upd H (s.heap.objs.size + 1) (.lst ((bs.mergeSort (PySem.W.dataLe false fun b => (pyD b.2.2).getD .none)).map (·.2.1)))) { s with heap := h' } :=
            I.call (ch := []) (L2.Un.laid kp (Nat.le_succ _) hn) (I.hok.laid kp (Nat.le_succ _) ⟨by
              rw [List.length_map, List.length_mergeSort, ← List.length_map (f := fun b : Value × V × LB.D => b.2.2), b3]; exact hz, _, cc, vv _ emem, hc⟩) I.bare (fun _ z => nomatch z)
          have eD : (bs.mergeSort (PySem.W.dataLe false fun b => (pyD b.2.2).getD .none)).map (·.2.2) = isort leD ds := by
            rw [PySem.W.sort_maps (s := leD) (fun b : Value × V × LB.D => b.2.2) (fun a _ b _ => le_eq (fun b : Value × V × LB.D => b.2.2) a b), b3, ← isort_merge leD_T]
          have rr : Reps W ((bs.mergeSort (PySem.W.dataLe false fun b => (pyD b.2.2).getD .none)).map (·.2.1)) (isort leD ds) := by
            rw [← eD]
            exact reps_map fun b h => (hb b (emem b h)).2
          obtain ⟨W', le, S', r'⟩ := mkL_ok S hn rr fz
          exact ⟨.ref _, _, J, rfl, pq W' _ _ le S' r'⟩
theorem keys_refs {W : Wd} : ∀ {vs : List V} {ds : List LB.D} {ks : List NestedKey}, Reps W vs ds → keyNs ds = some ks → (ks.all fun k => decide (k.depth ≤ 8) && kindS true k) = true →
    ∃ ps : List (Addr × NestedKey), vs = ps.map (fun p => V.ref p.1) ∧ ps.map (·.2) = ks ∧ (∀ p ∈ ps, p.2.depth ≤ 8) ∧ ∀ p ∈ ps, Rep W (.ref p.1) (ofN p.2)
  | _, _, ks, .nil, h, _ => by simp only [keyNs] at h; cases h; exact ⟨[], rfl, rfl, (fun p z => nomatch z), (fun p z => nomatch z)⟩
  | _, _, _, .cons (d := d) (ds := ds) r rs, h, ha => by
    simp only [keyNs] at h
    cases e1 : keyN d with
    | none => rw [e1] at h; cases h
    | some k =>
      cases e2 : keyNs ds with
      | none => rw [e1, e2] at h; cases h
      | some ks =>
        rw [e1, e2] at h
        cases h
        simp only [List.all_cons, Bool.and_eq_true, decide_eq_true_eq] at ha
        obtain ⟨ps, h1, h2, h3, h4⟩ := keys_refs rs e2 (by simpa using ha.2)
        have ed := ofN_key d k e1
        cases k with
        | tup js =>
          rw [ofN] at ed
          subst ed
          cases r with
          | @tup a us _ q r =>
            refine ⟨(a, .tup js) :: ps, by simp [h1], by simp [h2], fun p hp => ?_, fun p hp => ?_⟩
            · rcases List.mem_cons.mp hp with e | hp
              · rw [e]; exact ha.1.1
              · exact h3 p hp
            · rcases List.mem_cons.mp hp with e | hp
              · rw [e]; show Rep W (.ref a) (ofN (.tup js)); rw [ofN]; exact .tup q r
              · exact h4 p hp
        | _ => exact absurd ha.1.2 (by simp [kindS])
theorem refs_vals : ∀ {ps : List (Addr × NestedKey)} {us : List Value}, Vals (ps.map fun p => V.ref p.1) us → us = ps.map fun p => Value.ref p.1
  | [], _, .nil => rfl
  | p :: ps, _, .cons r t => by rw [List.map_cons, ← refs_vals t]; cases r; rfl
theorem se_sortS {a : Expr} {fa : FE} {p2 q2 : Pos} (fz : Bool) (hK : X.K = g.K) (hc : X.calm = true) (hu : X.A.units + 40 < cLine) (hg : Gl X "sorted") (hm : X.mg "sorted" = none) (hg2 : Gl X "set") (hm2 : X.mg "set" = none) (ha : PE X a (tE g Wx fa)) (hs : noStar a = true) :
    PE X (.Call (.Name "sorted" p) [.Call (.Name "set" p2) [a] [] q2] [] pos) (tE g Wx fun en st => (fa en st).bind fun d s => liftO (sortSF fz d s)) := by
  refine ⟨fun pins s σ H Q I ⟨W, st, en, hE, S, post⟩ => ?_⟩
  refine Call_ (ld_blt I hg hm boot_sorted (PyProof.Rows.callWith_builtin1 (PyProof.Rows.args_cons (Call_ (ld_blt I hg2 hm2 boot_set ?_)) rfl) rfl rfl))
  have na := star_cons (env := X.env) (es := []) hs
  refine PyProof.Rows.callWith_type1 (PyProof.Rows.args_cons (thn (ha.run pins s σ H (fun x H2 => ∃ W2 st2 d, Sim g W2 st2 H2 ∧ Rep W2 x d ∧ PostV g Q W2 (sortSF fz d st2)) I ⟨W, st, en, hE, S, ?_⟩) fun v s1 ⟨x, H1, I1, r1, W2, st2, d, S2, rx, q1⟩ => PyProof.Rows.args_nil ?_) na) na rfl
  · cases e : fa en st with
    | ok d s =>
      simp only [e, Res.bind_ok] at post ⊢
      exact fun W' b H' le S' r => ⟨W', s, d, S', r, post_lift (post.mono le)⟩
    | exn x s => simp only [e, Res.bind_exn] at post ⊢; exact post
    | bad => simp only [e, Res.bind_bad] at post; exact post.elim
  · unfold sortSF at q1
    cases e1 : getL st2 d with
    | none => rw [e1] at q1; exact q1.elim
    | some ds =>
      simp only [e1, Option.bind_some] at q1
      cases e2 : keyNs ds with
      | none => rw [e2] at q1; exact q1.elim
      | some ks =>
        simp only [e2, Option.bind_some] at q1
        split at q1
        case isFalse => exact q1.elim
        rename_i c
        cases e3 : srtD (ofNs (uniN ks)) with
        | none => rw [e3] at q1; exact q1.elim
        | some es =>
          rw [e3, Option.map_some] at q1
          obtain ⟨l, vs, rfl, hl, rs⟩ := getL_ok S2 rx e1
          obtain ⟨ps, rfl, ek, dp, rp⟩ := keys_refs rs e2 c.2
          cases r1
          obtain ⟨its, rv, pl, hz⟩ := I1.list (hK ▸ hl)
          have dn : H1 s1.heap.objs.size = none := I1.hok.fresh (Nat.le_refl _)
          have nP := S2.noPin dn
          refine call_setNL (P := X.prog) (w := X.w) (ps := ps) (I1.ok.hd hc) (by omega) pl.isList (by simpa using refs_vals rv) (fun p hp => ⟨rep_nis hK S2 I1 p.2 _ _ (rp p hp) rfl, dp p hp⟩) (by rw [← List.length_map (f := fun p : Addr × NestedKey => p.2), ek]; exact c.1) fun h' tk u kp => PyProof.Rows.args_nil ?_
          obtain ⟨L, es', ep, t, R, pm, sub⟩ := u
          rw [List.take_length, ek] at pm
          have I2 : Inv X pins σ (upd H1 s1.heap.objs.size (SetN X.w s1.heap.objs.size L)) { s1 with heap := h', toks := tk } := I1.laid (t' := tk) (fun b o e => kp b o (Heap.lt_size e) e) (Nat.le_refl _) (setN_ok R.less)
          have S3 : Sim g (W2.addP s1.heap.objs.size (SetN X.w s1.heap.objs.size L)) st2 (upd H1 s1.heap.objs.size (SetN X.w s1.heap.objs.size L)) := Sim.addP (o := SetN X.w s1.heap.objs.size L) (S2.fresh dn) upd_same (S2.freeOf dn) ⟨trivial, S2.noLi dn⟩
          refine accS_sorted (W1 := W2) (tp := true) (ks := ks) hK hc (by omega) I2 S3 (W2.addP_le _ _) nP ⟨L, .inr ⟨rfl, rfl⟩, pm, fun p hp => dp p (sub p hp), fun p hp => (rp p (sub p hp)).mono (W2.addP_le _ _)⟩ e3 c.1 fz fun q H9 W9 l9 S9 r9 => ?_
          exact q1 W9 _ H9 l9 S9 r9
end
end LB
end

section
set_option Elab.async false
set_option linter.all false
set_option maxRecDepth 100000
set_option maxHeartbeats 4000000
/-! What the small language does is what the syntax does. -/
namespace LB
open PySem PySem.Spec PyProof.Rows L2
/-- what is known of the program, at a depth of calls -/
structure Tab (P : Program) (w : World) (mg : Str → Option Value) (base : Heap) (g : Sg) (k : Nat) (pr : Pr) : Prop where
  fns : ∀ (i : Nat) d, pr.defs[i]? = some d → ∃ f fd, FnI P w mg base g (2 * k + 2) f fd d.ps (pr.run k i) ∧ (d.own = none → mg d.name = some (.ref f) ∧ PySem.W.keepIn g.K (.ref f) = true) ∧ (∀ q, d.own = some q → ∃ C, g.cv q.1 = .ref C ∧ Cls g.K C ∧ Meth g.K C q.2 f) ∧ ∀ p ∈ d.shs, Bnd g.K fd d.ps p.n p.ks p.src (p.dds.map flV) ∧ flAll p.dds
  cns : ∀ (i : Nat) x d, pr.cons[i]? = some (x, d) → ∃ v u, mg x = some u ∧ RelV v u ∧ ∀ W st H, Sim g W st H → Rep W v d
  fre : ∀ x ∈ pr.free, mg x = none
  cls : ClsOk g mg pr
  ini : IniOk g mg pr
  ins : InsOk g pr
  icl : IclOk g mg pr
  fnv : ∀ (i : Nat) x, pr.fns.lookup i = some x → ∃ f, g.cv (100000 + i) = .ref f ∧ mg x = some (.ref f)
  lit : ∀ (i : Nat) (a : Addr) (es : Array DictEntry) (n : Nat), g.cv (200000 + i) = .ref a → g.K.lookup a = some ⟨.type "dict", none, .dict es n, #[]⟩ → PySem.W.KeysLit w.params es.toList
  sm : smK g.K
structure Good (pr : Pr) (g : Sg) (k : Nat) (Wx : WX) (S : Sc) (X : Cx) : Prop where
  K : X.K = g.K
  N : X.N = S.N
  nd : S.N.Nodup
  sc : X.env.scope = S.sc
  kind : S.sc.kind = .function
  fn : ∀ x, X.fn x = fnb S.wr x
  calm : S.cm = true → X.calm = true
  room : S.cm = true → Room (2 * k + 3) X.A
  un : X.A.units + 200 < cLine
  gd : X.A.guards = some []
  top : S.wr = none → X.stack = X.env :: X.outer ∧ X.env.frame = some X.env.locals ∧ X.ex = []
  po : PassesOwn (model X.prog X.w) X.A X.env X.xe
  tk : Takes X Wx
  tab : Tab X.prog X.w X.mg X.base g k pr
abbrev Pr.at (pr : Pr) (k : Nat) : Ev := ⟨pr.run k, pr⟩
section
variable {pr : Pr} {g : Sg} {k : Nat} {Wx : WX} {S : Sc} {X : Cx}
theorem nodbg_ok {x : Str} (h : nodbg x = true) : (x == ("__debug__" : Str)) = false := by simpa [nodbg] using h
theorem Good.nd' (G : Good pr g k Wx S X) : X.N.Nodup := G.N ▸ G.nd
theorem Good.vis (G : Good pr g k Wx S X) {i : Nat} {x : Str} (h : S.vis i x = true) : X.N[i]? = some x ∧ Vis X.env.scope x ∧ (x == ("__debug__" : Str)) = false ∧ (x == ("__classdict__" : Str)) = false := by
  simp only [Sc.vis, Bool.and_eq_true, decide_eq_true_eq] at h
  obtain ⟨⟨⟨h1, h2⟩, h3⟩, h4⟩ := h
  refine ⟨by rw [G.N]; exact h1, ?_, nodbg_ok h2, by simpa using h3⟩
  unfold Vis
  rw [G.sc]
  split at h4 <;> simp_all
theorem Good.gl (G : Good pr g k Wx S X) {x : Str} (h : S.gl x = true) : Gl X x ∧ (x == ("__debug__" : Str)) = false := by
  simp only [Sc.gl, Bool.and_eq_true] at h
  refine ⟨?_, nodbg_ok h.1⟩
  show X.env.scope.names.lookup x = some .globalImplicit
  rw [G.sc]
  have h2 := h.2
  split at h2
  · assumption
  · cases h2
theorem Good.stor (G : Good pr g k Wx S X) {i : Nat} {x : Str} (h : S.stor i x = true) : X.N[i]? = some x ∧ Loc X.env.scope x ∧ (X.fn x = true ∨ X.env.scope.names.lookup x = some .local) := by
  simp only [Sc.stor, Bool.and_eq_true, decide_eq_true_eq] at h
  obtain ⟨h1, h2⟩ := h
  refine ⟨by rw [G.N]; exact h1, ?_⟩
  unfold L2.Loc
  rw [G.sc, G.fn]
  split at h2 <;> simp_all
theorem relabel_relS {scope : Scope} {env : Env} : relabel scope env = relS scope env.scope := rfl
theorem Good.blk (G : Good pr g k Wx S X) {scope : Scope} (hk : scope.kind = .function) (s : Shared) (H : Hp) (C : Addr) (cl : List (Str × Addr)) (fp : List Addr) : Good pr g k noX (S.blk scope) (X.blk s H scope (compEnvC scope cl C X.env) fp) where
  K := G.K
  N := G.N
  nd := G.nd
  sc := by
    show relabel scope X.env = relS scope S.sc
    rw [relabel_relS, G.sc]
  kind := hk
  fn := fun x => rfl
  calm := G.calm
  room := G.room
  un := G.un
  gd := G.gd
  top := fun z => nomatch z
  po := PassesOwn.never
  tk := takes0
  tab := G.tab
theorem ck_nm {i : Nat} {e : Expr} (h : (Tg.nm i).ck S e = true) : ∃ x p, e = .Name x p ∧ S.stor i x = true := by
  cases e <;> simp_all [Tg.ck]
theorem ck_tp {ts : Tgs} {e : Expr} (h : (Tg.tp ts).ck S e = true) : ∃ es kk p, e = .Tuple es kk p ∧ ts.ck S es = true ∧ S.cm = true := by
  cases e <;> simp_all [Tg.ck]
/-- the context of a try's body, of an except suite -/
theorem Good.tr (G : Good pr g k Wx S X) {W : WX} {pn : List (Addr × Obj)} {xe : Value → Shared → Prop} (tk : Takes (X.tr pn xe) W) (po : PassesOwn (model X.prog X.w) X.A X.env xe) : Good pr g k W S (X.tr pn xe) :=
  ⟨G.K, G.N, G.nd, G.sc, G.kind, G.fn, G.calm, G.room, G.un, G.gd, G.top, po, tk, G.tab⟩
theorem Good.su (G : Good pr g k Wx S X) (a : Addr) (pn : List (Addr × Obj)) : Good pr g k noX { S with cm := false } (X.suite a pn) :=
  ⟨G.K, G.N, G.nd, G.sc, G.kind, G.fn, fun z => (nomatch z), fun z => (nomatch z), G.un, G.gd, G.top, PassesOwn.never, takes0, G.tab⟩
mutual
theorem sound_tg (G : Good pr g k Wx S X) : ∀ (t : Tg) (e : Expr), t.ck S e = true → PG X e (tB1 g t.is t.bt)
  | .nm i, e, h => by
    obtain ⟨x, p, rfl, h⟩ := ck_nm h
    obtain ⟨h1, h2, h3⟩ := G.stor h
    exact sg_name G.nd' h1 h2 h3
  | .tp ts, e, h => by
    obtain ⟨es, kk, p, rfl, h, hc⟩ := ck_tp h
    obtain ⟨h1, h2, h3⟩ := sound_tgs G ts es h
    exact sg_tup G.K (G.calm hc) h1 h2 h3
theorem sound_tgs (G : Good pr g k Wx S X) : ∀ (ts : Tgs) (es : List Expr), ts.ck S es = true → PGs X es (tBs g ts.is ts.bt) ∧ (assignEach es X.env).length = ts.len ∧ (assignEach es X.env).findIdx? (·.1) = none
  | .nil, [], h => ⟨sgs_nil, rfl, rfl⟩
  | .cons t r, e :: es, h => by
    simp only [Tgs.ck, Bool.and_eq_true] at h
    have h1 := sound_tg G t e h.1.1
    obtain ⟨h2, h3, h4⟩ := sound_tgs G r es h.2
    have hs : assignEach (e :: es) X.env = (false, assign e X.env) :: assignEach es X.env := by
      have := h.1.2
      cases e <;> first | rfl | cases this
    refine ⟨sgs_cons h1 h2 (by rw [hs]; rfl), by rw [hs]; simp [h3, Tgs.len], by rw [hs]; simp [List.findIdx?_cons, h4]⟩
  | .nil, _ :: _, h => by simp [Tgs.ck] at h
  | .cons _ _, [], h => by simp [Tgs.ck] at h
end
end
end LB
end

section
set_option Elab.async false
set_option linter.all false
set_option maxRecDepth 100000
set_option maxHeartbeats 4000000
/-! Reading a check backwards. -/
namespace LB
open PySem PySem.Spec PyProof.Rows L2
section
variable {pr : Pr} {S : Sc} {e : Expr}
theorem ck_non (h : Ex.non.ck pr S e = true) : ∃ j p, e = .Constant .none j p := by
  unfold Ex.ck at h
  split at h <;> simp_all
theorem ck_bl {b : Bool} (h : (Ex.bl b).ck pr S e = true) : ∃ j p, e = .Constant (.bool b) j p := by
  unfold Ex.ck at h
  split at h <;> simp_all
theorem ck_int {b : Int} (h : (Ex.int b).ck pr S e = true) : ∃ j p, e = .Constant (.int b) j p := by
  unfold Ex.ck at h
  split at h <;> simp_all
theorem ck_str {b : Str} (h : (Ex.str b).ck pr S e = true) : ∃ j p, e = .Constant (.str b) j p := by
  unfold Ex.ck at h
  split at h <;> simp_all
theorem ck_var {i : Nat} (h : (Ex.var i).ck pr S e = true) : ∃ x p, e = .Name x p ∧ S.vis i x = true := by
  unfold Ex.ck at h
  split at h <;> simp_all
theorem ck_glo {i : Nat} (h : (Ex.glo i).ck pr S e = true) : ∃ x p d, e = .Name x p ∧ S.gl x = true ∧ pr.cons[i]? = some (x, d) := by
  unfold Ex.ck at h
  split at h <;> simp_all
  obtain ⟨h1, h2⟩ := h
  split at h2 <;> simp_all
theorem ck_bin {o : BO} {fz : Bool} {a b : Ex} (h : (Ex.bin o fz a b).ck pr S e = true) : ∃ l r p, e = .BinOp l o.op r p ∧ a.ck pr S l = true ∧ b.ck pr S r = true := by
  unfold Ex.ck at h
  split at h
  all_goals (try contradiction)
  rename_i heq
  cases heq
  simp only [Bool.and_eq_true, opIs, decide_eq_true_eq] at h
  obtain ⟨⟨rfl, h1⟩, h2⟩ := h
  exact ⟨_, _, _, rfl, h1, h2⟩
theorem ck_neg {a : Ex} (h : (Ex.neg a).ck pr S e = true) : ∃ l p, e = .UnaryOp .USub l p ∧ a.ck pr S l = true := by
  unfold Ex.ck at h
  split at h <;> simp_all
theorem ck_notV {a : Ex} (h : (Ex.notV a).ck pr S e = true) : ∃ l p, e = .UnaryOp .Not l p ∧ a.ck pr S l = true := by
  unfold Ex.ck at h
  split at h <;> simp_all
theorem ck_cmp {o : CO} {a b : Ex} (h : (Ex.cmp o a b).ck pr S e = true) : ∃ l r p, e = .Compare l [o.op] [r] p ∧ a.ck pr S l = true ∧ b.ck pr S r = true ∧ behindInMarks o.op r = false := by
  unfold Ex.ck at h
  split at h
  all_goals (try contradiction)
  rename_i heq
  cases heq
  simp only [Bool.and_eq_true, cmpIs, decide_eq_true_eq, Bool.not_eq_true'] at h
  obtain ⟨⟨⟨rfl, h1⟩, h2⟩, h3⟩ := h
  exact ⟨_, _, _, rfl, h1, h2, h3⟩
theorem ck_chain {o o' : CO} {a b c : Ex} (h : (Ex.chain o o' a b c).ck pr S e = true) : ∃ l m r p, e = .Compare l [o.op, o'.op] [m, r] p ∧ a.ck pr S l = true ∧ b.ck pr S m = true ∧ c.ck pr S r = true ∧ lastMarks [o.op, o'.op] [m, r] = false := by
  unfold Ex.ck at h
  split at h
  all_goals (try contradiction)
  rename_i heq
  cases heq
  simp only [Bool.and_eq_true, cmpIs, decide_eq_true_eq, Bool.not_eq_true'] at h
  obtain ⟨⟨⟨⟨⟨rfl, rfl⟩, h1⟩, h2⟩, h3⟩, h4⟩ := h
  exact ⟨_, _, _, _, rfl, h1, h2, h3, h4⟩
theorem ck_andV {a : Ex} {r : Exs} (h : (Ex.andV a r).ck pr S e = true) : ∃ x es p, e = .BoolOp .And (x :: es) p ∧ a.ck pr S x = true ∧ r.ck pr S es = true := by
  unfold Ex.ck at h
  split at h
  all_goals (try contradiction)
  rename_i heq
  cases heq
  simp only [Bool.and_eq_true] at h
  obtain ⟨h1, h2⟩ := h
  exact ⟨_, _, _, rfl, h1, h2⟩
theorem ck_orV {a : Ex} {r : Exs} (h : (Ex.orV a r).ck pr S e = true) : ∃ x es p, e = .BoolOp .Or (x :: es) p ∧ a.ck pr S x = true ∧ r.ck pr S es = true := by
  unfold Ex.ck at h
  split at h
  all_goals (try contradiction)
  rename_i heq
  cases heq
  simp only [Bool.and_eq_true] at h
  obtain ⟨h1, h2⟩ := h
  exact ⟨_, _, _, rfl, h1, h2⟩
theorem ck_ife {c : Te} {a b : Ex} (h : (Ex.ife c a b).ck pr S e = true) : ∃ t x y p, e = .IfExp t x y p ∧ c.ck pr S t = true ∧ a.ck pr S x = true ∧ b.ck pr S y = true := by
  unfold Ex.ck at h
  split at h
  all_goals (try contradiction)
  rename_i heq
  cases heq
  simp only [Bool.and_eq_true] at h
  obtain ⟨⟨h1, h2⟩, h3⟩ := h
  exact ⟨_, _, _, _, rfl, h1, h2, h3⟩
theorem ck_tup {es : Exs} (h : (Ex.tup es).ck pr S e = true) : ∃ l j p, e = .Tuple l j p ∧ es.ck pr S l = true ∧ l.all noStar = true := by
  unfold Ex.ck at h
  split at h
  all_goals (try contradiction)
  rename_i heq
  cases heq
  simp only [Bool.and_eq_true] at h
  obtain ⟨h1, h2⟩ := h
  exact ⟨_, _, _, rfl, h1, h2⟩
theorem ck_lst {fz : Bool} {es : Exs} (h : (Ex.lst fz es).ck pr S e = true) : ∃ l p, e = .List l p ∧ es.ck pr S l = true ∧ l.all noStar = true := by
  unfold Ex.ck at h
  split at h
  all_goals (try contradiction)
  rename_i heq
  cases heq
  simp only [Bool.and_eq_true] at h
  obtain ⟨h1, h2⟩ := h
  exact ⟨_, _, rfl, h1, h2⟩
theorem ck_ix {a i : Ex} (h : (Ex.ix a i).ck pr S e = true) : ∃ o b p, e = .Subscript o b p ∧ a.ck pr S o = true ∧ i.ck pr S b = true ∧ noSlice b = true := by
  unfold Ex.ck at h
  split at h
  all_goals (try contradiction)
  rename_i heq
  cases heq
  simp only [Bool.and_eq_true] at h
  obtain ⟨⟨h1, h2⟩, h3⟩ := h
  exact ⟨_, _, _, rfl, h1, h2, h3⟩
theorem ck_sl {fz : Bool} {a : Ex} {lo hi : ExO} (h : (Ex.sl fz a lo hi).ck pr S e = true) : ∃ o l u p2 p, e = .Subscript o (.Slice l u none p2) p ∧ a.ck pr S o = true ∧ lo.ck pr S l = true ∧ hi.ck pr S u = true := by
  unfold Ex.ck at h
  split at h
  all_goals (try contradiction)
  rename_i heq
  cases heq
  simp only [Bool.and_eq_true] at h
  obtain ⟨⟨h1, h2⟩, h3⟩ := h
  exact ⟨_, _, _, _, _, rfl, h1, h2, h3⟩
theorem ck_rev {fz : Bool} {a : Ex} (h : (Ex.rev fz a).ck pr S e = true) : ∃ o j p1 p2 p3 p, e = .Subscript o (.Slice none none (some (.UnaryOp .USub (.Constant (.int 1) j p1) p2)) p3) p ∧ a.ck pr S o = true := by
  unfold Ex.ck at h
  split at h
  all_goals (try contradiction)
  rename_i heq
  cases heq
  simp only [Bool.and_eq_true, decide_eq_true_eq] at h
  obtain ⟨h1, rfl⟩ := h
  exact ⟨_, _, _, _, _, _, rfl, h1⟩
theorem ck_isi {a : Ex} {T : String} (h : (Ex.isi a T).ck pr S e = true) : ∃ x y p1 p2 p, e = .Call (.Name "isinstance" p1) [x, .Name y p2] [] p ∧ S.gl "isinstance" = true ∧ ("isinstance" : Str) ∈ pr.free ∧ S.gl y = true ∧ y ∈ pr.free ∧ bootBuiltins y = some (.type T) ∧ y ≠ "__name__" ∧ a.ck pr S x = true ∧ noStar x = true := by
  unfold Ex.ck at h
  split at h
  all_goals (try contradiction)
  rename_i heq
  cases heq
  simp only [Bool.and_eq_true, decide_eq_true_eq] at h
  obtain ⟨⟨⟨⟨⟨⟨⟨⟨rfl, h1⟩, h2⟩, h3⟩, h4⟩, h5⟩, h6⟩, h7⟩, h8⟩ := h
  exact ⟨_, _, _, _, _, rfl, h1, by simpa using h2, h3, by simpa using h4, h5, h6, h7, h8⟩
theorem ck_call {f sh : Nat} {es ks : Exs} (h : (Ex.call f sh es ks).ck pr S e = true) : ∃ d q args kws p p2, e = .Call (.Name d.name p2) args kws p ∧ d.own = none ∧ S.gl d.name = true ∧ es.ck pr S args = true ∧ ks.ckK pr S kws = true ∧ args.all noStar = true ∧ pr.defs[f]? = some d ∧ d.shs[sh]? = some q ∧ kwNames kws = q.ks.map some ∧ S.cm = true := by
  unfold Ex.ck at h
  split at h
  all_goals (try contradiction)
  rename_i heq
  cases heq
  simp only [Bool.and_eq_true] at h
  obtain ⟨⟨⟨⟨⟨h1, h2⟩, h3⟩, h4⟩, hcm⟩, h5⟩ := h
  split at h5
  · rename_i d hd
    simp only [Bool.and_eq_true, decide_eq_true_eq] at h5
    obtain ⟨⟨e1, e2⟩, h6⟩ := h5
    subst e1
    split at h6
    · rename_i q hq
      exact ⟨d, q, _, _, _, _, rfl, by simpa using e2, h1, h2, h3, h4, hd, hq, of_decide_eq_true h6, hcm⟩
    · cases h6
  · cases h5
theorem ck_blt {b : Bl} {es : Exs} (h : (Ex.blt b es).ck pr S e = true) : ∃ a args p p2, e = .Call (.Name b.name p2) (a :: args) [] p ∧ S.gl b.name = true ∧ es.ck pr S (a :: args) = true ∧ (a :: args).all noStar = true ∧ b.name ∈ pr.free ∧ (S.cm = true ∨ b.cold = true) := by
  unfold Ex.ck at h
  split at h
  all_goals (try contradiction)
  rename_i heq
  cases heq
  simp only [Bool.and_eq_true, decide_eq_true_eq] at h
  obtain ⟨⟨⟨⟨⟨h1, h2⟩, h3⟩, h4⟩, h5⟩, h6⟩ := h
  subst h4
  exact ⟨_, _, _, _, rfl, h1, h2, h3, by simpa using h5, by simpa using h6⟩
/-- what a comprehension's check says -/
structure LcOk (pr : Pr) (S : Sc) (own : List (Str × Nat)) (t : Tg) (it : It) (c : TeO) (x : Ex) (elt tg iter : Expr) (ifs : List Expr) (scope : Scope) : Prop where
  cm : S.cm = true
  it : it.ck pr S tg iter = true
  ns : noSet iter = true
  bk : blkC S.N S.sc scope own = true
  is : ∀ i ∈ t.is, i ∈ own.map (·.2)
  t : t.ck (S.blk scope) tg = true
  c : c.ck pr (S.blk scope) ifs = true
  e : x.ck pr (S.blk scope) elt = true
theorem ck_comp {fz : Bool} {own : List (Str × Nat)} {t : Tg} {it : It} {c : TeO} {x : Ex} (h : (Ex.comp fz own t it c x).ck pr S e = true) : ∃ elt tg iter ifs scope p, e = .ListComp elt [⟨tg, iter, ifs, 0⟩] scope p ∧ LcOk pr S own t it c x elt tg iter ifs scope := by
  unfold Ex.ck at h
  split at h
  all_goals (try contradiction)
  rename_i heq
  cases heq
  simp only [Bool.and_eq_true] at h
  obtain ⟨⟨⟨⟨⟨⟨⟨h0, h1⟩, h2⟩, h3⟩, h4⟩, h5⟩, h6⟩, h7⟩ := h
  exact ⟨_, _, _, _, _, _, rfl, h0, h1, h2, h3, by simpa using h4, h5, h6, h7⟩
theorem ck_dnew {fz : Bool} (h : (Ex.dnew fz).ck pr S e = true) : ∃ p, e = .Dict [] [] p := by
  unfold Ex.ck at h
  split at h <;> simp_all
theorem ck_ifld {a : Ex} {f : Str} (h : (Ex.ifld a f).ck pr S e = true) : ∃ o p, e = .Attribute o f p ∧ a.ck pr S o = true ∧ noCall o = true := by
  unfold Ex.ck at h
  split at h
  all_goals (try contradiction)
  rename_i heq
  cases heq
  simp only [Bool.and_eq_true, decide_eq_true_eq] at h
  obtain ⟨⟨h1, rfl⟩, h3⟩ := h
  exact ⟨_, _, rfl, h1, h3⟩
theorem ck_mk {c f sh : Nat} {es : Exs} (h : (Ex.mk c f sh es).ck pr S e = true) : ∃ d q x args p p2, e = .Call (.Name x p2) args [] p ∧ S.gl x = true ∧ es.ck pr S args = true ∧ args.all noStar = true ∧ S.cm = true ∧ pr.icl.lookup c = some x ∧ pr.defs[f]? = some d ∧ d.own = some (c, ("__init__" : Str)) ∧ d.shs[sh]? = some q ∧ q.ks = [] := by
  unfold Ex.ck at h
  split at h
  all_goals (try contradiction)
  rename_i heq
  cases heq
  simp only [Bool.and_eq_true, decide_eq_true_eq] at h
  obtain ⟨⟨⟨⟨⟨h1, h2⟩, h3⟩, h4⟩, h5⟩, h6⟩ := h
  split at h6
  · rename_i d hd
    simp only [Bool.and_eq_true, decide_eq_true_eq] at h6
    obtain ⟨e1, h7⟩ := h6
    split at h7
    · rename_i q hq
      exact ⟨d, q, _, _, _, _, rfl, h1, h2, h3, h4, h5, hd, e1, hq, of_decide_eq_true h7⟩
    · cases h7
  · cases h6
theorem ck_mcall {m : Str} {sh : Nat} {o : Ex} {es : Exs} (h : (Ex.mcall m sh o es).ck pr S e = true) : ∃ x ap args p, e = .Call (.Attribute x m ap) args [] p ∧ o.ck pr S x = true ∧ es.ck pr S args = true ∧ args.all noStar = true ∧ noCall x = true ∧ (ap.endLine == p.line) = true ∧ args.length < 10 ∧ S.cm = true := by
  unfold Ex.ck at h
  split at h
  all_goals (try contradiction)
  rename_i heq
  cases heq
  simp only [Bool.and_eq_true, decide_eq_true_eq] at h
  obtain ⟨⟨⟨⟨⟨⟨⟨h1, h2⟩, h3⟩, rfl⟩, h5⟩, h6⟩, h7⟩, h8⟩ := h
  exact ⟨_, _, _, _, rfl, h1, h2, h3, h5, h6, h7, h8⟩
theorem ck_join {a b : Ex} (h : (Ex.join a b).ck pr S e = true) : ∃ o ap x p, e = .Call (.Attribute o "join" ap) [x] [] p ∧ a.ck pr S o = true ∧ b.ck pr S x = true ∧ noStar x = true ∧ noCall o = true ∧ (ap.endLine == p.line) = true := by
  unfold Ex.ck at h
  split at h
  all_goals (try contradiction)
  rename_i heq
  cases heq
  simp only [Bool.and_eq_true, decide_eq_true_eq] at h
  obtain ⟨⟨⟨⟨⟨h1, h2⟩, rfl⟩, h4⟩, h5⟩, h6⟩ := h
  exact ⟨_, _, _, _, rfl, h1, h2, h4, h5, h6⟩
theorem ck_isx {a : Ex} {cs : List Nat} (h : (Ex.isx a cs).ck pr S e = true) : ∃ x y p2 p, e = .Call (.Name "isinstance" p2) [x, y] [] p ∧ S.gl "isinstance" = true ∧ ("isinstance" : Str) ∈ pr.free ∧ a.ck pr S x = true ∧ noStar x = true ∧ clsN pr S cs [y] = true := by
  unfold Ex.ck at h
  split at h
  all_goals (try contradiction)
  rename_i heq
  cases heq
  simp only [Bool.and_eq_true, decide_eq_true_eq] at h
  obtain ⟨⟨⟨⟨⟨rfl, h2⟩, h3⟩, h4⟩, h5⟩, h6⟩ := h
  exact ⟨_, _, _, _, rfl, h2, by simpa using h3, h4, h5, h6⟩
theorem ck_isxT {a : Ex} {cs : List Nat} (h : (Ex.isxT a cs).ck pr S e = true) : ∃ x ys j p1 p2 p, e = .Call (.Name "isinstance" p2) [x, .Tuple ys j p1] [] p ∧ S.gl "isinstance" = true ∧ ("isinstance" : Str) ∈ pr.free ∧ a.ck pr S x = true ∧ noStar x = true ∧ clsN pr S cs ys = true ∧ cs.length ≤ 100 ∧ cs ≠ [] := by
  unfold Ex.ck at h
  split at h
  all_goals (try contradiction)
  rename_i heq
  cases heq
  simp only [Bool.and_eq_true, decide_eq_true_eq] at h
  obtain ⟨⟨⟨⟨⟨⟨⟨rfl, h2⟩, h3⟩, h4⟩, h5⟩, h6⟩, h7⟩, h8⟩ := h
  exact ⟨_, _, _, _, _, _, rfl, h2, by simpa using h3, h4, h5, h6, h7, h8⟩
theorem ck_fld {a : Ex} {f : Str} (h : (Ex.fld a f).ck pr S e = true) : ∃ o p, e = .Attribute o f p ∧ a.ck pr S o = true ∧ noCall o = true := by
  unfold Ex.ck at h
  split at h
  all_goals (try contradiction)
  rename_i heq
  cases heq
  simp only [Bool.and_eq_true, decide_eq_true_eq] at h
  obtain ⟨⟨h1, rfl⟩, h3⟩ := h
  exact ⟨_, _, rfl, h1, h3⟩
theorem ck_eno {es : List Expr} (h : Exs.nil.ck pr S es = true) : es = [] := by
  unfold Exs.ck at h
  split at h <;> simp_all
theorem ck_econs {a : Ex} {r : Exs} {es : List Expr} (h : (Exs.cons a r).ck pr S es = true) : ∃ x xs, es = x :: xs ∧ a.ck pr S x = true ∧ r.ck pr S xs = true := by
  unfold Exs.ck at h
  split at h
  all_goals (try contradiction)
  rename_i heq
  cases heq
  simp only [Bool.and_eq_true] at h
  obtain ⟨h1, h2⟩ := h
  exact ⟨_, _, rfl, h1, h2⟩
theorem ck_kno {es : List Keyword} (h : Exs.nil.ckK pr S es = true) : es = [] := by
  unfold Exs.ckK at h
  split at h <;> simp_all
theorem ck_kcons {a : Ex} {r : Exs} {es : List Keyword} (h : (Exs.cons a r).ckK pr S es = true) : ∃ n x p xs, es = ⟨n, x, p⟩ :: xs ∧ a.ck pr S x = true ∧ r.ckK pr S xs = true := by
  unfold Exs.ckK at h
  split at h
  all_goals (try contradiction)
  rename_i heq
  cases heq
  simp only [Bool.and_eq_true] at h
  obtain ⟨h1, h2⟩ := h
  exact ⟨_, _, _, _, rfl, h1, h2⟩
theorem ck_ono {o : Option Expr} (h : ExO.no.ck pr S o = true) : o = none := by
  unfold ExO.ck at h
  split at h <;> simp_all
theorem ck_oyes {a : Ex} {o : Option Expr} (h : (ExO.yes a).ck pr S o = true) : ∃ x, o = some x ∧ a.ck pr S x = true := by
  unfold ExO.ck at h
  split at h <;> simp_all
theorem ck_tval {a : Ex} (h : (Te.val a).ck pr S e = true) : a.ck pr S e = true ∧ plainT e = true := by
  unfold Te.ck at h
  simpa using h
theorem ck_tnot {t : Te} (h : (Te.not t).ck pr S e = true) : ∃ l p, e = .UnaryOp .Not l p ∧ t.ck pr S l = true := by
  unfold Te.ck at h
  split at h <;> simp_all
theorem ck_tand {t : Te} {r : Tes} (h : (Te.and t r).ck pr S e = true) : ∃ x es p, e = .BoolOp .And (x :: es) p ∧ t.ck pr S x = true ∧ r.ck pr S es = true := by
  unfold Te.ck at h
  split at h
  all_goals (try contradiction)
  rename_i heq
  cases heq
  simp only [Bool.and_eq_true] at h
  obtain ⟨h1, h2⟩ := h
  exact ⟨_, _, _, rfl, h1, h2⟩
theorem ck_tor {t : Te} {r : Tes} (h : (Te.or t r).ck pr S e = true) : ∃ x es p, e = .BoolOp .Or (x :: es) p ∧ t.ck pr S x = true ∧ r.ck pr S es = true := by
  unfold Te.ck at h
  split at h
  all_goals (try contradiction)
  rename_i heq
  cases heq
  simp only [Bool.and_eq_true] at h
  obtain ⟨h1, h2⟩ := h
  exact ⟨_, _, _, rfl, h1, h2⟩
theorem ck_tcmp {o : CO} {a b : Ex} (h : (Te.cmp o a b).ck pr S e = true) : ∃ l r p, e = .Compare l [o.op] [r] p ∧ a.ck pr S l = true ∧ b.ck pr S r = true ∧ behindInMarks o.op r = false := by
  unfold Te.ck at h
  split at h
  all_goals (try contradiction)
  rename_i heq
  cases heq
  simp only [Bool.and_eq_true, cmpIs, decide_eq_true_eq, Bool.not_eq_true'] at h
  obtain ⟨⟨⟨rfl, h1⟩, h2⟩, h3⟩ := h
  exact ⟨_, _, _, rfl, h1, h2, h3⟩
theorem ck_tchain {o o' : CO} {a b c : Ex} (h : (Te.chain o o' a b c).ck pr S e = true) : ∃ l m r p, e = .Compare l [o.op, o'.op] [m, r] p ∧ a.ck pr S l = true ∧ b.ck pr S m = true ∧ c.ck pr S r = true ∧ lastMarks [o.op, o'.op] [m, r] = false := by
  unfold Te.ck at h
  split at h
  all_goals (try contradiction)
  rename_i heq
  cases heq
  simp only [Bool.and_eq_true, cmpIs, decide_eq_true_eq, Bool.not_eq_true'] at h
  obtain ⟨⟨⟨⟨⟨rfl, rfl⟩, h1⟩, h2⟩, h3⟩, h4⟩ := h
  exact ⟨_, _, _, _, rfl, h1, h2, h3, h4⟩
theorem ck_tsno {es : List Expr} (h : Tes.nil.ck pr S es = true) : es = [] := by
  unfold Tes.ck at h
  split at h <;> simp_all
theorem ck_tscons {a : Te} {r : Tes} {es : List Expr} (h : (Tes.cons a r).ck pr S es = true) : ∃ x xs, es = x :: xs ∧ a.ck pr S x = true ∧ r.ck pr S xs = true := by
  unfold Tes.ck at h
  split at h
  all_goals (try contradiction)
  rename_i heq
  cases heq
  simp only [Bool.and_eq_true] at h
  obtain ⟨h1, h2⟩ := h
  exact ⟨_, _, rfl, h1, h2⟩
theorem ck_tono {es : List Expr} (h : TeO.no.ck pr S es = true) : es = [] := by
  unfold TeO.ck at h
  split at h <;> simp_all
theorem ck_toyes {a : Te} {es : List Expr} (h : (TeO.yes a).ck pr S es = true) : ∃ x, es = [x] ∧ a.ck pr S x = true := by
  unfold TeO.ck at h
  split at h <;> simp_all
theorem ck_rng1 {a : Ex} {tg : Expr} (h : (It.rng1 a).ck pr S tg e = true) : ∃ x p p2, e = .Call (.Name "range" p2) [x] [] p ∧ S.gl "range" = true ∧ ("range" : Str) ∈ pr.free ∧ a.ck pr S x = true ∧ noStar x = true := by
  unfold It.ck at h
  split at h
  all_goals (try contradiction)
  rename_i heq
  cases heq
  simp only [Bool.and_eq_true, decide_eq_true_eq] at h
  obtain ⟨⟨⟨⟨rfl, h1⟩, h2⟩, h3⟩, h4⟩ := h
  exact ⟨_, _, _, rfl, h1, by simpa using h2, h3, h4⟩
theorem ck_rng2 {a b : Ex} {tg : Expr} (h : (It.rng2 a b).ck pr S tg e = true) : ∃ x y p p2, e = .Call (.Name "range" p2) [x, y] [] p ∧ S.gl "range" = true ∧ ("range" : Str) ∈ pr.free ∧ a.ck pr S x = true ∧ b.ck pr S y = true ∧ noStar x = true ∧ noStar y = true := by
  unfold It.ck at h
  split at h
  all_goals (try contradiction)
  rename_i heq
  cases heq
  simp only [Bool.and_eq_true, decide_eq_true_eq] at h
  obtain ⟨⟨⟨⟨⟨⟨rfl, h1⟩, h2⟩, h3⟩, h4⟩, h5⟩, h6⟩ := h
  exact ⟨_, _, _, _, rfl, h1, by simpa using h2, h3, h4, h5, h6⟩
theorem ck_enumS {a b : Ex} {tg : Expr} (h : (It.enumS a b).ck pr S tg e = true) : ∃ x y p1 p2 p, e = .Call (.Name "enumerate" p1) [x] [⟨some "start", y, p2⟩] p ∧ S.gl "enumerate" = true ∧ ("enumerate" : Str) ∈ pr.free ∧ a.ck pr S x = true ∧ b.ck pr S y = true ∧ noStar x = true ∧ isTup tg = true := by
  unfold It.ck at h
  split at h
  all_goals (try contradiction)
  rename_i heq
  cases heq
  simp only [Bool.and_eq_true, decide_eq_true_eq] at h
  obtain ⟨⟨⟨⟨⟨⟨⟨rfl, h1⟩, h2⟩, rfl⟩, h4⟩, h5⟩, h6⟩, h7⟩ := h
  exact ⟨_, _, _, _, _, rfl, h1, by simpa using h2, h4, h5, h6, h7⟩
theorem ck_seq {a : Ex} {tg : Expr} (h : (It.seq a).ck pr S tg e = true) : a.ck pr S e = true := by
  unfold It.ck at h
  exact h
theorem ck_meth {m : Mt} {o : Ex} {es : Exs} (h : (Ex.meth m o es).ck pr S e = true) : ∃ x ap a args p, e = .Call (.Attribute x m.name ap) (a :: args) [] p ∧ o.ck pr S x = true ∧ es.ck pr S (a :: args) = true ∧ (a :: args).all noStar = true ∧ noCall x = true ∧ (ap.endLine == p.line) = true ∧ (a :: args).length < 10 := by
  unfold Ex.ck at h
  split at h
  all_goals (try contradiction)
  rename_i heq
  cases heq
  simp only [Bool.and_eq_true, decide_eq_true_eq] at h
  obtain ⟨⟨⟨⟨⟨⟨h1, h2⟩, h3⟩, rfl⟩, h5⟩, h6⟩, h7⟩ := h
  exact ⟨_, _, _, _, _, rfl, h1, h2, h3, h5, h6, h7⟩
theorem ck_enum1 {a : Ex} {tg : Expr} (h : (It.enum1 a).ck pr S tg e = true) : ∃ x p1 p, e = .Call (.Name "enumerate" p1) [x] [] p ∧ S.gl "enumerate" = true ∧ ("enumerate" : Str) ∈ pr.free ∧ a.ck pr S x = true ∧ noStar x = true ∧ isTup tg = true := by
  unfold It.ck at h
  split at h
  all_goals (try contradiction)
  rename_i heq
  cases heq
  simp only [Bool.and_eq_true, decide_eq_true_eq] at h
  obtain ⟨⟨⟨⟨⟨rfl, h1⟩, h2⟩, h3⟩, h4⟩, h5⟩ := h
  exact ⟨_, _, _, rfl, h1, by simpa using h2, h3, h4, h5⟩
theorem ck_lenS {a : Ex} (h : (Ex.lenS a).ck pr S e = true) : ∃ x p1 p2 p3 p, e = .Call (.Name "len" p1) [.Call (.Name "set" p2) [x] [] p3] [] p ∧ S.cm = true ∧ S.gl "len" = true ∧ ("len" : Str) ∈ pr.free ∧ S.gl "set" = true ∧ ("set" : Str) ∈ pr.free ∧ a.ck pr S x = true ∧ noStar x = true := by
  unfold Ex.ck at h
  split at h
  all_goals (try contradiction)
  rename_i heq
  cases heq
  simp only [Bool.and_eq_true, decide_eq_true_eq] at h
  obtain ⟨⟨⟨⟨⟨⟨⟨⟨h0, rfl⟩, h1⟩, h2⟩, rfl⟩, h3⟩, h4⟩, h5⟩, h6⟩ := h
  exact ⟨_, _, _, _, _, rfl, h0, h1, by simpa using h2, h3, by simpa using h4, h5, h6⟩
theorem ck_lenC {own : List (Str × Nat)} {t : Tg} {it : It} {c : TeO} {x : Ex} (h : (Ex.lenC own t it c x).ck pr S e = true) : ∃ p1 elt tg iter ifs scope p2 p, e = .Call (.Name "len" p1) [.SetComp elt [⟨tg, iter, ifs, 0⟩] scope p2] [] p ∧ S.gl "len" = true ∧ ("len" : Str) ∈ pr.free ∧ LcOk pr S own t it c x elt tg iter ifs scope := by
  unfold Ex.ck at h
  split at h
  all_goals (try contradiction)
  rename_i heq
  cases heq
  simp only [Bool.and_eq_true, decide_eq_true_eq] at h
  obtain ⟨⟨⟨⟨⟨⟨⟨⟨⟨⟨h0, rfl⟩, g1⟩, g2⟩, h1⟩, h2⟩, h3⟩, h4⟩, h5⟩, h6⟩, h7⟩ := h
  exact ⟨_, _, _, _, _, _, _, _, rfl, g1, by simpa using g2, h0, h1, h2, h3, by simpa using h4, h5, h6, h7⟩
theorem ck_sortS {fz : Bool} {a : Ex} (h : (Ex.sortS fz a).ck pr S e = true) : ∃ x p1 p2 p3 p, e = .Call (.Name "sorted" p1) [.Call (.Name "set" p2) [x] [] p3] [] p ∧ S.cm = true ∧ S.gl "sorted" = true ∧ ("sorted" : Str) ∈ pr.free ∧ S.gl "set" = true ∧ ("set" : Str) ∈ pr.free ∧ a.ck pr S x = true ∧ noStar x = true := by
  unfold Ex.ck at h
  split at h
  all_goals (try contradiction)
  rename_i heq
  cases heq
  simp only [Bool.and_eq_true, decide_eq_true_eq] at h
  obtain ⟨⟨⟨⟨⟨⟨⟨⟨h0, rfl⟩, h1⟩, h2⟩, rfl⟩, h3⟩, h4⟩, h5⟩, h6⟩ := h
  exact ⟨_, _, _, _, _, rfl, h0, h1, by simpa using h2, h3, by simpa using h4, h5, h6⟩
theorem ck_sortC {fz tp : Bool} {own : List (Str × Nat)} {t : Tg} {it : It} {c : TeO} {cs : Cgs} {x : Ex} (h : (Ex.sortC fz tp own t it c cs x).ck pr S e = true) : ∃ p1 elt tg iter ifs post scope p2 p, e = .Call (.Name "sorted" p1) [.SetComp elt (⟨tg, iter, ifs, 0⟩ :: post) scope p2] [] p ∧ S.gl "sorted" = true ∧ ("sorted" : Str) ∈ pr.free ∧ LcOk pr S own t it c x elt tg iter ifs scope ∧
    cs.ck pr (S.blk scope) post = true ∧ ∀ i ∈ cs.vs, i ∈ own.map (·.2) := by
  unfold Ex.ck at h
  split at h
  all_goals (try contradiction)
  rename_i heq
  cases heq
  simp only [Bool.and_eq_true, decide_eq_true_eq] at h
  obtain ⟨⟨⟨⟨⟨⟨⟨⟨⟨⟨⟨⟨h0, rfl⟩, g1⟩, g2⟩, h1⟩, h2⟩, h3⟩, h4⟩, h5⟩, h6⟩, h7⟩, h8⟩, h9⟩ := h
  exact ⟨_, _, _, _, _, _, _, _, _, rfl, g1, by simpa using g2, ⟨h0, h1, h2, h3, by simpa using h4, h5, h6, h7⟩, h8, by simpa using h9⟩
theorem ck_cg {t : Tg} {it : It} {c : TeO} {r : Cgs} {gs : List Comprehension} (h : (Cgs.cons t it c r).ck pr S gs = true) : ∃ tg iter ifs gs', gs = ⟨tg, iter, ifs, 0⟩ :: gs' ∧ it.ck pr S tg iter = true ∧ noSet iter = true ∧ t.ck S tg = true ∧ c.ck pr S ifs = true ∧ r.ck pr S gs' = true := by
  unfold Cgs.ck at h
  split at h
  all_goals (try contradiction)
  rename_i heq
  cases heq
  simp only [Bool.and_eq_true] at h
  obtain ⟨⟨⟨⟨h1, h2⟩, h3⟩, h4⟩, h5⟩ := h
  exact ⟨_, _, _, _, rfl, h1, h2, h3, h4, h5⟩
/-- the second source -/
structure Lc2Ok (pr : Pr) (S : Sc) (own : List (Str × Nat)) (t : Tg) (it : It) (c : TeO) (tg iter : Expr) (ifs : List Expr) (scope : Scope) : Prop where
  it : it.ck pr (S.blk scope) tg iter = true
  ns : noSet iter = true
  is : ∀ i ∈ t.is, i ∈ own.map (·.2)
  t : t.ck (S.blk scope) tg = true
  c : c.ck pr (S.blk scope) ifs = true
theorem ck_comp2 {fz : Bool} {own : List (Str × Nat)} {t t1 : Tg} {it it1 : It} {c c1 : TeO} {x : Ex} (h : (Ex.comp2 fz own t it c t1 it1 c1 x).ck pr S e = true) : ∃ elt tg iter ifs tg1 iter1 ifs1 scope p, e = .ListComp elt [⟨tg, iter, ifs, 0⟩, ⟨tg1, iter1, ifs1, 0⟩] scope p ∧ LcOk pr S own t it c x elt tg iter ifs scope ∧ Lc2Ok pr S own t1 it1 c1 tg1 iter1 ifs1 scope := by
  unfold Ex.ck at h
  split at h
  all_goals (try contradiction)
  rename_i heq
  cases heq
  simp only [Bool.and_eq_true] at h
  obtain ⟨⟨⟨⟨⟨⟨⟨⟨⟨⟨⟨⟨h0, h1⟩, h2⟩, h3⟩, h4⟩, h5⟩, h6⟩, h7⟩, h8⟩, h9⟩, h10⟩, h11⟩, h12⟩ := h
  exact ⟨_, _, _, _, _, _, _, _, _, rfl, ⟨h0, h1, h2, h3, by simpa using h4, h5, h6, h7⟩, ⟨h8, h9, by simpa using h10, h11, h12⟩⟩
theorem ck_dcomp {fz : Bool} {own : List (Str × Nat)} {t : Tg} {it : It} {c : TeO} {k x : Ex} (h : (Ex.dcomp fz own t it c k x).ck pr S e = true) : ∃ kx elt tg iter ifs scope p, e = .DictComp kx elt [⟨tg, iter, ifs, 0⟩] scope p ∧ LcOk pr S own t it c x elt tg iter ifs scope ∧ k.ck pr (S.blk scope) kx = true := by
  unfold Ex.ck at h
  split at h
  all_goals (try contradiction)
  rename_i heq
  cases heq
  simp only [Bool.and_eq_true] at h
  obtain ⟨⟨⟨⟨⟨⟨⟨⟨h0, h1⟩, h2⟩, h3⟩, h4⟩, h5⟩, h6⟩, h7⟩, h8⟩ := h
  exact ⟨_, _, _, _, _, _, _, rfl, ⟨h0, h1, h2, h3, by simpa using h4, h5, h6, h7⟩, h8⟩
theorem ck_disp {fz : Bool} {es : Exs} (h : (Ex.disp fz es).ck pr S e = true) : ∃ k0 ks vs p, e = .Dict (k0 :: ks) vs p ∧ es.ckD pr S (k0 :: ks) vs = true ∧ (k0 :: ks).length ≤ 15 := by
  unfold Ex.ck at h
  split at h
  all_goals (try contradiction)
  rename_i heq
  cases heq
  simp only [Bool.and_eq_true, decide_eq_true_eq] at h
  exact ⟨_, _, _, _, rfl, h.1, h.2⟩
theorem ck_pop0 {o : Ex} (h : (Ex.pop0 o).ck pr S e = true) : ∃ x ap p, e = .Call (.Attribute x "pop" ap) [] [] p ∧ o.ck pr S x = true ∧ noCall x = true ∧ (ap.endLine == p.line) = true := by
  unfold Ex.ck at h
  split at h
  all_goals (try contradiction)
  rename_i heq
  cases heq
  simp only [Bool.and_eq_true, decide_eq_true_eq] at h
  obtain ⟨⟨⟨h1, rfl⟩, h2⟩, h3⟩ := h
  exact ⟨_, _, _, rfl, h1, h2, h3⟩
theorem ck_callL {i n : Nat} {es : Exs} (h : (Ex.callL i n es).ck pr S e = true) : ∃ x p2 a args p, e = .Call (.Name x p2) (a :: args) [] p ∧ S.vis i x = true ∧ es.ck pr S (a :: args) = true ∧ (a :: args).all noStar = true ∧ S.cm = true := by
  unfold Ex.ck at h
  split at h
  all_goals (try contradiction)
  rename_i heq
  cases heq
  simp only [Bool.and_eq_true] at h
  obtain ⟨⟨⟨⟨h1, h2⟩, h3⟩, h4⟩, h5⟩ := h
  exact ⟨_, _, _, _, _, rfl, h1, h2, h3, h4⟩
theorem ckD_nil {ks : List (Option Expr)} {vs : List Expr} (h : Exs.nil.ckD pr S ks vs = true) : ks = [] ∧ vs = [] := by
  unfold Exs.ckD at h
  split at h <;> first | exact ⟨rfl, rfl⟩ | contradiction
theorem ckD_one {a : Ex} {ks : List (Option Expr)} {vs : List Expr} (h : (Exs.cons a .nil).ckD pr S ks vs = true) : False := by
  unfold Exs.ckD at h
  cases h
theorem ckD_cons {a b : Ex} {r : Exs} {ks : List (Option Expr)} {vs : List Expr} (h : (Exs.cons a (.cons b r)).ckD pr S ks vs = true) : ∃ k ks' v vs', ks = some k :: ks' ∧ vs = v :: vs' ∧ a.ck pr S k = true ∧ b.ck pr S v = true ∧ r.ckD pr S ks' vs' = true := by
  unfold Exs.ckD at h
  split at h
  all_goals (try contradiction)
  rename_i heq
  cases heq
  simp only [Bool.and_eq_true] at h
  exact ⟨_, _, _, _, rfl, rfl, h.1.1, h.1.2, h.2⟩
def Exs.len : Exs → Nat
  | .nil => 0
  | .cons _ r => r.len + 1
theorem evs_len {E : Ev} : ∀ {es : Exs} {en : En} {st s : Sto} {ds : List D}, es.ev E en st = .ok ds s → ds.length = es.len
  | .nil, _, _, _, _, h => by simp only [Exs.ev] at h; cases h; rfl
  | .cons a r, en, st, s, ds, h => by
    simp only [Exs.ev] at h
    cases q : a.ev E en st with
    | bad => rw [q] at h; cases h
    | exn _ _ => rw [q] at h; cases h
    | ok d s1 =>
      rw [q, Res.bind_ok] at h
      cases q2 : r.ev E en s1 with
      | bad => rw [q2] at h; cases h
      | exn _ _ => rw [q2] at h; cases h
      | ok ds1 s2 =>
        rw [q2, Res.bind_ok] at h
        cases h
        simp only [List.length_cons, Exs.len, evs_len q2]
theorem ckD_len : ∀ {es : Exs} {ks : List (Option Expr)} {vs : List Expr}, es.ckD pr S ks vs = true → es.len = 2 * ks.length ∧ ks.length = vs.length ∧ ks.all (·.isSome) = true
  | .nil, ks, vs, h => by obtain ⟨rfl, rfl⟩ := ckD_nil h; exact ⟨rfl, rfl, rfl⟩
  | .cons a .nil, ks, vs, h => (ckD_one h).elim
  | .cons a (.cons b r), ks, vs, h => by
    obtain ⟨k, ks', v, vs', rfl, rfl, _, _, h3⟩ := ckD_cons h
    obtain ⟨e1, e2, e3⟩ := ckD_len h3
    refine ⟨by simp only [Exs.len, List.length_cons, e1]; omega, by simp [e2], by simpa using e3⟩
end
end LB
end

section
set_option Elab.async false
set_option linter.all false
set_option maxRecDepth 100000
set_option maxHeartbeats 4000000
/-! Expressions and tests. -/
namespace LB
open PySem PySem.Spec PyProof.Rows L2
theorem noSet_ok {e : Expr} (h : noSet e = true) (env : Env) : ∀ x, foldedSetIterable e env x = pure x := by
  intro x
  cases e <;> first | rfl | cases h
theorem noSlice_ok {b : Expr} (h : noSlice b = true) : PlainIx b := by
  intro o i
  cases b <;> first | rfl | cases h
theorem noCall_ok {o : Expr} (h : noCall o = true) (m : Str) (env : Env) (w : Sem Value) : attributeBase o m env w = w := by
  cases o <;> first | rfl | cases h
theorem plainT_ok {e : Expr} (h : plainT e = true) (env : Env) : ∀ whole, isTrue e env whole = (do let v ← whole; standAt e.pos; holding [v] (truthy v)) := by
  intro whole
  cases e with
  | UnaryOp op x p => cases op <;> first | rfl | cases h
  | _ => first | rfl | cases h
section
variable {pr : Pr} {g : Sg} {k : Nat}
theorem hot {c : Bool} {b : Bl} (h : c = true ∨ b.cold = true) (hb : b.cold = false) : c = true := by
  rcases h with h | h
  · exact h
  · rw [hb] at h; cases h
theorem Good.blt {Wx : WX} {S : Sc} {X : Cx} (G : Good pr g k Wx S X) : ∀ b : Bl, (S.cm = true ∨ b.cold = true) → CallR X b.val (rL g b.f)
  | .len, _ => len_ok G.K
  | .abs, _ => abs_ok
  | .sum, h => sum_ok G.K (G.calm (hot h rfl))
  | .tuple, _ => tuple_ok G.K
  | .list fz, _ => list_ok fz G.K
  | .int, _ => int_ok
  | .all, h => all_ok G.K (G.calm (hot h rfl))
  | .any, h => any_ok G.K (G.calm (hot h rfl))
  | .max2, h => max_ok G.K (G.calm (hot h rfl)) (by have := G.un; omega)
  | .min2, h => min_ok G.K (G.calm (hot h rfl)) (by have := G.un; omega)
  | .repr, _ => repr_ok G.K G.tab.sm G.gd (by have := G.un; omega)
  | .min1, h => min1_ok G.K (G.calm (hot h rfl))
  | .max1, h => max1_ok G.K (G.calm (hot h rfl))
  | .keys fz, h => keys_ok (G.calm (hot h rfl)) fz
  | .sorted fz, h => sorted_ok G.K (by have := G.un; omega) fz
theorem se_bl' {Wx : WX} {S : Sc} {X : Cx} (G : Good pr g k Wx S X) {b : Bl} {a : Expr} {args : List Expr} {p2 pos : Pos} {fs : FA} (hg : S.gl b.name = true) (hf : b.name ∈ pr.free) (hn : (a :: args).all noStar = true) (hco : S.cm = true ∨ b.cold = true) (ha : PA X (a :: args) (tA g Wx fs)) :
    PE X (.Call (.Name b.name p2) (a :: args) [] pos) (tE g Wx fun en st => (fs en st).bind fun ds s => liftO (b.f ds s)) := by
  obtain ⟨h1, h2⟩ := G.gl hg
  have h3 : noStar a = true ∧ args.all noStar = true := by simpa using hn
  have hb := b.boot
  have hc := G.blt b hco
  cases hv : b.val with
  | builtin id => rw [hv] at hb hc; exact se_blt hc h1 (G.tab.fre _ hf) hb ha b.nn h2 (star_cons h3.1) (star_any h3.2)
  | type T => rw [hv] at hb hc; exact se_ty hc h1 (G.tab.fre _ hf) hb ha b.nn h2 (star_cons h3.1) (star_any h3.2)
  | _ => cases b <;> cases hv
theorem Good.units {Wx : WX} {S : Sc} {X : Cx} (G : Good pr g k Wx S X) : X.A.units + 65 < cLine := by
  have := G.un
  omega
theorem BlkOk.kindOf {N : List Str} {sc scope : Scope} {own : List (Str × Nat)} (h : BlkOk N sc scope own) : scope.kind = .function := h.kind
theorem vsOf_ev (E : Ev) : ∀ cs : Cgs, vsOf (cs.ev E) = cs.vs
  | .nil => by simp [Cgs.ev, vsOf, Cgs.vs]
  | .cons t it c r => by rw [Cgs.ev, Cgs.vs, ← vsOf_ev E r]; rfl
mutual
theorem sound_e : ∀ (x : Ex) {Wx : WX} {S : Sc} {X : Cx} (G : Good pr g k Wx S X) (e : Expr), x.ck pr S e = true → PE X e (tE g Wx (x.ev (pr.at k)))
  | .non, Wx, S, X, G, e, h => by obtain ⟨j, p, rfl⟩ := ck_non h; exact se_non
  | .bl b, Wx, S, X, G, e, h => by obtain ⟨j, p, rfl⟩ := ck_bl h; exact se_bl
  | .int b, Wx, S, X, G, e, h => by obtain ⟨j, p, rfl⟩ := ck_int h; exact se_int
  | .str b, Wx, S, X, G, e, h => by obtain ⟨j, p, rfl⟩ := ck_str h; exact se_str
  | .var i, Wx, S, X, G, e, h => by
    obtain ⟨x, p, rfl, h1⟩ := ck_var h
    obtain ⟨a, b, c, d⟩ := G.vis h1
    exact se_var a b c d
  | .glo i, Wx, S, X, G, e, h => by
    obtain ⟨x, p, d, rfl, h1, h2⟩ := ck_glo h
    obtain ⟨a, b⟩ := G.gl h1
    obtain ⟨v, u, hm, hr, hv⟩ := G.tab.cns i x d h2
    refine (pe_glob a hm hr b).lb fun σ H Q ⟨W, st, en, hE, S', q⟩ => ?_
    simp only [Ex.ev, h2] at q
    exact q W v H (.refl W) S' (hv W st H S')
  | .bin o fz a b, Wx, S, X, G, e, h => by
    obtain ⟨l, r, p, rfl, h1, h2⟩ := ck_bin h
    exact se_bin (o.ok fz G.K) (sound_e a G l h1) (sound_e b G r h2)
  | .neg a, Wx, S, X, G, e, h => by
    obtain ⟨l, p, rfl, h1⟩ := ck_neg h
    refine se_un (f := fun d s => match d with
      | .int i => some (.int (-i), s)
      | _ => none) (fun pins s σ H x v Q I rx ⟨W, st, d, S', r, q⟩ => ?_) (sound_e a G l h1)
    cases r with
    | int i => exact un_neg pins s σ H _ v Q I rx ⟨i, rfl, q W _ H (.refl W) S' (.int _)⟩
    | non => exact q.elim
    | bl b => exact q.elim
    | str b => exact q.elim
    | tup _ _ => exact q.elim
    | lst _ _ => exact q.elim
    | scr _ => exact q.elim
    | ref _ => exact q.elim
    | exc0 _ => exact q.elim
    | exc _ _ _ _ => exact q.elim
    | dct _ _ _ => exact q.elim
    | fn _ => exact q.elim
    | kdc _ _ _ => exact q.elim
  | .cmp o a b, Wx, S, X, G, e, h => by
    obtain ⟨l, r, p, rfl, h1, h2, h3⟩ := ck_cmp h
    exact se_cmp (o.ok G.K G.tab.lit G.units) (sound_e a G l h1) (sound_e b G r h2) h3
  | .chain o o' a b c, Wx, S, X, G, e, h => by
    obtain ⟨l, m, r, p, rfl, h1, h2, h3, h4⟩ := ck_chain h
    exact se_chain (o.ok G.K G.tab.lit G.units) (o'.ok G.K G.tab.lit G.units) (sound_e a G l h1) (sound_e b G m h2) (sound_e c G r h3) h4
  | .andV a r, Wx, S, X, G, e, h => by
    obtain ⟨x, es, p, rfl, h1, h2⟩ := ck_andV h
    exact sound_andV r G (sound_e a G x h1) es h2
  | .orV a r, Wx, S, X, G, e, h => by
    obtain ⟨x, es, p, rfl, h1, h2⟩ := ck_orV h
    exact sound_orV r G (sound_e a G x h1) es h2
  | .notV a, Wx, S, X, G, e, h => by
    obtain ⟨l, p, rfl, h1⟩ := ck_notV h
    exact se_not G.K (sound_e a G l h1)
  | .ife c a b, Wx, S, X, G, e, h => by
    obtain ⟨t, x, y, p, rfl, h1, h2, h3⟩ := ck_ife h
    exact se_if (sound_t c G t h1) (sound_e a G x h2) (sound_e b G y h3)
  | .tup es, Wx, S, X, G, e, h => by
    obtain ⟨l, j, p, rfl, h1, h2⟩ := ck_tup h
    exact se_tup (sound_es es G l h1 h2)
  | .lst fz es, Wx, S, X, G, e, h => by
    obtain ⟨l, p, rfl, h1, h2⟩ := ck_lst h
    exact se_lst fz (sound_es es G l h1 h2)
  | .ix a i, Wx, S, X, G, e, h => by
    obtain ⟨o, b, p, rfl, h1, h2, h3⟩ := ck_ix h
    exact se_ix (ix_ok G.K G.tab.lit (by have := G.units; omega)) (sound_e a G o h1) (sound_e i G b h2) (noSlice_ok h3)
  | .sl fz a lo hi, Wx, S, X, G, e, h => by
    obtain ⟨o, l, u, p2, p, rfl, h1, h2, h3⟩ := ck_sl h
    exact se_sl (sl_ok fz G.K) (sound_e a G o h1) (sound_o lo G l h2) (sound_o hi G u h3)
  | .rev fz a, Wx, S, X, G, e, h => by
    obtain ⟨o, j, p1, p2, p3, p, rfl, h1⟩ := ck_rev h
    exact se_rev fz G.K (sound_e a G o h1)
  | .isi a T, Wx, S, X, G, e, h => by
    obtain ⟨x, y, p1, p2, p, rfl, h1, h2, h3, h4, h5, h6, h7, h8⟩ := ck_isi h
    exact se_isi G.K (sound_e a G x h7) (G.gl h1).1 (G.tab.fre _ h2) (G.gl h3).1 (G.tab.fre _ h4) h5 h6 (G.gl h3).2 h8
  | .call f sh es ks, Wx, S, X, G, e, h => by
    obtain ⟨d, q, args, kws, p, p2, rfl, h0, h1, h2, h3, h4, h5, h6, h7, hcm⟩ := ck_call h
    obtain ⟨a, b⟩ := G.gl h1
    obtain ⟨fa, fd, Fi, hmk, _, hs⟩ := G.tab.fns f d h5
    obtain ⟨hm, hk⟩ := hmk h0
    obtain ⟨hb, hfl⟩ := hs q (List.mem_of_getElem? h6)
    have hsh : (pr.at k).shp f sh = some q := by simp [Ev.shp, h5, h6]
    have hkw := sound_ks ks G kws h3
    have hes := sound_es es G args h2 h4
    cases es with
    | nil =>
      have := ck_eno h2
      subst this
      have := se_call0 (p := p2) (pos := p) G.K Fi ((G.room hcm).mono (by omega)) G.gd hb (fun W => flVs_rep hfl) G.tk a hm hk b hkw h7
      refine this.lb fun σ H Q z => ?_
      simp only [Ex.ev, hsh] at z
      exact z
    | cons e0 r0 =>
      obtain ⟨x0, xs0, rfl, _, _⟩ := ck_econs h2
      have := se_call (p := p2) (pos := p) G.K Fi ((G.room hcm).mono (by omega)) G.gd hb (fun W => flVs_rep hfl) G.tk a hm hk b hes hkw h4 h7
      refine this.lb fun σ H Q z => ?_
      simp only [Ex.ev, hsh] at z
      exact z
  | .blt b es, Wx, S, X, G, e, h => by
    obtain ⟨a, args, p, p2, rfl, h1, h2, h3, h4, h5⟩ := ck_blt h
    exact se_bl' G h1 h4 h3 h5 (sound_es es G _ h2 h3)
  | .dnew fz, Wx, S, X, G, e, h => by obtain ⟨p, rfl⟩ := ck_dnew h; exact se_dnew fz
  | .ifld a f, Wx, S, X, G, e, h => by
    obtain ⟨o, p, rfl, h1, h2⟩ := ck_ifld h
    exact se_ifld G.K G.tab.ins (sound_e a G o h1) (noCall_ok h2 _ _ _)
  | .mk c f sh es, Wx, S, X, G, e, h => by
    obtain ⟨d, q, x, args, p, p2, rfl, h1, h2, h3, h4, h5, h6, h7, h8, h9⟩ := ck_mk h
    obtain ⟨a, b⟩ := G.gl h1
    obtain ⟨fa, fd, Fi, _, hme, hs⟩ := G.tab.fns f d h6
    obtain ⟨C, hC, cls, me⟩ := hme _ h7
    obtain ⟨C', hC', hm, mk1, mk2⟩ := G.tab.icl c x h5
    rw [hC] at hC'; cases hC'
    obtain ⟨hb, hfl⟩ := hs q (List.mem_of_getElem? h8)
    rw [h9] at hb
    have hsh : (pr.at k).shp f sh = some q := by simp [Ev.shp, h6, h8]
    have M : Mk g.K C fa := ⟨mk1, me.at_, me.fn, mk2⟩
    cases es with
    | nil =>
      have := ck_eno h2
      subst this
      have := se_mk0 (p := p2) (pos := p) G.K M hC Fi (G.room h4) G.gd hb (fun W => flVs_rep hfl) G.tk a hm b
      refine this.lb fun σ H Q z => ?_
      simp only [Ex.ev, hsh] at z
      exact z
    | cons e0 r0 =>
      have hes := sound_es (.cons e0 r0) G args h2 h3
      obtain ⟨x0, xs0, rfl, _, _⟩ := ck_econs h2
      have := se_mk (p := p2) (pos := p) G.K M hC Fi (G.room h4) G.gd hb (fun W => flVs_rep hfl) G.tk a hm b hes h3
      refine this.lb fun σ H Q z => ?_
      simp only [Ex.ev, hsh] at z
      exact z
  | .mcall m sh o es, Wx, S, X, G, e, h => by
    obtain ⟨x, ap, args, p, rfl, h1, h2, h3, h4, h5, h6, h7⟩ := ck_mcall h
    have ht : ∀ c i sp, (pr.at k).mtb m sh c = some (i, sp) → MthAt X.prog X.w X.mg X.base g (2 * k + 2) c m sp (pr.run k i) := fun c i sp q => by
      unfold Ev.mtb at q
      cases q1 : (pr.at k).pr.mths.lookup (c, m) with
      | none => rw [q1] at q; cases q
      | some j =>
        rw [q1] at q
        simp only [Option.bind_some] at q
        cases q2 : (pr.at k).pr.defs[j]? with
        | none => rw [q2] at q; cases q
        | some d =>
          rw [q2] at q
          simp only [Option.bind_some] at q
          split at q
          · rename_i ho
            cases q3 : d.shs[sh]? with
            | none => rw [q3] at q; cases q
            | some s1 =>
              rw [q3] at q
              simp only [Option.bind_some] at q
              split at q
              · rename_i hk
                cases q
                obtain ⟨fa, fd, Fi, _, hme, hs⟩ := G.tab.fns i d q2
                obtain ⟨C, hC, cls, me⟩ := hme _ ho
                obtain ⟨hb, hfl⟩ := hs sp (List.mem_of_getElem? q3)
                exact ⟨C, fa, fd, _, hC, cls, me, Fi, hk, hk ▸ hb, hfl⟩
              · cases q
          · cases q
    cases es with
    | nil =>
      have := ck_eno h2
      subst this
      exact se_mcall0 G.K ht ((G.room h7).mono (by omega)) G.gd G.tk (sound_e o G x h1) (noCall_ok h4 _ _ _) h5
    | cons e0 r0 =>
      have hes := sound_es (.cons e0 r0) G args h2 h3
      obtain ⟨x0, xs0, rfl, _, _⟩ := ck_econs h2
      exact se_mcall G.K ht ((G.room h7).mono (by omega)) G.gd G.tk (sound_e o G x h1) hes h3 (noCall_ok h4 _ _ _) h5 h6
  | .join a b, Wx, S, X, G, e, h => by
    obtain ⟨o, ap, x, p, rfl, h1, h2, h3, h4, h5⟩ := ck_join h
    exact se_join G.K (sound_e a G o h1) (sound_e b G x h2) h3 (noCall_ok h4 _ _ _) h5
  | .isx a cs, Wx, S, X, G, e, h => by
    obtain ⟨x, y, p2, p, rfl, h1, h2, h3, h4, h5⟩ := ck_isx h
    exact se_isx (pr := pr) G.K G.tab.cls rfl (fun x hx => G.gl hx) (G.gl h1).1 (G.tab.fre _ h2) (sound_e a G x h3) h4 h5 (p2 := p)
  | .isxT a cs, Wx, S, X, G, e, h => by
    obtain ⟨x, ys, j, p1, p2, p, rfl, h1, h2, h3, h4, h5, h6, h7⟩ := ck_isxT h
    exact se_isxT (pr := pr) G.K G.tab.cls rfl (fun x hx => G.gl hx) (G.gl h1).1 (G.tab.fre _ h2) (sound_e a G x h3) h4 h5 h6 h7
  | .fld a f, Wx, S, X, G, e, h => by
    obtain ⟨o, p, rfl, h1, h2⟩ := ck_fld h
    exact se_fld G.K G.tab.cls (sound_e a G o h1) (noCall_ok h2 _ _ _)
  | .meth .app o es, Wx, S, X, G, e, h => by
    obtain ⟨x, ap, a, args, p, rfl, h1, h2, h3, h4, h5, h6⟩ := ck_meth h
    exact se_app G.K (sound_e o G x h1) (sound_es es G _ h2 h3) h3 (noCall_ok h4 _ _ _) h5 h6
  | .meth .idx o es, Wx, S, X, G, e, h => by
    obtain ⟨x, ap, a, args, p, rfl, h1, h2, h3, h4, h5, h6⟩ := ck_meth h
    exact se_idx G.K (sound_e o G x h1) (sound_es es G _ h2 h3) h3 (noCall_ok h4 _ _ _) h5 h6
  | .meth .ext o es, Wx, S, X, G, e, h => by
    obtain ⟨x, ap, a, args, p, rfl, h1, h2, h3, h4, h5, h6⟩ := ck_meth h
    exact se_methG (m := .ext) PySem.F.plainAttrs_list PySem.F.slot_list_extend PySem.F.type_list_extend m_ext (fun W st H x d S r z => isLs_ok S r z) (sound_e o G x h1) (sound_es es G _ h2 h3) h3 (noCall_ok h4 _ _ _) h5 h6
  | .meth .ins o es, Wx, S, X, G, e, h => by
    obtain ⟨x, ap, a, args, p, rfl, h1, h2, h3, h4, h5, h6⟩ := ck_meth h
    exact se_methG (m := .ins) PySem.F.plainAttrs_list PySem.F.slot_list_insert PySem.F.type_list_insert m_ins (fun W st H x d S r z => isLs_ok S r z) (sound_e o G x h1) (sound_es es G _ h2 h3) h3 (noCall_ok h4 _ _ _) h5 h6
  | .meth .popi o es, Wx, S, X, G, e, h => by
    obtain ⟨x, ap, a, args, p, rfl, h1, h2, h3, h4, h5, h6⟩ := ck_meth h
    exact se_methG (m := .popi) PySem.F.plainAttrs_list PySem.F.slot_list_pop PySem.F.type_list_pop m_popi (fun W st H x d S r z => isLs_ok S r z) (sound_e o G x h1) (sound_es es G _ h2 h3) h3 (noCall_ok h4 _ _ _) h5 h6
  | .meth .upd o es, Wx, S, X, G, e, h => by
    obtain ⟨x, ap, a, args, p, rfl, h1, h2, h3, h4, h5, h6⟩ := ck_meth h
    exact se_methG (m := .upd) PySem.F.plainAttrs_dict PySem.F.slot_dict_update PySem.F.type_dict_update m_upd (fun W st H x d S r z => isDc_ok S r z) (sound_e o G x h1) (sound_es es G _ h2 h3) h3 (noCall_ok h4 _ _ _) h5 h6
  | .meth .get o es, Wx, S, X, G, e, h => by
    obtain ⟨x, ap, a, args, p, rfl, h1, h2, h3, h4, h5, h6⟩ := ck_meth h
    exact se_methG (m := .get) PySem.F.plainAttrs_dict PySem.F.slot_dict_get PySem.F.type_dict_get (m_get (by have := G.un; omega)) (fun W st H x d S r z => isDc_ok S r z) (sound_e o G x h1) (sound_es es G _ h2 h3) h3 (noCall_ok h4 _ _ _) h5 h6
  | .pop0 o, Wx, S, X, G, e, h => by
    obtain ⟨x, ap, p, rfl, h1, h2, h3⟩ := ck_pop0 h
    exact se_pop0 (sound_e o G x h1) (noCall_ok h2 _ _ _) h3
  | .callL i n es, Wx, S, X, G, e, h => by
    obtain ⟨x, p2, a, args, p, rfl, h1, h2, h3, h4⟩ := ck_callL h
    obtain ⟨v1, v2, v3, v4⟩ := G.vis h1
    refine se_callL (E := pr.at k) (n := n) (k := 2 * k + 2) G.K (fun f sp q => ?_) ((G.room h4).mono (by omega)) G.gd G.tk v1 v2 v3 v4 (sound_es es G _ h2 h3) h3
    unfold Ev.shpN at q
    cases q1 : (pr.at k).pr.defs[f]? with
    | none => rw [q1] at q; cases q
    | some d =>
      rw [q1, Option.bind_some] at q
      split at q
      · rename_i hc
        obtain ⟨ho, hf⟩ := hc
        have hp := List.find?_some q
        simp only [Bool.and_eq_true, decide_eq_true_eq] at hp
        obtain ⟨fa, fd, Fi, hmk, _, hs⟩ := G.tab.fns f d q1
        obtain ⟨hm, hk⟩ := hmk ho
        obtain ⟨hb, hfl⟩ := hs sp (List.mem_of_find?_eq_some q)
        obtain ⟨f', e1, e2⟩ := G.tab.fnv f d.name hf
        rw [hm] at e2
        cases e2
        have ek : sp.ks = [] := by simpa using hp.2
        rw [ek] at hb
        exact ⟨fa, fd, _, e1, hk, Fi, hb, hfl⟩
      · cases q
  | .disp fz es, Wx, S, X, G, e, h => by
    obtain ⟨k0, ks, vs, p, rfl, h1, h2⟩ := ck_disp h
    obtain ⟨e1, e2, e3⟩ := ckD_len h1
    exact se_disp fz (sound_prs es G (k0 :: ks) vs h1) e3 e2 h2 fun en st ds s q => by
      have := evs_len q
      omega
  | .dcomp fz own t it c kx x, Wx, S, X, G, e, h => by
    obtain ⟨kx', elt, tg, iter, ifs, scope, p, rfl, L, hk⟩ := ck_dcomp h
    have ok : BlkOk X.N X.env.scope scope own := by rw [G.N, G.sc]; exact blkOk_by L.bk
    exact se_dc fz (G.calm L.cm) G.nd' (sound_i it G tg iter L.it) ok L.is (fun s H C cl fp => sound_tg (G.blk ok.kind s H C cl fp) t tg L.t) (fun s H C cl fp => sound_to c (G.blk ok.kind s H C cl fp) ifs L.c)
      (fun s H C cl fp => sound_e kx (G.blk ok.kind s H C cl fp) kx' hk) (fun s H C cl fp => sound_e x (G.blk ok.kind s H C cl fp) elt L.e) (noSet_ok L.ns _)
  | .comp2 fz own t it c t1 it1 c1 x, Wx, S, X, G, e, h => by
    obtain ⟨elt, tg, iter, ifs, tg1, iter1, ifs1, scope, p, rfl, L, M⟩ := ck_comp2 h
    have ok : BlkOk X.N X.env.scope scope own := by rw [G.N, G.sc]; exact blkOk_by L.bk
    exact se_lc2 fz (G.calm L.cm) G.nd' (sound_i it G tg iter L.it) ok L.is M.is (fun s H C cl fp => sound_tg (G.blk ok.kind s H C cl fp) t tg L.t) (fun s H C cl fp => sound_to c (G.blk ok.kind s H C cl fp) ifs L.c)
      (fun s H C cl fp => sound_i it1 (G.blk ok.kind s H C cl fp) tg1 iter1 M.it) (fun s H C cl fp => sound_tg (G.blk ok.kind s H C cl fp) t1 tg1 M.t) (fun s H C cl fp => sound_to c1 (G.blk ok.kind s H C cl fp) ifs1 M.c)
      (fun s H C cl fp => sound_e x (G.blk ok.kind s H C cl fp) elt L.e) (noSet_ok L.ns _) (fun env => noSet_ok M.ns env)
  | .lenS a, Wx, S, X, G, e, h => by
    obtain ⟨x, p1, p2, p3, p, rfl, h0, h1, h2, h3, h4, h5, h6⟩ := ck_lenS h
    exact se_lenS G.K (G.calm h0) (G.gl h1).1 (G.tab.fre _ h2) (G.gl h3).1 (G.tab.fre _ h4) (sound_e a G x h5) h6
  | .sortS fz a, Wx, S, X, G, e, h => by
    obtain ⟨x, p1, p2, p3, p, rfl, h0, h1, h2, h3, h4, h5, h6⟩ := ck_sortS h
    exact se_sortS fz G.K (G.calm h0) (by have := G.un; omega) (G.gl h1).1 (G.tab.fre _ h2) (G.gl h3).1 (G.tab.fre _ h4) (sound_e a G x h5) h6
  | .sortC fz tp own t it c cs x, Wx, S, X, G, e, h => by
    obtain ⟨p1, elt, tg, iter, ifs, post, scope, p2, p, rfl, h1, h2, L, h3, h4⟩ := ck_sortC h
    have ok : BlkOk X.N X.env.scope scope own := by rw [G.N, G.sc]; exact blkOk_by L.bk
    exact se_sortC (p2 := p2) fz G.K (G.calm L.cm) G.nd' (by have := G.un; omega) (G.gl h1).1 (G.tab.fre _ h2) (sound_i it G tg iter L.it) ok L.is (by rw [vsOf_ev]; exact h4) (fun s H C cl fp => sound_tg (G.blk ok.kind s H C cl fp) t tg L.t) (fun s H C cl fp => sound_to c (G.blk ok.kind s H C cl fp) ifs L.c)
      (fun s H C cl fp => sound_e x (G.blk ok.kind s H C cl fp) elt L.e) (fun s H C cl fp => sound_cg cs (G.blk ok.kind s H C cl fp) post h3) (noSet_ok L.ns _)
  | .lenC own t it c x, Wx, S, X, G, e, h => by
    obtain ⟨p1, elt, tg, iter, ifs, scope, p2, p, rfl, h1, h2, L⟩ := ck_lenC h
    have ok : BlkOk X.N X.env.scope scope own := by rw [G.N, G.sc]; exact blkOk_by L.bk
    exact se_lenC (G.gl h1).1 (G.tab.fre _ h2) (G.calm L.cm) G.nd' (sound_i it G tg iter L.it) ok L.is (fun s H C cl fp => sound_tg (G.blk ok.kind s H C cl fp) t tg L.t) (fun s H C cl fp => sound_to c (G.blk ok.kind s H C cl fp) ifs L.c)
      (fun s H C cl fp => sound_e x (G.blk ok.kind s H C cl fp) elt L.e) (noSet_ok L.ns _)
  | .comp fz own t it c x, Wx, S, X, G, e, h => by
    obtain ⟨elt, tg, iter, ifs, scope, p, rfl, L⟩ := ck_comp h
    have ok : BlkOk X.N X.env.scope scope own := by rw [G.N, G.sc]; exact blkOk_by L.bk
    exact se_lc fz (G.calm L.cm) G.nd' (sound_i it G tg iter L.it) ok L.is (fun s H C cl fp => sound_tg (G.blk ok.kind s H C cl fp) t tg L.t) (fun s H C cl fp => sound_to c (G.blk ok.kind s H C cl fp) ifs L.c)
      (fun s H C cl fp => sound_e x (G.blk ok.kind s H C cl fp) elt L.e) (noSet_ok L.ns _)
theorem sound_es : ∀ (xs : Exs) {Wx : WX} {S : Sc} {X : Cx} (G : Good pr g k Wx S X) (es : List Expr), xs.ck pr S es = true → es.all noStar = true → PA X es (tA g Wx (xs.ev (pr.at k)))
  | .nil, Wx, S, X, G, es, h, _ => by have := ck_eno h; subst this; exact sa_nil
  | .cons a r, Wx, S, X, G, es, h, hs => by
    obtain ⟨x, xs, rfl, h1, h2⟩ := ck_econs h
    have hs' : noStar x = true ∧ xs.all noStar = true := by simpa using hs
    exact sa_cons (sound_e a G x h1) (sound_es r G xs h2 hs'.2) (star_cons hs'.1)
theorem sound_prs : ∀ (xs : Exs) {Wx : WX} {S : Sc} {X : Cx} {pos : Pos} (G : Good pr g k Wx S X) (ks : List (Option Expr)) (vs : List Expr), xs.ckD pr S ks vs = true → Prs X g Wx pos ks vs (xs.ev (pr.at k))
  | .nil, Wx, S, X, pos, G, ks, vs, h => by obtain ⟨rfl, rfl⟩ := ckD_nil h; exact prs_nil
  | .cons a .nil, Wx, S, X, pos, G, ks, vs, h => (ckD_one h).elim
  | .cons a (.cons b r), Wx, S, X, pos, G, ks, vs, h => by
    obtain ⟨k, ks', v, vs', rfl, rfl, h1, h2, h3⟩ := ckD_cons h
    exact prs_cons (sound_e a G k h1) (sound_e b G v h2) (sound_prs r G ks' vs' h3)
theorem sound_ks : ∀ (xs : Exs) {Wx : WX} {S : Sc} {X : Cx} (G : Good pr g k Wx S X) (es : List Keyword), xs.ckK pr S es = true → PK X es (tA g Wx (xs.ev (pr.at k)))
  | .nil, Wx, S, X, G, es, h => by have := ck_kno h; subst this; exact sk_nil
  | .cons a r, Wx, S, X, G, es, h => by
    obtain ⟨n, x, p, xs, rfl, h1, h2⟩ := ck_kcons h
    exact sk_cons (sound_e a G x h1) (sound_ks r G xs h2)
theorem sound_andV : ∀ (xs : Exs) {Wx : WX} {S : Sc} {X : Cx} (G : Good pr g k Wx S X) {a : Expr} {fa : FE} {pos : Pos} (ha : PE X a (tE g Wx fa)) (es : List Expr), xs.ck pr S es = true → PE X (.BoolOp .And (a :: es) pos) (tE g Wx (xs.evA (pr.at k) fa))
  | .nil, Wx, S, X, G, a, fa, pos, ha, es, h => by have := ck_eno h; subst this; exact se_one ha
  | .cons b r, Wx, S, X, G, a, fa, pos, ha, es, h => by
    obtain ⟨x, xs, rfl, h1, h2⟩ := ck_econs h
    exact se_and G.K ha (sound_andV r G (sound_e b G x h1) xs h2)
theorem sound_orV : ∀ (xs : Exs) {Wx : WX} {S : Sc} {X : Cx} (G : Good pr g k Wx S X) {a : Expr} {fa : FE} {pos : Pos} (ha : PE X a (tE g Wx fa)) (es : List Expr), xs.ck pr S es = true → PE X (.BoolOp .Or (a :: es) pos) (tE g Wx (xs.evO (pr.at k) fa))
  | .nil, Wx, S, X, G, a, fa, pos, ha, es, h => by have := ck_eno h; subst this; exact se_one ha
  | .cons b r, Wx, S, X, G, a, fa, pos, ha, es, h => by
    obtain ⟨x, xs, rfl, h1, h2⟩ := ck_econs h
    exact se_or G.K ha (sound_orV r G (sound_e b G x h1) xs h2)
theorem sound_o : ∀ (x : ExO) {Wx : WX} {S : Sc} {X : Cx} (G : Good pr g k Wx S X) (e : Option Expr), x.ck pr S e = true → PO X e (tP g Wx (x.ev (pr.at k)))
  | .no, Wx, S, X, G, e, h => by have := ck_ono h; subst this; exact so_none
  | .yes a, Wx, S, X, G, e, h => by
    obtain ⟨x, rfl, h1⟩ := ck_oyes h
    exact so_some (sound_e a G x h1)
theorem sound_t : ∀ (x : Te) {Wx : WX} {S : Sc} {X : Cx} (G : Good pr g k Wx S X) (e : Expr), x.ck pr S e = true → PT X e (tT g Wx (x.ev (pr.at k)))
  | .val a, Wx, S, X, G, e, h => by
    obtain ⟨h1, h2⟩ := ck_tval h
    exact st_tru G.K (sound_e a G e h1) (plainT_ok h2 _)
  | .not t, Wx, S, X, G, e, h => by
    obtain ⟨l, p, rfl, h1⟩ := ck_tnot h
    exact st_not (sound_t t G l h1)
  | .and t r, Wx, S, X, G, e, h => by
    obtain ⟨x, es, p, rfl, h1, h2⟩ := ck_tand h
    exact (sound_andT r G (sound_t t G x h1) es h2).pt
  | .or t r, Wx, S, X, G, e, h => by
    obtain ⟨x, es, p, rfl, h1, h2⟩ := ck_tor h
    exact (sound_orT r G (sound_t t G x h1) es h2).pt
  | .cmp o a b, Wx, S, X, G, e, h => by
    obtain ⟨l, r, p, rfl, h1, h2, h3⟩ := ck_tcmp h
    exact st_cmp (o.ok G.K G.tab.lit G.units) (sound_e a G l h1) (sound_e b G r h2) h3
  | .chain o o' a b c, Wx, S, X, G, e, h => by
    obtain ⟨l, m, r, p, rfl, h1, h2, h3, h4⟩ := ck_tchain h
    exact st_chain (o.ok G.K G.tab.lit G.units) (o'.ok G.K G.tab.lit G.units) (sound_e a G l h1) (sound_e b G m h2) (sound_e c G r h3) h4
theorem sound_andT : ∀ (xs : Tes) {Wx : WX} {S : Sc} {X : Cx} (G : Good pr g k Wx S X) {a : Expr} {fa : FB} {pos : Pos} (ha : PT X a (tT g Wx fa)) (es : List Expr), xs.ck pr S es = true → PW X (.BoolOp .And (a :: es) pos) (tT g Wx (xs.evA (pr.at k) fa))
  | .nil, Wx, S, X, G, a, fa, pos, ha, es, h => by have := ck_tsno h; subst this; exact sw_and1 ha
  | .cons b r, Wx, S, X, G, a, fa, pos, ha, es, h => by
    obtain ⟨x, xs, rfl, h1, h2⟩ := ck_tscons h
    exact sw_and ha (sound_andT r G (sound_t b G x h1) xs h2)
theorem sound_orT : ∀ (xs : Tes) {Wx : WX} {S : Sc} {X : Cx} (G : Good pr g k Wx S X) {a : Expr} {fa : FB} {pos : Pos} (ha : PT X a (tT g Wx fa)) (es : List Expr), xs.ck pr S es = true → PW X (.BoolOp .Or (a :: es) pos) (tT g Wx (xs.evO (pr.at k) fa))
  | .nil, Wx, S, X, G, a, fa, pos, ha, es, h => by have := ck_tsno h; subst this; exact sw_or1 ha
  | .cons b r, Wx, S, X, G, a, fa, pos, ha, es, h => by
    obtain ⟨x, xs, rfl, h1, h2⟩ := ck_tscons h
    exact sw_or ha (sound_orT r G (sound_t b G x h1) xs h2)
theorem sound_to : ∀ (x : TeO) {Wx : WX} {S : Sc} {X : Cx} (G : Good pr g k Wx S X) (es : List Expr), x.ck pr S es = true → PTs X es (tT g Wx (x.ev (pr.at k)))
  | .no, Wx, S, X, G, es, h => by have := ck_tono h; subst this; exact sts_nil
  | .yes a, Wx, S, X, G, es, h => by
    obtain ⟨x, rfl, h1⟩ := ck_toyes h
    exact sts_one (sound_t a G x h1)
theorem sound_i : ∀ (x : It) {Wx : WX} {S : Sc} {X : Cx} (G : Good pr g k Wx S X) (tg e : Expr), x.ck pr S tg e = true → PI X tg e (tI g Wx (x.ev (pr.at k)))
  | .seq a, Wx, S, X, G, tg, e, h => si_seq G.K (sound_e a G e (ck_seq h))
  | .rng1 a, Wx, S, X, G, tg, e, h => by
    obtain ⟨x, p, p2, rfl, h1, h2, h3, h4⟩ := ck_rng1 h
    exact si_range1 (G.gl h1).1 (G.tab.fre _ h2) (sa_cons (sound_e a G x h3) sa_nil (star_cons h4)) (star_cons h4)
  | .rng2 a b, Wx, S, X, G, tg, e, h => by
    obtain ⟨x, y, p, p2, rfl, h1, h2, h3, h4, h5, h6⟩ := ck_rng2 h
    exact si_range2 (G.gl h1).1 (G.tab.fre _ h2) (sa_cons (sound_e a G x h3) (sa_cons (sound_e b G y h4) sa_nil (star_cons h6)) (star_cons h5)) (by rw [star_cons h5, star_cons h6]; rfl) (star_cons h6)
  | .enum1 a, Wx, S, X, G, tg, e, h => by
    obtain ⟨x, p1, p, rfl, h1, h2, h3, h4, h5⟩ := ck_enum1 h
    cases tg with
    | Tuple elts kk tpos => exact si_enum1 G.K (G.gl h1).1 (G.tab.fre _ h2) (sound_e a G x h3) h4
    | _ => cases h5
  | .enumS a b, Wx, S, X, G, tg, e, h => by
    obtain ⟨x, y, p1, p2, p, rfl, h1, h2, h3, h4, h5, h6⟩ := ck_enumS h
    cases tg with
    | Tuple elts kk tpos => exact si_enumS G.K (G.gl h1).1 (G.tab.fre _ h2) (sound_e a G x h3) (sound_e b G y h4) h5
    | _ => cases h6
theorem sound_cg : ∀ (cs : Cgs) {S : Sc} {X : Cx} (G : Good pr g k noX S X) (gs : List Comprehension), cs.ck pr S gs = true → ClausOk X g gs (cs.ev (pr.at k))
  | .nil, S, X, G, gs, h => by
    have e : gs = [] := by unfold Cgs.ck at h; split at h <;> first | rfl | contradiction
    subst e
    unfold Cgs.ev
    exact .nil
  | .cons t it c r, S, X, G, gs, h => by
    obtain ⟨tg, iter, ifs, gs', rfl, h1, h2, h3, h4, h5⟩ := ck_cg h
    unfold Cgs.ev
    exact .cons (sound_i it G tg iter h1) (sound_tg G t tg h3) (sound_to c G ifs h4) (noSet_ok h2 _) (fun i hi => List.mem_append_left _ hi) (fun i hi => List.mem_append_right _ hi) (sound_cg r G gs' h5)
end
end
end LB
end

section
set_option Elab.async false
set_option linter.all false
set_option maxRecDepth 100000
set_option maxHeartbeats 4000000
/-! Statements, defs, the program. -/
namespace LB
open PySem PySem.Spec PyProof.Rows L2
section
variable {pr : Pr} {S : Sc} {e : Stmt}
theorem ck_sexpr {x : Ex} (h : (Sm.expr x).ck pr S e = true) : ∃ a p, e = .Expr a p ∧ x.ck pr S a = true ∧ noComp a = true := by
  unfold Sm.ck at h; split at h; all_goals (try contradiction)
  rename_i heq; cases heq
  simp only [Bool.and_eq_true] at h
  exact ⟨_, _, rfl, h.1, h.2⟩
theorem ck_sret {x : Ex} (h : (Sm.ret x).ck pr S e = true) : ∃ a p, e = .Return (some a) p ∧ x.ck pr S a = true := by
  unfold Sm.ck at h; split at h; all_goals (try contradiction)
  rename_i heq; cases heq
  exact ⟨_, _, rfl, h⟩
theorem ck_sretN (h : Sm.retN.ck pr S e = true) : ∃ p, e = .Return none p := by
  unfold Sm.ck at h; split at h; all_goals (try contradiction)
  exact ⟨_, rfl⟩
theorem ck_spass (h : Sm.pass.ck pr S e = true) : ∃ p, e = .Pass p := by
  unfold Sm.ck at h; split at h; all_goals (try contradiction)
  exact ⟨_, rfl⟩
theorem ck_sbrk (h : Sm.brk.ck pr S e = true) : ∃ p, e = .Break p := by
  unfold Sm.ck at h; split at h; all_goals (try contradiction)
  exact ⟨_, rfl⟩
theorem ck_scont (h : Sm.cont.ck pr S e = true) : ∃ p, e = .Continue p := by
  unfold Sm.ck at h; split at h; all_goals (try contradiction)
  exact ⟨_, rfl⟩
theorem ck_sset {i : Nat} {x : Ex} (h : (Sm.set i x).ck pr S e = true) : ∃ y p2 a p, e = .Assign [.Name y p2] a p ∧ S.stor i y = true ∧ x.ck pr S a = true ∧ noComp a = true := by
  unfold Sm.ck at h; split at h; all_goals (try contradiction)
  rename_i heq; cases heq
  simp only [Bool.and_eq_true] at h
  exact ⟨_, _, _, _, rfl, h.1.1, h.1.2, h.2⟩
theorem ck_sasg {t : Tg} {x : Ex} (h : (Sm.asg t x).ck pr S e = true) : ∃ tg a p, e = .Assign [tg] a p ∧ t.ck S tg = true ∧ x.ck pr S a = true ∧ noComp a = true ∧ noTup a = true ∧ noStar tg = true := by
  unfold Sm.ck at h; split at h; all_goals (try contradiction)
  rename_i heq; cases heq
  simp only [Bool.and_eq_true] at h
  exact ⟨_, _, _, rfl, h.1.1.1.1, h.1.1.1.2, h.1.1.2, h.1.2, h.2⟩
theorem ck_ssetIx {o i x : Ex} (h : (Sm.setIx o i x).ck pr S e = true) : ∃ l r p2 a p, e = .Assign [.Subscript l r p2] a p ∧ o.ck pr S l = true ∧ i.ck pr S r = true ∧ x.ck pr S a = true ∧ noComp a = true ∧ noSlice r = true := by
  unfold Sm.ck at h; split at h; all_goals (try contradiction)
  rename_i heq; cases heq
  simp only [Bool.and_eq_true] at h
  exact ⟨_, _, _, _, _, rfl, h.1.1.1.1, h.1.1.1.2, h.1.1.2, h.1.2, h.2⟩
theorem ck_ssetLc {i : Nat} {fz : Bool} {own : List (Str × Nat)} {t : Tg} {it : It} {c : TeO} {x : Ex} (h : (Sm.setLc i fz own t it c x).ck pr S e = true) :
    ∃ y py elt tg iter ifs scope pos p, e = .Assign [.Name y py] (.ListComp elt [⟨tg, iter, ifs, 0⟩] scope pos) p ∧ S.stor i y = true ∧ swOk S y py scope pos = true ∧ LcOk pr S own t it c x elt tg iter ifs scope := by
  unfold Sm.ck at h; split at h; all_goals (try contradiction)
  rename_i heq; cases heq
  simp only [Bool.and_eq_true] at h
  obtain ⟨⟨⟨⟨⟨⟨⟨⟨⟨h0, h1⟩, h2⟩, h3⟩, h4⟩, h5⟩, h6⟩, h7⟩, h8⟩, h9⟩ := h
  exact ⟨_, _, _, _, _, _, _, _, _, rfl, h1, h2, h0, h3, h4, h5, by simpa using h6, h7, h8, h9⟩
theorem ck_ssetLc2 {i : Nat} {fz : Bool} {own : List (Str × Nat)} {t t1 : Tg} {it it1 : It} {c c1 : TeO} {x : Ex} (h : (Sm.setLc2 i fz own t it c t1 it1 c1 x).ck pr S e = true) :
    ∃ y py elt tg iter ifs tg1 iter1 ifs1 scope pos p, e = .Assign [.Name y py] (.ListComp elt [⟨tg, iter, ifs, 0⟩, ⟨tg1, iter1, ifs1, 0⟩] scope pos) p ∧ S.stor i y = true ∧ swOk S y py scope pos = true ∧ LcOk pr S own t it c x elt tg iter ifs scope ∧ Lc2Ok pr S own t1 it1 c1 tg1 iter1 ifs1 scope := by
  unfold Sm.ck at h; split at h; all_goals (try contradiction)
  rename_i heq; cases heq
  simp only [Bool.and_eq_true] at h
  obtain ⟨⟨⟨⟨⟨⟨⟨⟨⟨⟨⟨⟨⟨⟨g1, g2⟩, h0⟩, h1⟩, h2⟩, h3⟩, h4⟩, h5⟩, h6⟩, h7⟩, h8⟩, h9⟩, h10⟩, h11⟩, h12⟩ := h
  exact ⟨_, _, _, _, _, _, _, _, _, _, _, _, rfl, g1, g2, ⟨h0, h1, h2, h3, by simpa using h4, h5, h6, h7⟩, ⟨h8, h9, by simpa using h10, h11, h12⟩⟩
theorem ck_site {c : Te} {p q : Sms} (h : (Sm.ite c p q).ck pr S e = true) : ∃ t a b ps, e = .If t a b ps ∧ c.ck pr S t = true ∧ p.ck pr S a = true ∧ q.ck pr S b = true := by
  unfold Sm.ck at h; split at h; all_goals (try contradiction)
  rename_i heq; cases heq
  simp only [Bool.and_eq_true] at h
  exact ⟨_, _, _, _, rfl, h.1.1, h.1.2, h.2⟩
theorem ck_sfor {t : Tg} {it : It} {b : Sms} (h : (Sm.for_ t it b).ck pr S e = true) : ∃ tg iter body p, e = .For tg iter body [] p ∧ t.ck S tg = true ∧ it.ck pr S tg iter = true ∧ noSet iter = true ∧ b.ck pr S body = true ∧ S.cm = true := by
  unfold Sm.ck at h; split at h; all_goals (try contradiction)
  rename_i heq; cases heq
  simp only [Bool.and_eq_true] at h
  obtain ⟨⟨⟨⟨h0, h1⟩, h2⟩, h3⟩, h4⟩ := h
  exact ⟨_, _, _, _, rfl, h1, h2, h3, h4, h0⟩
theorem ck_swhile {c : Te} {n : Nat} {b : Sms} (h : (Sm.while_ c n b).ck pr S e = true) : ∃ t body p, e = .While t body [] p ∧ c.ck pr S t = true ∧ b.ck pr S body = true := by
  unfold Sm.ck at h; split at h; all_goals (try contradiction)
  rename_i heq; cases heq
  simp only [Bool.and_eq_true] at h
  exact ⟨_, _, _, rfl, h.1, h.2⟩
theorem clsN_one {c : Nat} {x : Str} {p : Pos} (h : clsN pr S [c] [.Name x p] = true) : ∃ cl, pr.cls[c]? = some cl ∧ cl.name = x ∧ S.gl x = true := by
  simp only [clsN, Bool.and_true] at h
  cases q : pr.cls[c]? with
  | none => rw [q] at h; cases h
  | some cl =>
    rw [q] at h
    simp only [Bool.and_eq_true, decide_eq_true_eq] at h
    exact ⟨cl, rfl, h.1, h.2⟩
theorem ck_sraise {c : Nat} {m : Str} (h : (Sm.raise_ c m).ck pr S e = true) : ∃ cl p1 j p2 p3 p, e = .Raise (some (.Call (.Name cl.name p1) [.Constant (.str m) j p2] [] p3)) none p ∧ S.cm = true ∧ c ∈ pr.plain ∧ pr.cls[c]? = some cl ∧ S.gl cl.name = true := by
  unfold Sm.ck at h; split at h; all_goals (try contradiction)
  rename_i heq; cases heq
  simp only [Bool.and_eq_true, decide_eq_true_eq] at h
  obtain ⟨⟨⟨h0, h1⟩, h2⟩, rfl⟩ := h
  obtain ⟨cl, q1, rfl, q3⟩ := clsN_one h2
  exact ⟨cl, _, _, _, _, _, rfl, h0, by simpa using h1, q1, q3⟩
theorem ck_stry {b su : Sms} {c i : Nat} (h : (Sm.tryAs b c i su).ck pr S e = true) : ∃ cl bd p1 n s0 ss p2 p, e = .Try bd [.ExceptHandler (some (.Name cl.name p1)) (some n) (s0 :: ss) p2] [] [] p ∧ S.cm = true ∧ b.ck pr S bd = true ∧ su.ck pr { S with cm := false } (s0 :: ss) = true ∧ pr.cls[c]? = some cl ∧ S.gl cl.name = true ∧
    S.N[i]? = some n ∧ S.sc.names.lookup n = some .local ∧ S.wr = none := by
  unfold Sm.ck at h; split at h; all_goals (try contradiction)
  rename_i heq; cases heq
  simp only [Bool.and_eq_true, decide_eq_true_eq] at h
  obtain ⟨⟨⟨⟨⟨⟨h0, h1⟩, h2⟩, h3⟩, h4⟩, h5⟩, h6⟩ := h
  obtain ⟨cl, q1, rfl, q3⟩ := clsN_one h3
  refine ⟨cl, _, _, _, _, _, _, _, rfl, h0, h1, h2, q1, q3, h4, ?_, ?_⟩
  · split at h5
    · assumption
    · cases h5
  · split at h6
    · assumption
    · cases h6
theorem ck_sraiseI {c : Nat} {es : Exs} (h : (Sm.raiseI c es).ck pr S e = true) : ∃ cl p1 a args p3 p fs, e = .Raise (some (.Call (.Name cl.name p1) (a :: args) [] p3)) none p ∧ S.cm = true ∧ pr.cls[c]? = some cl ∧ S.gl cl.name = true ∧ es.ck pr S (a :: args) = true ∧ (a :: args).all noStar = true ∧ (a :: args).length < 10 ∧ pr.inis.lookup c = some fs ∧ fs.length = (a :: args).length := by
  unfold Sm.ck at h; split at h; all_goals (try contradiction)
  rename_i heq; cases heq
  simp only [Bool.and_eq_true, decide_eq_true_eq] at h
  obtain ⟨⟨⟨⟨⟨h0, h1⟩, h2⟩, h3⟩, h4⟩, h5⟩ := h
  obtain ⟨cl, q1, rfl, q3⟩ := clsN_one h1
  cases q : pr.inis.lookup c with
  | none => rw [q] at h5; cases h5
  | some fs =>
    rw [q] at h5
    exact ⟨cl, _, _, _, _, _, fs, rfl, h0, q1, q3, h2, h3, h4, rfl, of_decide_eq_true h5⟩
theorem ck_stryNo {b su : Sms} {c : Nat} (h : (Sm.tryNo b c su).ck pr S e = true) : ∃ cl bd p1 s0 ss p2 p, e = .Try bd [.ExceptHandler (some (.Name cl.name p1)) none (s0 :: ss) p2] [] [] p ∧ S.cm = true ∧ b.ck pr S bd = true ∧ su.ck pr { S with cm := false } (s0 :: ss) = true ∧ pr.cls[c]? = some cl ∧ S.gl cl.name = true ∧ S.wr = none := by
  unfold Sm.ck at h; split at h; all_goals (try contradiction)
  rename_i heq; cases heq
  simp only [Bool.and_eq_true, decide_eq_true_eq] at h
  obtain ⟨⟨⟨⟨h0, h1⟩, h2⟩, h3⟩, h6⟩ := h
  obtain ⟨cl, q1, rfl, q3⟩ := clsN_one h3
  refine ⟨cl, _, _, _, _, _, _, rfl, h0, h1, h2, q1, q3, ?_⟩
  split at h6
  · assumption
  · cases h6
theorem ck_spar {i j : Nat} {a b : Ex} (h : (Sm.par i j a b).ck pr S e = true) : ∃ x px y py kt pt l r k2 pt2 p, e = .Assign [.Tuple [.Name x px, .Name y py] kt pt] (.Tuple [l, r] k2 pt2) p ∧ S.cm = true ∧ a.ck pr S l = true ∧ b.ck pr S r = true ∧ parOk S i j x y px py l r = true := by
  unfold Sm.ck at h; split at h; all_goals (try contradiction)
  rename_i heq; cases heq
  simp only [Bool.and_eq_true] at h
  obtain ⟨⟨⟨h0, h1⟩, h2⟩, h3⟩ := h
  exact ⟨_, _, _, _, _, _, _, _, _, _, _, rfl, h0, h1, h2, h3⟩
theorem ck_snil {es : List Stmt} (h : Sms.nil.ck pr S es = true) : es = [] := by
  unfold Sms.ck at h; split at h <;> simp_all
theorem ck_scons {s : Sm} {r : Sms} {es : List Stmt} (h : (Sms.cons s r).ck pr S es = true) : ∃ x xs, es = x :: xs ∧ s.ck pr S x = true ∧ r.ck pr S xs = true := by
  unfold Sms.ck at h; split at h; all_goals (try contradiction)
  rename_i heq; cases heq
  simp only [Bool.and_eq_true] at h
  exact ⟨_, _, rfl, h.1, h.2⟩
theorem ck_sfrz {i : Nat} {r : Sms} {es : List Stmt} (h : (Sms.frz i r).ck pr S es = true) : r.ck pr S es = true := by
  unfold Sms.ck at h; exact h
end
theorem noComp_ok {a : Expr} (h : noComp a = true) (t : Option Expr) (l : Nat) (env : Env) : swapsWith a t l env = pure false := by
  cases a <;> first | rfl | cases h
theorem noTup_ok {tg a : Expr} (h : noTup a = true) (env : Env) : swappedStores [tg] a env = pure none := by
  cases a <;> first | (cases tg <;> rfl) | cases h
theorem noStar_asg {tg : Expr} (h : noStar tg = true) (env : Env) : (assignEach [tg] env).map (·.2) = [assign tg env] := by
  cases tg <;> first | rfl | cases h
theorem par_sw {env : Env} {x y : Str} {px py pt pt2 : Pos} {kt k2 : Nat} {a b : Expr} (hk : env.scope.kind = .function) (hx : env.scope.names.lookup x = some .local) (hy : env.scope.names.lookup y = some .local) (hl : (py.line == px.line) = true) (sa : noStar a = true) (sb : noStar b = true) (ne : x ≠ y)
    (f1 : (foldedForSure 8 a && foldedForSure 8 b) = false) (f2 : (constantsAlone 8 a && constantsAlone 8 b) = false) : swappedStores [.Tuple [.Name x px, .Name y py] kt pt] (.Tuple [a, b] k2 pt2) env = pure (some [x, y]) := by
  have hb : env.blockKind = .function := by unfold Env.blockKind; rw [hk]; rfl
  have ns : ([a, b].any fun | .Starred .. => true | _ => false) = false := by
    cases a <;> first | exact (Bool.false_ne_true sa).elim | (cases b <;> first | exact (Bool.false_ne_true sb).elim | rfl)
  have e1 : [a, b].all (foldedForSure 8) = false := by simpa using f1
  have e2 : [a, b].all (constantsAlone 8) = false := by simpa using f2
  have nb : (y == x) = false := beq_eq_false_iff_ne.mpr (Ne.symm ne)
  have nb2 : (x == y) = false := beq_eq_false_iff_ne.mpr ne
  have k1 : env.kindOf x = some .local := hx
  have k2 : env.kindOf y = some .local := hy
  unfold swappedStores
  simp only [ns, e1, e2, hb, k1, k2, List.filterMap_cons, List.filterMap_nil, List.head?_cons, Option.map_some, Option.getD_some, Expr.pos, hl]
  simp [List.eraseDups_cons, nb, nb2, ne, Ne.symm ne]
  intro z
  exfalso
  rcases z with z | z
  · cases a <;> first | exact (Bool.false_ne_true sa).elim | exact (Bool.false_ne_true z).elim
  · cases b <;> first | exact (Bool.false_ne_true sb).elim | exact (Bool.false_ne_true z).elim
theorem set_same {σ : L2.St} {i : Nat} {v : V} (hv : σ[i]? = some (some v)) : σ.set i (some v) = σ := by
  apply List.ext_getElem?
  intro j
  rw [List.getElem?_set]
  split
  · rename_i hij
    subst hij
    rw [hv, if_pos (List.getElem?_eq_some_iff.mp hv).1]
  · rfl
/-- a numbered list or dict in a slot is left to last -/
theorem ss_frz {X : Cx} {g : Sg} {Wx : WX} {i : Nat} {es : List Stmt} {f : FS} (h : PSs X es (tS g Wx f)) : PSs X es (tS g Wx fun en st => match en[i]? with
    | some (some (.ref n)) => (match st.ob n with
      | some (.lst ds) => f (en.set i (some (.lst ds))) (st.del n)
      | some (.dct ks ds) => f (en.set i (some (.dct ks ds))) (st.del n)
      | _ => .bad)
    | _ => .bad) := h.lockV.lb fun E σ H ⟨W, st, en, hE, S, p⟩ => by
  simp only at p
  split at p
  · rename_i n q
    obtain ⟨v, hv, rv⟩ := hE.2 i _ q
    split at p
    · rename_i ds q2
      obtain ⟨a, vs, e, r, S'⟩ := S.frzO q2
      refine .inl ⟨W.addL a vs, st.del n, en.set i (some (.lst ds)), ?_, S', p.mono (W.addL_le a vs)⟩
      have hl : Rep (W.addL a vs) v (.lst ds) := by
        cases rv with
        | ref e' => rw [e] at e'; cases e'; exact .lst (.inr ⟨rfl, rfl⟩) (r.mono (W.addL_le a vs))
      have := (hE.mono (W.addL_le a vs)).set hl i
      rwa [set_same hv] at this
    · rename_i ks ds q2
      obtain ⟨a, vs, e, ha, l, r, S'⟩ := S.lockO q2
      refine .inr ⟨a, _, ha, trivial, fun od => ?_⟩
      obtain ⟨le, S2⟩ := S' od
      refine ⟨_, st.del n, en.set i (some (.dct ks ds)), ?_, S2, p.mono le⟩
      have hl : Rep (((W.addP a (.dK (ks.zip vs))).noP a).addF a (.frz od (.dK (ks.zip vs)))) v (.dct ks ds) := by
        cases rv with
        | ref e' => rw [e] at e'; cases e'; exact .dct (.inr ⟨rfl, rfl⟩) l (r.mono le)
      have := (hE.mono le).set hl i
      rwa [set_same hv] at this
    · exact p.elim
  · exact p.elim
section
variable {pr : Pr} {S : Sc} {e : Stmt}
theorem ck_ssetF {o x : Ex} {f : Str} (h : (Sm.setF o f x).ck pr S e = true) : ∃ l p2 a p, e = .Assign [.Attribute l f p2] a p ∧ o.ck pr S l = true ∧ x.ck pr S a = true ∧ noComp a = true := by
  unfold Sm.ck at h; split at h; all_goals (try contradiction)
  rename_i heq; cases heq
  simp only [Bool.and_eq_true, decide_eq_true_eq] at h
  obtain ⟨⟨⟨h1, h2⟩, rfl⟩, h3⟩ := h
  exact ⟨_, _, _, _, rfl, h1, h2, h3⟩
theorem ck_saugF {o x : Ex} {f : Str} (h : (Sm.augF o f x).ck pr S e = true) : ∃ l p2 a p, e = .AugAssign (.Attribute l f p2) .Add a p ∧ o.ck pr S l = true ∧ x.ck pr S a = true := by
  unfold Sm.ck at h; split at h; all_goals (try contradiction)
  rename_i heq; cases heq
  simp only [Bool.and_eq_true, decide_eq_true_eq] at h
  obtain ⟨⟨h1, h2⟩, rfl⟩ := h
  exact ⟨_, _, _, _, rfl, h1, h2⟩
end
section
variable {pr : Pr} {g : Sg} {k : Nat}
mutual
theorem sound_s : ∀ (x : Sm) {Wx : WX} {S : Sc} {X : Cx} (G : Good pr g k Wx S X) (e : Stmt), x.ck pr S e = true → PS X e (tS g Wx (x.ev (pr.at k)))
  | .pass, Wx, S, X, G, e, h => by obtain ⟨p, rfl⟩ := ck_spass h; exact ss_pass
  | .brk, Wx, S, X, G, e, h => by obtain ⟨p, rfl⟩ := ck_sbrk h; exact ss_break
  | .cont, Wx, S, X, G, e, h => by obtain ⟨p, rfl⟩ := ck_scont h; exact ss_continue
  | .never, Wx, S, X, G, e, h => ss_never
  | .expr x, Wx, S, X, G, e, h => by
    obtain ⟨a, p, rfl, h1, h2⟩ := ck_sexpr h
    exact ss_expr (sound_e x G a h1) (noComp_ok h2 _ _ _)
  | .ret x, Wx, S, X, G, e, h => by
    obtain ⟨a, p, rfl, h1⟩ := ck_sret h
    exact ss_ret (sound_e x G a h1)
  | .retN, Wx, S, X, G, e, h => by obtain ⟨p, rfl⟩ := ck_sretN h; exact ss_retN
  | .set i x, Wx, S, X, G, e, h => by
    obtain ⟨y, p2, a, p, rfl, h1, h2, h3⟩ := ck_sset h
    obtain ⟨q1, q2, q3⟩ := G.stor h1
    exact ss_set G.nd' q1 q2 (sound_e x G a h2) (noComp_ok h3 _ _ _) q3
  | .asg t x, Wx, S, X, G, e, h => by
    obtain ⟨tg, a, p, rfl, h1, h2, h3, h4, h5⟩ := ck_sasg h
    exact ss_asg (sound_e x G a h2) (sound_tg G t tg h1) (noComp_ok h3 _ _ _) (noTup_ok h4 _) (noStar_asg h5 _)
  | .setIx o i x, Wx, S, X, G, e, h => by
    obtain ⟨l, r, p2, a, p, rfl, h1, h2, h3, h4, h5⟩ := ck_ssetIx h
    refine ss_setIx (by have := G.units; omega) (sound_e x G a h3) (sound_e o G l h1) (sound_e i G r h2) (fun v => ?_) (show swapsWith a (some (.Subscript l r p2)) p.line X.env = pure false from noComp_ok h4 _ _ _) ?_ rfl
    · cases r <;> first | rfl | cases h5
    · cases a <;> rfl
  | .setF o f x, Wx, S, X, G, e, h => by
    obtain ⟨l, p2, a, p, rfl, h1, h2, h3⟩ := ck_ssetF h
    exact ss_setF G.K G.tab.ins (sound_e o G l h1) (sound_e x G a h2) (noComp_ok h3 _ _ _)
  | .augF o f x, Wx, S, X, G, e, h => by
    obtain ⟨l, p2, a, p, rfl, h1, h2⟩ := ck_saugF h
    exact ss_augF G.K G.tab.ins (sound_e o G l h1) (sound_e x G a h2)
  | .setLc i fz own t it c x, Wx, S, X, G, e, h => by
    obtain ⟨y, py, elt, tg, iter, ifs, scope, pos, p, rfl, h1, h2, L⟩ := ck_ssetLc h
    obtain ⟨q1, q2, q3⟩ := G.stor h1
    have ok : BlkOk X.N X.env.scope scope own := by rw [G.N, G.sc]; exact blkOk_by L.bk
    simp only [swOk, Bool.and_eq_true, Bool.not_eq_true'] at h2
    obtain ⟨⟨⟨k1, k2⟩, k3⟩, k4⟩ := h2
    have hl : X.env.scope.names.lookup y = some .local := by
      rw [G.sc]
      split at k2
      · assumption
      · cases k2
    refine ss_setLc fz (G.calm L.cm) G.nd' q1 hl (sw_true ?_ hl k3 k4) (sound_i it G tg iter L.it) ok L.is (fun s H C cl fp => sound_tg (G.blk ok.kind s H C cl fp) t tg L.t) (fun s H C cl fp => sound_to c (G.blk ok.kind s H C cl fp) ifs L.c)
      (fun s H C cl fp => sound_e x (G.blk ok.kind s H C cl fp) elt L.e) (noSet_ok L.ns _)
    rw [G.sc]
    exact G.kind
  | .setLc2 i fz own t it c t1 it1 c1 x, Wx, S, X, G, e, h => by
    obtain ⟨y, py, elt, tg, iter, ifs, tg1, iter1, ifs1, scope, pos, p, rfl, h1, h2, L, M⟩ := ck_ssetLc2 h
    obtain ⟨q1, q2, q3⟩ := G.stor h1
    have ok : BlkOk X.N X.env.scope scope own := by rw [G.N, G.sc]; exact blkOk_by L.bk
    simp only [swOk, Bool.and_eq_true, Bool.not_eq_true'] at h2
    obtain ⟨⟨⟨k1, k2⟩, k3⟩, k4⟩ := h2
    have hl : X.env.scope.names.lookup y = some .local := by
      rw [G.sc]
      split at k2
      · assumption
      · cases k2
    refine ss_setLc2 fz (G.calm L.cm) G.nd' q1 hl (sw_true ?_ hl k3 k4) (sound_i it G tg iter L.it) ok L.is M.is (fun s H C cl fp => sound_tg (G.blk ok.kind s H C cl fp) t tg L.t) (fun s H C cl fp => sound_to c (G.blk ok.kind s H C cl fp) ifs L.c)
      (fun s H C cl fp => sound_i it1 (G.blk ok.kind s H C cl fp) tg1 iter1 M.it) (fun s H C cl fp => sound_tg (G.blk ok.kind s H C cl fp) t1 tg1 M.t) (fun s H C cl fp => sound_to c1 (G.blk ok.kind s H C cl fp) ifs1 M.c)
      (fun s H C cl fp => sound_e x (G.blk ok.kind s H C cl fp) elt L.e) (noSet_ok L.ns _) (fun env => noSet_ok M.ns env)
    rw [G.sc]
    exact G.kind
  | .raise_ c m, Wx, S, X, G, e, h => by
    obtain ⟨cl, p1, j, p2, p3, p, rfl, h0, h1, h2, h3⟩ := ck_sraise h
    obtain ⟨g1, g2⟩ := G.gl h3
    cases o : cl.own with
    | true => exact ss_raise G.K (G.calm h0) G.tk G.tab.cls h2 o h1 g1 g2
    | false =>
      obtain ⟨C, hC, _⟩ := G.tab.cls.pla c h1
      obtain ⟨e1, _⟩ := G.tab.cls.bui c cl h2 o
      rw [e1] at hC; cases hC
  | .tryAs b c i su, Wx, S, X, G, e, h => by
    obtain ⟨cl, bd, p1, n, s0, ss, p2, p, rfl, h0, h1, h2, h3, h4, h5, h6, h7⟩ := ck_stry h
    obtain ⟨g1, g2⟩ := G.gl h4
    obtain ⟨t1, t2, t3⟩ := G.top h7
    exact ss_try G.K t1 t2 t3 G.nd' (by rw [G.N]; exact h5) (by show X.env.scope.names.lookup n = _; rw [G.sc]; exact h6) G.tab.cls h3 g1 g2 G.tk (fun W pn xe tk po => sound_ss b (G.tr tk po) bd h1) (fun a pn => sound_ss su (G.su a pn) (s0 :: ss) h2)
  | .raiseI c es, Wx, S, X, G, e, h => by
    obtain ⟨cl, p1, a, args, p3, p, fs, rfl, h0, h1, h2, h3, h4, h5, h6, h7⟩ := ck_sraiseI h
    obtain ⟨g1, g2⟩ := G.gl h2
    have i1 := G.tab.ini c fs h6
    cases o : cl.own with
    | true =>
      refine (ss_raiseI (fa := es.ev (pr.at k)) G.K (G.calm h0) G.tk G.tab.cls i1 h1 o ?_ g1 g2 (sound_es es G _ h3 h4) h4 (by omega)).lb fun E σ H z => ?_
      · exact (G.room h0).mono (by omega)
      · simp only [Sm.ev, h6] at z
        exact z
    | false =>
      obtain ⟨C, _, _, hC, _⟩ := i1.ex
      obtain ⟨e1, _⟩ := G.tab.cls.bui c cl h1 o
      rw [e1] at hC; cases hC
  | .tryNo b c su, Wx, S, X, G, e, h => by
    obtain ⟨cl, bd, p1, s0, ss, p2, p, rfl, h0, h1, h2, h3, h4, h7⟩ := ck_stryNo h
    obtain ⟨g1, g2⟩ := G.gl h4
    obtain ⟨t1, t2, t3⟩ := G.top h7
    exact ss_tryNo G.K t1 t2 G.tab.cls h3 g1 g2 G.tk (fun W pn xe tk po => sound_ss b (G.tr tk po) bd h1) (fun a pn => sound_ss su (G.su a pn) (s0 :: ss) h2)
  | .par i j a b, Wx, S, X, G, e, h => by
    obtain ⟨x, px, y, py, kt, pt, l, r, k2, pt2, p, rfl, h0, h1, h2, h3⟩ := ck_spar h
    simp only [parOk, Bool.and_eq_true, decide_eq_true_eq, Bool.not_eq_true'] at h3
    obtain ⟨⟨⟨⟨⟨⟨⟨⟨⟨⟨q1, q2⟩, q3⟩, q4⟩, q5⟩, q6⟩, q7⟩, q8⟩, q9⟩, q10⟩, q11⟩ := h3
    refine ss_par (G.calm h0) G.nd' (by rw [G.N]; exact q1) (by rw [G.N]; exact q2) q3 (by rw [G.sc]; exact q4) (by rw [G.sc]; exact q5) (sound_e a G l h1) (sound_e b G r h2) q7 q8 ?_
    exact par_sw (by rw [G.sc]; exact G.kind) (by rw [G.sc]; exact q4) (by rw [G.sc]; exact q5) q6 q7 q8 q9 q10 q11
  | .ite c p q, Wx, S, X, G, e, h => by
    obtain ⟨t, a, b, ps, rfl, h1, h2, h3⟩ := ck_site h
    exact ss_if (sound_t c G t h1) (sound_ss p G a h2) (sound_ss q G b h3)
  | .for_ t it b, Wx, S, X, G, e, h => by
    obtain ⟨tg, iter, body, p, rfl, h1, h2, h3, h4, h5⟩ := ck_sfor h
    exact ss_for G.po (G.calm h5) (sound_i it G tg iter h2) (sound_tg G t tg h1) (sound_ss b G body h4) (noSet_ok h3 _)
  | .while_ c n b, Wx, S, X, G, e, h => by
    obtain ⟨t, body, p, rfl, h1, h2⟩ := ck_swhile h
    exact ss_while n G.po (sound_t c G t h1) (sound_ss b G body h2)
theorem sound_ss : ∀ (x : Sms) {Wx : WX} {S : Sc} {X : Cx} (G : Good pr g k Wx S X) (es : List Stmt), x.ck pr S es = true → PSs X es (tS g Wx (x.ev (pr.at k)))
  | .nil, Wx, S, X, G, es, h => by have := ck_snil h; subst this; exact ss_nil
  | .cons s r, Wx, S, X, G, es, h => by
    obtain ⟨x, xs, rfl, h1, h2⟩ := ck_scons h
    exact ss_cons (sound_s s G x h1) (sound_ss r G xs h2)
  | .frz i r, Wx, S, X, G, es, h => ss_frz (sound_ss r G es (ck_sfrz h))
end
end
/-- what each def must show: its object, its names, that its body is what the language says -/
structure DfOk (g : Sg) (mg : Str → Option Value) (pr : Pr) (d : Df) : Prop where
  ex : ∃ (x : Str) (params : Arguments) (body : List Stmt) (scope : Scope) (dvs : List V) (kws : List (Str × V)) (f : Addr) (fd : FuncData), FunD g.K x d.qual params body scope dvs kws f fd ∧ FnScope d.N d.ps scope ∧ d.body.ck pr ⟨d.N, scope, none, true⟩ body = true ∧
    (d.own = none → mg d.name = some (.ref f)) ∧ (∀ q, d.own = some q → ∃ C, g.cv q.1 = .ref C ∧ Cls g.K C ∧ Meth g.K C q.2 f) ∧ ∀ p ∈ d.shs, Bnd g.K fd d.ps p.n p.ks p.src (p.dds.map flV) ∧ flAll p.dds
/-- the program is what the language says, at each depth -/
theorem tab_all {P : Program} {w : World} {mg : Str → Option Value} {base : Heap} {g : Sg} {pr : Pr} (hd : ∀ d ∈ pr.defs, DfOk g mg pr d)
    (hc : ∀ (i : Nat) x d, pr.cons[i]? = some (x, d) → ∃ v u, mg x = some u ∧ RelV v u ∧ ∀ W st H, Sim g W st H → Rep W v d) (hf : ∀ x ∈ pr.free, mg x = none) (hx : ClsOk g mg pr) (hi : IniOk g mg pr) (hin : InsOk g pr) (hic : IclOk g mg pr) (hfv : ∀ (i : Nat) x, pr.fns.lookup i = some x → ∃ f, g.cv (100000 + i) = .ref f ∧ mg x = some (.ref f)) (hlt : ∀ (i : Nat) (a : Addr) (es : Array DictEntry) (n : Nat), g.cv (200000 + i) = .ref a → g.K.lookup a = some ⟨.type "dict", none, .dict es n, #[]⟩ → PySem.W.KeysLit w.params es.toList) (hsm : smK g.K) : ∀ k, Tab P w mg base g k pr
  | 0 => ⟨fun i d h => by
      obtain ⟨x, params, body, scope, dvs, kws, f, fd, F, S, ck, hm, ho, hb⟩ := (hd d (List.mem_of_getElem? h)).ex
      exact ⟨f, fd, ⟨fun A outer s H args us vs Q E r gd e0 bt rv len ⟨W, st, ds, _, _, p⟩ => p.elim⟩, fun z => ⟨hm z, F.kp⟩, ho, hb⟩, hc, hf, hx, hi, hin, hic, hfv, hlt, hsm⟩
  | k + 1 => by
    have ih := tab_all (P := P) (w := w) (base := base) hd hc hf hx hi hin hic hfv hlt hsm k
    refine ⟨fun i d h => ?_, hc, hf, hx, hi, hin, hic, hfv, hlt, hsm⟩
    obtain ⟨x, params, body, scope, dvs, kws, f, fd, F, S, ck, hm, ho, hb⟩ := (hd d (List.mem_of_getElem? h)).ex
    refine ⟨f, fd, ?_, fun z => ⟨hm z, F.kp⟩, ho, hb⟩
    have := fnI_of (P := P) (w := w) (mg := mg) (base := base) (k := 2 * k + 3) (kp := d.kp) (fb := d.body.ev (pr.at k)) F S fun cdv A outer s H E hr gd =>
      sound_ss d.body (S := ⟨d.N, scope, none, true⟩) (Wx := fun cls dx _ H => E cls dx H) ⟨rfl, rfl, S.nd, rfl, S.kind, fun _ => rfl, fun _ => rfl, fun _ => hr, by exact Nat.lt_of_le_of_lt (Nat.add_le_add_right (Nat.le_add_right _ (16 * (2 * k + 3))) 200) hr.un, gd, fun _ => ⟨rfl, rfl, rfl⟩, passes_of (K := fun e s'' => CX P w outer H s E e s'') rfl, takes_of rfl rfl rfl rfl, ih⟩ body ck
    have e : pr.run (k + 1) i = defF d.N.length d.kp (d.body.ev (pr.at k)) := by
      funext ds st
      show (match pr.defs[i]? with
        | some d => defF d.N.length d.kp (d.body.ev ⟨pr.run k, pr⟩) ds st
        | none => .bad) = _
      rw [h]
    rw [e]
    exact this
end LB
end

section
set_option Elab.async false
set_option linter.all false
set_option maxRecDepth 100000
set_option maxHeartbeats 4000000
/-! From the law's plain function to the row. -/
namespace LB
open PySem PySem.Spec PyProof.Rows L2
def st0 : Sto := ⟨0, fun _ => none⟩
/-- the first world: the written tuples, the script -/
def w0 (g : Sg) (a : Addr) (xs : List V) : Wd := ⟨fun _ => none, KT g.K, fun _ _ => False, fun b ys => b = a ∧ ys = xs, fun _ _ => False, g.cv, KDk g⟩
theorem sim0 {g : Sg} {a : Addr} {xs : List V} {H : Hp} (h : (∃ o, H a = some (.frz o (.lst xs))) ∨ KL g.K a xs) : Sim g (w0 g a xs) st0 H where
  kt := fun _ _ h => h
  tu := fun b ys q => .inr q
  fz := fun _ _ q => q.elim
  sc := fun b ys q => by obtain ⟨rfl, rfl⟩ := q; exact h
  pin := fun _ _ q => q.elim
  ob := fun n o q => by cases q
  inj := fun n m o u a q => by cases q
  top := fun n a q => by cases q
  cv := rfl
  kd := rfl
section
variable {P : Program} {w : World} {K : PySem.W.Frag} {mg mb : Str → Option Value} {k : Nat} {fa a : Addr} {x : Str} {s₁ : Shared} {vs : List Value} {ns : List Int} {cv : Nat → Value} {F : List D → Sto → Res D} {s' : Sto}
theorem law_run (inK : K.In s₁.heap) (glob : s₁.heap.Ns mainGlobals mg) (blt : s₁.heap.Ns builtinsNs mb) (bltOk : ∀ y : Str, y ≠ "__name__" → mb y = bootBuiltins y) (lim : s₁.heap.NoLimit) (noGens : s₁.gens = #[])
    (scr : s₁.heap.get? a = some { cls := .type "list", data := .seq vs.toArray }) (its0 : IntsAre vs ns) (len : ns.length ≤ sizeLine) (room : Room k callerA)
    (Fi : ∀ base : Heap, K.In base → base.Ns mainGlobals mg → ∃ fd : FuncData, (∀ (s : Shared) (u : Value), K.In s.heap → BindsTo s fd ⟨[u], []⟩ [(x, u)]) ∧ FnI P w mg base ⟨K, cv⟩ k fa fd [x] F) (ans : F [.scr ns] st0 = .ok (.bl true) s') :
    codeAny (model P w) callerA (.call (.ref fa) ⟨[.ref a], []⟩) (fun r s' => r = .ok (.ret (.bool true)) ∧ OldK s₁.heap s'.heap ∧ s'.os = s₁.os ∧ AllBare s'.gens) s₁ := by
  have rel := vals_ints its0
  have lenV := its0.length
  obtain ⟨H, only, hsc, hok, here, apart⟩ : ∃ H : Hp, (∀ b, H b = none ∨ ∃ o xs, H b = some (.frz o (.lst xs))) ∧ ((∃ o, H a = some (.frz o (.lst (ns.map V.int)))) ∨ KL K a (ns.map V.int)) ∧ HOk P w H s₁.heap ∧ (∀ b, H b ≠ none → b = a) ∧ (H a ≠ none → K.lookup a = none) := by
    cases hk : K.lookup a with
    | some o =>
      have e := inK a o hk
      rw [scr] at e
      cases e
      exact ⟨fun _ => none, fun _ => .inl rfl, .inr ⟨_, vs.toArray, _, hk, rfl, rfl, rfl, by rw [List.size_toArray, lenV]; exact len, by simpa using rel⟩, fun b u z => (nomatch (show (none : Option HO) = some u from z)), fun b z => absurd rfl z, fun z => absurd rfl z⟩
    | none =>
      refine ⟨fun b => if b = a then some (.frz { cls := .type "list", data := .seq vs.toArray } (.lst (ns.map V.int))) else none, fun b => ?_, .inl ⟨_, if_pos rfl⟩, fun b u z => ?_, fun b z => ?_, fun _ => rfl⟩
      · by_cases hb : b = a
        · exact .inr ⟨_, _, if_pos hb⟩
        · exact .inl (if_neg hb)
      · by_cases hb : b = a
        · have z' := (if_pos hb).symm.trans z
          cases z'
          subst hb
          exact ⟨scr, by rw [List.length_map]; exact len, vs, _, rel, scr⟩
        · exact (nomatch ((if_neg hb).symm.trans z))
      · by_cases hb : b = a
        · exact hb
        · exact absurd (if_neg hb) z
  have free : ∀ {b : Addr} {o : Obj}, s₁.heap.get? b = some o → (∀ its n, o.data ≠ .seq its n) → H b = none := fun {b o} e d => by
    cases q : H b with
    | none => rfl
    | some u =>
      have e' : b = a := here b (by rw [q]; exact fun z => nomatch z)
      subst e'
      rw [scr] at e
      cases e
      exact absurd rfl (d vs.toArray _)
  have nsK : ∀ {b : Addr} {m : Str → Option Value}, s₁.heap.Ns b m → (hidT s₁.heap H).Ns b m := fun {b m} ⟨o, es, ep, e, d, r⟩ => ⟨o, es, ep, hidT_get e (free e fun its n q => by rw [d] at q; cases q), d, r⟩
  have inB : K.In (hidT s₁.heap H) := fun b o e => hidT_get (inK b o e) (by
    cases q : H b with
    | none => rfl
    | some u =>
      have e' : b = a := here b (by rw [q]; exact fun z => nomatch z)
      subst e'
      rw [apart (by rw [q]; exact fun z => nomatch z)] at e
      cases e)
  have md : Mod K mg (hidT s₁.heap H) := ⟨inB, nsK glob, ⟨mb, nsK blt, bltOk⟩, let ⟨mc, h1, h2⟩ := lim; ⟨mc, nsK h1, h2⟩⟩
  have env0 : Env0 P w K mg (hidT s₁.heap H) callerA [] s₁ H :=
    { frames := rfl, mod := md, bs := fun b o e => of_hidT e, bsz := Nat.le_of_eq (hidT_size _ _), funs := trivial, frf := fun b hb => absurd (show b ∈ ([] : List Addr) from hb) (List.not_mem_nil), hok := hok, bare := .of_eq noGens }
  have prom : spF ⟨K, cv⟩ F [.ref a] H (fun v _ => v = .bl true) (fun _ _ _ => False) := by
    refine ⟨w0 ⟨K, cv⟩ a (ns.map V.int), st0, [.scr ns], .cons (.scr ⟨rfl, rfl⟩) .nil, sim0 (g := ⟨K, cv⟩) hsc, ?_⟩
    rw [ans]
    intro W' v H' le S r
    cases r
    rfl
  obtain ⟨fd, bind, fi⟩ := Fi _ inB (nsK glob)
  refine codeAny_mono (fi.run callerA [] s₁ H ⟨[.ref a], []⟩ [.ref a] [.ref a] _ _ room rfl env0 (bind s₁ (.ref a) inK) (.cons rfl .nil) rfl prom) fun r s2 h => ?_
  cases r with
  | error e =>
    obtain ⟨_, _, _, _, _, _, _, _, _, _, _, _, bad⟩ := h
    exact bad.elim
  | ok fl =>
    cases fl with
    | ret u =>
      obtain ⟨v, H', os, bare, un, hok', rv, q⟩ := h
      have q' : v = .bl true := q
      subst q'
      obtain rfl : u = Value.bool true := rv
      refine ⟨rfl, OldK.of_keep fun b o e => ?_, os, bare⟩
      cases q : H b with
      | none => exact un.keep b o e q (fun z => by cases z) (fun z => by cases z)
      | some u =>
        rcases only b with z | ⟨ob, xs, z⟩
        · rw [q] at z; cases z
        · obtain ⟨e1, _⟩ := hok b _ z
          obtain ⟨e2, _⟩ := hok' b _ (un.frzs b ob _ z)
          rw [e] at e1; cases e1
          exact e2
    | next => exact False.elim h
    | brk => exact False.elim h
    | cont => exact False.elim h
/-- the row's walk, of the law's plain function -/
theorem walk_run {l : PySem.W.OpenLaw} {n k i : Nat} {q : Program} {loose : List Str} {XP : (Str → Option Value) → Heap → Prop} {YP : World → Heap → Prop} {d : DefRec} {x : Str} {pr : Pr} {cv : PySem.W.Frag → Nat → Value}
    (most : l.most = some n) (hn : n ≤ sizeLine) (noDef : d.params.defaults = []) (room : Room (2 * k + 2) callerA)
    (facts : ∀ (w : World) (mg : Str → Option Value) (fa : Addr) (h : Heap), YP w h → h.Ns mainGlobals mg → mg d.name = some (.ref fa) →
      ∃ K : PySem.W.Frag, K.In h ∧ ∀ base : Heap, K.In base → base.Ns mainGlobals mg → ∃ fd : FuncData, (∀ (s : Shared) (u : Value), K.In s.heap → BindsTo s fd ⟨[u], []⟩ [(x, u)]) ∧ FnI l.prog w mg base ⟨K, cv K⟩ (2 * k + 2) fa fd [x] (pr.run k i))
    (law : ∀ ns : List Int, ns.length ≤ n → ∃ s', pr.run k i [.scr ns] st0 = .ok (.bl true) s') :
    PySem.W.WalkO q loose XP YP l.row.toRowW d [] (fun f vs => PySem.call f vs) := by
  refine Att.attach_call most noDef fun w s₀ s₁ mg mb fa o pm cd doc a vs ns G Y ho hd hcd hmg hobj hints hlen hg => ?_
  obtain ⟨K, inK, hF⟩ := facts w mg fa _ Y G.T.g hmg
  obtain ⟨s', e⟩ := law ns hlen
  exact law_run inK G.T.g G.T.b G.T.builtins G.T.nolimit hg hobj hints (Nat.le_trans hlen hn) room hF e
end
end LB
end

section
set_option Elab.async false
set_option linter.all false
set_option maxRecDepth 100000
set_option maxHeartbeats 4000000
/-! What the written part says of the classes. -/
namespace LB
open PySem PySem.Spec PyProof.Rows L2
def excB (K : PySem.W.Frag) (D : Addr) : Bool := decide (PySem.W.findIn K (.ref D) "__getattribute__" = some (some (.builtin "BaseException.__getattribute__"))) && (decide (PySem.W.findIn K (.ref D) "__getattr__" = some none) && (decide (PySem.W.subIn K (.ref D) (.type "BaseException") = some true) && (PySem.W.hasDictIn K D &&
  (decide (PySem.W.findIn K (.ref D) "__class__" = some (some (.builtin "object.__class__"))) && (decide (PySem.W.specialIn K (.builtin "object.__class__") "__get__" = some (some (.builtin "getset_descriptor.__get__"))) && (decide (PySem.W.takesIn K (.builtin "object.__class__") = some true) && decide (PySem.W.mroIn K D (.type "object") = some true)))))))
theorem excB_ok {K : PySem.W.Frag} {D : Addr} (h : excB K D = true) : ExcC K D := by
  simp only [excB, Bool.and_eq_true, decide_eq_true_eq] at h
  obtain ⟨h1, h2, h3, h4, h5, h6, h7, h8⟩ := h
  exact ⟨h1, h2, h3, h4, h5, h6, h7, h8⟩
def Cl.v (K : PySem.W.Frag) (cl : Cl) : Value := if cl.own then .ref (He.ga K cl.name) else .type cl.T
def Pr.cv (pr : Pr) (K : PySem.W.Frag) (i : Nat) : Value := match pr.cls[i]? with
  | some cl => cl.v K
  | none => (match pr.icl.lookup i with
    | some x => .ref (He.ga K x)
    | none => if 200000 ≤ i then (match pr.kds.lookup (i - 200000) with
        | some x => .ref (He.ga K x)
        | none => .none) else (match pr.fns.lookup (i - 100000) with
        | some x => .ref (He.ga K x)
        | none => .none))
def Cl.ok (K : PySem.W.Frag) (cl : Cl) : Bool := if cl.own then (He.Fa.glo cl.name).ok K && (PySem.W.keepIn K (.ref (He.ga K cl.name)) && (excB K (He.ga K cl.name) && decide (PySem.W.typeIn K (.ref (He.ga K cl.name)) = some (.type "type"))))
  else (He.Fa.free cl.name).ok K && (decide (bootBuiltins cl.name = some (.type cl.T)) && decide (cl.name ≠ "__name__"))
def Pr.ownAt (pr : Pr) (K : PySem.W.Frag) (c : Nat) (f : Addr → Bool) : Bool := match pr.cls[c]? with
  | some cl => cl.own && f (He.ga K cl.name)
  | none => false
def Pr.clsB (pr : Pr) (K : PySem.W.Frag) : Bool := pr.cls.all (fun cl => cl.ok K) && ((pr.isa.all fun q => pr.ownAt K q.1.1 (excB K) && decide (PySem.W.kitOne K (pr.cv K q.1.1) (pr.cv K q.1.2) = some q.2)) && ((pr.exm.all fun q => decide (PySem.W.exmOne K (pr.cv K q.1.1) (pr.cv K q.1.2) = some q.2)) &&
  ((pr.plain.all fun c => pr.ownAt K c fun C => PySem.W.excIn K C [.type "ValueError", .type "Exception", .type "BaseException", .type "object"] "ValueError.__new__") && (pr.flds.all fun q => pr.ownAt K q.1 fun C => excB K C && decide (PySem.W.findIn K (.ref C) q.2 = some none)))))
theorem ownAt_ok {pr : Pr} {K : PySem.W.Frag} {c : Nat} {f : Addr → Bool} (h : pr.ownAt K c f = true) : ∃ C, pr.cv K c = .ref C ∧ f C = true := by
  unfold Pr.ownAt at h
  split at h
  · rename_i cl q
    simp only [Bool.and_eq_true] at h
    exact ⟨He.ga K cl.name, by unfold Pr.cv Cl.v; simp [q, h.1], h.2⟩
  · cases h
theorem lookup_mem {α β : Type} [BEq α] [LawfulBEq α] {k : α} {v : β} : ∀ {l : List (α × β)}, l.lookup k = some v → (k, v) ∈ l
  | [], h => by simp at h
  | (k', v') :: l, h => by
    rw [List.lookup_cons] at h
    split at h
    · rename_i q
      cases h
      rw [LawfulBEq.eq_of_beq q]; exact List.mem_cons_self ..
    · exact List.mem_cons_of_mem _ (lookup_mem h)
theorem clsB_ok {pr : Pr} {K : PySem.W.Frag} {h : Heap} {mg : Str → Option Value} (X : K.In h) (G : h.Ns mainGlobals mg) (b : pr.clsB K = true) : ClsOk ⟨K, pr.cv K⟩ mg pr := by
  simp only [Pr.clsB, Bool.and_eq_true, List.all_eq_true, decide_eq_true_eq] at b
  obtain ⟨b1, b2, b3, b4, b5⟩ := b
  refine ⟨fun c cl q o => ?_, fun c cl q o => ?_, fun c c' b q => ?_, fun c c' b q => ?_, fun c q => ?_, fun c f q => ?_⟩
  · have z := b1 cl (List.mem_of_getElem? q)
    simp only [Cl.ok, o, if_true, Bool.and_eq_true, decide_eq_true_eq] at z
    exact ⟨He.ga K cl.name, by simp [Pr.cv, q, Cl.v, o], He.glo_ok X G z.1, z.2.1, excB_ok z.2.2.1, z.2.2.2⟩
  · have z := b1 cl (List.mem_of_getElem? q)
    simp only [Cl.ok, o, Bool.false_eq_true, if_false, Bool.and_eq_true, decide_eq_true_eq] at z
    exact ⟨by simp [Pr.cv, q, Cl.v, o], He.free_ok X G z.1, z.2.1, z.2.2⟩
  · obtain ⟨z1, z2⟩ := b2 _ (lookup_mem q)
    obtain ⟨C, e, y⟩ := ownAt_ok z1
    exact ⟨⟨C, e, excB_ok y⟩, z2⟩
  · exact b3 _ (lookup_mem q)
  · obtain ⟨C, e, y⟩ := ownAt_ok (b4 c q)
    exact ⟨C, e, y⟩
  · have m : (c, f) ∈ pr.flds := by simpa using q
    obtain ⟨C, e, y⟩ := ownAt_ok (b5 _ m)
    simp only [Bool.and_eq_true, decide_eq_true_eq] at y
    exact ⟨C, e, excB_ok y.1, y.2⟩
/-! an own __init__ -/
def upB (K : PySem.W.Frag) (B : Addr) : Bool := decide (PySem.W.specialIn K (.ref B) "__getattribute__" = some (some (.builtin "type.__getattribute__"))) && (PySem.W.readsIn K B (.type "type") && (match PySem.W.findCls K (.ref B) (.type "type") "__init__" with
  | some (.val (.builtin n)) => n == "ValueError.__init__"
  | _ => false))
theorem upB_ok {K : PySem.W.Frag} {B : Addr} (h : upB K B = true) : UpC K B := by
  simp only [upB, Bool.and_eq_true, decide_eq_true_eq] at h
  obtain ⟨h1, h2, h3⟩ := h
  refine ⟨h1, h2, ?_⟩
  split at h3
  · rename_i n q
    rw [q, eq_of_beq h3]
  · cases h3
def iniB (pr : Pr) (K : PySem.W.Frag) (q : Nat × List Str × Str) : Bool := (match pr.cls[q.1]? with
  | some cl => cl.own && (oexB K (He.ga K cl.name) && ((q.2.1.all fun f => decide (PySem.W.findIn K (.ref (He.ga K cl.name)) f = some none)) && (decide (PySem.W.findIn K (.ref (He.ga K cl.name)) "__init__" = some (some (.ref (He.fAd K (cl.name, some "__init__"))))) && decide (PySem.W.typeIn K (.ref (He.fAd K (cl.name, some "__init__"))) = some (.type "function")))))
  | none => false) && (upB K (He.ga K q.2.2) && (He.Fa.glo q.2.2).ok K)
theorem ini1_of {pr : Pr} {K : PySem.W.Frag} {h : Heap} {mg : Str → Option Value} (X : K.In h) (G : h.Ns mainGlobals mg) {c : Nat} {fs : List Str} {b : Str} {cl : Cl} (hb : iniB pr K (c, fs, b) = true) (hcl : pr.cls[c]? = some cl)
    {x qual : Str} {params : Arguments} {body : List Stmt} {scope : Scope} {fd : FuncData} (F : FunD K x qual params body scope [] [] (He.fAd K (cl.name, some "__init__")) fd) (S : FnScope ("self" :: fs) ("self" :: fs) scope) (hn : (("self" : Str) :: fs).all (nameOk scope) = true) (hi : iniCk b fs body = true)
    (hg : scope.names.lookup b = some .globalImplicit) (hd : (b == ("__debug__" : Str)) = false) (bd : Binds K fd ("self" :: fs) []) : Ini1 ⟨K, pr.cv K⟩ mg c fs := by
  simp only [iniB, hcl, Bool.and_eq_true, decide_eq_true_eq, List.all_eq_true] at hb
  obtain ⟨⟨h1, h2, h3, h4, h5⟩, h6, h7⟩ := hb
  exact ⟨He.ga K cl.name, He.fAd K (cl.name, some "__init__"), fd, by simp [Pr.cv, hcl, Cl.v, h1], oexB_ok h2, h3, h4, h5, fun P w base CX => ini_ok F S hn hi hg hd (upB_ok h6) (He.glo_ok X G h7), bd⟩
theorem iniOk_of {pr : Pr} {g : Sg} {mg : Str → Option Value} (h : ∀ q ∈ pr.inis, Ini1 g mg q.1 q.2) : IniOk g mg pr := fun c fs q => h _ (lookup_mem q)
/-! own classes with instances -/
def clsIB (K : PySem.W.Frag) (C : Addr) (fs : List Str) : Bool := PySem.W.plainGet K C Str.empty && (PySem.W.hasDictIn K C && (PySem.W.plainOver K C && (decide (PySem.W.findIn K (.ref C) "__setattr__" = some (some (.builtin "object.__setattr__"))) && fs.all fun f => decide (PySem.W.findIn K (.ref C) f = some none))))
theorem clsIB_ok {K : PySem.W.Frag} {C : Addr} {fs : List Str} (h : clsIB K C fs = true) : Cls K C ∧ ∀ f ∈ fs, NoAttr K C f := by
  simp only [clsIB, Bool.and_eq_true, decide_eq_true_eq, List.all_eq_true] at h
  obtain ⟨h1, h2, h3, h4, h5⟩ := h
  exact ⟨⟨h1, h2, h3, h4⟩, h5⟩
def Pr.icB (pr : Pr) (K : PySem.W.Frag) : Bool := (pr.icl.all fun q => (pr.cls[q.1]?).isNone && (decide (pr.icl.lookup q.1 = some q.2) && ((He.Fa.glo q.2).ok K && (PySem.W.keepIn K (.ref (He.ga K q.2)) && PySem.W.makesIn K (He.ga K q.2))))) &&
  (pr.atts.all fun q => (pr.cls[q.1]?).isNone && (match pr.icl.lookup q.1 with
    | some x => clsIB K (He.ga K x) q.2
    | none => false))
theorem cv_icl {pr : Pr} {K : PySem.W.Frag} {c : Nat} {x : Str} (h : (pr.cls[c]?).isNone = true) (q : pr.icl.lookup c = some x) : pr.cv K c = .ref (He.ga K x) := by
  have e : pr.cls[c]? = none := by simpa using h
  unfold Pr.cv
  rw [e]
  simp only [q]
theorem insOk_of {pr : Pr} {K : PySem.W.Frag} (b : pr.icB K = true) : InsOk ⟨K, pr.cv K⟩ pr := fun c fs q => by
  simp only [Pr.icB, Bool.and_eq_true] at b
  have z := List.all_eq_true.mp b.2 _ (lookup_mem q)
  simp only [Bool.and_eq_true] at z
  obtain ⟨z1, z2⟩ := z
  cases q2 : pr.icl.lookup c with
  | none => rw [q2] at z2; cases z2
  | some x =>
    rw [q2] at z2
    obtain ⟨h1, h2⟩ := clsIB_ok z2
    exact ⟨_, cv_icl z1 q2, h1, h2⟩
theorem iclOk_of {pr : Pr} {K : PySem.W.Frag} {h : Heap} {mg : Str → Option Value} (X : K.In h) (G : h.Ns mainGlobals mg) (b : pr.icB K = true) : IclOk ⟨K, pr.cv K⟩ mg pr := fun c x q => by
  simp only [Pr.icB, Bool.and_eq_true] at b
  have z := List.all_eq_true.mp b.1 _ (lookup_mem q)
  simp only [Bool.and_eq_true] at z
  obtain ⟨z1, _, z3, z4, z5⟩ := z
  exact ⟨_, cv_icl z1 q, He.glo_ok X G z3, z5, z4⟩
def methB (pr : Pr) (K : PySem.W.Frag) (q : Nat × Str × Str) : Bool := (pr.cls[q.1]?).isNone && (decide (pr.icl.lookup q.1 = some q.2.1) && (clsIB K (He.ga K q.2.1) [] && (decide (PySem.W.findIn K (.ref (He.ga K q.2.1)) q.2.2 = some (some (.ref (He.fAd K (q.2.1, some q.2.2))))) && (PySem.W.isFn K (.ref (He.fAd K (q.2.1, some q.2.2))) && PySem.W.keepIn K (.ref (He.fAd K (q.2.1, some q.2.2)))))))
theorem meth_of {pr : Pr} {K : PySem.W.Frag} {c : Nat} {x m : Str} (b : methB pr K (c, x, m) = true) : ∃ C, pr.cv K c = .ref C ∧ Cls K C ∧ Meth K C m (He.fAd K (x, some m)) := by
  simp only [methB, Bool.and_eq_true, decide_eq_true_eq] at b
  obtain ⟨b1, b2, b3, b4, b5, b6⟩ := b
  exact ⟨_, cv_icl b1 b2, (clsIB_ok b3).1, b4, b5, b6⟩
/-! defs as values, dicts of the written part -/
def Pr.fnB (pr : Pr) (K : PySem.W.Frag) : Bool := (pr.fns.all fun q => decide (pr.fns.lookup q.1 = some q.2) && (decide (pr.cv K (100000 + q.1) = .ref (He.ga K q.2)) && (He.Fa.glo q.2).ok K)) && (decide (pr.cls.length ≤ 100000) && pr.icl.all fun q => decide (q.1 < 100000))
theorem fnv_of {pr : Pr} {K : PySem.W.Frag} {h : Heap} {mg : Str → Option Value} (X : K.In h) (G : h.Ns mainGlobals mg) (b : pr.fnB K = true) : ∀ (i : Nat) x, pr.fns.lookup i = some x → ∃ f, pr.cv K (100000 + i) = .ref f ∧ mg x = some (.ref f) := fun i x q => by
  simp only [Pr.fnB, Bool.and_eq_true] at b
  have z := List.all_eq_true.mp b.1 _ (lookup_mem q)
  simp only [Bool.and_eq_true, decide_eq_true_eq] at z
  exact ⟨_, z.2.1, He.glo_ok X G z.2.2⟩
theorem lit_of {pr : Pr} {K : PySem.W.Frag} {w : World} {kdL : List (Str × List Str)} (b : pr.fnB K = true) (hk : pr.kds.all (fun q => kdL.any fun t => decide (t.1 = q.2)) = true) (c : kdL.map (fun t => He.dicW K (He.ga K t.1)) = kdL.map (fun t => some (He.keysIn w.params t.2))) :
    ∀ (i : Nat) (a : Addr) (es : Array DictEntry) (n : Nat), pr.cv K (200000 + i) = .ref a → K.lookup a = some ⟨.type "dict", none, .dict es n, #[]⟩ → PySem.W.KeysLit w.params es.toList := fun i a es n e hl => by
  simp only [Pr.fnB, Bool.and_eq_true, decide_eq_true_eq] at b
  obtain ⟨_, b2, b3⟩ := b
  have e1 : pr.cls[200000 + i]? = none := List.getElem?_eq_none (by omega)
  have e2 : pr.icl.lookup (200000 + i) = none := by
    cases q : pr.icl.lookup (200000 + i) with
    | none => rfl
    | some x =>
      have z := List.all_eq_true.mp b3 _ (lookup_mem q)
      simp only [decide_eq_true_eq] at z
      omega
  unfold Pr.cv at e
  simp only [e1, e2] at e
  rw [if_pos (by omega), Nat.add_sub_cancel_left] at e
  cases q : pr.kds.lookup i with
  | none => rw [q] at e; cases e
  | some x =>
    rw [q] at e
    cases e
    have z := List.all_eq_true.mp hk _ (lookup_mem q)
    obtain ⟨t, ht, he⟩ := List.any_eq_true.mp z
    have he : t.1 = x := of_decide_eq_true he
    subst he
    have c2 : He.dicW K (He.ga K t.1) = some (He.keysIn w.params t.2) := by
      obtain ⟨j, hj, ej⟩ := List.getElem_of_mem ht
      have := congrArg (fun l => l[j]?) c
      simp only [List.getElem?_map, List.getElem?_eq_getElem hj, ej, Option.map_some] at this
      exact Option.some.inj this
    obtain ⟨es', n', D⟩ := He.dicW_ok c2
    have := D.at_
    rw [hl] at this
    cases this
    exact D.lit
def keysB : List DictEntry → List Str → Bool
  | [], [] => true
  | e :: r, k :: ks => (match e.key with
    | .str x _ => decide (x = k)
    | _ => false) && keysB r ks
  | _, _ => false
theorem keysB_len : ∀ {es : List DictEntry} {ks : List Str}, keysB es ks = true → ks.length = es.length
  | [], [], _ => rfl
  | _ :: _, [], h => by cases h
  | [], _ :: _, h => by cases h
  | e :: r, k :: ks, h => by
    simp only [keysB, Bool.and_eq_true] at h
    simp [keysB_len h.2]
theorem keysB_find {x : Str} : ∀ {es : List DictEntry} {ks : List Str}, keysB es ks = true → (match es.find? (·.key.isStr x) with
      | some e => some (some e.val)
      | none => if es.any (·.refKey) then none else some none) = some ((ks.zip (es.map (·.val))).lookup x)
  | [], [], _ => rfl
  | _ :: _, [], h => by cases h
  | [], _ :: _, h => by cases h
  | e :: r, k :: ks, h => by
    simp only [keysB, Bool.and_eq_true] at h
    obtain ⟨h1, h2⟩ := h
    have ih := keysB_find (x := x) h2
    obtain ⟨eh, ek, ev⟩ := e
    cases ek with
    | str y t =>
      have : y = k := of_decide_eq_true h1
      subst this
      rw [List.map_cons, List.zip_cons_cons, List.lookup_cons, List.find?_cons]
      by_cases q : x = y
      · subst q
        simp [Value.isStr]
      · have q1 : (x == y) = false := by simpa using q
        have q2 : (Value.str y t).isStr x = false := by simp [Value.isStr]; exact fun z => q (by first | exact z | exact z.symm)
        simp only [q1, q2, List.any_cons]
        simpa [DictEntry.refKey] using ih
    | _ => cases h1
theorem zip_lookV {x : Str} : ∀ {ks : List Str} {xs : List V} {us : List Value}, Vals xs us → (∀ v, (ks.zip xs).lookup x = some v → ∃ u, (ks.zip us).lookup x = some u ∧ RelV v u) ∧ ((ks.zip xs).lookup x = none → (ks.zip us).lookup x = none)
  | [], _, _, _ => ⟨fun v h => by simp at h, fun _ => by simp⟩
  | _ :: _, _, _, .nil => ⟨fun v h => by simp at h, fun _ => by simp⟩
  | k :: ks, _, _, .cons r t => by
    obtain ⟨h1, h2⟩ := zip_lookV (x := x) (ks := ks) t
    simp only [List.zip_cons_cons, List.lookup_cons]
    cases q : x == k with
    | true => exact ⟨fun v h => by cases h; exact ⟨_, rfl, r⟩, fun h => by cases h⟩
    | false => exact ⟨h1, h2⟩
/-! constants of the module -/
mutual
def repB (K : PySem.W.Frag) (cv : Nat → Value) : D → Value → Bool
  | .non, v => (match v with
    | .none => true
    | _ => false)
  | .bl b, v => (match v with
    | .bool c => b == c
    | _ => false)
  | .int i, v => (match v with
    | .int j _ => decide (j = i)
    | _ => false)
  | .str x, v => (match v with
    | .str y _ => decide (y = x)
    | _ => false)
  | .tup ds, v => (match v with
    | .ref a => (match K.lookup a with
      | some ⟨.type n, _, .seq its _, _⟩ => n == "tuple" && (decide (its.size ≤ sizeLine) && repsB K cv ds its.toList)
      | _ => false)
    | _ => false)
  | .fn i, v => (match v with
    | .ref a => decide (cv (100000 + i) = .ref a)
    | _ => false)
  | .kdc ks ds, v => (match v with
    | .ref a => (match K.lookup a with
      | some ⟨.type n, none, .dict es _, sl⟩ => n == "dict" && (sl.isEmpty && (!(a == sysModules) && (keysB es.toList ks && (repsB K cv ds (es.toList.map (·.val)) && (List.range 50).any fun i => decide (cv (200000 + i) = .ref a)))))
      | _ => false)
    | _ => false)
  | _, _ => false
def repsB (K : PySem.W.Frag) (cv : Nat → Value) : List D → List Value → Bool
  | [], vs => vs.isEmpty
  | d :: ds, vs => (match vs with
    | v :: r => repB K cv d v && repsB K cv ds r
    | [] => false)
end
mutual
theorem repB_ok {K : PySem.W.Frag} {cv : Nat → Value} : ∀ (d : D) (v : Value), repB K cv d v = true → ∃ x, RelV x v ∧ ∀ W st H, Sim ⟨K, cv⟩ W st H → Rep W x d
  | .non, v, h => by
    unfold repB at h
    split at h
    · exact ⟨.non, rfl, fun _ _ _ _ => .non⟩
    · cases h
  | .bl b, v, h => by
    unfold repB at h
    split at h
    · cases eq_of_beq h; exact ⟨.bl b, rfl, fun _ _ _ _ => .bl b⟩
    · cases h
  | .int i, v, h => by
    unfold repB at h
    split at h
    · cases of_decide_eq_true h; exact ⟨.int i, ⟨_, rfl⟩, fun _ _ _ _ => .int i⟩
    · cases h
  | .str x, v, h => by
    unfold repB at h
    split at h
    · cases of_decide_eq_true h; exact ⟨.str x, ⟨_, rfl⟩, fun _ _ _ _ => .str x⟩
    · cases h
  | .tup ds, v, h => by
    unfold repB at h
    split at h
    · rename_i a
      split at h
      · rename_i n _ its _ _ q
        simp only [Bool.and_eq_true, decide_eq_true_eq, beq_iff_eq] at h
        obtain ⟨rfl, h1, h2⟩ := h
        obtain ⟨xs, r, f⟩ := repsB_ok (cv := cv) ds _ h2
        exact ⟨.ref a, rfl, fun W st H S => .tup (S.kt a xs ⟨_, _, _, q, rfl, rfl, h1, r⟩) (f W st H S)⟩
      · cases h
    · cases h
  | .fn i, v, h => by
    unfold repB at h
    split at h
    · rename_i a
      exact ⟨.ref a, rfl, fun W st H S => .fn (by rw [S.cv]; exact of_decide_eq_true h)⟩
    · cases h
  | .kdc ks ds, v, h => by
    unfold repB at h
    split at h
    · rename_i a
      split at h
      · rename_i n es m sl q
        simp only [Bool.and_eq_true, beq_iff_eq] at h
        obtain ⟨rfl, h1, h2, h3, h4, h5⟩ := h
        obtain ⟨xs, r, f⟩ := repsB_ok (cv := cv) ds _ h4
        have hs : sl = #[] := Array.isEmpty_iff.mp h1
        subst hs
        obtain ⟨i, _, hi⟩ := List.any_eq_true.mp h5
        have hi : cv (200000 + i) = .ref a := of_decide_eq_true hi
        have hl : ks.length = xs.length := by rw [keysB_len h3, r.length, List.length_map]
        refine ⟨.ref a, rfl, fun W st H S => .kdc (vs := xs) ?_ hl (f W st H S)⟩
        rw [S.kd]
        refine ⟨i, es, m, hi, q, by simpa using h2, fun x => ?_⟩
        have hn : PySem.W.nsIn K a x = some ((ks.zip (es.toList.map (·.val))).lookup x) := by
          unfold PySem.W.nsIn
          rw [q]
          exact keysB_find h3
        obtain ⟨z1, z2⟩ := zip_lookV (x := x) (ks := ks) r
        refine ⟨fun v hv => ?_, fun hv => ?_⟩
        · obtain ⟨u, hu, ru⟩ := z1 v hv
          exact ⟨u, hn.trans (congrArg some hu), ru⟩
        · exact hn.trans (congrArg some (z2 hv))
      · cases h
    · cases h
  | .lst _, _, h => by cases h
  | .scr _, _, h => by cases h
  | .ref _, _, h => by cases h
  | .exc _ _ _, _, h => by cases h
  | .dct _ _, _, h => by cases h
theorem repsB_ok {K : PySem.W.Frag} {cv : Nat → Value} : ∀ (ds : List D) (vs : List Value), repsB K cv ds vs = true → ∃ xs, Vals xs vs ∧ ∀ W st H, Sim ⟨K, cv⟩ W st H → Reps W xs ds
  | [], vs, h => by
    cases vs with
    | nil => exact ⟨[], .nil, fun _ _ _ _ => .nil⟩
    | cons v r => cases h
  | d :: ds, vs, h => by
    cases vs with
    | nil => cases h
    | cons v r =>
      simp only [repsB, Bool.and_eq_true] at h
      obtain ⟨x, r1, f1⟩ := repB_ok (cv := cv) d v h.1
      obtain ⟨xs, r2, f2⟩ := repsB_ok (cv := cv) ds r h.2
      exact ⟨x :: xs, .cons r1 r2, fun W st H S => .cons (f1 W st H S) (f2 W st H S)⟩
end
def conB (K : PySem.W.Frag) (cv : Nat → Value) (q : Str × D) : Bool := match PySem.W.nsIn K mainGlobals q.1 with
  | some (some v) => repB K cv q.2 v
  | _ => false
theorem consB_ok {pr : Pr} {K : PySem.W.Frag} {cv : Nat → Value} {h : Heap} {mg : Str → Option Value} (X : K.In h) (G : h.Ns mainGlobals mg) (b : pr.cons.all (conB K cv) = true) : ∀ (i : Nat) x d, pr.cons[i]? = some (x, d) → ∃ v u, mg x = some u ∧ RelV v u ∧ ∀ W st H, Sim ⟨K, cv⟩ W st H → Rep W v d := by
  intro i x d hi
  have z := List.all_eq_true.mp b _ (List.mem_of_getElem? hi)
  unfold conB at z
  split at z
  · rename_i u q
    obtain ⟨v, r, f⟩ := repB_ok (cv := cv) d u z
    exact ⟨v, u, PySem.W.mg_of X G q, r, f⟩
  · cases z
/-- method j of a class -/
def mth (s : Stmt) (j : Nat) : Stmt := match s with
  | .ClassDef (body := b) .. => b.getD j (.Pass ⟨0, 0, 0, 0⟩)
  | _ => .Pass ⟨0, 0, 0, 0⟩
/-- the hook: the facts, the defs, the classes, the written dicts -/
abbrev AlX : Type := Bool × (He.AlD × List (Option (List (Option (Str × Int)))))
def obsX (n : Nat) (fa : List He.Fa) (fn : List He.DefD) (bx : PySem.W.Frag → Bool) (kdL : List (Str × List Str)) (g : Addr → Option Obj) : AlX := (bx (He.frG g (sysModules :: cStatics :: He.asD g n)), (He.obsD fa fn (He.frG g (sysModules :: cStatics :: He.asD g n)), kdL.map fun t => He.dicW (He.frG g (sysModules :: cStatics :: He.asD g n)) (He.ga (He.frG g (sysModules :: cStatics :: He.asD g n)) t.1)))
def hookX (n : Nat) (fa : List He.Fa) (fn : List He.DefD) (bx : PySem.W.Frag → Bool) (kdL : List (Str × List Str)) : PySem.W.Hook where
  α := AlX
  obs := fun s => obsX n fa fn bx kdL s.heap.get?
  val := fun w => (true, (He.valD fn, kdL.map fun t => some (He.keysIn w.params t.2)))
  says := fun w h => ∃ K : PySem.W.Frag, K.In h ∧ He.SaysD fa fn K ∧ bx K = true ∧ kdL.map (fun t => He.dicW K (He.ga K t.1)) = kdL.map (fun t => some (He.keysIn w.params t.2))
  of := fun w h e => by
    have e' : obsX n fa fn bx kdL h.heap.get? = ((true, (He.valD fn, kdL.map fun t => some (He.keysIn w.params t.2))) : AlX) := e
    exact ⟨_, He.frG_in, congrArg (fun z : AlX => z.2.1) e', congrArg (fun z : AlX => z.1) e', congrArg (fun z : AlX => z.2.2) e'⟩
  keeps := fun _ _ _ ⟨K, hK, c⟩ k => ⟨K, PySem.W.Frag.In.keeps hK k, c⟩
theorem obsX_eq {n : Nat} {fa : List He.Fa} {fn : List He.DefD} {bx : PySem.W.Frag → Bool} {kdL : List (Str × List Str)} {g : Addr → Option Obj} {s : Shared} (h : ∀ a, g a = s.heap.get? a) : obsX n fa fn bx kdL g = (hookX n fa fn bx kdL).obs s := by
  rw [show g = s.heap.get? from funext h]; rfl
end LB
end

section
set_option Elab.async false
set_option linter.all false
set_option maxRecDepth 100000
set_option maxHeartbeats 4000000
/-! How written calls bind. -/
namespace LB
open PySem PySem.Spec PyProof.Rows L2
section
variable {K : PySem.W.Frag} {x qual : Str} {params : Arguments} {body : List Stmt} {scope : Scope} {dvs : List V} {kws : List (Str × V)} {f : Addr} {fd : FuncData} {ps ks : List Str} {n : Nat} {src : List Src}
/-- every parameter is given -/
theorem Bnd.plain (F : FunD K x qual params body scope [] kws f fd) (hl : src.length = ps.length)
    (h : ∀ (kV doc pm : Value) (an : Option Addr) (cdv ct : Value) (us ws : List Value), us.length = n → ws.length = ks.length → ∃ l, arr us ws [] src = some l ∧ bindArgs (PySem.W.fnOf x qual params body scope .none kV doc pm an cdv ct) ⟨us, ks.zip ws⟩ = pure (ps.zip l)) :
    Bnd K fd ps n ks src [] := by
  obtain ⟨oc, od, dV, kV, doc, pm, an, cdv, ct, osl, rfl, _, _, hd, _⟩ := F.ex
  have hdv : dV = .none := by
    rcases hd with ⟨_, e⟩ | ⟨e, _⟩
    · exact e
    · exact absurd rfl e
  subst hdv
  refine ⟨⟨[], .nil, fun s us ws l _ l1 l2 ha => ?_⟩, hl⟩
  obtain ⟨l', h1, h2⟩ := h kV doc pm an cdv ct us ws l1 l2
  rw [ha] at h1
  cases h1
  exact .of_eq h2
/-- some of the keyword-only ones lack: ms -/
theorem Bnd.dfl (F : FunD K x qual params body scope [] kws f fd) (ms : List (Str × V)) (hk : kws ≠ []) (hms : ∀ q ∈ ms, q ∈ kws) (hl : src.length = ps.length)
    (h : ∀ (D : Addr) (doc pm : Value) (an : Option Addr) (cdv ct : Value) (us mv ws : List Value), us.length = n → mv.length = ms.length → ws.length = ks.length →
      ∃ l, arr us ws mv src = some l ∧ KwChain D ((ms.map (·.1)).zip mv) (bindArgs (PySem.W.fnOf x qual params body scope .none (.ref D) doc pm an cdv ct) ⟨us, ks.zip ws⟩) (ps.zip l)) :
    Bnd K fd ps n ks src (ms.map (·.2)) := by
  obtain ⟨oc, od, dV, kV, doc, pm, an, cdv, ct, osl, rfl, _, _, hd, hkw⟩ := F.ex
  have hdv : dV = .none := by
    rcases hd with ⟨_, e⟩ | ⟨e, _⟩
    · exact e
    · exact absurd rfl e
  subst hdv
  rcases hkw with e | ⟨D, rfl, hq⟩
  · exact absurd e hk
  · obtain ⟨us0, l0, v0, n0⟩ := kwd_vals (K := K) (D := D) (ms := ms) fun q z => hq q (hms q z)
    refine ⟨⟨us0, v0, fun s us ws l inK l1 l2 ha => ?_⟩, hl⟩
    obtain ⟨l', h1, h2⟩ := h D doc pm an cdv ct us us0 ws l1 l0 l2
    rw [ha] at h1
    cases h1
    exact BindsTo.of_looks fun M => KwChain.looks inK n0 h2
end
end LB
end

section
set_option Elab.async false
set_option linter.all false
set_option maxRecDepth 100000
/-! The interpreter's equations, for simp (printed by mksimp.py). -/
namespace LB
open PySem PySem.Spec PyProof.Rows L2
@[simp] theorem sx_Ex_ev_1 : type_of% (@LB.Ex.ev.eq_1) := @LB.Ex.ev.eq_1
@[simp] theorem sx_Ex_ev_2 : type_of% (@LB.Ex.ev.eq_2) := @LB.Ex.ev.eq_2
@[simp] theorem sx_Ex_ev_3 : type_of% (@LB.Ex.ev.eq_3) := @LB.Ex.ev.eq_3
@[simp] theorem sx_Ex_ev_4 : type_of% (@LB.Ex.ev.eq_4) := @LB.Ex.ev.eq_4
@[simp] theorem sx_Ex_ev_5 : type_of% (@LB.Ex.ev.eq_5) := @LB.Ex.ev.eq_5
@[simp] theorem sx_Ex_ev_6 : type_of% (@LB.Ex.ev.eq_6) := @LB.Ex.ev.eq_6
@[simp] theorem sx_Ex_ev_7 : type_of% (@LB.Ex.ev.eq_7) := @LB.Ex.ev.eq_7
@[simp] theorem sx_Ex_ev_8 : type_of% (@LB.Ex.ev.eq_8) := @LB.Ex.ev.eq_8
@[simp] theorem sx_Ex_ev_9 : type_of% (@LB.Ex.ev.eq_9) := @LB.Ex.ev.eq_9
@[simp] theorem sx_Ex_ev_10 : type_of% (@LB.Ex.ev.eq_10) := @LB.Ex.ev.eq_10
@[simp] theorem sx_Ex_ev_11 : type_of% (@LB.Ex.ev.eq_11) := @LB.Ex.ev.eq_11
@[simp] theorem sx_Ex_ev_12 : type_of% (@LB.Ex.ev.eq_12) := @LB.Ex.ev.eq_12
@[simp] theorem sx_Ex_ev_13 : type_of% (@LB.Ex.ev.eq_13) := @LB.Ex.ev.eq_13
@[simp] theorem sx_Ex_ev_14 : type_of% (@LB.Ex.ev.eq_14) := @LB.Ex.ev.eq_14
@[simp] theorem sx_Ex_ev_15 : type_of% (@LB.Ex.ev.eq_15) := @LB.Ex.ev.eq_15
@[simp] theorem sx_Ex_ev_16 : type_of% (@LB.Ex.ev.eq_16) := @LB.Ex.ev.eq_16
@[simp] theorem sx_Ex_ev_17 : type_of% (@LB.Ex.ev.eq_17) := @LB.Ex.ev.eq_17
@[simp] theorem sx_Ex_ev_18 : type_of% (@LB.Ex.ev.eq_18) := @LB.Ex.ev.eq_18
@[simp] theorem sx_Ex_ev_19 : type_of% (@LB.Ex.ev.eq_19) := @LB.Ex.ev.eq_19
@[simp] theorem sx_Ex_ev_20 : type_of% (@LB.Ex.ev.eq_20) := @LB.Ex.ev.eq_20
@[simp] theorem sx_Ex_ev_21 : type_of% (@LB.Ex.ev.eq_21) := @LB.Ex.ev.eq_21
@[simp] theorem sx_Ex_ev_22 : type_of% (@LB.Ex.ev.eq_22) := @LB.Ex.ev.eq_22
@[simp] theorem sx_Ex_ev_23 : type_of% (@LB.Ex.ev.eq_23) := @LB.Ex.ev.eq_23
@[simp] theorem sx_Ex_ev_24 : type_of% (@LB.Ex.ev.eq_24) := @LB.Ex.ev.eq_24
@[simp] theorem sx_Ex_ev_25 : type_of% (@LB.Ex.ev.eq_25) := @LB.Ex.ev.eq_25
@[simp] theorem sx_Ex_ev_26 : type_of% (@LB.Ex.ev.eq_26) := @LB.Ex.ev.eq_26
@[simp] theorem sx_Ex_ev_27 : type_of% (@LB.Ex.ev.eq_27) := @LB.Ex.ev.eq_27
@[simp] theorem sx_Ex_ev_28 : type_of% (@LB.Ex.ev.eq_28) := @LB.Ex.ev.eq_28
@[simp] theorem sx_Ex_ev_29 : type_of% (@LB.Ex.ev.eq_29) := @LB.Ex.ev.eq_29
@[simp] theorem sx_Ex_ev_30 : type_of% (@LB.Ex.ev.eq_30) := @LB.Ex.ev.eq_30
@[simp] theorem sx_Ex_ev_31 : type_of% (@LB.Ex.ev.eq_31) := @LB.Ex.ev.eq_31
@[simp] theorem sx_Ex_ev_32 : type_of% (@LB.Ex.ev.eq_32) := @LB.Ex.ev.eq_32
@[simp] theorem sx_Ex_ev_33 : type_of% (@LB.Ex.ev.eq_33) := @LB.Ex.ev.eq_33
@[simp] theorem sx_Ex_ev_34 : type_of% (@LB.Ex.ev.eq_34) := @LB.Ex.ev.eq_34
@[simp] theorem sx_Ex_ev_35 : type_of% (@LB.Ex.ev.eq_35) := @LB.Ex.ev.eq_35
@[simp] theorem sx_Ex_ev_36 : type_of% (@LB.Ex.ev.eq_36) := @LB.Ex.ev.eq_36
@[simp] theorem sx_Ex_ev_37 : type_of% (@LB.Ex.ev.eq_37) := @LB.Ex.ev.eq_37
@[simp] theorem sx_Ex_ev_38 : type_of% (@LB.Ex.ev.eq_38) := @LB.Ex.ev.eq_38
@[simp] theorem sx_Ex_ev_39 : type_of% (@LB.Ex.ev.eq_39) := @LB.Ex.ev.eq_39
@[simp] theorem sx_Ex_ev_40 : type_of% (@LB.Ex.ev.eq_40) := @LB.Ex.ev.eq_40
@[simp] theorem sx_Ex_ev_41 : type_of% (@LB.Ex.ev.eq_41) := @LB.Ex.ev.eq_41
@[simp] theorem sx_Exs_ev_1 : type_of% (@LB.Exs.ev.eq_1) := @LB.Exs.ev.eq_1
@[simp] theorem sx_Exs_ev_2 : type_of% (@LB.Exs.ev.eq_2) := @LB.Exs.ev.eq_2
@[simp] theorem sx_Exs_evA_1 : type_of% (@LB.Exs.evA.eq_1) := @LB.Exs.evA.eq_1
@[simp] theorem sx_Exs_evA_2 : type_of% (@LB.Exs.evA.eq_2) := @LB.Exs.evA.eq_2
@[simp] theorem sx_Exs_evO_1 : type_of% (@LB.Exs.evO.eq_1) := @LB.Exs.evO.eq_1
@[simp] theorem sx_Exs_evO_2 : type_of% (@LB.Exs.evO.eq_2) := @LB.Exs.evO.eq_2
@[simp] theorem sx_ExO_ev_1 : type_of% (@LB.ExO.ev.eq_1) := @LB.ExO.ev.eq_1
@[simp] theorem sx_ExO_ev_2 : type_of% (@LB.ExO.ev.eq_2) := @LB.ExO.ev.eq_2
@[simp] theorem sx_Te_ev_1 : type_of% (@LB.Te.ev.eq_1) := @LB.Te.ev.eq_1
@[simp] theorem sx_Te_ev_2 : type_of% (@LB.Te.ev.eq_2) := @LB.Te.ev.eq_2
@[simp] theorem sx_Te_ev_3 : type_of% (@LB.Te.ev.eq_3) := @LB.Te.ev.eq_3
@[simp] theorem sx_Te_ev_4 : type_of% (@LB.Te.ev.eq_4) := @LB.Te.ev.eq_4
@[simp] theorem sx_Te_ev_5 : type_of% (@LB.Te.ev.eq_5) := @LB.Te.ev.eq_5
@[simp] theorem sx_Te_ev_6 : type_of% (@LB.Te.ev.eq_6) := @LB.Te.ev.eq_6
@[simp] theorem sx_Tes_evA_1 : type_of% (@LB.Tes.evA.eq_1) := @LB.Tes.evA.eq_1
@[simp] theorem sx_Tes_evA_2 : type_of% (@LB.Tes.evA.eq_2) := @LB.Tes.evA.eq_2
@[simp] theorem sx_Tes_evO_1 : type_of% (@LB.Tes.evO.eq_1) := @LB.Tes.evO.eq_1
@[simp] theorem sx_Tes_evO_2 : type_of% (@LB.Tes.evO.eq_2) := @LB.Tes.evO.eq_2
@[simp] theorem sx_TeO_ev_1 : type_of% (@LB.TeO.ev.eq_1) := @LB.TeO.ev.eq_1
@[simp] theorem sx_TeO_ev_2 : type_of% (@LB.TeO.ev.eq_2) := @LB.TeO.ev.eq_2
@[simp] theorem sx_It_ev_1 : type_of% (@LB.It.ev.eq_1) := @LB.It.ev.eq_1
@[simp] theorem sx_It_ev_2 : type_of% (@LB.It.ev.eq_2) := @LB.It.ev.eq_2
@[simp] theorem sx_It_ev_3 : type_of% (@LB.It.ev.eq_3) := @LB.It.ev.eq_3
@[simp] theorem sx_It_ev_4 : type_of% (@LB.It.ev.eq_4) := @LB.It.ev.eq_4
@[simp] theorem sx_It_ev_5 : type_of% (@LB.It.ev.eq_5) := @LB.It.ev.eq_5
@[simp] theorem sx_Sm_ev_1 : type_of% (@LB.Sm.ev.eq_1) := @LB.Sm.ev.eq_1
@[simp] theorem sx_Sm_ev_2 : type_of% (@LB.Sm.ev.eq_2) := @LB.Sm.ev.eq_2
@[simp] theorem sx_Sm_ev_3 : type_of% (@LB.Sm.ev.eq_3) := @LB.Sm.ev.eq_3
@[simp] theorem sx_Sm_ev_4 : type_of% (@LB.Sm.ev.eq_4) := @LB.Sm.ev.eq_4
@[simp] theorem sx_Sm_ev_5 : type_of% (@LB.Sm.ev.eq_5) := @LB.Sm.ev.eq_5
@[simp] theorem sx_Sm_ev_6 : type_of% (@LB.Sm.ev.eq_6) := @LB.Sm.ev.eq_6
@[simp] theorem sx_Sm_ev_7 : type_of% (@LB.Sm.ev.eq_7) := @LB.Sm.ev.eq_7
@[simp] theorem sx_Sm_ev_8 : type_of% (@LB.Sm.ev.eq_8) := @LB.Sm.ev.eq_8
@[simp] theorem sx_Sm_ev_9 : type_of% (@LB.Sm.ev.eq_9) := @LB.Sm.ev.eq_9
@[simp] theorem sx_Sm_ev_10 : type_of% (@LB.Sm.ev.eq_10) := @LB.Sm.ev.eq_10
@[simp] theorem sx_Sm_ev_11 : type_of% (@LB.Sm.ev.eq_11) := @LB.Sm.ev.eq_11
@[simp] theorem sx_Sm_ev_12 : type_of% (@LB.Sm.ev.eq_12) := @LB.Sm.ev.eq_12
@[simp] theorem sx_Sm_ev_13 : type_of% (@LB.Sm.ev.eq_13) := @LB.Sm.ev.eq_13
@[simp] theorem sx_Sm_ev_14 : type_of% (@LB.Sm.ev.eq_14) := @LB.Sm.ev.eq_14
@[simp] theorem sx_Sm_ev_15 : type_of% (@LB.Sm.ev.eq_15) := @LB.Sm.ev.eq_15
@[simp] theorem sx_Sm_ev_16 : type_of% (@LB.Sm.ev.eq_16) := @LB.Sm.ev.eq_16
@[simp] theorem sx_Sm_ev_17 : type_of% (@LB.Sm.ev.eq_17) := @LB.Sm.ev.eq_17
@[simp] theorem sx_Sm_ev_18 : type_of% (@LB.Sm.ev.eq_18) := @LB.Sm.ev.eq_18
@[simp] theorem sx_Sm_ev_19 : type_of% (@LB.Sm.ev.eq_19) := @LB.Sm.ev.eq_19
@[simp] theorem sx_Sm_ev_20 : type_of% (@LB.Sm.ev.eq_20) := @LB.Sm.ev.eq_20
@[simp] theorem sx_Sm_ev_21 : type_of% (@LB.Sm.ev.eq_21) := @LB.Sm.ev.eq_21
@[simp] theorem sx_Sm_ev_22 : type_of% (@LB.Sm.ev.eq_22) := @LB.Sm.ev.eq_22
@[simp] theorem sx_Sms_ev_1 : type_of% (@LB.Sms.ev.eq_1) := @LB.Sms.ev.eq_1
@[simp] theorem sx_Sms_ev_2 : type_of% (@LB.Sms.ev.eq_2) := @LB.Sms.ev.eq_2
@[simp] theorem sx_Sms_ev_3 : type_of% (@LB.Sms.ev.eq_3) := @LB.Sms.ev.eq_3
@[simp] theorem sx_Tg_bt_1 : type_of% (@LB.Tg.bt.eq_1) := @LB.Tg.bt.eq_1
@[simp] theorem sx_Tg_bt_2 : type_of% (@LB.Tg.bt.eq_2) := @LB.Tg.bt.eq_2
@[simp] theorem sx_Tgs_bt_1 : type_of% (@LB.Tgs.bt.eq_1) := @LB.Tgs.bt.eq_1
@[simp] theorem sx_Tgs_bt_2 : type_of% (@LB.Tgs.bt.eq_2) := @LB.Tgs.bt.eq_2
@[simp] theorem sx_Tgs_len_1 : type_of% (@LB.Tgs.len.eq_1) := @LB.Tgs.len.eq_1
@[simp] theorem sx_Tgs_len_2 : type_of% (@LB.Tgs.len.eq_2) := @LB.Tgs.len.eq_2
@[simp] theorem sx_varF_1 : type_of% (@LB.varF.eq_1) := @LB.varF.eq_1
@[simp] theorem sx_liftO_1 : type_of% (@LB.liftO.eq_1) := @LB.liftO.eq_1
@[simp] theorem sx_liftO_2 : type_of% (@LB.liftO.eq_2) := @LB.liftO.eq_2
@[simp] theorem sx_liftI_1 : type_of% (@LB.liftI.eq_1) := @LB.liftI.eq_1
@[simp] theorem sx_liftI_2 : type_of% (@LB.liftI.eq_2) := @LB.liftI.eq_2
@[simp] theorem sx_Res_fl_1 : type_of% (@LB.Res.fl.eq_1) := @LB.Res.fl.eq_1
@[simp] theorem sx_Res_fl_2 : type_of% (@LB.Res.fl.eq_2) := @LB.Res.fl.eq_2
@[simp] theorem sx_Res_fl_3 : type_of% (@LB.Res.fl.eq_3) := @LB.Res.fl.eq_3
@[simp] theorem sx_Fl_seq_1 : type_of% (@LB.Fl.seq.eq_1) := @LB.Fl.seq.eq_1
@[simp] theorem sx_Fl_seq_2 : type_of% (@LB.Fl.seq.eq_2) := @LB.Fl.seq.eq_2
@[simp] theorem sx_BO_f_1 : type_of% (@LB.BO.f.eq_1) := @LB.BO.f.eq_1
@[simp] theorem sx_BO_f_2 : type_of% (@LB.BO.f.eq_2) := @LB.BO.f.eq_2
@[simp] theorem sx_BO_f_3 : type_of% (@LB.BO.f.eq_3) := @LB.BO.f.eq_3
@[simp] theorem sx_BO_f_4 : type_of% (@LB.BO.f.eq_4) := @LB.BO.f.eq_4
@[simp] theorem sx_BO_f_5 : type_of% (@LB.BO.f.eq_5) := @LB.BO.f.eq_5
@[simp] theorem sx_BO_f_6 : type_of% (@LB.BO.f.eq_6) := @LB.BO.f.eq_6
@[simp] theorem sx_BO_f_7 : type_of% (@LB.BO.f.eq_7) := @LB.BO.f.eq_7
@[simp] theorem sx_BO_f_8 : type_of% (@LB.BO.f.eq_8) := @LB.BO.f.eq_8
@[simp] theorem sx_BO_f_9 : type_of% (@LB.BO.f.eq_9) := @LB.BO.f.eq_9
@[simp] theorem sx_BO_f_10 : type_of% (@LB.BO.f.eq_10) := @LB.BO.f.eq_10
@[simp] theorem sx_CO_f_1 : type_of% (@LB.CO.f.eq_1) := @LB.CO.f.eq_1
@[simp] theorem sx_CO_f_2 : type_of% (@LB.CO.f.eq_2) := @LB.CO.f.eq_2
@[simp] theorem sx_CO_f_3 : type_of% (@LB.CO.f.eq_3) := @LB.CO.f.eq_3
@[simp] theorem sx_CO_f_4 : type_of% (@LB.CO.f.eq_4) := @LB.CO.f.eq_4
@[simp] theorem sx_CO_f_5 : type_of% (@LB.CO.f.eq_5) := @LB.CO.f.eq_5
@[simp] theorem sx_CO_f_6 : type_of% (@LB.CO.f.eq_6) := @LB.CO.f.eq_6
@[simp] theorem sx_CO_f_7 : type_of% (@LB.CO.f.eq_7) := @LB.CO.f.eq_7
@[simp] theorem sx_CO_f_8 : type_of% (@LB.CO.f.eq_8) := @LB.CO.f.eq_8
@[simp] theorem sx_CO_f_9 : type_of% (@LB.CO.f.eq_9) := @LB.CO.f.eq_9
@[simp] theorem sx_CO_f_10 : type_of% (@LB.CO.f.eq_10) := @LB.CO.f.eq_10
@[simp] theorem sx_cat_1 : type_of% (@LB.cat.eq_1) := @LB.cat.eq_1
@[simp] theorem sx_cat_2 : type_of% (@LB.cat.eq_2) := @LB.cat.eq_2
@[simp] theorem sx_cat_3 : type_of% (@LB.cat.eq_3) := @LB.cat.eq_3
@[simp] theorem sx_cat_4 : type_of% (@LB.cat.eq_4) := @LB.cat.eq_4
@[simp] theorem sx_sub_1 : type_of% (@LB.sub.eq_1) := @LB.sub.eq_1
@[simp] theorem sx_sub_2 : type_of% (@LB.sub.eq_2) := @LB.sub.eq_2
@[simp] theorem sx_mul_1 : type_of% (@LB.mul.eq_1) := @LB.mul.eq_1
@[simp] theorem sx_mul_2 : type_of% (@LB.mul.eq_2) := @LB.mul.eq_2
@[simp] theorem sx_mul_3 : type_of% (@LB.mul.eq_3) := @LB.mul.eq_3
@[simp] theorem sx_mul_4 : type_of% (@LB.mul.eq_4) := @LB.mul.eq_4
@[simp] theorem sx_mul_5 : type_of% (@LB.mul.eq_5) := @LB.mul.eq_5
@[simp] theorem sx_fdiv_1 : type_of% (@LB.fdiv.eq_1) := @LB.fdiv.eq_1
@[simp] theorem sx_fdiv_2 : type_of% (@LB.fdiv.eq_2) := @LB.fdiv.eq_2
@[simp] theorem sx_mod_1 : type_of% (@LB.mod.eq_1) := @LB.mod.eq_1
@[simp] theorem sx_mod_2 : type_of% (@LB.mod.eq_2) := @LB.mod.eq_2
@[simp] theorem sx_shl_1 : type_of% (@LB.shl.eq_1) := @LB.shl.eq_1
@[simp] theorem sx_shl_2 : type_of% (@LB.shl.eq_2) := @LB.shl.eq_2
@[simp] theorem sx_shr_1 : type_of% (@LB.shr.eq_1) := @LB.shr.eq_1
@[simp] theorem sx_shr_2 : type_of% (@LB.shr.eq_2) := @LB.shr.eq_2
@[simp] theorem sx_pow_1 : type_of% (@LB.pow.eq_1) := @LB.pow.eq_1
@[simp] theorem sx_pow_2 : type_of% (@LB.pow.eq_2) := @LB.pow.eq_2
@[simp] theorem sx_mkL_1 : type_of% (@LB.mkL.eq_1) := @LB.mkL.eq_1
@[simp] theorem sx_mkL_2 : type_of% (@LB.mkL.eq_2) := @LB.mkL.eq_2
@[simp] theorem sx_getL_1 : type_of% (@LB.getL.eq_1) := @LB.getL.eq_1
@[simp] theorem sx_getL_2 : type_of% (@LB.getL.eq_2) := @LB.getL.eq_2
@[simp] theorem sx_getL_3 : type_of% (@LB.getL.eq_3) := @LB.getL.eq_3
@[simp] theorem sx_getL_4 : type_of% (@LB.getL.eq_4) := @LB.getL.eq_4
@[simp] theorem sx_getM_1 : type_of% (@LB.getM.eq_1) := @LB.getM.eq_1
@[simp] theorem sx_getM_2 : type_of% (@LB.getM.eq_2) := @LB.getM.eq_2
@[simp] theorem sx_getM_3 : type_of% (@LB.getM.eq_3) := @LB.getM.eq_3
@[simp] theorem sx_getT_1 : type_of% (@LB.getT.eq_1) := @LB.getT.eq_1
@[simp] theorem sx_getT_2 : type_of% (@LB.getT.eq_2) := @LB.getT.eq_2
@[simp] theorem sx_seqOf_1 : type_of% (@LB.seqOf.eq_1) := @LB.seqOf.eq_1
@[simp] theorem sx_f1_1 : type_of% (@LB.f1.eq_1) := @LB.f1.eq_1
@[simp] theorem sx_f1_2 : type_of% (@LB.f1.eq_2) := @LB.f1.eq_2
@[simp] theorem sx_Bl_f_1 : type_of% (@LB.Bl.f.eq_1) := @LB.Bl.f.eq_1
@[simp] theorem sx_Bl_f_2 : type_of% (@LB.Bl.f.eq_2) := @LB.Bl.f.eq_2
@[simp] theorem sx_Bl_f_3 : type_of% (@LB.Bl.f.eq_3) := @LB.Bl.f.eq_3
@[simp] theorem sx_Bl_f_4 : type_of% (@LB.Bl.f.eq_4) := @LB.Bl.f.eq_4
@[simp] theorem sx_Bl_f_5 : type_of% (@LB.Bl.f.eq_5) := @LB.Bl.f.eq_5
@[simp] theorem sx_Bl_f_6 : type_of% (@LB.Bl.f.eq_6) := @LB.Bl.f.eq_6
@[simp] theorem sx_Bl_f_7 : type_of% (@LB.Bl.f.eq_7) := @LB.Bl.f.eq_7
@[simp] theorem sx_Bl_f_8 : type_of% (@LB.Bl.f.eq_8) := @LB.Bl.f.eq_8
@[simp] theorem sx_Bl_f_9 : type_of% (@LB.Bl.f.eq_9) := @LB.Bl.f.eq_9
@[simp] theorem sx_Bl_f_10 : type_of% (@LB.Bl.f.eq_10) := @LB.Bl.f.eq_10
@[simp] theorem sx_Bl_f_11 : type_of% (@LB.Bl.f.eq_11) := @LB.Bl.f.eq_11
@[simp] theorem sx_Bl_f_12 : type_of% (@LB.Bl.f.eq_12) := @LB.Bl.f.eq_12
@[simp] theorem sx_Bl_f_13 : type_of% (@LB.Bl.f.eq_13) := @LB.Bl.f.eq_13
@[simp] theorem sx_Bl_f_14 : type_of% (@LB.Bl.f.eq_14) := @LB.Bl.f.eq_14
@[simp] theorem sx_Bl_f_15 : type_of% (@LB.Bl.f.eq_15) := @LB.Bl.f.eq_15
@[simp] theorem sx_lenD_1 : type_of% (@LB.lenD.eq_1) := @LB.lenD.eq_1
@[simp] theorem sx_lenD_2 : type_of% (@LB.lenD.eq_2) := @LB.lenD.eq_2
@[simp] theorem sx_unT_1 : type_of% (@LB.unT.eq_1) := @LB.unT.eq_1
@[simp] theorem sx_bindsF_1 : type_of% (@LB.bindsF.eq_1) := @LB.bindsF.eq_1
@[simp] theorem sx_bindsF_2 : type_of% (@LB.bindsF.eq_2) := @LB.bindsF.eq_2
@[simp] theorem sx_callF_1 : type_of% (@LB.callF.eq_1) := @LB.callF.eq_1
@[simp] theorem sx_arr_1 : type_of% (@LB.arr.eq_1) := @LB.arr.eq_1
@[simp] theorem sx_arr_2 : type_of% (@LB.arr.eq_2) := @LB.arr.eq_2
@[simp] theorem sx_Src_get_1 : type_of% (@LB.Src.get.eq_1) := @LB.Src.get.eq_1
@[simp] theorem sx_Src_get_2 : type_of% (@LB.Src.get.eq_2) := @LB.Src.get.eq_2
@[simp] theorem sx_Src_get_3 : type_of% (@LB.Src.get.eq_3) := @LB.Src.get.eq_3
@[simp] theorem sx_truF_1 : type_of% (@LB.truF.eq_1) := @LB.truF.eq_1
@[simp] theorem sx_truD_1 : type_of% (@LB.truD.eq_1) := @LB.truD.eq_1
@[simp] theorem sx_truD_2 : type_of% (@LB.truD.eq_2) := @LB.truD.eq_2
@[simp] theorem sx_truD_3 : type_of% (@LB.truD.eq_3) := @LB.truD.eq_3
@[simp] theorem sx_truD_4 : type_of% (@LB.truD.eq_4) := @LB.truD.eq_4
@[simp] theorem sx_truD_5 : type_of% (@LB.truD.eq_5) := @LB.truD.eq_5
@[simp] theorem sx_truD_6 : type_of% (@LB.truD.eq_6) := @LB.truD.eq_6
@[simp] theorem sx_truD_7 : type_of% (@LB.truD.eq_7) := @LB.truD.eq_7
@[simp] theorem sx_truD_8 : type_of% (@LB.truD.eq_8) := @LB.truD.eq_8
@[simp] theorem sx_truD_9 : type_of% (@LB.truD.eq_9) := @LB.truD.eq_9
@[simp] theorem sx_asB_1 : type_of% (@LB.asB.eq_1) := @LB.asB.eq_1
@[simp] theorem sx_boolOf_1 : type_of% (@LB.boolOf.eq_1) := @LB.boolOf.eq_1
@[simp] theorem sx_boolOf_2 : type_of% (@LB.boolOf.eq_2) := @LB.boolOf.eq_2
@[simp] theorem sx_chainF_1 : type_of% (@LB.chainF.eq_1) := @LB.chainF.eq_1
@[simp] theorem sx_partF_1 : type_of% (@LB.partF.eq_1) := @LB.partF.eq_1
@[simp] theorem sx_seqI_1 : type_of% (@LB.seqI.eq_1) := @LB.seqI.eq_1
@[simp] theorem sx_seqI_2 : type_of% (@LB.seqI.eq_2) := @LB.seqI.eq_2
@[simp] theorem sx_seqI_3 : type_of% (@LB.seqI.eq_3) := @LB.seqI.eq_3
@[simp] theorem sx_seqI_4 : type_of% (@LB.seqI.eq_4) := @LB.seqI.eq_4
@[simp] theorem sx_seqI_5 : type_of% (@LB.seqI.eq_5) := @LB.seqI.eq_5
@[simp] theorem sx_seqI_6 : type_of% (@LB.seqI.eq_6) := @LB.seqI.eq_6
@[simp] theorem sx_rng1_1 : type_of% (@LB.rng1.eq_1) := @LB.rng1.eq_1
@[simp] theorem sx_rng1_2 : type_of% (@LB.rng1.eq_2) := @LB.rng1.eq_2
@[simp] theorem sx_rng2_1 : type_of% (@LB.rng2.eq_1) := @LB.rng2.eq_1
@[simp] theorem sx_rng2_2 : type_of% (@LB.rng2.eq_2) := @LB.rng2.eq_2
@[simp] theorem sx_tupF_1 : type_of% (@LB.tupF.eq_1) := @LB.tupF.eq_1
@[simp] theorem sx_lstF_1 : type_of% (@LB.lstF.eq_1) := @LB.lstF.eq_1
@[simp] theorem sx_putIx_1 : type_of% (@LB.putIx.eq_1) := @LB.putIx.eq_1
@[simp] theorem sx_putIx_2 : type_of% (@LB.putIx.eq_2) := @LB.putIx.eq_2
@[simp] theorem sx_defF_1 : type_of% (@LB.defF.eq_1) := @LB.defF.eq_1
@[simp] theorem sx_isiF_1 : type_of% (@LB.isiF.eq_1) := @LB.isiF.eq_1
@[simp] theorem sx_tyD_1 : type_of% (@LB.tyD.eq_1) := @LB.tyD.eq_1
@[simp] theorem sx_tyD_2 : type_of% (@LB.tyD.eq_2) := @LB.tyD.eq_2
@[simp] theorem sx_tyD_3 : type_of% (@LB.tyD.eq_3) := @LB.tyD.eq_3
@[simp] theorem sx_tyD_4 : type_of% (@LB.tyD.eq_4) := @LB.tyD.eq_4
@[simp] theorem sx_tyD_5 : type_of% (@LB.tyD.eq_5) := @LB.tyD.eq_5
@[simp] theorem sx_tyD_6 : type_of% (@LB.tyD.eq_6) := @LB.tyD.eq_6
@[simp] theorem sx_tyD_7 : type_of% (@LB.tyD.eq_7) := @LB.tyD.eq_7
@[simp] theorem sx_tyD_8 : type_of% (@LB.tyD.eq_8) := @LB.tyD.eq_8
@[simp] theorem sx_tyD_9 : type_of% (@LB.tyD.eq_9) := @LB.tyD.eq_9
@[simp] theorem sx_tyD_10 : type_of% (@LB.tyD.eq_10) := @LB.tyD.eq_10
@[simp] theorem sx_tyD_11 : type_of% (@LB.tyD.eq_11) := @LB.tyD.eq_11
@[simp] theorem sx_tyD_12 : type_of% (@LB.tyD.eq_12) := @LB.tyD.eq_12
@[simp] theorem sx_slF_1 : type_of% (@LB.slF.eq_1) := @LB.slF.eq_1
@[simp] theorem sx_slF_2 : type_of% (@LB.slF.eq_2) := @LB.slF.eq_2
@[simp] theorem sx_slF_3 : type_of% (@LB.slF.eq_3) := @LB.slF.eq_3
@[simp] theorem sx_ixF_1 : type_of% (@LB.ixF.eq_1) := @LB.ixF.eq_1
@[simp] theorem sx_ixF_2 : type_of% (@LB.ixF.eq_2) := @LB.ixF.eq_2
@[simp] theorem sx_ixF_3 : type_of% (@LB.ixF.eq_3) := @LB.ixF.eq_3
@[simp] theorem sx_ixF_4 : type_of% (@LB.ixF.eq_4) := @LB.ixF.eq_4
@[simp] theorem sx_ixF_5 : type_of% (@LB.ixF.eq_5) := @LB.ixF.eq_5
@[simp] theorem sx_ixF_6 : type_of% (@LB.ixF.eq_6) := @LB.ixF.eq_6
@[simp] theorem sx_eqF_1 : type_of% (@LB.eqF.eq_1) := @LB.eqF.eq_1
@[simp] theorem sx_eqG_1 : type_of% (@LB.eqG.eq_1) := @LB.eqG.eq_1
@[simp] theorem sx_neF_1 : type_of% (@LB.neF.eq_1) := @LB.neF.eq_1
@[simp] theorem sx_compL_1 : type_of% (@LB.compL.eq_1) := @LB.compL.eq_1
@[simp] theorem sx_compF_1 : type_of% (@LB.compF.eq_1) := @LB.compF.eq_1
@[simp] theorem sx_compF_2 : type_of% (@LB.compF.eq_2) := @LB.compF.eq_2
@[simp] theorem sx_wipeE_1 : type_of% (@LB.wipeE.eq_1) := @LB.wipeE.eq_1
@[simp] theorem sx_wipeE_2 : type_of% (@LB.wipeE.eq_2) := @LB.wipeE.eq_2
@[simp] theorem sx_Res_nox_1 : type_of% (@LB.Res.nox.eq_1) := @LB.Res.nox.eq_1
@[simp] theorem sx_Res_nox_2 : type_of% (@LB.Res.nox.eq_2) := @LB.Res.nox.eq_2
@[simp] theorem sx_revF_1 : type_of% (@LB.revF.eq_1) := @LB.revF.eq_1
@[simp] theorem sx_revF_2 : type_of% (@LB.revF.eq_2) := @LB.revF.eq_2
@[simp] theorem sx_isxF_1 : type_of% (@LB.isxF.eq_1) := @LB.isxF.eq_1
@[simp] theorem sx_isxF_2 : type_of% (@LB.isxF.eq_2) := @LB.isxF.eq_2
@[simp] theorem sx_fldF_1 : type_of% (@LB.fldF.eq_1) := @LB.fldF.eq_1
@[simp] theorem sx_fldF_2 : type_of% (@LB.fldF.eq_2) := @LB.fldF.eq_2
@[simp] theorem sx_joinF_1 : type_of% (@LB.joinF.eq_1) := @LB.joinF.eq_1
@[simp] theorem sx_joinF_2 : type_of% (@LB.joinF.eq_2) := @LB.joinF.eq_2
@[simp] theorem sx_isAny_1 : type_of% (@LB.isAny.eq_1) := @LB.isAny.eq_1
@[simp] theorem sx_isAny_2 : type_of% (@LB.isAny.eq_2) := @LB.isAny.eq_2
@[simp] theorem sx_strsOf_1 : type_of% (@LB.strsOf.eq_1) := @LB.strsOf.eq_1
@[simp] theorem sx_strsOf_2 : type_of% (@LB.strsOf.eq_2) := @LB.strsOf.eq_2
@[simp] theorem sx_strsOf_3 : type_of% (@LB.strsOf.eq_3) := @LB.strsOf.eq_3
@[simp] theorem sx_Fl_wipe_1 : type_of% (@LB.Fl.wipe.eq_1) := @LB.Fl.wipe.eq_1
@[simp] theorem sx_Fl_wipe_2 : type_of% (@LB.Fl.wipe.eq_2) := @LB.Fl.wipe.eq_2
@[simp] theorem sx_Fl_wipe_3 : type_of% (@LB.Fl.wipe.eq_3) := @LB.Fl.wipe.eq_3
@[simp] theorem sx_Fl_wipe_4 : type_of% (@LB.Fl.wipe.eq_4) := @LB.Fl.wipe.eq_4
@[simp] theorem sx_Fl_wipe_5 : type_of% (@LB.Fl.wipe.eq_5) := @LB.Fl.wipe.eq_5
@[simp] theorem sx_lenKF_1 : type_of% (@LB.lenKF.eq_1) := @LB.lenKF.eq_1
@[simp] theorem sx_lenSF_1 : type_of% (@LB.lenSF.eq_1) := @LB.lenSF.eq_1
@[simp] theorem sx_keysOf_1 : type_of% (@LB.keysOf.eq_1) := @LB.keysOf.eq_1
@[simp] theorem sx_keysOf_2 : type_of% (@LB.keysOf.eq_2) := @LB.keysOf.eq_2
@[simp] theorem sx_keyD_1 : type_of% (@LB.keyD.eq_1) := @LB.keyD.eq_1
@[simp] theorem sx_keyD_2 : type_of% (@LB.keyD.eq_2) := @LB.keyD.eq_2
@[simp] theorem sx_keyD_3 : type_of% (@LB.keyD.eq_3) := @LB.keyD.eq_3
@[simp] theorem sx_compK_1 : type_of% (@LB.compK.eq_1) := @LB.compK.eq_1
@[simp] theorem sx_keyF_1 : type_of% (@LB.keyF.eq_1) := @LB.keyF.eq_1
@[simp] theorem sx_Mt_recv_1 : type_of% (@LB.Mt.recv.eq_1) := @LB.Mt.recv.eq_1
@[simp] theorem sx_Mt_recv_2 : type_of% (@LB.Mt.recv.eq_2) := @LB.Mt.recv.eq_2
@[simp] theorem sx_Mt_recv_3 : type_of% (@LB.Mt.recv.eq_3) := @LB.Mt.recv.eq_3
@[simp] theorem sx_Mt_recv_4 : type_of% (@LB.Mt.recv.eq_4) := @LB.Mt.recv.eq_4
@[simp] theorem sx_Mt_recv_5 : type_of% (@LB.Mt.recv.eq_5) := @LB.Mt.recv.eq_5
@[simp] theorem sx_Mt_recv_6 : type_of% (@LB.Mt.recv.eq_6) := @LB.Mt.recv.eq_6
@[simp] theorem sx_Mt_recv_7 : type_of% (@LB.Mt.recv.eq_7) := @LB.Mt.recv.eq_7
@[simp] theorem sx_Mt_recv_8 : type_of% (@LB.Mt.recv.eq_8) := @LB.Mt.recv.eq_8
@[simp] theorem sx_Mt_f_1 : type_of% (@LB.Mt.f.eq_1) := @LB.Mt.f.eq_1
@[simp] theorem sx_Mt_f_2 : type_of% (@LB.Mt.f.eq_2) := @LB.Mt.f.eq_2
@[simp] theorem sx_Mt_f_3 : type_of% (@LB.Mt.f.eq_3) := @LB.Mt.f.eq_3
@[simp] theorem sx_Mt_f_4 : type_of% (@LB.Mt.f.eq_4) := @LB.Mt.f.eq_4
@[simp] theorem sx_Mt_f_5 : type_of% (@LB.Mt.f.eq_5) := @LB.Mt.f.eq_5
@[simp] theorem sx_Mt_f_6 : type_of% (@LB.Mt.f.eq_6) := @LB.Mt.f.eq_6
@[simp] theorem sx_Mt_f_7 : type_of% (@LB.Mt.f.eq_7) := @LB.Mt.f.eq_7
@[simp] theorem sx_Mt_f_8 : type_of% (@LB.Mt.f.eq_8) := @LB.Mt.f.eq_8
@[simp] theorem sx_Mt_f_9 : type_of% (@LB.Mt.f.eq_9) := @LB.Mt.f.eq_9
@[simp] theorem sx_Mt_f_10 : type_of% (@LB.Mt.f.eq_10) := @LB.Mt.f.eq_10
@[simp] theorem sx_Mt_f_11 : type_of% (@LB.Mt.f.eq_11) := @LB.Mt.f.eq_11
@[simp] theorem sx_Mt_f_12 : type_of% (@LB.Mt.f.eq_12) := @LB.Mt.f.eq_12
@[simp] theorem sx_Mt_f_13 : type_of% (@LB.Mt.f.eq_13) := @LB.Mt.f.eq_13
@[simp] theorem sx_Mt_f_14 : type_of% (@LB.Mt.f.eq_14) := @LB.Mt.f.eq_14
@[simp] theorem sx_Mt_f_15 : type_of% (@LB.Mt.f.eq_15) := @LB.Mt.f.eq_15
@[simp] theorem sx_enI_1 : type_of% (@LB.enI.eq_1) := @LB.enI.eq_1
@[simp] theorem sx_enI_2 : type_of% (@LB.enI.eq_2) := @LB.enI.eq_2
@[simp] theorem sx_enI_3 : type_of% (@LB.enI.eq_3) := @LB.enI.eq_3
@[simp] theorem sx_enI_4 : type_of% (@LB.enI.eq_4) := @LB.enI.eq_4
@[simp] theorem sx_enI_5 : type_of% (@LB.enI.eq_5) := @LB.enI.eq_5
@[simp] theorem sx_mkR_1 : type_of% (@LB.mkR.eq_1) := @LB.mkR.eq_1
@[simp] theorem sx_dnewF0_1 : type_of% (@LB.dnewF0.eq_1) := @LB.dnewF0.eq_1
@[simp] theorem sx_dnewF0_2 : type_of% (@LB.dnewF0.eq_2) := @LB.dnewF0.eq_2
@[simp] theorem sx_putN_1 : type_of% (@LB.putN.eq_1) := @LB.putN.eq_1
@[simp] theorem sx_putN_2 : type_of% (@LB.putN.eq_2) := @LB.putN.eq_2
@[simp] theorem sx_putV_1 : type_of% (@LB.putV.eq_1) := @LB.putV.eq_1
@[simp] theorem sx_putV_2 : type_of% (@LB.putV.eq_2) := @LB.putV.eq_2
@[simp] theorem sx_putV_3 : type_of% (@LB.putV.eq_3) := @LB.putV.eq_3
@[simp] theorem sx_clsAt_1 : type_of% (@LB.clsAt.eq_1) := @LB.clsAt.eq_1
@[simp] theorem sx_clsAt_2 : type_of% (@LB.clsAt.eq_2) := @LB.clsAt.eq_2
@[simp] theorem sx_kyD_1 : type_of% (@LB.kyD.eq_1) := @LB.kyD.eq_1
@[simp] theorem sx_atD_1 : type_of% (@LB.atD.eq_1) := @LB.atD.eq_1
@[simp] theorem sx_atD_2 : type_of% (@LB.atD.eq_2) := @LB.atD.eq_2
@[simp] theorem sx_dctOf_1 : type_of% (@LB.dctOf.eq_1) := @LB.dctOf.eq_1
@[simp] theorem sx_dctOf_2 : type_of% (@LB.dctOf.eq_2) := @LB.dctOf.eq_2
@[simp] theorem sx_dctOf_3 : type_of% (@LB.dctOf.eq_3) := @LB.dctOf.eq_3
@[simp] theorem sx_hasK_1 : type_of% (@LB.hasK.eq_1) := @LB.hasK.eq_1
@[simp] theorem sx_hasK_2 : type_of% (@LB.hasK.eq_2) := @LB.hasK.eq_2
@[simp] theorem sx_putKs_1 : type_of% (@LB.putKs.eq_1) := @LB.putKs.eq_1
@[simp] theorem sx_putDs_1 : type_of% (@LB.putDs.eq_1) := @LB.putDs.eq_1
@[simp] theorem sx_setDs_1 : type_of% (@LB.setDs.eq_1) := @LB.setDs.eq_1
@[simp] theorem sx_setDs_2 : type_of% (@LB.setDs.eq_2) := @LB.setDs.eq_2
@[simp] theorem sx_dGet_1 : type_of% (@LB.dGet.eq_1) := @LB.dGet.eq_1
@[simp] theorem sx_dGet_2 : type_of% (@LB.dGet.eq_2) := @LB.dGet.eq_2
@[simp] theorem sx_mkDct_1 : type_of% (@LB.mkDct.eq_1) := @LB.mkDct.eq_1
@[simp] theorem sx_mkDct_2 : type_of% (@LB.mkDct.eq_2) := @LB.mkDct.eq_2
@[simp] theorem sx_dispF_1 : type_of% (@LB.dispF.eq_1) := @LB.dispF.eq_1
@[simp] theorem sx_pairK_1 : type_of% (@LB.pairK.eq_1) := @LB.pairK.eq_1
@[simp] theorem sx_pairK_2 : type_of% (@LB.pairK.eq_2) := @LB.pairK.eq_2
@[simp] theorem sx_pairK_3 : type_of% (@LB.pairK.eq_3) := @LB.pairK.eq_3
@[simp] theorem sx_mrgK_1 : type_of% (@LB.mrgK.eq_1) := @LB.mrgK.eq_1
@[simp] theorem sx_mrgK_2 : type_of% (@LB.mrgK.eq_2) := @LB.mrgK.eq_2
@[simp] theorem sx_mrgD_1 : type_of% (@LB.mrgD.eq_1) := @LB.mrgD.eq_1
@[simp] theorem sx_mrgD_2 : type_of% (@LB.mrgD.eq_2) := @LB.mrgD.eq_2
@[simp] theorem sx_keyV_1 : type_of% (@LB.keyV.eq_1) := @LB.keyV.eq_1
@[simp] theorem sx_keyV_2 : type_of% (@LB.keyV.eq_2) := @LB.keyV.eq_2
@[simp] theorem sx_minL_1 : type_of% (@LB.minL.eq_1) := @LB.minL.eq_1
@[simp] theorem sx_minL_2 : type_of% (@LB.minL.eq_2) := @LB.minL.eq_2
@[simp] theorem sx_minL_3 : type_of% (@LB.minL.eq_3) := @LB.minL.eq_3
@[simp] theorem sx_maxL_1 : type_of% (@LB.maxL.eq_1) := @LB.maxL.eq_1
@[simp] theorem sx_maxL_2 : type_of% (@LB.maxL.eq_2) := @LB.maxL.eq_2
@[simp] theorem sx_maxL_3 : type_of% (@LB.maxL.eq_3) := @LB.maxL.eq_3
@[simp] theorem sx_pop0F_1 : type_of% (@LB.pop0F.eq_1) := @LB.pop0F.eq_1
@[simp] theorem sx_pop0F_2 : type_of% (@LB.pop0F.eq_2) := @LB.pop0F.eq_2
@[simp] theorem sx_isLs_1 : type_of% (@LB.isLs.eq_1) := @LB.isLs.eq_1
@[simp] theorem sx_isLs_2 : type_of% (@LB.isLs.eq_2) := @LB.isLs.eq_2
@[simp] theorem sx_notN_1 : type_of% (@LB.notN.eq_1) := @LB.notN.eq_1
@[simp] theorem sx_notN_2 : type_of% (@LB.notN.eq_2) := @LB.notN.eq_2
@[simp] theorem sx_compD_1 : type_of% (@LB.compD.eq_1) := @LB.compD.eq_1
@[simp] theorem sx_compD_2 : type_of% (@LB.compD.eq_2) := @LB.compD.eq_2
@[simp] theorem sx_compDL_1 : type_of% (@LB.compDL.eq_1) := @LB.compDL.eq_1
@[simp] theorem sx_comp2F_1 : type_of% (@LB.comp2F.eq_1) := @LB.comp2F.eq_1
@[simp] theorem sx_comp2F_2 : type_of% (@LB.comp2F.eq_2) := @LB.comp2F.eq_2
@[simp] theorem sx_comp2L_1 : type_of% (@LB.comp2L.eq_1) := @LB.comp2L.eq_1
@[simp] theorem sx_callLF_1 : type_of% (@LB.callLF.eq_1) := @LB.callLF.eq_1
@[simp] theorem sx_kdF_1 : type_of% (@LB.kdF.eq_1) := @LB.kdF.eq_1
@[simp] theorem sx_kdF_2 : type_of% (@LB.kdF.eq_2) := @LB.kdF.eq_2
@[simp] theorem sx_bF_1 : type_of% (@LB.bF.eq_1) := @LB.bF.eq_1
@[simp] theorem sx_ltG_1 : type_of% (@LB.ltG.eq_1) := @LB.ltG.eq_1
@[simp] theorem sx_ltG_2 : type_of% (@LB.ltG.eq_2) := @LB.ltG.eq_2
@[simp] theorem sx_ltG_3 : type_of% (@LB.ltG.eq_3) := @LB.ltG.eq_3
@[simp] theorem sx_ltG_4 : type_of% (@LB.ltG.eq_4) := @LB.ltG.eq_4
@[simp] theorem sx_leG_1 : type_of% (@LB.leG.eq_1) := @LB.leG.eq_1
@[simp] theorem sx_leG_2 : type_of% (@LB.leG.eq_2) := @LB.leG.eq_2
@[simp] theorem sx_leG_3 : type_of% (@LB.leG.eq_3) := @LB.leG.eq_3
@[simp] theorem sx_gtG_1 : type_of% (@LB.gtG.eq_1) := @LB.gtG.eq_1
@[simp] theorem sx_gtG_2 : type_of% (@LB.gtG.eq_2) := @LB.gtG.eq_2
@[simp] theorem sx_gtG_3 : type_of% (@LB.gtG.eq_3) := @LB.gtG.eq_3
@[simp] theorem sx_geG_1 : type_of% (@LB.geG.eq_1) := @LB.geG.eq_1
@[simp] theorem sx_geG_2 : type_of% (@LB.geG.eq_2) := @LB.geG.eq_2
@[simp] theorem sx_geG_3 : type_of% (@LB.geG.eq_3) := @LB.geG.eq_3
@[simp] theorem sx_sortF_1 : type_of% (@LB.sortF.eq_1) := @LB.sortF.eq_1
@[simp] theorem sx_sortSF_1 : type_of% (@LB.sortSF.eq_1) := @LB.sortSF.eq_1
@[simp] theorem sx_sortCL_1 : type_of% (@LB.sortCL.eq_1) := @LB.sortCL.eq_1
@[simp] theorem sx_runC_1 : type_of% (@LB.runC.eq_1) := @LB.runC.eq_1
@[simp] theorem sx_runC_2 : type_of% (@LB.runC.eq_2) := @LB.runC.eq_2
@[simp] theorem sx_nxC_1 : type_of% (@LB.nxC.eq_1) := @LB.nxC.eq_1
@[simp] theorem sx_nxC_2 : type_of% (@LB.nxC.eq_2) := @LB.nxC.eq_2
@[simp] theorem sx_vsOf_1 : type_of% (@LB.vsOf.eq_1) := @LB.vsOf.eq_1
@[simp] theorem sx_vsOf_2 : type_of% (@LB.vsOf.eq_2) := @LB.vsOf.eq_2
@[simp] theorem sx_emS_1 : type_of% (@LB.emS.eq_1) := @LB.emS.eq_1
@[simp] theorem sx_inSet_1 : type_of% (@LB.inSet.eq_1) := @LB.inSet.eq_1
@[simp] theorem sx_kindS_1 : type_of% (@LB.kindS.eq_1) := @LB.kindS.eq_1
@[simp] theorem sx_kindS_2 : type_of% (@LB.kindS.eq_2) := @LB.kindS.eq_2
@[simp] theorem sx_kindS_3 : type_of% (@LB.kindS.eq_3) := @LB.kindS.eq_3
@[simp] theorem sx_keyN_1 : type_of% (@LB.keyN.eq_1) := @LB.keyN.eq_1
@[simp] theorem sx_keyN_2 : type_of% (@LB.keyN.eq_2) := @LB.keyN.eq_2
@[simp] theorem sx_keyN_3 : type_of% (@LB.keyN.eq_3) := @LB.keyN.eq_3
@[simp] theorem sx_keyN_4 : type_of% (@LB.keyN.eq_4) := @LB.keyN.eq_4
@[simp] theorem sx_keyN_5 : type_of% (@LB.keyN.eq_5) := @LB.keyN.eq_5
@[simp] theorem sx_keyNs_1 : type_of% (@LB.keyNs.eq_1) := @LB.keyNs.eq_1
@[simp] theorem sx_keyNs_2 : type_of% (@LB.keyNs.eq_2) := @LB.keyNs.eq_2
@[simp] theorem sx_Cgs_ev_1 : type_of% (@LB.Cgs.ev.eq_1) := @LB.Cgs.ev.eq_1
@[simp] theorem sx_Cgs_ev_2 : type_of% (@LB.Cgs.ev.eq_2) := @LB.Cgs.ev.eq_2
@[simp] theorem sx_pyX_1 : type_of% (@LB.pyX.eq_1) := @LB.pyX.eq_1
@[simp] theorem sx_pyX_2 : type_of% (@LB.pyX.eq_2) := @LB.pyX.eq_2
@[simp] theorem sx_pyX_3 : type_of% (@LB.pyX.eq_3) := @LB.pyX.eq_3
@[simp] theorem sx_pyX_4 : type_of% (@LB.pyX.eq_4) := @LB.pyX.eq_4
@[simp] theorem sx_pyX_5 : type_of% (@LB.pyX.eq_5) := @LB.pyX.eq_5
@[simp] theorem sx_pyX_6 : type_of% (@LB.pyX.eq_6) := @LB.pyX.eq_6
@[simp] theorem sx_pyX_7 : type_of% (@LB.pyX.eq_7) := @LB.pyX.eq_7
@[simp] theorem sx_pyX_8 : type_of% (@LB.pyX.eq_8) := @LB.pyX.eq_8
@[simp] theorem sx_pyXs_1 : type_of% (@LB.pyXs.eq_1) := @LB.pyXs.eq_1
@[simp] theorem sx_pyXs_2 : type_of% (@LB.pyXs.eq_2) := @LB.pyXs.eq_2
@[simp] theorem sx_pyXT_1 : type_of% (@LB.pyXT.eq_1) := @LB.pyXT.eq_1
@[simp] theorem sx_pyXT_2 : type_of% (@LB.pyXT.eq_2) := @LB.pyXT.eq_2
@[simp] theorem sx_kyP_1 : type_of% (@LB.kyP.eq_1) := @LB.kyP.eq_1
@[simp] theorem sx_kyP_2 : type_of% (@LB.kyP.eq_2) := @LB.kyP.eq_2
@[simp] theorem sx_leI (a b : Int) : leI a b = decide (a ≤ b) := leI_eq a b
@[simp] theorem sx_ltB (a b : Int) : ltB a b = decide (a < b) := ltB_eq a b
@[simp] theorem sx_sizeLine : sizeLine = 16777216 := by decide
end LB
end

section
set_option Elab.async false
set_option linter.all false
set_option maxRecDepth 100000
set_option maxHeartbeats 4000000
/-! Plain laws about the small language. -/
namespace LB
open PySem PySem.Spec PyProof.Rows L2
def Sto.Wf (s : Sto) : Prop := ∀ m, s.nx ≤ m → s.ob m = none
theorem Sto.ext' {s t : Sto} (h : s.nx = t.nx) (k : ∀ m, s.ob m = t.ob m) : s = t := by
  cases s; cases t; cases h; congr; funext m; exact k m
theorem cut_wf {s : Sto} (h : s.Wf) : s.cut s.nx = s := Sto.ext' rfl fun m => by
  show (if m < s.nx then s.ob m else none) = s.ob m
  by_cases c : m < s.nx
  · rw [if_pos c]
  · rw [if_neg c, h m (by omega)]
theorem st0_wf : st0.Wf := fun _ _ => rfl
theorem new_wf {s : Sto} {o : Ob} (h : s.Wf) : (s.new o).Wf := fun m hm => by
  have hm' : s.nx + 1 ≤ m := hm
  show (if m = s.nx then some o else s.ob m) = none
  rw [if_neg (by omega)]
  exact h m (by omega)
theorem put_wf {s : Sto} {n : Nat} {o : Ob} (h : s.Wf) (hn : n < s.nx) : (s.put n o).Wf := fun m hm => by
  have hm' : s.nx ≤ m := hm
  show (if m = n then some o else s.ob m) = none
  rw [if_neg (by omega)]
  exact h m hm'
@[simp] theorem put_nx (s : Sto) (n : Nat) (o : Ob) : (s.put n o).nx = s.nx := rfl
@[simp] theorem new_nx (s : Sto) (o : Ob) : (s.new o).nx = s.nx + 1 := rfl
@[simp] theorem new_ob (s : Sto) (o : Ob) : (s.new o).ob s.nx = some o := if_pos rfl
@[simp] theorem put_ob (s : Sto) (n : Nat) (o : Ob) : (s.put n o).ob n = some o := if_pos rfl
@[simp] theorem put_put (s : Sto) (n : Nat) (o o' : Ob) : (s.put n o).put n o' = s.put n o' := Sto.ext' rfl fun m => by
  show (if m = n then some o' else if m = n then some o else s.ob m) = if m = n then some o' else s.ob m
  split <;> rfl

@[simp] theorem seq_nx (en : En) (s : Sto) (k : En → Sto → Fl) : (Fl.nx en s).seq k = k en s := rfl
@[simp] theorem seq_rt (d : D) (s : Sto) (k : En → Sto → Fl) : (Fl.rt d s).seq k = .rt d s := rfl

section
variable {α β : Type} {bt : D → En → Option En} {fb : FS}
theorem forF_fold (it : β → D) (I : α → En → Sto → Prop) (f : α → β → α) : ∀ (bs : List β) (a : α) (en : En) (st : Sto), (∀ a b en st, b ∈ bs → I a en st → ∃ en1 en2 st2, bt (it b) en = some en1 ∧ fb en1 st = .nx en2 st2 ∧ I (f a b) en2 st2) → I a en st →
    ∃ en' st', forF bt fb (bs.map it) en st = .nx en' st' ∧ I (bs.foldl f a) en' st'
  | [], a, en, st, _, h => ⟨en, st, rfl, h⟩
  | b :: bs, a, en, st, step, h => by
    obtain ⟨en1, en2, st2, e1, e2, h2⟩ := step a b en st (List.mem_cons_self ..) h
    obtain ⟨en', st', e3, h3⟩ := forF_fold it I f bs (f a b) en2 st2 (fun a b en st m => step a b en st (List.mem_cons_of_mem _ m)) h2
    exact ⟨en', st', by simp only [List.map_cons, forF, e1, e2]; exact e3, h3⟩
theorem forF_same (I : En → Sto → Prop) : ∀ (ds : List D) (en : En) (st : Sto), (∀ d en st, d ∈ ds → I en st → ∃ en1 en2 st2, bt d en = some en1 ∧ fb en1 st = .nx en2 st2 ∧ I en2 st2) → I en st →
    ∃ en' st', forF bt fb ds en st = .nx en' st' ∧ I en' st'
  | [], en, st, _, h => ⟨en, st, rfl, h⟩
  | d :: ds, en, st, step, h => by
    obtain ⟨en1, en2, st2, e1, e2, h2⟩ := step d en st (List.mem_cons_self ..) h
    obtain ⟨en', st', e3, h3⟩ := forF_same I ds en2 st2 (fun d en st m => step d en st (List.mem_cons_of_mem _ m)) h2
    exact ⟨en', st', by simp only [forF, e1, e2]; exact e3, h3⟩
theorem forF_inv (I : Nat → En → Sto → Prop) : ∀ (ds : List D) (k : Nat) (en : En) (st : Sto), (∀ i en st d, ds[i]? = some d → I (k + i) en st → ∃ en1 en2 st2, bt d en = some en1 ∧ fb en1 st = .nx en2 st2 ∧ I (k + i + 1) en2 st2) → I k en st →
    ∃ en' st', forF bt fb ds en st = .nx en' st' ∧ I (k + ds.length) en' st'
  | [], k, en, st, _, h => ⟨en, st, rfl, h⟩
  | d :: ds, k, en, st, step, h => by
    obtain ⟨en1, en2, st2, e1, e2, h2⟩ := step 0 en st d rfl h
    obtain ⟨en', st', e3, h3⟩ := forF_inv I ds (k + 1) en2 st2 (fun i en st d m h => by
      have := step (i + 1) en st d (by simpa using m) (by rw [show k + (i + 1) = k + 1 + i by omega]; exact h)
      rw [show k + (i + 1) + 1 = k + 1 + i + 1 by omega] at this
      exact this) h2
    exact ⟨en', st', by simp only [forF, e1, e2]; exact e3, by rw [show k + (d :: ds).length = k + 1 + ds.length by simp; omega]; exact h3⟩
theorem compF_map {vs : List Nat} {ct : FB} {fe : FE} {en : En} {st : Sto} (hct : ∀ en s, ct en s = .ok true s) (it g : β → D) : ∀ bs : List β, (∀ b ∈ bs, ∃ en1, bt (it b) (wipeE en vs) = some en1 ∧ fe en1 st = .ok (g b) st) →
    compF vs bt ct fe (bs.map it) en st = .ok (bs.map g) st
  | [], _ => rfl
  | b :: bs, h => by
    obtain ⟨en1, e1, e2⟩ := h b (List.mem_cons_self ..)
    have e3 := compF_map hct it g bs (fun b m => h b (List.mem_cons_of_mem _ m))
    simp only [List.map_cons, compF, e1, hct, e2, Res.nox, Res.bind_ok, e3, if_true]
end
theorem upTo_zero (n : Nat) : upTo 0 (n : Int) = (List.range n).map fun (i : Nat) => D.int i := by
  unfold upTo
  rw [show ((n : Int) - 0).toNat = n by omega]
  exact List.map_congr_left fun i _ => by rw [Int.zero_add]
theorem small62_nat {n : Nat} (h : n < 2 ^ 62) : small62 (n : Int) = true := by
  unfold small62
  rw [leI_eq, ltB_eq, decide_eq_true (by omega), decide_eq_true (by omega)]; rfl
theorem intsOf_map : ∀ ns : List Int, intsOf (ns.map D.int) = some ns
  | [] => rfl
  | n :: ns => by simp only [List.map_cons, intsOf, intsOf_map ns]; rfl
theorem pyDs_ints : ∀ ns : List Int, pyDs (ns.map D.int) = some (ns.map PyData.int)
  | [] => rfl
  | n :: ns => by simp only [List.map_cons, pyDs, pyD, pyDs_ints ns]
theorem eqvAll_ints : ∀ ns ms : List Int, PyData.eqvAll (ns.map .int) (ms.map .int) = decide (ns = ms)
  | [], [] => rfl
  | [], m :: ms => rfl
  | n :: ns, [] => rfl
  | n :: ns, m :: ms => by
    show (PyData.eqv (.int n) (.int m) && PyData.eqvAll (ns.map .int) (ms.map .int)) = _
    rw [eqvAll_ints ns ms]
    show ((n == m) && decide (ns = ms)) = decide (n :: ns = m :: ms)
    by_cases h : n = m
    · subst h
      rw [BEq.refl, Bool.true_and]
      exact decide_eq_decide.mpr ⟨fun e => by rw [e], fun e => (List.cons.inj e).2⟩
    · rw [beq_false_of_ne h, Bool.false_and, decide_eq_false fun e => h (List.cons.inj e).1]
theorem depthAll_ints : ∀ ns : List Int, PyData.depthAll (ns.map .int) = 0
  | [] => rfl
  | n :: ns => by
    show max (PyData.depth (.int n)) (PyData.depthAll (ns.map .int)) = 0
    rw [depthAll_ints ns]; rfl
theorem canLayAll_ints : ∀ ns : List Int, PyData.canLayAll0 (ns.map .int) = true
  | [] => rfl
  | n :: ns => by
    show (PyData.canLay0 (.int n) && PyData.canLayAll0 (ns.map .int)) = true
    rw [canLayAll_ints ns]; rfl
theorem shaped_tupI (ns : List Int) : SeqAt.shaped (.tuple (ns.map .int)) = true := by
  show (PyData.canLayAll0 (ns.map .int) && decide (PyData.depthAll (ns.map .int) + 1 ≤ 64)) = true
  rw [canLayAll_ints, depthAll_ints]; rfl
theorem shaped_lstI (ns : List Int) : SeqAt.shaped (.list (ns.map .int)) = true := by
  show (PyData.canLayAll0 (ns.map .int) && decide (PyData.depthAll (ns.map .int) + 1 ≤ 64)) = true
  rw [canLayAll_ints, depthAll_ints]; rfl
theorem eqD_tupI (ns ms : List Int) (st : Sto) : eqD (.tup (ns.map .int)) (.tup (ms.map .int)) st = some (decide (ns = ms)) := by
  show (match pyT st (.tup (ns.map .int)), pyT st (.tup (ms.map .int)) with
    | some x, some y => if SeqAt.shaped x && SeqAt.shaped y then some (PyData.eqv x y) else none
    | _, _ => none) = _
  have e : ∀ ns : List Int, pyT st (.tup (ns.map .int)) = some (.tuple (ns.map .int)) := fun ns => by
    show (pyDs (ns.map .int)).map PyData.tuple = _
    rw [pyDs_ints]; rfl
  rw [e, e]
  show (if SeqAt.shaped (.tuple (ns.map .int)) && SeqAt.shaped (.tuple (ms.map .int)) then some (PyData.eqvAll (ns.map .int) (ms.map .int)) else none) = _
  rw [shaped_tupI, shaped_tupI, eqvAll_ints]; rfl
theorem weightAll_ints : ∀ ns : List Int, (∀ n ∈ ns, n.natAbs < 2 ^ 36) → PyData.weightAll (ns.map .int) ≤ 37 * ns.length
  | [], _ => Nat.le_refl 0
  | n :: ns, h => by
    have e := weightAll_ints ns fun m hm => h m (List.mem_cons_of_mem _ hm)
    have hn := h n (List.mem_cons_self ..)
    show (if n == 0 then 0 else n.natAbs.log2 + 1) + 1 + PyData.weightAll (ns.map .int) ≤ 37 * (ns.length + 1)
    have : (if n == 0 then 0 else n.natAbs.log2 + 1) ≤ 36 := by
      split
      · omega
      · rename_i c
        have c' : n ≠ 0 := fun e => c (by rw [e]; rfl)
        have := (Nat.log2_lt (n := n.natAbs) (k := 36) (by omega)).mpr hn
        omega
    omega
theorem showableAll_ints : ∀ ns : List Int, (∀ n ∈ ns, n.natAbs < 2 ^ 36) → PyData.showableAll (ns.map .int) = true
  | [], _ => rfl
  | n :: ns, h => by
    show (decide (n.natAbs.log2 < 1920) && PyData.showableAll (ns.map .int)) = true
    rw [showableAll_ints ns fun m hm => h m (List.mem_cons_of_mem _ hm), Bool.and_true, decide_eq_true_eq]
    have hn := h n (List.mem_cons_self ..)
    by_cases c : n.natAbs = 0
    · rw [c]; decide
    · have := (Nat.log2_lt (n := n.natAbs) (k := 36) c).mpr hn
      omega
theorem reprD_tupI {st : Sto} {ns : List Int} (h : ∀ n ∈ ns, n.natAbs < 2 ^ 36) (hl : ns.length ≤ 20000) : reprD st (.tup (ns.map .int)) = some (PyData.shown (.tuple (ns.map .int))) := by
  have e : pyT st (.tup (ns.map .int)) = some (.tuple (ns.map .int)) := by
    show (pyDs (ns.map .int)).map PyData.tuple = _
    rw [pyDs_ints]; rfl
  have hw := weightAll_ints ns h
  have f : (PyData.shown (.tuple (ns.map .int))).length ≤ sizeLine := PyData.shown_fits_of_layable0 (B := 13) (by omega) (by omega) (by
    show (PyData.canLayAll0 (ns.map .int) && decide (PyData.depthAll (ns.map .int) + 1 ≤ 64) && decide (PyData.weightAll (ns.map .int) ≤ 2 ^ 20)) = true
    rw [canLayAll_ints, depthAll_ints, decide_eq_true (show PyData.weightAll (ns.map .int) ≤ 2 ^ 20 by omega)]; rfl)
    (PyData.intsShortAll_ints ns fun n hn => Nat.lt_trans (h n hn) (by decide))
  show (if leaf (.tup (ns.map .int)) then none else match pyT st (.tup (ns.map .int)) with
    | some x => if SeqAt.shaped x && x.showable && decide (x.shown.length ≤ sizeLine) then some x.shown else none
    | none => match pyXT st (.tup (ns.map .int)) with
      | some x => if x.showable && (decide (x.depth ≤ 60) && decide (x.shown.length ≤ sizeLine)) then some x.shown else none
      | none => none) = _
  rw [e]
  show (if SeqAt.shaped (.tuple (ns.map .int)) && PyData.showableAll (ns.map .int) && decide ((PyData.shown (.tuple (ns.map .int))).length ≤ sizeLine) then some (PyData.shown (.tuple (ns.map .int))) else none) = _
  rw [shaped_tupI, showableAll_ints ns h, decide_eq_true f]; rfl
@[simp] theorem kit_int_int : kitB "int" "int" = some true := by decide +kernel
@[simp] theorem kit_int_bool : kitB "int" "bool" = some false := by decide +kernel
@[simp] theorem eqD_int (i j : Int) (st : Sto) : eqD (.int i) (.int j) st = some (decide (i = j)) := rfl
@[simp] theorem eqD_str (i j : Str) (st : Sto) : eqD (.str i) (.str j) st = some (decide (i = j)) := rfl
theorem up1 : upTo 0 1 = [.int 0] := rfl
theorem up2 : upTo 0 2 = [.int 0, .int 1] := rfl
theorem sm1 : small62 1 = true := by decide
theorem sm2 : small62 2 = true := by decide
theorem sm62 {n : Nat} (h : n ≤ 100000) : small62 (n : Int) = true := small62_nat (Nat.lt_of_le_of_lt h (by decide))
theorem mulOk_of {i j : Int} (a b : Nat) (hi : i.natAbs < 2 ^ a) (hj : j.natAbs < 2 ^ b) (h : a + b < 1000000) : mulOk i j = true := by
  have key : ∀ n a : Nat, n < 2 ^ a → n.log2 ≤ a := fun n a h => by
    by_cases c : n = 0
    · rw [c]; exact Nat.zero_le _
    · exact Nat.le_of_lt ((Nat.log2_lt c).mpr h)
  have a1 := key _ _ hi
  have b1 := key _ _ hj
  unfold mulOk
  rw [Bool.or_eq_true, decide_eq_true_eq]
  left
  omega
theorem mulOk_small {i j : Int} (hi : i.natAbs < 2 ^ 64) (hj : j.natAbs < 2 ^ 64) : mulOk i j = true := mulOk_of 64 64 hi hj (by decide)
theorem nx_of {st : Sto} {n : Nat} {o : Ob} (wf : st.Wf) (h : st.ob n = some o) : n < st.nx := by
  rcases Nat.lt_or_ge n st.nx with c | c
  · exact c
  · rw [wf n c] at h; cases h
/-! the drawing of numbers -/
def leftL : Sms := (.cons (.set 2 (.bin .mod true (.bin .mul true (.bin .add true (.bin .mod true (.var 2) (.int 2147483629)) (.int 30011)) (.int 48271)) (.int 2147483629))) (.cons (.set 2 (.bin .add true (.bin .mod true (.bin .mul true (.var 2) (.int 39373)) (.int 2147483647)) (.var 3))) (.cons (.set 1 (.bin .add true (.bin .mul true (.var 1) (.int 2147483629)) (.var 2))) .nil)))
def leftB : Sms := (.cons (.set 1 (.blt .abs (.cons (.var 0) .nil))) (.cons (.ite (.cmp .lt (.var 1) (.bin .pow true (.int 10) (.int 18))) (.cons (.set 2 (.var 0)) (.cons (.for_ (.nm 3) (.rng1 (.int 40)) leftL) .nil)) .nil) (.cons (.ret (.lst false (.cons (.var 1) .nil))) .nil)))
def digitB : Sms := (.cons (.set 2 (.bin .mod true (.ix (.var 0) (.int 0)) (.var 1))) (.cons (.setIx (.var 0) (.int 0) (.bin .fdiv true (.ix (.var 0) (.int 0)) (.var 1))) (.cons (.ret (.var 2)) .nil)))
theorem digit_ok {E : Ev} {st : Sto} {n : Nat} {L w : Int} (wf : st.Wf) (h : st.ob n = some (.lst [.int L])) (hw : 0 < w) (hf : fdivOk w = true) : defF 3 false (digitB.ev E) [.ref n, .int w] st = .ok (.int (L % w)) (st.put n (.lst [.int (L / w)])) := by
  have c : (st.put n (.lst [.int (L / w)])).cut st.nx = st.put n (.lst [.int (L / w)]) := cut_wf (put_wf wf (nx_of wf h))
  simp [digitB, h, hw, hf, atI, ixN, c]
theorem fdivOk_of {w : Int} (hw : 0 < w) (h : w < 2 ^ 64) : fdivOk w = true := by
  unfold fdivOk
  rw [ltB_eq, decide_eq_true hw, Bool.true_and, decide_eq_true_eq]
  have := (Nat.log2_lt (n := w.natAbs) (k := 64) (by omega)).mpr (by omega)
  omega
theorem left_loop {E : Ev} {st : Sto} (c : Int) (hc : c.natAbs < 10 ^ 18) : ∃ L a b, forF (Tg.nm 3).bt (leftL.ev E) (upTo 0 40) [some (.int c), some (.int (if c < 0 then -c else c)), some (.int c), none] st = .nx [some (.int c), some (.int L), a, b] st := by
  have hu : upTo 0 40 = (List.range 40).map fun (i : Nat) => D.int i := upTo_zero 40
  rw [hu]
  obtain ⟨en, st', e, L, sd, b, h1, h2, _⟩ := forF_inv (bt := (Tg.nm 3).bt) (fb := leftL.ev E) (fun i en s => ∃ L sd b, en = [some (.int c), some (.int L), some (.int sd), b] ∧ s = st ∧ L.natAbs < 2 ^ (60 + 32 * i)) ((List.range 40).map fun (i : Nat) => D.int i) 0 [some (.int c), some (.int (if c < 0 then -c else c)), some (.int c), none] st (fun i en s d hd ⟨L, sd, b, h1, h2, h3⟩ => by
    subst h1 h2
    rw [List.getElem?_map] at hd
    have hi : i < 40 := by
      rcases Nat.lt_or_ge i 40 with c | c
      · exact c
      · rw [List.getElem?_eq_none (by simpa using c)] at hd; cases hd
    rw [List.getElem?_range hi] at hd
    cases hd
    rw [Nat.zero_add] at h3 ⊢
    have m1 : mulOk (sd % 2147483629 + 30011) 48271 = true := mulOk_small (by omega) (by decide)
    have m2 : mulOk ((sd % 2147483629 + 30011) * 48271 % 2147483629) 39373 = true := mulOk_small (by omega) (by decide)
    have m3 : mulOk L 2147483629 = true := mulOk_of (60 + 32 * i) 32 h3 (by decide) (by omega)
    refine ⟨_, _, _, rfl, by simp [leftL, m1, m2, m3]; exact ⟨rfl, rfl, rfl⟩, _, _, _, rfl, rfl, ?_⟩
    rw [show 60 + 32 * (i + 1) = (60 + 32 * i) + 32 by omega, Nat.pow_add]
    have hB : 1 ≤ 2 ^ (60 + 32 * i) := Nat.one_le_two_pow
    generalize 2 ^ (60 + 32 * i) = B at h3 hB ⊢
    generalize (sd % 2147483629 + 30011) * 48271 % 2147483629 * 39373 = y
    omega) ⟨_, _, _, rfl, rfl, by
      show (if c < 0 then -c else c).natAbs < 2 ^ 60
      split <;> omega⟩
  subst h1 h2
  exact ⟨L, _, _, e⟩
theorem left_ok {E : Ev} {st : Sto} (c : Int) : ∃ L, defF 4 true (leftB.ev E) [.int c] st = .ok (.ref st.nx) (st.new (.lst [.int L])) := by
  have p : powOk 10 18 = true := by decide
  have s : small62 40 = true := by decide
  by_cases h : (if c < 0 then -c else c) < 10 ^ 18
  · obtain ⟨L, a, b, e⟩ := left_loop (E := E) (st := st) c (by split at h <;> omega)
    simp only [Tg.bt] at e
    exact ⟨L, by simp [leftB, p, s, e]; simp at h; simp [h, e]⟩
  · exact ⟨if c < 0 then -c else c, by simp [leftB, p, s]; simp at h; simp [Int.not_lt.mpr h]⟩
/-! slices -/
def cutL {α : Type} (ds : List α) (lo hi : Option Int) : List α := (ds.drop (HT.sIx ds.length 0 lo)).take (HT.sIx ds.length ds.length hi - HT.sIx ds.length 0 lo)
theorem cutD_map {α : Type} (f : α → D) (ds : List α) (lo hi : Option Int) : cutD (ds.map f) lo hi = (cutL ds lo hi).map f := by
  unfold cutD cutL
  rw [List.length_map, ← List.map_drop, ← List.map_take]
theorem cutL_mem {α : Type} {ds : List α} {lo hi : Option Int} {a : α} (h : a ∈ cutL ds lo hi) : a ∈ ds := List.mem_of_mem_drop (List.mem_of_mem_take h)
theorem cutL_len {α : Type} (ds : List α) (lo hi : Option Int) : (cutL ds lo hi).length ≤ ds.length := by
  unfold cutL
  rw [List.length_take, List.length_drop]
  omega
theorem cutL_to {α : Type} (ds : List α) (k : Nat) : cutL ds none (some (k : Int)) = ds.take k := by
  unfold cutL
  rw [HT.sIx_none, HT.sIx_nat, List.drop_zero, Nat.sub_zero]
  exact (List.take_eq_take_min ..).symm
theorem cutL_from {α : Type} (ds : List α) (k : Nat) : cutL ds (some (k : Int)) none = ds.drop k := by
  unfold cutL
  rw [HT.sIx_none, HT.sIx_nat]
  rcases Nat.le_total k ds.length with h | h
  · rw [Nat.min_eq_left h]
    exact List.take_of_length_le (by rw [List.length_drop]; omega)
  · rw [Nat.min_eq_right h, Nat.sub_self, List.take_zero, List.drop_of_length_le h]
theorem cutL_mid {α : Type} (ds : List α) (k j : Nat) : cutL ds (some (k : Int)) (some (j : Int)) = (ds.drop k).take (j - k) := by
  unfold cutL
  rw [HT.sIx_nat, HT.sIx_nat]
  rcases Nat.le_total k ds.length with h | h
  · rw [Nat.min_eq_left h]
    rcases Nat.le_total j ds.length with h2 | h2
    · rw [Nat.min_eq_left h2]
    · rw [Nat.min_eq_right h2, List.take_of_length_le (by rw [List.length_drop]; omega), List.take_of_length_le (by rw [List.length_drop]; omega)]
  · rw [Nat.min_eq_right h, List.drop_of_length_le (Nat.le_refl _), List.drop_of_length_le h, List.take_nil, List.take_nil]
end LB
end

section
set_option Elab.async false
set_option linter.all false
set_option maxRecDepth 100000
set_option maxHeartbeats 4000000
/-! Plain things: tuples and lists of tuples, lists, numbers, texts; how deep, how heavy. -/
namespace LB
open PySem PySem.Spec PyProof.Rows L2
@[simp] theorem kt1 : kitB "NoneType" "int" = some false := by decide +kernel
@[simp] theorem kt2 : kitB "bool" "int" = some true := by decide +kernel
@[simp] theorem kt3 : kitB "bool" "bool" = some true := by decide +kernel
@[simp] theorem kt4 : kitB "str" "int" = some false := by decide +kernel
@[simp] theorem kt5 : kitB "tuple" "int" = some false := by decide +kernel
@[simp] theorem kt6 : kitB "list" "int" = some false := by decide +kernel
@[simp] theorem kt7 : kitB "dict" "int" = some false := by decide +kernel
@[simp] theorem kt8 : kitB "NoneType" "tuple" = some false := by decide +kernel
@[simp] theorem kt9 : kitB "bool" "tuple" = some false := by decide +kernel
@[simp] theorem kt10 : kitB "int" "tuple" = some false := by decide +kernel
@[simp] theorem kt11 : kitB "str" "tuple" = some false := by decide +kernel
@[simp] theorem kt12 : kitB "tuple" "tuple" = some true := by decide +kernel
@[simp] theorem kt13 : kitB "list" "tuple" = some false := by decide +kernel
@[simp] theorem kt14 : kitB "dict" "tuple" = some false := by decide +kernel
@[simp] theorem kt15 : kitB "NoneType" "str" = some false := by decide +kernel
@[simp] theorem kt16 : kitB "bool" "str" = some false := by decide +kernel
@[simp] theorem kt17 : kitB "int" "str" = some false := by decide +kernel
@[simp] theorem kt18 : kitB "str" "str" = some true := by decide +kernel
@[simp] theorem kt19 : kitB "tuple" "str" = some false := by decide +kernel
@[simp] theorem kt20 : kitB "list" "str" = some false := by decide +kernel
@[simp] theorem kt21 : kitB "dict" "str" = some false := by decide +kernel
mutual
def okP : D → Bool
  | .non => true
  | .bl _ => true
  | .int i => decide (i.natAbs < 2 ^ 36)
  | .str x => decide (x.length ≤ 1000) && PyData.strOk x
  | .tup ds => okPs ds
  | .lst ds => okPs ds
  | _ => false
def okPs : List D → Bool
  | [] => true
  | d :: ds => okP d && okPs ds
end
mutual
def dep : D → Nat
  | .tup ds => deps ds + 1
  | .lst ds => deps ds + 1
  | _ => 0
def deps : List D → Nat
  | [] => 0
  | d :: ds => max (dep d) (deps ds)
end
mutual
def wgt : D → Nat
  | .int i => if i == 0 then 0 else i.natAbs.log2 + 1
  | .str x => x.length
  | .tup ds => wgts ds
  | .lst ds => wgts ds
  | _ => 0
def wgts : List D → Nat
  | [] => 0
  | d :: ds => wgt d + 1 + wgts ds
end
theorem okPs_app : ∀ (xs ys : List D), okPs (xs ++ ys) = (okPs xs && okPs ys)
  | [], ys => by simp [okPs]
  | x :: xs, ys => by simp [okPs, okPs_app xs ys, Bool.and_assoc]
theorem deps_app : ∀ (xs ys : List D), deps (xs ++ ys) = max (deps xs) (deps ys)
  | [], ys => by simp [deps]
  | x :: xs, ys => by simp [deps, deps_app xs ys, Nat.max_assoc]
theorem wgts_app : ∀ (xs ys : List D), wgts (xs ++ ys) = wgts xs + wgts ys
  | [], ys => by simp [wgts]
  | x :: xs, ys => by simp [wgts, wgts_app xs ys]; omega
theorem okPs_mem : ∀ {xs : List D} {d : D}, d ∈ xs → okPs xs = true → okP d = true
  | x :: xs, d, h, e => by
    simp only [okPs, Bool.and_eq_true] at e
    rcases List.mem_cons.mp h with rfl | h
    · exact e.1
    · exact okPs_mem h e.2
theorem deps_mem : ∀ {xs : List D} {d : D}, d ∈ xs → dep d ≤ deps xs
  | x :: xs, d, h => by
    simp only [deps]
    rcases List.mem_cons.mp h with rfl | h
    · omega
    · have := deps_mem h; omega
theorem wgts_mem : ∀ {xs : List D} {d : D}, d ∈ xs → wgt d + 1 ≤ wgts xs
  | x :: xs, d, h => by
    simp only [wgts]
    rcases List.mem_cons.mp h with rfl | h
    · omega
    · have := wgts_mem h; omega
theorem wgts_len : ∀ (xs : List D), xs.length ≤ wgts xs
  | [] => Nat.zero_le _
  | x :: xs => by
    have := wgts_len xs
    simp only [wgts, List.length_cons]
    omega
theorem okPs_all {xs : List D} (h : ∀ d ∈ xs, okP d = true) : okPs xs = true := by
  induction xs with
  | nil => rfl
  | cons x xs ih => simp only [okPs, Bool.and_eq_true]; exact ⟨h x (List.mem_cons_self ..), ih fun d m => h d (List.mem_cons_of_mem _ m)⟩
theorem deps_all {xs : List D} {n : Nat} (h : ∀ d ∈ xs, dep d ≤ n) : deps xs ≤ n := by
  induction xs with
  | nil => exact Nat.zero_le _
  | cons x xs ih =>
    have h1 := h x (List.mem_cons_self ..)
    have h2 := ih fun d m => h d (List.mem_cons_of_mem _ m)
    simp only [deps]; omega
theorem wgts_all {xs : List D} {n : Nat} (h : ∀ d ∈ xs, wgt d + 1 ≤ n) : wgts xs ≤ n * xs.length := by
  induction xs with
  | nil => exact Nat.zero_le _
  | cons x xs ih =>
    have h1 := h x (List.mem_cons_self ..)
    have h2 := ih fun d m => h d (List.mem_cons_of_mem _ m)
    simp only [wgts, List.length_cons, Nat.mul_succ]; omega
/-- plain, not too deep, not too heavy -/
structure Nice (d : D) : Prop where
  ok : okP d = true
  dp : dep d ≤ 20
  wg : wgt d ≤ 100000
mutual
theorem py_of : ∀ (d : D), okP d = true → ∃ x, pyD d = some x ∧ x.canLay0 = true ∧ x.depth = dep d ∧ x.weight = wgt d ∧ x.showable = true ∧ x.intsShort 13 = true
  | .non, _ => ⟨_, rfl, rfl, rfl, rfl, rfl, rfl⟩
  | .bl b, _ => ⟨_, rfl, rfl, rfl, rfl, rfl, rfl⟩
  | .int i, h => by
    have hi : i.natAbs < 2 ^ 36 := of_decide_eq_true h
    have s1 := showableAll_ints [i] (by simpa using hi)
    have s2 := PyData.intsShortAll_ints [i] (by simpa using Nat.lt_trans hi (by decide))
    refine ⟨_, rfl, rfl, rfl, rfl, ?_, ?_⟩
    · have z : (PyData.showable (.int i) && true) = true := s1
      simpa using z
    · have z : (PyData.intsShort 13 (.int i) && true) = true := s2
      simpa using z
  | .str x, h => by
    simp only [okP, Bool.and_eq_true] at h
    exact ⟨_, rfl, h.2, rfl, rfl, rfl, rfl⟩
  | .tup ds, h => by
    obtain ⟨xs, h1, h2, h3, h4, h5, h6⟩ := pys_of ds h
    exact ⟨.tuple xs, by simp only [pyD, h1]; rfl, h2, congrArg (· + 1) h3, h4, h5, h6⟩
  | .lst ds, h => by
    obtain ⟨xs, h1, h2, h3, h4, h5, h6⟩ := pys_of ds h
    exact ⟨.list xs, by simp only [pyD, h1]; rfl, h2, congrArg (· + 1) h3, h4, h5, h6⟩
  | .scr _, h => by cases h
  | .ref _, h => by cases h
  | .exc _ _ _, h => by cases h
  | .dct _ _, h => by cases h
theorem pys_of : ∀ (ds : List D), okPs ds = true → ∃ xs, pyDs ds = some xs ∧ PyData.canLayAll0 xs = true ∧ PyData.depthAll xs = deps ds ∧ PyData.weightAll xs = wgts ds ∧ PyData.showableAll xs = true ∧ PyData.intsShortAll 13 xs = true
  | [], _ => ⟨[], rfl, rfl, rfl, rfl, rfl, rfl⟩
  | d :: ds, h => by
    simp only [okPs, Bool.and_eq_true] at h
    obtain ⟨x, a1, a2, a3, a4, a5, a6⟩ := py_of d h.1
    obtain ⟨xs, b1, b2, b3, b4, b5, b6⟩ := pys_of ds h.2
    refine ⟨x :: xs, by simp only [pyDs, a1, b1], ?_, ?_, ?_, ?_, ?_⟩
    · show (x.canLay0 && PyData.canLayAll0 xs) = true
      rw [a2, b2]; rfl
    · show max x.depth (PyData.depthAll xs) = _
      rw [a3, b3]; rfl
    · show x.weight + 1 + PyData.weightAll xs = _
      rw [a4, b4]; rfl
    · show (x.showable && PyData.showableAll xs) = true
      rw [a5, b5]; rfl
    · show (x.intsShort 13 && PyData.intsShortAll 13 xs) = true
      rw [a6, b6]; rfl
end
theorem okP_pyT {d : D} (h : okP d = true) (st : Sto) : pyT st d = pyD d := by
  cases d <;> first | rfl | cases h
theorem Nice.fits {d : D} (h : Nice d) {x : PyData} (h2 : x.canLay0 = true) (h3 : x.depth = dep d) (h4 : x.weight = wgt d) (h6 : x.intsShort 13 = true) : x.shown.length ≤ sizeLine :=
  PyData.shown_fits_of_layable0 (B := 13) (by omega) (by omega) (by
    show (x.canLay0 && decide (x.depth ≤ 64) && decide (x.weight ≤ 2 ^ 20)) = true
    have := h.dp
    have := h.wg
    rw [h2, h3, h4, decide_eq_true (by omega), decide_eq_true (by omega)]; rfl) h6
theorem Nice.repr {d : D} (h : Nice d) (st : Sto) : ∃ s, reprD st d = some s := by
  obtain ⟨x, h1, h2, h3, h4, h5, h6⟩ := py_of d h.ok
  have f := h.fits h2 h3 h4 h6
  have sh : SeqAt.shaped x = true := by
    show (x.canLay0 && decide (x.depth ≤ 64)) = true
    have := h.dp
    rw [h2, h3, decide_eq_true (by omega)]; rfl
  unfold reprD
  rw [okP_pyT h.ok, h1]
  simp only [sh, h5, f, decide_true, Bool.and_self, if_true]
  split
  · rename_i hl
    cases d with
    | non => exact ⟨_, rfl⟩
    | bl b => exact ⟨_, rfl⟩
    | str z =>
      cases h1
      have f' : (reprText z).length ≤ sizeLine := f
      exact ⟨reprText z, by show (if (reprText z).length ≤ sizeLine then _ else _) = _; rw [if_pos f']⟩
    | _ => cases hl
  · exact ⟨_, rfl⟩
theorem Nice.shaped {d : D} (h : Nice d) : ∃ x, pyD d = some x ∧ SeqAt.shaped x = true := by
  obtain ⟨x, h1, h2, h3, _⟩ := py_of d h.ok
  refine ⟨x, h1, ?_⟩
  show (x.canLay0 && decide (x.depth ≤ 64)) = true
  have := h.dp
  rw [h2, h3, decide_eq_true (by omega)]; rfl
theorem Nice.eqNil {ds : List D} (h : Nice (.tup ds)) (st : Sto) : eqD (.tup ds) (.tup []) st = some ds.isEmpty := by
  obtain ⟨x, h1, h2⟩ := h.shaped
  have e1 : pyT st (.tup ds) = some x := (okP_pyT h.ok st).trans h1
  have e2 : pyT st (.tup []) = some (.tuple []) := rfl
  show (match pyT st (.tup ds), pyT st (.tup []) with
    | some x, some y => if SeqAt.shaped x && SeqAt.shaped y then some (PyData.eqv x y) else none
    | _, _ => none) = _
  rw [e1, e2]
  simp only [h2, show SeqAt.shaped (.tuple []) = true by decide, Bool.and_self, if_true]
  simp only [pyD] at h1
  cases q : pyDs ds with
  | none => rw [q] at h1; cases h1
  | some xs =>
    rw [q] at h1
    cases h1
    cases ds with
    | nil => cases q; rfl
    | cons d ds =>
      simp only [pyDs] at q
      split at q
      · cases q; rfl
      · cases q
theorem Nice.eqSelf {d : D} (h : Nice d) (hr : ∀ x, pyD d = some x → PyData.eqv x x = true) (st : Sto) : eqD d d st = some true := by
  obtain ⟨x, h1, h2⟩ := h.shaped
  have e1 : pyT st d = some x := (okP_pyT h.ok st).trans h1
  unfold eqD
  split
  · simp
  · simp
  · rw [e1]
    simp [h2, hr x h1]
/-- what of a list stands where -/
theorem Nice.mem {ds : List D} {d : D} (h : Nice (.tup ds)) (m : d ∈ ds) : Nice d := by
  have h1 : okPs ds = true := h.ok
  have h2 : deps ds + 1 ≤ 20 := h.dp
  have h3 : wgts ds ≤ 100000 := h.wg
  have := deps_mem m
  have := wgts_mem m
  exact ⟨okPs_mem m h1, by omega, by omega⟩
def plD : D → Bool
  | .ref _ => false
  | .exc _ _ _ => false
  | .fn _ => false
  | .kdc _ _ => false
  | .scr _ => false
  | .dct _ _ => false
  | _ => true
theorem okP_pl {d : D} (h : okP d = true) : plD d = true := by
  cases d <;> first | rfl | cases h
theorem Nice.pl {d : D} (h : Nice d) : plD d = true := okP_pl h.ok
/-! whole numbers, words -/
def whD : D → Bool
  | .int _ => true
  | _ => false
def frD (lo hi : Int) : D → Bool
  | .int i => decide (lo ≤ i) && decide (i ≤ hi)
  | _ => false
def abc : List Nat := ("abcdefghijklmnopqrstuvwxyz" : Str).cps.toList
def isW : D → Bool
  | .str z => decide (1 ≤ z.length) && decide (z.length ≤ 8) && z.cps.toList.all fun c => decide (c ∈ abc)
  | _ => false
theorem in1 (c : Nat) (st : Sto) : inF (.str ⟨#[c]⟩) (.str "abcdefghijklmnopqrstuvwxyz") st = some (.bl (decide (c ∈ abc)), st) := rfl
theorem nin1 (c : Nat) (st : Sto) : ninF (.str ⟨#[c]⟩) (.str "abcdefghijklmnopqrstuvwxyz") st = some (.bl (!decide (c ∈ abc)), st) := rfl
theorem blsOf_map {α : Type} (f : α → Bool) : ∀ l : List α, blsOf (l.map fun a => .bl (f a)) = some (l.map f)
  | [] => rfl
  | a :: l => by simp only [List.map_cons, blsOf, blsOf_map f l]; rfl
theorem compF_filter {β : Type} {bt : D → En → Option En} {vs : List Nat} {ct : FB} {fe : FE} {en : En} {st : Sto} (it : β → D) (p : β → Bool) (g : β → D) : ∀ bs : List β, (∀ b ∈ bs, ∃ en1, bt (it b) (wipeE en vs) = some en1 ∧ ct en1 st = .ok (p b) st ∧ (p b = true → fe en1 st = .ok (g b) st)) →
    compF vs bt ct fe (bs.map it) en st = .ok ((bs.filter p).map g) st
  | [], _ => rfl
  | b :: bs, h => by
    obtain ⟨en1, e1, e2, e4⟩ := h b (List.mem_cons_self ..)
    have e3 := compF_filter it p g bs (fun b m => h b (List.mem_cons_of_mem _ m))
    cases q : p b with
    | true =>
      rw [q] at e2
      simp only [List.map_cons, compF, e1, e2, e4 q, Res.nox, Res.bind_ok, e3, if_true, List.filter, q]
    | false =>
      rw [q] at e2
      simp [List.map_cons, compF, e1, e2, Res.nox, Res.bind_ok, e3, List.filter, q]
/-- one of some words -/
def inS (ws : List Str) : D → Bool
  | .str x => ws.any fun w => w == x
  | _ => false
theorem flat_strs : ∀ ws : List Str, (ws.map D.str).all flatD = true
  | [] => rfl
  | w :: ws => by simp [flatD]
theorem any_strs (x : Str) : ∀ ws : List Str, ((ws.map D.str).any fun z => eqFl z (.str x)) = ws.any fun w => w == x
  | [] => rfl
  | w :: ws => by simp only [List.map_cons, List.any_cons, any_strs x ws]; rfl
theorem inTup (x : Str) (ws : List Str) (st : Sto) : inF (.str x) (.tup (ws.map .str)) st = some (.bl (inS ws (.str x)), st) := by
  show (Option.map _ (if flatD (.str x) && (ws.map D.str).all flatD then some ((ws.map D.str).any fun z => eqFl z (.str x)) else _)) = _
  rw [flat_strs, any_strs]; rfl
theorem inLst (x : Str) (ws : List Str) (st : Sto) : inF (.str x) (.lst (ws.map .str)) st = some (.bl (inS ws (.str x)), st) := by
  show (Option.map _ (if flatD (.str x) && (ws.map D.str).all flatD then some ((ws.map D.str).any fun z => eqFl z (.str x)) else _)) = _
  rw [flat_strs, any_strs]; rfl
/-- a tuple of so many -/
def tupN (lo hi : Int) : D → Bool
  | .tup ds => decide (lo ≤ (ds.length : Int)) && decide ((ds.length : Int) ≤ hi)
  | _ => false
/-- texts as keys -/
theorem keysOf_strs : ∀ ws : List Str, keysOf (ws.map D.str) = some (ws.map Sum.inr)
  | [] => rfl
  | w :: ws => by simp only [List.map_cons, keysOf, keyD, keysOf_strs ws]; rfl
/-- all unlike -/
def unl (ws : List Str) : Bool := decide ((unlike [] (ws.map (Sum.inr : Str → Key))).length = ws.length)
end LB
end

section
set_option Elab.async false
set_option linter.all false
set_option maxRecDepth 100000
set_option maxHeartbeats 4000000
/-! Plain things with dicts: what repr tells of them fits. -/
namespace LB
open PySem PySem.Spec PyProof.Rows L2
def okK : Key → Bool
  | .inl i => decide (i.natAbs < 2 ^ 36)
  | .inr x => decide (x.length ≤ 1000) && PyData.strOk x
def wK : Key → Nat
  | .inl i => if i == 0 then 0 else i.natAbs.log2 + 1
  | .inr x => x.length
def wKs : List Key → Nat
  | [] => 0
  | k :: ks => wK k + 1 + wKs ks
mutual
def okX : D → Bool
  | .non => true
  | .bl _ => true
  | .int i => decide (i.natAbs < 2 ^ 36)
  | .str x => decide (x.length ≤ 1000) && PyData.strOk x
  | .tup ds => okXs ds
  | .lst ds => okXs ds
  | .dct ks ds => ks.all okK && okXs ds
  | _ => false
def okXs : List D → Bool
  | [] => true
  | d :: ds => okX d && okXs ds
end
mutual
def depX : D → Nat
  | .tup ds => depXs ds + 1
  | .lst ds => depXs ds + 1
  | .dct _ ds => depXs ds + 1
  | _ => 0
def depXs : List D → Nat
  | [] => 0
  | d :: ds => max (depX d) (depXs ds)
end
mutual
def wgX : D → Nat
  | .int i => if i == 0 then 0 else i.natAbs.log2 + 1
  | .str x => x.length
  | .tup ds => wgXs ds
  | .lst ds => wgXs ds
  | .dct ks ds => wKs ks + wgXs ds
  | _ => 0
def wgXs : List D → Nat
  | [] => 0
  | d :: ds => wgX d + 1 + wgXs ds
end
theorem key_of : ∀ (k : Key), okK k = true → (kyP k).leavesShort 13 = true ∧ (kyP k).showable = true ∧ (kyP k).depth = 0 ∧ (kyP k).weight = wK k
  | .inl i, h => by
    obtain ⟨x, h1, h2, h3, h4, h5, h6⟩ := py_of (.int i) h
    simp only [pyD] at h1
    cases h1
    exact ⟨PyData.leavesShort_of_canLay0 13 _ h2 h6, h5, h3, h4⟩
  | .inr z, h => by
    obtain ⟨x, h1, h2, h3, h4, h5, h6⟩ := py_of (.str z) h
    simp only [pyD] at h1
    cases h1
    exact ⟨PyData.leavesShort_of_canLay0 13 _ h2 h6, h5, h3, h4⟩
theorem zip_of : ∀ (ks : List Key) (xs : List PyData), ks.all okK = true → PyData.leavesShortAll 13 xs = true → PyData.showableAll xs = true →
    PyData.leavesShortKv 13 ((ks.map kyP).zip xs) = true ∧ PyData.showableKv ((ks.map kyP).zip xs) = true ∧ PyData.depthKv ((ks.map kyP).zip xs) ≤ PyData.depthAll xs ∧ PyData.weightKv ((ks.map kyP).zip xs) ≤ wKs ks + PyData.weightAll xs
  | [], xs, _, _, _ => ⟨rfl, rfl, Nat.zero_le _, Nat.zero_le _⟩
  | k :: ks, [], _, _, _ => ⟨rfl, rfl, Nat.zero_le _, Nat.zero_le _⟩
  | k :: ks, x :: xs, hk, h1, h2 => by
    rw [List.all_cons, Bool.and_eq_true] at hk
    obtain ⟨a1, a2, a3, a4⟩ := key_of k hk.1
    simp only [PyData.leavesShortAll, PyData.showableAll, Bool.and_eq_true] at h1 h2
    obtain ⟨b1, b2, b3, b4⟩ := zip_of ks xs hk.2 h1.2 h2.2
    refine ⟨?_, ?_, ?_, ?_⟩
    · show ((kyP k).leavesShort 13 && x.leavesShort 13 && PyData.leavesShortKv 13 ((ks.map kyP).zip xs)) = true
      rw [a1, h1.1, b1]; rfl
    · show ((kyP k).showable && x.showable && PyData.showableKv ((ks.map kyP).zip xs)) = true
      rw [a2, h2.1, b2]; rfl
    · show max (max (kyP k).depth x.depth) (PyData.depthKv ((ks.map kyP).zip xs)) ≤ max x.depth (PyData.depthAll xs)
      omega
    · show (kyP k).weight + x.weight + 2 + PyData.weightKv ((ks.map kyP).zip xs) ≤ wK k + 1 + wKs ks + (x.weight + 1 + PyData.weightAll xs)
      omega
theorem leaf_of {d : D} (h : okP d = true) {y : PyData} (e : pyD d = some y) : y.leavesShort 13 = true ∧ y.showable = true ∧ y.depth = dep d ∧ y.weight = wgt d ∧ y.canLay0 = true := by
  obtain ⟨x, h1, h2, h3, h4, h5, h6⟩ := py_of d h
  rw [e] at h1
  cases h1
  exact ⟨PyData.leavesShort_of_canLay0 13 _ h2 h6, h5, h3, h4, h2⟩
mutual
theorem px_of : ∀ (d : D), okX d = true → ∃ x, pyX d = some x ∧ x.leavesShort 13 = true ∧ x.showable = true ∧ x.depth ≤ depX d ∧ x.weight ≤ wgX d ∧ ∀ y, pyD d = some y → y = x ∧ x.canLay0 = true
  | .non, _ => ⟨_, rfl, rfl, rfl, Nat.le_refl _, Nat.le_refl _, fun y h => by cases h; exact ⟨rfl, rfl⟩⟩
  | .bl b, _ => ⟨_, rfl, rfl, rfl, Nat.le_refl _, Nat.le_refl _, fun y h => by cases h; exact ⟨rfl, rfl⟩⟩
  | .int i, h => by
    obtain ⟨a, b, c, d, e⟩ := leaf_of (d := .int i) h rfl
    exact ⟨_, rfl, a, b, Nat.le_of_eq c, Nat.le_of_eq d, fun y h => by cases h; exact ⟨rfl, e⟩⟩
  | .str z, h => by
    obtain ⟨a, b, c, d, e⟩ := leaf_of (d := .str z) h rfl
    exact ⟨_, rfl, a, b, Nat.le_of_eq c, Nat.le_of_eq d, fun y h => by cases h; exact ⟨rfl, e⟩⟩
  | .tup ds, h => by
    obtain ⟨xs, h1, h2, h3, h4, h5, h6⟩ := pxs_of ds h
    refine ⟨.tuple xs, by simp only [pyX, h1]; rfl, h2, h3, Nat.add_le_add_right h4 1, h5, fun y e => ?_⟩
    simp only [pyD] at e
    obtain ⟨ys, e1, rfl⟩ := Option.map_eq_some_iff.mp e
    obtain ⟨e2, e3⟩ := h6 ys e1
    exact ⟨by rw [e2], e3⟩
  | .lst ds, h => by
    obtain ⟨xs, h1, h2, h3, h4, h5, h6⟩ := pxs_of ds h
    refine ⟨.list xs, by simp only [pyX, h1]; rfl, h2, h3, Nat.add_le_add_right h4 1, h5, fun y e => ?_⟩
    simp only [pyD] at e
    obtain ⟨ys, e1, rfl⟩ := Option.map_eq_some_iff.mp e
    obtain ⟨e2, e3⟩ := h6 ys e1
    exact ⟨by rw [e2], e3⟩
  | .dct ks ds, h => by
    have h' : ks.all okK = true ∧ okXs ds = true := by simpa only [okX, Bool.and_eq_true] using h
    obtain ⟨xs, h1, h2, h3, h4, h5, _⟩ := pxs_of ds h'.2
    obtain ⟨a1, a2, a3, a4⟩ := zip_of ks xs h'.1 h2 h3
    refine ⟨.dict ((ks.map kyP).zip xs), by simp only [pyX, h1]; rfl, a1, a2, Nat.add_le_add_right (Nat.le_trans a3 h4) 1, Nat.le_trans a4 (Nat.add_le_add_left h5 _), fun y e => ?_⟩
    simp only [pyD] at e
    cases e
  | .scr _, h => by cases h
  | .ref _, h => by cases h
  | .exc _ _ _, h => by cases h
  | .fn _, h => by cases h
  | .kdc _ _, h => by cases h
theorem pxs_of : ∀ (ds : List D), okXs ds = true → ∃ xs, pyXs ds = some xs ∧ PyData.leavesShortAll 13 xs = true ∧ PyData.showableAll xs = true ∧ PyData.depthAll xs ≤ depXs ds ∧ PyData.weightAll xs ≤ wgXs ds ∧ ∀ ys, pyDs ds = some ys → ys = xs ∧ PyData.canLayAll0 xs = true
  | [], _ => ⟨[], rfl, rfl, rfl, Nat.le_refl _, Nat.le_refl _, fun y h => by cases h; exact ⟨rfl, rfl⟩⟩
  | d :: ds, h => by
    have h' : okX d = true ∧ okXs ds = true := by simpa only [okXs, Bool.and_eq_true] using h
    obtain ⟨x, a1, a2, a3, a4, a5, a6⟩ := px_of d h'.1
    obtain ⟨xs, b1, b2, b3, b4, b5, b6⟩ := pxs_of ds h'.2
    refine ⟨x :: xs, by simp only [pyXs, a1, b1], ?_, ?_, ?_, ?_, fun ys e => ?_⟩
    · show (x.leavesShort 13 && PyData.leavesShortAll 13 xs) = true
      rw [a2, b2]; rfl
    · show (x.showable && PyData.showableAll xs) = true
      rw [a3, b3]; rfl
    · show max x.depth (PyData.depthAll xs) ≤ max (depX d) (depXs ds)
      omega
    · show x.weight + 1 + PyData.weightAll xs ≤ wgX d + 1 + wgXs ds
      omega
    · simp only [pyDs] at e
      cases e1 : pyD d with
      | none => rw [e1] at e; cases e
      | some y =>
        cases e2 : pyDs ds with
        | none => rw [e1, e2] at e; cases e
        | some zs =>
          rw [e1, e2] at e
          cases e
          obtain ⟨p1, p2⟩ := a6 y e1
          obtain ⟨q1, q2⟩ := b6 zs e2
          refine ⟨by rw [p1, q1], ?_⟩
          show (x.canLay0 && PyData.canLayAll0 xs) = true
          rw [p2, q2]; rfl
end
/-- plain, also with dicts, not too deep, not too heavy -/
structure NiceX (d : D) : Prop where
  ok : okX d = true
  dp : depX d ≤ 20
  wg : wgX d ≤ 100000
theorem okX_pyT {d : D} (h : okX d = true) (st : Sto) : pyT st d = pyD d := by
  cases d <;> first | rfl | cases h
theorem okX_pyXT {d : D} (h : okX d = true) (st : Sto) : pyXT st d = pyX d := by
  cases d <;> first | rfl | cases h
theorem NiceX.repr {d : D} (h : NiceX d) (lf : leaf d = false) : ∃ z, ∀ st : Sto, reprD st d = some z := by
  obtain ⟨x, h1, h2, h3, h4, h5, h6⟩ := px_of d h.ok
  have f := PyData.shown_fits (B := 13) (by omega) (by omega) h2 (by have := h.wg; omega)
  have hd : x.depth ≤ 20 := Nat.le_trans h4 h.dp
  refine ⟨x.shown, fun st => ?_⟩
  unfold reprD
  rw [okX_pyT h.ok, okX_pyXT h.ok, lf]
  cases e : pyD d with
  | none =>
    simp only [h1, h3, f, decide_eq_true (show x.depth ≤ 60 by omega), decide_true, Bool.and_self, if_true]
    simp
  | some y =>
    obtain ⟨rfl, c⟩ := h6 y e
    have sh : SeqAt.shaped y = true := by
      show (y.canLay0 && decide (y.depth ≤ 64)) = true
      rw [c, decide_eq_true (by omega)]; rfl
    simp only [sh, h3, f, decide_true, Bool.and_self, if_true]
    simp
mutual
theorem okX_of : ∀ (d : D), okP d = true → okX d = true ∧ depX d = dep d ∧ wgX d = wgt d
  | .non, _ => ⟨rfl, rfl, rfl⟩
  | .bl b, _ => ⟨rfl, rfl, rfl⟩
  | .int i, h => ⟨h, rfl, rfl⟩
  | .str x, h => ⟨h, rfl, rfl⟩
  | .tup ds, h => by
    obtain ⟨a, b, c⟩ := okXs_of ds h
    exact ⟨a, congrArg (· + 1) b, c⟩
  | .lst ds, h => by
    obtain ⟨a, b, c⟩ := okXs_of ds h
    exact ⟨a, congrArg (· + 1) b, c⟩
  | .scr _, h => by cases h
  | .ref _, h => by cases h
  | .exc _ _ _, h => by cases h
  | .dct _ _, h => by cases h
  | .fn _, h => by cases h
  | .kdc _ _, h => by cases h
theorem okXs_of : ∀ (ds : List D), okPs ds = true → okXs ds = true ∧ depXs ds = deps ds ∧ wgXs ds = wgts ds
  | [], _ => ⟨rfl, rfl, rfl⟩
  | d :: ds, h => by
    simp only [okPs, Bool.and_eq_true] at h
    obtain ⟨a, b, c⟩ := okX_of d h.1
    obtain ⟨a2, b2, c2⟩ := okXs_of ds h.2
    exact ⟨by simp only [okXs, a, a2]; rfl, by simp only [depXs, deps, b, b2], by simp only [wgXs, wgts, c, c2]⟩
end
theorem okXs_all {xs : List D} (h : ∀ d ∈ xs, okX d = true) : okXs xs = true := by
  induction xs with
  | nil => rfl
  | cons x xs ih => simp only [okXs, Bool.and_eq_true]; exact ⟨h x (List.mem_cons_self ..), ih fun d m => h d (List.mem_cons_of_mem _ m)⟩
theorem depXs_all {xs : List D} {n : Nat} (h : ∀ d ∈ xs, depX d ≤ n) : depXs xs ≤ n := by
  induction xs with
  | nil => exact Nat.zero_le _
  | cons x xs ih =>
    have h1 := h x (List.mem_cons_self ..)
    have h2 := ih fun d m => h d (List.mem_cons_of_mem _ m)
    simp only [depXs]; omega
theorem wgXs_all {xs : List D} {n : Nat} (h : ∀ d ∈ xs, wgX d + 1 ≤ n) : wgXs xs ≤ n * xs.length := by
  induction xs with
  | nil => exact Nat.zero_le _
  | cons x xs ih =>
    have h1 := h x (List.mem_cons_self ..)
    have h2 := ih fun d m => h d (List.mem_cons_of_mem _ m)
    simp only [wgXs, List.length_cons, Nat.mul_succ]; omega
end LB
end

section
set_option Elab.async false
set_option linter.all false
set_option maxRecDepth 100000
set_option maxHeartbeats 0
/-! The tie of letterbench_k46_relations_looked_at: printed by glue.py. -/
namespace Tie
open PySem PySem.Spec PyProof.Rows L2 LB
def top (i : Nat) : Stmt := PySem.Challenge.pw_letterbench_k46_relations_looked_at.main.body.getD i (.Pass ⟨0, 0, 0, 0⟩)
abbrev s0 : Stmt := top 5
def b0 : Sms := (.cons (.ret (.andV (.isi (.var 0) "int") (.cons (.notV (.isi (.var 0) "bool")) .nil))) .nil)
abbrev s1 : Stmt := top 6
def b1c0 : Ex := (.chain .le .le (.str "a") (.var 1) (.str "z"))
def b1 : Sms := (.cons (.ite (.or (.not (.val (.isi (.var 0) "tuple"))) (.cons (.cmp .ne (.blt .len (.cons (.var 0) .nil)) (.int 2)) (.cons (.not (.val (.call 0 0 (.cons (.ix (.var 0) (.int 0)) .nil) .nil))) (.cons (.cmp .lt (.ix (.var 0) (.int 0)) (.int 0)) .nil)))) (.cons (.ret (.bl false)) .nil) .nil) (.cons (.ret (.andV (.isi (.ix (.var 0) (.int 1)) "str") (.cons (.chain .le .le (.int 1) (.blt .len (.cons (.ix (.var 0) (.int 1)) .nil)) (.int 8)) (.cons (.blt .all (.cons (.comp true [("sign", 1)] (.nm 1) (.seq (.ix (.var 0) (.int 1))) .no b1c0) .nil)) .nil)))) .nil))
abbrev s2 : Stmt := top 7
def b2 : Sms := (.cons (.ite (.or (.not (.val (.isi (.var 0) "tuple"))) (.cons (.cmp .ne (.blt .len (.cons (.var 0) .nil)) (.int 4)) (.cons (.not (.val (.call 1 0 (.cons (.ix (.var 0) (.int 1)) .nil) .nil))) (.cons (.not (.val (.call 0 0 (.cons (.ix (.var 0) (.int 3)) .nil) .nil))) .nil)))) (.cons (.ret (.bl false)) .nil) .nil) (.cons (.ite (.cmp .eq (.ix (.var 0) (.int 0)) (.str "told")) (.cons (.ret (.cmp .is_ (.ix (.var 0) (.int 2)) .non)) .nil) .nil) (.cons (.ite (.or (.not (.val (.call 1 0 (.cons (.ix (.var 0) (.int 2)) .nil) .nil))) (.cons (.not (.cmp .lt (.ix (.var 0) (.int 2)) (.ix (.var 0) (.int 1)))) .nil)) (.cons (.ret (.bl false)) .nil) .nil) (.cons (.ret (.cmp .eq (.ix (.var 0) (.int 0)) (.ife (.cmp .eq (.ix (.var 0) (.int 3)) (.int 0)) (.str "same") (.str "more")))) .nil))))
abbrev s3 : Stmt := top 8
def b3 : Sms := (.cons (.ite (.cmp .ge (.ix (.var 1) (.int 0)) (.blt .len (.cons (.var 0) .nil))) (.cons (.ret .non) .nil) .nil) (.cons (.ret (.meth .get (.ix (.ix (.var 0) (.ix (.var 1) (.int 0))) (.int 1)) (.cons (.ix (.var 1) (.int 1)) .nil))) .nil))
abbrev s4 : Stmt := top 9
def b4 : Sms := (.cons (.asg (.tp (.cons (.nm 4) (.cons (.nm 5) (.cons (.nm 6) (.cons (.nm 7) .nil))))) (.var 0)) (.cons (.set 2 (.call 3 0 (.cons (.var 1) (.cons (.var 5) .nil)) .nil)) (.cons (.set 3 (.ife (.cmp .is_ (.var 6) .non) (.int 0) (.call 3 0 (.cons (.var 1) (.cons (.var 6) .nil)) .nil))) (.cons (.ret (.orV (.cmp .is_ (.var 2) .non) (.cons (.cmp .is_ (.var 3) .non) (.cons (.cmp .eq (.var 2) (.bin .add true (.var 3) (.var 7))) .nil)))) .nil))))
abbrev s5 : Stmt := top 10
def b5 : Sms := (.cons (.ite (.not (.val (.call 2 0 (.cons (.var 0) .nil) .nil))) (.cons (.raise_ 0 "no relation") .nil) .nil) (.cons (.ret (.call 4 0 (.cons (.var 0) (.cons (.var 1) .nil)) .nil)) .nil))
abbrev s6 : Stmt := top 11
def b6c0 : Ex := (.tup (.cons (.var 3) (.cons (.var 2) .nil)))
def b6 : Sms := (.cons (.ret (.sortC true true [("talk", 1), ("number", 3), ("side", 4), ("fields", 5), ("word", 2)] (.nm 1) (.seq (.var 0)) .no (.cons (.tp (.cons (.nm 3) (.cons (.tp (.cons (.nm 4) (.cons (.nm 5) .nil))) .nil))) (.enum1 (.var 1)) .no (.cons (.nm 2) (.seq (.var 5)) .no .nil)) b6c0)) .nil)
abbrev s7 : Stmt := top 12
def b7c0 : Ex := (.call 3 0 (.cons (.var 3) (.cons (.var 0) .nil)) .nil)
def b7 : Sms := (.cons (.set 2 (.sortC true false [("talk", 3)] (.nm 3) (.seq (.var 1)) .no .nil b7c0)) (.cons (.ret (.ife (.cmp .eq (.blt .len (.cons (.var 2) .nil)) (.int 1)) (.tup (.cons (.str "told") (.cons (.var 0) (.cons .non (.cons (.ix (.var 2) (.int 0)) .nil))))) .non)) .nil))
abbrev s8 : Stmt := top 13
def b8c0 : Ex := (.cmp .is_ (.call 3 0 (.cons (.var 4) (.cons (.var 1) .nil)) .nil) .non)
def b8c1 : Ex := (.bin .sub true (.call 3 0 (.cons (.var 4) (.cons (.var 0) .nil)) .nil) (.call 3 0 (.cons (.var 4) (.cons (.var 1) .nil)) .nil))
def b8 : Sms := (.cons (.ite (.val (.blt .any (.cons (.comp true [("talk", 4)] (.nm 4) (.seq (.var 2)) .no b8c0) .nil))) (.cons (.ret .non) .nil) .nil) (.cons (.set 3 (.sortC true false [("talk", 4)] (.nm 4) (.seq (.var 2)) .no .nil b8c1)) (.cons (.ite (.cmp .gt (.blt .len (.cons (.var 3) .nil)) (.int 1)) (.cons (.ret .non) .nil) .nil) (.cons (.ret (.tup (.cons (.ife (.cmp .eq (.ix (.var 3) (.int 0)) (.int 0)) (.str "same") (.str "more")) (.cons (.var 0) (.cons (.var 1) (.cons (.ix (.var 3) (.int 0)) .nil)))))) .nil))))
abbrev s9 : Stmt := top 14
def b9c0 : Ex := (.var 6)
def b9l1 : Sms := (.cons (.ite (.and (.cmp .is_ (.var 4) .non) (.cons (.cmp .lt (.var 5) (.var 0)) .nil)) (.cons (.set 4 (.call 8 0 (.cons (.var 0) (.cons (.var 5) (.cons (.var 3) .nil))) .nil)) .nil) .nil) .nil)
def b9 : Sms := (.cons (.setLc 3 true [("talk", 6)] (.nm 6) (.seq (.var 2)) (.yes (.cmp .isn (.call 3 0 (.cons (.var 6) (.cons (.var 0) .nil)) .nil) .non)) b9c0) (.cons (.set 4 (.call 7 0 (.cons (.var 0) (.cons (.var 3) .nil)) .nil)) (.cons (.for_ (.nm 5) (.seq (.var 1)) b9l1) (.cons (.ret (.var 4)) .nil))))
abbrev s10 : Stmt := top 15
def b10c0 : Ex := (.call 9 0 (.cons (.var 3) (.cons (.var 1) (.cons (.var 0) .nil))) .nil)
def b10c1 : Ex := (.var 4)
def b10 : Sms := (.cons (.set 1 (.call 6 0 (.cons (.var 0) .nil) .nil)) (.cons (.setLc 2 true [("place", 3)] (.nm 3) (.seq (.var 1)) .no b10c0) (.cons (.ret (.comp true [("relation", 4)] (.nm 4) (.seq (.var 2)) (.yes (.cmp .isn (.var 4) .non)) b10c1)) .nil)))
abbrev s11 : Stmt := top 17
def b11 : Sms := (.cons (.set 2 (.int 0)) (.cons (.ite (.cmp .ne (.var 0) (.lst true .nil)) (.cons (.set 2 (.ix (.var 0) (.bin .mod true (.var 1) (.blt .len (.cons (.var 0) .nil))))) .nil) .nil) (.cons (.ite (.cmp .ge (.var 1) (.blt .len (.cons (.var 0) .nil))) (.cons (.set 2 (.ix (.lst true (.cons (.bin .mod true (.var 2) (.int 1000003)) (.cons (.bin .fdiv true (.var 2) (.bin .pow true (.int 10) (.int 18))) .nil))) (.blt .int (.cons (.cmp .ge (.var 2) (.bin .pow true (.int 10) (.int 36))) .nil)))) .nil) .nil) (.cons (.set 3 (.bin .mod true (.bin .mul true (.bin .add true (.bin .add true (.bin .mod true (.var 2) (.int 2147483629)) (.bin .mul true (.int 104729) (.var 1))) (.int 11)) (.int 48271)) (.int 2147483647))) (.cons (.ret (.lst false (.cons (.bin .mul true (.var 2) (.blt .int (.cons (.cmp .ge (.var 2) (.bin .pow true (.int 10) (.int 18))) .nil))) (.cons (.var 3) .nil)))) .nil)))))
abbrev s12 : Stmt := top 18
def b12 : Sms := (.cons (.ite (.cmp .gt (.ix (.var 0) (.int 0)) (.int 0)) (.cons (.set 2 (.bin .mod true (.ix (.var 0) (.int 0)) (.var 1))) (.cons (.setIx (.var 0) (.int 0) (.bin .fdiv true (.ix (.var 0) (.int 0)) (.var 1))) (.cons (.ret (.var 2)) .nil))) .nil) (.cons (.setIx (.var 0) (.int 1) (.bin .mod true (.bin .add true (.bin .mul true (.ix (.var 0) (.int 1)) (.int 48271)) (.int 11)) (.int 2147483647))) (.cons (.ret (.bin .mod true (.bin .fdiv true (.bin .mod true (.bin .mul true (.ix (.var 0) (.int 1)) (.ix (.var 0) (.int 1))) (.int 2147483629)) (.int 64)) (.var 1))) .nil)))
abbrev s13 : Stmt := top 19
def b13c0 : Ex := (.call 12 0 (.cons (.var 0) (.cons (.int 6) .nil)) .nil)
def b13l1 : Sms := (.cons (.set 10 (.ix (.var 2) (.bin .add true (.bin .mod true (.bin .mul true (.int 3) (.var 5)) (.int 12)) (.var 8)))) (.cons (.set 11 (.call 12 0 (.cons (.var 0) (.cons (.int 9) .nil)) .nil)) (.cons (.ite (.cmp .eq (.var 10) (.int 1)) (.cons (.set 11 (.int 7)) .nil) .nil) (.cons (.ite (.and (.cmp .eq (.var 10) (.int 2)) (.cons (.cmp .gt (.var 5) (.int 0)) (.cons (.cmp .in_ (.str "a") (.ix (.ix (.var 4) (.int 0)) (.int 1))) .nil))) (.cons (.set 11 (.ix (.ix (.ix (.var 4) (.int 0)) (.int 1)) (.str "a"))) .nil) .nil) (.cons (.ite (.and (.cmp .eq (.var 10) (.int 3)) (.cons (.cmp .gt (.var 5) (.int 0)) (.cons (.cmp .in_ (.str "bb") (.ix (.ix (.var 4) (.bin .sub true (.var 5) (.int 1))) (.int 1))) .nil))) (.cons (.set 11 (.bin .add true (.ix (.ix (.ix (.var 4) (.bin .sub true (.var 5) (.int 1))) (.int 1)) (.str "bb")) (.int 1))) .nil) .nil) (.cons (.ite (.or (.cmp .ne (.var 10) (.int 5)) (.cons (.cmp .eq (.call 12 0 (.cons (.var 0) (.cons (.int 2) .nil)) .nil) (.int 0)) .nil)) (.cons (.setIx (.var 7) (.var 9) (.var 11)) .nil) .nil) .nil))))))
def b13l2 : Sms := (.cons (.set 7 (.dnew false)) (.cons (.for_ (.tp (.cons (.nm 8) (.cons (.nm 9) .nil))) (.enum1 (.lst true (.cons (.str "a") (.cons (.str "bb") (.cons (.str "c") .nil))))) b13l1) (.frz 7 (.cons (.expr (.meth .app (.var 4) (.cons (.tup (.cons (.call 12 0 (.cons (.var 0) (.cons (.int 2) .nil)) .nil) (.cons (.var 7) .nil))) .nil))) .nil))))
def b13l3 : Sms := (.cons (.set 4 (.lst false .nil)) (.cons (.for_ (.nm 5) (.rng1 (.bin .add true (.int 1) (.call 12 0 (.cons (.var 0) (.cons (.int 4) .nil)) .nil))) b13l2) (.frz 4 (.cons (.expr (.meth .app (.var 1) (.cons (.var 4) .nil))) .nil))))
def b13 : Sms := (.cons (.set 1 (.lst false .nil)) (.cons (.setLc 2 true [("_law_k", 6)] (.nm 6) (.rng1 (.int 12)) .no b13c0) (.cons (.for_ (.nm 3) (.rng1 (.bin .add true (.int 1) (.call 12 0 (.cons (.var 0) (.cons (.int 4) .nil)) .nil))) b13l3) (.frz 1 (.cons (.ret (.var 1)) .nil)))))
abbrev s14 : Stmt := top 20
def b14 : Sms := (.cons (.asg (.tp (.cons (.nm 2) (.cons (.nm 3) .nil))) (.var 1)) (.cons (.ite (.and (.cmp .lt (.var 2) (.blt .len (.cons (.var 0) .nil))) (.cons (.cmp .in_ (.var 3) (.ix (.ix (.var 0) (.var 2)) (.int 1))) .nil)) (.cons (.ret (.ix (.ix (.ix (.var 0) (.var 2)) (.int 1)) (.var 3))) .nil) .nil) (.cons (.ret .non) .nil)))
abbrev s15 : Stmt := top 21
def b15 : Sms := (.cons (.set 2 (.call 14 0 (.cons (.var 1) (.cons (.ix (.var 0) (.int 1)) .nil)) .nil)) (.cons (.set 3 (.ife (.cmp .isn (.ix (.var 0) (.int 2)) .non) (.call 14 0 (.cons (.var 1) (.cons (.ix (.var 0) (.int 2)) .nil)) .nil) (.int 0))) (.cons (.ret (.orV (.cmp .is_ (.var 2) .non) (.cons (.cmp .is_ (.var 3) .non) (.cons (.cmp .eq (.bin .sub true (.var 2) (.var 3)) (.ix (.var 0) (.int 3))) .nil)))) .nil)))
abbrev s16 : Stmt := top 22
def b16c0 : Ex := (.tup (.cons (.var 3) (.cons (.var 5) .nil)))
def b16l1 : Sms := (.cons (.set 1 (.bin .add true (.var 1) (.comp true [("_law_word", 5)] (.nm 5) (.seq (.ix (.var 4) (.int 1))) .no b16c0))) .nil)
def b16l2 : Sms := (.cons (.for_ (.tp (.cons (.nm 3) (.cons (.nm 4) .nil))) (.enum1 (.var 2)) b16l1) .nil)
def b16 : Sms := (.cons (.set 1 (.lst true .nil)) (.cons (.for_ (.nm 2) (.seq (.var 0)) b16l2) (.cons (.ret (.sortS true (.var 1))) .nil)))
abbrev s17 : Stmt := top 23
def b17c0 : Ex := (.var 10)
def b17l1 : Sms := (.cons (.ite (.and (.cmp .lt (.var 7) (.var 3)) (.cons (.cmp .isn (.call 14 0 (.cons (.ix (.var 4) (.int 0)) (.cons (.var 7) .nil)) .nil) .non) .nil)) (.cons (.set 11 (.bin .sub true (.var 5) (.call 14 0 (.cons (.ix (.var 4) (.int 0)) (.cons (.var 7) .nil)) .nil))) (.cons (.expr (.meth .app (.var 6) (.cons (.tup (.cons (.ix (.lst true (.cons (.str "more") (.cons (.str "same") .nil))) (.blt .int (.cons (.cmp .eq (.var 11) (.int 0)) .nil))) (.cons (.var 3) (.cons (.var 7) (.cons (.var 11) .nil))))) .nil))) .nil)) .nil) .nil)
def b17c2 : Ex := (.var 10)
def b17c3 : Ex := (.var 10)
def b17l4 : Sms := (.cons (.setLc 9 true [("_law_talk", 10)] (.nm 10) (.seq (.var 4)) (.yes (.and (.cmp .isn (.ix (.var 8) (.int 2)) .non) (.cons (.cmp .is_ (.call 14 0 (.cons (.var 10) (.cons (.ix (.var 8) (.int 2)) .nil)) .nil) .non) .nil))) b17c2) (.cons (.ite (.and (.cmp .eq (.var 9) (.lst true .nil)) (.cons (.cmp .eq (.comp true [("_law_talk", 10)] (.nm 10) (.seq (.var 4)) (.yes (.not (.val (.call 15 0 (.cons (.var 8) (.cons (.var 10) .nil)) .nil)))) b17c3) (.lst true .nil)) .nil)) (.cons (.expr (.meth .app (.var 1) (.cons (.var 8) .nil))) (.cons .brk .nil)) .nil) .nil))
def b17l5 : Sms := (.cons (.setLc 4 true [("_law_talk", 10)] (.nm 10) (.seq (.var 0)) (.yes (.cmp .isn (.call 14 0 (.cons (.var 10) (.cons (.var 3) .nil)) .nil) .non)) b17c0) (.cons (.set 5 (.call 14 0 (.cons (.ix (.var 4) (.int 0)) (.cons (.var 3) .nil)) .nil)) (.cons (.set 6 (.lst false (.cons (.tup (.cons (.str "told") (.cons (.var 3) (.cons .non (.cons (.var 5) .nil))))) .nil))) (.cons (.for_ (.nm 7) (.seq (.var 2)) b17l1) (.frz 6 (.cons (.for_ (.nm 8) (.seq (.var 6)) b17l4) .nil))))))
def b17 : Sms := (.cons (.set 1 (.lst false .nil)) (.cons (.set 2 (.call 16 0 (.cons (.var 0) .nil) .nil)) (.cons (.for_ (.nm 3) (.seq (.var 2)) b17l5) (.frz 1 (.cons (.ret (.var 1)) .nil)))))
abbrev s18 : Stmt := top 24
def b18 : Sms := (.cons (.set 1 (.tup (.cons (.call 12 0 (.cons (.var 0) (.cons (.int 5) .nil)) .nil) (.cons (.ix (.lst true (.cons (.str "a") (.cons (.str "bb") (.cons (.str "c") .nil)))) (.call 12 0 (.cons (.var 0) (.cons (.int 3) .nil)) .nil)) .nil)))) (.cons (.set 2 (.tup (.cons (.call 12 0 (.cons (.var 0) (.cons (.int 5) .nil)) .nil) (.cons (.ix (.lst true (.cons (.str "a") (.cons (.str "bb") (.cons (.str "c") .nil)))) (.call 12 0 (.cons (.var 0) (.cons (.int 3) .nil)) .nil)) .nil)))) (.cons (.set 3 (.bin .sub true (.call 12 0 (.cons (.var 0) (.cons (.int 9) .nil)) .nil) (.int 4))) (.cons (.ret (.lst true (.cons (.tup (.cons (.str "told") (.cons (.var 1) (.cons .non (.cons (.var 3) .nil))))) (.cons (.tup (.cons (.ix (.lst true (.cons (.str "same") (.cons (.str "more") .nil))) (.blt .int (.cons (.cmp .ne (.var 3) (.int 0)) .nil))) (.cons (.blt .max2 (.cons (.var 1) (.cons (.var 2) .nil))) (.cons (.blt .min2 (.cons (.var 1) (.cons (.var 2) .nil))) (.cons (.var 3) .nil))))) .nil)))) .nil))))
abbrev s19 : Stmt := top 25
def b19 : Sms := (.cons (.asg (.tp (.cons (.nm 2) (.cons (.nm 3) (.cons (.nm 4) (.cons (.nm 5) .nil))))) (.var 0)) (.cons (.set 1 (.lst true (.cons .non (.cons (.tup .nil) (.cons (.blt (.list true) (.cons (.var 0) .nil)) (.cons (.sl true (.var 0) .no (.yes (.int 3))) (.cons (.bin .add true (.var 0) (.tup (.cons (.int 0) .nil))) (.cons (.tup (.cons .non (.cons (.var 3) (.cons (.var 4) (.cons (.var 5) .nil))))) (.cons (.tup (.cons (.str "less") (.cons (.var 3) (.cons (.var 4) (.cons (.var 5) .nil))))) .nil))))))))) (.cons (.set 1 (.bin .add true (.var 1) (.lst true (.cons (.tup (.cons (.var 2) (.cons (.tup (.cons (.bl true) (.cons (.str "a") .nil))) (.cons (.var 4) (.cons (.var 5) .nil))))) (.cons (.tup (.cons (.var 2) (.cons (.tup (.cons (.neg (.int 1)) (.cons (.str "a") .nil))) (.cons (.var 4) (.cons (.var 5) .nil))))) (.cons (.tup (.cons (.var 2) (.cons (.tup (.cons (.int 0) (.cons (.str "A") .nil))) (.cons (.var 4) (.cons (.var 5) .nil))))) .nil)))))) (.cons (.set 1 (.bin .add true (.var 1) (.lst true (.cons (.tup (.cons (.var 2) (.cons (.tup (.cons (.int 0) (.cons (.str "abcdefghi") .nil))) (.cons (.var 4) (.cons (.var 5) .nil))))) (.cons (.tup (.cons (.var 2) (.cons (.tup (.cons (.int 0) (.cons (.str "") .nil))) (.cons (.var 4) (.cons (.var 5) .nil))))) (.cons (.tup (.cons (.var 2) (.cons (.lst true (.cons (.int 0) (.cons (.str "a") .nil))) (.cons (.var 4) (.cons (.var 5) .nil))))) .nil)))))) (.cons (.set 1 (.bin .add true (.var 1) (.lst true (.cons (.tup (.cons (.var 2) (.cons (.var 3) (.cons (.var 4) (.cons (.bl true) .nil))))) (.cons (.tup (.cons (.var 2) (.cons (.var 3) (.cons (.var 4) (.cons .non .nil))))) (.cons (.tup (.cons (.var 2) (.cons (.var 3) (.cons (.var 4) (.cons (.str "1") .nil))))) .nil)))))) (.cons (.set 1 (.bin .add true (.var 1) (.lst true (.cons (.tup (.cons (.str "told") (.cons (.var 3) (.cons (.tup (.cons (.int 0) (.cons (.str "a") .nil))) (.cons (.var 5) .nil))))) (.cons (.tup (.cons (.str "same") (.cons (.var 3) (.cons .non (.cons (.int 0) .nil))))) (.cons (.tup (.cons (.str "more") (.cons (.var 3) (.cons (.var 3) (.cons (.int 1) .nil))))) .nil)))))) (.cons (.ret (.bin .add true (.var 1) (.lst true (.cons (.tup (.cons (.str "same") (.cons (.tup (.cons (.int 3) (.cons (.str "a") .nil))) (.cons (.tup (.cons (.int 2) (.cons (.str "a") .nil))) (.cons (.int 1) .nil))))) (.cons (.tup (.cons (.str "more") (.cons (.tup (.cons (.int 3) (.cons (.str "a") .nil))) (.cons (.tup (.cons (.int 2) (.cons (.str "a") .nil))) (.cons (.int 0) .nil))))) (.cons (.tup (.cons (.str "more") (.cons (.tup (.cons (.int 1) (.cons (.str "a") .nil))) (.cons (.tup (.cons (.int 2) (.cons (.str "a") .nil))) (.cons (.int 1) .nil))))) .nil)))))) .nil)))))))
abbrev s20 : Stmt := top 26
def b20l0 : Sms := (.cons (.expr (.call 5 0 (.cons (.var 0) (.cons (.var 1) .nil)) .nil)) .nil)
def b20l1 : Sms := (.cons (.set 2 (.var 3)) .nil)
def b20 : Sms := (.cons (.set 2 .non) (.cons (.tryAs b20l0 1 3 b20l1) (.cons (.ret (.andV (.isx (.var 2) [0]) (.cons (.notV (.isx (.var 2) [2])) .nil))) .nil)))
abbrev s21 : Stmt := top 27
def b21c0 : Ex := (.var 7)
def b21l1 : Sms := (.cons (.set 5 (.bin .add true (.var 5) (.comp true [("_law_one", 7)] (.nm 7) (.seq (.call 18 0 (.cons (.var 2) .nil) .nil)) (.yes (.cmp .ne (.ix (.var 7) (.int 1)) (.ix (.var 7) (.int 2)))) b21c0))) .nil)
def b21l2 : Sms := (.cons (.ite (.cmp .ne (.blt .repr (.cons (.call 5 0 (.cons (.var 7) (.cons (.var 9) .nil)) .nil) .nil)) (.blt .repr (.cons (.call 15 0 (.cons (.var 7) (.cons (.var 9) .nil)) .nil) .nil))) (.cons (.ret (.bl false)) .nil) .nil) .nil)
def b21l3 : Sms := (.cons (.ite (.cmp .isn (.call 2 0 (.cons (.var 7) .nil) .nil) (.bl true)) (.cons (.ret (.bl false)) .nil) .nil) (.cons (.for_ (.nm 9) (.seq (.bin .add true (.var 3) (.lst true (.cons (.lst true .nil) .nil)))) b21l2) .nil))
def b21l4 : Sms := (.cons (.ite (.or (.cmp .isn (.call 2 0 (.cons (.var 8) .nil) .nil) (.bl false)) (.cons (.not (.val (.call 20 0 (.cons (.var 8) (.cons (.ix (.var 3) (.int 0)) .nil)) .nil))) .nil)) (.cons (.ret (.bl false)) .nil) .nil) .nil)
def b21l5 : Sms := (.cons (.set 2 (.call 11 0 (.cons (.var 0) (.cons (.var 1) .nil)) .nil)) (.cons (.set 3 (.call 13 0 (.cons (.var 2) .nil) .nil)) (.cons (.set 4 (.blt .repr (.cons (.var 3) .nil))) (.cons (.set 5 (.call 10 0 (.cons (.var 3) .nil) .nil)) (.cons (.for_ (.nm 6) (.rng1 (.int 6)) b21l1) (.cons (.for_ (.nm 7) (.seq (.var 5)) b21l3) (.cons (.for_ (.nm 8) (.seq (.call 19 0 (.cons (.ix (.var 5) (.call 12 0 (.cons (.var 2) (.cons (.blt .len (.cons (.var 5) .nil)) .nil)) .nil)) .nil) .nil)) b21l4) (.cons (.ite (.cmp .ne (.blt .repr (.cons (.var 3) .nil)) (.var 4)) (.cons (.ret (.bl false)) .nil) .nil) .nil))))))))
def b21 : Sms := (.cons (.for_ (.nm 1) (.rng1 (.blt .max2 (.cons (.int 1) (.cons (.blt .min2 (.cons (.int 10) (.cons (.blt .len (.cons (.var 0) .nil)) .nil))) .nil)))) b21l5) (.cons (.ret (.bl true)) .nil))
def d0 : Df := ⟨none, "is_whole", "is_whole", ["thing"], ["thing"], false, b0, [⟨1, [], [.ps 0], []⟩]⟩
def d1 : Df := ⟨none, "is_place", "is_place", ["thing"], ["thing", "sign"], false, b1, [⟨1, [], [.ps 0], []⟩]⟩
def d2 : Df := ⟨none, "is_relation", "is_relation", ["thing"], ["thing"], false, b2, [⟨1, [], [.ps 0], []⟩]⟩
def d3 : Df := ⟨none, "worth_at", "worth_at", ["talk", "place"], ["talk", "place"], false, b3, [⟨2, [], [.ps 0, .ps 1], []⟩]⟩
def d4 : Df := ⟨none, "is_so", "is_so", ["relation", "talk"], ["relation", "talk", "here", "there", "word", "place", "other", "much"], false, b4, [⟨2, [], [.ps 0, .ps 1], []⟩]⟩
def d5 : Df := ⟨none, "holds", "holds", ["relation", "talk"], ["relation", "talk"], false, b5, [⟨2, [], [.ps 0, .ps 1], []⟩]⟩
def d6 : Df := ⟨none, "places_of", "places_of", ["talks"], ["talks", "talk", "word", "number", "side", "fields"], false, b6, [⟨1, [], [.ps 0], []⟩]⟩
def d7 : Df := ⟨none, "told_of", "told_of", ["place", "talks"], ["place", "talks", "worths", "talk"], false, b7, [⟨2, [], [.ps 0, .ps 1], []⟩]⟩
def d8 : Df := ⟨none, "by_other", "by_other", ["place", "other", "talks"], ["place", "other", "talks", "much", "talk"], false, b8, [⟨3, [], [.ps 0, .ps 1, .ps 2], []⟩]⟩
def d9 : Df := ⟨none, "relation_of", "relation_of", ["place", "places", "talks"], ["place", "places", "talks", "some", "found", "other", "talk"], false, b9, [⟨3, [], [.ps 0, .ps 1, .ps 2], []⟩]⟩
def d10 : Df := ⟨none, "found_in", "found_in", ["talks"], ["talks", "places", "some", "place", "relation"], false, b10, [⟨1, [], [.ps 0], []⟩]⟩
def d11 : Df := ⟨none, "_law_pool", "_law_pool", ["_law_script", "_law_k"], ["_law_script", "_law_k", "_law_cell", "_law_seed"], true, b11, [⟨2, [], [.ps 0, .ps 1], []⟩]⟩
def d12 : Df := ⟨none, "_law_take", "_law_take", ["_law_pool_here", "_law_many"], ["_law_pool_here", "_law_many", "_law_digit"], false, b12, [⟨2, [], [.ps 0, .ps 1], []⟩]⟩
def d13 : Df := ⟨none, "_law_talks", "_law_talks", ["_law_pool_here"], ["_law_pool_here", "_law_found_here", "_law_plan", "_law_turn", "_law_talk", "_law_number", "_law_k", "_law_fields", "_law_at_here", "_law_word", "_law_way", "_law_worth"], false, b13, [⟨1, [], [.ps 0], []⟩]⟩
def d14 : Df := ⟨none, "_law_at", "_law_at", ["_law_talk", "_law_place"], ["_law_talk", "_law_place", "_law_number", "_law_word"], false, b14, [⟨2, [], [.ps 0, .ps 1], []⟩]⟩
def d15 : Df := ⟨none, "_law_is_so", "_law_is_so", ["_law_relation", "_law_talk"], ["_law_relation", "_law_talk", "_law_here", "_law_there"], false, b15, [⟨2, [], [.ps 0, .ps 1], []⟩]⟩
def d16 : Df := ⟨none, "_law_places", "_law_places", ["_law_talks_here"], ["_law_talks_here", "_law_found_here", "_law_talk", "_law_number", "_law_letter", "_law_word"], false, b16, [⟨1, [], [.ps 0], []⟩]⟩
def d17 : Df := ⟨none, "_law_found", "_law_found", ["_law_talks_here"], ["_law_talks_here", "_law_found_here", "_law_places_here", "_law_place", "_law_own", "_law_first", "_law_tries", "_law_other", "_law_one", "_law_lacks", "_law_talk", "_law_much"], false, b17, []⟩
def d18 : Df := ⟨none, "_law_drawn", "_law_drawn", ["_law_pool_here"], ["_law_pool_here", "_law_place", "_law_other", "_law_much"], false, b18, [⟨1, [], [.ps 0], []⟩]⟩
def d19 : Df := ⟨none, "_law_odd", "_law_odd", ["_law_one"], ["_law_one", "_law_found_here", "_law_word", "_law_place", "_law_other", "_law_much"], false, b19, [⟨1, [], [.ps 0], []⟩]⟩
def d20 : Df := ⟨none, "_law_refused", "_law_refused", ["_law_thing", "_law_talk"], ["_law_thing", "_law_talk", "_law_error", "e"], false, b20, [⟨2, [], [.ps 0, .ps 1], []⟩]⟩
def d21 : Df := ⟨none, "law", "law", ["_law_script"], ["_law_script", "_law_k", "_law_pool_here", "_law_talks_here", "_law_kept", "_law_some", "_law_turn", "_law_one", "_law_thing", "_law_talk"], false, b21, [⟨1, [], [.ps 0], []⟩]⟩
def defs : List Df := [d0, d1, d2, d3, d4, d5, d6, d7, d8, d9, d10, d11, d12, d13, d14, d15, d16, d17, d18, d19, d20, d21]
def cons : List (Str × D) := []
def free : List Str := ["all", "any", "bool", "enumerate", "int", "isinstance", "len", "list", "max", "min", "range", "repr", "set", "sorted", "str", "tuple"]
def cls : List Cl := [⟨"NoRelation", true, "NoRelation"⟩, ⟨"BenchError", true, "BenchError"⟩, ⟨"NoLetter", true, "NoLetter"⟩]
def isa : List ((Nat × Nat) × Bool) := [((0, 0), true), ((0, 2), false)]
def exm : List ((Nat × Nat) × Bool) := [((0, 1), true)]
def pr : Pr := ⟨defs, cons, free, cls, isa, exm, [0], [], [], [], [], [], [], []⟩
def kdL : List (Str × List Str) := []
def mthL : List (Nat × Str × Str) := []
def iniL : List (Nat × List Str × Str) := []
theorem r0 (k : Nat) (ds : List D) (st : Sto) : pr.run (k + 1) 0 ds st = defF 1 false (b0.ev ⟨pr.run k, pr⟩) ds st := rfl
@[simp] theorem sh0_0 (c : Nat → List D → Sto → Res D) : Ev.shp ⟨c, pr⟩ 0 0 = some ⟨1, [], [.ps 0], []⟩ := rfl
theorem r1 (k : Nat) (ds : List D) (st : Sto) : pr.run (k + 1) 1 ds st = defF 2 false (b1.ev ⟨pr.run k, pr⟩) ds st := rfl
@[simp] theorem sh1_0 (c : Nat → List D → Sto → Res D) : Ev.shp ⟨c, pr⟩ 1 0 = some ⟨1, [], [.ps 0], []⟩ := rfl
theorem r2 (k : Nat) (ds : List D) (st : Sto) : pr.run (k + 1) 2 ds st = defF 1 false (b2.ev ⟨pr.run k, pr⟩) ds st := rfl
@[simp] theorem sh2_0 (c : Nat → List D → Sto → Res D) : Ev.shp ⟨c, pr⟩ 2 0 = some ⟨1, [], [.ps 0], []⟩ := rfl
theorem r3 (k : Nat) (ds : List D) (st : Sto) : pr.run (k + 1) 3 ds st = defF 2 false (b3.ev ⟨pr.run k, pr⟩) ds st := rfl
@[simp] theorem sh3_0 (c : Nat → List D → Sto → Res D) : Ev.shp ⟨c, pr⟩ 3 0 = some ⟨2, [], [.ps 0, .ps 1], []⟩ := rfl
theorem r4 (k : Nat) (ds : List D) (st : Sto) : pr.run (k + 1) 4 ds st = defF 8 false (b4.ev ⟨pr.run k, pr⟩) ds st := rfl
@[simp] theorem sh4_0 (c : Nat → List D → Sto → Res D) : Ev.shp ⟨c, pr⟩ 4 0 = some ⟨2, [], [.ps 0, .ps 1], []⟩ := rfl
theorem r5 (k : Nat) (ds : List D) (st : Sto) : pr.run (k + 1) 5 ds st = defF 2 false (b5.ev ⟨pr.run k, pr⟩) ds st := rfl
@[simp] theorem sh5_0 (c : Nat → List D → Sto → Res D) : Ev.shp ⟨c, pr⟩ 5 0 = some ⟨2, [], [.ps 0, .ps 1], []⟩ := rfl
theorem r6 (k : Nat) (ds : List D) (st : Sto) : pr.run (k + 1) 6 ds st = defF 6 false (b6.ev ⟨pr.run k, pr⟩) ds st := rfl
@[simp] theorem sh6_0 (c : Nat → List D → Sto → Res D) : Ev.shp ⟨c, pr⟩ 6 0 = some ⟨1, [], [.ps 0], []⟩ := rfl
theorem r7 (k : Nat) (ds : List D) (st : Sto) : pr.run (k + 1) 7 ds st = defF 4 false (b7.ev ⟨pr.run k, pr⟩) ds st := rfl
@[simp] theorem sh7_0 (c : Nat → List D → Sto → Res D) : Ev.shp ⟨c, pr⟩ 7 0 = some ⟨2, [], [.ps 0, .ps 1], []⟩ := rfl
theorem r8 (k : Nat) (ds : List D) (st : Sto) : pr.run (k + 1) 8 ds st = defF 5 false (b8.ev ⟨pr.run k, pr⟩) ds st := rfl
@[simp] theorem sh8_0 (c : Nat → List D → Sto → Res D) : Ev.shp ⟨c, pr⟩ 8 0 = some ⟨3, [], [.ps 0, .ps 1, .ps 2], []⟩ := rfl
theorem r9 (k : Nat) (ds : List D) (st : Sto) : pr.run (k + 1) 9 ds st = defF 7 false (b9.ev ⟨pr.run k, pr⟩) ds st := rfl
@[simp] theorem sh9_0 (c : Nat → List D → Sto → Res D) : Ev.shp ⟨c, pr⟩ 9 0 = some ⟨3, [], [.ps 0, .ps 1, .ps 2], []⟩ := rfl
theorem r10 (k : Nat) (ds : List D) (st : Sto) : pr.run (k + 1) 10 ds st = defF 5 false (b10.ev ⟨pr.run k, pr⟩) ds st := rfl
@[simp] theorem sh10_0 (c : Nat → List D → Sto → Res D) : Ev.shp ⟨c, pr⟩ 10 0 = some ⟨1, [], [.ps 0], []⟩ := rfl
theorem r11 (k : Nat) (ds : List D) (st : Sto) : pr.run (k + 1) 11 ds st = defF 4 true (b11.ev ⟨pr.run k, pr⟩) ds st := rfl
@[simp] theorem sh11_0 (c : Nat → List D → Sto → Res D) : Ev.shp ⟨c, pr⟩ 11 0 = some ⟨2, [], [.ps 0, .ps 1], []⟩ := rfl
theorem r12 (k : Nat) (ds : List D) (st : Sto) : pr.run (k + 1) 12 ds st = defF 3 false (b12.ev ⟨pr.run k, pr⟩) ds st := rfl
@[simp] theorem sh12_0 (c : Nat → List D → Sto → Res D) : Ev.shp ⟨c, pr⟩ 12 0 = some ⟨2, [], [.ps 0, .ps 1], []⟩ := rfl
theorem r13 (k : Nat) (ds : List D) (st : Sto) : pr.run (k + 1) 13 ds st = defF 12 false (b13.ev ⟨pr.run k, pr⟩) ds st := rfl
@[simp] theorem sh13_0 (c : Nat → List D → Sto → Res D) : Ev.shp ⟨c, pr⟩ 13 0 = some ⟨1, [], [.ps 0], []⟩ := rfl
theorem r14 (k : Nat) (ds : List D) (st : Sto) : pr.run (k + 1) 14 ds st = defF 4 false (b14.ev ⟨pr.run k, pr⟩) ds st := rfl
@[simp] theorem sh14_0 (c : Nat → List D → Sto → Res D) : Ev.shp ⟨c, pr⟩ 14 0 = some ⟨2, [], [.ps 0, .ps 1], []⟩ := rfl
theorem r15 (k : Nat) (ds : List D) (st : Sto) : pr.run (k + 1) 15 ds st = defF 4 false (b15.ev ⟨pr.run k, pr⟩) ds st := rfl
@[simp] theorem sh15_0 (c : Nat → List D → Sto → Res D) : Ev.shp ⟨c, pr⟩ 15 0 = some ⟨2, [], [.ps 0, .ps 1], []⟩ := rfl
theorem r16 (k : Nat) (ds : List D) (st : Sto) : pr.run (k + 1) 16 ds st = defF 6 false (b16.ev ⟨pr.run k, pr⟩) ds st := rfl
@[simp] theorem sh16_0 (c : Nat → List D → Sto → Res D) : Ev.shp ⟨c, pr⟩ 16 0 = some ⟨1, [], [.ps 0], []⟩ := rfl
theorem r17 (k : Nat) (ds : List D) (st : Sto) : pr.run (k + 1) 17 ds st = defF 12 false (b17.ev ⟨pr.run k, pr⟩) ds st := rfl
theorem r18 (k : Nat) (ds : List D) (st : Sto) : pr.run (k + 1) 18 ds st = defF 4 false (b18.ev ⟨pr.run k, pr⟩) ds st := rfl
@[simp] theorem sh18_0 (c : Nat → List D → Sto → Res D) : Ev.shp ⟨c, pr⟩ 18 0 = some ⟨1, [], [.ps 0], []⟩ := rfl
theorem r19 (k : Nat) (ds : List D) (st : Sto) : pr.run (k + 1) 19 ds st = defF 6 false (b19.ev ⟨pr.run k, pr⟩) ds st := rfl
@[simp] theorem sh19_0 (c : Nat → List D → Sto → Res D) : Ev.shp ⟨c, pr⟩ 19 0 = some ⟨1, [], [.ps 0], []⟩ := rfl
theorem r20 (k : Nat) (ds : List D) (st : Sto) : pr.run (k + 1) 20 ds st = defF 4 false (b20.ev ⟨pr.run k, pr⟩) ds st := rfl
@[simp] theorem sh20_0 (c : Nat → List D → Sto → Res D) : Ev.shp ⟨c, pr⟩ 20 0 = some ⟨2, [], [.ps 0, .ps 1], []⟩ := rfl
theorem r21 (k : Nat) (ds : List D) (st : Sto) : pr.run (k + 1) 21 ds st = defF 10 false (b21.ev ⟨pr.run k, pr⟩) ds st := rfl
@[simp] theorem sh21_0 (c : Nat → List D → Sto → Res D) : Ev.shp ⟨c, pr⟩ 21 0 = some ⟨1, [], [.ps 0], []⟩ := rfl
theorem sc0 : FnScope d0.N d0.ps (defScope s0) := ⟨rfl, rfl, rfl, by decide +kernel, rfl, by decide +kernel, by decide +kernel⟩
theorem ck0 : d0.body.ck pr ⟨d0.N, defScope s0, none, true⟩ (defBody s0) = true := by decide +kernel
def e0 : He.DefD := ⟨("is_whole", none), "is_whole", "is_whole", defArgs s0, defBody s0, defScope s0, [], []⟩
theorem sc1 : FnScope d1.N d1.ps (defScope s1) := ⟨rfl, rfl, rfl, by decide +kernel, rfl, by decide +kernel, by decide +kernel⟩
theorem ck1 : d1.body.ck pr ⟨d1.N, defScope s1, none, true⟩ (defBody s1) = true := by decide +kernel
def e1 : He.DefD := ⟨("is_place", none), "is_place", "is_place", defArgs s1, defBody s1, defScope s1, [], []⟩
theorem sc2 : FnScope d2.N d2.ps (defScope s2) := ⟨rfl, rfl, rfl, by decide +kernel, rfl, by decide +kernel, by decide +kernel⟩
theorem ck2 : d2.body.ck pr ⟨d2.N, defScope s2, none, true⟩ (defBody s2) = true := by decide +kernel
def e2 : He.DefD := ⟨("is_relation", none), "is_relation", "is_relation", defArgs s2, defBody s2, defScope s2, [], []⟩
theorem sc3 : FnScope d3.N d3.ps (defScope s3) := ⟨rfl, rfl, rfl, by decide +kernel, rfl, by decide +kernel, by decide +kernel⟩
theorem ck3 : d3.body.ck pr ⟨d3.N, defScope s3, none, true⟩ (defBody s3) = true := by decide +kernel
def e3 : He.DefD := ⟨("worth_at", none), "worth_at", "worth_at", defArgs s3, defBody s3, defScope s3, [], []⟩
theorem sc4 : FnScope d4.N d4.ps (defScope s4) := ⟨rfl, rfl, rfl, by decide +kernel, rfl, by decide +kernel, by decide +kernel⟩
theorem ck4 : d4.body.ck pr ⟨d4.N, defScope s4, none, true⟩ (defBody s4) = true := by decide +kernel
def e4 : He.DefD := ⟨("is_so", none), "is_so", "is_so", defArgs s4, defBody s4, defScope s4, [], []⟩
theorem sc5 : FnScope d5.N d5.ps (defScope s5) := ⟨rfl, rfl, rfl, by decide +kernel, rfl, by decide +kernel, by decide +kernel⟩
theorem ck5 : d5.body.ck pr ⟨d5.N, defScope s5, none, true⟩ (defBody s5) = true := by decide +kernel
def e5 : He.DefD := ⟨("holds", none), "holds", "holds", defArgs s5, defBody s5, defScope s5, [], []⟩
theorem sc6 : FnScope d6.N d6.ps (defScope s6) := ⟨rfl, rfl, rfl, by decide +kernel, rfl, by decide +kernel, by decide +kernel⟩
theorem ck6 : d6.body.ck pr ⟨d6.N, defScope s6, none, true⟩ (defBody s6) = true := by decide +kernel
def e6 : He.DefD := ⟨("places_of", none), "places_of", "places_of", defArgs s6, defBody s6, defScope s6, [], []⟩
theorem sc7 : FnScope d7.N d7.ps (defScope s7) := ⟨rfl, rfl, rfl, by decide +kernel, rfl, by decide +kernel, by decide +kernel⟩
theorem ck7 : d7.body.ck pr ⟨d7.N, defScope s7, none, true⟩ (defBody s7) = true := by decide +kernel
def e7 : He.DefD := ⟨("told_of", none), "told_of", "told_of", defArgs s7, defBody s7, defScope s7, [], []⟩
theorem sc8 : FnScope d8.N d8.ps (defScope s8) := ⟨rfl, rfl, rfl, by decide +kernel, rfl, by decide +kernel, by decide +kernel⟩
theorem ck8 : d8.body.ck pr ⟨d8.N, defScope s8, none, true⟩ (defBody s8) = true := by decide +kernel
def e8 : He.DefD := ⟨("by_other", none), "by_other", "by_other", defArgs s8, defBody s8, defScope s8, [], []⟩
theorem sc9 : FnScope d9.N d9.ps (defScope s9) := ⟨rfl, rfl, rfl, by decide +kernel, rfl, by decide +kernel, by decide +kernel⟩
theorem ck9 : d9.body.ck pr ⟨d9.N, defScope s9, none, true⟩ (defBody s9) = true := by decide +kernel
def e9 : He.DefD := ⟨("relation_of", none), "relation_of", "relation_of", defArgs s9, defBody s9, defScope s9, [], []⟩
theorem sc10 : FnScope d10.N d10.ps (defScope s10) := ⟨rfl, rfl, rfl, by decide +kernel, rfl, by decide +kernel, by decide +kernel⟩
theorem ck10 : d10.body.ck pr ⟨d10.N, defScope s10, none, true⟩ (defBody s10) = true := by decide +kernel
def e10 : He.DefD := ⟨("found_in", none), "found_in", "found_in", defArgs s10, defBody s10, defScope s10, [], []⟩
theorem sc11 : FnScope d11.N d11.ps (defScope s11) := ⟨rfl, rfl, rfl, by decide +kernel, rfl, by decide +kernel, by decide +kernel⟩
theorem ck11 : d11.body.ck pr ⟨d11.N, defScope s11, none, true⟩ (defBody s11) = true := by decide +kernel
def e11 : He.DefD := ⟨("_law_pool", none), "_law_pool", "_law_pool", defArgs s11, defBody s11, defScope s11, [], []⟩
theorem sc12 : FnScope d12.N d12.ps (defScope s12) := ⟨rfl, rfl, rfl, by decide +kernel, rfl, by decide +kernel, by decide +kernel⟩
theorem ck12 : d12.body.ck pr ⟨d12.N, defScope s12, none, true⟩ (defBody s12) = true := by decide +kernel
def e12 : He.DefD := ⟨("_law_take", none), "_law_take", "_law_take", defArgs s12, defBody s12, defScope s12, [], []⟩
theorem sc13 : FnScope d13.N d13.ps (defScope s13) := ⟨rfl, rfl, rfl, by decide +kernel, rfl, by decide +kernel, by decide +kernel⟩
theorem ck13 : d13.body.ck pr ⟨d13.N, defScope s13, none, true⟩ (defBody s13) = true := by decide +kernel
def e13 : He.DefD := ⟨("_law_talks", none), "_law_talks", "_law_talks", defArgs s13, defBody s13, defScope s13, [], []⟩
theorem sc14 : FnScope d14.N d14.ps (defScope s14) := ⟨rfl, rfl, rfl, by decide +kernel, rfl, by decide +kernel, by decide +kernel⟩
theorem ck14 : d14.body.ck pr ⟨d14.N, defScope s14, none, true⟩ (defBody s14) = true := by decide +kernel
def e14 : He.DefD := ⟨("_law_at", none), "_law_at", "_law_at", defArgs s14, defBody s14, defScope s14, [], []⟩
theorem sc15 : FnScope d15.N d15.ps (defScope s15) := ⟨rfl, rfl, rfl, by decide +kernel, rfl, by decide +kernel, by decide +kernel⟩
theorem ck15 : d15.body.ck pr ⟨d15.N, defScope s15, none, true⟩ (defBody s15) = true := by decide +kernel
def e15 : He.DefD := ⟨("_law_is_so", none), "_law_is_so", "_law_is_so", defArgs s15, defBody s15, defScope s15, [], []⟩
theorem sc16 : FnScope d16.N d16.ps (defScope s16) := ⟨rfl, rfl, rfl, by decide +kernel, rfl, by decide +kernel, by decide +kernel⟩
theorem ck16 : d16.body.ck pr ⟨d16.N, defScope s16, none, true⟩ (defBody s16) = true := by decide +kernel
def e16 : He.DefD := ⟨("_law_places", none), "_law_places", "_law_places", defArgs s16, defBody s16, defScope s16, [], []⟩
theorem sc17 : FnScope d17.N d17.ps (defScope s17) := ⟨rfl, rfl, rfl, by decide +kernel, rfl, by decide +kernel, by decide +kernel⟩
theorem ck17 : d17.body.ck pr ⟨d17.N, defScope s17, none, true⟩ (defBody s17) = true := by decide +kernel
def e17 : He.DefD := ⟨("_law_found", none), "_law_found", "_law_found", defArgs s17, defBody s17, defScope s17, [], []⟩
theorem sc18 : FnScope d18.N d18.ps (defScope s18) := ⟨rfl, rfl, rfl, by decide +kernel, rfl, by decide +kernel, by decide +kernel⟩
theorem ck18 : d18.body.ck pr ⟨d18.N, defScope s18, none, true⟩ (defBody s18) = true := by decide +kernel
def e18 : He.DefD := ⟨("_law_drawn", none), "_law_drawn", "_law_drawn", defArgs s18, defBody s18, defScope s18, [], []⟩
theorem sc19 : FnScope d19.N d19.ps (defScope s19) := ⟨rfl, rfl, rfl, by decide +kernel, rfl, by decide +kernel, by decide +kernel⟩
theorem ck19 : d19.body.ck pr ⟨d19.N, defScope s19, none, true⟩ (defBody s19) = true := by decide +kernel
def e19 : He.DefD := ⟨("_law_odd", none), "_law_odd", "_law_odd", defArgs s19, defBody s19, defScope s19, [], []⟩
theorem sc20 : FnScope d20.N d20.ps (defScope s20) := ⟨rfl, rfl, rfl, by decide +kernel, rfl, by decide +kernel, by decide +kernel⟩
theorem ck20 : d20.body.ck pr ⟨d20.N, defScope s20, none, true⟩ (defBody s20) = true := by decide +kernel
def e20 : He.DefD := ⟨("_law_refused", none), "_law_refused", "_law_refused", defArgs s20, defBody s20, defScope s20, [], []⟩
theorem sc21 : FnScope d21.N d21.ps (defScope s21) := ⟨rfl, rfl, rfl, by decide +kernel, rfl, by decide +kernel, by decide +kernel⟩
theorem ck21 : d21.body.ck pr ⟨d21.N, defScope s21, none, true⟩ (defBody s21) = true := by decide +kernel
def e21 : He.DefD := ⟨("law", none), "law", "law", defArgs s21, defBody s21, defScope s21, [], []⟩
def fn : List He.DefD := [e0, e1, e2, e3, e4, e5, e6, e7, e8, e9, e10, e11, e12, e13, e14, e15, e16, e17, e18, e19, e20, e21]
def fa : List He.Fa := [.glo "is_whole", .glo "is_place", .glo "is_relation", .glo "worth_at", .glo "is_so", .glo "holds", .glo "places_of", .glo "told_of", .glo "by_other", .glo "relation_of", .glo "found_in", .glo "_law_pool", .glo "_law_take", .glo "_law_talks", .glo "_law_at", .glo "_law_is_so", .glo "_law_places", .glo "_law_found", .glo "_law_drawn", .glo "_law_odd", .glo "_law_refused", .glo "law", .free "all", .free "any", .free "bool", .free "enumerate", .free "int", .free "isinstance", .free "len", .free "list", .free "max", .free "min", .free "range", .free "repr", .free "set", .free "sorted", .free "str", .free "tuple"]
theorem ok0 {K : PySem.W.Frag} {h : Heap} {mg : Str → Option Value} (X : K.In h) (G : h.Ns mainGlobals mg) (c : He.SaysD fa fn K) (b : mthL.all (methB pr K) = true) : DfOk ⟨K, pr.cv K⟩ mg pr d0 := by
  obtain ⟨fd, F⟩ := c.def_ 0 (d := e0) rfl
  exact ⟨⟨_, _, _, _, _, _, _, fd, F, sc0, ck0, fun _ => He.glo_ok X G (c.fact 0 (f := .glo "is_whole") rfl), (fun _ z => nomatch z), List.forall_mem_cons.mpr ⟨⟨Bnd.plain F rfl fun _ _ _ _ _ _ us ws h1 h2 => match us, h1, ws, h2 with | [_], _, [], _ => ⟨_, rfl, rfl⟩, fun _ z => nomatch z⟩, fun _ z => nomatch z⟩⟩⟩
theorem ok1 {K : PySem.W.Frag} {h : Heap} {mg : Str → Option Value} (X : K.In h) (G : h.Ns mainGlobals mg) (c : He.SaysD fa fn K) (b : mthL.all (methB pr K) = true) : DfOk ⟨K, pr.cv K⟩ mg pr d1 := by
  obtain ⟨fd, F⟩ := c.def_ 1 (d := e1) rfl
  exact ⟨⟨_, _, _, _, _, _, _, fd, F, sc1, ck1, fun _ => He.glo_ok X G (c.fact 1 (f := .glo "is_place") rfl), (fun _ z => nomatch z), List.forall_mem_cons.mpr ⟨⟨Bnd.plain F rfl fun _ _ _ _ _ _ us ws h1 h2 => match us, h1, ws, h2 with | [_], _, [], _ => ⟨_, rfl, rfl⟩, fun _ z => nomatch z⟩, fun _ z => nomatch z⟩⟩⟩
theorem ok2 {K : PySem.W.Frag} {h : Heap} {mg : Str → Option Value} (X : K.In h) (G : h.Ns mainGlobals mg) (c : He.SaysD fa fn K) (b : mthL.all (methB pr K) = true) : DfOk ⟨K, pr.cv K⟩ mg pr d2 := by
  obtain ⟨fd, F⟩ := c.def_ 2 (d := e2) rfl
  exact ⟨⟨_, _, _, _, _, _, _, fd, F, sc2, ck2, fun _ => He.glo_ok X G (c.fact 2 (f := .glo "is_relation") rfl), (fun _ z => nomatch z), List.forall_mem_cons.mpr ⟨⟨Bnd.plain F rfl fun _ _ _ _ _ _ us ws h1 h2 => match us, h1, ws, h2 with | [_], _, [], _ => ⟨_, rfl, rfl⟩, fun _ z => nomatch z⟩, fun _ z => nomatch z⟩⟩⟩
theorem ok3 {K : PySem.W.Frag} {h : Heap} {mg : Str → Option Value} (X : K.In h) (G : h.Ns mainGlobals mg) (c : He.SaysD fa fn K) (b : mthL.all (methB pr K) = true) : DfOk ⟨K, pr.cv K⟩ mg pr d3 := by
  obtain ⟨fd, F⟩ := c.def_ 3 (d := e3) rfl
  exact ⟨⟨_, _, _, _, _, _, _, fd, F, sc3, ck3, fun _ => He.glo_ok X G (c.fact 3 (f := .glo "worth_at") rfl), (fun _ z => nomatch z), List.forall_mem_cons.mpr ⟨⟨Bnd.plain F rfl fun _ _ _ _ _ _ us ws h1 h2 => match us, h1, ws, h2 with | [_, _], _, [], _ => ⟨_, rfl, rfl⟩, fun _ z => nomatch z⟩, fun _ z => nomatch z⟩⟩⟩
theorem ok4 {K : PySem.W.Frag} {h : Heap} {mg : Str → Option Value} (X : K.In h) (G : h.Ns mainGlobals mg) (c : He.SaysD fa fn K) (b : mthL.all (methB pr K) = true) : DfOk ⟨K, pr.cv K⟩ mg pr d4 := by
  obtain ⟨fd, F⟩ := c.def_ 4 (d := e4) rfl
  exact ⟨⟨_, _, _, _, _, _, _, fd, F, sc4, ck4, fun _ => He.glo_ok X G (c.fact 4 (f := .glo "is_so") rfl), (fun _ z => nomatch z), List.forall_mem_cons.mpr ⟨⟨Bnd.plain F rfl fun _ _ _ _ _ _ us ws h1 h2 => match us, h1, ws, h2 with | [_, _], _, [], _ => ⟨_, rfl, rfl⟩, fun _ z => nomatch z⟩, fun _ z => nomatch z⟩⟩⟩
theorem ok5 {K : PySem.W.Frag} {h : Heap} {mg : Str → Option Value} (X : K.In h) (G : h.Ns mainGlobals mg) (c : He.SaysD fa fn K) (b : mthL.all (methB pr K) = true) : DfOk ⟨K, pr.cv K⟩ mg pr d5 := by
  obtain ⟨fd, F⟩ := c.def_ 5 (d := e5) rfl
  exact ⟨⟨_, _, _, _, _, _, _, fd, F, sc5, ck5, fun _ => He.glo_ok X G (c.fact 5 (f := .glo "holds") rfl), (fun _ z => nomatch z), List.forall_mem_cons.mpr ⟨⟨Bnd.plain F rfl fun _ _ _ _ _ _ us ws h1 h2 => match us, h1, ws, h2 with | [_, _], _, [], _ => ⟨_, rfl, rfl⟩, fun _ z => nomatch z⟩, fun _ z => nomatch z⟩⟩⟩
theorem ok6 {K : PySem.W.Frag} {h : Heap} {mg : Str → Option Value} (X : K.In h) (G : h.Ns mainGlobals mg) (c : He.SaysD fa fn K) (b : mthL.all (methB pr K) = true) : DfOk ⟨K, pr.cv K⟩ mg pr d6 := by
  obtain ⟨fd, F⟩ := c.def_ 6 (d := e6) rfl
  exact ⟨⟨_, _, _, _, _, _, _, fd, F, sc6, ck6, fun _ => He.glo_ok X G (c.fact 6 (f := .glo "places_of") rfl), (fun _ z => nomatch z), List.forall_mem_cons.mpr ⟨⟨Bnd.plain F rfl fun _ _ _ _ _ _ us ws h1 h2 => match us, h1, ws, h2 with | [_], _, [], _ => ⟨_, rfl, rfl⟩, fun _ z => nomatch z⟩, fun _ z => nomatch z⟩⟩⟩
theorem ok7 {K : PySem.W.Frag} {h : Heap} {mg : Str → Option Value} (X : K.In h) (G : h.Ns mainGlobals mg) (c : He.SaysD fa fn K) (b : mthL.all (methB pr K) = true) : DfOk ⟨K, pr.cv K⟩ mg pr d7 := by
  obtain ⟨fd, F⟩ := c.def_ 7 (d := e7) rfl
  exact ⟨⟨_, _, _, _, _, _, _, fd, F, sc7, ck7, fun _ => He.glo_ok X G (c.fact 7 (f := .glo "told_of") rfl), (fun _ z => nomatch z), List.forall_mem_cons.mpr ⟨⟨Bnd.plain F rfl fun _ _ _ _ _ _ us ws h1 h2 => match us, h1, ws, h2 with | [_, _], _, [], _ => ⟨_, rfl, rfl⟩, fun _ z => nomatch z⟩, fun _ z => nomatch z⟩⟩⟩
theorem ok8 {K : PySem.W.Frag} {h : Heap} {mg : Str → Option Value} (X : K.In h) (G : h.Ns mainGlobals mg) (c : He.SaysD fa fn K) (b : mthL.all (methB pr K) = true) : DfOk ⟨K, pr.cv K⟩ mg pr d8 := by
  obtain ⟨fd, F⟩ := c.def_ 8 (d := e8) rfl
  exact ⟨⟨_, _, _, _, _, _, _, fd, F, sc8, ck8, fun _ => He.glo_ok X G (c.fact 8 (f := .glo "by_other") rfl), (fun _ z => nomatch z), List.forall_mem_cons.mpr ⟨⟨Bnd.plain F rfl fun _ _ _ _ _ _ us ws h1 h2 => match us, h1, ws, h2 with | [_, _, _], _, [], _ => ⟨_, rfl, rfl⟩, fun _ z => nomatch z⟩, fun _ z => nomatch z⟩⟩⟩
theorem ok9 {K : PySem.W.Frag} {h : Heap} {mg : Str → Option Value} (X : K.In h) (G : h.Ns mainGlobals mg) (c : He.SaysD fa fn K) (b : mthL.all (methB pr K) = true) : DfOk ⟨K, pr.cv K⟩ mg pr d9 := by
  obtain ⟨fd, F⟩ := c.def_ 9 (d := e9) rfl
  exact ⟨⟨_, _, _, _, _, _, _, fd, F, sc9, ck9, fun _ => He.glo_ok X G (c.fact 9 (f := .glo "relation_of") rfl), (fun _ z => nomatch z), List.forall_mem_cons.mpr ⟨⟨Bnd.plain F rfl fun _ _ _ _ _ _ us ws h1 h2 => match us, h1, ws, h2 with | [_, _, _], _, [], _ => ⟨_, rfl, rfl⟩, fun _ z => nomatch z⟩, fun _ z => nomatch z⟩⟩⟩
theorem ok10 {K : PySem.W.Frag} {h : Heap} {mg : Str → Option Value} (X : K.In h) (G : h.Ns mainGlobals mg) (c : He.SaysD fa fn K) (b : mthL.all (methB pr K) = true) : DfOk ⟨K, pr.cv K⟩ mg pr d10 := by
  obtain ⟨fd, F⟩ := c.def_ 10 (d := e10) rfl
  exact ⟨⟨_, _, _, _, _, _, _, fd, F, sc10, ck10, fun _ => He.glo_ok X G (c.fact 10 (f := .glo "found_in") rfl), (fun _ z => nomatch z), List.forall_mem_cons.mpr ⟨⟨Bnd.plain F rfl fun _ _ _ _ _ _ us ws h1 h2 => match us, h1, ws, h2 with | [_], _, [], _ => ⟨_, rfl, rfl⟩, fun _ z => nomatch z⟩, fun _ z => nomatch z⟩⟩⟩
theorem ok11 {K : PySem.W.Frag} {h : Heap} {mg : Str → Option Value} (X : K.In h) (G : h.Ns mainGlobals mg) (c : He.SaysD fa fn K) (b : mthL.all (methB pr K) = true) : DfOk ⟨K, pr.cv K⟩ mg pr d11 := by
  obtain ⟨fd, F⟩ := c.def_ 11 (d := e11) rfl
  exact ⟨⟨_, _, _, _, _, _, _, fd, F, sc11, ck11, fun _ => He.glo_ok X G (c.fact 11 (f := .glo "_law_pool") rfl), (fun _ z => nomatch z), List.forall_mem_cons.mpr ⟨⟨Bnd.plain F rfl fun _ _ _ _ _ _ us ws h1 h2 => match us, h1, ws, h2 with | [_, _], _, [], _ => ⟨_, rfl, rfl⟩, fun _ z => nomatch z⟩, fun _ z => nomatch z⟩⟩⟩
theorem ok12 {K : PySem.W.Frag} {h : Heap} {mg : Str → Option Value} (X : K.In h) (G : h.Ns mainGlobals mg) (c : He.SaysD fa fn K) (b : mthL.all (methB pr K) = true) : DfOk ⟨K, pr.cv K⟩ mg pr d12 := by
  obtain ⟨fd, F⟩ := c.def_ 12 (d := e12) rfl
  exact ⟨⟨_, _, _, _, _, _, _, fd, F, sc12, ck12, fun _ => He.glo_ok X G (c.fact 12 (f := .glo "_law_take") rfl), (fun _ z => nomatch z), List.forall_mem_cons.mpr ⟨⟨Bnd.plain F rfl fun _ _ _ _ _ _ us ws h1 h2 => match us, h1, ws, h2 with | [_, _], _, [], _ => ⟨_, rfl, rfl⟩, fun _ z => nomatch z⟩, fun _ z => nomatch z⟩⟩⟩
theorem ok13 {K : PySem.W.Frag} {h : Heap} {mg : Str → Option Value} (X : K.In h) (G : h.Ns mainGlobals mg) (c : He.SaysD fa fn K) (b : mthL.all (methB pr K) = true) : DfOk ⟨K, pr.cv K⟩ mg pr d13 := by
  obtain ⟨fd, F⟩ := c.def_ 13 (d := e13) rfl
  exact ⟨⟨_, _, _, _, _, _, _, fd, F, sc13, ck13, fun _ => He.glo_ok X G (c.fact 13 (f := .glo "_law_talks") rfl), (fun _ z => nomatch z), List.forall_mem_cons.mpr ⟨⟨Bnd.plain F rfl fun _ _ _ _ _ _ us ws h1 h2 => match us, h1, ws, h2 with | [_], _, [], _ => ⟨_, rfl, rfl⟩, fun _ z => nomatch z⟩, fun _ z => nomatch z⟩⟩⟩
theorem ok14 {K : PySem.W.Frag} {h : Heap} {mg : Str → Option Value} (X : K.In h) (G : h.Ns mainGlobals mg) (c : He.SaysD fa fn K) (b : mthL.all (methB pr K) = true) : DfOk ⟨K, pr.cv K⟩ mg pr d14 := by
  obtain ⟨fd, F⟩ := c.def_ 14 (d := e14) rfl
  exact ⟨⟨_, _, _, _, _, _, _, fd, F, sc14, ck14, fun _ => He.glo_ok X G (c.fact 14 (f := .glo "_law_at") rfl), (fun _ z => nomatch z), List.forall_mem_cons.mpr ⟨⟨Bnd.plain F rfl fun _ _ _ _ _ _ us ws h1 h2 => match us, h1, ws, h2 with | [_, _], _, [], _ => ⟨_, rfl, rfl⟩, fun _ z => nomatch z⟩, fun _ z => nomatch z⟩⟩⟩
theorem ok15 {K : PySem.W.Frag} {h : Heap} {mg : Str → Option Value} (X : K.In h) (G : h.Ns mainGlobals mg) (c : He.SaysD fa fn K) (b : mthL.all (methB pr K) = true) : DfOk ⟨K, pr.cv K⟩ mg pr d15 := by
  obtain ⟨fd, F⟩ := c.def_ 15 (d := e15) rfl
  exact ⟨⟨_, _, _, _, _, _, _, fd, F, sc15, ck15, fun _ => He.glo_ok X G (c.fact 15 (f := .glo "_law_is_so") rfl), (fun _ z => nomatch z), List.forall_mem_cons.mpr ⟨⟨Bnd.plain F rfl fun _ _ _ _ _ _ us ws h1 h2 => match us, h1, ws, h2 with | [_, _], _, [], _ => ⟨_, rfl, rfl⟩, fun _ z => nomatch z⟩, fun _ z => nomatch z⟩⟩⟩
theorem ok16 {K : PySem.W.Frag} {h : Heap} {mg : Str → Option Value} (X : K.In h) (G : h.Ns mainGlobals mg) (c : He.SaysD fa fn K) (b : mthL.all (methB pr K) = true) : DfOk ⟨K, pr.cv K⟩ mg pr d16 := by
  obtain ⟨fd, F⟩ := c.def_ 16 (d := e16) rfl
  exact ⟨⟨_, _, _, _, _, _, _, fd, F, sc16, ck16, fun _ => He.glo_ok X G (c.fact 16 (f := .glo "_law_places") rfl), (fun _ z => nomatch z), List.forall_mem_cons.mpr ⟨⟨Bnd.plain F rfl fun _ _ _ _ _ _ us ws h1 h2 => match us, h1, ws, h2 with | [_], _, [], _ => ⟨_, rfl, rfl⟩, fun _ z => nomatch z⟩, fun _ z => nomatch z⟩⟩⟩
theorem ok17 {K : PySem.W.Frag} {h : Heap} {mg : Str → Option Value} (X : K.In h) (G : h.Ns mainGlobals mg) (c : He.SaysD fa fn K) (b : mthL.all (methB pr K) = true) : DfOk ⟨K, pr.cv K⟩ mg pr d17 := by
  obtain ⟨fd, F⟩ := c.def_ 17 (d := e17) rfl
  exact ⟨⟨_, _, _, _, _, _, _, fd, F, sc17, ck17, fun _ => He.glo_ok X G (c.fact 17 (f := .glo "_law_found") rfl), (fun _ z => nomatch z), fun _ z => nomatch z⟩⟩
theorem ok18 {K : PySem.W.Frag} {h : Heap} {mg : Str → Option Value} (X : K.In h) (G : h.Ns mainGlobals mg) (c : He.SaysD fa fn K) (b : mthL.all (methB pr K) = true) : DfOk ⟨K, pr.cv K⟩ mg pr d18 := by
  obtain ⟨fd, F⟩ := c.def_ 18 (d := e18) rfl
  exact ⟨⟨_, _, _, _, _, _, _, fd, F, sc18, ck18, fun _ => He.glo_ok X G (c.fact 18 (f := .glo "_law_drawn") rfl), (fun _ z => nomatch z), List.forall_mem_cons.mpr ⟨⟨Bnd.plain F rfl fun _ _ _ _ _ _ us ws h1 h2 => match us, h1, ws, h2 with | [_], _, [], _ => ⟨_, rfl, rfl⟩, fun _ z => nomatch z⟩, fun _ z => nomatch z⟩⟩⟩
theorem ok19 {K : PySem.W.Frag} {h : Heap} {mg : Str → Option Value} (X : K.In h) (G : h.Ns mainGlobals mg) (c : He.SaysD fa fn K) (b : mthL.all (methB pr K) = true) : DfOk ⟨K, pr.cv K⟩ mg pr d19 := by
  obtain ⟨fd, F⟩ := c.def_ 19 (d := e19) rfl
  exact ⟨⟨_, _, _, _, _, _, _, fd, F, sc19, ck19, fun _ => He.glo_ok X G (c.fact 19 (f := .glo "_law_odd") rfl), (fun _ z => nomatch z), List.forall_mem_cons.mpr ⟨⟨Bnd.plain F rfl fun _ _ _ _ _ _ us ws h1 h2 => match us, h1, ws, h2 with | [_], _, [], _ => ⟨_, rfl, rfl⟩, fun _ z => nomatch z⟩, fun _ z => nomatch z⟩⟩⟩
theorem ok20 {K : PySem.W.Frag} {h : Heap} {mg : Str → Option Value} (X : K.In h) (G : h.Ns mainGlobals mg) (c : He.SaysD fa fn K) (b : mthL.all (methB pr K) = true) : DfOk ⟨K, pr.cv K⟩ mg pr d20 := by
  obtain ⟨fd, F⟩ := c.def_ 20 (d := e20) rfl
  exact ⟨⟨_, _, _, _, _, _, _, fd, F, sc20, ck20, fun _ => He.glo_ok X G (c.fact 20 (f := .glo "_law_refused") rfl), (fun _ z => nomatch z), List.forall_mem_cons.mpr ⟨⟨Bnd.plain F rfl fun _ _ _ _ _ _ us ws h1 h2 => match us, h1, ws, h2 with | [_, _], _, [], _ => ⟨_, rfl, rfl⟩, fun _ z => nomatch z⟩, fun _ z => nomatch z⟩⟩⟩
theorem ok21 {K : PySem.W.Frag} {h : Heap} {mg : Str → Option Value} (X : K.In h) (G : h.Ns mainGlobals mg) (c : He.SaysD fa fn K) (b : mthL.all (methB pr K) = true) : DfOk ⟨K, pr.cv K⟩ mg pr d21 := by
  obtain ⟨fd, F⟩ := c.def_ 21 (d := e21) rfl
  exact ⟨⟨_, _, _, _, _, _, _, fd, F, sc21, ck21, fun _ => He.glo_ok X G (c.fact 21 (f := .glo "law") rfl), (fun _ z => nomatch z), List.forall_mem_cons.mpr ⟨⟨Bnd.plain F rfl fun _ _ _ _ _ _ us ws h1 h2 => match us, h1, ws, h2 with | [_], _, [], _ => ⟨_, rfl, rfl⟩, fun _ z => nomatch z⟩, fun _ z => nomatch z⟩⟩⟩
theorem okAll {K : PySem.W.Frag} {h : Heap} {mg : Str → Option Value} (X : K.In h) (G : h.Ns mainGlobals mg) (c : He.SaysD fa fn K) (b : mthL.all (methB pr K) = true) : ∀ d ∈ pr.defs, DfOk ⟨K, pr.cv K⟩ mg pr d :=
  List.forall_mem_cons.mpr ⟨ok0 X G c b, List.forall_mem_cons.mpr ⟨ok1 X G c b, List.forall_mem_cons.mpr ⟨ok2 X G c b, List.forall_mem_cons.mpr ⟨ok3 X G c b, List.forall_mem_cons.mpr ⟨ok4 X G c b, List.forall_mem_cons.mpr ⟨ok5 X G c b, List.forall_mem_cons.mpr ⟨ok6 X G c b, List.forall_mem_cons.mpr ⟨ok7 X G c b, List.forall_mem_cons.mpr ⟨ok8 X G c b, List.forall_mem_cons.mpr ⟨ok9 X G c b, List.forall_mem_cons.mpr ⟨ok10 X G c b, List.forall_mem_cons.mpr ⟨ok11 X G c b, List.forall_mem_cons.mpr ⟨ok12 X G c b, List.forall_mem_cons.mpr ⟨ok13 X G c b, List.forall_mem_cons.mpr ⟨ok14 X G c b, List.forall_mem_cons.mpr ⟨ok15 X G c b, List.forall_mem_cons.mpr ⟨ok16 X G c b, List.forall_mem_cons.mpr ⟨ok17 X G c b, List.forall_mem_cons.mpr ⟨ok18 X G c b, List.forall_mem_cons.mpr ⟨ok19 X G c b, List.forall_mem_cons.mpr ⟨ok20 X G c b, List.forall_mem_cons.mpr ⟨ok21 X G c b, fun _ z => nomatch z⟩⟩⟩⟩⟩⟩⟩⟩⟩⟩⟩⟩⟩⟩⟩⟩⟩⟩⟩⟩⟩⟩
theorem iniAll {K : PySem.W.Frag} {h : Heap} {mg : Str → Option Value} (X : K.In h) (G : h.Ns mainGlobals mg) (c : He.SaysD fa fn K) (b : iniL.all (iniB pr K) = true) : IniOk ⟨K, pr.cv K⟩ mg pr := iniOk_of (
  fun _ z => nomatch z)
def bx (K : PySem.W.Frag) : Bool := pr.clsB K && (iniL.all (iniB pr K) && (pr.cons.all (conB K (pr.cv K)) && (pr.icB K && (mthL.all (methB pr K) && (pr.fnB K && smB K)))))
theorem freeOk {K : PySem.W.Frag} {h : Heap} {mg : Str → Option Value} (X : K.In h) (G : h.Ns mainGlobals mg) (c : He.SaysD fa fn K) : ∀ x ∈ pr.free, mg x = none :=
  List.forall_mem_cons.mpr ⟨He.free_ok X G (c.fact 22 (f := .free "all") rfl), List.forall_mem_cons.mpr ⟨He.free_ok X G (c.fact 23 (f := .free "any") rfl), List.forall_mem_cons.mpr ⟨He.free_ok X G (c.fact 24 (f := .free "bool") rfl), List.forall_mem_cons.mpr ⟨He.free_ok X G (c.fact 25 (f := .free "enumerate") rfl), List.forall_mem_cons.mpr ⟨He.free_ok X G (c.fact 26 (f := .free "int") rfl), List.forall_mem_cons.mpr ⟨He.free_ok X G (c.fact 27 (f := .free "isinstance") rfl), List.forall_mem_cons.mpr ⟨He.free_ok X G (c.fact 28 (f := .free "len") rfl), List.forall_mem_cons.mpr ⟨He.free_ok X G (c.fact 29 (f := .free "list") rfl), List.forall_mem_cons.mpr ⟨He.free_ok X G (c.fact 30 (f := .free "max") rfl), List.forall_mem_cons.mpr ⟨He.free_ok X G (c.fact 31 (f := .free "min") rfl), List.forall_mem_cons.mpr ⟨He.free_ok X G (c.fact 32 (f := .free "range") rfl), List.forall_mem_cons.mpr ⟨He.free_ok X G (c.fact 33 (f := .free "repr") rfl), List.forall_mem_cons.mpr ⟨He.free_ok X G (c.fact 34 (f := .free "set") rfl), List.forall_mem_cons.mpr ⟨He.free_ok X G (c.fact 35 (f := .free "sorted") rfl), List.forall_mem_cons.mpr ⟨He.free_ok X G (c.fact 36 (f := .free "str") rfl), List.forall_mem_cons.mpr ⟨He.free_ok X G (c.fact 37 (f := .free "tuple") rfl), fun _ z => nomatch z⟩⟩⟩⟩⟩⟩⟩⟩⟩⟩⟩⟩⟩⟩⟩⟩
def loose0 : List Str := ["BenchError", "NoRelation", "NoLetter", "is_whole", "is_place", "is_relation", "worth_at", "is_so", "holds", "places_of", "told_of", "by_other", "relation_of", "found_in", "_law_pool", "_law_take", "_law_talks", "_law_at", "_law_is_so", "_law_places", "_law_found", "_law_drawn", "_law_odd", "_law_refused"]
abbrev loose : List Str := loose0
abbrev R : PySem.W.OpenRow := PySem.W.OpenLaw.row PySem.Challenge.rw_letterbench_k46_relations_looked_at
abbrev hk : PySem.W.Hook := LB.hookX 5 fa fn bx kdL
def ob (s : PySem.W.SharedT) : LB.AlX := LB.obsX 5 fa fn bx kdL (HandSHeadRun.getT s)
theorem ob_eq (s : PySem.W.SharedT) : ob s = hk.obs s.abs := LB.obsX_eq (HandSHeadRun.getT_eq s)
theorem run (w : World) : HandSHeadRun.RunEq R (PySem.W.view R.prog [27]) hk ob 20000 loose w := by
  intro os
  kernel_rfl
theorem factsAll (lv : Nat) {w : World} {mg : Str → Option Value} {fa' : Addr} {h : Heap} (Y : hk.says w h) (G : h.Ns mainGlobals mg) (hfa : mg ("law" : Str) = some (.ref fa')) :
    ∃ K : PySem.W.Frag, K.In h ∧ ∀ base : Heap, K.In base → base.Ns mainGlobals mg → ∃ fd : FuncData, (∀ (s : Shared) (u : Value), K.In s.heap → BindsTo s fd ⟨[u], []⟩ [("_law_script", u)]) ∧ FnI R.prog w mg base ⟨K, pr.cv K⟩ (2 * lv + 2) fa' fd ["_law_script"] (pr.run lv 21) := by
  obtain ⟨K, X, c, b, kw⟩ := Y
  obtain ⟨b1, b2⟩ := Bool.and_eq_true_iff.mp b
  obtain ⟨b2, b3⟩ := Bool.and_eq_true_iff.mp b2
  obtain ⟨b3, b4⟩ := Bool.and_eq_true_iff.mp b3
  obtain ⟨b4, b5⟩ := Bool.and_eq_true_iff.mp b4
  obtain ⟨b5, b6⟩ := Bool.and_eq_true_iff.mp b5
  obtain ⟨b6, b7⟩ := Bool.and_eq_true_iff.mp b6
  refine ⟨K, X, fun base KB GB => ?_⟩
  have T := tab_all (P := R.prog) (w := w) (mg := mg) (base := base) (g := ⟨K, pr.cv K⟩) (pr := pr) (okAll X G c b5) (consB_ok X G b3) (freeOk X G c) (clsB_ok X G b1) (iniAll X G c b2) (insOk_of b4) (iclOk_of X G b4) (fnv_of X G b6) (lit_of b6 (by decide +kernel) kw) (smB_ok b7) lv
  obtain ⟨f, fd, Fi, hm, _, hb⟩ := T.fns 21 d21 rfl
  have hm' : mg ("law" : Str) = some (.ref f) := (hm rfl).1
  rw [hfa] at hm'
  cases hm'
  obtain ⟨⟨ds, rd, to⟩, _⟩ := (hb _ (List.mem_cons_self ..)).1
  exact ⟨fd, fun s u inK => to s [u] [] [u] inK rfl rfl rfl, Fi⟩
end Tie
open PySem PySem.W PySem.Calls PyProof.Rows
theorem tie_holds (law : ∀ ns : List Int, ns.length ≤ 63 → ∃ s', Tie.pr.run 12 21 [.scr ns] LB.st0 = .ok (.bl true) s') : PySem.Challenge.rw_letterbench_k46_relations_looked_at.Holds := by
  w_on; o_law
  refine HandSHeadRun.head_any (r := OpenLaw.row PySem.Challenge.rw_letterbench_k46_relations_looked_at) (q := view (OpenLaw.row PySem.Challenge.rw_letterbench_k46_relations_looked_at).prog [27]) (H := Tie.hk) (ob := Tie.ob) (M := 20000) (loose := Tie.loose) (d := HandSHeadRun.topDef (OpenLaw.row PySem.Challenge.rw_letterbench_k46_relations_looked_at).prog 27) (kwd := []) Tie.ob_eq
    (by kernel_rfl) (fun s => by kernel_rfl) Tie.run (by kernel_rfl) (by kernel_rfl) (by kernel_rfl) (by rfl) (by first | assumption | decide +kernel) (by decide +kernel) ⟨rfl, rfl, rfl, rfl, rfl, by decide +kernel⟩ ?hw ?hc
  case hw => w_witness2
  case hc =>
    refine LB.walk_run (l := PySem.Challenge.rw_letterbench_k46_relations_looked_at) (n := 63) (k := 12) (i := 21) (x := "_law_script") (pr := Tie.pr) (cv := Tie.pr.cv) rfl (by decide) (by kernel_rfl) ⟨rfl, by decide, by decide⟩ ?F law
    intro w mg fa h Y G hmg0
    have hmg : mg ("law" : PySem.Str) = some (.ref fa) := by
      have e : (HandSHeadRun.topDef (OpenLaw.row PySem.Challenge.rw_letterbench_k46_relations_looked_at).prog 27).name = ("law" : PySem.Str) := by kernel_rfl
      rw [← e]
      exact hmg0
    exact Tie.factsAll 12 Y G hmg
end

section
set_option Elab.async false
set_option linter.all false
set_option maxRecDepth 100000
set_option maxHeartbeats 4000000
/-! Talks, places, relations: the plain side. -/
namespace LB
open PySem PySem.Spec PyProof.Rows L2
abbrev Fld := List (Str × Int)
abbrev Talk := List (Int × Fld)
abbrev Plc := Nat × Str
def fK (f : Fld) : List Key := f.map fun q => .inr q.1
def fV (f : Fld) : List D := f.map fun q => .int q.2
def fD (f : Fld) : D := .dct (fK f) (fV f)
def lD (p : Int × Fld) : D := .tup [.int p.1, fD p.2]
def tD (t : Talk) : D := .lst (t.map lD)
def tsD (ts : List Talk) : D := .lst (ts.map tD)
def oD : Option Int → D
  | none => .non
  | some i => .int i
def look (w : Str) : Fld → Option Int
  | [] => none
  | q :: r => if q.1 = w then some q.2 else look w r
def wor (t : Talk) (p : Plc) : Option Int := (t[p.1]?).bind fun l => look p.2 l.2
def pcD (p : Plc) : D := .tup [.int p.1, .str p.2]
def pk (p : Plc) : NestedKey := .tup [.num p.1, .text p.2]
theorem dGet_f (w : Str) : ∀ f : Fld, dGet (fK f) (fV f) (.inr w) = (look w f).map D.int
  | [] => rfl
  | q :: r => by
    show (if (Sum.inr q.1 : Key) = .inr w then some (D.int q.2) else dGet (fK r) (fV r) (.inr w)) = _
    rw [dGet_f w r, look]
    by_cases h : q.1 = w
    · simp [h]
    · simp [h]
theorem hasK_f (w : Str) : ∀ f : Fld, hasK (fK f) (.inr w) = (look w f).isSome
  | [] => rfl
  | q :: r => by
    show (if (Sum.inr q.1 : Key) = .inr w then true else hasK (fK r) (.inr w)) = _
    rw [hasK_f w r, look]
    by_cases h : q.1 = w
    · simp [h]
    · simp [h]
/-! sorting -/
section
variable {α β : Type}
theorem insS_map (f : α → β) (le : β → β → Bool) (x : α) : ∀ l : List α, insS le (f x) (l.map f) = (insS (fun a b => le (f a) (f b)) x l).map f
  | [] => rfl
  | y :: r => by
    simp only [List.map_cons, insS]
    split
    · rfl
    · rw [insS_map f le x r]; rfl
theorem isort_map (f : α → β) (le : β → β → Bool) : ∀ l : List α, isort le (l.map f) = (isort (fun a b => le (f a) (f b)) l).map f
  | [] => rfl
  | x :: r => by
    simp only [List.map_cons, isort]
    rw [isort_map f le r, insS_map]
theorem unlike_map [DecidableEq α] [DecidableEq β] (f : α → β) (inj : ∀ a b, f a = f b → a = b) : ∀ (xs acc : List α), unlike (acc.map f) (xs.map f) = (unlike acc xs).map f
  | [], acc => rfl
  | x :: xs, acc => by
    simp only [List.map_cons, unlike]
    have e : (f x ∈ acc.map f) ↔ x ∈ acc := by
      rw [List.mem_map]
      exact ⟨fun ⟨a, ha, q⟩ => inj _ _ q ▸ ha, fun h => ⟨x, h, rfl⟩⟩
    by_cases h : x ∈ acc
    · rw [if_pos (e.mpr h), if_pos h]; exact unlike_map f inj xs acc
    · rw [if_neg (fun c => h (e.mp c)), if_neg h, ← unlike_map f inj xs (acc ++ [x])]
      simp
end
theorem flat1 {α β : Type} (f : α → β) : ∀ l : List α, (l.flatMap fun q => [f q]) = l.map f
  | [] => rfl
  | a :: r => by rw [List.flatMap_cons, flat1 f r]; rfl
/-! sets of whole numbers -/
def srtI (l : List Int) : List Int := isort (fun a b => decide (a ≤ b)) (unlike [] l)
theorem mem_srtI {l : List Int} {y : Int} : y ∈ srtI l ↔ y ∈ l := by
  unfold srtI
  rw [isort_mem, mem_unlike]; simp
theorem srtI_nd (l : List Int) : (srtI l).Nodup := (isort_perm (le := fun a b => decide (a ≤ b)) _).nodup_iff.mpr (unlike_nodup l [] List.nodup_nil)
theorem srtI_one {x : Int} {l : List Int} (hx : x ∈ l) (h : ∀ y ∈ l, y = x) : srtI l = [x] := by
  have nd := srtI_nd l
  have m := mem_srtI (l := l) (y := x)
  cases e : srtI l with
  | nil => rw [e] at m; exact absurd (m.mpr hx) (by simp)
  | cons a r =>
    have ha : a = x := h a (mem_srtI.mp (by rw [e]; exact List.mem_cons_self ..))
    cases r with
    | nil => rw [ha]
    | cons b r =>
      have hb : b = x := h b (mem_srtI.mp (by rw [e]; simp))
      rw [e, ha, hb] at nd
      simp at nd
theorem srtI_len1 {x : Int} {l : List Int} (hx : x ∈ l) : (srtI l).length = 1 ↔ ∀ y ∈ l, y = x := by
  constructor
  · intro h y hy
    obtain ⟨a, ha⟩ := List.length_eq_one_iff.mp h
    have m1 := mem_srtI.mpr hx
    have m2 := mem_srtI.mpr hy
    rw [ha] at m1 m2
    rw [List.mem_singleton.mp m1, List.mem_singleton.mp m2]
  · intro h; rw [srtI_one hx h]; rfl
theorem srtI_len2 {x : Int} {l : List Int} (hx : x ∈ l) : 1 < (srtI l).length ↔ ¬ ∀ y ∈ l, y = x := by
  rw [← srtI_len1 hx]
  have : 0 < (srtI l).length := List.length_pos_of_mem (mem_srtI.mpr hx)
  omega
theorem alike_ints (l : List Int) : alikeB (l.map .int) = true := by
  unfold alikeB
  rw [List.all_eq_true]
  intro x hx
  rw [List.all_eq_true]
  intro y hy
  obtain ⟨i, _, rfl⟩ := List.mem_map.mp hx
  obtain ⟨j, _, rfl⟩ := List.mem_map.mp hy
  rfl
theorem srtOk_ints (l : List Int) : srtOk (l.map .int) = true := by
  unfold srtOk
  rw [alike_ints]
  have h2 : ((l.map PyData.int).all noTN) = true := by
    rw [List.all_eq_true]; intro x hx
    obtain ⟨i, _, rfl⟩ := List.mem_map.mp hx
    rfl
  have h3 : ((l.map PyData.int).all fun x => decide (x.depth ≤ 8)) = true := by
    rw [List.all_eq_true]; intro x hx
    obtain ⟨i, _, rfl⟩ := List.mem_map.mp hx
    rfl
  rw [h2, h3]; simp
theorem srtD_ints (l : List Int) : srtD (ofNs (uniN (l.map .num))) = some ((srtI l).map .int) := by
  have e : uniN (l.map .num) = (unlike [] l).map NestedKey.num := uni_nums l []
  rw [e, ofNs_map, List.map_map]
  have e2 : (ofN ∘ NestedKey.num) = D.int := by funext i; simp [ofN]
  rw [e2]
  unfold srtD
  rw [pyDs_ints, Option.bind_some, if_pos (srtOk_ints _), isort_map]
  congr 2
  unfold srtI
  congr 1
  funext a b
  exact leD_int a b
/-! places -/
def prT : Nat → Talk → List Plc
  | _, [] => []
  | i, l :: r => (l.2.map fun q => (i, q.1)) ++ prT (i + 1) r
def prs (ts : List Talk) : List Plc := ts.flatMap (prT 0)
def ltP (a b : Plc) : Bool := PySem.W.dataLt (.tuple [.int a.1, .str a.2]) (.tuple [.int b.1, .str b.2])
def places (ts : List Talk) : List Plc := isort (fun a b => leD (pcD a) (pcD b)) (unlike [] (prs ts))
theorem look_some (w : Str) : ∀ f : Fld, w ∈ f.map (·.1) → (look w f).isSome = true
  | q :: r, h => by
    rw [look]
    by_cases e : q.1 = w
    · rw [if_pos e]; rfl
    · rw [if_neg e]
      rcases List.mem_cons.mp h with h | h
      · exact absurd h.symm e
      · exact look_some w r h
theorem mem_prT : ∀ (t : Talk) (i : Nat) (p : Plc), p ∈ prT i t → i ≤ p.1 ∧ (wor t (p.1 - i, p.2)).isSome = true
  | l :: r, i, p, h => by
    rw [prT] at h
    rcases List.mem_append.mp h with h | h
    · obtain ⟨q, hq, rfl⟩ := List.mem_map.mp h
      refine ⟨Nat.le_refl _, ?_⟩
      show (wor (l :: r) (i - i, q.1)).isSome = true
      rw [Nat.sub_self]
      exact look_some _ _ (List.mem_map.mpr ⟨q, hq, rfl⟩)
    · obtain ⟨h1, h2⟩ := mem_prT r (i + 1) p h
      refine ⟨by omega, ?_⟩
      unfold wor at h2 ⊢
      rw [show p.1 - i = (p.1 - (i + 1)) + 1 by omega]
      exact h2
theorem places_mem {ts : List Talk} {p : Plc} (h : p ∈ places ts) : ∃ t ∈ ts, (wor t p).isSome = true := by
  unfold places at h
  rw [isort_mem, mem_unlike] at h
  rcases h with h | h
  · cases h
  · obtain ⟨t, ht, h⟩ := List.mem_flatMap.mp h
    exact ⟨t, ht, (mem_prT t 0 p h).2⟩
theorem pk_inj (a b : Plc) (h : pk a = pk b) : a = b := by
  obtain ⟨a1, a2⟩ := a
  obtain ⟨b1, b2⟩ := b
  simp [pk] at h
  obtain ⟨h1, h2⟩ := h
  rw [show a1 = b1 by omega, h2]
theorem ofN_pk (p : Plc) : ofN (pk p) = pcD p := by simp [pk, ofN, ofNs, pcD]
def plP (p : Plc) : PyData := .tuple [.int p.1, .str p.2]
theorem pyD_pl (p : Plc) : pyD (pcD p) = some (plP p) := by simp [pcD, pyD, pyDs, plP]
theorem pyDs_pl : ∀ l : List Plc, pyDs (l.map pcD) = some (l.map plP)
  | [] => rfl
  | p :: l => by simp only [List.map_cons, pyDs, pyD_pl, pyDs_pl l]
theorem alike_pl (a b : Plc) : PySem.W.alike (plP a) (plP b) = true := rfl
theorem srtOk_pl (l : List Plc) : srtOk (l.map plP) = true := by
  unfold srtOk
  have h1 : alikeB (l.map plP) = true := by
    unfold alikeB
    rw [List.all_eq_true]; intro x hx
    rw [List.all_eq_true]; intro y hy
    obtain ⟨i, _, rfl⟩ := List.mem_map.mp hx
    obtain ⟨j, _, rfl⟩ := List.mem_map.mp hy
    rfl
  have h2 : ((l.map plP).all tup1) = true := by
    rw [List.all_eq_true]; intro x hx
    obtain ⟨i, _, rfl⟩ := List.mem_map.mp hx
    rfl
  have h3 : ((l.map plP).all fun x => decide (x.depth ≤ 8)) = true := by
    rw [List.all_eq_true]; intro x hx
    obtain ⟨i, _, rfl⟩ := List.mem_map.mp hx
    rfl
  rw [h1, h2, h3]; simp
theorem srtD_pl (ts : List Talk) : srtD (ofNs (uniN ((prs ts).map pk))) = some ((places ts).map pcD) := by
  have e : uniN ((prs ts).map pk) = (unlike [] (prs ts)).map pk := unlike_map pk pk_inj (prs ts) []
  rw [e, ofNs_map, List.map_map]
  have e2 : (ofN ∘ pk) = pcD := by funext p; exact ofN_pk p
  rw [e2]
  unfold srtD
  rw [pyDs_pl, Option.bind_some, if_pos (srtOk_pl _), isort_map]
  rfl
theorem ltG_pl (a b : Plc) (st : Sto) : ltG (pcD a) (pcD b) st = some (ltP a b) := by
  show (match pyD (pcD a), pyD (pcD b) with
    | some p, some q => if PySem.W.alike p q && decide (p.depth ≤ 8) then some (PySem.W.dataLt p q) else none
    | _, _ => none) = _
  rw [pyD_pl, pyD_pl]
  rfl
/-! sets drawn together: what runC and emS do -/
theorem runC_app {β : Type} {bt : D → En → Option En} {vs : List Nat} {ct : FB} {inner : En → List NestedKey → Sto → Res (List NestedKey)} {en : En} {s : Sto} (it : β → D) (g : β → List NestedKey) : ∀ (bs : List β) (a : List NestedKey), a.length + (bs.flatMap g).length < 64 → (∀ b ∈ bs, ∀ a, a.length + (g b).length < 64 → ∃ en1, bt (it b) (wipeE en vs) = some en1 ∧ ct en1 s = .ok true s ∧ inner en1 a s = .ok (a ++ g b) s) →
    runC bt vs ct inner (bs.map it) en a s = .ok (a ++ bs.flatMap g) s
  | [], a, _, _ => by simp [runC]
  | b :: bs, a, hl, h => by
    rw [List.flatMap_cons, List.length_append] at hl
    obtain ⟨en1, e1, e2, e3⟩ := h b (List.mem_cons_self ..) a (by omega)
    have e4 := runC_app it g bs (a ++ g b) (by rw [List.length_append]; omega) (fun b hb => h b (List.mem_cons_of_mem _ hb))
    simp only [List.map_cons, runC, e1, e2, Res.nox, Res.bind_ok, if_true, e3, e4, List.flatMap_cons, List.append_assoc]
theorem nxC_cons {α : Type} {em : En → α → Sto → Res α} {c : ClF} {r : List ClF} {en : En} {a : α} {s : Sto} {items : List D} (h : c.f en s = .ok items s) : nxC em (c :: r) en a s = runC c.bt c.vs c.ct (nxC em r) items en a s := by
  simp only [nxC, h, Res.nox, Res.bind_ok]
theorem compL_ok {vs : List Nat} {bt : D → En → Option En} {ct : FB} {fe : FE} {f : FI} {en : En} {st : Sto} {items ys : List D} (h : f en st = .ok items st) (hl : items.length ≤ 1000) (c : compF vs bt ct fe items en st = .ok ys st) : compL true vs bt ct fe f en st = .ok (.lst ys) st := by
  unfold compL
  simp only [h, Res.bind_ok, sx_sizeLine]
  rw [if_pos (by omega), c]
  rfl
theorem sortCL_ok {tp : Bool} {vs : List Nat} {bt : D → En → Option En} {ct : FB} {f : FI} {cs : List ClF} {fe : FE} {en : En} {st : Sto} {items : List D} {ks : List NestedKey} {ds : List D} (h : f en st = .ok items st) (hr : runC bt vs ct (nxC (emS tp fe) cs) items en [] st = .ok ks st) (hl : ks.length < 64) (hs : srtD (ofNs (uniN ks)) = some ds) : sortCL true tp vs bt ct f cs fe en st = .ok (.lst ds) st := by
  unfold sortCL
  simp only [h, Res.bind_ok, hr, Res.nox]
  rw [if_pos hl, hs]
  rfl
end LB
end

section
set_option Elab.async false
set_option linter.all false
set_option maxRecDepth 100000
set_option maxHeartbeats 4000000
/-! Relations: the plain side. -/
namespace LB
open PySem PySem.Spec PyProof.Rows L2
abbrev Try := Option Plc × Int
def rD (k : Str) (p : Plc) (o : D) (v : Int) : D := .tup [.str k, pcD p, o, .int v]
def tryD (p : Plc) : Try → D
  | (none, v) => rD "told" p .non v
  | (some o, v) => rD (if v = 0 then "same" else "more") p (pcD o) v
def tryO (p : Plc) : Option Try → D
  | none => .non
  | some z => tryD p z
def own (ts : List Talk) (p : Plc) : List Talk := ts.filter fun t => (wor t p).isSome
def wr (t : Talk) (p : Plc) : Int := (wor t p).getD 0
def holds (ow : List Talk) (p : Plc) : Try → Bool
  | (none, v) => ow.all fun t => wr t p == v
  | (some o, v) => (ow.all fun t => (wor t o).isSome) && ow.all fun t => wr t p - wr t o == v
def othT (t0 : Talk) (p o : Plc) : Option Try := if ltP o p && (wor t0 o).isSome then some (some o, wr t0 p - wr t0 o) else none
def tries (S : List Plc) (t0 : Talk) (p : Plc) : List Try := (none, wr t0 p) :: S.filterMap (othT t0 p)
def rel (S : List Plc) (t0 : Talk) (ow : List Talk) (p : Plc) : Option Try := (tries S t0 p).find? (holds ow p)
/-- what by_other tells -/
def byO (t0 : Talk) (ow : List Talk) (p o : Plc) : Option Try := if holds ow p (some o, wr t0 p - wr t0 o) then some (some o, wr t0 p - wr t0 o) else none
def toldO (t0 : Talk) (ow : List Talk) (p : Plc) : Option Try := if holds ow p (none, wr t0 p) then some (none, wr t0 p) else none
def stepO (t0 : Talk) (ow : List Talk) (p : Plc) (f : Option Try) (o : Plc) : Option Try := match f with
  | some z => some z
  | none => if ltP o p then byO t0 ow p o else none
theorem step_some (t0 : Talk) (ow : List Talk) (p : Plc) (z : Try) : ∀ S : List Plc, S.foldl (stepO t0 ow p) (some z) = some z
  | [] => rfl
  | o :: S => step_some t0 ow p z S
theorem step_all {t0 : Talk} {ow : List Talk} (h : t0 ∈ ow) (p : Plc) : ∀ S : List Plc, S.foldl (stepO t0 ow p) none = (S.filterMap (othT t0 p)).find? (holds ow p)
  | [] => rfl
  | o :: S => by
    have ih := step_all h p S
    show S.foldl (stepO t0 ow p) (if ltP o p then byO t0 ow p o else none) = _
    by_cases l : ltP o p = true
    · rw [if_pos l]
      by_cases s : (wor t0 o).isSome = true
      · have e : othT t0 p o = some (some o, wr t0 p - wr t0 o) := by unfold othT; rw [l, s]; rfl
        rw [List.filterMap_cons, e]
        unfold byO
        by_cases c : holds ow p (some o, wr t0 p - wr t0 o) = true
        · rw [if_pos c, step_some, List.find?_cons_of_pos c]
        · rw [if_neg c, ih, List.find?_cons_of_neg c]
      · have e : othT t0 p o = none := by
          unfold othT; rw [l, (Bool.not_eq_true _).mp s]; rfl
        rw [List.filterMap_cons, e]
        have c : ¬ holds ow p (some o, wr t0 p - wr t0 o) = true := fun c => by
          unfold holds at c
          rw [Bool.and_eq_true] at c
          exact s (List.all_eq_true.mp c.1 t0 h)
        unfold byO
        rw [if_neg c]; exact ih
    · have e : othT t0 p o = none := by
        unfold othT; rw [(Bool.not_eq_true _).mp l]; rfl
      rw [if_neg l, List.filterMap_cons, e]; exact ih
theorem rel_fold {t0 : Talk} {ow : List Talk} (h : t0 ∈ ow) (S : List Plc) (p : Plc) : S.foldl (stepO t0 ow p) (toldO t0 ow p) = rel S t0 ow p := by
  unfold toldO rel tries
  by_cases c : holds ow p (none, wr t0 p) = true
  · rw [if_pos c, step_some, List.find?_cons_of_pos c]
  · rw [if_neg c, List.find?_cons_of_neg c]; exact step_all h p S
end LB
end

section
set_option Elab.async false
set_option linter.all false
set_option maxRecDepth 100000
set_option maxHeartbeats 4000000
namespace Tie
open PySem PySem.Spec PyProof.Rows L2 LB
variable {st : Sto} {k m : Nat}
def hd : Sms → Sm
  | .cons s _ => s
  | _ => .pass
def tl : Sms → Sms
  | .cons _ r => r
  | s => s
theorem ev_cons {E : Ev} {b : Sms} {en en' : En} {s s' : Sto} (hb : b = .cons (hd b) (tl b)) (h : (hd b).ev E en s = .nx en' s') : b.ev E en s = (tl b).ev E en' s' := by
  rw [hb]
  show ((hd b).ev E en s).seq ((tl b).ev E) = _
  rw [h, seq_nx]; rfl
theorem defF_rt {n : Nat} {fb : FS} {ds : List D} {en : En} {d : D} {s : Sto} (he : ds.map some ++ List.replicate (n - ds.length) none = en) (h : fb en st = .rt d s) : defF n false fb ds st = .ok d (s.cut st.nx) := by
  unfold defF
  rw [he, h]
  rfl
section
variable {E : Ev} {en en' : En} {s' : Sto} {d : D} {i : Nat}
theorem sm_set {e : Ex} (h : e.ev E en st = .ok d s') : (Sm.set i e).ev E en st = .nx (en.set i (some d)) s' := by simp only [Sm.ev, h, Res.fl]
theorem sm_ret {e : Ex} (h : e.ev E en st = .ok d s') : (Sm.ret e).ev E en st = .rt d s' := by simp only [Sm.ev, h, Res.fl]
theorem sm_for {tg : Tg} {it : LB.It} {b : Sms} {items : List D} (h : it.ev E en st = .ok items s') : (Sm.for_ tg it b).ev E en st = forF tg.bt (b.ev E) items en s' := by simp only [Sm.ev, h, Res.fl]
theorem one_nx {m : Sm} (h : m.ev E en st = .nx en' s') : (Sms.cons m .nil).ev E en st = .nx en' s' := by simp only [Sms.ev, h, seq_nx]
theorem one_rt {m : Sm} {r : Sms} (h : m.ev E en st = .rt d s') : (Sms.cons m r).ev E en st = .rt d s' := by simp only [Sms.ev, h, seq_rt]
theorem two_nx {m : Sm} {r : Sms} (h : m.ev E en st = .nx en' s') : (Sms.cons m r).ev E en st = r.ev E en' s' := by simp only [Sms.ev, h, seq_nx]
theorem ex_cat {a b : Ex} {xs ys : List D} (h1 : a.ev E en st = .ok (.lst xs) st) (h2 : b.ev E en st = .ok (.lst ys) st) (hl : xs.length + ys.length ≤ 1000) : (Ex.bin .add true a b).ev E en st = .ok (.lst (xs ++ ys)) st := by
  simp [h1, h2, show xs.length + ys.length ≤ 16777216 by omega]
theorem ex_comp {ow : List (Str × Nat)} {t : Tg} {it : LB.It} {c : TeO} {e : Ex} {items ys : List D} (h : it.ev E en st = .ok items st) (hl : items.length ≤ 1000) (q : compF (ow.map (·.2)) t.bt (c.ev E) (e.ev E) items en st = .ok ys st) : (Ex.comp true ow t it c e).ev E en st = .ok (.lst ys) st := by
  simp only [Ex.ev]
  exact compL_ok h hl q
end
theorem ix_t (t : Talk) {n : Nat} (h : n < t.length) : atI (t.map lD) (n : Int) = some (lD t[n]) := by
  have e : (t.map lD)[n]? = some (lD t[n]) := by rw [List.getElem?_map, List.getElem?_eq_getElem h]; rfl
  unfold atI ixN
  rw [if_pos (by omega), if_pos (by simpa using h)]
  simpa using e
theorem at0 {α : Type} (x : α) (r : List α) : atI (x :: r) 0 = some x := by simp [atI, ixN]
theorem at1 {α : Type} (x y : α) (r : List α) : atI (x :: y :: r) 1 = some y := by
  unfold atI ixN
  rw [if_pos (by decide), if_pos (by simp only [List.length_cons]; omega)]; rfl
theorem at2 {α : Type} (x y z : α) (r : List α) : atI (x :: y :: z :: r) 2 = some z := by
  unfold atI ixN
  rw [if_pos (by decide), if_pos (by simp only [List.length_cons]; omega)]; rfl
theorem at3 {α : Type} (x y z u : α) (r : List α) : atI (x :: y :: z :: u :: r) 3 = some u := by
  unfold atI ixN
  rw [if_pos (by decide), if_pos (by simp only [List.length_cons]; omega)]; rfl
theorem getf (f : Fld) (w : Str) (s : Sto) : Mt.f .get (.dct (fK f) (fV f)) [.str w] s = some (oD (look w f), s) := by
  show some ((dGet (fK f) (fV f) (.inr w)).getD .non, s) = _
  rw [dGet_f]
  cases look w f <;> rfl
theorem wor_in {t : Talk} {p : Plc} (h : p.1 < t.length) : wor t p = look p.2 t[p.1].2 := by simp [wor, h]
theorem wor_out {t : Talk} {p : Plc} (h : ¬ p.1 < t.length) : wor t p = none := by
  unfold wor
  rw [List.getElem?_eq_none (by omega)]; rfl
theorem q0 (wf : st.Wf) (t : Talk) (p : Plc) : pr.run (k + 1) 3 [tD t, pcD p] st = .ok (oD (wor t p)) st := by
  rw [r3]
  by_cases h : p.1 < t.length
  · have a := ix_t t h
    have nl : ¬ ((t.length : Int) ≤ (p.1 : Int)) := by omega
    rw [wor_in h]
    cases e : look p.2 t[p.1].2 with
    | none => simp [b3, tD, pcD, a, nl, lD, fD, at0, at1, getf, e, oD, cut_wf wf]
    | some i => simp [b3, tD, pcD, a, nl, lD, fD, at0, at1, getf, e, oD, cut_wf wf]
  · have nl : (t.length : Int) ≤ (p.1 : Int) := by omega
    rw [wor_out h]
    simp [b3, tD, pcD, nl, oD, cut_wf wf, at0, at1]
theorem q9 (wf : st.Wf) (t : Talk) (p : Plc) : pr.run (k + 1) 14 [tD t, pcD p] st = .ok (oD (wor t p)) st := by
  rw [r14]
  by_cases h : p.1 < t.length
  · have a := ix_t t h
    have nl : (p.1 : Int) < (t.length : Int) := by omega
    rw [wor_in h]
    have hk := hasK_f p.2 t[p.1].2
    cases e : look p.2 t[p.1].2 with
    | none =>
      rw [e] at hk
      simp [b14, tD, pcD, a, nl, lD, fD, at0, at1, dGet_f, hk, inF, inD, e, oD, cut_wf wf]
    | some i =>
      rw [e] at hk
      simp [b14, tD, pcD, a, nl, lD, fD, at0, at1, dGet_f, hk, inF, inD, e, oD, cut_wf wf]
  · have nl : ¬ ((p.1 : Int) < (t.length : Int)) := by omega
    rw [wor_out h]
    simp [b14, tD, pcD, nl, oD, cut_wf wf, at0, at1]
end Tie
end

section
set_option Elab.async false
set_option linter.all false
set_option maxRecDepth 100000
set_option maxHeartbeats 4000000
namespace Tie
open PySem PySem.Spec PyProof.Rows L2 LB
variable {st : Sto} {k m : Nat}
def enT : Nat → Talk → List (Nat × (Int × Fld))
  | _, [] => []
  | i, l :: r => (i, l) :: enT (i + 1) r
def itE (z : Nat × (Int × Fld)) : D := .tup [.int z.1, lD z.2]
def gE (z : Nat × (Int × Fld)) : List Plc := z.2.2.map fun q => (z.1, q.1)
theorem enF_t : ∀ (t : Talk) (i : Nat), enF (i : Int) (t.map lD) = (enT i t).map itE
  | [], _ => rfl
  | l :: r, i => by
    simp only [List.map_cons, enF, enT]
    rw [show ((i : Int) + 1) = ((i + 1 : Nat) : Int) by omega, enF_t r (i + 1)]; rfl
theorem prT_en : ∀ (t : Talk) (i : Nat), prT i t = (enT i t).flatMap gE
  | [], _ => rfl
  | l :: r, i => by
    rw [prT, enT, List.flatMap_cons, prT_en r (i + 1)]; rfl
theorem keyV_f (f : Fld) : (fK f).map keyV = f.map fun q => D.str q.1 := by
  unfold fK; rw [List.map_map]; rfl
theorem em1 {fe : FE} {en : En} {s : Sto} {n : Nat} {w : Str} {ks : List NestedKey} (h : fe en s = .ok (pcD (n, w)) s) (hl : ks.length + 1 < 64) : emS true fe en ks s = .ok (ks ++ [pk (n, w)]) s := by
  unfold emS
  rw [h]
  have e : keyN (pcD (n, w)) = some (pk (n, w)) := by simp [pcD, keyN, keyNs, pk]
  have d : inSet true ks (pk (n, w)) = true := by
    unfold inSet
    rw [decide_eq_true hl]; rfl
  simp only [Res.nox, Res.bind_ok, e, d, if_true]
theorem run3 (E : Ev) {x0 x1 x2 x4 : Option D} {n : Nat} {f : Fld} {ks : List NestedKey} {s : Sto} (hl : ks.length + f.length < 64) :
    nxC (emS true (b6c0.ev E)) [⟨(Tg.nm 2).bt, [2], [2] ++ [], TeO.no.ev E, (It.seq (.var 5)).ev E⟩] [x0, x1, x2, some (.int (n : Int)), x4, some (fD f)] ks s = .ok (ks ++ f.map fun q => pk (n, q.1)) s := by
  have h := runC_app (bt := (Tg.nm 2).bt) (vs := [2] ++ []) (ct := TeO.no.ev E) (inner := nxC (emS true (b6c0.ev E)) []) (en := [x0, x1, x2, some (.int (n : Int)), x4, some (fD f)]) (s := s) (fun q : Str × Int => D.str q.1) (fun q => [pk (n, q.1)]) f ks
    (by rw [flat1, List.length_map]; exact hl)
    (fun q _ a ha => ⟨[x0, x1, some (.str q.1), some (.int (n : Int)), x4, some (fD f)], rfl, rfl, em1 (by simp [b6c0, pcD]) ha⟩)
  have e : (It.seq (.var 5)).ev E [x0, x1, x2, some (.int (n : Int)), x4, some (fD f)] s = .ok (f.map fun q => D.str q.1) s := by
    have := keyV_f f
    simp [fD, this]
  refine (nxC_cons e).trans (h.trans ?_)
  rw [flat1]
theorem run2 (E : Ev) {x0 x2 x3 x4 x5 : Option D} {t : Talk} {ks : List NestedKey} {s : Sto} (hl : ks.length + (prT 0 t).length < 64) :
    nxC (emS true (b6c0.ev E)) (Cgs.ev E (.cons (.tp (.cons (.nm 3) (.cons (.tp (.cons (.nm 4) (.cons (.nm 5) .nil))) .nil))) (.enum1 (.var 1)) .no (.cons (.nm 2) (.seq (.var 5)) .no .nil))) [x0, some (tD t), x2, x3, x4, x5] ks s = .ok (ks ++ (prT 0 t).map pk) s := by
  have h := runC_app (bt := (Tg.tp (.cons (.nm 3) (.cons (.tp (.cons (.nm 4) (.cons (.nm 5) .nil))) .nil))).bt) (vs := [3, 4, 5, 2]) (ct := TeO.no.ev E) (inner := nxC (emS true (b6c0.ev E)) [⟨(Tg.nm 2).bt, [2], [2] ++ [], TeO.no.ev E, (It.seq (.var 5)).ev E⟩]) (en := [x0, some (tD t), x2, x3, x4, x5]) (s := s) itE (fun z => (gE z).map pk) (enT 0 t) ks
    (by rw [← List.map_flatMap, List.length_map, ← prT_en]; exact hl)
    (fun z _ a ha => ⟨[x0, some (tD t), none, some (.int (z.1 : Int)), some (.int z.2.1), some (fD z.2.2)], rfl, rfl, by
      rw [run3 E (by simpa [gE] using ha)]
      simp [gE]⟩)
  have e : (It.enum1 (.var 1)).ev E [x0, some (tD t), x2, x3, x4, x5] s = .ok ((enT 0 t).map itE) s := by
    have := enF_t t 0
    simp only [Int.ofNat_zero] at this
    simp [tD, this]
  refine (nxC_cons e).trans (h.trans ?_)
  rw [← List.map_flatMap, ← prT_en]
theorem q1 (wf : st.Wf) {ts : List Talk} (hl : (prs ts).length < 64) : pr.run (k + 1) 6 [tsD ts] st = .ok (.lst ((places ts).map pcD)) st := by
  have h := runC_app (bt := (Tg.nm 1).bt) (vs := [1, 3, 4, 5, 2]) (ct := TeO.no.ev ⟨pr.run k, pr⟩) (inner := nxC (emS true (b6c0.ev ⟨pr.run k, pr⟩)) (Cgs.ev ⟨pr.run k, pr⟩ (.cons (.tp (.cons (.nm 3) (.cons (.tp (.cons (.nm 4) (.cons (.nm 5) .nil))) .nil))) (.enum1 (.var 1)) .no (.cons (.nm 2) (.seq (.var 5)) .no .nil)))) (en := [some (tsD ts), none, none, none, none, none]) (s := st) tD (fun t => (prT 0 t).map pk) ts []
    (by rw [← List.map_flatMap, List.length_map, List.length_nil, Nat.zero_add]; exact hl)
    (fun t _ a ha => ⟨[some (tsD ts), some (tD t), none, none, none, none], rfl, rfl, run2 _ (by simpa using ha)⟩)
  rw [← List.map_flatMap, List.nil_append] at h
  have e : Sms.ev ⟨pr.run k, pr⟩ b6 [some (tsD ts), none, none, none, none, none] st = .rt (.lst ((places ts).map pcD)) st := by
    have e1 : (Ex.ev ⟨pr.run k, pr⟩ (.sortC true true [("talk", 1), ("number", 3), ("side", 4), ("fields", 5), ("word", 2)] (.nm 1) (.seq (.var 0)) .no (.cons (.tp (.cons (.nm 3) (.cons (.tp (.cons (.nm 4) (.cons (.nm 5) .nil))) .nil))) (.enum1 (.var 1)) .no (.cons (.nm 2) (.seq (.var 5)) .no .nil)) b6c0)) [some (tsD ts), none, none, none, none, none] st = .ok (.lst ((places ts).map pcD)) st := by
      exact sortCL_ok (items := ts.map tD) rfl h (by rw [List.length_map]; exact hl) (srtD_pl ts)
    exact one_rt (sm_ret e1)
  rw [r6]
  exact (defF_rt rfl e).trans (by rw [cut_wf wf])
/-! the law's own places -/
theorem body11 (E : Ev) {x0 x2 : Option D} {n : Nat} {l : Int × Fld} {a : List Plc} {s : Sto} (hl : a.length + l.2.length < 1000) :
    b16l1.ev E [x0, some (.lst (a.map pcD)), x2, some (.int (n : Int)), some (lD l), none] s = .nx [x0, some (.lst ((a ++ gE (n, l)).map pcD)), x2, some (.int (n : Int)), some (lD l), none] s := by
  have e1 : (Ex.ev E (.comp true [("_law_word", 5)] (.nm 5) (.seq (.ix (.var 4) (.int 1))) .no b16c0)) [x0, some (.lst (a.map pcD)), x2, some (.int (n : Int)), some (lD l), none] s = .ok (.lst ((gE (n, l)).map pcD)) s := by
    have c := compF_map (bt := (Tg.nm 5).bt) (vs := [5]) (ct := TeO.no.ev E) (fe := b16c0.ev E) (en := [x0, some (.lst (a.map pcD)), x2, some (.int (n : Int)), some (lD l), none]) (st := s) (fun _ _ => rfl) (fun q : Str × Int => D.str q.1) (fun q => pcD (n, q.1)) l.2 (fun q _ => ⟨[x0, some (.lst (a.map pcD)), x2, some (.int (n : Int)), some (lD l), some (.str q.1)], rfl, by simp [b16c0, pcD]⟩)
    have i : (It.seq (.ix (.var 4) (.int 1))).ev E [x0, some (.lst (a.map pcD)), x2, some (.int (n : Int)), some (lD l), none] s = .ok (l.2.map fun q => D.str q.1) s := by
      have := keyV_f l.2
      simp [lD, fD, atI, ixN, this]
    refine (ex_comp (ow := [("_law_word", 5)]) (t := .nm 5) (c := .no) (e := b16c0) i (by rw [List.length_map]; omega) c).trans ?_
    rw [gE, List.map_map]; rfl
  have lg : (gE (n, l)).length = l.2.length := by simp [gE]
  rw [List.map_append]
  exact one_nx (sm_set (ex_cat (a := .var 1) (xs := a.map pcD) rfl e1 (by simp [lg]; omega)))
theorem loop11 (E : Ev) {x0 x2 : Option D} {s : Sto} : ∀ (t : Talk) (i : Nat) (a : List Plc) (y3 y4 : Option D), a.length + (prT i t).length < 1000 → ∃ z3 z4, forF (Tg.tp (.cons (.nm 3) (.cons (.nm 4) .nil))).bt (b16l1.ev E) (enF (i : Int) (t.map lD)) [x0, some (.lst (a.map pcD)), x2, y3, y4, none] s = .nx [x0, some (.lst ((a ++ prT i t).map pcD)), x2, z3, z4, none] s
  | [], i, a, y3, y4, _ => ⟨y3, y4, by simp [prT, enF, forF]⟩
  | l :: r, i, a, y3, y4, h => by
    have hg : (gE (i, l)).length = l.2.length := by simp [gE]
    have hp : prT i (l :: r) = gE (i, l) ++ prT (i + 1) r := rfl
    rw [hp, List.length_append] at h
    obtain ⟨z3, z4, e⟩ := loop11 E (x0 := x0) (x2 := x2) (s := s) r (i + 1) (a ++ gE (i, l)) (some (.int (i : Int))) (some (lD l)) (by rw [List.length_append]; omega)
    refine ⟨z3, z4, ?_⟩
    have b := body11 E (x0 := x0) (x2 := x2) (n := i) (l := l) (a := a) (s := s) (by omega)
    rw [List.map_cons, enF]
    have bt : (Tg.tp (.cons (.nm 3) (.cons (.nm 4) .nil))).bt (.tup [.int (i : Int), lD l]) [x0, some (.lst (a.map pcD)), x2, y3, y4, none] = some [x0, some (.lst (a.map pcD)), x2, some (.int (i : Int)), some (lD l), none] := rfl
    rw [forF, bt]
    simp only [b]
    rw [show ((i : Int) + 1) = ((i + 1 : Nat) : Int) by omega, e, hp, List.append_assoc]
theorem loop11b (E : Ev) {x0 : Option D} {s : Sto} : ∀ (ts : List Talk) (a : List Plc) (y2 y3 y4 : Option D), a.length + (prs ts).length < 1000 → ∃ z2 z3 z4, forF (Tg.nm 2).bt (b16l2.ev E) (ts.map tD) [x0, some (.lst (a.map pcD)), y2, y3, y4, none] s = .nx [x0, some (.lst ((a ++ prs ts).map pcD)), z2, z3, z4, none] s
  | [], a, y2, y3, y4, _ => ⟨y2, y3, y4, by simp [prs, forF]⟩
  | t :: ts, a, y2, y3, y4, h => by
    have hp : prs (t :: ts) = prT 0 t ++ prs ts := rfl
    rw [hp, List.length_append] at h
    obtain ⟨w3, w4, b⟩ := loop11 E (x0 := x0) (x2 := some (tD t)) (s := s) t 0 a y3 y4 (by omega)
    obtain ⟨z2, z3, z4, e⟩ := loop11b E (x0 := x0) (s := s) ts (a ++ prT 0 t) (some (tD t)) w3 w4 (by rw [List.length_append]; omega)
    refine ⟨z2, z3, z4, ?_⟩
    have bb : b16l2.ev E [x0, some (.lst (a.map pcD)), some (tD t), y3, y4, none] s = .nx [x0, some (.lst ((a ++ prT 0 t).map pcD)), some (tD t), w3, w4, none] s := by
      refine one_nx ((sm_for (items := enF 0 (t.map lD)) (s' := s) (by simp [tD])).trans ?_)
      rw [show (0 : Int) = ((0 : Nat) : Int) from rfl, b]
    rw [List.map_cons, forF]
    have bt : (Tg.nm 2).bt (tD t) [x0, some (.lst (a.map pcD)), y2, y3, y4, none] = some [x0, some (.lst (a.map pcD)), some (tD t), y3, y4, none] := rfl
    rw [bt]
    simp only [bb]
    rw [e, hp, List.append_assoc]
theorem keyNs_pl : ∀ l : List Plc, keyNs (l.map pcD) = some (l.map pk)
  | [] => rfl
  | p :: l => by
    have e : keyN (pcD p) = some (pk p) := by simp [pcD, keyN, keyNs, pk]
    simp only [List.map_cons, keyNs, e, keyNs_pl l]
theorem q11 (wf : st.Wf) {ts : List Talk} (hl : (prs ts).length < 64) : pr.run (k + 1) 16 [tsD ts] st = .ok (.lst ((places ts).map pcD)) st := by
  obtain ⟨z2, z3, z4, e⟩ := loop11b ⟨pr.run k, pr⟩ (x0 := some (tsD ts)) (s := st) ts [] none none none (by simp; omega)
  have e1 : (hd b16).ev ⟨pr.run k, pr⟩ [some (tsD ts), none, none, none, none, none] st = .nx [some (tsD ts), some (.lst []), none, none, none, none] st := rfl
  have e2 : (hd (tl b16)).ev ⟨pr.run k, pr⟩ [some (tsD ts), some (.lst []), none, none, none, none] st = .nx [some (tsD ts), some (.lst ((prs ts).map pcD)), z2, z3, z4, none] st := by
    refine Eq.trans ?_ e
    rfl
  have s3 : sortSF true (.lst ((prs ts).map pcD)) st = some (.lst ((places ts).map pcD), st) := by
    unfold sortSF
    rw [show getL st (.lst ((prs ts).map pcD)) = some ((prs ts).map pcD) from rfl, Option.bind_some, keyNs_pl, Option.bind_some]
    have a : (((prs ts).map pk).all fun k => decide (k.depth ≤ 8) && kindS true k) = true := by
      rw [List.all_eq_true]; intro x hx
      obtain ⟨p, _, rfl⟩ := List.mem_map.mp hx
      rfl
    rw [if_pos ⟨by rw [List.length_map]; exact hl, a⟩, srtD_pl]; rfl
  have e3 : (tl (tl b16)).ev ⟨pr.run k, pr⟩ [some (tsD ts), some (.lst ((prs ts).map pcD)), z2, z3, z4, none] st = .rt (.lst ((places ts).map pcD)) st := by
    have s4 : (Ex.ev ⟨pr.run k, pr⟩ (.sortS true (.var 1))) [some (tsD ts), some (.lst ((prs ts).map pcD)), z2, z3, z4, none] st = .ok (.lst ((places ts).map pcD)) st := by
      rw [Ex.ev]
      show liftO (sortSF true (.lst ((prs ts).map pcD)) st) = _
      rw [s3]; rfl
    exact one_rt (sm_ret s4)
  rw [r16]
  refine (defF_rt (en := [some (tsD ts), none, none, none, none, none]) rfl ?_).trans (by rw [cut_wf wf])
  rw [ev_cons rfl e1, ev_cons rfl e2]; exact e3
end Tie
end

section
set_option Elab.async false
set_option linter.all false
set_option maxRecDepth 100000
set_option maxHeartbeats 4000000
namespace Tie
open PySem PySem.Spec PyProof.Rows L2 LB
variable {st : Sto} {k m : Nat}
theorem sortI {E : Ev} {en : En} {ow : List (Str × Nat)} {tg : Tg} {it : LB.It} {e : Ex} (f : Talk → Int) (ts : List Talk) (hl : ts.length < 64) (hi : it.ev E en st = .ok (ts.map tD) st) (he : ∀ t ∈ ts, ∃ en1, tg.bt (tD t) (wipeE en (ow.map (·.2))) = some en1 ∧ e.ev E en1 st = .ok (.int (f t)) st) :
    (Ex.sortC true false ow tg it .no .nil e).ev E en st = .ok (.lst ((srtI (ts.map f)).map .int)) st := by
  have h := runC_app (bt := tg.bt) (vs := ow.map (·.2)) (ct := TeO.no.ev E) (inner := nxC (emS false (e.ev E)) []) (en := en) (s := st) tD (fun t => [NestedKey.num (f t)]) ts [] (by rw [flat1]; simpa using hl) (fun t ht a ha => by
    obtain ⟨en1, e1, e2⟩ := he t ht
    refine ⟨en1, e1, rfl, ?_⟩
    show emS false (e.ev E) en1 a st = _
    have d : inSet false a (.num (f t)) = true := by
      unfold inSet
      rw [decide_eq_true (show a.length + 1 < 64 by simpa using ha)]; rfl
    unfold emS
    simp only [e2, Res.nox, Res.bind_ok, keyN, d, if_true])
  rw [flat1, List.nil_append] at h
  have c : (ts.map fun t => NestedKey.num (f t)) = (ts.map f).map .num := by rw [List.map_map]; rfl
  rw [c] at h
  simp only [Ex.ev]
  exact sortCL_ok hi h (by simpa using hl) (srtD_ints _)
theorem wr_of {t : Talk} {p : Plc} (h : (wor t p).isSome = true) : wor t p = some (wr t p) := by
  unfold wr
  cases e : wor t p with
  | none => rw [e] at h; cases h
  | some i => rfl
theorem holds_told {ow : List Talk} {t0 : Talk} {p : Plc} : holds ow p (none, wr t0 p) = true ↔ ∀ y ∈ ow.map (wr · p), y = wr t0 p := by
  unfold holds
  simp [List.all_eq_true]
theorem len1 (l : List Int) (h : l.length ≤ 100) (s : Sto) : lenD s (.lst (l.map D.int)) = some (l.length : Nat) := by simp [lenD]
theorem q2 (wf : st.Wf) {ow : List Talk} {t0 : Talk} {p : Plc} (h0 : t0 ∈ ow) (hp : ∀ t ∈ ow, (wor t p).isSome = true) (hl : ow.length < 64) : pr.run (k + 2) 7 [pcD p, tsD ow] st = .ok (tryO p (toldO t0 ow p)) st := by
  have e1 : (hd b7).ev ⟨pr.run (k + 1), pr⟩ [some (pcD p), some (tsD ow), none, none] st = .nx [some (pcD p), some (tsD ow), some (.lst ((srtI (ow.map (wr · p))).map .int)), none] st :=
    sm_set (sortI (wr · p) ow hl rfl fun t ht => ⟨[some (pcD p), some (tsD ow), none, some (tD t)], rfl, by
      have w := wr_of (hp t ht)
      simp [b7c0, q0 wf, w, oD]⟩)
  have hx : wr t0 p ∈ ow.map (wr · p) := List.mem_map.mpr ⟨t0, h0, rfl⟩
  have e2 : (tl b7).ev ⟨pr.run (k + 1), pr⟩ [some (pcD p), some (tsD ow), some (.lst ((srtI (ow.map (wr · p))).map .int)), none] st = .rt (tryO p (toldO t0 ow p)) st := by
    unfold toldO
    by_cases c : holds ow p (none, wr t0 p) = true
    · have s1 := srtI_one hx (holds_told.mp c)
      rw [s1, if_pos c]
      simp [tl, b7, at0, tryO, tryD, rD]
    · have s1 : ¬ (srtI (ow.map (wr · p))).length = 1 := fun z => c (holds_told.mpr ((srtI_len1 hx).mp z))
      rw [if_neg c]
      have s2 : ¬ (((srtI (ow.map (wr · p))).length : Int) = 1) := by omega
      simp [tl, b7, tryO, s1, s2]
  rw [r7]
  refine (defF_rt (en := [some (pcD p), some (tsD ow), none, none]) rfl ?_).trans (by rw [cut_wf wf])
  rw [ev_cons rfl e1]; exact e2
theorem any_none (o : Plc) : ∀ ow : List Talk, (ow.any fun t => (wor t o).isNone) = !(ow.all fun t => (wor t o).isSome)
  | [] => rfl
  | t :: r => by
    rw [List.any_cons, List.all_cons, any_none o r]
    cases wor t o <;> simp
theorem q3 (wf : st.Wf) {ow : List Talk} {t0 : Talk} {p o : Plc} (h0 : t0 ∈ ow) (hp : ∀ t ∈ ow, (wor t p).isSome = true) (hl : ow.length < 64) : pr.run (k + 2) 8 [pcD p, pcD o, tsD ow] st = .ok (tryO p (byO t0 ow p o)) st := by
  have a : (Ex.comp true [("talk", 4)] (.nm 4) (.seq (.var 2)) .no b8c0).ev ⟨pr.run (k + 1), pr⟩ [some (pcD p), some (pcD o), some (tsD ow), none, none] st = .ok (.lst (ow.map fun t => .bl (wor t o).isNone)) st :=
    ex_comp (items := ow.map tD) rfl (by rw [List.length_map]; omega) (compF_map (fun _ _ => rfl) tD (fun t => .bl (wor t o).isNone) ow fun t _ => ⟨[some (pcD p), some (pcD o), some (tsD ow), none, some (tD t)], rfl, by
      cases e : wor t o <;> simp [b8c0, q0 wf, e, oD, isF, isD, LB.isNon]⟩)
  have hb := any_none o ow
  have sp : b8.ev ⟨pr.run (k + 1), pr⟩ [some (pcD p), some (pcD o), some (tsD ow), none, none] st = .rt (tryO p (byO t0 ow p o)) st := by
    by_cases c1 : (ow.all fun t => (wor t o).isSome) = true
    · have c2 : (ow.any fun t => (wor t o).isNone) = false := by rw [hb, c1]; rfl
      have e1 : (hd b8).ev ⟨pr.run (k + 1), pr⟩ [some (pcD p), some (pcD o), some (tsD ow), none, none] st = .nx [some (pcD p), some (pcD o), some (tsD ow), none, none] st := by
        simp [hd, b8, a, blsOf_map, c2]
      have ho := List.all_eq_true.mp c1
      have e2 : (hd (tl b8)).ev ⟨pr.run (k + 1), pr⟩ [some (pcD p), some (pcD o), some (tsD ow), none, none] st = .nx [some (pcD p), some (pcD o), some (tsD ow), some (.lst ((srtI (ow.map fun t => wr t p - wr t o)).map .int)), none] st :=
        sm_set (sortI (fun t => wr t p - wr t o) ow hl rfl fun t ht => ⟨[some (pcD p), some (pcD o), some (tsD ow), none, some (tD t)], rfl, by
          have w := wr_of (hp t ht)
          have w2 := wr_of (ho t ht)
          simp [b8c1, q0 wf, w, w2, oD]⟩)
      have hx : wr t0 p - wr t0 o ∈ ow.map fun t => wr t p - wr t o := List.mem_map.mpr ⟨t0, h0, rfl⟩
      have hh : holds ow p (some o, wr t0 p - wr t0 o) = true ↔ ∀ y ∈ ow.map fun t => wr t p - wr t o, y = wr t0 p - wr t0 o := by
        show ((ow.all fun t => (wor t o).isSome) && ow.all fun t => wr t p - wr t o == wr t0 p - wr t0 o) = true ↔ _
        rw [c1, Bool.true_and]
        simp [List.all_eq_true]
      rw [ev_cons rfl e1, ev_cons rfl e2]
      unfold byO
      by_cases c : holds ow p (some o, wr t0 p - wr t0 o) = true
      · have s1 := srtI_one hx (hh.mp c)
        rw [s1, if_pos c]
        by_cases z : wr t0 p - wr t0 o = 0
        · simp [tl, b8, at0, tryO, tryD, rD, z]
        · simp [tl, b8, at0, tryO, tryD, rD, z]
      · have s1 : 1 < (srtI (ow.map fun t => wr t p - wr t o)).length := (srtI_len2 hx).mpr fun z => c (hh.mpr z)
        rw [if_neg c]
        have s2 : (1 : Int) < ((srtI (ow.map fun t => wr t p - wr t o)).length : Int) := by omega
        simp [tl, b8, tryO, s2]
    · have c2 : (ow.any fun t => (wor t o).isNone) = true := by rw [hb, (Bool.not_eq_true _).mp c1]; rfl
      have c3 : ¬ holds ow p (some o, wr t0 p - wr t0 o) = true := fun z => by
        unfold holds at z
        rw [Bool.and_eq_true] at z
        exact c1 z.1
      unfold byO
      rw [if_neg c3]
      have e1 : (hd b8).ev ⟨pr.run (k + 1), pr⟩ [some (pcD p), some (pcD o), some (tsD ow), none, none] st = .rt .non st := by
        simp [hd, b8, a, blsOf_map, c2]
      exact one_rt e1
  rw [r8]
  refine (defF_rt (en := [some (pcD p), some (pcD o), some (tsD ow), none, none]) rfl ?_).trans (by rw [cut_wf wf])
  exact sp
theorem is_non (p : Plc) (f : Option Try) (s : Sto) : isF (tryO p f) .non s = some (.bl f.isNone, s) := by
  cases f with
  | none => rfl
  | some z => cases z with | mk o v => cases o <;> rfl
theorem isn_non (p : Plc) (f : Option Try) (s : Sto) : isnF (tryO p f) .non s = some (.bl f.isSome, s) := by
  cases f with
  | none => rfl
  | some z => cases z with | mk o v => cases o <;> rfl
theorem isn_o (f : Option Int) (s : Sto) : isnF (oD f) .non s = some (.bl f.isSome, s) := by cases f <;> rfl
theorem is_o (f : Option Int) (s : Sto) : isF (oD f) .non s = some (.bl f.isNone, s) := by cases f <;> rfl
theorem own_mem {ts : List Talk} {p : Plc} {t : Talk} (h : t ∈ own ts p) : (wor t p).isSome = true := (List.mem_filter.mp h).2
theorem body4 (wf : st.Wf) {S : List Plc} {ts ow : List Talk} {t0 : Talk} {p o : Plc} (h0 : t0 ∈ ow) (hp : ∀ t ∈ ow, (wor t p).isSome = true) (hl : ow.length < 64) (f : Option Try) :
    b9l1.ev ⟨pr.run (k + 2), pr⟩ [some (pcD p), some (.lst (S.map pcD)), some (tsD ts), some (tsD ow), some (tryO p f), some (pcD o), none] st = .nx [some (pcD p), some (.lst (S.map pcD)), some (tsD ts), some (tsD ow), some (tryO p (stepO t0 ow p f o)), some (pcD o), none] st := by
  have lt := ltG_pl o p st
  cases f with
  | some z =>
    have e : isF (tryO p (some z)) .non st = some (.bl false, st) := is_non p _ st
    simp [b9l1, e, stepO]
  | none =>
    have e : isF (tryO p none) .non st = some (.bl true, st) := is_non p _ st
    cases l : ltP o p with
    | false => rw [l] at lt; simp [b9l1, e, stepO, lt, l]
    | true => rw [l] at lt; simp [b9l1, e, stepO, lt, l, q3 wf h0 hp hl]
theorem q4 (wf : st.Wf) {S : List Plc} {ts : List Talk} {t0 : Talk} {p : Plc} (h0 : t0 ∈ own ts p) (hl : ts.length < 64) : pr.run (k + 3) 9 [pcD p, .lst (S.map pcD), tsD ts] st = .ok (tryO p (rel S t0 (own ts p) p)) st := by
  have hl2 : (own ts p).length < 64 := Nat.lt_of_le_of_lt (List.length_filter_le ..) hl
  have e1 : (hd b9).ev ⟨pr.run (k + 2), pr⟩ [some (pcD p), some (.lst (S.map pcD)), some (tsD ts), none, none, none, none] st = .nx [some (pcD p), some (.lst (S.map pcD)), some (tsD ts), some (tsD (own ts p)), none, none, none] st := by
    have c := compF_filter (bt := (Tg.nm 6).bt) (vs := [6]) (ct := (TeO.yes (.cmp .isn (.call 3 0 (.cons (.var 6) (.cons (.var 0) .nil)) .nil) .non)).ev ⟨pr.run (k + 2), pr⟩) (fe := b9c0.ev ⟨pr.run (k + 2), pr⟩) (en := [some (pcD p), some (.lst (S.map pcD)), some (tsD ts), none, none, none, none]) (st := st) tD (fun t => (wor t p).isSome) tD ts fun t _ => ⟨[some (pcD p), some (.lst (S.map pcD)), some (tsD ts), none, none, none, some (tD t)], rfl, by simp [q0 wf, isn_o], fun _ => by simp [b9c0]⟩
    have d := compL_ok (items := ts.map tD) (f := (It.seq (.var 2)).ev ⟨pr.run (k + 2), pr⟩) rfl (by rw [List.length_map]; omega) c
    show (compL _ _ _ _ _ _ _ _).fl _ _ = _
    refine (congrArg (fun r => Res.fl r _ _) d).trans ?_
    rfl
  have e2 : (hd (tl b9)).ev ⟨pr.run (k + 2), pr⟩ [some (pcD p), some (.lst (S.map pcD)), some (tsD ts), some (tsD (own ts p)), none, none, none] st = .nx [some (pcD p), some (.lst (S.map pcD)), some (tsD ts), some (tsD (own ts p)), some (tryO p (toldO t0 (own ts p) p)), none, none] st := by
    simp [hd, tl, b9, q2 (k := k) wf h0 (fun t h => own_mem h) hl2]
  obtain ⟨en, s', e3, ⟨y5, h1⟩, h2⟩ := forF_fold (bt := (Tg.nm 5).bt) (fb := b9l1.ev ⟨pr.run (k + 2), pr⟩) pcD (fun (f : Option Try) en s => (∃ y5, en = [some (pcD p), some (.lst (S.map pcD)), some (tsD ts), some (tsD (own ts p)), some (tryO p f), y5, none]) ∧ s = st) (stepO t0 (own ts p) p) S (toldO t0 (own ts p) p) [some (pcD p), some (.lst (S.map pcD)), some (tsD ts), some (tsD (own ts p)), some (tryO p (toldO t0 (own ts p) p)), none, none] st
    (fun f o en s _ ⟨⟨y5, h⟩, hs⟩ => by
      subst h hs
      exact ⟨_, _, _, rfl, body4 wf h0 (fun t h => own_mem h) hl2 f, ⟨_, rfl⟩, rfl⟩) ⟨⟨none, rfl⟩, rfl⟩
  subst h1 h2
  rw [rel_fold h0] at e3
  have e4 : (hd (tl (tl b9))).ev ⟨pr.run (k + 2), pr⟩ [some (pcD p), some (.lst (S.map pcD)), some (tsD ts), some (tsD (own ts p)), some (tryO p (toldO t0 (own ts p) p)), none, none] s' = .nx [some (pcD p), some (.lst (S.map pcD)), some (tsD ts), some (tsD (own ts p)), some (tryO p (rel S t0 (own ts p) p)), y5, none] s' := (sm_for (items := S.map pcD) rfl).trans e3
  rw [r9]
  refine (defF_rt (en := [some (pcD p), some (.lst (S.map pcD)), some (tsD ts), none, none, none, none]) rfl ?_).trans (by rw [cut_wf wf])
  rw [ev_cons rfl e1, ev_cons rfl e2, ev_cons rfl e4]
  exact one_rt (sm_ret rfl)
end Tie
end

section
set_option Elab.async false
set_option linter.all false
set_option maxRecDepth 100000
set_option maxHeartbeats 4000000
namespace Tie
open PySem PySem.Spec PyProof.Rows L2 LB
variable {st : Sto} {k m : Nat}
def relP (ts : List Talk) (p : Plc) : Option Try := match own ts p with
  | [] => none
  | t0 :: _ => rel (places ts) t0 (own ts p) p
def found (ts : List Talk) : List D := (places ts).filterMap fun p => (relP ts p).map (tryD p)
theorem own_head {ts : List Talk} {p : Plc} (h : p ∈ places ts) : ∃ t0 r, own ts p = t0 :: r := by
  obtain ⟨t, ht, w⟩ := places_mem h
  cases e : own ts p with
  | nil =>
    have : t ∈ own ts p := List.mem_filter.mpr ⟨ht, w⟩
    rw [e] at this; cases this
  | cons t0 r => exact ⟨t0, r, rfl⟩
theorem relP_eq {ts : List Talk} {p : Plc} {t0 : Talk} {r : List Talk} (e : own ts p = t0 :: r) : relP ts p = rel (places ts) t0 (own ts p) p := by
  unfold relP; rw [e]
theorem unlike_len {α : Type} [DecidableEq α] : ∀ (xs acc : List α), (unlike acc xs).length ≤ acc.length + xs.length
  | [], acc => by simp [unlike]
  | x :: xs, acc => by
    rw [unlike]
    split
    · exact Nat.le_trans (unlike_len xs acc) (by simp)
    · exact Nat.le_trans (unlike_len xs _) (by simp; omega)
theorem places_len (ts : List Talk) : (places ts).length ≤ (prs ts).length := by
  unfold places
  rw [(isort_perm _).length_eq]
  simpa using unlike_len (prs ts) []
theorem filt_map {α : Type} (f : α → Option Try) (g : α → Try → D) (h : α → D) (e : ∀ a z, f a = some z → h a = g a z) : ∀ l : List α, (l.filter fun a => (f a).isSome).map h = l.filterMap fun a => (f a).map (g a)
  | [] => rfl
  | a :: l => by
    rw [List.filter_cons, List.filterMap_cons]
    cases q : f a with
    | none => simpa using filt_map f g h e l
    | some z => simp [e a z q]; exact filt_map f g h e l
theorem q5 (wf : st.Wf) {ts : List Talk} (hl : ts.length < 64) (hq : (prs ts).length < 64) : pr.run (k + 4) 10 [tsD ts] st = .ok (.lst (found ts)) st := by
  have pl := places_len ts
  have e1 : (hd b10).ev ⟨pr.run (k + 3), pr⟩ [some (tsD ts), none, none, none, none] st = .nx [some (tsD ts), some (.lst ((places ts).map pcD)), none, none, none] st := by
    simp [hd, b10, q1 (k := k + 2) wf hq]
  have e2 : (hd (tl b10)).ev ⟨pr.run (k + 3), pr⟩ [some (tsD ts), some (.lst ((places ts).map pcD)), none, none, none] st = .nx [some (tsD ts), some (.lst ((places ts).map pcD)), some (.lst ((places ts).map fun p => tryO p (relP ts p))), none, none] st := by
    have c := compF_map (bt := (Tg.nm 3).bt) (vs := [3]) (ct := TeO.no.ev ⟨pr.run (k + 3), pr⟩) (fe := b10c0.ev ⟨pr.run (k + 3), pr⟩) (en := [some (tsD ts), some (.lst ((places ts).map pcD)), none, none, none]) (st := st) (fun _ _ => rfl) pcD (fun p => tryO p (relP ts p)) (places ts) (fun p hp => ⟨[some (tsD ts), some (.lst ((places ts).map pcD)), none, some (pcD p), none], rfl, by
      obtain ⟨t0, r, e⟩ := own_head hp
      rw [relP_eq e]
      simp [b10c0, q4 (k := k) (S := places ts) wf (t0 := t0) (p := p) (by rw [e]; exact List.mem_cons_self ..) hl]⟩)
    have d := compL_ok (items := (places ts).map pcD) (f := (It.seq (.var 1)).ev ⟨pr.run (k + 3), pr⟩) rfl (by rw [List.length_map]; omega) c
    show (compL _ _ _ _ _ _ _ _).fl _ _ = _
    refine (congrArg (fun r => Res.fl r _ _) d).trans ?_
    rfl
  have e3 : (tl (tl b10)).ev ⟨pr.run (k + 3), pr⟩ [some (tsD ts), some (.lst ((places ts).map pcD)), some (.lst ((places ts).map fun p => tryO p (relP ts p))), none, none] st = .rt (.lst (found ts)) st := by
    have c := compF_filter (bt := (Tg.nm 4).bt) (vs := [4]) (ct := (TeO.yes (.cmp .isn (.var 4) .non)).ev ⟨pr.run (k + 3), pr⟩) (fe := b10c1.ev ⟨pr.run (k + 3), pr⟩) (en := [some (tsD ts), some (.lst ((places ts).map pcD)), some (.lst ((places ts).map fun p => tryO p (relP ts p))), none, none]) (st := st) (fun p => tryO p (relP ts p)) (fun p => (relP ts p).isSome) (fun p => tryO p (relP ts p)) (places ts) fun p _ => ⟨[some (tsD ts), some (.lst ((places ts).map pcD)), some (.lst ((places ts).map fun p => tryO p (relP ts p))), none, some (tryO p (relP ts p))], rfl, by simp [isn_non], fun _ => by simp [b10c1]⟩
    rw [filt_map (relP ts) tryD (fun p => tryO p (relP ts p)) (fun a z e => by rw [e]; rfl)] at c
    have d := compL_ok (items := (places ts).map fun p => tryO p (relP ts p)) (f := (It.seq (.var 2)).ev ⟨pr.run (k + 3), pr⟩) rfl (by rw [List.length_map]; omega) c
    exact one_rt (sm_ret (by simp only [Ex.ev]; exact d))
  rw [r10]
  refine (defF_rt (en := [some (tsD ts), none, none, none, none]) rfl ?_).trans (by rw [cut_wf wf])
  rw [ev_cons rfl e1, ev_cons rfl e2]; exact e3
/-! the law's own -/
def so (t : Talk) (p : Plc) : Try → Bool
  | (none, v) => decide (wr t p = v)
  | (some o, v) => (wor t o).isNone || decide (wr t p - wr t o = v)
theorem isn_pc (o : Plc) (s : Sto) : isnF (pcD o) .non s = some (.bl true, s) := rfl
theorem isn_nn (s : Sto) : isnF .non .non s = some (.bl false, s) := rfl
theorem is_nn (s : Sto) : isF .non .non s = some (.bl true, s) := rfl
theorem is_int (i : Int) (s : Sto) : isF (.int i) .non s = some (.bl false, s) := rfl
theorem q10 (wf : st.Wf) {t : Talk} {p : Plc} (hp : (wor t p).isSome = true) (z : Try) : pr.run (k + 2) 15 [tryD p z, tD t] st = .ok (.bl (so t p z)) st := by
  have w := wr_of hp
  obtain ⟨o, v⟩ := z
  rw [r15]
  cases o with
  | none => simp [b15, tryD, rD, at1, at2, at3, q9 wf, w, oD, so, cut_wf wf, isn_nn, is_int]
  | some o =>
    cases e : wor t o with
    | none => simp [b15, tryD, rD, at1, at2, at3, q9 wf, w, e, oD, so, cut_wf wf, isn_pc, is_nn, is_int]
    | some j =>
      have w2 : wr t o = j := by unfold wr; rw [e]; rfl
      simp [b15, tryD, rD, at1, at2, at3, q9 wf, w, e, oD, so, cut_wf wf, isn_pc, is_int, w2]
end Tie
end

section
set_option Elab.async false
set_option linter.all false
set_option maxRecDepth 100000
set_option maxHeartbeats 4000000
namespace Tie
open PySem PySem.Spec PyProof.Rows L2 LB
variable {st : Sto} {k m : Nat}
theorem pyD_t {t : Talk} (h : t ≠ []) : pyD (tD t) = none := by
  cases t with
  | nil => exact absurd rfl h
  | cons l r => simp [tD, lD, fD, pyD, pyDs]
theorem eqG_own {ow : List Talk} (h : ∀ t ∈ ow, t ≠ []) (s : Sto) : eqG (.lst (ow.map tD)) (.lst []) s = some ow.isEmpty := by
  cases ow with
  | nil =>
    have e : eqD (.lst []) (.lst []) s = some true := by
      show (if SeqAt.shaped (.list []) && SeqAt.shaped (.list []) then some (PyData.eqv (.list []) (.list [])) else none) = _
      decide +kernel
    unfold eqG
    rw [List.map_nil, e]; rfl
  | cons t r =>
    have p : pyD (tD t) = none := pyD_t (h t (List.mem_cons_self ..))
    have e : eqD (.lst ((t :: r).map tD)) (.lst []) s = none := by
      show (match pyT s (.lst ((t :: r).map tD)), pyT s (.lst []) with
        | some x, some y => if SeqAt.shaped x && SeqAt.shaped y then some (PyData.eqv x y) else none
        | _, _ => none) = none
      have : pyT s (.lst ((t :: r).map tD)) = none := by
        show pyD (.lst ((t :: r).map tD)) = none
        simp [pyD, pyDs, p]
      rw [this]
    unfold eqG
    rw [e]
    rfl
theorem own_ne {ts : List Talk} {p : Plc} {t : Talk} (h : t ∈ own ts p) : t ≠ [] := fun e => by
  have := own_mem h
  rw [e] at this
  cases this
def lk (t : Talk) : Try → Bool
  | (none, _) => false
  | (some o, _) => (wor t o).isNone
theorem empty_filter {α : Type} (f : α → Bool) : ∀ l : List α, (l.filter f).isEmpty = l.all fun a => !f a
  | [] => rfl
  | a :: l => by
    rw [List.filter_cons, List.all_cons, ← empty_filter f l]
    cases f a <;> simp
theorem beqI (a b : Int) : (a == b) = decide (a = b) := by
  by_cases h : a = b <;> simp [h]
theorem ix0 (t0 : Talk) (r : List Talk) (s : Sto) : ixF (tsD (t0 :: r)) (.int 0) s = some (tD t0, s) := by simp [tsD, at0]
theorem holds_eq (ow : List Talk) (p : Plc) (z : Try) : holds ow p z = ((ow.filter fun t => lk t z).isEmpty && (ow.filter fun t => !so t p z).isEmpty) := by
  rw [empty_filter, empty_filter]
  obtain ⟨o, v⟩ := z
  cases o with
  | none =>
    show (ow.all fun t => wr t p == v) = ((ow.all fun t => !false) && ow.all fun t => !!decide (wr t p = v))
    induction ow with
    | nil => rfl
    | cons t r ih =>
      simp only [List.all_cons, beqI] at ih ⊢
      rw [ih]
      cases decide (wr t p = v) <;> simp
  | some o =>
    show ((ow.all fun t => (wor t o).isSome) && ow.all fun t => wr t p - wr t o == v) = ((ow.all fun t => !(wor t o).isNone) && ow.all fun t => !!((wor t o).isNone || decide (wr t p - wr t o = v)))
    induction ow with
    | nil => rfl
    | cons t r ih =>
      simp only [List.all_cons, beqI] at ih ⊢
      cases wor t o with
      | none => simp
      | some j =>
        simp only [Option.isSome_some, Option.isNone_some, Bool.true_and, Bool.not_false, Bool.false_or, Bool.not_not] at ih ⊢
        cases decide (wr t p - wr t o = v)
        · simp
        · simpa using ih
/-! the first loop: what is tried -/
theorem body12a (wf : st.Wf) {n1 q : Nat} {x0 x2 y8 y9 y11 : Option D} {p o : Plc} {t0 : Talk} {r : List Talk} {T : List Try} (ob : st.ob q = some (.lst (T.map (tryD p)))) (hT : T.length < 1000) :
    ∃ s' y11', b17l1.ev ⟨pr.run (k + 1), pr⟩ [x0, some (.ref n1), x2, some (pcD p), some (tsD (t0 :: r)), some (.int (wr t0 p)), some (.ref q), some (pcD o), y8, y9, none, y11] st = .nx [x0, some (.ref n1), x2, some (pcD p), some (tsD (t0 :: r)), some (.int (wr t0 p)), some (.ref q), some (pcD o), y8, y9, none, y11'] s' ∧ s'.Wf ∧ s'.nx = st.nx ∧ (∀ i, i ≠ q → s'.ob i = st.ob i) ∧ s'.ob q = some (.lst ((T ++ (othT t0 p o).toList).map (tryD p))) := by
  have lt := ltG_pl o p st
  have c9 := q9 (k := k) wf t0 o
  have iso := isn_o (wor t0 o) st
  cases l : ltP o p with
  | false =>
    rw [l] at lt
    refine ⟨st, y11, ?_, wf, rfl, fun _ _ => rfl, ?_⟩
    · simp [b17l1, lt]
    · have e : othT t0 p o = none := by unfold othT; rw [l]; rfl
      rw [e, ob]; simp
  | true =>
    rw [l] at lt
    cases w : wor t0 o with
    | none =>
      rw [w] at c9 iso
      simp only [oD] at c9 iso
      refine ⟨st, y11, ?_, wf, rfl, fun _ _ => rfl, ?_⟩
      · simp [b17l1, lt, ix0, c9, iso]
      · have e : othT t0 p o = none := by unfold othT; rw [l, w]; rfl
        rw [e, ob]; simp
    | some j =>
      have w2 : wr t0 o = j := by unfold wr; rw [w]; rfl
      rw [w] at c9 iso
      have e : othT t0 p o = some (some o, wr t0 p - j) := by unfold othT; rw [l, w, w2]; rfl
      have ln := nx_of wf ob
      refine ⟨st.put q (.lst (T.map (tryD p) ++ [tryD p (some o, wr t0 p - j)])), some (.int (wr t0 p - j)), ?_, put_wf wf ln, rfl, fun i hi => if_neg hi, ?_⟩
      · simp only [oD] at c9 iso
        by_cases z : wr t0 p - j = 0
        · simp [b17l1, lt, ix0, at0, at1, c9, iso, ob, show T.length < 16777216 by omega, tryD, rD, z]
        · simp [b17l1, lt, ix0, at0, at1, c9, iso, ob, show T.length < 16777216 by omega, tryD, rD, z]
      · rw [put_ob, e]; simp
theorem loop12a {n1 q : Nat} {x0 x2 y8 y9 : Option D} {p : Plc} {t0 : Talk} {r : List Talk} : ∀ (S : List Plc) (s : Sto) (T : List Try) (y7 y11 : Option D), s.Wf → s.ob q = some (.lst (T.map (tryD p))) → T.length + S.length < 1000 →
    ∃ s' z7 z11, forF (Tg.nm 7).bt (b17l1.ev ⟨pr.run (k + 1), pr⟩) (S.map pcD) [x0, some (.ref n1), x2, some (pcD p), some (tsD (t0 :: r)), some (.int (wr t0 p)), some (.ref q), y7, y8, y9, none, y11] s = .nx [x0, some (.ref n1), x2, some (pcD p), some (tsD (t0 :: r)), some (.int (wr t0 p)), some (.ref q), z7, y8, y9, none, z11] s' ∧ s'.Wf ∧ s'.nx = s.nx ∧ (∀ i, i ≠ q → s'.ob i = s.ob i) ∧ s'.ob q = some (.lst ((T ++ S.filterMap (othT t0 p)).map (tryD p)))
  | [], s, T, y7, y11, wf, ob, _ => ⟨s, y7, y11, rfl, wf, rfl, fun _ _ => rfl, by simpa using ob⟩
  | o :: S, s, T, y7, y11, wf, ob, h => by
    obtain ⟨s1, z11, e, w1, n1', o1, ob1⟩ := body12a (k := k) wf (n1 := n1) (x0 := x0) (x2 := x2) (y8 := y8) (y9 := y9) (y11 := y11) (p := p) (o := o) (t0 := t0) (r := r) ob (by simp at h; omega)
    have hT : (othT t0 p o).toList.length ≤ 1 := by cases othT t0 p o <;> simp
    obtain ⟨s2, u7, u11, e2, w2, n2, o2, ob2⟩ := loop12a S s1 (T ++ (othT t0 p o).toList) (some (pcD o)) z11 w1 ob1 (by rw [List.length_append]; simp at h; omega)
    refine ⟨s2, u7, u11, ?_, w2, n2.trans n1', fun i hi => (o2 i hi).trans (o1 i hi), ?_⟩
    · rw [List.map_cons, forF]
      have bt : (Tg.nm 7).bt (pcD o) [x0, some (.ref n1), x2, some (pcD p), some (tsD (t0 :: r)), some (.int (wr t0 p)), some (.ref q), y7, y8, y9, none, y11] = some [x0, some (.ref n1), x2, some (pcD p), some (tsD (t0 :: r)), some (.int (wr t0 p)), some (.ref q), some (pcD o), y8, y9, none, y11] := rfl
      rw [bt]
      simp only [e]
      exact e2
    · rw [ob2, List.filterMap_cons, List.append_assoc]
      cases othT t0 p o <;> rfl
end Tie
end

section
set_option Elab.async false
set_option linter.all false
set_option maxRecDepth 100000
set_option maxHeartbeats 4000000
namespace Tie
open PySem PySem.Spec PyProof.Rows L2 LB
variable {st : Sto} {k m : Nat}
theorem ev_frz {E : Ev} {i n : Nat} {r : Sms} {en : En} {ds : List D} (h1 : en[i]? = some (some (.ref n))) (h2 : st.ob n = some (.lst ds)) : (Sms.frz i r).ev E en st = r.ev E (en.set i (some (.lst ds))) (st.del n) := by simp only [Sms.ev, h1, h2]
def lkT : Te := .and (.cmp .isn (.ix (.var 8) (.int 2)) .non) (.cons (.cmp .is_ (.call 14 0 (.cons (.var 10) (.cons (.ix (.var 8) (.int 2)) .nil)) .nil) .non) .nil)
def soT : Te := .not (.val (.call 15 0 (.cons (.var 8) (.cons (.var 10) .nil)) .nil))
theorem lk_ev (wf : st.Wf) {x0 x1 x2 x3 x4 x5 x6 x7 x9 x11 : Option D} {p : Plc} {t : Talk} (z : Try) : (TeO.yes lkT).ev ⟨pr.run (k + 2), pr⟩ [x0, x1, x2, x3, x4, x5, x6, x7, some (tryD p z), x9, some (tD t), x11] st = .ok (lk t z) st := by
  obtain ⟨o, v⟩ := z
  cases o with
  | none => simp [lkT, tryD, rD, at2, isn_nn, lk]
  | some o => simp [lkT, tryD, rD, at2, isn_pc, lk, q9 wf, is_o]
theorem so_ev (wf : st.Wf) {x0 x1 x2 x3 x4 x5 x6 x7 x9 x11 : Option D} {p : Plc} {t : Talk} (hp : (wor t p).isSome = true) (z : Try) : (TeO.yes soT).ev ⟨pr.run (k + 2), pr⟩ [x0, x1, x2, x3, x4, x5, x6, x7, some (tryD p z), x9, some (tD t), x11] st = .ok (!so t p z) st := by
  simp [soT, q10 wf hp z]
def tlB (Z : Ex) : Sms := .cons (.ite (.and (.cmp .eq (.var 9) (.lst true .nil)) (.cons (.cmp .eq Z (.lst true .nil)) .nil)) (.cons (.expr (.meth .app (.var 1) (.cons (.var 8) .nil))) (.cons .brk .nil)) .nil) .nil
theorem body12b (wf : st.Wf) {n1 : Nat} {x0 x2 x5 x6 x7 y9 y11 : Option D} {p : Plc} {ow : List Talk} (hp : ∀ t ∈ ow, (wor t p).isSome = true) (hne : ∀ t ∈ ow, t ≠ []) (hl : ow.length < 64) (z : Try) {fs : List D} (ob : st.ob n1 = some (.lst fs)) (hf : fs.length < 1000) :
    b17l4.ev ⟨pr.run (k + 2), pr⟩ [x0, some (.ref n1), x2, some (pcD p), some (tsD ow), x5, x6, x7, some (tryD p z), y9, none, y11] st =
      if holds ow p z then .bk [x0, some (.ref n1), x2, some (pcD p), some (tsD ow), x5, x6, x7, some (tryD p z), some (.lst ((ow.filter fun t => lk t z).map tD)), none, y11] (st.put n1 (.lst (fs ++ [tryD p z])))
      else .nx [x0, some (.ref n1), x2, some (pcD p), some (tsD ow), x5, x6, x7, some (tryD p z), some (.lst ((ow.filter fun t => lk t z).map tD)), none, y11] st := by
  have e1 : (hd b17l4).ev ⟨pr.run (k + 2), pr⟩ [x0, some (.ref n1), x2, some (pcD p), some (tsD ow), x5, x6, x7, some (tryD p z), y9, none, y11] st = .nx [x0, some (.ref n1), x2, some (pcD p), some (tsD ow), x5, x6, x7, some (tryD p z), some (.lst ((ow.filter fun t => lk t z).map tD)), none, y11] st := by
    have c := compF_filter (bt := (Tg.nm 10).bt) (vs := [10]) (ct := (TeO.yes lkT).ev ⟨pr.run (k + 2), pr⟩) (fe := b17c2.ev ⟨pr.run (k + 2), pr⟩) (en := [x0, some (.ref n1), x2, some (pcD p), some (tsD ow), x5, x6, x7, some (tryD p z), y9, none, y11]) (st := st) tD (fun t => lk t z) tD ow fun t _ => ⟨[x0, some (.ref n1), x2, some (pcD p), some (tsD ow), x5, x6, x7, some (tryD p z), y9, some (tD t), y11], rfl, lk_ev wf z, fun _ => by simp [b17c2]⟩
    have d := compL_ok (items := ow.map tD) (f := (It.seq (.var 4)).ev ⟨pr.run (k + 2), pr⟩) rfl (by rw [List.length_map]; omega) c
    show (compL _ _ _ _ _ _ _ _).fl _ _ = _
    refine (congrArg (fun r => Res.fl r _ _) d).trans ?_
    rfl
  have c2 : (Ex.comp true [("_law_talk", 10)] (.nm 10) (.seq (.var 4)) (.yes soT) b17c3).ev ⟨pr.run (k + 2), pr⟩ [x0, some (.ref n1), x2, some (pcD p), some (tsD ow), x5, x6, x7, some (tryD p z), some (.lst ((ow.filter fun t => lk t z).map tD)), none, y11] st = .ok (.lst ((ow.filter fun t => !so t p z).map tD)) st :=
    ex_comp (items := ow.map tD) rfl (by rw [List.length_map]; omega) (compF_filter tD (fun t => !so t p z) tD ow fun t ht => ⟨[x0, some (.ref n1), x2, some (pcD p), some (tsD ow), x5, x6, x7, some (tryD p z), some (.lst ((ow.filter fun t => lk t z).map tD)), some (tD t), y11], rfl, so_ev wf (hp t ht) z, fun _ => by simp [b17c3]⟩)
  have g1 : eqG (.lst ((ow.filter fun t => lk t z).map tD)) (.lst []) st = some (ow.filter fun t => lk t z).isEmpty := eqG_own (fun t ht => hne t (List.mem_filter.mp ht).1) st
  have g2 : eqG (.lst ((ow.filter fun t => !so t p z).map tD)) (.lst []) st = some (ow.filter fun t => !so t p z).isEmpty := eqG_own (fun t ht => hne t (List.mem_filter.mp ht).1) st
  rw [ev_cons rfl e1, holds_eq]
  generalize (ow.filter fun t => lk t z) = L1 at *
  generalize (ow.filter fun t => !so t p z) = L2 at *
  unfold soT at c2
  have f1 : eqF (.lst (L1.map tD)) (.lst []) st = some (.bl L1.isEmpty, st) := by unfold eqF; rw [g1]; rfl
  have f2 : eqF (.lst (L2.map tD)) (.lst []) st = some (.bl L2.isEmpty, st) := by unfold eqF; rw [g2]; rfl
  have hf2 : fs.length < 16777216 := by omega
  show (tlB (Ex.comp true [("_law_talk", 10)] (.nm 10) (.seq (.var 4)) (.yes (.not (.val (.call 15 0 (.cons (.var 8) (.cons (.var 10) .nil)) .nil)))) b17c3)).ev _ _ _ = _
  generalize (Ex.comp true [("_law_talk", 10)] (.nm 10) (.seq (.var 4)) (.yes (.not (.val (.call 15 0 (.cons (.var 8) (.cons (.var 10) .nil)) .nil)))) b17c3) = Z at c2 ⊢
  cases h1 : L1.isEmpty with
  | false => rw [h1] at f1; simp [-sx_eqF_1, tlB, f1]
  | true =>
    rw [h1] at f1
    cases h2 : L2.isEmpty with
    | false => rw [h2] at f2; simp [-sx_eqF_1, tlB, f1, c2, f2]
    | true => rw [h2] at f2; simp [-sx_eqF_1, tlB, f1, c2, f2, ob, hf2]
/-- the first that holds is taken -/
theorem loop12b {n1 : Nat} {x0 x2 x5 x6 x7 y11 : Option D} {p : Plc} {ow : List Talk} (hp : ∀ t ∈ ow, (wor t p).isSome = true) (hne : ∀ t ∈ ow, t ≠ []) (hl : ow.length < 64) {s : Sto} (wf : s.Wf) {fs : List D} (ob : s.ob n1 = some (.lst fs)) (hf : fs.length < 1000) : ∀ (T : List Try) (y8 y9 : Option D),
    ∃ s' z8 z9, forF (Tg.nm 8).bt (b17l4.ev ⟨pr.run (k + 2), pr⟩) (T.map (tryD p)) [x0, some (.ref n1), x2, some (pcD p), some (tsD ow), x5, x6, x7, y8, y9, none, y11] s = .nx [x0, some (.ref n1), x2, some (pcD p), some (tsD ow), x5, x6, x7, z8, z9, none, y11] s' ∧ s'.Wf ∧ s'.nx = s.nx ∧ (∀ i, i ≠ n1 → s'.ob i = s.ob i) ∧ s'.ob n1 = some (.lst (fs ++ ((T.find? (holds ow p)).map (tryD p)).toList))
  | [], y8, y9 => ⟨s, y8, y9, rfl, wf, rfl, fun _ _ => rfl, by simpa using ob⟩
  | z :: T, y8, y9 => by
    have e := body12b (k := k) wf (x0 := x0) (x2 := x2) (x5 := x5) (x6 := x6) (x7 := x7) (y9 := y9) (y11 := y11) hp hne hl z ob hf
    have bt : (Tg.nm 8).bt (tryD p z) [x0, some (.ref n1), x2, some (pcD p), some (tsD ow), x5, x6, x7, y8, y9, none, y11] = some [x0, some (.ref n1), x2, some (pcD p), some (tsD ow), x5, x6, x7, some (tryD p z), y9, none, y11] := rfl
    by_cases c : holds ow p z = true
    · rw [if_pos c] at e
      refine ⟨s.put n1 (.lst (fs ++ [tryD p z])), some (tryD p z), some (.lst ((ow.filter fun t => lk t z).map tD)), ?_, put_wf wf (nx_of wf ob), rfl, fun i hi => if_neg hi, ?_⟩
      · rw [List.map_cons, forF, bt]
        simp only [e]
      · rw [put_ob, List.find?_cons_of_pos c]; rfl
    · rw [if_neg c] at e
      obtain ⟨s', z8, z9, e2, w, n, o, b⟩ := loop12b hp hne hl wf ob hf T (some (tryD p z)) (some (.lst ((ow.filter fun t => lk t z).map tD)))
      refine ⟨s', z8, z9, ?_, w, n, o, ?_⟩
      · rw [List.map_cons, forF, bt]
        simp only [e]
        exact e2
      · rw [b, List.find?_cons_of_neg c]
theorem body12c (wf : st.Wf) {n1 : Nat} {ts : List Talk} {p : Plc} (hp : p ∈ places ts) (hl : ts.length < 64) (hS : (places ts).length < 64) {fs : List D} (ob : st.ob n1 = some (.lst fs)) (hf : fs.length < 900) (y4 y5 y6 y7 y8 y9 y11 : Option D) :
    ∃ s' z4 z5 z6 z7 z8 z9 z11, b17l5.ev ⟨pr.run (k + 2), pr⟩ [some (tsD ts), some (.ref n1), some (.lst ((places ts).map pcD)), some (pcD p), y4, y5, y6, y7, y8, y9, none, y11] st = .nx [some (tsD ts), some (.ref n1), some (.lst ((places ts).map pcD)), some (pcD p), z4, z5, z6, z7, z8, z9, none, z11] s' ∧ s'.Wf ∧ st.nx ≤ s'.nx ∧ (∀ i, i ≠ n1 → i < st.nx → s'.ob i = st.ob i) ∧ s'.ob n1 = some (.lst (fs ++ ((relP ts p).map (tryD p)).toList)) := by
  obtain ⟨t0, r, eo⟩ := own_head hp
  have hl2 : (own ts p).length < 64 := Nat.lt_of_le_of_lt (List.length_filter_le ..) hl
  have hm : ∀ t ∈ t0 :: r, t ∈ own ts p := fun t h => by rw [eo]; exact h
  have w0 := wr_of (own_mem (hm t0 (List.mem_cons_self ..)))
  have ln := nx_of wf ob
  have e1 : (hd b17l5).ev ⟨pr.run (k + 2), pr⟩ [some (tsD ts), some (.ref n1), some (.lst ((places ts).map pcD)), some (pcD p), y4, y5, y6, y7, y8, y9, none, y11] st = .nx [some (tsD ts), some (.ref n1), some (.lst ((places ts).map pcD)), some (pcD p), some (tsD (t0 :: r)), y5, y6, y7, y8, y9, none, y11] st := by
    have c := compF_filter (bt := (Tg.nm 10).bt) (vs := [10]) (ct := (TeO.yes (.cmp .isn (.call 14 0 (.cons (.var 10) (.cons (.var 3) .nil)) .nil) .non)).ev ⟨pr.run (k + 2), pr⟩) (fe := b17c0.ev ⟨pr.run (k + 2), pr⟩) (en := [some (tsD ts), some (.ref n1), some (.lst ((places ts).map pcD)), some (pcD p), y4, y5, y6, y7, y8, y9, none, y11]) (st := st) tD (fun t => (wor t p).isSome) tD ts fun t _ => ⟨[some (tsD ts), some (.ref n1), some (.lst ((places ts).map pcD)), some (pcD p), y4, y5, y6, y7, y8, y9, some (tD t), y11], rfl, by simp [q9 wf, isn_o], fun _ => by simp [b17c0]⟩
    have d := compL_ok (items := ts.map tD) (f := (It.seq (.var 0)).ev ⟨pr.run (k + 2), pr⟩) rfl (by rw [List.length_map]; omega) c
    show (compL _ _ _ _ _ _ _ _).fl _ _ = _
    refine (congrArg (fun r => Res.fl r _ _) d).trans ?_
    rw [show ts.filter (fun t => (wor t p).isSome) = t0 :: r from eo]
    rfl
  have e2 : (hd (tl b17l5)).ev ⟨pr.run (k + 2), pr⟩ [some (tsD ts), some (.ref n1), some (.lst ((places ts).map pcD)), some (pcD p), some (tsD (t0 :: r)), y5, y6, y7, y8, y9, none, y11] st = .nx [some (tsD ts), some (.ref n1), some (.lst ((places ts).map pcD)), some (pcD p), some (tsD (t0 :: r)), some (.int (wr t0 p)), y6, y7, y8, y9, none, y11] st := by
    simp [hd, tl, b17l5, ix0, q9 wf, w0, oD]
  have e3 : (hd (tl (tl b17l5))).ev ⟨pr.run (k + 2), pr⟩ [some (tsD ts), some (.ref n1), some (.lst ((places ts).map pcD)), some (pcD p), some (tsD (t0 :: r)), some (.int (wr t0 p)), y6, y7, y8, y9, none, y11] st = .nx [some (tsD ts), some (.ref n1), some (.lst ((places ts).map pcD)), some (pcD p), some (tsD (t0 :: r)), some (.int (wr t0 p)), some (.ref st.nx), y7, y8, y9, none, y11] (st.new (.lst [tryD p (none, wr t0 p)])) := by
    simp [hd, tl, b17l5, tryD, rD]
  obtain ⟨s1, z7, z11, e4, w1, n1', o1, b1'⟩ := loop12a (k := k + 1) (n1 := n1) (q := st.nx) (x0 := some (tsD ts)) (x2 := some (.lst ((places ts).map pcD))) (y8 := y8) (y9 := y9) (p := p) (t0 := t0) (r := r) (places ts) (st.new (.lst [tryD p (none, wr t0 p)])) [(none, wr t0 p)] y7 y11 (new_wf wf) (new_ob ..) (by simp; omega)
  have e5 : (hd (tl (tl (tl b17l5)))).ev ⟨pr.run (k + 2), pr⟩ [some (tsD ts), some (.ref n1), some (.lst ((places ts).map pcD)), some (pcD p), some (tsD (t0 :: r)), some (.int (wr t0 p)), some (.ref st.nx), y7, y8, y9, none, y11] (st.new (.lst [tryD p (none, wr t0 p)])) = _ := (sm_for (items := (places ts).map pcD) rfl).trans e4
  have nn : n1 ≠ st.nx := by omega
  have ob1 : s1.ob n1 = some (.lst fs) := (o1 n1 nn).trans ((if_neg nn).trans ob)
  have wd : (s1.del st.nx).Wf := fun i hi => by
    show (if i = st.nx then none else s1.ob i) = none
    split
    · rfl
    · exact w1 i hi
  have obd : (s1.del st.nx).ob n1 = some (.lst fs) := (if_neg nn).trans ob1
  obtain ⟨s2, z8, z9, e6, w2, n2, o2, b2'⟩ := loop12b (k := k) (n1 := n1) (x0 := some (tsD ts)) (x2 := some (.lst ((places ts).map pcD))) (x5 := some (.int (wr t0 p))) (x6 := some (.lst ((tries (places ts) t0 p).map (tryD p)))) (x7 := z7) (y11 := z11) (p := p) (ow := t0 :: r) (fun t h => own_mem (hm t h)) (fun t h => own_ne (hm t h)) (by rw [← eo]; exact hl2) wd obd (by omega) (tries (places ts) t0 p) y8 y9
  refine ⟨s2, some (tsD (t0 :: r)), some (.int (wr t0 p)), some (.lst ((tries (places ts) t0 p).map (tryD p))), z7, z8, z9, z11, ?_, w2, ?_, ?_, ?_⟩
  · rw [ev_cons rfl e1, ev_cons rfl e2, ev_cons rfl e3, ev_cons rfl e5]
    have fr : (tl (tl (tl (tl b17l5)))).ev ⟨pr.run (k + 2), pr⟩ [some (tsD ts), some (.ref n1), some (.lst ((places ts).map pcD)), some (pcD p), some (tsD (t0 :: r)), some (.int (wr t0 p)), some (.ref st.nx), z7, y8, y9, none, z11] s1 = Sms.ev ⟨pr.run (k + 2), pr⟩ (.cons (.for_ (.nm 8) (.seq (.var 6)) b17l4) .nil) [some (tsD ts), some (.ref n1), some (.lst ((places ts).map pcD)), some (pcD p), some (tsD (t0 :: r)), some (.int (wr t0 p)), some (.lst ((tries (places ts) t0 p).map (tryD p))), z7, y8, y9, none, z11] (s1.del st.nx) := by
      exact ev_frz (i := 6) rfl b1'
    rw [fr]
    exact one_nx ((sm_for (items := (tries (places ts) t0 p).map (tryD p)) rfl).trans e6)
  · rw [n2]; show st.nx ≤ s1.nx; rw [n1']; exact Nat.le_succ _
  · intro i h1 h2
    have h3 : i ≠ st.nx := by omega
    exact (o2 i h1).trans ((if_neg h3).trans ((o1 i h3).trans (if_neg h3)))
  · rw [b2', relP_eq eo, eo]; rfl
theorem loop12c {n1 : Nat} {ts : List Talk} (hl : ts.length < 64) (hS : (places ts).length < 64) : ∀ (S : List Plc), (∀ p ∈ S, p ∈ places ts) → ∀ (s : Sto) (fs : List D) (y3 y4 y5 y6 y7 y8 y9 y11 : Option D), s.Wf → s.ob n1 = some (.lst fs) → fs.length + S.length < 900 →
    ∃ s' en', forF (Tg.nm 3).bt (b17l5.ev ⟨pr.run (k + 2), pr⟩) (S.map pcD) [some (tsD ts), some (.ref n1), some (.lst ((places ts).map pcD)), y3, y4, y5, y6, y7, y8, y9, none, y11] s = .nx (some (tsD ts) :: some (.ref n1) :: en') s' ∧ s'.Wf ∧ s.nx ≤ s'.nx ∧ (∀ i, i ≠ n1 → i < s.nx → s'.ob i = s.ob i) ∧ s'.ob n1 = some (.lst (fs ++ S.filterMap fun p => (relP ts p).map (tryD p)))
  | [], _, s, fs, y3, y4, y5, y6, y7, y8, y9, y11, wf, ob, _ => ⟨s, _, rfl, wf, Nat.le_refl _, fun _ _ _ => rfl, by simpa using ob⟩
  | p :: S, hm, s, fs, y3, y4, y5, y6, y7, y8, y9, y11, wf, ob, h => by
    obtain ⟨s1, z4, z5, z6, z7, z8, z9, z11, e, w1, n1', o1, b1'⟩ := body12c (k := k) wf (n1 := n1) (hm p (List.mem_cons_self ..)) hl hS ob (by simp at h; omega) y4 y5 y6 y7 y8 y9 y11
    have ht : ((relP ts p).map (tryD p)).toList.length ≤ 1 := by cases relP ts p <;> simp
    obtain ⟨s2, en', e2, w2, n2, o2, b2'⟩ := loop12c (n1 := n1) hl hS S (fun p hp => hm p (List.mem_cons_of_mem _ hp)) s1 _ (some (pcD p)) z4 z5 z6 z7 z8 z9 z11 w1 b1' (by rw [List.length_append]; simp at h; omega)
    refine ⟨s2, en', ?_, w2, by omega, fun i h1 h2 => (o2 i h1 (by omega)).trans (o1 i h1 h2), ?_⟩
    · rw [List.map_cons, forF]
      have bt : (Tg.nm 3).bt (pcD p) [some (tsD ts), some (.ref n1), some (.lst ((places ts).map pcD)), y3, y4, y5, y6, y7, y8, y9, none, y11] = some [some (tsD ts), some (.ref n1), some (.lst ((places ts).map pcD)), some (pcD p), y4, y5, y6, y7, y8, y9, none, y11] := rfl
      rw [bt]
      simp only [e]
      exact e2
    · rw [b2', List.filterMap_cons, List.append_assoc]
      cases relP ts p <;> rfl
/-- the store is as it was, but for how many numbers were given -/
structure Up (s s' : Sto) : Prop where
  nx : s.nx ≤ s'.nx
  ob : ∀ i, s'.ob i = s.ob i
theorem Up.wf {s s' : Sto} (h : Up s s') (wf : s.Wf) : s'.Wf := fun i hi => (h.ob i).trans (wf i (Nat.le_trans h.nx hi))
theorem q12 (wf : st.Wf) {ts : List Talk} (hl : ts.length < 64) (hq : (prs ts).length < 64) : ∃ s', pr.run (k + 3) 17 [tsD ts] st = .ok (.lst (found ts)) s' ∧ Up st s' := by
  have hS : (places ts).length < 64 := Nat.lt_of_le_of_lt (places_len ts) hq
  have w1 := new_wf (o := .lst []) wf
  have e1 : (hd b17).ev ⟨pr.run (k + 2), pr⟩ [some (tsD ts), none, none, none, none, none, none, none, none, none, none, none] st = .nx [some (tsD ts), some (.ref st.nx), none, none, none, none, none, none, none, none, none, none] (st.new (.lst [])) := by
    simp [hd, b17]
  have e2 : (hd (tl b17)).ev ⟨pr.run (k + 2), pr⟩ [some (tsD ts), some (.ref st.nx), none, none, none, none, none, none, none, none, none, none] (st.new (.lst [])) = .nx [some (tsD ts), some (.ref st.nx), some (.lst ((places ts).map pcD)), none, none, none, none, none, none, none, none, none] (st.new (.lst [])) := by
    simp [hd, tl, b17, q11 (k := k + 1) w1 hq]
  obtain ⟨s2, en', e3, w2, n2, o2, b2'⟩ := loop12c (k := k) (n1 := st.nx) (ts := ts) hl hS (places ts) (fun _ h => h) (st.new (.lst [])) [] none none none none none none none none w1 (new_ob ..) (by simp; omega)
  have e4 : (hd (tl (tl b17))).ev ⟨pr.run (k + 2), pr⟩ [some (tsD ts), some (.ref st.nx), some (.lst ((places ts).map pcD)), none, none, none, none, none, none, none, none, none] (st.new (.lst [])) = _ := (sm_for (items := (places ts).map pcD) rfl).trans e3
  have e5 : (tl (tl (tl b17))).ev ⟨pr.run (k + 2), pr⟩ (some (tsD ts) :: some (.ref st.nx) :: en') s2 = .rt (.lst (found ts)) (s2.del st.nx) := by
    refine (ev_frz (i := 1) (r := .cons (.ret (.var 1)) .nil) rfl b2').trans ?_
    rfl
  refine ⟨(s2.del st.nx).cut st.nx, ?_, ?_, fun i => ?_⟩
  · rw [r17]
    refine (defF_rt (en := [some (tsD ts), none, none, none, none, none, none, none, none, none, none, none]) rfl ?_)
    rw [ev_cons rfl e1, ev_cons rfl e2, ev_cons rfl e4]; exact e5
  · show st.nx ≤ s2.nx
    have := n2; simp at this; omega
  · show (if i < st.nx then (if i = st.nx then none else s2.ob i) else none) = st.ob i
    by_cases h : i < st.nx
    · rw [if_pos h, if_neg (by omega), o2 i (by omega) (by show i < st.nx + 1; omega)]
      exact if_neg (by omega)
    · rw [if_neg h, wf i (by omega)]
end Tie
end

section
set_option Elab.async false
set_option linter.all false
set_option maxRecDepth 100000
set_option maxHeartbeats 4000000
namespace Tie
open PySem PySem.Spec PyProof.Rows L2 LB
variable {st : Sto} {k m : Nat}
theorem new_ob_ne {s : Sto} {o : Ob} {m : Nat} (h : m ≠ s.nx) : (s.new o).ob m = s.ob m := if_neg h
theorem put_ob_ne {s : Sto} {o : Ob} {m n : Nat} (h : m ≠ n) : (s.put n o).ob m = s.ob m := if_neg h
/-- the digits' pool lies at m -/
structure Pl (s : Sto) (m : Nat) : Prop where
  wf : s.Wf
  ob : ∃ A B : Int, s.ob m = some (.lst [.int A, .int B]) ∧ B.natAbs < 2 ^ 60
theorem Pl.lt {s : Sto} (h : Pl s m) : m < s.nx := by
  obtain ⟨A, B, e, _⟩ := h.ob
  exact nx_of h.wf e
/-- nothing but the pool is another one -/
structure Fr (m : Nat) (s s' : Sto) : Prop where
  nx : s'.nx = s.nx
  ob : ∀ i, i ≠ m → s'.ob i = s.ob i
  pl : Pl s' m
theorem Fr.trans {s s1 s2 : Sto} (a : Fr m s s1) (b : Fr m s1 s2) : Fr m s s2 := ⟨b.nx.trans a.nx, fun i h => (b.ob i h).trans (a.ob i h), b.pl⟩
theorem q_take {s : Sto} (h : Pl s m) {w : Int} (hw : 0 < w) (hf : w < 2 ^ 60) : ∃ v s', pr.run (k + 1) 12 [.ref m, .int w] s = .ok (.int v) s' ∧ 0 ≤ v ∧ v < w ∧ Fr m s s' := by
  obtain ⟨A, B, e, hB⟩ := h.ob
  have fw : fdivOk w = true := fdivOk_of hw (by omega)
  have lt := h.lt
  by_cases hA : 0 < A
  · have w1 := put_wf (o := .lst [.int (A / w), .int B]) h.wf lt
    refine ⟨A % w, s.put m (.lst [.int (A / w), .int B]), ?_, Int.emod_nonneg _ (by omega), Int.emod_lt_of_pos _ hw, rfl, fun i hi => if_neg hi, w1, _, _, put_ob .., hB⟩
    have c : (s.put m (.lst [.int (A / w), .int B])).cut s.nx = s.put m (.lst [.int (A / w), .int B]) := cut_wf w1
    rw [r12]
    simp [b12, e, hA, atI, ixN, fw, hw, c]
  · generalize hB' : (B * 48271 + 11) % 2147483647 = B'
    have b6 : 0 ≤ B' ∧ B' < 2147483647 := by omega
    have w1 := put_wf (o := .lst [.int A, .int B']) h.wf lt
    refine ⟨B' * B' % 2147483629 / 64 % w, s.put m (.lst [.int A, .int B']), ?_, Int.emod_nonneg _ (by omega), Int.emod_lt_of_pos _ hw, rfl, fun i hi => if_neg hi, w1, _, _, put_ob .., by omega⟩
    have c : (s.put m (.lst [.int A, .int B'])).cut s.nx = s.put m (.lst [.int A, .int B']) := cut_wf w1
    have m1 : mulOk B 48271 = true := mulOk_of 60 20 hB (by decide) (by decide)
    have m2 : mulOk B' B' = true := mulOk_of 40 40 (by omega) (by omega) (by decide)
    have f64 : fdivOk 64 = true := by decide
    rw [r12]
    simp [b12, e, hA, atI, ixN, m1, m2, f64, hB', hw, c]
theorem eqD_scr (ns : List Int) (s : Sto) : eqD (.scr ns) (.lst []) s = some (decide (ns = [])) := by
  have e1 : pyT s (.scr ns) = some (.list (ns.map .int)) := by
    show pyD (.scr ns) = _
    simp [pyD]
  have e2 : pyT s (.lst []) = some (.list ([].map .int)) := rfl
  show (match pyT s (.scr ns), pyT s (.lst []) with
    | some x, some y => if SeqAt.shaped x && SeqAt.shaped y then some (PyData.eqv x y) else none
    | _, _ => none) = _
  rw [e1, e2]
  show (if SeqAt.shaped (.list (ns.map .int)) && SeqAt.shaped (.list (([] : List Int).map .int)) then some (PyData.eqv (.list (ns.map .int)) (.list (([] : List Int).map .int))) else none) = _
  rw [shaped_lstI, shaped_lstI]
  show some (PyData.eqvAll (ns.map .int) (([] : List Int).map .int)) = _
  rw [eqvAll_ints]
theorem q_pool {st : Sto} (wf : st.Wf) (ns : List Int) (i : Nat) (hi : i < 64) (hc : ns = [] ∨ i < ns.length) (hn : ns.length ≤ 63) : ∃ s', pr.run (k + 1) 11 [.scr ns, .int i] st = .ok (.ref st.nx) s' ∧ Pl s' st.nx ∧ s'.nx = st.nx + 1 := by
  have pw : powOk 10 18 = true := by decide
  have pw2 : powOk 10 36 = true := by decide
  have s1 : (hd b11).ev ⟨pr.run k, pr⟩ [some (.scr ns), some (.int i), none, none] st = .nx [some (.scr ns), some (.int i), some (.int 0), none] st := rfl
  have eq1 : neF (.scr ns) (.lst []) st = some (.bl (!decide (ns = [])), st) := by unfold neF; rw [eqD_scr]; rfl
  obtain ⟨c, s23⟩ : ∃ c : Int, (tl b11).ev ⟨pr.run k, pr⟩ [some (.scr ns), some (.int i), some (.int 0), none] st = (tl (tl (tl b11))).ev ⟨pr.run k, pr⟩ [some (.scr ns), some (.int i), some (.int c), none] st := by
    by_cases h0 : ns = []
    · have t2 : (hd (tl b11)).ev ⟨pr.run k, pr⟩ [some (.scr ns), some (.int i), some (.int 0), none] st = .nx [some (.scr ns), some (.int i), some (.int 0), none] st := by
        rw [show decide (ns = []) = true from decide_eq_true h0] at eq1
        simp [-sx_neF_1, hd, tl, b11, eq1]
      have t3 : (hd (tl (tl b11))).ev ⟨pr.run k, pr⟩ [some (.scr ns), some (.int i), some (.int 0), none] st = .nx [some (.scr ns), some (.int i), some (.int 0), none] st := by
        subst h0
        have f18 : fdivOk 1000000000000000000 = true := by decide
        have f1 : fdivOk 1000003 = true := by decide
        simp [hd, tl, b11, pw, pw2, f18, f1, at0]
      exact ⟨0, by rw [ev_cons rfl t2, ev_cons rfl t3]⟩
    · have hl : i < ns.length := hc.resolve_left h0
      have a : atI (ns.map D.int) (i : Int) = some (.int ns[i]) := by
        unfold atI ixN
        rw [if_pos (by omega), if_pos (by simpa using hl)]
        simp [hl]
      have fl : fdivOk (ns.length : Int) = true := fdivOk_of (by omega) (by omega)
      have em : (i : Int) % (ns.length : Int) = i := Int.emod_eq_of_lt (by omega) (by omega)
      have t2 : (hd (tl b11)).ev ⟨pr.run k, pr⟩ [some (.scr ns), some (.int i), some (.int 0), none] st = .nx [some (.scr ns), some (.int i), some (.int ns[i]), none] st := by
        rw [show decide (ns = []) = false from decide_eq_false h0] at eq1
        simp [-sx_neF_1, hd, tl, b11, eq1, fl, em, a, show 0 < ns.length by omega]
      have t3 : (hd (tl (tl b11))).ev ⟨pr.run k, pr⟩ [some (.scr ns), some (.int i), some (.int ns[i]), none] st = .nx [some (.scr ns), some (.int i), some (.int ns[i]), none] st := by
        have : ¬ ((ns.length : Int) ≤ (i : Int)) := by omega
        simp [hd, tl, b11, this]
      exact ⟨ns[i], by rw [ev_cons rfl t2, ev_cons rfl t3]⟩
  have m0 : mulOk 104729 (i : Int) = true := mulOk_of 20 20 (by decide) (by omega) (by decide)
  generalize hP : (c % 2147483629 + 104729 * (i : Int) + 11) = P
  have hPb : P.natAbs < 2 ^ 60 := by omega
  have m1 : mulOk P 48271 = true := mulOk_of 60 20 hPb (by decide) (by decide)
  have s4 : (hd (tl (tl (tl b11)))).ev ⟨pr.run k, pr⟩ [some (.scr ns), some (.int i), some (.int c), none] st = .nx [some (.scr ns), some (.int i), some (.int c), some (.int (P * 48271 % 2147483647))] st := by
    simp [hd, tl, b11, m0, hP, m1]
  generalize hQ : P * 48271 % 2147483647 = Q at s4
  have hQ1 : 0 ≤ Q ∧ Q < 2147483647 := by omega
  obtain ⟨A, s5⟩ : ∃ A : Int, (tl (tl (tl (tl b11)))).ev ⟨pr.run k, pr⟩ [some (.scr ns), some (.int i), some (.int c), some (.int Q)] st = .rt (.ref st.nx) (st.new (.lst [.int A, .int Q])) := by
    have mk : ∀ t : Int, t.natAbs < 2 ^ 60 → mulOk c t = true := fun t h => by
      unfold mulOk
      rw [decide_eq_true h, Bool.or_true]
    by_cases h18 : (1000000000000000000 : Int) ≤ c
    · exact ⟨c * 1, by simp [tl, b11, pw, h18, mk 1 (by decide)]⟩
    · exact ⟨c * 0, by simp [tl, b11, pw, h18, mk 0 (by decide)]⟩
  refine ⟨st.new (.lst [.int A, .int Q]), ?_, ⟨new_wf wf, A, Q, new_ob .., by omega⟩, rfl⟩
  rw [r11]
  unfold defF
  rw [show ([D.scr ns, .int i].map some ++ List.replicate (4 - [D.scr ns, .int i].length) none) = [some (.scr ns), some (.int i), none, none] from rfl, ev_cons rfl s1, s23, ev_cons rfl s4, s5]
  rfl
end Tie
end

section
set_option Elab.async false
set_option linter.all false
set_option maxRecDepth 100000
set_option maxHeartbeats 4000000
namespace Tie
open PySem PySem.Spec PyProof.Rows L2 LB
variable {st : Sto} {k m : Nat}
theorem Pl.new {s : Sto} (h : Pl s m) (o : Ob) : Pl (s.new o) m := ⟨new_wf h.wf, by
  obtain ⟨A, B, e, hB⟩ := h.ob
  exact ⟨A, B, by rw [new_ob_ne (Nat.ne_of_lt h.lt)]; exact e, hB⟩⟩
theorem Pl.put {s : Sto} (h : Pl s m) {n : Nat} (hn : n < s.nx) (ne : n ≠ m) (o : Ob) : Pl (s.put n o) m := ⟨put_wf h.wf hn, by
  obtain ⟨A, B, e, hB⟩ := h.ob
  exact ⟨A, B, by rw [put_ob_ne (Ne.symm ne)]; exact e, hB⟩⟩
theorem Pl.del {s : Sto} (h : Pl s m) {n : Nat} (ne : n ≠ m) : Pl (s.del n) m := ⟨fun i hi => by
  show (if i = n then none else s.ob i) = none
  split
  · rfl
  · exact h.wf i hi, by
  obtain ⟨A, B, e, hB⟩ := h.ob
  exact ⟨A, B, by show (if m = n then none else s.ob m) = _; rw [if_neg (Ne.symm ne)]; exact e, hB⟩⟩
theorem q_nat {s : Sto} (h : Pl s m) (w : Nat) (W : Int) (hW : W = (w : Int)) (hw : 0 < w) (hf : w < 1000) : ∃ (v : Nat) (s' : Sto), pr.run (k + 1) 12 [.ref m, .int W] s = .ok (.int (v : Int)) s' ∧ v < w ∧ Fr m s s' := by
  subst hW
  obtain ⟨v, s', e, h0, h1, f⟩ := q_take (k := k) h (w := (w : Int)) (by omega) (by omega)
  exact ⟨v.toNat, s', by rw [Int.toNat_of_nonneg h0]; exact e, by omega, f⟩
/-- what is drawn in a talk so far -/
def Wt (t : Talk) : Prop := ∀ l ∈ t, ∀ q ∈ l.2, 0 ≤ q.2 ∧ q.2 < 9 + (t.length : Int)
theorem look_mem {w : Str} {i : Int} : ∀ {f : Fld}, look w f = some i → (w, i) ∈ f
  | q :: r, h => by
    rw [look] at h
    by_cases e : q.1 = w
    · rw [if_pos e] at h; cases h; subst e; exact List.mem_cons_self ..
    · rw [if_neg e] at h; exact List.mem_cons_of_mem _ (look_mem h)
section
variable {x1 x2 x3 x6 x7 x8 x9 : Option D} {n4 : Nat} {j : Nat} {v : Nat} {u : Int} {t : Talk} {s : Sto}
theorem in_f (w : Str) (f : Fld) (s : Sto) : inF (.str w) (.dct (fK f) (fV f)) s = some (.bl (look w f).isSome, s) := by
  show ((keyD (.str w)).map fun k => hasK (fK f) k).map _ = _
  simp [keyD, hasK_f]
theorem ix_f {w : Str} {f : Fld} {i : Int} (h : look w f = some i) (s : Sto) : ixF (.dct (fK f) (fV f)) (.str w) s = some (.int i, s) := by
  simp [dGet_f, h]
theorem st4 (ob : s.ob n4 = some (.lst (t.map lD))) (hj : j = t.length) (hw : Wt t) (hu : 0 ≤ u ∧ u < 9) : ∃ u', 0 ≤ u' ∧ u' < 10 + (j : Int) ∧ (hd (tl (tl (tl b13l1)))).ev ⟨pr.run k, pr⟩ [some (.ref m), x1, x2, x3, some (.ref n4), some (.int (j : Int)), x6, x7, x8, x9, some (.int (v : Int)), some (.int u)] s = .nx [some (.ref m), x1, x2, x3, some (.ref n4), some (.int (j : Int)), x6, x7, x8, x9, some (.int (v : Int)), some (.int u')] s := by
  by_cases c1 : v = 2
  · subst c1
    cases t with
    | nil =>
      subst hj
      refine ⟨u, hu.1, by have := hu.2; omega, ?_⟩
      simp [hd, tl, b13l1]
    | cons l r =>
      have c2 : 0 < j := by subst hj; simp
      have ii := in_f "a" l.2 s
      cases e : look "a" l.2 with
      | none =>
        rw [e] at ii
        refine ⟨u, hu.1, by have := hu.2; omega, ?_⟩
        simp [hd, tl, b13l1, c2, ob, at0, at1, lD, fD, ii]
      | some i =>
        rw [e] at ii
        have b := hw l (List.mem_cons_self ..) _ (look_mem e)
        refine ⟨i, b.1, by have := b.2; subst hj; omega, ?_⟩
        simp [hd, tl, b13l1, c2, ob, at0, at1, lD, fD, ii, dGet_f, e]
  · refine ⟨u, hu.1, by have := hu.2; omega, ?_⟩
    have : ¬ ((v : Int) = 2) := by omega
    simp [hd, tl, b13l1, this]
theorem st5 (ob : s.ob n4 = some (.lst (t.map lD))) (hj : j = t.length) (hw : Wt t) (hu : 0 ≤ u ∧ u < 10 + (j : Int)) : ∃ u', 0 ≤ u' ∧ u' < 10 + (j : Int) ∧ (hd (tl (tl (tl (tl b13l1))))).ev ⟨pr.run k, pr⟩ [some (.ref m), x1, x2, x3, some (.ref n4), some (.int (j : Int)), x6, x7, x8, x9, some (.int (v : Int)), some (.int u)] s = .nx [some (.ref m), x1, x2, x3, some (.ref n4), some (.int (j : Int)), x6, x7, x8, x9, some (.int (v : Int)), some (.int u')] s := by
  by_cases c1 : v = 3
  · subst c1
    by_cases c2 : 0 < j
    · have hl : j - 1 < t.length := by omega
      have a := ix_t t hl
      have cj : ((j - 1 : Nat) : Int) = (j : Int) - 1 := by omega
      rw [cj] at a
      have ii := in_f "bb" t[j - 1].2 s
      cases e : look "bb" t[j - 1].2 with
      | none =>
        rw [e] at ii
        refine ⟨u, hu.1, hu.2, ?_⟩
        simp [hd, tl, b13l1, c2, ob, a, at0, at1, lD, fD, ii]
      | some i =>
        rw [e] at ii
        have b := hw _ (List.getElem_mem hl) _ (look_mem e)
        refine ⟨i + 1, by have := b.1; simp at this; omega, by have := b.2; simp at this; subst hj; omega, ?_⟩
        simp [hd, tl, b13l1, c2, ob, a, at0, at1, lD, fD, ii, dGet_f, e]
    · refine ⟨u, hu.1, hu.2, ?_⟩
      simp [hd, tl, b13l1, c2]
  · refine ⟨u, hu.1, hu.2, ?_⟩
    have : ¬ ((v : Int) = 3) := by omega
    simp [hd, tl, b13l1, this]
theorem st3 {u : Int} (hu : 0 ≤ u ∧ u < 9) {x4 x5 : Option D} : ∃ u', 0 ≤ u' ∧ u' < 9 ∧ (hd (tl (tl b13l1))).ev ⟨pr.run k, pr⟩ [some (.ref m), x1, x2, x3, x4, x5, x6, x7, x8, x9, some (.int (v : Int)), some (.int u)] s = .nx [some (.ref m), x1, x2, x3, x4, x5, x6, x7, x8, x9, some (.int (v : Int)), some (.int u')] s := by
  by_cases c1 : v = 1
  · subst c1
    exact ⟨7, by omega, by omega, by simp [hd, tl, b13l1]⟩
  · have : ¬ ((v : Int) = 1) := by omega
    exact ⟨u, hu.1, hu.2, by simp [hd, tl, b13l1, this]⟩
end
/-- the pool and the object at q alone -/
structure Fq (m q : Nat) (s s' : Sto) : Prop where
  nx : s'.nx = s.nx
  ob : ∀ i, i ≠ m → i ≠ q → s'.ob i = s.ob i
  pl : Pl s' m
theorem Fq.trans {q : Nat} {s s1 s2 : Sto} (a : Fq m q s s1) (b : Fq m q s1 s2) : Fq m q s s2 := ⟨b.nx.trans a.nx, fun i h1 h2 => (b.ob i h1 h2).trans (a.ob i h1 h2), b.pl⟩
theorem Fr.q {s s' : Sto} (h : Fr m s s') (q : Nat) : Fq m q s s' := ⟨h.nx, fun i a _ => h.ob i a, h.pl⟩
theorem fK_app (f : Fld) (w : Str) (u : Int) : fK (f ++ [(w, u)]) = fK f ++ [.inr w] := by simp [fK]
theorem fV_app (f : Fld) (w : Str) (u : Int) : fV (f ++ [(w, u)]) = fV f ++ [.int u] := by simp [fV]
theorem put_f {s : Sto} {n7 : Nat} {f : Fld} {w : Str} {u : Int} (ob : s.ob n7 = some (.dct (fK f) (fV f))) (hw : hasK (fK f) (.inr w) = false) (hf : f.length < 10) : putIx (.ref n7) (.str w) (.int u) s = some (s.put n7 (.dct (fK (f ++ [(w, u)])) (fV (f ++ [(w, u)])))) := by
  have hl : (fK f).length < 16777216 := by simp [fK]; omega
  simp [ob, hw, hl, fK_app, fV_app]
theorem atI_nats (l : List Nat) {i : Nat} (h : i < l.length) : atI (l.map fun (i : Nat) => D.int i) (i : Int) = some (.int (l[i] : Nat)) := by
  unfold atI ixN
  rw [if_pos (by omega), if_pos (by simpa using h)]
  simp [h]
section
variable {x1 x2 x3 x4 x5 x6 x8 : Option D} {n7 : Nat} {v : Nat} {u : Int} {s : Sto}
theorem st6 (h : Pl s m) (ne : n7 ≠ m) {f : Fld} {w : Str} (ob : s.ob n7 = some (.dct (fK f) (fV f))) (hw : hasK (fK f) (.inr w) = false) (hf : f.length < 10) : ∃ s' f', (f' = f ∨ f' = f ++ [(w, u)]) ∧ (tl (tl (tl (tl (tl b13l1))))).ev ⟨pr.run (k + 1), pr⟩ [some (.ref m), x1, x2, x3, x4, x5, x6, some (.ref n7), x8, some (.str w), some (.int (v : Int)), some (.int u)] s = .nx [some (.ref m), x1, x2, x3, x4, x5, x6, some (.ref n7), x8, some (.str w), some (.int (v : Int)), some (.int u)] s' ∧ s'.ob n7 = some (.dct (fK f') (fV f')) ∧ Fq m n7 s s' := by
  by_cases c1 : v = 5
  · subst c1
    obtain ⟨b, s1, e1, l1, f1⟩ := q_nat (k := k) h 2 2 rfl (by decide) (by decide)
    have ob1 : s1.ob n7 = some (.dct (fK f) (fV f)) := (f1.ob n7 ne).trans ob
    have pf := put_f (u := u) ob1 hw hf
    by_cases c2 : b = 0
    · subst c2
      refine ⟨s1.put n7 (.dct (fK (f ++ [(w, u)])) (fV (f ++ [(w, u)]))), _, .inr rfl, ?_, put_ob .., ⟨f1.nx, fun i h1 h2 => (put_ob_ne h2).trans (f1.ob i h1), f1.pl.put (nx_of f1.pl.wf ob1) ne _⟩⟩
      simp [-sx_putIx_1, tl, b13l1, e1, pf]
    · refine ⟨s1, f, .inl rfl, ?_, ob1, f1.q n7⟩
      simp [tl, b13l1, e1, c2]
  · have pf := put_f (u := u) ob hw hf
    have c : ¬ ((v : Int) = 5) := by omega
    refine ⟨s.put n7 (.dct (fK (f ++ [(w, u)])) (fV (f ++ [(w, u)]))), _, .inr rfl, ?_, put_ob .., ⟨rfl, fun i h1 h2 => put_ob_ne h2, h.put (nx_of h.wf ob) ne _⟩⟩
    simp [-sx_putIx_1, tl, b13l1, c, pf]
theorem body8a {n4 j a : Nat} {t : Talk} {plan : List Nat} (h : Pl s m) (ne : n7 ≠ m) (ne4 : n4 ≠ m) (ne47 : n4 ≠ n7) {f : Fld} {w : Str} (ob : s.ob n7 = some (.dct (fK f) (fV f))) (hw : hasK (fK f) (.inr w) = false) (hf : f.length < 10)
    (ob4 : s.ob n4 = some (.lst (t.map lD))) (hj : j = t.length) (hj4 : j < 4) (ha : a < 3) (hp : plan.length = 12) (hW : Wt t) (y10 y11 : Option D) :
    ∃ s' f' u y10' y11', (f' = f ∨ f' = f ++ [(w, u)]) ∧ 0 ≤ u ∧ u < 10 + (j : Int) ∧ b13l1.ev ⟨pr.run (k + 1), pr⟩ [some (.ref m), x1, some (.lst (plan.map fun (i : Nat) => D.int i)), x3, some (.ref n4), some (.int (j : Int)), x6, some (.ref n7), some (.int (a : Int)), some (.str w), y10, y11] s = .nx [some (.ref m), x1, some (.lst (plan.map fun (i : Nat) => D.int i)), x3, some (.ref n4), some (.int (j : Int)), x6, some (.ref n7), some (.int (a : Int)), some (.str w), y10', y11'] s' ∧ s'.ob n7 = some (.dct (fK f') (fV f')) ∧ Fq m n7 s s' := by
  have hi : 3 * j + a < plan.length := by omega
  have at_ : atI (plan.map fun (i : Nat) => D.int i) ((3 * (j : Int)) % 12 + (a : Int)) = some (.int (plan[3 * j + a] : Nat)) := by
    rw [show (3 * (j : Int)) % 12 + (a : Int) = ((3 * j + a : Nat) : Int) by omega]
    exact atI_nats plan hi
  generalize plan[3 * j + a] = v at at_
  have m3 : mulOk 3 (j : Int) = true := mulOk_of 20 20 (by decide) (by omega) (by decide)
  have f12 : fdivOk 12 = true := by decide
  have t1 : (hd b13l1).ev ⟨pr.run (k + 1), pr⟩ [some (.ref m), x1, some (.lst (plan.map fun (i : Nat) => D.int i)), x3, some (.ref n4), some (.int (j : Int)), x6, some (.ref n7), some (.int (a : Int)), some (.str w), y10, y11] s = .nx [some (.ref m), x1, some (.lst (plan.map fun (i : Nat) => D.int i)), x3, some (.ref n4), some (.int (j : Int)), x6, some (.ref n7), some (.int (a : Int)), some (.str w), some (.int (v : Int)), y11] s := by
    simp [hd, b13l1, m3, f12, at_]
  obtain ⟨b, s1, e1, l1, f1⟩ := q_nat (k := k) h 9 9 rfl (by decide) (by decide)
  have t2 : (hd (tl b13l1)).ev ⟨pr.run (k + 1), pr⟩ [some (.ref m), x1, some (.lst (plan.map fun (i : Nat) => D.int i)), x3, some (.ref n4), some (.int (j : Int)), x6, some (.ref n7), some (.int (a : Int)), some (.str w), some (.int (v : Int)), y11] s = .nx [some (.ref m), x1, some (.lst (plan.map fun (i : Nat) => D.int i)), x3, some (.ref n4), some (.int (j : Int)), x6, some (.ref n7), some (.int (a : Int)), some (.str w), some (.int (v : Int)), some (.int (b : Int))] s1 := by
    simp [hd, tl, b13l1, e1]
  obtain ⟨u3, a3, b8, t3⟩ := st3 (k := k + 1) (m := m) (x1 := x1) (x2 := some (.lst (plan.map fun (i : Nat) => D.int i))) (x3 := x3) (x6 := x6) (x7 := some (.ref n7)) (x8 := some (.int (a : Int))) (x9 := some (.str w)) (v := v) (s := s1) (u := (b : Int)) (by omega) (x4 := some (.ref n4)) (x5 := some (.int (j : Int)))
  have ob4' : s1.ob n4 = some (.lst (t.map lD)) := (f1.ob n4 ne4).trans ob4
  obtain ⟨u4, a4, b9, t4⟩ := st4 (k := k + 1) (m := m) (x1 := x1) (x2 := some (.lst (plan.map fun (i : Nat) => D.int i))) (x3 := x3) (x6 := x6) (x7 := some (.ref n7)) (x8 := some (.int (a : Int))) (x9 := some (.str w)) (v := v) ob4' hj hW (u := u3) ⟨a3, b8⟩
  obtain ⟨u5, a5, b10, t5⟩ := st5 (k := k + 1) (m := m) (x1 := x1) (x2 := some (.lst (plan.map fun (i : Nat) => D.int i))) (x3 := x3) (x6 := x6) (x7 := some (.ref n7)) (x8 := some (.int (a : Int))) (x9 := some (.str w)) (v := v) ob4' hj hW (u := u4) ⟨a4, b9⟩
  have ob7 : s1.ob n7 = some (.dct (fK f) (fV f)) := (f1.ob n7 ne).trans ob
  obtain ⟨s2, f', hf', t6, ob2, fq⟩ := st6 (k := k) (x1 := x1) (x2 := some (.lst (plan.map fun (i : Nat) => D.int i))) (x3 := x3) (x4 := some (.ref n4)) (x5 := some (.int (j : Int))) (x6 := x6) (x8 := some (.int (a : Int))) (v := v) (u := u5) f1.pl ne ob7 hw hf
  refine ⟨s2, f', u5, some (.int (v : Int)), some (.int u5), hf', a5, b10, ?_, ob2, (f1.q n7).trans fq⟩
  rw [ev_cons rfl t1, ev_cons rfl t2, ev_cons rfl t3, ev_cons rfl t4, ev_cons rfl t5]
  exact t6
end
end Tie
end

section
set_option Elab.async false
set_option linter.all false
set_option maxRecDepth 100000
set_option maxHeartbeats 4000000
namespace Tie
open PySem PySem.Spec PyProof.Rows L2 LB
variable {st : Sto} {k m : Nat}
/-- the fields: of these words, worths from 0 on below B -/
def Fo (ws : List Str) (B : Int) (f : Fld) : Prop := ∀ q ∈ f, q.1 ∈ ws ∧ 0 ≤ q.2 ∧ q.2 < B
theorem Fo.hasK {ws : List Str} {B : Int} {f : Fld} (h : Fo ws B f) {w : Str} (hw : w ∉ ws) : hasK (fK f) (.inr w) = false := by
  rw [hasK_f]
  cases e : look w f with
  | none => rfl
  | some i => exact absurd (h _ (look_mem e)).1 hw
theorem Fo.step {ws : List Str} {B u : Int} {f f' : Fld} {w : Str} (h : Fo ws B f) (hf : f' = f ∨ f' = f ++ [(w, u)]) (h0 : 0 ≤ u) (h1 : u < B) : Fo (ws ++ [w]) B f' ∧ f'.length ≤ f.length + 1 := by
  rcases hf with rfl | rfl
  · exact ⟨fun q hq => ⟨List.mem_append_left _ (h q hq).1, (h q hq).2⟩, by omega⟩
  · refine ⟨fun q hq => ?_, by simp⟩
    rcases List.mem_append.mp hq with z | z
    · exact ⟨List.mem_append_left _ (h q z).1, (h q z).2⟩
    · rw [List.mem_singleton.mp z]; exact ⟨List.mem_append_right _ (List.mem_singleton.mpr rfl), h0, h1⟩
def words : List Str := ["a", "bb", "c"]
abbrev tg89 : Tg := .tp (.cons (.nm 8) (.cons (.nm 9) .nil))
section
variable {x1 x3 x6 : Option D} {n4 n7 j : Nat} {s : Sto} {t : Talk} {plan : List Nat}
theorem loop8a (h : Pl s m) (ne : n7 ≠ m) (ne4 : n4 ≠ m) (ne47 : n4 ≠ n7) (ob : s.ob n7 = some (.dct [] [])) (ob4 : s.ob n4 = some (.lst (t.map lD))) (hj : j = t.length) (hj4 : j < 4) (hp : plan.length = 12) (hW : Wt t) (y8 y9 y10 y11 : Option D) :
    ∃ s' f z8 z9 z10 z11, forF tg89.bt (b13l1.ev ⟨pr.run (k + 1), pr⟩) [.tup [.int 0, .str "a"], .tup [.int 1, .str "bb"], .tup [.int 2, .str "c"]] [some (.ref m), x1, some (.lst (plan.map fun (i : Nat) => D.int i)), x3, some (.ref n4), some (.int (j : Int)), x6, some (.ref n7), y8, y9, y10, y11] s = .nx [some (.ref m), x1, some (.lst (plan.map fun (i : Nat) => D.int i)), x3, some (.ref n4), some (.int (j : Int)), x6, some (.ref n7), z8, z9, z10, z11] s' ∧ Fo words (10 + (j : Int)) f ∧ f.length ≤ 3 ∧ s'.ob n7 = some (.dct (fK f) (fV f)) ∧ Fq m n7 s s' := by
  have F0 : Fo [] (10 + (j : Int)) [] := fun q hq => by cases hq
  obtain ⟨s1, f1, u1, p10, p11, hf1, a1, b6, e1, o1, q1⟩ := body8a (k := k) (x1 := x1) (x3 := x3) (x6 := x6) (j := j) (a := 0) (f := []) (w := "a") h ne ne4 ne47 ob (F0.hasK (by decide)) (by decide) ob4 hj hj4 (by decide) hp hW y10 y11
  obtain ⟨F1, l1⟩ := F0.step hf1 a1 b6
  obtain ⟨s2, f2, u2, q10, q11, hf2, a2, b7, e2, o2, q2⟩ := body8a (k := k) (x1 := x1) (x3 := x3) (x6 := x6) (j := j) (a := 1) (w := "bb") q1.pl ne ne4 ne47 o1 (F1.hasK (by decide)) (by simp at l1; omega) ((q1.ob n4 ne4 ne47).trans ob4) hj hj4 (by decide) hp hW p10 p11
  obtain ⟨F2, l2⟩ := F1.step hf2 a2 b7
  have q12 := q1.trans q2
  obtain ⟨s3, f3, u3, r15, r16, hf3, a3, b8, e3, o3, q3⟩ := body8a (k := k) (x1 := x1) (x3 := x3) (x6 := x6) (j := j) (a := 2) (w := "c") q12.pl ne ne4 ne47 o2 (F2.hasK (by decide)) (by simp at l1; omega) ((q12.ob n4 ne4 ne47).trans ob4) hj hj4 (by decide) hp hW q10 q11
  obtain ⟨F3, l3⟩ := F2.step hf3 a3 b8
  refine ⟨s3, f3, some (.int 2), some (.str "c"), r15, r16, ?_, F3, by simp at l1; omega, o3, q12.trans q3⟩
  have bt : ∀ (a : Int) (w : Str) (y8 y9 y10 y11 : Option D), tg89.bt (.tup [.int a, .str w]) [some (.ref m), x1, some (.lst (plan.map fun (i : Nat) => D.int i)), x3, some (.ref n4), some (.int (j : Int)), x6, some (.ref n7), y8, y9, y10, y11] = some [some (.ref m), x1, some (.lst (plan.map fun (i : Nat) => D.int i)), x3, some (.ref n4), some (.int (j : Int)), x6, some (.ref n7), some (.int a), some (.str w), y10, y11] := fun _ _ _ _ _ _ => rfl
  have e1' : b13l1.ev ⟨pr.run (k + 1), pr⟩ [some (.ref m), x1, some (.lst (plan.map fun (i : Nat) => D.int i)), x3, some (.ref n4), some (.int (j : Int)), x6, some (.ref n7), some (.int 0), some (.str "a"), y10, y11] s = _ := e1
  have e2' : b13l1.ev ⟨pr.run (k + 1), pr⟩ [some (.ref m), x1, some (.lst (plan.map fun (i : Nat) => D.int i)), x3, some (.ref n4), some (.int (j : Int)), x6, some (.ref n7), some (.int 1), some (.str "bb"), p10, p11] s1 = _ := e2
  have e3' : b13l1.ev ⟨pr.run (k + 1), pr⟩ [some (.ref m), x1, some (.lst (plan.map fun (i : Nat) => D.int i)), x3, some (.ref n4), some (.int (j : Int)), x6, some (.ref n7), some (.int 2), some (.str "c"), q10, q11] s2 = _ := e3
  rw [forF, bt]
  simp only [e1']
  rw [forF, bt]
  simp only [e2']
  rw [forF, bt]
  simp only [e3']
  rfl
end
theorem ev_frzD {E : Ev} {i n : Nat} {r : Sms} {en : En} {ks : List Key} {ds : List D} (h1 : en[i]? = some (some (.ref n))) (h2 : st.ob n = some (.dct ks ds)) : (Sms.frz i r).ev E en st = r.ev E (en.set i (some (.dct ks ds))) (st.del n) := by simp only [Sms.ev, h1, h2]
/-- letters drawn: few fields of the words, worths bounded -/
structure Lo (t : Talk) : Prop where
  wt : Wt t
  fo : ∀ l ∈ t, Fo words 100 l.2 ∧ l.2.length ≤ 3
  sd : ∀ l ∈ t, l.1.natAbs < 100
section
variable {x1 x3 x6 : Option D} {n4 j : Nat} {s : Sto} {t : Talk} {plan : List Nat}
theorem body8b (h : Pl s m) (ne4 : n4 ≠ m) (ob4 : s.ob n4 = some (.lst (t.map lD))) (hj : j = t.length) (hj4 : j < 4) (hp : plan.length = 12) (hL : Lo t) (y7 y8 y9 y10 y11 : Option D) :
    ∃ s' l z7 z8 z9 z10 z11, b13l2.ev ⟨pr.run (k + 1), pr⟩ [some (.ref m), x1, some (.lst (plan.map fun (i : Nat) => D.int i)), x3, some (.ref n4), some (.int (j : Int)), x6, y7, y8, y9, y10, y11] s = .nx [some (.ref m), x1, some (.lst (plan.map fun (i : Nat) => D.int i)), x3, some (.ref n4), some (.int (j : Int)), x6, z7, z8, z9, z10, z11] s' ∧ Lo (t ++ [l]) ∧ s'.ob n4 = some (.lst ((t ++ [l]).map lD)) ∧ s.nx ≤ s'.nx ∧ (∀ i, i ≠ m → i ≠ n4 → i < s.nx → s'.ob i = s.ob i) ∧ Pl s' m := by
  have ln4 := nx_of h.wf ob4
  have nm : s.nx ≠ m := Nat.ne_of_gt h.lt
  have t1 : (hd b13l2).ev ⟨pr.run (k + 1), pr⟩ [some (.ref m), x1, some (.lst (plan.map fun (i : Nat) => D.int i)), x3, some (.ref n4), some (.int (j : Int)), x6, y7, y8, y9, y10, y11] s = .nx [some (.ref m), x1, some (.lst (plan.map fun (i : Nat) => D.int i)), x3, some (.ref n4), some (.int (j : Int)), x6, some (.ref s.nx), y8, y9, y10, y11] (s.new (.dct [] [])) := by
    simp [hd, b13l2]
  have h1 := h.new (.dct [] [])
  have ob4' : (s.new (.dct [] [])).ob n4 = some (.lst (t.map lD)) := (new_ob_ne (by omega)).trans ob4
  obtain ⟨s1, f, z8, z9, z10, z11, e2, F, lf, o1, q1⟩ := loop8a (k := k) (x1 := x1) (x3 := x3) (x6 := x6) h1 nm ne4 (by omega) (new_ob ..) ob4' hj hj4 hp hL.wt y8 y9 y10 y11
  have t2 : (hd (tl b13l2)).ev ⟨pr.run (k + 1), pr⟩ [some (.ref m), x1, some (.lst (plan.map fun (i : Nat) => D.int i)), x3, some (.ref n4), some (.int (j : Int)), x6, some (.ref s.nx), y8, y9, y10, y11] (s.new (.dct [] [])) = _ := (sm_for (items := [.tup [.int 0, .str "a"], .tup [.int 1, .str "bb"], .tup [.int 2, .str "c"]]) rfl).trans e2
  have t3 : (tl (tl b13l2)).ev ⟨pr.run (k + 1), pr⟩ [some (.ref m), x1, some (.lst (plan.map fun (i : Nat) => D.int i)), x3, some (.ref n4), some (.int (j : Int)), x6, some (.ref s.nx), z8, z9, z10, z11] s1 = _ := ev_frzD (i := 7) (r := .cons (.expr (.meth .app (.var 4) (.cons (.tup (.cons (.call 12 0 (.cons (.var 0) (.cons (.int 2) .nil)) .nil) (.cons (.var 7) .nil))) .nil))) .nil) rfl o1
  have hd1 : Pl (s1.del s.nx) m := q1.pl.del nm
  obtain ⟨b, s2, e4, l4, f4⟩ := q_nat (k := k) hd1 2 2 rfl (by decide) (by decide)
  have obd : (s1.del s.nx).ob n4 = some (.lst (t.map lD)) := (if_neg (by omega)).trans ((q1.ob n4 ne4 (by omega)).trans ob4')
  have ob2 : s2.ob n4 = some (.lst (t.map lD)) := (f4.ob n4 ne4).trans obd
  have lt : t.length < 16777216 := by omega
  have t4 : Sms.ev ⟨pr.run (k + 1), pr⟩ (.cons (.expr (.meth .app (.var 4) (.cons (.tup (.cons (.call 12 0 (.cons (.var 0) (.cons (.int 2) .nil)) .nil) (.cons (.var 7) .nil))) .nil))) .nil) [some (.ref m), x1, some (.lst (plan.map fun (i : Nat) => D.int i)), x3, some (.ref n4), some (.int (j : Int)), x6, some (fD f), z8, z9, z10, z11] (s1.del s.nx) = .nx [some (.ref m), x1, some (.lst (plan.map fun (i : Nat) => D.int i)), x3, some (.ref n4), some (.int (j : Int)), x6, some (fD f), z8, z9, z10, z11] (s2.put n4 (.lst (t.map lD ++ [lD ((b : Int), f)]))) := by
    simp [obd, ob2, e4, lt, lD]
  refine ⟨s2.put n4 (.lst (t.map lD ++ [lD ((b : Int), f)])), ((b : Int), f), some (fD f), z8, z9, z10, z11, ?_, ⟨fun l hl q hq => ?_, fun l hl => ?_, fun l hl => ?_⟩, by rw [put_ob]; simp, ?_, fun i h1 h2 h3 => ?_, f4.pl.put (nx_of f4.pl.wf ob2) ne4 _⟩
  · rw [ev_cons rfl t1, ev_cons rfl t2, t3]; exact t4
  · rw [List.length_append, List.length_singleton]
    rcases List.mem_append.mp hl with z | z
    · have := hL.wt l z q hq; omega
    · rw [List.mem_singleton.mp z] at hq
      have := (F q hq).2
      subst hj; omega
  · rcases List.mem_append.mp hl with z | z
    · exact hL.fo l z
    · rw [List.mem_singleton.mp z]
      exact ⟨fun q hq => ⟨(F q hq).1, (F q hq).2.1, by have := (F q hq).2.2; omega⟩, lf⟩
  · rcases List.mem_append.mp hl with z | z
    · exact hL.sd l z
    · rw [List.mem_singleton.mp z]; show ((b : Int)).natAbs < 100; omega
  · show s.nx ≤ s2.nx
    have := f4.nx
    have a : (s1.del s.nx).nx = s1.nx := rfl
    have := q1.nx
    simp at *; omega
  · rw [put_ob_ne h2, f4.ob i h1]
    exact (if_neg (by omega)).trans ((q1.ob i h1 (by omega)).trans (new_ob_ne (by omega)))
end
end Tie
end

section
set_option Elab.async false
set_option linter.all false
set_option maxRecDepth 100000
set_option maxHeartbeats 4000000
namespace Tie
open PySem PySem.Spec PyProof.Rows L2 LB
variable {st : Sto} {k m : Nat}
theorem upTo_r (n : Nat) : upTo 0 (n : Int) = (List.range' 0 n).map fun (i : Nat) => D.int i := by
  rw [upTo_zero, List.range_eq_range']
abbrev pD (plan : List Nat) : D := .lst (plan.map fun (i : Nat) => D.int i)
section
variable {x1 x3 x6 : Option D} {n4 : Nat} {plan : List Nat}
theorem loop8b (ne4 : n4 ≠ m) (hp : plan.length = 12) : ∀ (c : Nat) (s : Sto) (t : Talk) (y5 y7 y8 y9 y10 y11 : Option D), Pl s m → s.ob n4 = some (.lst (t.map lD)) → t.length + c ≤ 4 → Lo t →
    ∃ s' t' z5 z7 z8 z9 z10 z11, forF (Tg.nm 5).bt (b13l2.ev ⟨pr.run (k + 1), pr⟩) ((List.range' t.length c).map fun (i : Nat) => D.int i) [some (.ref m), x1, some (pD plan), x3, some (.ref n4), y5, x6, y7, y8, y9, y10, y11] s = .nx [some (.ref m), x1, some (pD plan), x3, some (.ref n4), z5, x6, z7, z8, z9, z10, z11] s' ∧ t'.length = t.length + c ∧ Lo t' ∧ s'.ob n4 = some (.lst (t'.map lD)) ∧ s.nx ≤ s'.nx ∧ (∀ i, i ≠ m → i ≠ n4 → i < s.nx → s'.ob i = s.ob i) ∧ Pl s' m
  | 0, s, t, y5, y7, y8, y9, y10, y11, h, ob, _, hL => ⟨s, t, y5, y7, y8, y9, y10, y11, rfl, rfl, hL, ob, Nat.le_refl _, fun _ _ _ _ => rfl, h⟩
  | c + 1, s, t, y5, y7, y8, y9, y10, y11, h, ob, hc, hL => by
    obtain ⟨s1, l, z7, z8, z9, z10, z11, e, L1, o1, n1, f1, p1⟩ := body8b (k := k) (x1 := x1) (x3 := x3) (x6 := x6) h ne4 ob rfl (by omega) hp hL y7 y8 y9 y10 y11
    obtain ⟨s2, t', w5, w7, w8, w9, w10, w11, e2, l2, L2, o2, n2, f2, p2⟩ := loop8b ne4 hp c s1 (t ++ [l]) (some (.int (t.length : Int))) z7 z8 z9 z10 z11 p1 o1 (by simp; omega) L1
    refine ⟨s2, t', w5, w7, w8, w9, w10, w11, ?_, by rw [l2]; simp; omega, L2, o2, Nat.le_trans n1 n2, fun i h1 h2 h3 => (f2 i h1 h2 (Nat.lt_of_lt_of_le h3 n1)).trans (f1 i h1 h2 h3), p2⟩
    rw [List.range'_succ, List.map_cons]
    have bt : (Tg.nm 5).bt (.int (t.length : Int)) [some (.ref m), x1, some (pD plan), x3, some (.ref n4), y5, x6, y7, y8, y9, y10, y11] = some [some (.ref m), x1, some (pD plan), x3, some (.ref n4), some (.int (t.length : Int)), x6, y7, y8, y9, y10, y11] := rfl
    rw [show (t ++ [l]).length = t.length + 1 by simp] at e2
    rw [forF, bt]
    simp only [e]
    exact e2
end
/-- talks drawn -/
structure Tl (ts : List Talk) : Prop where
  lo : ∀ t ∈ ts, Lo t ∧ t.length ≤ 4
theorem Lo.nil : Lo [] := ⟨(fun l h => nomatch h), (fun l h => nomatch h), (fun l h => nomatch h)⟩
section
variable {x3 x6 : Option D} {n1 : Nat} {plan : List Nat} {s : Sto} {ts : List Talk}
theorem body8c (h : Pl s m) (ne1 : n1 ≠ m) (hp : plan.length = 12) (ob : s.ob n1 = some (.lst (ts.map tD))) (hl : ts.length < 10) (hT : Tl ts) (y4 y5 y7 y8 y9 y10 y11 : Option D) :
    ∃ s' t z4 z5 z7 z8 z9 z10 z11, b13l3.ev ⟨pr.run (k + 1), pr⟩ [some (.ref m), some (.ref n1), some (pD plan), x3, y4, y5, x6, y7, y8, y9, y10, y11] s = .nx [some (.ref m), some (.ref n1), some (pD plan), x3, z4, z5, x6, z7, z8, z9, z10, z11] s' ∧ Tl (ts ++ [t]) ∧ s'.ob n1 = some (.lst ((ts ++ [t]).map tD)) ∧ s.nx ≤ s'.nx ∧ Pl s' m := by
  have nm : s.nx ≠ m := Nat.ne_of_gt h.lt
  have l1 := nx_of h.wf ob
  have t1 : (hd b13l3).ev ⟨pr.run (k + 1), pr⟩ [some (.ref m), some (.ref n1), some (pD plan), x3, y4, y5, x6, y7, y8, y9, y10, y11] s = .nx [some (.ref m), some (.ref n1), some (pD plan), x3, some (.ref s.nx), y5, x6, y7, y8, y9, y10, y11] (s.new (.lst [])) := by
    simp [hd, b13l3]
  obtain ⟨c, s1, e1, lc, f1⟩ := q_nat (k := k) (h.new (.lst [])) 4 4 rfl (by decide) (by decide)
  have ob4 : s1.ob s.nx = some (.lst (([] : Talk).map lD)) := (f1.ob _ nm).trans (new_ob ..)
  obtain ⟨s2, t, z5, z7, z8, z9, z10, z11, e2, lt, L2, o2, n2, f2, p2⟩ := loop8b (k := k) (x1 := some (.ref n1)) (x3 := x3) (x6 := x6) nm hp (1 + c) s1 [] y5 y7 y8 y9 y10 y11 f1.pl ob4 (by simp; omega) Lo.nil
  have up := upTo_r (1 + c)
  have sm : small62 (((1 + c : Nat)) : Int) = true := sm62 (by omega)
  have c1 : ((1 + c : Nat) : Int) = 1 + (c : Int) := by omega
  rw [c1] at up sm
  have t2 : (hd (tl b13l3)).ev ⟨pr.run (k + 1), pr⟩ [some (.ref m), some (.ref n1), some (pD plan), x3, some (.ref s.nx), y5, x6, y7, y8, y9, y10, y11] (s.new (.lst [])) = _ := (sm_for (items := (List.range' 0 (1 + c)).map fun (i : Nat) => D.int i) (s' := s1) (by simp [e1, sm, up])).trans e2
  have t3 : (tl (tl b13l3)).ev ⟨pr.run (k + 1), pr⟩ [some (.ref m), some (.ref n1), some (pD plan), x3, some (.ref s.nx), z5, x6, z7, z8, z9, z10, z11] s2 = _ := ev_frz (i := 4) (r := .cons (.expr (.meth .app (.var 1) (.cons (.var 4) .nil))) .nil) rfl o2
  have ob2 : (s2.del s.nx).ob n1 = some (.lst (ts.map tD)) := (if_neg (by omega)).trans ((f2 n1 ne1 (by omega) (by have := f1.nx; simp at this; omega)).trans ((f1.ob n1 ne1).trans ((new_ob_ne (by omega)).trans ob)))
  have hd1 : Pl (s2.del s.nx) m := p2.del nm
  have t4 : Sms.ev ⟨pr.run (k + 1), pr⟩ (.cons (.expr (.meth .app (.var 1) (.cons (.var 4) .nil))) .nil) [some (.ref m), some (.ref n1), some (pD plan), x3, some (tD t), z5, x6, z7, z8, z9, z10, z11] (s2.del s.nx) = .nx [some (.ref m), some (.ref n1), some (pD plan), x3, some (tD t), z5, x6, z7, z8, z9, z10, z11] ((s2.del s.nx).put n1 (.lst (ts.map tD ++ [tD t]))) := by
    simp [ob2, show ts.length < 16777216 by omega]
  refine ⟨(s2.del s.nx).put n1 (.lst (ts.map tD ++ [tD t])), t, some (tD t), z5, z7, z8, z9, z10, z11, ?_, ⟨fun x hx => ?_⟩, by rw [put_ob]; simp, ?_, hd1.put (nx_of hd1.wf ob2) ne1 _⟩
  · rw [ev_cons rfl t1, ev_cons rfl t2, t3]; exact t4
  · rcases List.mem_append.mp hx with z | z
    · exact hT.lo x z
    · rw [List.mem_singleton.mp z]; exact ⟨L2, by simp at lt; omega⟩
  · show s.nx ≤ s2.nx
    have := f1.nx; simp at this; omega
end
section
variable {x6 : Option D} {n1 : Nat} {plan : List Nat}
theorem loop8d (ne1 : n1 ≠ m) (hp : plan.length = 12) : ∀ (items : List D) (s : Sto) (ts : List Talk) (y3 y4 y5 y7 y8 y9 y10 y11 : Option D), Pl s m → s.ob n1 = some (.lst (ts.map tD)) → ts.length + items.length < 10 → Tl ts →
    ∃ s' ts' en', forF (Tg.nm 3).bt (b13l3.ev ⟨pr.run (k + 1), pr⟩) items [some (.ref m), some (.ref n1), some (pD plan), y3, y4, y5, x6, y7, y8, y9, y10, y11] s = .nx (some (.ref m) :: some (.ref n1) :: en') s' ∧ ts'.length = ts.length + items.length ∧ Tl ts' ∧ s'.ob n1 = some (.lst (ts'.map tD)) ∧ s.nx ≤ s'.nx ∧ Pl s' m
  | [], s, ts, y3, y4, y5, y7, y8, y9, y10, y11, h, ob, _, hT => ⟨s, ts, _, rfl, rfl, hT, ob, Nat.le_refl _, h⟩
  | d :: items, s, ts, y3, y4, y5, y7, y8, y9, y10, y11, h, ob, hl, hT => by
    obtain ⟨s1, t, z4, z5, z7, z8, z9, z10, z11, e, T1, o1, n1', p1⟩ := body8c (k := k) (x3 := some d) (x6 := x6) h ne1 hp ob (by simp at hl; omega) hT y4 y5 y7 y8 y9 y10 y11
    obtain ⟨s2, ts', en', e2, l2, T2, o2, n2, p2⟩ := loop8d ne1 hp items s1 (ts ++ [t]) (some d) z4 z5 z7 z8 z9 z10 z11 p1 o1 (by simp at hl ⊢; omega) T1
    refine ⟨s2, ts', en', ?_, by rw [l2]; simp; omega, T2, o2, Nat.le_trans n1' n2, p2⟩
    have bt : (Tg.nm 3).bt d [some (.ref m), some (.ref n1), some (pD plan), y3, y4, y5, x6, y7, y8, y9, y10, y11] = some [some (.ref m), some (.ref n1), some (pD plan), some d, y4, y5, x6, y7, y8, y9, y10, y11] := rfl
    rw [forF, bt]
    simp only [e]
    exact e2
end
theorem plan_comp {x1 x2 x3 x4 x5 x7 x8 x9 x10 x11 : Option D} : ∀ (items : List D) (s : Sto), Pl s m → ∃ (plan : List Nat) (s' : Sto), compF [6] (Tg.nm 6).bt (TeO.no.ev ⟨pr.run (k + 1), pr⟩) (b13c0.ev ⟨pr.run (k + 1), pr⟩) items [some (.ref m), x1, x2, x3, x4, x5, none, x7, x8, x9, x10, x11] s = .ok (plan.map fun (i : Nat) => D.int i) s' ∧ plan.length = items.length ∧ Fr m s s'
  | [], s, h => ⟨[], s, rfl, rfl, rfl, fun _ _ => rfl, h⟩
  | d :: items, s, h => by
    obtain ⟨v, s1, e1, l1, f1⟩ := q_nat (k := k) h 6 6 rfl (by decide) (by decide)
    obtain ⟨plan, s2, e2, l2, f2⟩ := plan_comp (x1 := x1) (x2 := x2) (x3 := x3) (x4 := x4) (x5 := x5) (x7 := x7) (x8 := x8) (x9 := x9) (x10 := x10) (x11 := x11) items s1 f1.pl
    refine ⟨v :: plan, s2, ?_, by simp [l2], f1.trans f2⟩
    have bt : (Tg.nm 6).bt d (wipeE [some (.ref m), x1, x2, x3, x4, x5, none, x7, x8, x9, x10, x11] [6]) = some [some (.ref m), x1, x2, x3, x4, x5, some d, x7, x8, x9, x10, x11] := rfl
    have fe : b13c0.ev ⟨pr.run (k + 1), pr⟩ [some (.ref m), x1, x2, x3, x4, x5, some d, x7, x8, x9, x10, x11] s = .ok (.int (v : Int)) s1 := by
      simp [b13c0, e1]
    rw [compF, bt]
    have ct : TeO.no.ev ⟨pr.run (k + 1), pr⟩ [some (.ref m), x1, x2, x3, x4, x5, some d, x7, x8, x9, x10, x11] s = .ok true s := rfl
    simp only [ct, fe, Res.nox, Res.bind_ok, if_true, e2, List.map_cons]
theorem Pl.cut {s : Sto} (h : Pl s m) {n : Nat} (hm : m < n) (hn : n ≤ s.nx) : Pl (s.cut n) m := ⟨fun i hi => by
  show (if i < n then s.ob i else none) = none
  split
  · exact h.wf i hi
  · rfl, by
  obtain ⟨A, B, e, hB⟩ := h.ob
  exact ⟨A, B, by show (if m < n then s.ob m else none) = _; rw [if_pos hm]; exact e, hB⟩⟩
theorem cut_wf2 {s : Sto} {n : Nat} (h : n ≤ s.nx) : (s.cut n).Wf := fun i hi => if_neg (by have : s.nx ≤ i := hi; omega)
theorem q8 {s : Sto} (h : Pl s m) : ∃ (ts : List Talk) (s' : Sto), pr.run (k + 2) 13 [.ref m] s = .ok (tsD ts) s' ∧ Tl ts ∧ 1 ≤ ts.length ∧ ts.length ≤ 4 ∧ Pl s' m := by
  have nm : s.nx ≠ m := Nat.ne_of_gt h.lt
  have t1 : (hd b13).ev ⟨pr.run (k + 1), pr⟩ [some (.ref m), none, none, none, none, none, none, none, none, none, none, none] s = .nx [some (.ref m), some (.ref s.nx), none, none, none, none, none, none, none, none, none, none] (s.new (.lst [])) := by
    simp [hd, b13]
  obtain ⟨plan, s1, e1, l1, f1⟩ := plan_comp (k := k) (x1 := some (.ref s.nx)) (x2 := none) (x3 := none) (x4 := none) (x5 := none) (x7 := none) (x8 := none) (x9 := none) (x10 := none) (x11 := none) ((List.range' 0 12).map fun (i : Nat) => D.int i) (s.new (.lst [])) (h.new _)
  have l12 : plan.length = 12 := by rw [l1]; simp
  have t2 : (hd (tl b13)).ev ⟨pr.run (k + 1), pr⟩ [some (.ref m), some (.ref s.nx), none, none, none, none, none, none, none, none, none, none] (s.new (.lst [])) = .nx [some (.ref m), some (.ref s.nx), some (pD plan), none, none, none, none, none, none, none, none, none] s1 := by
    have i : (It.rng1 (.int 12)).ev ⟨pr.run (k + 1), pr⟩ [some (.ref m), some (.ref s.nx), none, none, none, none, none, none, none, none, none, none] (s.new (.lst [])) = .ok ((List.range' 0 12).map fun (i : Nat) => D.int i) (s.new (.lst [])) := by
      have up := upTo_r 12
      have sm : small62 12 = true := by decide
      have up' : upTo 0 12 = (List.range' 0 12).map fun (i : Nat) => D.int i := up
      simp only [It.ev, Ex.ev, rng1, sm, if_true, liftI, Res.bind_ok, up']
    have d : compL true [6] (Tg.nm 6).bt (TeO.no.ev ⟨pr.run (k + 1), pr⟩) (b13c0.ev ⟨pr.run (k + 1), pr⟩) ((It.rng1 (.int 12)).ev ⟨pr.run (k + 1), pr⟩) [some (.ref m), some (.ref s.nx), none, none, none, none, none, none, none, none, none, none] (s.new (.lst [])) = .ok (pD plan) s1 := by
      unfold compL
      rw [i]
      simp only [Res.bind_ok, sx_sizeLine]
      rw [if_pos (by simp), e1]
      rfl
    show (compL _ _ _ _ _ _ _ _).fl _ _ = _
    refine (congrArg (fun r => Res.fl r _ _) d).trans ?_
    rfl
  have ob1 : s1.ob s.nx = some (.lst (([] : List Talk).map tD)) := (f1.ob _ nm).trans (new_ob ..)
  obtain ⟨c, s2, e2, lc, f2⟩ := q_nat (k := k) f1.pl 4 4 rfl (by decide) (by decide)
  have ob2 : s2.ob s.nx = some (.lst (([] : List Talk).map tD)) := (f2.ob _ nm).trans ob1
  obtain ⟨s3, ts, en', e3, l3, T3, o3, n3, p3⟩ := loop8d (k := k) (x6 := none) nm l12 ((List.range' 0 (1 + c)).map fun (i : Nat) => D.int i) s2 [] none none none none none none none none f2.pl ob2 (by simp; omega) ⟨fun t ht => by cases ht⟩
  have up := upTo_r (1 + c)
  have sm : small62 (((1 + c : Nat)) : Int) = true := sm62 (by omega)
  have c1 : ((1 + c : Nat) : Int) = 1 + (c : Int) := by omega
  rw [c1] at up sm
  have t3 : (hd (tl (tl b13))).ev ⟨pr.run (k + 1), pr⟩ [some (.ref m), some (.ref s.nx), some (pD plan), none, none, none, none, none, none, none, none, none] s1 = _ := (sm_for (items := (List.range' 0 (1 + c)).map fun (i : Nat) => D.int i) (s' := s2) (by simp [e2, sm, up])).trans e3
  have t4 : (tl (tl (tl b13))).ev ⟨pr.run (k + 1), pr⟩ (some (.ref m) :: some (.ref s.nx) :: en') s3 = .rt (tsD ts) (s3.del s.nx) := (ev_frz (i := 1) (r := .cons (.ret (.var 1)) .nil) rfl o3).trans rfl
  refine ⟨ts, (s3.del s.nx).cut s.nx, ?_, T3, by simp at l3; omega, by simp at l3; omega, (p3.del nm).cut h.lt ?_⟩
  · rw [r13]
    refine defF_rt (en := [some (.ref m), none, none, none, none, none, none, none, none, none, none, none]) rfl ?_
    rw [ev_cons rfl t1, ev_cons rfl t2, ev_cons rfl t3]; exact t4
  · show s.nx ≤ s3.nx
    have := f1.nx
    have := f2.nx
    simp at *; omega
end Tie
end

section
set_option Elab.async false
set_option linter.all false
set_option maxRecDepth 100000
set_option maxHeartbeats 4000000
namespace Tie
open PySem PySem.Spec PyProof.Rows L2 LB
variable {st : Sto} {k m : Nat}
/-- few talks, of the words, with small worths -/
structure Gs (ts : List Talk) : Prop where
  len : ts.length < 64
  prl : (prs ts).length < 64
  fo : ∀ t ∈ ts, t.length < 100 ∧ ∀ l ∈ t, Fo words 100 l.2
theorem wor_wr {ts : List Talk} (h : Gs ts) {t : Talk} (ht : t ∈ ts) (p : Plc) : 0 ≤ wr t p ∧ wr t p < 100 := by
  unfold wr wor
  cases e : t[p.1]? with
  | none => exact ⟨(by show (0 : Int) ≤ 0; decide), (by show (0 : Int) < 100; decide)⟩
  | some l =>
    show 0 ≤ (look p.2 l.2).getD 0 ∧ (look p.2 l.2).getD 0 < 100
    cases e2 : look p.2 l.2 with
    | none => exact ⟨(by show (0 : Int) ≤ 0; decide), (by show (0 : Int) < 100; decide)⟩
    | some i => exact ((h.fo t ht).2 l (List.mem_of_getElem? e) _ (look_mem e2)).2
theorem pl_ok {ts : List Talk} (h : Gs ts) {p : Plc} (hp : p ∈ places ts) : p.1 < 100 ∧ p.2 ∈ words := by
  obtain ⟨t, ht, w⟩ := places_mem hp
  unfold wor at w
  cases e : t[p.1]? with
  | none => rw [e] at w; cases w
  | some l =>
    rw [e] at w
    have hl : p.1 < t.length := (List.getElem?_eq_some_iff.mp e).1
    refine ⟨Nat.lt_trans hl (h.fo t ht).1, ?_⟩
    cases e2 : look p.2 l.2 with
    | none => rw [Option.bind_some, e2] at w; cases w
    | some i => exact ((h.fo t ht).2 l (List.mem_of_getElem? e) _ (look_mem e2)).1
theorem relP_ok {ts : List Talk} (h : Gs ts) {p : Plc} {z : Try} (e : relP ts p = some z) : z.2.natAbs < 200 ∧ ∀ o, z.1 = some o → o ∈ places ts := by
  unfold relP at e
  split at e
  · cases e
  · rename_i t0 r eo
    have ht0 : t0 ∈ ts := (List.mem_filter.mp (show t0 ∈ own ts p by rw [eo]; exact List.mem_cons_self ..)).1
    have mz := List.mem_of_find?_eq_some e
    have b6 := wor_wr h ht0 p
    rcases List.mem_cons.mp mz with rfl | mz
    · exact ⟨by show (wr t0 p).natAbs < 200; omega, fun o q => by cases q⟩
    · obtain ⟨o, ho, q⟩ := List.mem_filterMap.mp mz
      unfold othT at q
      split at q
      · cases q
        have b7 := wor_wr h ht0 o
        exact ⟨by show (wr t0 p - wr t0 o).natAbs < 200; omega, fun o' q' => by cases q'; exact ho⟩
      · cases q
theorem log_le {n : Nat} (h : n < 256) : n.log2 ≤ 7 := by
  by_cases c : n = 0
  · rw [c]; decide
  · have := (Nat.log2_lt (n := n) (k := 8) c).mpr (by omega)
    omega
theorem wgt_int {i : Int} (h : i.natAbs < 256) : wgt (.int i) ≤ 8 := by
  show (if i == 0 then 0 else i.natAbs.log2 + 1) ≤ 8
  have := log_le h
  split <;> omega
theorem word_ok {w : Str} (h : w ∈ words) : okP (.str w) = true ∧ wgt (.str w) ≤ 4 := by
  have : w = "a" ∨ w = "bb" ∨ w = "c" := by simpa [words] using h
  rcases this with rfl | rfl | rfl
  all_goals exact ⟨by decide +kernel, by decide +kernel⟩
theorem okInt {i : Int} (h : i.natAbs < 256) : okP (.int i) = true := decide_eq_true (Nat.lt_trans h (by decide))
theorem pc_ok {p : Plc} (h : p.1 < 100 ∧ p.2 ∈ words) : okP (pcD p) = true ∧ dep (pcD p) ≤ 1 ∧ wgt (pcD p) ≤ 16 := by
  have i1 : ((p.1 : Int)).natAbs < 256 := by have := h.1; omega
  have a := okInt i1
  have b := wgt_int i1
  obtain ⟨c, d⟩ := word_ok h.2
  refine ⟨?_, ?_, ?_⟩
  · show (okP (.int (p.1 : Int)) && (okP (.str p.2) && true)) = true
    rw [a, c]; rfl
  · exact Nat.le_refl _
  · show wgt (.int (p.1 : Int)) + 1 + (wgt (.str p.2) + 1 + 0) ≤ 16
    omega
theorem rD_ok {w : Str} {p : Plc} {o : D} {v : Int} (hw : okP (.str w) = true ∧ wgt (.str w) ≤ 8) (hp : p.1 < 100 ∧ p.2 ∈ words) (ho : okP o = true ∧ dep o ≤ 1 ∧ wgt o ≤ 16) (hv : v.natAbs < 200) : okP (rD w p o v) = true ∧ dep (rD w p o v) ≤ 2 ∧ wgt (rD w p o v) + 1 ≤ 60 := by
  obtain ⟨a1, a2, a3⟩ := pc_ok hp
  have i1 : v.natAbs < 256 := by omega
  refine ⟨?_, ?_, ?_⟩
  · show (okP (.str w) && (okP (pcD p) && (okP o && (okP (.int v) && true)))) = true
    rw [hw.1, a1, ho.1, okInt i1]; rfl
  · show max (dep (.str w)) (max (dep (pcD p)) (max (dep o) (max (dep (.int v)) 0))) + 1 ≤ 2
    have : dep (.str w) = 0 := rfl
    have : dep (.int v) = 0 := rfl
    have := ho.2.1
    omega
  · show wgt (.str w) + 1 + (wgt (pcD p) + 1 + (wgt o + 1 + (wgt (.int v) + 1 + 0))) + 1 ≤ 60
    have := hw.2
    have := ho.2.2
    have := wgt_int i1
    omega
theorem kind_ok {w : Str} (h : w = "told" ∨ w = "same" ∨ w = "more") : okP (.str w) = true ∧ wgt (.str w) ≤ 8 := by
  rcases h with rfl | rfl | rfl
  all_goals exact ⟨by decide +kernel, by decide +kernel⟩
theorem tryD_ok {ts : List Talk} (h : Gs ts) {p : Plc} (hp : p ∈ places ts) {z : Try} (e : relP ts p = some z) : okP (tryD p z) = true ∧ dep (tryD p z) ≤ 2 ∧ wgt (tryD p z) + 1 ≤ 60 := by
  obtain ⟨h1, h2⟩ := relP_ok h e
  have hpp := pl_ok h hp
  obtain ⟨o, v⟩ := z
  cases o with
  | none => exact rD_ok (kind_ok (.inl rfl)) hpp ⟨rfl, Nat.zero_le _, Nat.zero_le _⟩ h1
  | some o =>
    refine rD_ok (kind_ok ?_) hpp (pc_ok (pl_ok h (h2 o rfl))) h1
    split
    · exact .inr (.inl rfl)
    · exact .inr (.inr rfl)
theorem found_nice {ts : List Talk} (h : Gs ts) : Nice (.lst (found ts)) := by
  have all : ∀ d ∈ found ts, okP d = true ∧ dep d ≤ 2 ∧ wgt d + 1 ≤ 60 := fun d hd => by
    obtain ⟨p, hp, e⟩ := List.mem_filterMap.mp hd
    cases q : relP ts p with
    | none => rw [q] at e; cases e
    | some z =>
      rw [q] at e
      cases e
      exact tryD_ok h hp q
  have hl : (found ts).length ≤ 64 := Nat.le_trans (List.length_filterMap_le ..) (Nat.le_trans (places_len ts) (Nat.le_of_lt h.prl))
  refine ⟨okPs_all fun d hd => (all d hd).1, ?_, ?_⟩
  · show deps (found ts) + 1 ≤ 20
    have := deps_all (n := 2) fun d hd => (all d hd).2.1
    omega
  · show wgts (found ts) ≤ 100000
    have := wgts_all (n := 60) fun d hd => (all d hd).2.2
    have : 60 * (found ts).length ≤ 60 * 64 := Nat.mul_le_mul_left _ hl
    omega
/-! what is looked at -/
theorem prT_len : ∀ (t : Talk) (i : Nat), (∀ l ∈ t, l.2.length ≤ 3) → (prT i t).length ≤ 3 * t.length
  | [], i, _ => Nat.zero_le _
  | l :: r, i, h => by
    have a := h l (List.mem_cons_self ..)
    have b := prT_len r (i + 1) fun x hx => h x (List.mem_cons_of_mem _ hx)
    rw [prT, List.length_append, List.length_map, List.length_cons]
    omega
theorem prs_len : ∀ ts : List Talk, (∀ t ∈ ts, t.length ≤ 4 ∧ ∀ l ∈ t, l.2.length ≤ 3) → (prs ts).length ≤ 12 * ts.length
  | [], _ => Nat.zero_le _
  | t :: ts, h => by
    have a := h t (List.mem_cons_self ..)
    have b := prs_len ts fun x hx => h x (List.mem_cons_of_mem _ hx)
    have c := prT_len t 0 a.2
    show (prT 0 t ++ prs ts).length ≤ _
    rw [List.length_append, List.length_cons]
    omega
theorem gs_of {ts : List Talk} (h : ∀ t ∈ ts, Lo t ∧ t.length ≤ 4) (hl : ts.length ≤ 5) : Gs ts := by
  have p := prs_len ts fun t ht => ⟨(h t ht).2, fun l hl => ((h t ht).1.fo l hl).2⟩
  exact ⟨by omega, by omega, fun t ht => ⟨by have := (h t ht).2; omega, fun l hl => ((h t ht).1.fo l hl).1⟩⟩
def farT (w : Nat) : Talk := (List.range 12).map fun i => (0, [("a", (w : Int) * ((i % 5 : Nat) : Int))])
def far : List Talk := [farT 1, farT 2]
theorem far_ok : Gs far := by
  refine ⟨by decide, by decide +kernel, fun t ht => ?_⟩
  have : t = farT 1 ∨ t = farT 2 := by simpa [far] using ht
  have key : ∀ w : Nat, w ≤ 2 → (farT w).length < 100 ∧ ∀ l ∈ farT w, Fo words 100 l.2 := fun w hw => by
    refine ⟨by simp [farT], fun l hl q hq => ?_⟩
    obtain ⟨i, _, rfl⟩ := List.mem_map.mp hl
    rw [List.mem_singleton.mp hq]
    refine ⟨by simp [words], ?_⟩
    show 0 ≤ (w : Int) * ((i % 5 : Nat) : Int) ∧ (w : Int) * ((i % 5 : Nat) : Int) < 100
    have : i % 5 < 5 := Nat.mod_lt _ (by decide)
    have h2 : w * (i % 5) ≤ 2 * 4 := Nat.mul_le_mul hw (by omega)
    rw [← Int.natCast_mul]
    omega
  rcases this with rfl | rfl
  · exact key 1 (by decide)
  · exact key 2 (by decide)
end Tie
end

section
set_option Elab.async false
set_option linter.all false
set_option maxRecDepth 100000
set_option maxHeartbeats 4000000
namespace Tie
open PySem PySem.Spec PyProof.Rows L2 LB
variable {st : Sto} {k m : Nat}
/-- a relation: its word, place, other place, how much -/
abbrev Rl := Str × Plc × Option Plc × Int
def poD : Option Plc → D
  | none => .non
  | some o => pcD o
def rlD (r : Rl) : D := .tup [.str r.1, pcD r.2.1, poD r.2.2.1, .int r.2.2.2]
theorem eq_pc {a b : Plc} (ha : PyData.strOk a.2 = true) (hb : PyData.strOk b.2 = true) (s : Sto) : eqF (pcD a) (pcD b) s = some (.bl (decide (a = b)), s) := by
  have e1 : ∀ a, pyT s (pcD a) = some (plP a) := fun a => pyD_pl a
  have sh : ∀ a : Plc, PyData.strOk a.2 = true → SeqAt.shaped (plP a) = true := fun a h => by
    show ((true && (PyData.strOk a.2 && true)) && decide (max 0 (max 0 0) + 1 ≤ 64)) = true
    rw [h]; rfl
  have e : eqD (pcD a) (pcD b) s = some (PyData.eqv (plP a) (plP b)) := by
    show (match pyT s (pcD a), pyT s (pcD b) with
      | some x, some y => if SeqAt.shaped x && SeqAt.shaped y then some (PyData.eqv x y) else none
      | _, _ => none) = _
    rw [e1, e1]
    show (if SeqAt.shaped (plP a) && SeqAt.shaped (plP b) then some (PyData.eqv (plP a) (plP b)) else none) = _
    rw [sh a ha, sh b hb]; rfl
  have v : PyData.eqv (plP a) (plP b) = decide (a = b) := by
    show ((((a.1 : Int)) == ((b.1 : Int))) && ((a.2 == b.2) && true)) = decide (a = b)
    obtain ⟨a1, a2⟩ := a
    obtain ⟨b1, b2⟩ := b
    by_cases c : a1 = b1
    · subst c
      by_cases d : a2 = b2
      · subst d; simp
      · simp [d]
    · have : ¬ ((a1 : Int) = (b1 : Int)) := by omega
      simp [c, this]
  unfold eqF eqG
  rw [e, v]; rfl
theorem forF_rt1 {bt : D → En → Option En} {fb : FS} {d : D} {ds : List D} {en en1 : En} {s s' : Sto} {x : D} (h1 : bt d en = some en1) (h2 : fb en1 s = .rt x s') : forF bt fb (d :: ds) en s = .rt x s' := by
  rw [forF, h1]
  simp only [h2]
theorem forF_nx1 {bt : D → En → Option En} {fb : FS} {d : D} {ds : List D} {en en1 en2 : En} {s s' : Sto} (h1 : bt d en = some en1) (h2 : fb en1 s = .nx en2 s') : forF bt fb (d :: ds) en s = forF bt fb ds en2 s' := by
  rw [forF, h1]
  simp only [h2]
theorem is_pc (o : Plc) (s : Sto) : isF (pcD o) .non s = some (.bl false, s) := rfl
theorem isn_int (i : Int) (s : Sto) : isnF (.int i) .non s = some (.bl true, s) := rfl
def toR (p : Plc) : Try → Rl
  | (none, v) => ("told", p, none, v)
  | (some o, v) => (if v = 0 then "same" else "more", p, some o, v)
theorem rl_try (p : Plc) : ∀ z : Try, tryD p z = rlD (toR p z)
  | (none, v) => rfl
  | (some o, v) => rfl
def foundR (ts : List Talk) : List Rl := (places ts).filterMap fun p => (relP ts p).map (toR p)
theorem found_eq (ts : List Talk) : found ts = (foundR ts).map rlD := by
  unfold found foundR
  rw [List.map_filterMap]
  congr 1
  funext p
  cases relP ts p with
  | none => rfl
  | some z => exact congrArg some (rl_try p z)
/-- a good relation -/
structure RG (r : Rl) : Prop where
  pl : r.2.1.1 < 100 ∧ r.2.1.2 ∈ words
  mu : r.2.2.2.natAbs < 200
  ot : (r.2.2.1 = none ∧ r.1 = "told") ∨ ∃ o, r.2.2.1 = some o ∧ (o.1 < 100 ∧ o.2 ∈ words) ∧ ltP o r.2.1 = true ∧ r.1 = (if r.2.2.2 = 0 then ("same" : Str) else "more")
theorem foundR_ok {ts : List Talk} (h : Gs ts) : ∀ r ∈ foundR ts, RG r := fun r hr => by
  obtain ⟨p, hp, e⟩ := List.mem_filterMap.mp hr
  cases q : relP ts p with
  | none => rw [q] at e; cases e
  | some z =>
    rw [q] at e
    obtain ⟨h1, h2⟩ := relP_ok h q
    have hpp := pl_ok h hp
    obtain ⟨o, v⟩ := z
    cases o with
    | none => cases e; exact ⟨hpp, h1, .inl ⟨rfl, rfl⟩⟩
    | some o =>
      cases e
      refine ⟨hpp, h1, .inr ⟨o, rfl, pl_ok h (h2 o rfl), ?_, rfl⟩⟩
      unfold relP at q
      split at q
      · cases q
      · rename_i t0 r' eo
        have mz := List.mem_of_find?_eq_some q
        rcases List.mem_cons.mp mz with z | mz
        · cases z
        · obtain ⟨o2, _, q2⟩ := List.mem_filterMap.mp mz
          unfold othT at q2
          split at q2
          · rename_i c
            cases q2
            rw [Bool.and_eq_true] at c
            exact c.1
          · cases q2
/-! is_place -/
theorem q_wh (wf : st.Wf) (i : Int) : pr.run (k + 1) 0 [.int i] st = .ok (.bl true) st := by
  rw [r0]
  simp [b0, cut_wf wf]
theorem len_a : (Str.ofString "a").length = 1 := by decide +kernel
theorem len_bb : (Str.ofString "bb").length = 2 := by decide +kernel
theorem len_c : (Str.ofString "c").length = 1 := by decide +kernel
theorem ch_a : strDs (Str.ofString "a") = [.str ⟨#[97]⟩] := rfl
theorem ch_bb : strDs (Str.ofString "bb") = [.str ⟨#[98]⟩, .str ⟨#[98]⟩] := rfl
theorem ch_c : strDs (Str.ofString "c") = [.str ⟨#[99]⟩] := rfl
theorem cp_a : (Str.ofString "a").cps.toList = [97] := rfl
theorem cp_z : (Str.ofString "z").cps.toList = [122] := rfl
theorem l1 : ([97] < [97]) = False := by decide
theorem l2 : ([98] < [97]) = False := by decide
theorem l3 : ([99] < [97]) = False := by decide
theorem l4 : ([122] < [97]) = False := by decide
theorem l5 : ([122] < [98]) = False := by decide
theorem l6 : ([122] < [99]) = False := by decide
theorem q_pl (wf : st.Wf) {p : Plc} (h : p.2 ∈ words) : pr.run (k + 2) 1 [pcD p] st = .ok (.bl true) st := by
  have w := q_wh (k := k) wf (p.1 : Int)
  rw [r1]
  obtain ⟨n, x⟩ := p
  have : x = "a" ∨ x = "bb" ∨ x = "c" := by simpa [words] using h
  have nn : ¬ ((n : Int) < 0) := by omega
  rcases this with rfl | rfl | rfl
  all_goals simp [b1, pcD, at0, at1, w, nn, cut_wf wf, b1c0, len_a, len_bb, len_c, ch_a, ch_bb, ch_c, cp_a, cp_z, l1, l2, l3, l4, l5, l6, blsOf]
end Tie
end

section
set_option Elab.async false
set_option linter.all false
set_option maxRecDepth 100000
set_option maxHeartbeats 4000000
namespace Tie
open PySem PySem.Spec PyProof.Rows L2 LB
variable {st : Sto} {k m : Nat}
/-- does a relation hold in a talk -/
def soR (t : Talk) (r : Rl) : Bool := match wor t r.2.1 with
  | none => true
  | some h => match r.2.2.1 with
    | none => decide (h = r.2.2.2)
    | some o => match wor t o with
      | none => true
      | some j => decide (h - j = r.2.2.2)
theorem eq_add (h j v : Int) : decide (h = j + v) = decide (h - j = v) := decide_eq_decide.mpr (by omega)
theorem q_so (wf : st.Wf) (t : Talk) (r : Rl) : pr.run (k + 2) 4 [rlD r, tD t] st = .ok (.bl (soR t r)) st := by
  obtain ⟨w, p, o, v⟩ := r
  rw [r4]
  cases hp : wor t p with
  | none =>
    cases o with
    | none => simp [b4, rlD, poD, q0 wf, hp, oD, soR, cut_wf wf, is_nn]
    | some o => simp [b4, rlD, poD, q0 wf, hp, oD, soR, cut_wf wf, is_nn, is_pc]
  | some h =>
    cases o with
    | none => simp [b4, rlD, poD, q0 wf, hp, oD, soR, cut_wf wf, is_nn, is_int]
    | some o =>
      cases ho : wor t o with
      | none => simp [b4, rlD, poD, q0 wf, hp, ho, oD, soR, cut_wf wf, is_nn, is_pc, is_int]
      | some j => simp [b4, rlD, poD, q0 wf, hp, ho, oD, soR, cut_wf wf, is_pc, is_int, eq_add]
theorem q_lso (wf : st.Wf) (t : Talk) (r : Rl) : pr.run (k + 2) 15 [rlD r, tD t] st = .ok (.bl (soR t r)) st := by
  obtain ⟨w, p, o, v⟩ := r
  rw [r15]
  cases hp : wor t p with
  | none =>
    cases o with
    | none => simp [b15, rlD, poD, at1, at2, at3, q9 wf, hp, oD, soR, cut_wf wf, is_nn, isn_nn]
    | some o => simp [b15, rlD, poD, at1, at2, at3, q9 wf, hp, oD, soR, cut_wf wf, is_nn, isn_pc]
  | some h =>
    cases o with
    | none => simp [b15, rlD, poD, at1, at2, at3, q9 wf, hp, oD, soR, cut_wf wf, isn_nn, is_int]
    | some o =>
      cases ho : wor t o with
      | none => simp [b15, rlD, poD, at1, at2, at3, q9 wf, hp, ho, oD, soR, cut_wf wf, is_nn, isn_pc, is_int]
      | some j => simp [b15, rlD, poD, at1, at2, at3, q9 wf, hp, ho, oD, soR, cut_wf wf, isn_pc, is_int]
end Tie
end

section
set_option Elab.async false
set_option linter.all false
set_option maxRecDepth 100000
set_option maxHeartbeats 4000000
namespace Tie
open PySem PySem.Spec PyProof.Rows L2 LB
variable {st : Sto} {k m : Nat}
theorem s_t : ((Str.ofString "same") = (Str.ofString "told")) = False := by decide
theorem m_t : ((Str.ofString "more") = (Str.ofString "told")) = False := by decide
theorem q_rel (wf : st.Wf) {r : Rl} (h : RG r) : pr.run (k + 3) 2 [rlD r] st = .ok (.bl true) st := by
  obtain ⟨w, p, o, v⟩ := r
  have a := q_pl (k := k) wf h.pl.2
  have b := q_wh (k := k + 1) wf v
  simp only at a
  rw [r2]
  rcases h.ot with ⟨e1, e2⟩ | ⟨o', e1, e2, e3, e4⟩
  · simp only at e1 e2
    subst e1 e2
    simp [b2, rlD, poD, at0, at1, at2, at3, a, b, cut_wf wf, is_nn]
  · simp only at e1 e2 e3 e4
    subst e1
    have c := q_pl (k := k) wf e2.2
    have lt := ltG_pl o' p st
    rw [e3] at lt
    by_cases z : v = 0
    · rw [if_pos z] at e4
      subst e4 z
      simp [b2, rlD, poD, at0, at1, at2, at3, a, b, c, lt, cut_wf wf, s_t]
    · rw [if_neg z] at e4
      subst e4
      simp [b2, rlD, poD, at0, at1, at2, at3, a, b, c, lt, cut_wf wf, m_t, z]
theorem q_holds (wf : st.Wf) {r : Rl} (h : RG r) (t : Talk) : pr.run (k + 4) 5 [rlD r, tD t] st = .ok (.bl (soR t r)) st := by
  rw [r5]
  simp [b5, q_rel (k := k) wf h, q_so (k := k + 1) wf t r, cut_wf wf]
end Tie
end

section
set_option Elab.async false
set_option linter.all false
set_option maxRecDepth 100000
set_option maxHeartbeats 4000000
namespace Tie
open PySem PySem.Spec PyProof.Rows L2 LB
variable {st : Sto} {k m : Nat}
/-! what are no whole numbers, no places -/
theorem nw_bl (wf : st.Wf) (b : Bool) : pr.run (k + 1) 0 [.bl b] st = .ok (.bl false) st := by
  rw [r0]; simp [b0, cut_wf wf]
theorem nw_non (wf : st.Wf) : pr.run (k + 1) 0 [.non] st = .ok (.bl false) st := by
  rw [r0]; simp [b0, cut_wf wf]
theorem nw_str (wf : st.Wf) (x : Str) : pr.run (k + 1) 0 [.str x] st = .ok (.bl false) st := by
  rw [r0]; simp [b0, cut_wf wf]
theorem np_non (wf : st.Wf) : pr.run (k + 2) 1 [.non] st = .ok (.bl false) st := by
  rw [r1]; simp [b1, cut_wf wf]
theorem np_lst (wf : st.Wf) (ds : List D) : pr.run (k + 2) 1 [.lst ds] st = .ok (.bl false) st := by
  rw [r1]; simp [b1, cut_wf wf]
theorem np_bl (wf : st.Wf) (b : Bool) (x : D) : pr.run (k + 2) 1 [.tup [.bl b, x]] st = .ok (.bl false) st := by
  rw [r1]; simp [b1, at0, nw_bl wf, cut_wf wf]
theorem np_neg (wf : st.Wf) (x : D) : pr.run (k + 2) 1 [.tup [.int (-1), x]] st = .ok (.bl false) st := by
  rw [r1]; simp [b1, at0, q_wh wf, cut_wf wf]
theorem len_A : (Str.ofString "A").length = 1 := by decide +kernel
theorem len_9 : (Str.ofString "abcdefghi").length = 9 := by decide +kernel
theorem len_0 : (Str.ofString "").length = 0 := by decide +kernel
theorem ch_A : strDs (Str.ofString "A") = [.str ⟨#[65]⟩] := rfl
theorem l7 : ([65] < [97]) = True := by decide
theorem np_A (wf : st.Wf) : pr.run (k + 2) 1 [.tup [.int 0, .str (Str.ofString "A")]] st = .ok (.bl false) st := by
  rw [r1]; simp [b1, at0, at1, q_wh wf, cut_wf wf, b1c0, len_A, ch_A, cp_a, cp_z, l7, blsOf]
theorem np_9 (wf : st.Wf) : pr.run (k + 2) 1 [.tup [.int 0, .str (Str.ofString "abcdefghi")]] st = .ok (.bl false) st := by
  rw [r1]; simp [b1, at0, at1, q_wh wf, cut_wf wf, b1c0, len_9]
theorem np_0 (wf : st.Wf) : pr.run (k + 2) 1 [.tup [.int 0, .str (Str.ofString "")]] st = .ok (.bl false) st := by
  rw [r1]; simp [b1, at0, at1, q_wh wf, cut_wf wf, b1c0, len_0]
/-! no relations -/
theorem nr_non (wf : st.Wf) : pr.run (k + 3) 2 [.non] st = .ok (.bl false) st := by
  rw [r2]; simp [b2, cut_wf wf]
theorem nr_lst (wf : st.Wf) (ds : List D) : pr.run (k + 3) 2 [.lst ds] st = .ok (.bl false) st := by
  rw [r2]; simp [b2, cut_wf wf]
theorem nr_len (wf : st.Wf) {ds : List D} (h : ds.length < 4 ∨ 4 < ds.length) : pr.run (k + 3) 2 [.tup ds] st = .ok (.bl false) st := by
  have : ¬ ((ds.length : Int) = 4) := by omega
  rw [r2]; simp [b2, cut_wf wf, this]
theorem nr_pl (wf : st.Wf) {w x o v : D} (h : pr.run (k + 2) 1 [x] st = .ok (.bl false) st) : pr.run (k + 3) 2 [.tup [w, x, o, v]] st = .ok (.bl false) st := by
  rw [r2]; simp [b2, cut_wf wf, at1, h]
theorem nr_wh (wf : st.Wf) {w x o v : D} (h1 : pr.run (k + 2) 1 [x] st = .ok (.bl true) st) (h : pr.run (k + 2) 0 [v] st = .ok (.bl false) st) : pr.run (k + 3) 2 [.tup [w, x, o, v]] st = .ok (.bl false) st := by
  rw [r2]; simp [b2, cut_wf wf, at1, at3, h1, h]
theorem nr_told (wf : st.Wf) {p o : Plc} {v : Int} (hp : p.2 ∈ words) : pr.run (k + 3) 2 [.tup [.str "told", pcD p, pcD o, .int v]] st = .ok (.bl false) st := by
  have a := q_pl (k := k) wf hp
  rw [r2]; simp [b2, cut_wf wf, at0, at1, at2, at3, a, q_wh wf, is_pc]
theorem nr_none (wf : st.Wf) {w : Str} {p : Plc} {v : Int} (hp : p.2 ∈ words) (hw : w ≠ "told") : pr.run (k + 3) 2 [.tup [.str w, pcD p, .non, .int v]] st = .ok (.bl false) st := by
  have a := q_pl (k := k) wf hp
  rw [r2]; simp [b2, cut_wf wf, at0, at1, at2, at3, a, q_wh wf, hw, np_non (k := k) wf]
theorem nr_lt (wf : st.Wf) {w : Str} {p o : Plc} {v : Int} (hp : p.2 ∈ words) (ho : o.2 ∈ words) (hw : w ≠ "told") (h : ltP o p = false) : pr.run (k + 3) 2 [.tup [.str w, pcD p, pcD o, .int v]] st = .ok (.bl false) st := by
  have a := q_pl (k := k) wf hp
  have b := q_pl (k := k) wf ho
  have lt := ltG_pl o p st
  rw [h] at lt
  rw [r2]; simp [b2, cut_wf wf, at0, at1, at2, at3, a, b, q_wh wf, hw, lt]
theorem nr_kd (wf : st.Wf) {w : Str} {p o : Plc} {v : Int} (hp : p.2 ∈ words) (ho : o.2 ∈ words) (hw : w ≠ "told") (h : ltP o p = true) (hk : w ≠ if v = 0 then ("same" : Str) else "more") : pr.run (k + 3) 2 [.tup [.str w, pcD p, pcD o, .int v]] st = .ok (.bl false) st := by
  have a := q_pl (k := k) wf hp
  have b := q_pl (k := k) wf ho
  have lt := ltG_pl o p st
  rw [h] at lt
  rw [r2]
  by_cases z : v = 0
  · subst z
    rw [if_pos rfl] at hk
    simp [b2, cut_wf wf, at0, at1, at2, at3, a, b, q_wh wf, hw, lt, hk]
  · rw [if_neg z] at hk
    simp [b2, cut_wf wf, at0, at1, at2, at3, a, b, q_wh wf, hw, lt, hk, z]
end Tie
end

section
set_option Elab.async false
set_option linter.all false
set_option maxRecDepth 100000
set_option maxHeartbeats 4000000
namespace Tie
open PySem PySem.Spec PyProof.Rows L2 LB
variable {st : Sto} {k m : Nat}
/-- the odd things -/
def odd (w p o v : D) : List D :=
  [.non, .tup [], .lst [w, p, o, v], .tup [w, p, o], .tup [w, p, o, v, .int 0], .tup [.non, p, o, v], .tup [.str "less", p, o, v],
   .tup [w, .tup [.bl true, .str "a"], o, v], .tup [w, .tup [.int (-1), .str "a"], o, v], .tup [w, .tup [.int 0, .str "A"], o, v],
   .tup [w, .tup [.int 0, .str "abcdefghi"], o, v], .tup [w, .tup [.int 0, .str ""], o, v], .tup [w, .lst [.int 0, .str "a"], o, v],
   .tup [w, p, o, .bl true], .tup [w, p, o, .non], .tup [w, p, o, .str "1"],
   .tup [.str "told", p, .tup [.int 0, .str "a"], v], .tup [.str "same", p, .non, .int 0], .tup [.str "more", p, p, .int 1],
   .tup [.str "same", .tup [.int 3, .str "a"], .tup [.int 2, .str "a"], .int 1], .tup [.str "more", .tup [.int 3, .str "a"], .tup [.int 2, .str "a"], .int 0], .tup [.str "more", .tup [.int 1, .str "a"], .tup [.int 2, .str "a"], .int 1]]
theorem q19 (wf : st.Wf) (w p o v : D) : pr.run (k + 1) 19 [.tup [w, p, o, v]] st = .ok (.lst (odd w p o v)) st := by
  rw [r19]
  refine (defF_rt (en := [some (.tup [w, p, o, v]), none, none, none, none, none]) rfl ?_).trans (by rw [cut_wf wf])
  rfl
theorem eq_ns {x : Str} (h : PyData.strOk x = true) (s : Sto) : eqF .non (.str x) s = some (.bl false, s) := by
  have e : eqD .non (.str x) s = some false := by
    show (if (true && decide (0 ≤ 64)) && (PyData.strOk x && decide (0 ≤ 64)) then some (PyData.eqv .none (.str x)) else none) = _
    rw [h]; rfl
  unfold eqF eqG
  rw [e]; rfl
theorem nr_n1 (wf : st.Wf) {r : Rl} (h : RG r) : pr.run (k + 3) 2 [.tup [.non, pcD r.2.1, poD r.2.2.1, .int r.2.2.2]] st = .ok (.bl false) st := by
  obtain ⟨w, p, o, v⟩ := r
  have a := q_pl (k := k) wf h.pl.2
  simp only at a
  have et := eq_ns (x := Str.ofString "told") (by decide +kernel) st
  have es := eq_ns (x := Str.ofString "same") (by decide +kernel) st
  have em := eq_ns (x := Str.ofString "more") (by decide +kernel) st
  rw [r2]
  rcases h.ot with ⟨e1, e2⟩ | ⟨o', e1, e2, e3, e4⟩
  · simp only at e1
    subst e1
    simp [-sx_eqF_1, b2, poD, cut_wf wf, at0, at1, at2, at3, a, q_wh wf, et, np_non (k := k) wf]
  · simp only at e1 e2 e3
    subst e1
    have b := q_pl (k := k) wf e2.2
    have lt := ltG_pl o' p st
    rw [e3] at lt
    have ez : eqF (.int v) (.int 0) st = some (.bl (decide (v = 0)), st) := by simp
    by_cases z : v = 0
    · rw [decide_eq_true z] at ez
      simp [-sx_eqF_1, b2, poD, cut_wf wf, at0, at1, at2, at3, a, b, q_wh wf, et, es, lt, ez]
    · rw [decide_eq_false z] at ez
      simp [-sx_eqF_1, b2, poD, cut_wf wf, at0, at1, at2, at3, a, b, q_wh wf, et, em, lt, ez]
end Tie
end

section
set_option Elab.async false
set_option linter.all false
set_option maxRecDepth 100000
set_option maxHeartbeats 4000000
namespace Tie
open PySem PySem.Spec PyProof.Rows L2 LB
variable {st : Sto} {k m : Nat}
theorem q5x (wf : st.Wf) {d t : D} (h : pr.run (k + 3) 2 [d] st = .ok (.bl false) st) : pr.run (k + 4) 5 [d, t] st = .exn ⟨0, [], []⟩ st := by
  rw [r5]
  simp [b5, h, cut_wf wf]
theorem ex1 : pr.exm.lookup (0, 1) = some true := by decide +kernel
theorem is1 : pr.isa.lookup (0, 0) = some true := by decide +kernel
theorem is2 : pr.isa.lookup (0, 2) = some false := by decide +kernel
theorem q20 (wf : st.Wf) {d t : D} (h : pr.run (k + 3) 2 [d] st = .ok (.bl false) st) : pr.run (k + 5) 20 [d, t] st = .ok (.bl true) st := by
  rw [r20]
  have e := q5x (k := k) (t := t) wf h
  simp [b20, b20l0, b20l1, e, ex1, is1, is2, cut_wf wf]
end Tie
end

section
set_option Elab.async false
set_option linter.all false
set_option maxRecDepth 100000
set_option maxHeartbeats 4000000
namespace Tie
open PySem PySem.Spec PyProof.Rows L2 LB
theorem le_lt (a b : Plc) : leD (pcD a) (pcD b) = !ltP b a := by
  have t : ∀ a, tokD (pcD a) = PySem.W.keyToks (plP a) := fun a => by rw [tokD, pyD_pl]
  show (!PyProof.Rows.lexLt itemOrd (tokD (pcD b)) (tokD (pcD a))) = _
  rw [t, t]; rfl
theorem ltP_one {a b : Plc} (h : a ≠ b) : (ltP a b = true ∧ ltP b a = false) ∨ (ltP b a = true ∧ ltP a b = false) := by
  have tot := leD_T.total (pcD a) (pcD b)
  rw [le_lt, le_lt] at tot
  cases e1 : ltP a b with
  | true =>
    cases e2 : ltP b a with
    | true => rw [e1, e2] at tot; simp at tot
    | false => exact .inl ⟨rfl, rfl⟩
  | false =>
    cases e2 : ltP b a with
    | true => exact .inr ⟨rfl, rfl⟩
    | false =>
      refine absurd (pk_inj a b (leD_anti (k := pk a) (j := pk b) rfl ?_ ?_)) h
      · rw [ofN_pk, ofN_pk, le_lt, e2]; rfl
      · rw [ofN_pk, ofN_pk, le_lt, e1]; rfl
theorem mx_pc (mx : Bool) (a b : Plc) : mxT mx (pcD a) (pcD b) = some (if (if mx then ltP a b else ltP b a) then pcD b else pcD a) := by
  unfold mxT
  rw [pyD_pl, pyD_pl]
  simp only
  rw [if_pos (show srtOk [plP a, plP b] = true from srtOk_pl [a, b])]
  rfl
end Tie
end

section
set_option Elab.async false
set_option linter.all false
set_option maxRecDepth 100000
set_option maxHeartbeats 4000000
namespace Tie
open PySem PySem.Spec PyProof.Rows L2 LB
variable {st : Sto} {k m : Nat}
theorem at3w {b : Nat} (h : b < 3) : ∃ w, w ∈ words ∧ atI [D.str "a", .str "bb", .str "c"] (b : Int) = some (.str w) := by
  have : b = 0 ∨ b = 1 ∨ b = 2 := by omega
  rcases this with rfl | rfl | rfl
  · exact ⟨"a", by simp [words], rfl⟩
  · exact ⟨"bb", by simp [words], rfl⟩
  · exact ⟨"c", by simp [words], rfl⟩
theorem q18 {s : Sto} (h : Pl s m) : ∃ (p o : Plc) (v : Int) (s' : Sto), (p.1 < 100 ∧ p.2 ∈ words) ∧ (o.1 < 100 ∧ o.2 ∈ words) ∧ v.natAbs < 200 ∧ pr.run (k + 2) 18 [.ref m] s = .ok (.lst [rlD ("told", p, none, v), .tup [.str (if v = 0 then ("same" : Str) else "more"), if ltP p o then pcD o else pcD p, if ltP o p then pcD o else pcD p, .int v]]) s' ∧ Pl s' m := by
  obtain ⟨a, s1, e1, l1, f1⟩ := q_nat (k := k) h 5 5 rfl (by decide) (by decide)
  obtain ⟨b, s2, e2, l2, f2⟩ := q_nat (k := k) f1.pl 3 3 rfl (by decide) (by decide)
  obtain ⟨w, hw, aw⟩ := at3w l2
  obtain ⟨c, s3, e3, l3, f3⟩ := q_nat (k := k) f2.pl 5 5 rfl (by decide) (by decide)
  obtain ⟨d, s4, e4, l4, f4⟩ := q_nat (k := k) f3.pl 3 3 rfl (by decide) (by decide)
  obtain ⟨x, hx, ax⟩ := at3w l4
  obtain ⟨i, s5, e5, l5, f5⟩ := q_nat (k := k) f4.pl 9 9 rfl (by decide) (by decide)
  have f := (((f1.trans f2).trans f3).trans f4).trans f5
  have t1 : (hd b18).ev ⟨pr.run (k + 1), pr⟩ [some (.ref m), none, none, none] s = .nx [some (.ref m), some (pcD (a, w)), none, none] s2 := by
    simp [hd, b18, e1, e2, aw, pcD]
  have t2 : (hd (tl b18)).ev ⟨pr.run (k + 1), pr⟩ [some (.ref m), some (pcD (a, w)), none, none] s2 = .nx [some (.ref m), some (pcD (a, w)), some (pcD (c, x)), none] s4 := by
    simp [hd, tl, b18, e3, e4, ax, pcD]
  have t3 : (hd (tl (tl b18))).ev ⟨pr.run (k + 1), pr⟩ [some (.ref m), some (pcD (a, w)), some (pcD (c, x)), none] s4 = .nx [some (.ref m), some (pcD (a, w)), some (pcD (c, x)), some (.int ((i : Int) - 4))] s5 := by
    simp [hd, tl, b18, e5]
  generalize hv : (i : Int) - 4 = v at t3
  have mx := mx_pc true (a, w) (c, x)
  have mn := mx_pc false (a, w) (c, x)
  have bx : Bl.f .max2 [pcD (a, w), pcD (c, x)] s5 = some (if ltP (a, w) (c, x) then pcD (c, x) else pcD (a, w), s5) := by
    unfold pcD at mx ⊢
    simp only [Bl.f, mx]
    rfl
  have bn : Bl.f .min2 [pcD (a, w), pcD (c, x)] s5 = some (if ltP (c, x) (a, w) then pcD (c, x) else pcD (a, w), s5) := by
    unfold pcD at mn ⊢
    simp only [Bl.f, mn]
    rfl
  refine ⟨(a, w), (c, x), v, s5.cut s.nx, ⟨by show a < 100; omega, hw⟩, ⟨by show c < 100; omega, hx⟩, by omega, ?_, ?_⟩
  · rw [r18]
    refine defF_rt (en := [some (.ref m), none, none, none]) rfl ?_
    rw [ev_cons rfl t1, ev_cons rfl t2, ev_cons rfl t3]
    by_cases z : v = 0
    · subst z
      simp [-sx_Bl_f_9, -sx_Bl_f_10, tl, b18, at0, at1, bx, bn, rlD, poD]
    · simp [-sx_Bl_f_9, -sx_Bl_f_10, tl, b18, at0, at1, bx, bn, rlD, poD, z]
  · have nx : s5.nx = s.nx := f.nx
    rw [← nx, cut_wf f.pl.wf]
    exact f.pl
end Tie
end

section
set_option Elab.async false
set_option linter.all false
set_option maxRecDepth 100000
set_option maxHeartbeats 4000000
namespace Tie
open PySem PySem.Spec PyProof.Rows L2 LB
variable {st : Sto} {k m : Nat}
theorem lt_self (p : Plc) : ltP p p = false := by
  have := leD_T.total (pcD p) (pcD p)
  rw [le_lt] at this
  cases e : ltP p p with
  | true => rw [e] at this; simp at this
  | false => rfl
theorem wa : (Str.ofString "a") ∈ words := by simp [words]
theorem odd_no (wf : st.Wf) {r : Rl} (h : RG r) : ∀ d ∈ odd (.str r.1) (pcD r.2.1) (poD r.2.2.1) (.int r.2.2.2), pr.run (k + 3) 2 [d] st = .ok (.bl false) st := by
  have a := q_pl (k := k) wf h.pl.2
  intro d hd
  simp only [odd, List.mem_cons, List.not_mem_nil, or_false] at hd
  rcases hd with rfl | rfl | rfl | rfl | rfl | rfl | rfl | rfl | rfl | rfl | rfl | rfl | rfl | rfl | rfl | rfl | rfl | rfl | rfl | rfl | rfl | rfl
  · exact nr_non wf
  · exact nr_len wf (.inl (by decide))
  · exact nr_lst wf _
  · exact nr_len wf (.inl (by show 3 < 4; decide))
  · exact nr_len wf (.inr (by show 4 < 5; decide))
  · exact nr_n1 wf h
  · rcases h.ot with ⟨e1, e2⟩ | ⟨o, e1, e2, e3, e4⟩
    · rw [e1]; exact nr_none wf h.pl.2 (by decide)
    · rw [e1]; exact nr_kd wf h.pl.2 e2.2 (by decide) e3 (by split <;> decide)
  · exact nr_pl wf (np_bl wf _ _)
  · exact nr_pl wf (np_neg wf _)
  · exact nr_pl wf (np_A wf)
  · exact nr_pl wf (np_9 wf)
  · exact nr_pl wf (np_0 wf)
  · exact nr_pl wf (np_lst wf _)
  · exact nr_wh wf a (nw_bl wf _)
  · exact nr_wh wf a (nw_non wf)
  · exact nr_wh wf a (nw_str wf _)
  · exact nr_told wf (o := (0, "a")) h.pl.2
  · exact nr_none wf h.pl.2 (by decide)
  · exact nr_lt wf h.pl.2 h.pl.2 (by decide) (lt_self _)
  · exact nr_kd wf (p := (3, "a")) (o := (2, "a")) wa wa (by decide) (by decide +kernel) (by decide)
  · exact nr_kd wf (p := (3, "a")) (o := (2, "a")) wa wa (by decide) (by decide +kernel) (by decide)
  · exact nr_lt wf (p := (1, "a")) (o := (2, "a")) wa wa (by decide) (by decide +kernel)
end Tie
end

section
set_option Elab.async false
set_option linter.all false
set_option maxRecDepth 100000
set_option maxHeartbeats 4000000
namespace Tie
open PySem PySem.Spec PyProof.Rows L2 LB
variable {st : Sto} {k m : Nat}
theorem fK_ok : ∀ f : Fld, (∀ q ∈ f, q.1 ∈ words) → (fK f).all okK = true ∧ wKs (fK f) ≤ 5 * f.length
  | [], _ => ⟨rfl, Nat.zero_le _⟩
  | q :: r, h => by
    obtain ⟨a, b⟩ := fK_ok r fun x hx => h x (List.mem_cons_of_mem _ hx)
    obtain ⟨c, d⟩ := word_ok (h q (List.mem_cons_self ..))
    refine ⟨?_, ?_⟩
    · show (okK (.inr q.1) && (fK r).all okK) = true
      rw [a, show okK (.inr q.1) = true from c]; rfl
    · show wK (.inr q.1) + 1 + wKs (fK r) ≤ _
      have : wK (.inr q.1) ≤ 4 := d
      rw [List.length_cons]; omega
theorem f_ok {f : Fld} (h : Fo words 100 f) (hl : f.length ≤ 3) : okX (fD f) = true ∧ depX (fD f) ≤ 1 ∧ wgX (fD f) ≤ 45 := by
  obtain ⟨a, b⟩ := fK_ok f fun q hq => (h q hq).1
  have el : ∀ d ∈ fV f, ∃ i : Int, d = .int i ∧ i.natAbs < 256 := fun d hd => by
    obtain ⟨q, hq, rfl⟩ := List.mem_map.mp hd
    exact ⟨q.2, rfl, by have := (h q hq).2; omega⟩
  have vl : (fV f).length = f.length := by simp [fV]
  have o1 : okXs (fV f) = true := okXs_all fun d hd => by
    obtain ⟨i, rfl, hi⟩ := el d hd
    exact okInt hi
  have o2 : depXs (fV f) ≤ 0 := depXs_all fun d hd => by
    obtain ⟨i, rfl, hi⟩ := el d hd
    exact Nat.le_refl _
  have o3 : wgXs (fV f) ≤ 9 * (fV f).length := wgXs_all fun d hd => by
    obtain ⟨i, rfl, hi⟩ := el d hd
    have := wgt_int hi
    show wgt (.int i) + 1 ≤ 9
    omega
  refine ⟨?_, ?_, ?_⟩
  · show ((fK f).all okK && okXs (fV f)) = true
    rw [a, o1]; rfl
  · show depXs (fV f) + 1 ≤ 1
    omega
  · show wKs (fK f) + wgXs (fV f) ≤ 45
    omega
theorem l_ok {t : Talk} (h : Lo t) {l : Int × Fld} (hl : l ∈ t) : okX (lD l) = true ∧ depX (lD l) ≤ 2 ∧ wgX (lD l) + 1 ≤ 60 := by
  obtain ⟨a, b, c⟩ := f_ok (h.fo l hl).1 (h.fo l hl).2
  have hs : l.1.natAbs < 256 := Nat.lt_trans (h.sd l hl) (by decide)
  have i1 : okX (.int l.1) = true := okInt hs
  have i2 : wgX (.int l.1) ≤ 8 := wgt_int hs
  refine ⟨?_, ?_, ?_⟩
  · show (okX (.int l.1) && (okX (fD l.2) && true)) = true
    rw [i1, a]; rfl
  · show max 0 (max (depX (fD l.2)) 0) + 1 ≤ 2
    omega
  · show wgX (.int l.1) + 1 + (wgX (fD l.2) + 1 + 0) + 1 ≤ 60
    omega
theorem t_ok {t : Talk} (h : Lo t) (hl : t.length ≤ 4) : okX (tD t) = true ∧ depX (tD t) ≤ 3 ∧ wgX (tD t) + 1 ≤ 241 := by
  have all : ∀ d ∈ t.map lD, okX d = true ∧ depX d ≤ 2 ∧ wgX d + 1 ≤ 60 := fun d hd => by
    obtain ⟨l, hl, rfl⟩ := List.mem_map.mp hd
    exact l_ok h hl
  have a := okXs_all fun d hd => (all d hd).1
  have b := depXs_all (n := 2) fun d hd => (all d hd).2.1
  have c := wgXs_all (n := 60) fun d hd => (all d hd).2.2
  rw [List.length_map] at c
  refine ⟨a, ?_, ?_⟩
  · show depXs (t.map lD) + 1 ≤ 3
    omega
  · show wgXs (t.map lD) + 1 ≤ 241
    omega
theorem ts_nice {ts : List Talk} (T : Tl ts) (h4 : ts.length ≤ 4) : NiceX (tsD ts) := by
  have all2 : ∀ d ∈ ts.map tD, okX d = true ∧ depX d ≤ 3 ∧ wgX d + 1 ≤ 241 := fun d hd => by
    obtain ⟨t, ht, rfl⟩ := List.mem_map.mp hd
    exact t_ok (T.lo t ht).1 (T.lo t ht).2
  have a2 := okXs_all fun d hd => (all2 d hd).1
  have b2 := depXs_all (n := 3) fun d hd => (all2 d hd).2.1
  have c2 := wgXs_all (n := 241) fun d hd => (all2 d hd).2.2
  rw [List.length_map] at c2
  refine ⟨a2, ?_, ?_⟩
  · show depXs (ts.map tD) + 1 ≤ 20
    omega
  · show wgXs (ts.map tD) ≤ 100000
    omega
/-! one relation in one talk; one odd thing -/
section
variable {x0 x1 x2 x3 x4 x5 x6 x8 x10 : Option D}
theorem one21 (wf : st.Wf) {r : Rl} (h : RG r) (t : Talk) : b21l2.ev ⟨pr.run (k + 4), pr⟩ [x0, x1, x2, x3, x4, x5, x6, some (rlD r), x8, some (tD t)] st = .nx [x0, x1, x2, x3, x4, x5, x6, some (rlD r), x8, some (tD t)] st := by
  have a := q_holds (k := k) wf h t
  have b := q_lso (k := k + 2) wf t r
  cases e : soR t r with
  | true => rw [e] at a b; simp [b21l2, a, b, reprD, leaf, reprL]
  | false => rw [e] at a b; simp [b21l2, a, b, reprD, leaf, reprL]
end
end Tie
end

section
set_option Elab.async false
set_option linter.all false
set_option maxRecDepth 100000
set_option maxHeartbeats 4000000
namespace Tie
open PySem PySem.Spec PyProof.Rows L2 LB
variable {st : Sto} {k m : Nat}
section
variable {x0 x1 x2 x4 x5 x6 x7 x8 x9 : Option D}
theorem isn_bb (b : Bool) (s : Sto) : isnF (.bl b) (.bl b) s = some (.bl false, s) := by cases b <;> rfl
theorem rel21 (wf : st.Wf) {r : Rl} (h : RG r) {ts : List Talk} (hl : ts.length ≤ 4) (y9 : Option D) : ∃ z9, b21l3.ev ⟨pr.run (k + 4), pr⟩ [x0, x1, x2, some (tsD ts), x4, x5, x6, some (rlD r), x8, y9] st = .nx [x0, x1, x2, some (tsD ts), x4, x5, x6, some (rlD r), x8, z9] st := by
  have a := q_rel (k := k + 1) wf h
  have t1 : (hd b21l3).ev ⟨pr.run (k + 4), pr⟩ [x0, x1, x2, some (tsD ts), x4, x5, x6, some (rlD r), x8, y9] st = .nx [x0, x1, x2, some (tsD ts), x4, x5, x6, some (rlD r), x8, y9] st := by
    simp [hd, b21l3, a, isn_bb]
  have i : (It.seq (.bin .add true (.var 3) (.lst true (.cons (.lst true .nil) .nil)))).ev ⟨pr.run (k + 4), pr⟩ [x0, x1, x2, some (tsD ts), x4, x5, x6, some (rlD r), x8, y9] st = .ok ((ts ++ [[]]).map tD) st := by
    rw [It.ev]
    simp only [ex_cat (E := ⟨pr.run (k + 4), pr⟩) (a := .var 3) (b := .lst true (.cons (.lst true .nil) .nil)) (en := [x0, x1, x2, some (tsD ts), x4, x5, x6, some (rlD r), x8, y9]) (st := st) (xs := ts.map tD) (ys := [tD []]) rfl rfl (by rw [List.length_map]; show ts.length + 1 ≤ 1000; omega), Res.bind_ok, List.map_append]
    rfl
  obtain ⟨en, s', e3, ⟨z9, h1⟩, h2⟩ := forF_fold (bt := (Tg.nm 9).bt) (fb := b21l2.ev ⟨pr.run (k + 4), pr⟩) tD (fun (_ : Unit) en s => (∃ z9, en = [x0, x1, x2, some (tsD ts), x4, x5, x6, some (rlD r), x8, z9]) ∧ s = st) (fun a _ => a) (ts ++ [[]]) () [x0, x1, x2, some (tsD ts), x4, x5, x6, some (rlD r), x8, y9] st
    (fun _ t en s _ ⟨⟨z9, e⟩, hs⟩ => by
      subst e hs
      exact ⟨_, _, _, rfl, one21 wf h t, ⟨_, rfl⟩, rfl⟩) ⟨⟨y9, rfl⟩, rfl⟩
  subst h1 h2
  refine ⟨z9, ?_⟩
  rw [ev_cons rfl t1]
  exact one_nx ((sm_for i).trans e3)
theorem odd21 (wf : st.Wf) {r : Rl} (h : RG r) {d : D} (hd' : d ∈ odd (.str r.1) (pcD r.2.1) (poD r.2.2.1) (.int r.2.2.2)) (t : Talk) (ts : List Talk) : b21l4.ev ⟨pr.run (k + 5), pr⟩ [x0, x1, x2, some (tsD (t :: ts)), x4, x5, x6, x7, some d, x9] st = .nx [x0, x1, x2, some (tsD (t :: ts)), x4, x5, x6, x7, some d, x9] st := by
  have a := odd_no (k := k + 2) wf h d hd'
  have b := q20 (k := k) (t := tD t) wf (odd_no (k := k) wf h d hd')
  simp [b21l4, a, b, ix0, isn_bb]
end
end Tie
end

section
set_option Elab.async false
set_option linter.all false
set_option maxRecDepth 100000
set_option maxHeartbeats 4000000
namespace Tie
open PySem PySem.Spec PyProof.Rows L2 LB
variable {st : Sto} {k m : Nat}
theorem word_str {w : Str} (h : w ∈ words) : PyData.strOk w = true := by
  have := (word_ok h).1
  simp only [okP, Bool.and_eq_true] at this
  exact this.2
theorem sh_pl {a : Plc} (h : PyData.strOk a.2 = true) : SeqAt.shaped (plP a) = true := by
  show ((true && (PyData.strOk a.2 && true)) && decide (max 0 (max 0 0) + 1 ≤ 64)) = true
  rw [h]; rfl
theorem ne_pn {a : Plc} (h : PyData.strOk a.2 = true) (s : Sto) : neF (pcD a) .non s = some (.bl true, s) := by
  have e : eqD (pcD a) .non s = some false := by
    show (match pyT s (pcD a), pyT s .non with
      | some x, some y => if SeqAt.shaped x && SeqAt.shaped y then some (PyData.eqv x y) else none
      | _, _ => none) = _
    rw [show pyT s (pcD a) = some (plP a) from pyD_pl a]
    show (if SeqAt.shaped (plP a) && SeqAt.shaped .none then some (PyData.eqv (plP a) .none) else none) = _
    rw [sh_pl h]; rfl
  unfold neF
  rw [e]; rfl
/-- of the two drawn, those that are good -/
theorem two_good {p o : Plc} {v : Int} (hp : p.1 < 100 ∧ p.2 ∈ words) (ho : o.1 < 100 ∧ o.2 ∈ words) (hv : v.natAbs < 200) (h : p ≠ o) : ∃ r : Rl, RG r ∧ D.tup [.str (if v = 0 then ("same" : Str) else "more"), if ltP p o then pcD o else pcD p, if ltP o p then pcD o else pcD p, .int v] = rlD r ∧ r.2.2.1.isSome = true ∧ r.2.2.1 ≠ some r.2.1 := by
  rcases ltP_one h with ⟨e1, e2⟩ | ⟨e1, e2⟩
  · refine ⟨(if v = 0 then "same" else "more", o, some p, v), ⟨ho, hv, .inr ⟨p, rfl, hp, e1, rfl⟩⟩, ?_, rfl, fun e => h (Option.some.inj (show some p = some o from e))⟩
    rw [e1, e2]; rfl
  · refine ⟨(if v = 0 then "same" else "more", p, some o, v), ⟨hp, hv, .inr ⟨o, rfl, ho, e1, rfl⟩⟩, ?_, rfl, fun e => h (Option.some.inj (show some o = some p from e)).symm⟩
    rw [e1, e2]; rfl
end Tie
end

section
set_option Elab.async false
set_option linter.all false
set_option maxRecDepth 100000
set_option maxHeartbeats 4000000
namespace Tie
open PySem PySem.Spec PyProof.Rows L2 LB
variable {st : Sto} {k m : Nat}
theorem ne_self {a : Plc} (h : PyData.strOk a.2 = true) (s : Sto) : neF (pcD a) (pcD a) s = some (.bl false, s) := by
  have q := eq_pc h h s
  rw [decide_eq_true rfl] at q
  unfold eqF eqG at q
  unfold neF
  cases e : eqD (pcD a) (pcD a) s with
  | none => rw [e] at q; simp [pcD] at q
  | some b => rw [e] at q; simp at q; rw [q]; rfl
theorem ne_two {a b : Plc} (ha : PyData.strOk a.2 = true) (hb : PyData.strOk b.2 = true) (h : a ≠ b) (s : Sto) : neF (pcD a) (pcD b) s = some (.bl true, s) := by
  have q := eq_pc ha hb s
  rw [decide_eq_false h] at q
  unfold eqF eqG at q
  unfold neF
  cases e : eqD (pcD a) (pcD b) s with
  | none => rw [e] at q; simp [pcD] at q
  | some c => rw [e] at q; simp at q; rw [q]; rfl
end Tie
end

section
set_option Elab.async false
set_option linter.all false
set_option maxRecDepth 100000
set_option maxHeartbeats 4000000
namespace Tie
open PySem PySem.Spec PyProof.Rows L2 LB
variable {st : Sto} {k m : Nat}
theorem cat_s {E : Ev} {en : En} {s s' : Sto} {a b : Ex} {xs ys : List D} (h1 : a.ev E en s = .ok (.lst xs) s) (h2 : b.ev E en s = .ok (.lst ys) s') (hl : xs.length + ys.length ≤ 1000) : (Ex.bin .add true a b).ev E en s = .ok (.lst (xs ++ ys)) s' := by
  simp [h1, h2, show xs.length + ys.length ≤ 16777216 by omega]
theorem comp_s {E : Ev} {en : En} {s s' : Sto} {ow : List (Str × Nat)} {t : Tg} {it : LB.It} {c : TeO} {e : Ex} {items ys : List D} (h : it.ev E en s = .ok items s') (hl : items.length ≤ 1000) (q : compF (ow.map (·.2)) t.bt (c.ev E) (e.ev E) items en s' = .ok ys s') : (Ex.comp true ow t it c e).ev E en s = .ok (.lst ys) s' := by
  simp only [Ex.ev]
  show (it.ev E en s).bind _ = _
  rw [h]
  exact compL_ok (en := en) (st := s') (f := fun _ s => .ok items s) rfl hl q
section
variable {x0 x1 x3 x4 x5 x6 x7 x8 x9 : Option D}
theorem it21 {s s' : Sto} {xs : List D} (e : pr.run (k + 2) 18 [.ref m] s = .ok (.lst xs) s') : (It.seq (.call 18 0 (.cons (.var 2) .nil) .nil)).ev ⟨pr.run (k + 2), pr⟩ [x0, x1, some (.ref m), x3, x4, x5, x6, x7, x8, x9] s = .ok xs s' := by
  simp [e]
theorem ct21 {s : Sto} {a b c d : D} {t : Bool} (h : neF b c s = some (.bl t, s)) : (TeO.yes (.cmp .ne (.ix (.var 7) (.int 1)) (.ix (.var 7) (.int 2)))).ev ⟨pr.run (k + 2), pr⟩ [x0, x1, some (.ref m), x3, x4, x5, x6, some (.tup [a, b, c, d]), x8, x9] s = .ok t s := by
  simp [-sx_neF_1, at1, at2, h]
theorem cp21 {s : Sto} {a b c d a' b' c' d' : D} {t : Bool} (h : neF b c s = some (.bl true, s)) (h' : neF b' c' s = some (.bl t, s)) : compF [7] (Tg.nm 7).bt ((TeO.yes (.cmp .ne (.ix (.var 7) (.int 1)) (.ix (.var 7) (.int 2)))).ev ⟨pr.run (k + 2), pr⟩) (b21c0.ev ⟨pr.run (k + 2), pr⟩) [.tup [a, b, c, d], .tup [a', b', c', d']] [x0, x1, some (.ref m), x3, x4, x5, x6, x7, x8, x9] s = .ok (.tup [a, b, c, d] :: if t then [.tup [a', b', c', d']] else []) s := by
  have f : ∀ d, (Tg.nm 7).bt d (wipeE [x0, x1, some (.ref m), x3, x4, x5, x6, x7, x8, x9] [7]) = some [x0, x1, some (.ref m), x3, x4, x5, x6, some d, x8, x9] := fun d => rfl
  have g : ∀ d, b21c0.ev ⟨pr.run (k + 2), pr⟩ [x0, x1, some (.ref m), x3, x4, x5, x6, some d, x8, x9] s = .ok d s := fun d => rfl
  cases t with
  | true => simp only [compF, f, g, ct21 h, ct21 h', Res.nox, Res.bind_ok, if_true]
  | false => simp only [compF, f, g, ct21 h, ct21 h', Res.nox, Res.bind_ok, if_true]; rfl
theorem dr21 {s s' : Sto} {rs : List Rl} {a b c d a' b' c' d' : D} {t : Bool} (e : pr.run (k + 2) 18 [.ref m] s = .ok (.lst [.tup [a, b, c, d], .tup [a', b', c', d']]) s') (h : neF b c s' = some (.bl true, s')) (h' : neF b' c' s' = some (.bl t, s')) (hl : rs.length < 900) : b21l1.ev ⟨pr.run (k + 2), pr⟩ [x0, x1, some (.ref m), x3, x4, some (.lst (rs.map rlD)), x6, x7, x8, x9] s = .nx [x0, x1, some (.ref m), x3, x4, some (.lst (rs.map rlD ++ .tup [a, b, c, d] :: if t then [.tup [a', b', c', d']] else [])), x6, x7, x8, x9] s' := by
  refine one_nx (sm_set (cat_s (xs := rs.map rlD) rfl (comp_s (ow := [("_law_one", 7)]) (it21 e) (by simp) (cp21 h h')) ?_))
  rw [List.length_map]
  cases t
  · show rs.length + 1 ≤ 1000
    omega
  · show rs.length + 2 ≤ 1000
    omega
theorem draw21 {s : Sto} (h : Pl s m) {rs : List Rl} (g : ∀ r ∈ rs, RG r) (hl : rs.length < 900) : ∃ (s' : Sto) (rs' : List Rl), b21l1.ev ⟨pr.run (k + 2), pr⟩ [x0, x1, some (.ref m), x3, x4, some (.lst (rs.map rlD)), x6, x7, x8, x9] s = .nx [x0, x1, some (.ref m), x3, x4, some (.lst (rs'.map rlD)), x6, x7, x8, x9] s' ∧ rs'.length ≤ rs.length + 2 ∧ rs.length < rs'.length ∧ (∀ r ∈ rs', RG r) ∧ Pl s' m := by
  obtain ⟨p, o, v, s', hp, ho, hv, e, pl⟩ := q18 (k := k) h
  have sp := word_str hp.2
  have so' := word_str ho.2
  have A : RG ("told", p, none, v) := ⟨hp, hv, .inl ⟨rfl, rfl⟩⟩
  by_cases c : p = o
  · subst c
    have ls := lt_self p
    refine ⟨s', rs ++ [((("told" : Str), p, none, v) : Rl)], ?_, by simp, by simp, fun r hr => ?_, pl⟩
    · have n2 : neF (if ltP p p then pcD p else pcD p) (if ltP p p then pcD p else pcD p) s' = some (.bl false, s') := by
        rw [ls]
        exact ne_self sp s'
      have q := dr21 (k := k) (m := m) (x0 := x0) (x1 := x1) (x3 := x3) (x4 := x4) (x6 := x6) (x7 := x7) (x8 := x8) (x9 := x9) (rs := rs) e (ne_pn sp s') n2 hl
      rw [q, List.map_append]
      rfl
    · rcases List.mem_append.mp hr with z | z
      · exact g r z
      · rw [List.mem_singleton.mp z]; exact A
  · obtain ⟨r, R, er, _, _⟩ := two_good (v := v) hp ho hv c
    refine ⟨s', rs ++ [((("told" : Str), p, none, v) : Rl), r], ?_, by simp, by simp, fun q hq => ?_, pl⟩
    · have n2 : neF (if ltP p o then pcD o else pcD p) (if ltP o p then pcD o else pcD p) s' = some (.bl true, s') := by
        rcases ltP_one c with ⟨e1, e2⟩ | ⟨e1, e2⟩
        · rw [e1, e2]
          exact ne_two so' sp (Ne.symm c) s'
        · rw [e1, e2]
          exact ne_two sp so' c s'
      have q := dr21 (k := k) (m := m) (x0 := x0) (x1 := x1) (x3 := x3) (x4 := x4) (x6 := x6) (x7 := x7) (x8 := x8) (x9 := x9) (rs := rs) e (ne_pn sp s') n2 hl
      rw [q, List.map_append]
      show Fl.nx _ _ = Fl.nx [x0, x1, some (.ref m), x3, x4, some (.lst (rs.map rlD ++ [rlD ("told", p, none, v), rlD r])), x6, x7, x8, x9] s'
      rw [← er]
      rfl
    · rcases List.mem_append.mp hq with z | z
      · exact g q z
      · rcases List.mem_cons.mp z with z | z
        · rw [z]; exact A
        · rw [List.mem_singleton.mp z]; exact R
end
end Tie
end

section
set_option Elab.async false
set_option linter.all false
set_option maxRecDepth 100000
set_option maxHeartbeats 4000000
namespace Tie
open PySem PySem.Spec PyProof.Rows L2 LB
variable {st : Sto} {k m : Nat}
section
variable {x0 x1 x3 x4 x6 x7 x8 x9 : Option D}
/-- the six turns of drawing -/
theorem draws : ∀ (is : List D) (s : Sto) (rs : List Rl) (y6 y7 : Option D), Pl s m → (∀ r ∈ rs, RG r) → rs.length + 2 * is.length < 900 →
    ∃ (z6 : Option D) (s' : Sto) (rs' : List Rl), forF (Tg.nm 6).bt (b21l1.ev ⟨pr.run (k + 2), pr⟩) is [x0, x1, some (.ref m), x3, x4, some (.lst (rs.map rlD)), y6, y7, x8, x9] s = .nx [x0, x1, some (.ref m), x3, x4, some (.lst (rs'.map rlD)), z6, y7, x8, x9] s' ∧ rs'.length ≤ rs.length + 2 * is.length ∧ rs.length + is.length ≤ rs'.length ∧ (∀ r ∈ rs', RG r) ∧ Pl s' m
  | [], s, rs, y6, y7, h, g, hl => ⟨y6, s, rs, rfl, Nat.le_refl _, Nat.le_refl _, g, h⟩
  | d :: is, s, rs, y6, y7, h, g, hl => by
    rw [List.length_cons] at hl
    obtain ⟨s1, rs1, e1, a1, b1, g1, p1⟩ := draw21 (k := k) (x0 := x0) (x1 := x1) (x3 := x3) (x4 := x4) (x6 := some d) (x7 := y7) (x8 := x8) (x9 := x9) h g (by omega)
    obtain ⟨z6, s2, rs2, e2, a2, b2, g2, p2⟩ := draws is s1 rs1 (some d) y7 p1 g1 (by omega)
    refine ⟨z6, s2, rs2, ?_, by rw [List.length_cons]; omega, by rw [List.length_cons]; omega, g2, p2⟩
    have bt : (Tg.nm 6).bt d [x0, x1, some (.ref m), x3, x4, some (.lst (rs.map rlD)), y6, y7, x8, x9] = some [x0, x1, some (.ref m), x3, x4, some (.lst (rs.map rlD)), some d, y7, x8, x9] := rfl
    rw [forF_nx1 bt e1]
    exact e2
end
theorem cell (wf : st.Wf) (ns : List Int) (j : Nat) (hj : j < 64) (hc : ns = [] ∨ j < ns.length) (hn : ns.length ≤ 63) (x2 x3 x4 x5 x6 x7 x8 x9 : Option D) :
    ∃ (s' : Sto) (y2 y3 y4 y5 y6 y7 y8 y9 : Option D), b21l5.ev ⟨pr.run (k + 5), pr⟩ [some (.scr ns), some (.int (j : Int)), x2, x3, x4, x5, x6, x7, x8, x9] st = .nx [some (.scr ns), some (.int (j : Int)), y2, y3, y4, y5, y6, y7, y8, y9] s' ∧ s'.Wf := by
  obtain ⟨s1, e1, p1, n1⟩ := q_pool (k := k + 4) wf ns j hj hc hn
  have t1 : (hd b21l5).ev ⟨pr.run (k + 5), pr⟩ [some (.scr ns), some (.int (j : Int)), x2, x3, x4, x5, x6, x7, x8, x9] st = .nx [some (.scr ns), some (.int (j : Int)), some (.ref st.nx), x3, x4, x5, x6, x7, x8, x9] s1 := by
    simp [hd, b21l5, e1]
  obtain ⟨ts, s2, e2, T, l1, l4, p2⟩ := q8 (k := k + 3) p1
  have t2 : (hd (tl b21l5)).ev ⟨pr.run (k + 5), pr⟩ [some (.scr ns), some (.int (j : Int)), some (.ref st.nx), x3, x4, x5, x6, x7, x8, x9] s1 = .nx [some (.scr ns), some (.int (j : Int)), some (.ref st.nx), some (tsD ts), x4, x5, x6, x7, x8, x9] s2 := by
    simp [hd, tl, b21l5, e2]
  have g : Gs ts := gs_of T.lo (by omega)
  obtain ⟨z, hz⟩ := (ts_nice T l4).repr rfl
  have t3 : (hd (tl (tl b21l5))).ev ⟨pr.run (k + 5), pr⟩ [some (.scr ns), some (.int (j : Int)), some (.ref st.nx), some (tsD ts), x4, x5, x6, x7, x8, x9] s2 = .nx [some (.scr ns), some (.int (j : Int)), some (.ref st.nx), some (tsD ts), some (.str z), x5, x6, x7, x8, x9] s2 := by
    simp [hd, tl, b21l5, hz]
  have e4 := q5 (k := k + 1) p2.wf g.len g.prl
  rw [found_eq] at e4
  have fl : (foundR ts).length < 64 := Nat.lt_of_le_of_lt (Nat.le_trans (List.length_filterMap_le ..) (places_len ts)) g.prl
  have t4 : (hd (tl (tl (tl b21l5)))).ev ⟨pr.run (k + 5), pr⟩ [some (.scr ns), some (.int (j : Int)), some (.ref st.nx), some (tsD ts), some (.str z), x5, x6, x7, x8, x9] s2 = .nx [some (.scr ns), some (.int (j : Int)), some (.ref st.nx), some (tsD ts), some (.str z), some (.lst ((foundR ts).map rlD)), x6, x7, x8, x9] s2 := by
    simp [hd, tl, b21l5, e4]
  obtain ⟨z6, s3, rs, e5, la, lb, hr, p3⟩ := draws (k := k + 3) (x0 := some (.scr ns)) (x1 := some (.int (j : Int))) (x3 := some (tsD ts)) (x4 := some (.str z)) (x8 := x8) (x9 := x9) (upTo 0 6) s2 (foundR ts) x6 x7 p2 (foundR_ok g) (by show _ + 2 * 6 < 900; omega)
  have t5 : (hd (tl (tl (tl (tl b21l5))))).ev ⟨pr.run (k + 5), pr⟩ [some (.scr ns), some (.int (j : Int)), some (.ref st.nx), some (tsD ts), some (.str z), some (.lst ((foundR ts).map rlD)), x6, x7, x8, x9] s2 = _ := (sm_for (items := upTo 0 6) (s' := s2) (by simp [show small62 6 = true from by decide +kernel])).trans e5
  have lr : 6 ≤ rs.length := by
    have : (upTo 0 6).length = 6 := rfl
    omega
  have lr2 : rs.length < 100 := by
    have : (upTo 0 6).length = 6 := rfl
    omega
  obtain ⟨en, s5, e6, ⟨z7, z9, h1⟩, h2⟩ := forF_fold (bt := (Tg.nm 7).bt) (fb := b21l3.ev ⟨pr.run (k + 5), pr⟩) rlD (fun (_ : Unit) en s => (∃ z7 z9, en = [some (.scr ns), some (.int (j : Int)), some (.ref st.nx), some (tsD ts), some (.str z), some (.lst (rs.map rlD)), z6, z7, x8, z9]) ∧ s = s3) (fun a _ => a) rs () [some (.scr ns), some (.int (j : Int)), some (.ref st.nx), some (tsD ts), some (.str z), some (.lst (rs.map rlD)), z6, x7, x8, x9] s3
    (fun _ r en s hi ⟨⟨z7, z9, h⟩, hs⟩ => by
      subst h hs
      obtain ⟨u9, e⟩ := rel21 (k := k + 1) (x0 := some (.scr ns)) (x1 := some (.int (j : Int))) (x2 := some (.ref st.nx)) (x4 := some (.str z)) (x5 := some (.lst (rs.map rlD))) (x6 := z6) (x8 := x8) p3.wf (hr r hi) l4 z9
      exact ⟨_, _, _, rfl, e, ⟨_, _, rfl⟩, rfl⟩) ⟨⟨x7, x9, rfl⟩, rfl⟩
  subst h1
  have t6 : (hd (tl (tl (tl (tl (tl b21l5)))))).ev ⟨pr.run (k + 5), pr⟩ [some (.scr ns), some (.int (j : Int)), some (.ref st.nx), some (tsD ts), some (.str z), some (.lst (rs.map rlD)), z6, x7, x8, x9] s3 = _ := (sm_for (items := rs.map rlD) (s' := s3) rfl).trans e6
  subst h2
  obtain ⟨a, s4, e7, l7, f4⟩ := q_nat (k := k + 4) p3 rs.length (rs.length : Int) rfl (by omega) (by omega)
  have at_ : atI (rs.map rlD) (a : Int) = some (rlD rs[a]) := by
    unfold atI ixN
    rw [if_pos (by omega), if_pos (by simpa using l7)]
    simp [l7]
  have w4 := f4.pl.wf
  have ha := hr rs[a] (List.getElem_mem l7)
  generalize rs[a] = r at at_ ha
  have e8 := q19 (k := k + 4) w4 (.str r.1) (pcD r.2.1) (poD r.2.2.1) (.int r.2.2.2)
  have rd : rlD r = .tup [.str r.1, pcD r.2.1, poD r.2.2.1, .int r.2.2.2] := rfl
  have e9 : pr.run (k + 5) 19 [rlD r] s4 = .ok (.lst (odd (.str r.1) (pcD r.2.1) (poD r.2.2.1) (.int r.2.2.2))) s4 := e8
  obtain ⟨t0, tr, rfl⟩ : ∃ t0 tr, ts = t0 :: tr := by
    cases ts with
    | nil => exact absurd l1 (by decide)
    | cons t0 tr => exact ⟨t0, tr, rfl⟩
  obtain ⟨en, s6, e10, ⟨z8, h1⟩, h2⟩ := forF_fold (bt := (Tg.nm 8).bt) (fb := b21l4.ev ⟨pr.run (k + 5), pr⟩) id (fun (_ : Unit) en s => (∃ z8, en = [some (.scr ns), some (.int (j : Int)), some (.ref st.nx), some (tsD (t0 :: tr)), some (.str z), some (.lst (rs.map rlD)), z6, z7, z8, z9]) ∧ s = s4) (fun a _ => a) (odd (.str r.1) (pcD r.2.1) (poD r.2.2.1) (.int r.2.2.2)) () [some (.scr ns), some (.int (j : Int)), some (.ref st.nx), some (tsD (t0 :: tr)), some (.str z), some (.lst (rs.map rlD)), z6, z7, x8, z9] s4
    (fun _ d en s hi ⟨⟨z8, h⟩, hs⟩ => by
      subst h hs
      exact ⟨_, _, _, rfl, odd21 (k := k) w4 ha hi t0 tr, ⟨_, rfl⟩, rfl⟩) ⟨⟨x8, rfl⟩, rfl⟩
  subst h1 h2
  rw [List.map_id] at e10
  have t7 : (hd (tl (tl (tl (tl (tl (tl b21l5))))))).ev ⟨pr.run (k + 5), pr⟩ [some (.scr ns), some (.int (j : Int)), some (.ref st.nx), some (tsD (t0 :: tr)), some (.str z), some (.lst (rs.map rlD)), z6, z7, x8, z9] s5 = _ := (sm_for (items := odd (.str r.1) (pcD r.2.1) (poD r.2.2.1) (.int r.2.2.2)) (s' := s6) (by
    simp [e7, at_, e9])).trans e10
  refine ⟨s6, some (.ref st.nx), some (tsD (t0 :: tr)), some (.str z), some (.lst (rs.map rlD)), z6, z7, z8, z9, ?_, w4⟩
  rw [ev_cons rfl t1, ev_cons rfl t2, ev_cons rfl t3, ev_cons rfl t4, ev_cons rfl t5, ev_cons rfl t6, ev_cons rfl t7]
  simp [tl, b21l5, hz]
theorem cells (ns : List Int) (hn : ns.length ≤ 63) : ∀ (c j : Nat) (s : Sto) (x1 x2 x3 x4 x5 x6 x7 x8 x9 : Option D), (∀ i, j ≤ i → i < j + c → i < 64 ∧ (ns = [] ∨ i < ns.length)) → s.Wf →
    ∃ en' s', forF (Tg.nm 1).bt (b21l5.ev ⟨pr.run (k + 5), pr⟩) ((List.range' j c).map fun (i : Nat) => D.int i) [some (.scr ns), x1, x2, x3, x4, x5, x6, x7, x8, x9] s = .nx en' s' ∧ s'.Wf
  | 0, j, s, x1, x2, x3, x4, x5, x6, x7, x8, x9, _, wf => ⟨_, s, rfl, wf⟩
  | c + 1, j, s, x1, x2, x3, x4, x5, x6, x7, x8, x9, hc, wf => by
    obtain ⟨h1, h2⟩ := hc j (Nat.le_refl _) (by omega)
    obtain ⟨s1, y2, y3, y4, y5, y6, y7, y8, y9, e, w1⟩ := cell (k := k) wf ns j h1 h2 hn x2 x3 x4 x5 x6 x7 x8 x9
    obtain ⟨en', s2, e2, w2⟩ := cells ns hn c (j + 1) s1 (some (.int (j : Int))) y2 y3 y4 y5 y6 y7 y8 y9 (fun i a b => hc i (by omega) (by omega)) w1
    refine ⟨en', s2, ?_, w2⟩
    rw [List.range'_succ, List.map_cons]
    have bt : (Tg.nm 1).bt (.int (j : Int)) [some (.scr ns), x1, x2, x3, x4, x5, x6, x7, x8, x9] = some [some (.scr ns), some (.int (j : Int)), x2, x3, x4, x5, x6, x7, x8, x9] := rfl
    rw [forF_nx1 bt e]
    exact e2
theorem law_ok (ns : List Int) (hn : ns.length ≤ 63) : ∃ s', pr.run 12 21 [.scr ns] st0 = .ok (.bl true) s' := by
  obtain ⟨N, hN, hN2⟩ : ∃ N : Nat, (if (1 : Int) < (if (ns.length : Int) < 10 then (ns.length : Int) else 10) then (if (ns.length : Int) < 10 then (ns.length : Int) else 10) else 1) = (N : Int) ∧ N ≤ 10 ∧ (ns = [] ∧ N = 1 ∨ N ≤ ns.length) := by
    by_cases c : (ns.length : Int) < 10
    · simp only [if_pos c]
      by_cases c1 : (1 : Int) < ns.length
      · exact ⟨ns.length, if_pos c1, by omega, .inr (Nat.le_refl _)⟩
      · refine ⟨1, if_neg c1, by omega, ?_⟩
        cases ns with
        | nil => exact .inl ⟨rfl, rfl⟩
        | cons n r => exact .inr (by simp)
    · simp only [if_neg c]
      exact ⟨10, by decide, by omega, .inr (by omega)⟩
  obtain ⟨en', s1, e1, wf1⟩ := cells (k := 6) ns hn N 0 st0 none none none none none none none none none (fun i _ h => by
    refine ⟨by omega, ?_⟩
    rcases hN2.2 with ⟨h1, _⟩ | h1
    · exact .inl h1
    · exact .inr (by omega)) st0_wf
  have upN := upTo_r N
  have smN := sm62 (n := N) (by omega)
  have t1 : (hd b21).ev ⟨pr.run 11, pr⟩ [some (.scr ns), none, none, none, none, none, none, none, none, none] st0 = .nx en' s1 := by
    refine (sm_for (items := (List.range' 0 N).map fun (i : Nat) => D.int i) (s' := st0) ?_).trans e1
    simp [hN, upN, smN]
  refine ⟨s1.cut 0, ?_⟩
  rw [r21]
  refine defF_rt (en := [some (.scr ns), none, none, none, none, none, none, none, none, none]) rfl ?_
  rw [ev_cons rfl t1]
  exact one_rt (sm_ret rfl)
end Tie
end

theorem PySem.Challenge.cw_letterbench_k46_relations_looked_at_holds : PySem.Challenge.rw_letterbench_k46_relations_looked_at.Holds := by
  exact tie_holds Tie.law_ok
