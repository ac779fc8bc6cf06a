import PyProof.Rows.All
import Wide.All
import OpenK.AllK
import Wide.FinOn
import HandS.ForExc
import HandS.HeadHook1
import HandS.TupAny
import HandS.Comp
import HandS.ForMost
import HandS.Steps
import HandS.Deep
import HandS.Wide
import HandS.Style
import HandS.CallSlots
import HandS.ExcOwn
import HandS.Defaults
import HandS.Iter
import HandS.IsInst
import HandS.Codes
import HandS.Text
import HandS.Star
import HandS.Property
import HandS.ClsMeth
import HandS.OwnIter
import HandS.IterVal
import HandS.HeadHook2
import KE.KSuper
import HandS.Words
import HandS.Head0
import HandS.Head1
import HandS.Head2
import HandS.HeadEnd
import HandS.ExcInit
import HandS.ExcSuper
import KE.KExcSuper
import HandS.ExcField
import HandS.TryOnly
import PySem.Challenge.RW_takenorelse_k94_whole_fewest_guards
set_option Elab.async false
set_option linter.all false
set_option maxRecDepth 100000
set_option maxHeartbeats 2000000
/-! VL: values without a heap. Data, slots, small heaps; how they lie in the abstract heap. -/
namespace VL
open PySem PySem.Spec PyProof.Rows L2

/-! ### data -/
inductive D where
  | non | bl (b : Bool) | int (i : Int) | str (x : Str)
  | lst (xs : List D) | rol (xs : List D) | tup (xs : List D)
  | dK (ks : List Key) (xs : List D) | dT (ks : List (List Key)) (xs : List D)
  | ins (c : Str) (ns : List Str) (xs : List D)
/-- a value: data, a numbered object, the object that a slot owns -/
inductive W where
  | v (d : D) | r (n : Nat) | s (i : Nat)
/-- a slot: nothing, data, a numbered object, an object of its own (b: it came as an argument) -/
inductive Sl where
  | e | v (d : D) | r (n : Nat) | m (b : Bool) (d : D)
/-- a numbered object -/
inductive O where
  | lst (ws : List W) | dK (ks : List Key) (ws : List W) | dT (ks : List (List Key)) (ws : List W) | ins (c : Str) (ns : List Str) (ws : List W) | frz (d : D)
abbrev Ls := List Sl
abbrev Hs := List O
/-- an exception: its class, its attributes -/
structure Xn where
  c : Str
  ns : List Str
  xs : List D
inductive R (α : Type) where
  | ok (a : α) (l : Ls) (h : Hs) | ex (x : Xn) (l : Ls) (h : Hs) | no
abbrev FE := Ls → Hs → R W
abbrev FT := Ls → Hs → R Bool
abbrev FA := Ls → Hs → R (List W)
/-- behind a statement -/
inductive Fl where
  | nx | rt (w : W) | bk | ct | ro (d : D)
abbrev FS := Ls → Hs → R Fl
def R.bind {α β : Type} (r : R α) (k : α → Ls → Hs → R β) : R β := match r with
  | .ok a l h => k a l h
  | .ex x l h => .ex x l h
  | .no => .no

/-! ### how data lie -/
def KT (K : PySem.W.Frag) (a : Addr) (xs : List V) : Prop :=
  ∃ (o : Obj) (its : Array Value) (n : Nat), K.lookup a = some o ∧ o.cls = .type "tuple" ∧ o.data = .seq its n ∧ its.size ≤ sizeLine ∧ Vals xs its.toList
def KL (K : PySem.W.Frag) (a : Addr) (xs : List V) : Prop :=
  ∃ (o : Obj) (its : Array Value) (n : Nat), K.lookup a = some o ∧ o.cls = .type "list" ∧ o.dict = none ∧ o.data = .seq its n ∧ its.size ≤ sizeLine ∧ Vals xs its.toList
mutual
inductive Rp (K : PySem.W.Frag) (F : Addr → Prop) (H : Hp) : D → V → Prop
  | non : Rp K F H .non .non
  | bl (b : Bool) : Rp K F H (.bl b) (.bl b)
  | int (i : Int) : Rp K F H (.int i) (.int i)
  | str (x : Str) : Rp K F H (.str x) (.str x)
  | lst {a : Addr} {vs : List V} {ds : List D} : F a → H a = some (.lst vs) → RpL K F H ds vs → Rp K F H (.lst ds) (.ref a)
  | rol {a : Addr} {vs : List V} {ds : List D} : F a → Rd H a (.lst vs) → RpL K F H ds vs → Rp K F H (.rol ds) (.ref a)
  | rolK {a : Addr} {vs : List V} {ds : List D} : KL K a vs → RpL K F H ds vs → Rp K F H (.rol ds) (.ref a)
  | tup {a : Addr} {vs : List V} {ds : List D} : F a → Rd H a (.tup vs) → RpL K F H ds vs → Rp K F H (.tup ds) (.ref a)
  | tupK {a : Addr} {vs : List V} {ds : List D} : KT K a vs → RpL K F H ds vs → Rp K F H (.tup ds) (.ref a)
  | dK {a : Addr} {ks : List Key} {vs : List V} {ds : List D} : F a → ks.length = vs.length → H a = some (.dK (ks.zip vs)) → RpL K F H ds vs → Rp K F H (.dK ks ds) (.ref a)
  | dT {a : Addr} {ks : List (List Key)} {vs : List V} {ds : List D} : F a → ks.length = vs.length → H a = some (.dT (ks.zip vs)) → RpL K F H ds vs → Rp K F H (.dT ks ds) (.ref a)
  | ins {a dx : Addr} {c : Str} {ns : List Str} {vs : List V} {ds : List D} : F a → ns.length = vs.length → H a = some (.ins (He.ga K c) dx (ns.zip vs)) → RpL K F H ds vs → Rp K F H (.ins c ns ds) (.ref a)
inductive RpL (K : PySem.W.Frag) (F : Addr → Prop) (H : Hp) : List D → List V → Prop
  | nil : RpL K F H [] []
  | cons {d : D} {ds : List D} {v : V} {vs : List V} : Rp K F H d v → RpL K F H ds vs → RpL K F H (d :: ds) (v :: vs)
end
/-- .. the root whosever it is -/
def Nd (K : PySem.W.Frag) (F : Addr → Prop) (H : Hp) : D → V → Prop
  | .non, v => v = .non
  | .bl b, v => v = .bl b
  | .int i, v => v = .int i
  | .str x, v => v = .str x
  | .lst ds, v => ∃ a vs, v = .ref a ∧ H a = some (.lst vs) ∧ RpL K F H ds vs
  | .rol ds, v => Rp K F H (.rol ds) v
  | .tup ds, v => Rp K F H (.tup ds) v
  | .dK ks ds, v => ∃ a vs, v = .ref a ∧ ks.length = vs.length ∧ H a = some (.dK (ks.zip vs)) ∧ RpL K F H ds vs
  | .dT ks ds, v => ∃ a vs, v = .ref a ∧ ks.length = vs.length ∧ H a = some (.dT (ks.zip vs)) ∧ RpL K F H ds vs
  | .ins c ns ds, v => ∃ a dx vs, v = .ref a ∧ ns.length = vs.length ∧ H a = some (.ins (He.ga K c) dx (ns.zip vs)) ∧ RpL K F H ds vs
section
variable {K : PySem.W.Frag} {F F' : Addr → Prop} {H H' : Hp} {d : D} {v : V} {ds : List D} {vs : List V}
theorem SqT.ofK {a : Addr} (h : KT K a vs) : SqT K H a vs := .inr h
theorem Rp.nd (h : Rp K F H d v) : Nd K F H d v := by
  cases h with
  | non => rfl
  | bl b => rfl
  | int i => rfl
  | str x => rfl
  | lst f e r => exact ⟨_, _, rfl, e, r⟩
  | rol f e r => exact .rol f e r
  | rolK k r => exact .rolK k r
  | tup f e r => exact .tup f e r
  | tupK k r => exact .tupK k r
  | dK f l e r => exact ⟨_, _, rfl, l, e, r⟩
  | dT f l e r => exact ⟨_, _, rfl, l, e, r⟩
  | ins f l e r => exact ⟨_, _, _, rfl, l, e, r⟩
/-- what is frozen stays -/
structure Kp (F F' : Addr → Prop) (H H' : Hp) : Prop where
  mono : ∀ a, F a → F' a
  keep : ∀ a o, F a → H a = some o → H' a = some o
theorem Kp.rd {a : Addr} {u : HO} (k : Kp F F' H H') (f : F a) (h : Rd H a u) : Rd H' a u := by
  rcases h with h | ⟨o, h⟩
  · exact .inl (k.keep a _ f h)
  · exact .inr ⟨o, k.keep a _ f h⟩
mutual
theorem Rp.kp (k : Kp F F' H H') : ∀ {d : D} {v : V}, Rp K F H d v → Rp K F' H' d v
  | _, _, .non => .non
  | _, _, .bl b => .bl b
  | _, _, .int i => .int i
  | _, _, .str x => .str x
  | _, _, .lst f e r => .lst (k.mono _ f) (k.keep _ _ f e) (RpL.kp k r)
  | _, _, .rol f e r => .rol (k.mono _ f) (k.rd f e) (RpL.kp k r)
  | _, _, .rolK h r => .rolK h (RpL.kp k r)
  | _, _, .tup f e r => .tup (k.mono _ f) (k.rd f e) (RpL.kp k r)
  | _, _, .tupK h r => .tupK h (RpL.kp k r)
  | _, _, .dK f l e r => .dK (k.mono _ f) l (k.keep _ _ f e) (RpL.kp k r)
  | _, _, .dT f l e r => .dT (k.mono _ f) l (k.keep _ _ f e) (RpL.kp k r)
  | _, _, .ins f l e r => .ins (k.mono _ f) l (k.keep _ _ f e) (RpL.kp k r)
theorem RpL.kp (k : Kp F F' H H') : ∀ {ds : List D} {vs : List V}, RpL K F H ds vs → RpL K F' H' ds vs
  | _, _, .nil => .nil
  | _, _, .cons a r => .cons (Rp.kp k a) (RpL.kp k r)
end
theorem RpL.length : ∀ {ds : List D} {vs : List V}, RpL K F H ds vs → ds.length = vs.length
  | _, _, .nil => rfl
  | _, _, .cons _ r => congrArg Nat.succ r.length
theorem RpL.append : ∀ {ds es : List D} {vs us : List V}, RpL K F H ds vs → RpL K F H es us → RpL K F H (ds ++ es) (vs ++ us)
  | _, _, _, _, .nil, s => s
  | _, _, _, _, .cons a r, s => .cons a (RpL.append r s)
theorem RpL.one (h : Rp K F H d v) : RpL K F H [d] [v] := .cons h .nil
theorem RpL.get : ∀ {ds : List D} {vs : List V} {i : Nat}, RpL K F H ds vs → ds[i]? = some d → ∃ v, vs[i]? = some v ∧ Rp K F H d v
  | _, _, 0, .cons a _, e => by simp at e; subst e; exact ⟨_, rfl, a⟩
  | _, _, i + 1, .cons _ r, e => by simpa using RpL.get (i := i) r (by simpa using e)
theorem RpL.getV : ∀ {ds : List D} {vs : List V} {i : Nat}, RpL K F H ds vs → vs[i]? = some v → ∃ d, ds[i]? = some d ∧ Rp K F H d v
  | _, _, 0, .cons a _, e => by simp at e; subst e; exact ⟨_, rfl, a⟩
  | _, _, i + 1, .cons _ r, e => by simpa using RpL.getV (i := i) r (by simpa using e)
theorem RpL.set (h : Rp K F H d v) : ∀ {ds : List D} {vs : List V} (i : Nat), RpL K F H ds vs → RpL K F H (ds.set i d) (vs.set i v)
  | _, _, _, .nil => .nil
  | _, _, 0, .cons _ r => .cons h r
  | _, _, i + 1, .cons a r => .cons a (RpL.set h i r)
theorem RpL.take : ∀ {ds : List D} {vs : List V} (n : Nat), RpL K F H ds vs → RpL K F H (ds.take n) (vs.take n)
  | _, _, 0, _ => .nil
  | _, _, _ + 1, .nil => .nil
  | _, _, n + 1, .cons a r => .cons a (RpL.take n r)
theorem RpL.drop : ∀ {ds : List D} {vs : List V} (n : Nat), RpL K F H ds vs → RpL K F H (ds.drop n) (vs.drop n)
  | _, _, 0, r => r
  | _, _, _ + 1, .nil => .nil
  | _, _, n + 1, .cons _ r => RpL.drop n r
theorem RpL.reverse : ∀ {ds : List D} {vs : List V}, RpL K F H ds vs → RpL K F H ds.reverse vs.reverse
  | _, _, .nil => .nil
  | _, _, .cons a r => by
    rw [List.reverse_cons, List.reverse_cons]
    exact (RpL.reverse r).append (.one a)
theorem RpL.erase : ∀ {ds : List D} {vs : List V} (i : Nat), RpL K F H ds vs → RpL K F H (ds.eraseIdx i) (vs.eraseIdx i)
  | _, _, _, .nil => .nil
  | _, _, 0, .cons _ r => r
  | _, _, i + 1, .cons a r => .cons a (RpL.erase i r)
end

/-! ### slots and numbered objects -/
def WR (K : PySem.W.Frag) (ι : List Addr) (F : Addr → Prop) (H : Hp) : W → V → Prop
  | .v d, v => Rp K F H d v
  | .r n, v => ∃ a, ι[n]? = some a ∧ v = .ref a
  | .s _, _ => False
inductive WsR (K : PySem.W.Frag) (ι : List Addr) (F : Addr → Prop) (H : Hp) : List W → List V → Prop
  | nil : WsR K ι F H [] []
  | cons {w : W} {ws : List W} {v : V} {vs : List V} : WR K ι F H w v → WsR K ι F H ws vs → WsR K ι F H (w :: ws) (v :: vs)
/-- an object that a slot owns: at a -/
def Own (K : PySem.W.Frag) (F : Addr → Prop) (H : Hp) (a : Addr) : D → Prop
  | .lst ds => ∃ vs, H a = some (.lst vs) ∧ RpL K F H ds vs
  | .dK ks ds => ∃ vs, ks.length = vs.length ∧ H a = some (.dK (ks.zip vs)) ∧ RpL K F H ds vs
  | .dT ks ds => ∃ vs, ks.length = vs.length ∧ H a = some (.dT (ks.zip vs)) ∧ RpL K F H ds vs
  | .ins c ns ds => ∃ dx vs, ns.length = vs.length ∧ H a = some (.ins (He.ga K c) dx (ns.zip vs)) ∧ RpL K F H ds vs
  | _ => False
def SlR (K : PySem.W.Frag) (ι : List Addr) (F : Addr → Prop) (H : Hp) : Sl → V → Prop
  | .e, _ => True
  | .v d, v => Rp K F H d v
  | .r n, v => ∃ a, ι[n]? = some a ∧ v = .ref a
  | .m _ d, v => ∃ a, v = .ref a ∧ ¬ F a ∧ a ∉ ι ∧ Own K F H a d
def ObR (K : PySem.W.Frag) (ι : List Addr) (F : Addr → Prop) (H : Hp) (a : Addr) : O → Prop
  | .lst ws => ¬ F a ∧ ∃ vs, H a = some (.lst vs) ∧ WsR K ι F H ws vs
  | .dK ks ws => ¬ F a ∧ ∃ vs, ks.length = vs.length ∧ H a = some (.dK (ks.zip vs)) ∧ WsR K ι F H ws vs
  | .dT ks ws => ¬ F a ∧ ∃ vs, ks.length = vs.length ∧ H a = some (.dT (ks.zip vs)) ∧ WsR K ι F H ws vs
  | .ins c ns ws => ¬ F a ∧ ∃ dx vs, ns.length = vs.length ∧ H a = some (.ins (He.ga K c) dx (ns.zip vs)) ∧ WsR K ι F H ws vs
  | .frz d => F a ∧ Rp K F H d (.ref a)
structure SimH (K : PySem.W.Frag) (ι : List Addr) (F : Addr → Prop) (h : Hs) (H : Hp) : Prop where
  len : ι.length = h.length
  nd : ι.Nodup
  ob : ∀ (n : Nat) (a : Addr) (o : O), ι[n]? = some a → h[n]? = some o → ObR K ι F H a o
  fk : ∀ a, F a → ∃ o, H a = some o
/-- the slots that own: slot i owns the object at a -/
def OwnAt (l : Ls) (σ : L2.St) (i : Nat) (a : Addr) : Prop := ∃ b d, l[i]? = some (.m b d) ∧ σ[i]? = some (some (.ref a))
def Ow (l : Ls) (σ : L2.St) (a : Addr) : Prop := ∃ i, OwnAt l σ i a
structure Sim (K : PySem.W.Frag) (ι : List Addr) (F : Addr → Prop) (l : Ls) (h : Hs) (σ : L2.St) (H : Hp) : Prop where
  hs : SimH K ι F h H
  len : l.length = σ.length
  sl : ∀ (i : Nat) (x : Sl), l[i]? = some x → x = .e ∨ ∃ v, σ[i]? = some (some v) ∧ SlR K ι F H x v
  one : ∀ i j a, OwnAt l σ i a → OwnAt l σ j a → i = j
/-- behind an expression, a statement: what may have changed. OwA: what was owned -/
structure Ext (OwA : Addr → Prop) (ι : List Addr) (F : Addr → Prop) (H : Hp) (ι' : List Addr) (F' : Addr → Prop) (H' : Hp) : Prop where
  pre : ι <+: ι'
  mono : ∀ a, F a → F' a
  keep : ∀ a o, H a = some o → (F a ∨ (a ∉ ι ∧ ¬ OwA a)) → H' a = some o
  new : ∀ a, a ∈ ι' → a ∉ ι → H a = none
  newF : ∀ a, F' a → F a ∨ a ∈ ι ∨ OwA a ∨ H a = none
  there : ∀ a o, H a = some o → ∃ o', H' a = some o'

section
variable {K : PySem.W.Frag} {ι ι' ι'' : List Addr} {F F' F'' : Addr → Prop} {H H' H'' : Hp} {A : Addr → Prop} {l l' : Ls} {h h' : Hs} {σ : L2.St} {d : D} {v : V} {w : W}
theorem Ext.kp (e : Ext A ι F H ι' F' H') : Kp F F' H H' := ⟨e.mono, fun a o f q => e.keep a o q (.inl f)⟩
theorem Ext.refl : Ext A ι F H ι F H := ⟨List.prefix_refl _, fun _ f => f, fun _ _ q _ => q, fun _ x y => absurd x y, fun _ f => .inl f, fun _ o q => ⟨o, q⟩⟩
theorem Ext.back (e : Ext A ι F H ι' F' H') {p : Addr} (hp : H' p = none) : H p = none := by
  cases q : H p with
  | none => rfl
  | some o =>
    obtain ⟨o', z⟩ := e.there p o q
    rw [z] at hp; cases hp
theorem Ext.pre_get (e : Ext A ι F H ι' F' H') {n : Nat} {a : Addr} (q : ι[n]? = some a) : ι'[n]? = some a := by
  obtain ⟨t, rfl⟩ := e.pre
  rw [List.getElem?_append_left (List.getElem?_eq_some_iff.mp q).1]
  exact q
theorem Ext.sub (e : Ext A ι F H ι' F' H') {a : Addr} (q : a ∈ ι) : a ∈ ι' := e.pre.subset q
theorem WR.ext (e : Ext A ι F H ι' F' H') : WR K ι F H w v → WR K ι' F' H' w v := by
  cases w with
  | v d => exact fun r => Rp.kp e.kp r
  | r n => exact fun ⟨a, q, z⟩ => ⟨a, e.pre_get q, z⟩
  | s i => exact fun r => r
theorem WsR.ext (e : Ext A ι F H ι' F' H') : ∀ {ws : List W} {vs : List V}, WsR K ι F H ws vs → WsR K ι' F' H' ws vs
  | _, _, .nil => .nil
  | _, _, .cons a r => .cons (WR.ext e a) (WsR.ext e r)
theorem WsR.length : ∀ {ws : List W} {vs : List V}, WsR K ι F H ws vs → ws.length = vs.length
  | _, _, .nil => rfl
  | _, _, .cons _ r => congrArg Nat.succ r.length
theorem WsR.append : ∀ {ws us : List W} {vs xs : List V}, WsR K ι F H ws vs → WsR K ι F H us xs → WsR K ι F H (ws ++ us) (vs ++ xs)
  | _, _, _, _, .nil, s => s
  | _, _, _, _, .cons a r, s => .cons a (WsR.append r s)
theorem WsR.get : ∀ {ws : List W} {vs : List V} {i : Nat}, WsR K ι F H ws vs → ws[i]? = some w → ∃ v, vs[i]? = some v ∧ WR K ι F H w v
  | _, _, 0, .cons a _, e => by simp at e; subst e; exact ⟨_, rfl, a⟩
  | _, _, i + 1, .cons _ r, e => by simpa using WsR.get (i := i) r (by simpa using e)
theorem WsR.set (q : WR K ι F H w v) : ∀ {ws : List W} {vs : List V} (i : Nat), WsR K ι F H ws vs → WsR K ι F H (ws.set i w) (vs.set i v)
  | _, _, _, .nil => .nil
  | _, _, 0, .cons _ r => .cons q r
  | _, _, i + 1, .cons a r => .cons a (WsR.set q i r)
/-- an owned object that is kept -/
theorem Own.ext (e : Kp F F' H H') {a : Addr} (k : ∀ o, H a = some o → H' a = some o) : Own K F H a d → Own K F' H' a d := by
  cases d with
  | lst ds => exact fun ⟨vs, q, r⟩ => ⟨vs, k _ q, r.kp e⟩
  | dK ks ds => exact fun ⟨vs, z, q, r⟩ => ⟨vs, z, k _ q, r.kp e⟩
  | dT ks ds => exact fun ⟨vs, z, q, r⟩ => ⟨vs, z, k _ q, r.kp e⟩
  | ins c ns ds => exact fun ⟨dx, vs, z, q, r⟩ => ⟨dx, vs, z, k _ q, r.kp e⟩
  | _ => exact fun z => z
theorem Own.there {a : Addr} : Own K F H a d → ∃ o, H a = some o := by
  cases d with
  | lst ds => exact fun ⟨vs, q, r⟩ => ⟨_, q⟩
  | dK ks ds => exact fun ⟨vs, z, q, r⟩ => ⟨_, q⟩
  | dT ks ds => exact fun ⟨vs, z, q, r⟩ => ⟨_, q⟩
  | ins c ns ds => exact fun ⟨dx, vs, z, q, r⟩ => ⟨_, q⟩
  | _ => exact fun z => z.elim
/-- an owned object frozen -/
theorem Own.frz (e : Kp F F' H H') {a : Addr} (k : ∀ o, H a = some o → H' a = some o) (f : F' a) : Own K F H a d → Rp K F' H' d (.ref a) := by
  cases d with
  | lst ds => exact fun ⟨vs, q, r⟩ => .lst f (k _ q) (r.kp e)
  | dK ks ds => exact fun ⟨vs, z, q, r⟩ => .dK f z (k _ q) (r.kp e)
  | dT ks ds => exact fun ⟨vs, z, q, r⟩ => .dT f z (k _ q) (r.kp e)
  | ins c ns ds => exact fun ⟨dx, vs, z, q, r⟩ => .ins f z (k _ q) (r.kp e)
  | _ => exact fun z => z.elim
theorem Own.nd {a : Addr} : Own K F H a d → Nd K F H d (.ref a) := by
  cases d with
  | lst ds => exact fun ⟨vs, q, r⟩ => ⟨a, vs, rfl, q, r⟩
  | dK ks ds => exact fun ⟨vs, z, q, r⟩ => ⟨a, vs, rfl, z, q, r⟩
  | dT ks ds => exact fun ⟨vs, z, q, r⟩ => ⟨a, vs, rfl, z, q, r⟩
  | ins c ns ds => exact fun ⟨dx, vs, z, q, r⟩ => ⟨a, dx, vs, rfl, z, q, r⟩
  | _ => exact fun z => z.elim
theorem Ext.trans {A' : Addr → Prop} (a : Ext A ι F H ι' F' H') (b : Ext A' ι' F' H' ι'' F'' H'') (hA : ∀ x, A' x → A x ∨ H x = none) : Ext A ι F H ι'' F'' H'' where
  pre := a.pre.trans b.pre
  mono := fun x f => b.mono x (a.mono x f)
  keep := fun x o q k => b.keep x o (a.keep x o q k) (k.elim (fun f => .inl (a.mono x f)) fun ⟨n1, n2⟩ => .inr ⟨fun z => (nomatch q.symm.trans (a.new x z n1)), fun z => (hA x z).elim n2 fun z2 => (nomatch q.symm.trans z2)⟩)
  new := fun x z n => by
    by_cases m : x ∈ ι'
    · exact a.new x m n
    · exact a.back (b.new x z m)
  newF := fun x f => by
    rcases b.newF x f with z | z | z | z
    · exact a.newF x z
    · by_cases m : x ∈ ι
      · exact .inr (.inl m)
      · exact .inr (.inr (.inr (a.new x z m)))
    · rcases hA x z with z | z
      · exact .inr (.inr (.inl z))
      · exact .inr (.inr (.inr z))
    · exact .inr (.inr (.inr (a.back z)))
  there := fun x o q => by
    obtain ⟨o', q'⟩ := a.there x o q
    exact b.there x o' q'
theorem Ext.weak {B : Addr → Prop} (a : Ext A ι F H ι' F' H') (hA : ∀ x, A x → B x) : Ext B ι F H ι' F' H' :=
  ⟨a.pre, a.mono, fun x o q k => a.keep x o q (k.imp id fun z => ⟨z.1, fun y => z.2 (hA x y)⟩), a.new, fun x f => (a.newF x f).imp id (Or.imp id (Or.imp (hA x) id)), a.there⟩
/-- a new object is laid -/
theorem Ext.laid {p : Addr} {o : HO} (hp : H p = none) : Ext A ι F H ι F (upd H p o) :=
  ⟨List.prefix_refl _, fun _ f => f, fun a u q _ => by rw [upd_ne (ne_of_none q hp)]; exact q, fun _ x y => absurd x y, fun _ f => .inl f, fun a u q => ⟨u, by rw [upd_ne (ne_of_none q hp)]; exact q⟩⟩
/-- .. and frozen -/
theorem Ext.laidF {p : Addr} {o : HO} (hp : H p = none) : Ext A ι F H ι (fun a => F a ∨ a = p) (upd H p o) :=
  ⟨List.prefix_refl _, fun _ f => .inl f, fun a u q _ => by rw [upd_ne (ne_of_none q hp)]; exact q, fun _ x y => absurd x y, fun a f => f.elim .inl fun z => .inr (.inr (.inr (z ▸ hp))), fun a u q => ⟨u, by rw [upd_ne (ne_of_none q hp)]; exact q⟩⟩
theorem ObR.ext {a : Addr} {o : O} (e : Ext A ι F H ι' F' H') (nf : ¬ F a → ¬ F' a) (k : ∀ u, H a = some u → H' a = some u) : ObR K ι F H a o → ObR K ι' F' H' a o := by
  cases o with
  | lst ws => exact fun ⟨n, vs, q, r⟩ => ⟨nf n, vs, k _ q, r.ext e⟩
  | dK ks ws => exact fun ⟨n, vs, z, q, r⟩ => ⟨nf n, vs, z, k _ q, r.ext e⟩
  | dT ks ws => exact fun ⟨n, vs, z, q, r⟩ => ⟨nf n, vs, z, k _ q, r.ext e⟩
  | ins c ns ws => exact fun ⟨n, dx, vs, z, q, r⟩ => ⟨nf n, dx, vs, z, k _ q, r.ext e⟩
  | frz d => exact fun ⟨f, r⟩ => ⟨e.mono _ f, r.kp e.kp⟩
theorem ObR.there {a : Addr} {o : O} (fk : F a → ∃ u, H a = some u) : ObR K ι F H a o → ∃ u, H a = some u := by
  cases o with
  | lst ws => exact fun ⟨n, vs, q, r⟩ => ⟨_, q⟩
  | dK ks ws => exact fun ⟨n, vs, z, q, r⟩ => ⟨_, q⟩
  | dT ks ws => exact fun ⟨n, vs, z, q, r⟩ => ⟨_, q⟩
  | ins c ns ws => exact fun ⟨n, dx, vs, z, q, r⟩ => ⟨_, q⟩
  | frz d => exact fun z => fk z.1
end
end VL
set_option maxRecDepth 100000
set_option maxHeartbeats 2000000
namespace VL
open PySem PySem.Spec PyProof.Rows L2

/-- from one state to a later one -/
structure Aft (ι : List Addr) (F : Addr → Prop) (l : Ls) (σ : L2.St) (H : Hp) (ι' : List Addr) (F' : Addr → Prop) (l' : Ls) (σ' : L2.St) (H' : Hp) : Prop where
  ext : Ext (Ow l σ) ι F H ι' F' H'
  ow : ∀ x, Ow l' σ' x → Ow l σ x ∨ H x = none
  po : ∀ (i : Nat) (d : D), l[i]? = some (Sl.m true d) → ∃ d', l'[i]? = some (Sl.m true d') ∧ σ'[i]? = σ[i]?
section
variable {ι ι' ι'' : List Addr} {F F' F'' : Addr → Prop} {H H' H'' : Hp} {l l' l'' : Ls} {σ σ' σ'' : L2.St}
theorem Aft.refl : Aft ι F l σ H ι F l σ H := ⟨Ext.refl, fun _ z => .inl z, fun _ d q => ⟨d, q, rfl⟩⟩
theorem Aft.trans (a : Aft ι F l σ H ι' F' l' σ' H') (b : Aft ι' F' l' σ' H' ι'' F'' l'' σ'' H'') : Aft ι F l σ H ι'' F'' l'' σ'' H'' where
  ext := a.ext.trans b.ext a.ow
  ow := fun x z => (b.ow x z).elim (a.ow x) fun z => .inr (a.ext.back z)
  po := fun i d q => by
    obtain ⟨d1, q1, e1⟩ := a.po i d q
    obtain ⟨d2, q2, e2⟩ := b.po i d1 q1
    exact ⟨d2, q2, e2.trans e1⟩
end
/-- a value of a result, at the slots σ -/
def relW (K : PySem.W.Frag) (σ : L2.St) (ι : List Addr) (F : Addr → Prop) (H : Hp) : W → V → Prop
  | .s i, v => ∃ a, v = .ref a ∧ σ[i]? = some (some (.ref a))
  | w, v => WR K ι F H w v
inductive relWs (K : PySem.W.Frag) (σ : L2.St) (ι : List Addr) (F : Addr → Prop) (H : Hp) : List W → List V → Prop
  | nil : relWs K σ ι F H [] []
  | cons {w : W} {ws : List W} {v : V} {vs : List V} : relW K σ ι F H w v → relWs K σ ι F H ws vs → relWs K σ ι F H (w :: ws) (v :: vs)
def relB (_ : List Addr) (_ : Addr → Prop) (_ : Hp) : Bool → Bool → Prop := fun a b => a = b
section
variable {K : PySem.W.Frag} {ι ι' : List Addr} {F F' : Addr → Prop} {H H' : Hp} {A : Addr → Prop} {σ : L2.St} {w : W} {v : V} {d : D}
theorem relW.ext (e : Ext A ι F H ι' F' H') : relW K σ ι F H w v → relW K σ ι' F' H' w v := by
  cases w with
  | s i => exact fun z => z
  | v d => exact fun z => WR.ext (K := K) (w := .v d) e z
  | r n => exact fun z => WR.ext (K := K) (w := .r n) e z
theorem relWs.ext (e : Ext A ι F H ι' F' H') : ∀ {ws : List W} {vs : List V}, relWs K σ ι F H ws vs → relWs K σ ι' F' H' ws vs
  | _, _, .nil => .nil
  | _, _, .cons a r => .cons (relW.ext e a) (relWs.ext e r)
theorem relW.of (h : WR K ι F H w v) : relW K σ ι F H w v := by
  cases w with
  | s i => exact False.elim h
  | v d => exact h
  | r n => exact h
end
/-- an exception's own dict lies at dx, frozen -/
def XR (K : PySem.W.Frag) (F : Addr → Prop) (H : Hp) (x : Xn) (dx : Addr) : Prop := F dx ∧ ∃ vs, x.ns.length = vs.length ∧ H dx = some (.xd (x.ns.zip vs)) ∧ RpL K F H x.xs vs
def Sat {α β : Type} (K : PySem.W.Frag) (Wx : WX) (rel : List Addr → (Addr → Prop) → Hp → α → β → Prop) (ι : List Addr) (F : Addr → Prop) (l : Ls) (σ : L2.St) (H : Hp) (r : R α) (Q : β → Hp → Prop) : Prop := match r with
  | .ok a l' h' => ∀ b ι' F' H', Aft ι F l σ H ι' F' l' σ H' → Sim K ι' F' l' h' σ H' → rel ι' F' H' a b → Q b H'
  | .ex x l' h' => ∀ ι' F' H' dx, Aft ι F l σ H ι' F' l' σ H' → Sim K ι' F' l' h' σ H' → XR K F' H' x dx → Wx (.ref (He.ga K x.c)) (some dx) σ H'
  | .no => False
def SatS (K : PySem.W.Frag) (Wx : WX) (ι : List Addr) (F : Addr → Prop) (l : Ls) (σ : L2.St) (H : Hp) (r : R Fl) (D : Ends) : Prop := match r with
  | .ok fl l' h' => ∀ σ' ι' F' H', Aft ι F l σ H ι' F' l' σ' H' → Sim K ι' F' l' h' σ' H' → (match fl with
    | .nx => D.nx σ' H'
    | .bk => D.bk σ' H'
    | .ct => D.ct σ' H'
    | .rt w => ∀ v, relW K σ' ι' F' H' w v → D.rt v H'
    | .ro d => ∀ a, ¬ F' a → a ∉ ι' → ¬ Ow l' σ' a → Own K F' H' a d → H a = none → D.rt (.ref a) H')
  | .ex x l' h' => ∀ σ' ι' F' H' dx, Aft ι F l σ H ι' F' l' σ' H' → Sim K ι' F' l' h' σ' H' → XR K F' H' x dx → Wx (.ref (He.ga K x.c)) (some dx) σ' H'
  | .no => False
def tE (K : PySem.W.Frag) (Wx : WX) (f : FE) : TE := fun σ H Q => ∃ ι F l h, Sim K ι F l h σ H ∧ Sat K Wx (relW K σ) ι F l σ H (f l h) Q
def tT (K : PySem.W.Frag) (Wx : WX) (f : FT) : TT := fun σ H Q => ∃ ι F l h, Sim K ι F l h σ H ∧ Sat K Wx relB ι F l σ H (f l h) Q
def tA (K : PySem.W.Frag) (Wx : WX) (f : FA) : TA := fun σ H Q => ∃ ι F l h, Sim K ι F l h σ H ∧ Sat K Wx (relWs K σ) ι F l σ H (f l h) Q
def tS (K : PySem.W.Frag) (Wx : WX) (f : FS) : TS := fun D σ H => ∃ ι F l h, Sim K ι F l h σ H ∧ SatS K Wx ι F l σ H (f l h) D
abbrev VE (X : Cx) (Wx : WX) (e : Expr) (f : FE) : Prop := PE X e (tE X.K Wx f)
abbrev VT (X : Cx) (Wx : WX) (e : Expr) (f : FT) : Prop := PT X e (tT X.K Wx f)
abbrev VA (X : Cx) (Wx : WX) (es : List Expr) (f : FA) : Prop := PA X es (tA X.K Wx f)
abbrev VS (X : Cx) (Wx : WX) (st : Stmt) (f : FS) : Prop := PS X st (tS X.K Wx f)
abbrev VSs (X : Cx) (Wx : WX) (st : List Stmt) (f : FS) : Prop := PSs X st (tS X.K Wx f)
theorem PE.imp {X : Cx} {e : Expr} {t t' : TE} (p : PE X e t) (h : ∀ σ H Q, t' σ H Q → t σ H Q) : PE X e t' := ⟨fun pins s σ H Q I q => p.run pins s σ H Q I (h σ H Q q)⟩
theorem PT.imp {X : Cx} {e : Expr} {t t' : TT} (p : PT X e t) (h : ∀ σ H Q, t' σ H Q → t σ H Q) : PT X e t' := ⟨fun pins s σ H Q I q => p.run pins s σ H Q I (h σ H Q q)⟩
theorem PA.imp {X : Cx} {e : List Expr} {t t' : TA} (p : PA X e t) (h : ∀ σ H Q, t' σ H Q → t σ H Q) : PA X e t' := ⟨fun pos pins s σ H Q I q => p.run pos pins s σ H Q I (h σ H Q q)⟩
theorem PS.imp {X : Cx} {e : Stmt} {t t' : TS} (p : PS X e t) (h : ∀ D σ H, t' D σ H → t D σ H) : PS X e t' := ⟨fun pins s σ H D I q => p.run pins s σ H D I (h D σ H q)⟩
theorem PSs.imp {X : Cx} {e : List Stmt} {t t' : TS} (p : PSs X e t) (h : ∀ D σ H, t' D σ H → t D σ H) : PSs X e t' := ⟨fun pins s σ H D I q => p.run pins s σ H D I (h D σ H q)⟩
section
variable {α β γ δ : Type} {K : PySem.W.Frag} {Wx : WX} {rel : List Addr → (Addr → Prop) → Hp → α → β → Prop} {rel2 : List Addr → (Addr → Prop) → Hp → γ → δ → Prop} {ι ι' : List Addr} {F F' : Addr → Prop} {l l' : Ls} {σ σ' : L2.St} {H H' : Hp}
theorem Sat.later {r : R α} {Q : β → Hp → Prop} (a : Aft ι F l σ H ι' F' l' σ H') (q : Sat K Wx rel ι F l σ H r Q) : Sat K Wx rel ι' F' l' σ H' r Q := by
  cases r with
  | ok x l2 h2 => exact fun b ι2 F2 H2 a2 => q b ι2 F2 H2 (a.trans a2)
  | ex x l2 h2 => exact fun ι2 F2 H2 dx a2 => q ι2 F2 H2 dx (a.trans a2)
  | no => exact q
theorem SatS.later {r : R Fl} {D : Ends} (a : Aft ι F l σ H ι' F' l' σ' H') (q : SatS K Wx ι F l σ H r D) : SatS K Wx ι' F' l' σ' H' r D := by
  cases r with
  | ok x l2 h2 =>
    cases x with
    | ro d => exact fun σ2 ι2 F2 H2 a2 S b n1 n2 n3 o z => q σ2 ι2 F2 H2 (a.trans a2) S b n1 n2 n3 o (a.ext.back z)
    | _ => exact fun σ2 ι2 F2 H2 a2 => q σ2 ι2 F2 H2 (a.trans a2)
  | ex x l2 h2 => exact fun σ2 ι2 F2 H2 dx a2 => q σ2 ι2 F2 H2 dx (a.trans a2)
  | no => exact q
/-- one part ahead of the rest -/
theorem Sat.cut {r : R α} {k : α → Ls → Hs → R γ} {Q : δ → Hp → Prop} {Q1 : β → Hp → Prop} (q : Sat K Wx rel2 ι F l σ H (r.bind k) Q)
    (h : ∀ a l1 h1 b ι1 F1 H1, Aft ι F l σ H ι1 F1 l1 σ H1 → Sim K ι1 F1 l1 h1 σ H1 → rel ι1 F1 H1 a b → Sat K Wx rel2 ι1 F1 l1 σ H1 (k a l1 h1) Q → Q1 b H1) : Sat K Wx rel ι F l σ H r Q1 := by
  cases r with
  | ok a l1 h1 => exact fun b ι1 F1 H1 af S z => h a l1 h1 b ι1 F1 H1 af S z (Sat.later af q)
  | ex x l1 h1 => exact q
  | no => exact q
theorem Sat.cutS {r : R α} {k : α → Ls → Hs → R Fl} {D : Ends} {Q1 : β → Hp → Prop} (q : SatS K Wx ι F l σ H (r.bind k) D)
    (h : ∀ a l1 h1 b ι1 F1 H1, Aft ι F l σ H ι1 F1 l1 σ H1 → Sim K ι1 F1 l1 h1 σ H1 → rel ι1 F1 H1 a b → SatS K Wx ι1 F1 l1 σ H1 (k a l1 h1) D → Q1 b H1) : Sat K Wx rel ι F l σ H r Q1 := by
  cases r with
  | ok a l1 h1 => exact fun b ι1 F1 H1 af S z => h a l1 h1 b ι1 F1 H1 af S z (SatS.later af q)
  | ex x l1 h1 => exact fun ι1 F1 H1 dx af S z => q σ ι1 F1 H1 dx af S z
  | no => exact q
theorem Sat.here {a : α} {b : β} {h : Hs} {Q : β → Hp → Prop} (S : Sim K ι F l h σ H) (q : Sat K Wx rel ι F l σ H (.ok a l h) Q) (z : rel ι F H a b) : Q b H := q b ι F H Aft.refl S z
end

/-! ### the first rules -/
/-- a local name -/
def fVar (i : Nat) : FE := fun l h => match l[i]? with
  | some (.v d) => .ok (.v d) l h
  | some (.r n) => .ok (.r n) l h
  | some (.m _ _) => .ok (.s i) l h
  | _ => .no
def fC (d : D) : FE := fun l h => .ok (.v d) l h
section
variable {X : Cx} {Wx : WX} {pos : Pos}
theorem Sim.slot {K : PySem.W.Frag} {ι : List Addr} {F : Addr → Prop} {l : Ls} {h : Hs} {σ : L2.St} {H : Hp} (S : Sim K ι F l h σ H) {i : Nat} {x : Sl} (q : l[i]? = some x) (ne : x ≠ .e) : ∃ v, σ[i]? = some (some v) ∧ SlR K ι F H x v :=
  (S.sl i x q).elim (fun z => absurd z ne) id
theorem ve_var {i : Nat} {x : Str} (hN : X.N[i]? = some x) (hv : Vis X.env.scope x) (hd : (x == ("__debug__" : Str)) = false := by decide) (hcd : (x == ("__classdict__" : Str)) = false := by decide) : VE X Wx (.Name x pos) (fVar i) := by
  refine PE.imp (pe_var hN hv hd hcd) fun σ H Q ⟨ι, F, l, h, S, q⟩ => ?_
  unfold fVar at q
  cases e : l[i]? with
  | none => rw [e] at q; exact False.elim q
  | some x =>
    rw [e] at q
    cases x with
    | e => exact False.elim q
    | v d =>
      obtain ⟨v, ev, z⟩ := S.slot e (by intro z; cases z)
      exact ⟨v, ev, Sat.here S q (show relW X.K σ ι F H (.v d) v from z)⟩
    | r n =>
      obtain ⟨v, ev, z⟩ := S.slot e (by intro z; cases z)
      exact ⟨v, ev, Sat.here S q (show relW X.K σ ι F H (.r n) v from z)⟩
    | m b d =>
      obtain ⟨v, ev, a, rfl, _⟩ := S.slot e (by intro z; cases z)
      exact ⟨.ref a, ev, Sat.here S q (show relW X.K σ ι F H (.s i) (.ref a) from ⟨a, rfl, ev⟩)⟩
/-- a constant -/
theorem ve_c {e : Expr} {d : D} {v : V} (p : PE X e (tC v)) (r : ∀ F H, Rp X.K F H d v) : VE X Wx e (fC d) :=
  PE.imp p fun σ H Q ⟨ι, F, l, h, S, q⟩ => Sat.here S q (show relW X.K σ ι F H (.v d) v from r F H)
theorem ve_int {i : Int} {j : Nat} : VE X Wx (.Constant (.int i) j pos) (fC (.int i)) := ve_c pe_int fun _ _ => .int i
theorem ve_str {x : Str} {j : Nat} : VE X Wx (.Constant (.str x) j pos) (fC (.str x)) := ve_c pe_str fun _ _ => .str x
theorem ve_bl {b : Bool} {j : Nat} : VE X Wx (.Constant (.bool b) j pos) (fC (.bl b)) := ve_c pe_bl fun _ _ => .bl b
theorem ve_non {j : Nat} : VE X Wx (.Constant .none j pos) (fC .non) := ve_c pe_non fun _ _ => .non
theorem ve_glob {x : Str} {d : D} {v : V} {u : Value} (hg : Gl X x) (hm : X.mg x = some u) (r : RelV v u) (rd : ∀ F H, Rp X.K F H d v) (hd : (x == ("__debug__" : Str)) = false := by decide) : VE X Wx (.Name x pos) (fC d) := ve_c (pe_glob hg hm r hd) rd
end
end VL
set_option maxRecDepth 100000
set_option maxHeartbeats 2000000
namespace VL
open PySem PySem.Spec PyProof.Rows L2

/-! ### the state grows: nothing that is tracked changes -/
section
variable {K : PySem.W.Frag} {ι ι' : List Addr} {F F' : Addr → Prop} {l l' : Ls} {h h' : Hs} {σ σ' : L2.St} {H H' : Hp} {A : Addr → Prop} {p a : Addr} {o : HO}
theorem SimH.grow (S : SimH K ι F h H) (e : Ext A ι F H ι F' H') (k : ∀ a ∈ ι, ∀ u, H a = some u → H' a = some u) (nf : ∀ a ∈ ι, ¬ F a → ¬ F' a) (fk : ∀ a, F' a → ∃ o, H' a = some o) : SimH K ι F' h H' :=
  ⟨S.len, S.nd, fun n a o q z => ObR.ext e (nf a (List.mem_of_getElem? q)) (k a (List.mem_of_getElem? q)) (S.ob n a o q z), fk⟩
theorem SimH.there (S : SimH K ι F h H) (m : a ∈ ι) : ∃ o, H a = some o := by
  obtain ⟨n, hn, e⟩ := List.mem_iff_getElem.mp m
  have hn' : n < h.length := by rw [← S.len]; exact hn
  exact ObR.there (S.fk a) (S.ob n a h[n] (by rw [List.getElem?_eq_getElem hn, e]) (List.getElem?_eq_getElem hn'))
theorem SlR.grow {x : Sl} {v : V} (e : Ext A ι F H ι F' H') (k : ∀ a u, H a = some u → H' a = some u) (nf : ∀ a o, H a = some o → F' a → F a) (r : SlR K ι F H x v) : SlR K ι F' H' x v := by
  cases x with
  | e => trivial
  | v d => exact Rp.kp e.kp r
  | r n => exact r
  | m b d =>
    obtain ⟨a, rfl, n1, n2, o⟩ := r
    obtain ⟨u, hu⟩ := o.there
    exact ⟨a, rfl, fun f => n1 (nf a u hu f), n2, Own.ext e.kp (k a) o⟩
theorem Sim.grow (S : Sim K ι F l h σ H) (e : Ext A ι F H ι F' H') (k : ∀ a u, H a = some u → H' a = some u) (nf : ∀ a o, H a = some o → F' a → F a) (fk : ∀ a, F' a → ∃ o, H' a = some o) : Sim K ι F' l h σ H' :=
  ⟨S.hs.grow e (fun a _ => k a) (fun a m n f => by
    obtain ⟨o, ho⟩ := S.hs.there m
    exact n (nf a o ho f)) fk, S.len, fun i x q => (S.sl i x q).imp id fun ⟨v, ev, r⟩ => ⟨v, ev, SlR.grow e k nf r⟩, S.one⟩
theorem Sim.fnone (S : Sim K ι F l h σ H) (hp : H p = none) : ¬ F p := fun f => by
  obtain ⟨o, e⟩ := S.hs.fk p f
  rw [hp] at e; cases e
theorem Sim.laid (S : Sim K ι F l h σ H) (hp : H p = none) : Sim K ι F l h σ (upd H p o) :=
  S.grow (A := fun _ => False) (Ext.laid hp) (fun a u q => by rw [upd_ne (ne_of_none q hp)]; exact q) (fun _ _ _ f => f) fun a f => by
    obtain ⟨u, e⟩ := S.hs.fk a f
    exact ⟨u, by rw [upd_ne (ne_of_none e hp)]; exact e⟩
theorem Sim.laidF (S : Sim K ι F l h σ H) (hp : H p = none) : Sim K ι (fun a => F a ∨ a = p) l h σ (upd H p o) :=
  S.grow (A := fun _ => False) (Ext.laidF hp) (fun a u q => by rw [upd_ne (ne_of_none q hp)]; exact q) (fun a u q f => f.elim id fun z => absurd (z ▸ q) (by rw [hp]; intro z; cases z)) fun a f => by
    rcases f with f | rfl
    · obtain ⟨u, e⟩ := S.hs.fk a f
      exact ⟨u, by rw [upd_ne (ne_of_none e hp)]; exact e⟩
    · exact ⟨_, upd_same⟩
theorem Aft.laid (hp : H p = none) : Aft ι F l σ H ι F l σ (upd H p o) := ⟨Ext.laid hp, fun _ z => .inl z, fun _ d q => ⟨d, q, rfl⟩⟩
theorem Aft.laidF (hp : H p = none) : Aft ι F l σ H ι (fun a => F a ∨ a = p) l σ (upd H p o) := ⟨Ext.laidF hp, fun _ z => .inl z, fun _ d q => ⟨d, q, rfl⟩⟩
end

/-! ### reading -/
/-- data of a value, of values: v d, and a numbered object that is frozen -/
def wK (h : Hs) : W → Option D
  | .v d => some d
  | .r n => match h[n]? with
    | some (.frz d) => some d
    | _ => none
  | .s _ => none
def wsK (h : Hs) : List W → Option (List D)
  | [] => some []
  | w :: r => match wK h w with
    | some d => (wsK h r).map (d :: ·)
    | none => none
def rdO (h : Hs) : O → Option D
  | .lst ws => (wsK h ws).map .lst
  | .dK ks ws => (wsK h ws).map (.dK ks)
  | .dT ks ws => (wsK h ws).map (.dT ks)
  | .ins c ns ws => (wsK h ws).map (.ins c ns)
  | .frz d => some d
def dOf (l : Ls) (h : Hs) : W → Option D
  | .v d => some d
  | .s i => match l[i]? with
    | some (.m _ d) => some d
    | _ => none
  | .r n => match h[n]? with
    | some o => rdO h o
    | none => none
section
variable {K : PySem.W.Frag} {ι ι' : List Addr} {F F' : Addr → Prop} {l l' : Ls} {h h' : Hs} {σ σ' : L2.St} {H H' : Hp} {a : Addr} {w : W} {v : V} {d : D}
theorem wK_rp (S : SimH K ι F h H) (e : wK h w = some d) (r : WR K ι F H w v) : Rp K F H d v := by
  cases w with
  | v d' =>
    cases (show some d' = some d from e)
    exact r
  | r n =>
    obtain ⟨a, q, rfl⟩ := r
    unfold wK at e
    cases z : h[n]? with
    | none => simp only [z] at e; cases e
    | some o =>
      simp only [z] at e
      cases o with
      | frz d' =>
        cases e
        exact (S.ob n a _ q z).2
      | _ => cases e
  | s i => cases e
theorem wsK_rp (S : SimH K ι F h H) : ∀ {ws : List W} {ds : List D} {vs : List V}, wsK h ws = some ds → WsR K ι F H ws vs → RpL K F H ds vs
  | [], ds, _, e, .nil => by cases e; exact .nil
  | w :: r, ds, _, e, .cons a t => by
    unfold wsK at e
    cases z : wK h w with
    | none => simp only [z] at e; cases e
    | some d =>
      simp only [z] at e
      obtain ⟨ds', e', rfl⟩ := Option.map_eq_some_iff.mp e
      exact .cons (wK_rp S z a) (wsK_rp S e' t)
theorem rdO_nd (S : SimH K ι F h H) {o : O} (e : rdO h o = some d) (r : ObR K ι F H a o) : Nd K F H d (.ref a) := by
  cases o with
  | lst ws =>
    obtain ⟨ds, e2, rfl⟩ := Option.map_eq_some_iff.mp (show (wsK h ws).map D.lst = some d from e)
    obtain ⟨_, vs, q, r⟩ := r
    exact ⟨a, vs, rfl, q, wsK_rp S e2 r⟩
  | dK ks ws =>
    obtain ⟨ds, e2, rfl⟩ := Option.map_eq_some_iff.mp (show (wsK h ws).map (D.dK ks) = some d from e)
    obtain ⟨_, vs, z, q, r⟩ := r
    exact ⟨a, vs, rfl, z, q, wsK_rp S e2 r⟩
  | dT ks ws =>
    obtain ⟨ds, e2, rfl⟩ := Option.map_eq_some_iff.mp (show (wsK h ws).map (D.dT ks) = some d from e)
    obtain ⟨_, vs, z, q, r⟩ := r
    exact ⟨a, vs, rfl, z, q, wsK_rp S e2 r⟩
  | ins c ns ws =>
    obtain ⟨ds, e2, rfl⟩ := Option.map_eq_some_iff.mp (show (wsK h ws).map (D.ins c ns) = some d from e)
    obtain ⟨_, dx, vs, z, q, r⟩ := r
    exact ⟨a, dx, vs, rfl, z, q, wsK_rp S e2 r⟩
  | frz d' =>
    cases (show some d' = some d from e)
    exact r.2.nd
theorem dOf_nd (S : Sim K ι F l h σ H) (r : relW K σ ι F H w v) (e : dOf l h w = some d) : Nd K F H d v := by
  cases w with
  | v d' =>
    cases (show some d' = some d from e)
    exact Rp.nd r
  | r n =>
    obtain ⟨a, q, rfl⟩ := r
    unfold dOf at e
    cases z : h[n]? with
    | none => simp only [z] at e; cases e
    | some o =>
      simp only [z] at e
      exact rdO_nd S.hs e (S.hs.ob n a o q z)
  | s i =>
    obtain ⟨a, rfl, q⟩ := r
    unfold dOf at e
    cases z : l[i]? with
    | none => simp only [z] at e; cases e
    | some x =>
      simp only [z] at e
      cases x with
      | m b d' =>
        cases e
        obtain ⟨v, ev, a', rfl, _, _, o⟩ := S.slot z (by intro y; cases y)
        rw [q] at ev
        cases ev
        exact o.nd
      | _ => cases e

/-! ### freezing: nothing of the machine's moves -/
theorem Sim.frzSlot (S : Sim K ι F l h σ H) {i : Nat} (e : l[i]? = some (.m false d)) (q : σ[i]? = some (some (.ref a))) :
    Sim K ι (fun b => F b ∨ b = a) (l.set i (.v d)) h σ H ∧ Aft ι F l σ H ι (fun b => F b ∨ b = a) (l.set i (.v d)) σ H ∧ Rp K (fun b => F b ∨ b = a) H d (.ref a) := by
  obtain ⟨v, ev, a', rfl, n1, n2, o⟩ := S.slot e (by intro y; cases y)
  rw [q] at ev
  cases ev
  have kp : Kp F (fun b => F b ∨ b = a) H H := ⟨fun _ f => .inl f, fun _ _ _ z => z⟩
  have rp : Rp K (fun b => F b ∨ b = a) H d (.ref a) := Own.frz kp (fun _ z => z) (.inr rfl) o
  have own : OwnAt l σ i a := ⟨false, d, e, q⟩
  have ext : Ext (Ow l σ) ι F H ι (fun b => F b ∨ b = a) H := ⟨List.prefix_refl _, fun _ f => .inl f, fun _ _ z _ => z, fun _ x y => absurd x y, fun b f => f.elim .inl fun z => .inr (.inr (.inl ⟨i, z ▸ own⟩)), fun _ o z => ⟨o, z⟩⟩
  have hi : i < l.length := (List.getElem?_eq_some_iff.mp e).1
  have old : ∀ j b, OwnAt (l.set i (.v d)) σ j b → j ≠ i ∧ OwnAt l σ j b := fun j b ⟨c, d', e1, e2⟩ => by
    by_cases hj : i = j
    · subst hj
      rw [List.getElem?_set_self hi] at e1
      cases e1
    · rw [List.getElem?_set_ne hj] at e1
      exact ⟨fun z => hj z.symm, c, d', e1, e2⟩
  refine ⟨⟨S.hs.grow ext (fun _ _ _ z => z) (fun b m n f => f.elim n fun z => n2 (z ▸ m)) (fun b f => f.elim (S.hs.fk b) fun z => z ▸ o.there), by rw [List.length_set]; exact S.len, fun j x z => ?_, fun j j' b z1 z2 => S.one j j' b (old j b z1).2 (old j' b z2).2⟩,
    ⟨ext, fun b ⟨j, z⟩ => .inl ⟨j, (old j b z).2⟩, fun j d' z => ⟨d', ?_, rfl⟩⟩, rp⟩
  · by_cases hj : i = j
    · subst hj
      rw [List.getElem?_set_self hi] at z
      cases z
      exact .inr ⟨.ref a, q, rp⟩
    · rw [List.getElem?_set_ne hj] at z
      refine (S.sl j x z).imp id fun ⟨v, ev, r⟩ => ⟨v, ev, ?_⟩
      cases x with
      | e => trivial
      | v d => exact Rp.kp kp r
      | r n => exact r
      | m b d' =>
        obtain ⟨a2, rfl, m1, m2, o2⟩ := r
        exact ⟨a2, rfl, fun f => f.elim m1 fun y => hj (S.one i j a own ⟨b, d', z, by rw [ev, y]⟩), m2, Own.ext kp (fun _ y => y) o2⟩
  · by_cases hj : i = j
    · subst hj
      rw [e] at z
      cases z
    · rw [List.getElem?_set_ne hj]
      exact z
theorem Sim.frzHeap (S : Sim K ι F l h σ H) {n : Nat} {o : O} (e : h[n]? = some o) (q : ι[n]? = some a) (hr : rdO h o = some d) :
    ∃ F', Sim K ι F' l (h.set n (.frz d)) σ H ∧ Aft ι F l σ H ι F' l σ H ∧ Rp K F' H d (.ref a) := by
  have hn : n < h.length := (List.getElem?_eq_some_iff.mp e).1
  have ob := S.hs.ob n a o q e
  have nd := rdO_nd S.hs hr ob
  by_cases fa : F a
  · -- frozen before
    have rp : Rp K F H d (.ref a) := by
      cases o with
      | frz d' =>
        cases (show some d' = some d from hr)
        exact ob.2
      | lst ws => exact absurd fa ob.1
      | dK ks ws => exact absurd fa ob.1
      | dT ks ws => exact absurd fa ob.1
      | ins c ns ws => exact absurd fa ob.1
    refine ⟨F, ⟨⟨by rw [List.length_set]; exact S.hs.len, S.hs.nd, fun m b o' z1 z2 => ?_, S.hs.fk⟩, S.len, S.sl, S.one⟩, Aft.refl, rp⟩
    by_cases hm : n = m
    · subst hm
      rw [List.getElem?_set_self hn] at z2
      cases z2
      rw [q] at z1
      cases z1
      exact ⟨fa, rp⟩
    · rw [List.getElem?_set_ne hm] at z2
      exact S.hs.ob m b o' z1 z2
  · have kp : Kp F (fun b => F b ∨ b = a) H H := ⟨fun _ f => .inl f, fun _ _ _ z => z⟩
    have mem : a ∈ ι := List.mem_of_getElem? q
    have ext : Ext (Ow l σ) ι F H ι (fun b => F b ∨ b = a) H := ⟨List.prefix_refl _, fun _ f => .inl f, fun _ _ z _ => z, fun _ x y => absurd x y, fun b f => f.elim .inl fun z => .inr (.inl (z ▸ mem)), fun _ o z => ⟨o, z⟩⟩
    have rp : Rp K (fun b => F b ∨ b = a) H d (.ref a) := by
      cases d with
      | lst ds =>
        obtain ⟨a', vs, e1, e2, e3⟩ := nd
        cases e1
        exact .lst (.inr rfl) e2 (e3.kp kp)
      | dK ks ds =>
        obtain ⟨a', vs, e1, z, e2, e3⟩ := nd
        cases e1
        exact .dK (.inr rfl) z e2 (e3.kp kp)
      | dT ks ds =>
        obtain ⟨a', vs, e1, z, e2, e3⟩ := nd
        cases e1
        exact .dT (.inr rfl) z e2 (e3.kp kp)
      | ins c ns ds =>
        obtain ⟨a', dx, vs, e1, z, e2, e3⟩ := nd
        cases e1
        exact .ins (.inr rfl) z e2 (e3.kp kp)
      | tup ds => exact Rp.kp kp nd
      | rol ds => exact Rp.kp kp nd
      | non => cases nd
      | bl b => cases nd
      | int i => cases nd
      | str x => cases nd
    obtain ⟨u, hu⟩ := S.hs.there mem
    refine ⟨_, ⟨⟨by rw [List.length_set]; exact S.hs.len, S.hs.nd, fun m b o' z1 z2 => ?_, fun b f => f.elim (S.hs.fk b) fun z => z ▸ ⟨u, hu⟩⟩, S.len, fun j x z => ?_, S.one⟩, ⟨ext, fun _ z => .inl z, fun _ d z => ⟨d, z, rfl⟩⟩, rp⟩
    · by_cases hm : n = m
      · subst hm
        rw [List.getElem?_set_self hn] at z2
        cases z2
        rw [q] at z1
        cases z1
        exact ⟨.inr rfl, rp⟩
      · rw [List.getElem?_set_ne hm] at z2
        refine ObR.ext ext (fun n1 f => f.elim n1 fun y => hm ?_) (fun _ y => y) (S.hs.ob m b o' z1 z2)
        subst y
        obtain ⟨h1, e1⟩ := List.getElem?_eq_some_iff.mp q
        obtain ⟨h2, e2⟩ := List.getElem?_eq_some_iff.mp z1
        exact (List.getElem_inj S.hs.nd).mp (e1.trans e2.symm)
    · refine (S.sl j x z).imp id fun ⟨v, ev, r⟩ => ⟨v, ev, ?_⟩
      cases x with
      | e => trivial
      | v d => exact Rp.kp kp r
      | r n => exact r
      | m b d' =>
        obtain ⟨a2, rfl, m1, m2, o2⟩ := r
        exact ⟨a2, rfl, fun f => f.elim m1 fun y => m2 (y ▸ mem), m2, Own.ext kp (fun _ y => y) o2⟩
end
def kids : O → List W
  | .lst ws => ws
  | .dK _ ws => ws
  | .dT _ ws => ws
  | .ins _ _ ws => ws
  | .frz _ => []
/-- freeze a value: k objects deep -/
def fzH : Nat → Hs → W → Option (D × Hs)
  | _, h, .v d => some (d, h)
  | 0, _, .r _ => none
  | k + 1, h, .r n => match h[n]? with
    | none => none
    | some o => match (kids o).foldlM (fun h w => (fzH k h w).map (·.2)) h with
      | none => none
      | some h' => match h'[n]? with
        | none => none
        | some o' => (rdO h' o').map fun d => (d, h'.set n (.frz d))
  | _, _, .s _ => none
def fz (l : Ls) (h : Hs) : W → Option (D × Ls × Hs)
  | .v d => some (d, l, h)
  | .s i => match l[i]? with
    | some (.m false d) => some (d, l.set i (.v d), h)
    | _ => none
  | .r n => (fzH 4 h (.r n)).map fun p => (p.1, l, p.2)
section
variable {K : PySem.W.Frag} {ι : List Addr} {F F' : Addr → Prop} {l l' : Ls} {h h' : Hs} {σ σ' : L2.St} {H H' : Hp} {a : Addr} {w : W} {v : V} {d : D}
theorem WR.kp {w : W} {v : V} (k : Kp F F' H H') : WR K ι F H w v → WR K ι F' H' w v := by
  cases w with
  | v d => exact fun r => Rp.kp k r
  | r n => exact fun r => r
  | s i => exact fun r => r
theorem fzH_ok : ∀ (k : Nat) {F : Addr → Prop} {h h' : Hs} {w : W} {v : V} {d : D}, Sim K ι F l h σ H → WR K ι F H w v → fzH k h w = some (d, h') → ∃ F', Sim K ι F' l h' σ H ∧ Aft ι F l σ H ι F' l σ H ∧ Rp K F' H d v := by
  intro k
  induction k with
  | zero =>
    intro F h h' w v d S r e
    cases w with
    | v d' =>
      unfold fzH at e
      cases e
      exact ⟨F, S, Aft.refl, r⟩
    | r n => cases e
    | s i => cases e
  | succ k ih =>
    intro F h h' w v d S r e
    cases w with
    | v d' =>
      unfold fzH at e
      cases e
      exact ⟨F, S, Aft.refl, r⟩
    | s i => cases e
    | r n =>
      obtain ⟨a, q, rfl⟩ := r
      unfold fzH at e
      cases z : h[n]? with
      | none => simp only [z] at e; cases e
      | some o =>
        simp only [z] at e
        have all : ∀ (ws : List W) (F : Addr → Prop) (h h1 : Hs), Sim K ι F l h σ H → (∀ w ∈ ws, ∃ v, WR K ι F H w v) → ws.foldlM (fun h w => (fzH k h w).map (·.2)) h = some h1 → ∃ F', Sim K ι F' l h1 σ H ∧ Aft ι F l σ H ι F' l σ H := by
          intro ws
          induction ws with
          | nil =>
            intro F h h1 S _ e
            cases (show some h = some h1 from e)
            exact ⟨F, S, Aft.refl⟩
          | cons w ws ih2 =>
            intro F h h1 S r e
            rw [List.foldlM_cons] at e
            cases y : fzH k h w with
            | none => rw [y] at e; cases e
            | some p =>
              obtain ⟨d1, h2⟩ := p
              rw [y] at e
              obtain ⟨v, rv⟩ := r w List.mem_cons_self
              obtain ⟨F1, S1, A1, _⟩ := ih S rv y
              obtain ⟨F2, S2, A2⟩ := ih2 F1 h2 h1 S1 (fun w' hw => by
                obtain ⟨v', r'⟩ := r w' (List.mem_cons_of_mem _ hw)
                exact ⟨v', WR.kp A1.ext.kp r'⟩) e
              exact ⟨F2, S2, A1.trans A2⟩
        have hk : ∀ w ∈ kids o, ∃ v, WR K ι F H w v := by
          have ws_ : ∀ {ws : List W} {vs : List V}, WsR K ι F H ws vs → ∀ w ∈ ws, ∃ v, WR K ι F H w v := by
            intro ws vs r
            induction r with
            | nil => intro w hw; cases hw
            | cons a r ih =>
              intro w hw
              rcases List.mem_cons.mp hw with e | hw
              · exact ⟨_, e ▸ a⟩
              · exact ih w hw
          have ob := S.hs.ob n a o q z
          cases o with
          | lst ws => obtain ⟨_, vs, _, r⟩ := ob; exact ws_ r
          | dK ks ws => obtain ⟨_, vs, _, _, r⟩ := ob; exact ws_ r
          | dT ks ws => obtain ⟨_, vs, _, _, r⟩ := ob; exact ws_ r
          | ins c ns ws => obtain ⟨_, _, vs, _, _, r⟩ := ob; exact ws_ r
          | frz d => intro w hw; cases hw
        cases y : (kids o).foldlM (fun h w => (fzH k h w).map (·.2)) h with
        | none => simp only [y] at e; cases e
        | some h1 =>
          simp only [y] at e
          obtain ⟨F1, S1, A1⟩ := all _ F h h1 S hk y
          cases x : h1[n]? with
          | none => simp only [x] at e; cases e
          | some o1 =>
            simp only [x] at e
            obtain ⟨d1, e1, e2⟩ := Option.map_eq_some_iff.mp e
            cases e2
            obtain ⟨F2, S2, A2, rp⟩ := S1.frzHeap x q e1
            exact ⟨F2, S2, A1.trans A2, rp⟩
theorem fz_ok (S : Sim K ι F l h σ H) (r : relW K σ ι F H w v) (e : fz l h w = some (d, l', h')) : ∃ F', Sim K ι F' l' h' σ H ∧ Aft ι F l σ H ι F' l' σ H ∧ Rp K F' H d v := by
  cases w with
  | v d' =>
    cases e
    exact ⟨F, S, Aft.refl, r⟩
  | r n =>
    obtain ⟨p, e1, e2⟩ := Option.map_eq_some_iff.mp (show (fzH 4 h (.r n)).map (fun p => (p.1, l, p.2)) = some (d, l', h') from e)
    cases e2
    exact fzH_ok 4 S (show WR K ι F H (.r n) v from r) e1
  | s i =>
    obtain ⟨a, rfl, q⟩ := r
    unfold fz at e
    cases z : l[i]? with
    | none => simp only [z] at e; cases e
    | some x =>
      simp only [z] at e
      cases x with
      | m b d' =>
        cases b with
        | false =>
          cases e
          obtain ⟨S1, A1, rp⟩ := S.frzSlot z q
          exact ⟨_, S1, A1, rp⟩
        | true => cases e
      | _ => cases e
/-- .. several -/
def fzs (l : Ls) (h : Hs) : List W → Option (List D × Ls × Hs)
  | [] => some ([], l, h)
  | w :: ws => match fz l h w with
    | none => none
    | some (d, l, h) => (fzs l h ws).map fun p => (d :: p.1, p.2)
theorem fzs_ok : ∀ {ws : List W} {vs : List V} {ds : List D} {F : Addr → Prop} {l l' : Ls} {h h' : Hs}, Sim K ι F l h σ H → relWs K σ ι F H ws vs → fzs l h ws = some (ds, l', h') → ∃ F', Sim K ι F' l' h' σ H ∧ Aft ι F l σ H ι F' l' σ H ∧ RpL K F' H ds vs
  | [], _, ds, F, l, l', h, h', S, .nil, e => by
    cases e
    exact ⟨F, S, Aft.refl, .nil⟩
  | w :: ws, _, ds, F, l, l', h, h', S, .cons a r, e => by
    unfold fzs at e
    cases z : fz l h w with
    | none => simp only [z] at e; cases e
    | some p =>
      obtain ⟨d, l1, h1⟩ := p
      simp only [z] at e
      obtain ⟨⟨ds2, l2, h2⟩, e1, e2⟩ := Option.map_eq_some_iff.mp e
      cases e2
      obtain ⟨F1, S1, A1, rp⟩ := fz_ok S a z
      obtain ⟨F2, S2, A2, rs⟩ := fzs_ok S1 (relWs.ext A1.ext r) e1
      exact ⟨F2, S2, A1.trans A2, .cons (Rp.kp A2.ext.kp rp) rs⟩
end

/-! ### operators -/
def fBin (g : D → D → Option D) (fa fb : FE) : FE := fun l h => (fa l h).bind fun a l h => (fb l h).bind fun b l h => match dOf l h a, dOf l h b with
  | some x, some y => (match g x y with
    | some z => .ok (.v z) l h
    | none => .no)
  | _, _ => .no
def OpG (K : PySem.W.Frag) (r : R2) (g : D → D → Option D) : Prop := ∀ (ι : List Addr) (F : Addr → Prop) (l : Ls) (h : Hs) (σ : L2.St) (H : Hp) (x y z : D) (vx vy : V) (Q : VK), Sim K ι F l h σ H → Nd K F H x vx → Nd K F H y vy → g x y = some z →
  (∀ v F' H', Aft ι F l σ H ι F' l σ H' → Sim K ι F' l h σ H' → Rp K F' H' z v → Q v H') → r vx vy H Q
section
variable {X : Cx} {Wx : WX} {a b : Expr} {fa fb : FE} {pos : Pos} {r : R2} {g : D → D → Option D}
theorem bin_t (hg : OpG X.K r g) {σ : L2.St} {H : Hp} {Q : VK} (q : tE X.K Wx (fBin g fa fb) σ H Q) : tOp r (tE X.K Wx fa) (tE X.K Wx fb) σ H Q := by
  obtain ⟨ι, F, l, h, S, q⟩ := q
  refine ⟨ι, F, l, h, S, Sat.cut (Q1 := fun x H1 => tE X.K Wx fb σ H1 fun y H2 => r x y H2 Q) q fun wa l1 h1 va ι1 F1 H1 a1 S1 r1 q1 => ?_⟩
  refine ⟨ι1, F1, l1, h1, S1, Sat.cut (Q1 := fun y H2 => r va y H2 Q) q1 fun wb l2 h2 vb ι2 F2 H2 a2 S2 r2 q2 => ?_⟩
  cases ea : dOf l2 h2 wa with
  | none => simp only [ea] at q2; exact False.elim q2
  | some x =>
    cases eb : dOf l2 h2 wb with
    | none => simp only [ea, eb] at q2; exact False.elim q2
    | some y =>
      simp only [ea, eb] at q2
      cases eg : g x y with
      | none => simp only [eg] at q2; exact False.elim q2
      | some z =>
        simp only [eg] at q2
        exact hg ι2 F2 l2 h2 σ H2 x y z va vb Q S2 (dOf_nd S2 (relW.ext a2.ext r1) ea) (dOf_nd S2 r2 eb) eg fun v F' H' a3 S3 r3 => q2 v ι2 F' H' a3 S3 r3
theorem ve_bin {op : Operator} (ho : OpR X (binaryOp op) r) (hg : OpG X.K r g) (ha : VE X Wx a fa) (hb : VE X Wx b fb) : VE X Wx (.BinOp a op b pos) (fBin g fa fb) :=
  PE.imp (pe_op ho ha hb) fun _ _ _ q => bin_t hg q
theorem ve_cmp {op : CmpOp} (ho : OpR X (compareOp op) r) (hg : OpG X.K r g) (ha : VE X Wx a fa) (hb : VE X Wx b fb) (hm : behindInMarks op b = false) : VE X Wx (.Compare a [op] [b] pos) (fBin g fa fb) :=
  PE.imp (pe_cmpR ho ha hb hm) fun _ _ _ q => bin_t hg q
theorem ve_ix (hr : IxR X r) (hg : OpG X.K r g) (ha : VE X Wx a fa) (hb : VE X Wx b fb) (hs : PlainIx b) : VE X Wx (.Subscript a b pos) (fBin g fa fb) :=
  PE.imp (pe_ix hr ha hb hs) fun _ _ _ q => bin_t hg q
end
theorem OpG.or {K : PySem.W.Frag} {r r' : R2} {g g' : D → D → Option D} (a : OpG K r g) (b : OpG K r' g') : OpG K (fun x y H Q => r x y H Q ∨ r' x y H Q) fun x y => match g x y with
    | some z => some z
    | none => g' x y := fun ι F l h σ H x y z vx vy Q S nx ny e k => by
  cases eg : g x y with
  | some z' =>
    simp only [eg] at e
    cases e
    exact .inl (a ι F l h σ H x y z vx vy Q S nx ny eg k)
  | none =>
    simp only [eg] at e
    exact .inr (b ι F l h σ H x y z vx vy Q S nx ny e k)
/-- a scalar comes out, no heap -/
theorem OpG.scalar {K : PySem.W.Frag} {r : R2} {g : D → D → Option D} (hr : ∀ F H x y z vx vy (Q : VK), Nd K F H x vx → Nd K F H y vy → g x y = some z → (∀ v, (∀ F', Rp K F' H z v) → Q v H) → r vx vy H Q) : OpG K r g :=
  fun ι F l h σ H x y z vx vy Q S nx ny e k => hr F H x y z vx vy Q nx ny e fun v rv => k v F H Aft.refl S (rv F)
/-- .. ints -/
def gII (C : Int → Int → Bool) (f : Int → Int → D) : D → D → Option D
  | .int i, .int j => if C i j then some (f i j) else none
  | _, _ => none
theorem og_int {K : PySem.W.Frag} {C : Int → Int → Prop} {c : Int → Int → Bool} {f : Int → Int → V} {f' : Int → Int → D} (hc : ∀ i j, c i j = true → C i j) (hf : ∀ i j F H, Rp K F H (f' i j) (f i j)) : OpG K (rI C f) (gII c f') :=
  OpG.scalar fun F H x y z vx vy Q nx ny e k => by
    cases x with
    | int i =>
      cases y with
      | int j =>
        cases (show vx = V.int i from nx)
        cases (show vy = V.int j from ny)
        have e : (if c i j then some (f' i j) else none) = some z := e
        by_cases q : c i j = true
        · rw [if_pos q] at e
          cases e
          exact ⟨i, j, rfl, rfl, hc i j q, k _ fun F' => hf i j F' H⟩
        · rw [if_neg q] at e; cases e
      | _ => cases e
    | _ => cases e
def gI0 (f : Int → Int → D) : D → D → Option D
  | .int i, .int j => some (f i j)
  | _, _ => none
theorem og_int0 {K : PySem.W.Frag} {f : Int → Int → V} {f' : Int → Int → D} (hf : ∀ i j F H, Rp K F H (f' i j) (f i j)) : OpG K (rI0 f) (gI0 f') :=
  OpG.scalar fun F H x y z vx vy Q nx ny e k => by
    cases x with
    | int i =>
      cases y with
      | int j =>
        cases (show vx = V.int i from nx)
        cases (show vy = V.int j from ny)
        cases (show some (f' i j) = some z from e)
        exact ⟨i, j, rfl, rfl, k _ fun F' => hf i j F' H⟩
      | _ => cases e
    | _ => cases e
end VL
set_option maxRecDepth 100000
set_option maxHeartbeats 2000000
namespace VL
open PySem PySem.Spec PyProof.Rows L2

/-! ### data told to the library's data -/
mutual
def py : D → PyData
  | .non => .none
  | .bl b => .bool b
  | .int i => .int i
  | .str x => .str x
  | .lst xs => .list (pyL xs)
  | .tup xs => .tuple (pyL xs)
  | .rol _ => .none
  | .dK _ _ => .none
  | .dT _ _ => .none
  | .ins _ _ _ => .none
def pyL : List D → List PyData
  | [] => []
  | x :: xs => py x :: pyL xs
end
theorem pyL_map : ∀ xs : List D, pyL xs = xs.map py
  | [] => by simp only [pyL, List.map_nil]
  | x :: xs => by simp only [pyL, List.map_cons, pyL_map xs]
/-- data that may be compared: k deep at most -/
def gd : Nat → D → Bool
  | _, .non => true
  | _, .bl _ => true
  | _, .int _ => true
  | _, .str x => PyData.strOk x
  | k + 1, .lst xs => xs.all (gd k)
  | k + 1, .tup xs => xs.all (gd k)
  | _, _ => false
def deq (a b : D) : Bool := PyData.eqv (py a) (py b)
theorem gd_lay : ∀ (k : Nat) (d : D), gd k d = true → PyData.canLay0 (py d) = true ∧ (py d).depth ≤ k := by
  intro k
  induction k with
  | zero =>
    intro d h
    cases d with
    | str x => exact ⟨by simp only [py, PyData.canLay0]; simpa only [gd] using h, by simp only [py, PyData.depth]; exact Nat.le_refl _⟩
    | non => exact ⟨by simp only [py, PyData.canLay0], by simp only [py, PyData.depth]; exact Nat.le_refl _⟩
    | bl _ => exact ⟨by simp only [py, PyData.canLay0], by simp only [py, PyData.depth]; exact Nat.le_refl _⟩
    | int _ => exact ⟨by simp only [py, PyData.canLay0], by simp only [py, PyData.depth]; exact Nat.le_refl _⟩
    | _ => simp [gd] at h
  | succ k ih =>
    have all : ∀ xs : List D, xs.all (gd k) = true → PyData.canLayAll0 (pyL xs) = true ∧ PyData.depthAll (pyL xs) ≤ k := by
      intro xs
      induction xs with
      | nil => exact fun _ => ⟨by simp only [pyL, PyData.canLayAll0], by simp only [pyL, PyData.depthAll]; exact Nat.zero_le _⟩
      | cons x xs ih2 =>
        intro h
        rw [List.all_cons, Bool.and_eq_true] at h
        obtain ⟨a1, a2⟩ := ih x h.1
        obtain ⟨b1, b2⟩ := ih2 h.2
        refine ⟨by simp only [pyL, PyData.canLayAll0, a1, b1, Bool.and_self], ?_⟩
        simp only [pyL, PyData.depthAll]
        omega
    intro d h
    cases d with
    | lst xs =>
      obtain ⟨a, b⟩ := all xs (by simpa only [gd] using h)
      refine ⟨by simp only [py, PyData.canLay0]; exact a, ?_⟩
      simp only [py, PyData.depth]
      omega
    | tup xs =>
      obtain ⟨a, b⟩ := all xs (by simpa only [gd] using h)
      refine ⟨by simp only [py, PyData.canLay0]; exact a, ?_⟩
      simp only [py, PyData.depth]
      omega
    | str x => exact ⟨by simp only [py, PyData.canLay0]; simpa only [gd] using h, by simp only [py, PyData.depth]; exact Nat.zero_le _⟩
    | non => exact ⟨by simp only [py, PyData.canLay0], by simp only [py, PyData.depth]; exact Nat.zero_le _⟩
    | bl _ => exact ⟨by simp only [py, PyData.canLay0], by simp only [py, PyData.depth]; exact Nat.zero_le _⟩
    | int _ => exact ⟨by simp only [py, PyData.canLay0], by simp only [py, PyData.depth]; exact Nat.zero_le _⟩
    | _ => simp [gd] at h
theorem gd_all (k : Nat) (xs : List D) (h : xs.all (gd k) = true) : PyData.canLayAll0 (pyL xs) = true := by
  have z := (gd_lay (k + 1) (.lst xs) (by simpa only [gd] using h)).1
  simpa only [py, PyData.canLay0] using z
theorem gd_shaped (d : D) (h : gd 60 d = true) : SeqAt.shaped (py d) = true := by
  obtain ⟨a, b⟩ := gd_lay 60 d h
  show ((py d).canLay0 && decide ((py d).depth ≤ 64)) = true
  rw [a, Bool.true_and]
  exact decide_eq_true (by omega)
section
variable {K : PySem.W.Frag} {F : Addr → Prop} {H : Hp}
theorem rp_tup {ds : List D} {v : V} (r : Rp K F H (.tup ds) v) : ∃ a vs, v = .ref a ∧ SqT K H a vs ∧ RpL K F H ds vs := by
  cases r with
  | tup f e r => exact ⟨_, _, rfl, .inl e, r⟩
  | tupK k r => exact ⟨_, _, rfl, SqT.ofK k, r⟩
theorem rp_rol {ds : List D} {v : V} (r : Rp K F H (.rol ds) v) : ∃ a vs, v = .ref a ∧ SqL K H a vs ∧ RpL K F H ds vs := by
  cases r with
  | rol f e r => exact ⟨_, _, rfl, .inl e, r⟩
  | rolK k r => exact ⟨_, _, rfl, .inr k, r⟩
theorem nd_dp : ∀ (k : Nat) (d : D) (v : V), gd k d = true → Nd K F H d v → Dp K H v (py d) := by
  intro k
  induction k with
  | zero =>
    intro d v h n
    cases d with
    | non => cases (show v = .non from n); simp only [py]; exact .non
    | bl b => cases (show v = .bl b from n); simp only [py]; exact .bl b
    | int b => cases (show v = .int b from n); simp only [py]; exact .int b
    | str b => cases (show v = .str b from n); simp only [py]; exact .str b
    | _ => simp [gd] at h
  | succ k ih =>
    have all : ∀ (ds : List D) (vs : List V), ds.all (gd k) = true → RpL K F H ds vs → DpAll K H vs (pyL ds) := by
      intro ds
      induction ds with
      | nil =>
        intro vs _ r
        cases r
        simp only [pyL]
        exact .nil
      | cons d ds ih2 =>
        intro vs h r
        cases r with
        | cons a r =>
          rw [List.all_cons, Bool.and_eq_true] at h
          simp only [pyL]
          exact .cons (ih d _ h.1 a.nd) (ih2 _ h.2 r)
    intro d v h n
    cases d with
    | non => cases (show v = .non from n); simp only [py]; exact .non
    | bl b => cases (show v = .bl b from n); simp only [py]; exact .bl b
    | int b => cases (show v = .int b from n); simp only [py]; exact .int b
    | str b => cases (show v = .str b from n); simp only [py]; exact .str b
    | lst ds =>
      obtain ⟨a, vs, rfl, e, r⟩ := n
      simp only [py]
      exact .lst (SqL.of e) (all ds vs (by simpa only [gd] using h) r)
    | tup ds =>
      obtain ⟨a, vs, rfl, e, r⟩ := rp_tup n
      simp only [py]
      exact .tup e (all ds vs (by simpa only [gd] using h) r)
    | _ => simp [gd] at h
end

/-! ### == and != -/
def sv : D → Option V
  | .non => some .non
  | .bl b => some (.bl b)
  | .int i => some (.int i)
  | .str x => some (.str x)
  | _ => none
theorem nd_sv {K : PySem.W.Frag} {F : Addr → Prop} {H : Hp} {d : D} {v u : V} (n : Nd K F H d v) (e : sv d = some u) : v = u := by
  cases d <;> first | (cases e; exact n) | (cases e)
def gEq (x y : D) : Option D := match sv x, sv y with
  | some a, some b => if scal a b then some (.bl (decide (a = b))) else none
  | _, _ => if gd 60 x && gd 60 y then some (.bl (deq x y)) else none
def gNe (x y : D) : Option D := match sv x, sv y with
  | some a, some b => if scal a b then some (.bl (!decide (a = b))) else none
  | _, _ => if gd 60 x && gd 60 y then some (.bl (!deq x y)) else none
theorem og_eq {K : PySem.W.Frag} : OpG K (fun x y H Q => rEq x y H Q ∨ rEqD K x y H Q) gEq := OpG.scalar fun F H x y z vx vy Q nx ny e k => by
  have data : (if gd 60 x && gd 60 y then some (D.bl (deq x y)) else none) = some z → rEqD K vx vy H Q := fun e => by
    by_cases c : (gd 60 x && gd 60 y) = true
    · rw [if_pos c] at e
      cases e
      rw [Bool.and_eq_true] at c
      exact ⟨_, _, nd_dp 60 x vx c.1 nx, nd_dp 60 y vy c.2 ny, gd_shaped x c.1, gd_shaped y c.2, k (.bl _) fun F' => .bl _⟩
    · rw [if_neg c] at e; cases e
  unfold gEq at e
  cases ex : sv x with
  | none =>
    simp only [ex] at e
    exact .inr (data e)
  | some a =>
    cases ey : sv y with
    | none =>
      simp only [ex, ey] at e
      exact .inr (data e)
    | some b =>
      simp only [ex, ey] at e
      cases nd_sv nx ex
      cases nd_sv ny ey
      by_cases c : scal vx vy = true
      · rw [if_pos c] at e
        cases e
        exact .inl ⟨c, k (.bl _) fun F' => .bl _⟩
      · rw [if_neg c] at e; cases e
theorem og_ne {K : PySem.W.Frag} : OpG K (fun x y H Q => rNe x y H Q ∨ rNeD K x y H Q) gNe := OpG.scalar fun F H x y z vx vy Q nx ny e k => by
  have data : (if gd 60 x && gd 60 y then some (D.bl (!deq x y)) else none) = some z → rNeD K vx vy H Q := fun e => by
    by_cases c : (gd 60 x && gd 60 y) = true
    · rw [if_pos c] at e
      cases e
      rw [Bool.and_eq_true] at c
      exact ⟨_, _, nd_dp 60 x vx c.1 nx, nd_dp 60 y vy c.2 ny, gd_shaped x c.1, gd_shaped y c.2, k (.bl _) fun F' => .bl _⟩
    · rw [if_neg c] at e; cases e
  unfold gNe at e
  cases ex : sv x with
  | none =>
    simp only [ex] at e
    exact .inr (data e)
  | some a =>
    cases ey : sv y with
    | none =>
      simp only [ex, ey] at e
      exact .inr (data e)
    | some b =>
      simp only [ex, ey] at e
      cases nd_sv nx ex
      cases nd_sv ny ey
      by_cases c : scal vx vy = true
      · rw [if_pos c] at e
        cases e
        exact .inl ⟨c, k (.bl _) fun F' => .bl _⟩
      · rw [if_neg c] at e; cases e

/-! ### in, not in -/
def rInT (K : PySem.W.Frag) : R2 := fun x y H Q => ∃ d ds, Dp K H x d ∧ Dp K H y (.tuple ds) ∧ SeqAt.shaped d = true ∧ PyData.canLayAll0 ds = true ∧ Q (.bl (ds.any fun z => PyData.eqv z d)) H
def rNotInT (K : PySem.W.Frag) : R2 := fun x y H Q => ∃ d ds, Dp K H x d ∧ Dp K H y (.tuple ds) ∧ SeqAt.shaped d = true ∧ PyData.canLayAll0 ds = true ∧ Q (.bl (!ds.any fun z => PyData.eqv z d)) H
def rInL (K : PySem.W.Frag) : R2 := fun x y H Q => ∃ d ds, Dp K H x d ∧ Dp K H y (.list ds) ∧ SeqAt.shaped d = true ∧ PyData.canLayAll0 ds = true ∧ Q (.bl (ds.any fun z => PyData.eqv z d)) H
def rNotInL (K : PySem.W.Frag) : R2 := fun x y H Q => ∃ d ds, Dp K H x d ∧ Dp K H y (.list ds) ∧ SeqAt.shaped d = true ∧ PyData.canLayAll0 ds = true ∧ Q (.bl (!ds.any fun z => PyData.eqv z d)) H
section
variable {X : Cx}
theorem op_inT (hu : X.A.units + 65 < cLine) : OpR X (compareOp .In) (rInT X.K) := by
  intro pins s σ H x y v u Q I rx ry h
  obtain ⟨d, ds, hd, he, sd, se, q⟩ := h
  obtain ⟨as, r1⟩ := Dp.reads I d x v hd rx
  obtain ⟨bs, r2⟩ := Dp.reads I (.tuple ds) y u he ry
  exact SeqAt.in_tuple_reads r2 r1 se (SeqAt.canLay_of_shaped sd) (room_in_shaped sd hu) ⟨.bl _, H, I, rfl, q⟩
theorem op_notInT (hu : X.A.units + 65 < cLine) : OpR X (compareOp .NotIn) (rNotInT X.K) := by
  intro pins s σ H x y v u Q I rx ry h
  obtain ⟨d, ds, hd, he, sd, se, q⟩ := h
  obtain ⟨as, r1⟩ := Dp.reads I d x v hd rx
  obtain ⟨bs, r2⟩ := Dp.reads I (.tuple ds) y u he ry
  exact SeqAt.notIn_tuple_reads r2 r1 se (SeqAt.canLay_of_shaped sd) (room_in_shaped sd hu) ⟨.bl _, H, I, rfl, q⟩
theorem op_inL (hu : X.A.units + 65 < cLine) : OpR X (compareOp .In) (rInL X.K) := by
  intro pins s σ H x y v u Q I rx ry h
  obtain ⟨d, ds, hd, he, sd, se, q⟩ := h
  obtain ⟨as, r1⟩ := Dp.reads I d x v hd rx
  obtain ⟨bs, r2⟩ := Dp.reads I (.list ds) y u he ry
  exact SeqAt.in_list_reads r2 r1 se (SeqAt.canLay_of_shaped sd) (room_in_shaped sd hu) ⟨.bl _, H, I, rfl, q⟩
theorem op_notInL (hu : X.A.units + 65 < cLine) : OpR X (compareOp .NotIn) (rNotInL X.K) := by
  intro pins s σ H x y v u Q I rx ry h
  obtain ⟨d, ds, hd, he, sd, se, q⟩ := h
  obtain ⟨as, r1⟩ := Dp.reads I d x v hd rx
  obtain ⟨bs, r2⟩ := Dp.reads I (.list ds) y u he ry
  exact SeqAt.notIn_list_reads r2 r1 se (SeqAt.canLay_of_shaped sd) (room_in_shaped sd hu) ⟨.bl _, H, I, rfl, q⟩
end
/-- is x among ys? -/
def isIn (x : D) (ys : List D) : Bool := ys.any fun y => deq y x
def gInQ (x : D) (ys : List D) : Option Bool := if gd 60 x && ys.all (gd 60) then some (isIn x ys) else none
theorem any_py (x : D) (ys : List D) : (pyL ys).any (fun z => PyData.eqv z (py x)) = isIn x ys := by
  rw [pyL_map, List.any_map]; rfl
def oneSign (x : Str) : Option Nat := match x.cps.toList with
  | [c] => some c
  | _ => none
theorem oneSign_eq {x : Str} {c : Nat} (h : oneSign x = some c) : x = ⟨#[c]⟩ := by
  obtain ⟨a⟩ := x
  unfold oneSign at h
  split at h
  · rename_i c' e
    cases h
    have e : a.toList = [c] := e
    rw [show a = #[c] from by rw [← Array.toArray_toList (xs := a), e]]
  · cases h
def gIn : D → D → Option Bool
  | x, .lst ys => gInQ x ys
  | x, .tup ys => gInQ x ys
  | .str a, .str z => (oneSign a).map fun c => decide (c ∈ z.cps.toList)
  | _, _ => none
def gIs (x y : D) : Option D := (gIn x y).map .bl
def gNi (x y : D) : Option D := (gIn x y).map fun b => .bl (!b)
section
variable {K : PySem.W.Frag}
theorem in_core {F : Addr → Prop} {H : Hp} {x y : D} {vx vy : V} {b : Bool} (nx : Nd K F H x vx) (ny : Nd K F H y vy) (e : gIn x y = some b) :
    (∃ d ds, Dp K H vx d ∧ Dp K H vy (.list ds) ∧ SeqAt.shaped d = true ∧ PyData.canLayAll0 ds = true ∧ (ds.any fun z => PyData.eqv z d) = b) ∨
    (∃ d ds, Dp K H vx d ∧ Dp K H vy (.tuple ds) ∧ SeqAt.shaped d = true ∧ PyData.canLayAll0 ds = true ∧ (ds.any fun z => PyData.eqv z d) = b) ∨
    (∃ (c : Nat) (z : Str), vx = .str ⟨#[c]⟩ ∧ vy = .str z ∧ decide (c ∈ z.cps.toList) = b) := by
  have seq : ∀ ys : List D, gInQ x ys = some b → gd 60 x = true ∧ ys.all (gd 60) = true ∧ isIn x ys = b := fun ys e => by
    unfold gInQ at e
    by_cases c : (gd 60 x && ys.all (gd 60)) = true
    · rw [if_pos c] at e
      rw [Bool.and_eq_true] at c
      exact ⟨c.1, c.2, Option.some.inj e⟩
    · rw [if_neg c] at e; cases e
  cases y with
  | lst ys =>
    obtain ⟨g1, g2, g3⟩ := seq ys (by cases x <;> exact e)
    have g4 : gd 61 (.lst ys) = true := by simpa only [gd] using g2
    have dp := nd_dp 61 _ vy g4 ny
    simp only [py] at dp
    exact .inl ⟨_, _, nd_dp 60 x vx g1 nx, dp, gd_shaped x g1, gd_all 60 ys g2, by rw [any_py]; exact g3⟩
  | tup ys =>
    obtain ⟨g1, g2, g3⟩ := seq ys (by cases x <;> exact e)
    have g4 : gd 61 (.tup ys) = true := by simpa only [gd] using g2
    have dp := nd_dp 61 _ vy g4 ny
    simp only [py] at dp
    exact .inr (.inl ⟨_, _, nd_dp 60 x vx g1 nx, dp, gd_shaped x g1, gd_all 60 ys g2, by rw [any_py]; exact g3⟩)
  | str z =>
    cases x with
    | str a =>
      obtain ⟨c, e1, e2⟩ := Option.map_eq_some_iff.mp (show (oneSign a).map (fun c => decide (c ∈ z.cps.toList)) = some b from e)
      refine .inr (.inr ⟨c, z, ?_, ny, e2⟩)
      rw [show vx = V.str a from nx, oneSign_eq e1]
    | _ => cases e
  | _ => cases x <;> cases e
theorem og_in : OpG K (fun x y H Q => rInL K x y H Q ∨ rInT K x y H Q ∨ rInS x y H Q) gIs := OpG.scalar fun F H x y z vx vy Q nx ny e k => by
  obtain ⟨b, e1, rfl⟩ := Option.map_eq_some_iff.mp (show (gIn x y).map D.bl = some z from e)
  have kb : Q (.bl b) H := k (.bl b) fun F' => .bl b
  rcases in_core nx ny e1 with ⟨d, ds, h1, h2, h3, h4, h5⟩ | ⟨d, ds, h1, h2, h3, h4, h5⟩ | ⟨c, z, h1, h2, h3⟩
  · exact .inl ⟨d, ds, h1, h2, h3, h4, by rw [h5]; exact kb⟩
  · exact .inr (.inl ⟨d, ds, h1, h2, h3, h4, by rw [h5]; exact kb⟩)
  · exact .inr (.inr ⟨c, z, h1, h2, by rw [h3]; exact kb⟩)
theorem og_ni : OpG K (fun x y H Q => rNotInL K x y H Q ∨ rNotInT K x y H Q ∨ rNotInS x y H Q) gNi := OpG.scalar fun F H x y z vx vy Q nx ny e k => by
  obtain ⟨b, e1, rfl⟩ := Option.map_eq_some_iff.mp (show (gIn x y).map (fun b => D.bl (!b)) = some z from e)
  have kb : Q (.bl (!b)) H := k (.bl (!b)) fun F' => .bl (!b)
  rcases in_core nx ny e1 with ⟨d, ds, h1, h2, h3, h4, h5⟩ | ⟨d, ds, h1, h2, h3, h4, h5⟩ | ⟨c, z, h1, h2, h3⟩
  · exact .inl ⟨d, ds, h1, h2, h3, h4, by rw [h5]; exact kb⟩
  · exact .inr (.inl ⟨d, ds, h1, h2, h3, h4, by rw [h5]; exact kb⟩)
  · exact .inr (.inr ⟨c, z, h1, h2, by rw [h3]; exact kb⟩)
end
end VL
set_option maxRecDepth 100000
set_option maxHeartbeats 2000000
namespace VL
open PySem PySem.Spec PyProof.Rows L2

/-! ### is, is not: None and truth values -/
def isNon : D → Bool
  | .non => true
  | _ => false
def isBl (b : Bool) : D → Bool
  | .bl c => c == b
  | _ => false
def gIsQ (x : D) : D → Option Bool
  | .non => some (isNon x)
  | .bl b => some (isBl b x)
  | _ => none
def gIsA (x y : D) : Option D := (gIsQ x y).map .bl
def gIsN (x y : D) : Option D := (gIsQ x y).map fun b => .bl (!b)
def rIsV (neg : Bool) : R2 := fun x y H Q => (y = .non ∨ ∃ b, y = .bl b) ∧ Q (.bl (if neg then !decide (x = y) else decide (x = y))) H
section
variable {X : Cx}
theorem is_plainB {x : V} {v : Value} {b : Bool} (r : RelV x v) : plainIs v (.bool b) = true ∧ (v == .bool b) = decide (x = .bl b) := by
  cases x with
  | non => cases (show v = Value.none from r); exact ⟨rfl, rfl⟩
  | bl c =>
    cases (show v = Value.bool c from r)
    refine ⟨rfl, ?_⟩
    cases b <;> cases c <;> rfl
  | int i => obtain ⟨t, rfl⟩ := r; exact ⟨rfl, rfl⟩
  | str i => obtain ⟨t, rfl⟩ := r; exact ⟨rfl, rfl⟩
  | byt i => obtain ⟨t, rfl⟩ := r; exact ⟨rfl, rfl⟩
  | flt i => obtain ⟨t, rfl⟩ := r; exact ⟨rfl, rfl⟩
  | ref a => cases (show v = Value.ref a from r); exact ⟨rfl, rfl⟩
  | ty n => cases (show v = Value.type n from r); exact ⟨rfl, rfl⟩
theorem op_isV : OpR X (compareOp .Is) (rIsV false) := by
  intro pins s σ H x y v u Q I rx ry h
  obtain ⟨hy, q⟩ := h
  rcases hy with rfl | ⟨b, rfl⟩
  · exact op_isN pins s σ H x _ v u Q I rx ry ⟨rfl, q⟩
  · cases (show u = Value.bool b from ry)
    obtain ⟨p, e⟩ := is_plainB (b := b) rx
    exact wpAny_is_plain p (fin_bl I q e.symm)
theorem op_isNV : OpR X (compareOp .IsNot) (rIsV true) := by
  intro pins s σ H x y v u Q I rx ry h
  obtain ⟨hy, q⟩ := h
  rcases hy with rfl | ⟨b, rfl⟩
  · exact op_notN pins s σ H x _ v u Q I rx ry ⟨rfl, q⟩
  · cases (show u = Value.bool b from ry)
    obtain ⟨p, e⟩ := is_plainB (b := b) rx
    exact wpAny_isNot_plain p (fin_bl I q (congrArg Bool.not e.symm))
end
theorem nd_isNon {K : PySem.W.Frag} {F : Addr → Prop} {H : Hp} {d : D} {v : V} (n : Nd K F H d v) : decide (v = .non) = isNon d := by
  cases d with
  | non => cases (show v = .non from n); rfl
  | bl b => cases (show v = .bl b from n); rfl
  | int i => cases (show v = .int i from n); rfl
  | str x => cases (show v = .str x from n); rfl
  | lst ds => obtain ⟨a, vs, rfl, _⟩ := n; rfl
  | dK ks ds => obtain ⟨a, vs, rfl, _⟩ := n; rfl
  | dT ks ds => obtain ⟨a, vs, rfl, _⟩ := n; rfl
  | ins c ns ds => obtain ⟨a, dx, vs, rfl, _⟩ := n; rfl
  | tup ds => obtain ⟨a, vs, rfl, _⟩ := rp_tup n; rfl
  | rol ds => obtain ⟨a, vs, rfl, _⟩ := rp_rol n; rfl
theorem nd_isBl {K : PySem.W.Frag} {F : Addr → Prop} {H : Hp} {d : D} {v : V} {b : Bool} (n : Nd K F H d v) : decide (v = .bl b) = isBl b d := by
  cases d with
  | non => cases (show v = .non from n); rfl
  | bl c => cases (show v = .bl c from n); cases b <;> cases c <;> rfl
  | int i => cases (show v = .int i from n); rfl
  | str x => cases (show v = .str x from n); rfl
  | lst ds => obtain ⟨a, vs, rfl, _⟩ := n; rfl
  | dK ks ds => obtain ⟨a, vs, rfl, _⟩ := n; rfl
  | dT ks ds => obtain ⟨a, vs, rfl, _⟩ := n; rfl
  | ins c ns ds => obtain ⟨a, dx, vs, rfl, _⟩ := n; rfl
  | tup ds => obtain ⟨a, vs, rfl, _⟩ := rp_tup n; rfl
  | rol ds => obtain ⟨a, vs, rfl, _⟩ := rp_rol n; rfl
theorem is_core {K : PySem.W.Frag} {F : Addr → Prop} {H : Hp} {x y : D} {vx vy : V} {b : Bool} (nx : Nd K F H x vx) (ny : Nd K F H y vy) (e : gIsQ x y = some b) : (vy = .non ∨ ∃ b, vy = .bl b) ∧ decide (vx = vy) = b := by
  cases y with
  | non =>
    cases (show vy = .non from ny)
    cases (show some (isNon x) = some b from e)
    exact ⟨.inl rfl, nd_isNon nx⟩
  | bl c =>
    cases (show vy = .bl c from ny)
    cases (show some (isBl c x) = some b from e)
    exact ⟨.inr ⟨c, rfl⟩, nd_isBl nx⟩
  | _ => cases e
theorem og_is {K : PySem.W.Frag} : OpG K (rIsV false) gIsA := OpG.scalar fun F H x y z vx vy Q nx ny e k => by
  obtain ⟨b, e1, rfl⟩ := Option.map_eq_some_iff.mp (show (gIsQ x y).map D.bl = some z from e)
  obtain ⟨h1, h2⟩ := is_core nx ny e1
  refine ⟨h1, ?_⟩
  show Q (.bl (decide (vx = vy))) H
  rw [h2]
  exact k (.bl b) fun F' => .bl b
theorem og_isN {K : PySem.W.Frag} : OpG K (rIsV true) gIsN := OpG.scalar fun F H x y z vx vy Q nx ny e k => by
  obtain ⟨b, e1, rfl⟩ := Option.map_eq_some_iff.mp (show (gIsQ x y).map (fun b => D.bl (!b)) = some z from e)
  obtain ⟨h1, h2⟩ := is_core nx ny e1
  refine ⟨h1, ?_⟩
  show Q (.bl (!decide (vx = vy))) H
  rw [h2]
  exact k (.bl (!b)) fun F' => .bl (!b)

/-! ### + -/
def gAdd : D → D → Option D
  | .int i, .int j => some (.int (i + j))
  | .str x, .str y => if x.length + y.length ≤ sizeLine then some (.str (x ++ y)) else none
  | .lst xs, .lst ys => if xs.length + ys.length ≤ sizeLine then some (.lst (xs ++ ys)) else none
  | .tup xs, .tup ys => if xs.length + ys.length ≤ sizeLine then some (.tup (xs ++ ys)) else none
  | _, _ => none
def rAddAny (K : PySem.W.Frag) : R2 := fun x y H Q => rI0 (fun i j => .int (i + j)) x y H Q ∨ (∃ i j, x = .str i ∧ y = .str j ∧ i.length + j.length ≤ sizeLine ∧ Q (.str (i ++ j)) H) ∨ rCat x y H Q ∨ rCatA K x y H Q
theorem op_addAny {X : Cx} : OpR X (binaryOp .Add) (rAddAny X.K) := OpR.or op_add (OpR.or op_add_str (OpR.or op_cat op_catA))
theorem rp_tupF {K : PySem.W.Frag} {F : Addr → Prop} {H : Hp} {ds es : List D} {a : Addr} {vs : List V} (r : Rp K F H (.tup ds) (.ref a)) (q : SqT K H a vs) (h : RpL K F H es vs) : True := trivial
theorem og_add {K : PySem.W.Frag} : OpG K (rAddAny K) gAdd := fun ι F l h σ H x y z vx vy Q S nx ny e k => by
  cases x with
  | int i =>
    cases y with
    | int j =>
      cases (show vx = .int i from nx)
      cases (show vy = .int j from ny)
      cases e
      exact .inl ⟨i, j, rfl, rfl, k _ F H Aft.refl S (.int _)⟩
    | _ => cases e
  | str i =>
    cases y with
    | str j =>
      cases (show vx = .str i from nx)
      cases (show vy = .str j from ny)
      have e : (if i.length + j.length ≤ sizeLine then some (D.str (i ++ j)) else none) = some z := e
      by_cases c : i.length + j.length ≤ sizeLine
      · rw [if_pos c] at e
        cases e
        exact .inr (.inl ⟨i, j, rfl, rfl, c, k _ F H Aft.refl S (.str _)⟩)
      · rw [if_neg c] at e; cases e
    | _ => cases e
  | lst xs =>
    cases y with
    | lst ys =>
      obtain ⟨a, vs, rfl, e1, r1⟩ := nx
      obtain ⟨b, us, rfl, e2, r2⟩ := ny
      have e : (if xs.length + ys.length ≤ sizeLine then some (D.lst (xs ++ ys)) else none) = some z := e
      by_cases c : xs.length + ys.length ≤ sizeLine
      · rw [if_pos c] at e
        cases e
        refine .inr (.inr (.inl ⟨a, b, vs, us, rfl, rfl, e1, e2, by rw [← r1.length, ← r2.length]; exact c, fun p hp => ?_⟩))
        have kp : Kp F (fun b => F b ∨ b = p) H (upd H p (.lst (vs ++ us))) := (Ext.laidF (A := fun _ => False) (ι := ι) hp).kp
        exact k _ _ _ (Aft.laidF hp) (S.laidF hp) (.lst (.inr rfl) upd_same ((r1.kp kp).append (r2.kp kp)))
      · rw [if_neg c] at e; cases e
    | _ => cases e
  | tup xs =>
    cases y with
    | tup ys =>
      have n1 : Rp K F H (.tup xs) vx := nx
      have n2 : Rp K F H (.tup ys) vy := ny
      obtain ⟨a, vs, rfl, e1, r1⟩ := rp_tup n1
      obtain ⟨b, us, rfl, e2, r2⟩ := rp_tup n2
      have e : (if xs.length + ys.length ≤ sizeLine then some (D.tup (xs ++ ys)) else none) = some z := e
      by_cases c : xs.length + ys.length ≤ sizeLine
      · rw [if_pos c] at e
        cases e
        refine .inr (.inr (.inr ⟨a, b, vs, us, rfl, rfl, e1, e2, by rw [← r1.length, ← r2.length]; exact c, fun z => ?_, fun _ z => ?_, fun _ _ p hp => ?_⟩))
        · subst z
          cases r1
          exact k _ F H Aft.refl S n2
        · subst z
          cases r2
          rw [List.append_nil] at k
          exact k _ F H Aft.refl S n1
        · have kp : Kp F (fun b => F b ∨ b = p) H (upd H p (.tup (vs ++ us))) := (Ext.laidF (A := fun _ => False) (ι := ι) hp).kp
          exact k _ _ _ (Aft.laidF hp) (S.laidF hp) (.tup (.inr rfl) (.inl upd_same) ((r1.kp kp).append (r2.kp kp)))
      · rw [if_neg c] at e; cases e
    | _ => cases e
  | _ => cases y <;> cases e

/-! ### arithmetic, order -/
def gSub : D → D → Option D := gI0 fun i j => .int (i - j)
def cMul (i j : Int) : Bool := decide (i.natAbs < 18446744073709551616) || decide (j.natAbs < 18446744073709551616)
theorem cMul_ok {i j : Int} (h : cMul i j = true) : (-(2 ^ 64) < i ∧ i < 2 ^ 64) ∨ (-(2 ^ 64) < j ∧ j < 2 ^ 64) := by
  unfold cMul at h
  rcases Bool.or_eq_true_iff.mp h with h | h
  · have := of_decide_eq_true h
    exact .inl (by omega)
  · have := of_decide_eq_true h
    exact .inr (by omega)
theorem cMulOf {i j : Int} (h : (-(2 ^ 64) < i ∧ i < 2 ^ 64) ∨ (-(2 ^ 64) < j ∧ j < 2 ^ 64)) : cMul i j = true := by
  unfold cMul
  rcases h with h | h
  · rw [decide_eq_true (by omega : i.natAbs < 18446744073709551616), Bool.true_or]
  · rw [decide_eq_true (by omega : j.natAbs < 18446744073709551616), Bool.or_true]
def gMul : D → D → Option D := gII cMul fun i j => .int (i * j)
def gMod : D → D → Option D := gII (fun _ j => decide (0 < j)) fun i j => .int (i % j)
def cDiv (_ j : Int) : Bool := decide (0 < j ∧ j.natAbs.log2 < 9000)
def gDiv : D → D → Option D := gII cDiv fun i j => .int (i / j)
def cPow (i j : Int) : Bool := decide (0 ≤ j ∧ j ≤ 1000000 ∧ i.natAbs < 2 ^ 64)
def gPow : D → D → Option D := gII cPow fun i j => .int (i ^ j.toNat)
def gLt : D → D → Option D := gI0 fun i j => .bl (decide (i < j))
def gLe : D → D → Option D := gI0 fun i j => .bl (decide (i ≤ j))
def gGt : D → D → Option D := gI0 fun i j => .bl (decide (j < i))
def gGe : D → D → Option D := gI0 fun i j => .bl (decide (j ≤ i))
section
variable {K : PySem.W.Frag}
theorem og_sub : OpG K (rI0 fun i j => .int (i - j)) gSub := og_int0 fun _ _ _ _ => .int _
theorem og_mul : OpG K (rI CMul fun i j => .int (i * j)) gMul := og_int (fun i j h => by
  have z := cMul_ok h
  exact z) fun _ _ _ _ => .int _
theorem og_mod : OpG K (rI (fun _ j => 0 < j) fun i j => .int (i % j)) gMod := og_int (fun _ _ h => of_decide_eq_true h) fun _ _ _ _ => .int _
theorem og_div : OpG K (rI CDivW fun i j => .int (i / j)) gDiv := og_int (fun i j h => by
  have z : 0 < j ∧ j.natAbs.log2 < 9000 := of_decide_eq_true h
  exact z) fun _ _ _ _ => .int _
theorem og_pow : OpG K (rI CPow fun i j => .int (i ^ j.toNat)) gPow := og_int (fun i j h => by
  have z : 0 ≤ j ∧ j ≤ 1000000 ∧ i.natAbs < 2 ^ 64 := of_decide_eq_true h
  exact z) fun _ _ _ _ => .int _
theorem og_lt : OpG K (rI0 fun i j => .bl (decide (i < j))) gLt := og_int0 fun _ _ _ _ => .bl _
theorem og_le : OpG K (rI0 fun i j => .bl (decide (i ≤ j))) gLe := og_int0 fun _ _ _ _ => .bl _
theorem og_gt : OpG K (rI0 fun i j => .bl (decide (j < i))) gGt := og_int0 fun _ _ _ _ => .bl _
theorem og_ge : OpG K (rI0 fun i j => .bl (decide (j ≤ i))) gGe := og_int0 fun _ _ _ _ => .bl _
end

/-! ### items -/
def gIx : D → D → Option D
  | .lst xs, .int i => atI xs i
  | .tup xs, .int i => atI xs i
  | .rol xs, .int i => atI xs i
  | .str z, .int i => if z.length ≤ sizeLine then (atI z.cps.toList i).map fun c => .str ⟨#[c]⟩ else none
  | _, _ => none
theorem atI_rp {K : PySem.W.Frag} {F : Addr → Prop} {H : Hp} {ds : List D} {vs : List V} {i : Int} {d : D} (r : RpL K F H ds vs) (e : atI ds i = some d) : ∃ v, atI vs i = some v ∧ Rp K F H d v := by
  unfold atI at e ⊢
  rw [← r.length]
  cases z : ixN ds.length i with
  | none => rw [z] at e; cases e
  | some j =>
    rw [z] at e
    obtain ⟨v, e1, e2⟩ := r.get (show ds[j]? = some d from e)
    exact ⟨v, e1, e2⟩
theorem og_ix {K : PySem.W.Frag} : OpG K (rIx K) gIx := fun ι F l h σ H x y z vx vy Q S nx ny e k => by
  cases y with
  | int i =>
    cases (show vy = .int i from ny)
    cases x with
    | lst xs =>
      obtain ⟨a, vs, rfl, e1, r1⟩ := nx
      obtain ⟨v, e2, rv⟩ := atI_rp r1 (show atI xs i = some z from e)
      exact .inl ⟨a, vs, i, v, rfl, rfl, SqL.of e1, e2, k v F H Aft.refl S rv⟩
    | rol xs =>
      obtain ⟨a, vs, rfl, e1, r1⟩ := rp_rol nx
      obtain ⟨v, e2, rv⟩ := atI_rp r1 (show atI xs i = some z from e)
      exact .inl ⟨a, vs, i, v, rfl, rfl, e1, e2, k v F H Aft.refl S rv⟩
    | tup xs =>
      obtain ⟨a, vs, rfl, e1, r1⟩ := rp_tup nx
      obtain ⟨v, e2, rv⟩ := atI_rp r1 (show atI xs i = some z from e)
      exact .inr (.inl ⟨a, vs, i, v, rfl, rfl, e1, e2, k v F H Aft.refl S rv⟩)
    | str s =>
      cases (show vx = .str s from nx)
      have e : (if s.length ≤ sizeLine then (atI s.cps.toList i).map fun c => D.str ⟨#[c]⟩ else none) = some z := e
      by_cases c : s.length ≤ sizeLine
      · rw [if_pos c] at e
        obtain ⟨c1, e1, rfl⟩ := Option.map_eq_some_iff.mp e
        exact .inr (.inr ⟨s, i, c1, rfl, rfl, c, e1, k _ F H Aft.refl S (.str _)⟩)
      · rw [if_neg c] at e; cases e
    | _ => cases e
  | _ => cases x <;> cases e

/-! ### tests -/
def fTst (f : FE) : FT := fun l h => (f l h).bind fun w l h => match w with
  | .v (.bl b) => .ok b l h
  | _ => .no
def tru : D → Option Bool
  | .non => some false
  | .bl b => some b
  | .int i => some (i != 0)
  | .str y => if y.length ≤ sizeLine then some ((y.length : Int) != 0) else none
  | .lst xs => some (!xs.isEmpty)
  | .tup xs => some (!xs.isEmpty)
  | .dK ks xs => some (!ks.isEmpty)
  | _ => none
def fTru (f : FE) : FT := fun l h => (f l h).bind fun w l h => match dOf l h w with
  | some d => (match tru d with
    | some b => .ok b l h
    | none => .no)
  | none => .no
def fNot (f : FT) : FT := fun l h => (f l h).bind fun b l h => .ok (!b) l h
def fAnd (f g : FT) : FT := fun l h => (f l h).bind fun b l h => if b = true then g l h else .ok false l h
def fOr (f g : FT) : FT := fun l h => (f l h).bind fun b l h => if b = true then .ok true l h else g l h
/-- as values -/
def fAndV (f g : FE) : FE := fun l h => (f l h).bind fun w l h => match w with
  | .v (.bl true) => g l h
  | .v (.bl false) => .ok (.v (.bl false)) l h
  | _ => .no
def fOrV (f g : FE) : FE := fun l h => (f l h).bind fun w l h => match w with
  | .v (.bl true) => .ok (.v (.bl true)) l h
  | .v (.bl false) => g l h
  | _ => .no
def fNotV (f : FE) : FE := fun l h => (f l h).bind fun w l h => match w with
  | .v (.bl b) => .ok (.v (.bl (!b))) l h
  | _ => .no
def fIf (c : FT) (f g : FE) : FE := fun l h => (c l h).bind fun b l h => if b = true then f l h else g l h
section
variable {X : Cx} {Wx : WX} {a b e : Expr} {rest : List Expr} {f g fa fb : FE} {t u : FT} {pos : Pos} {r : R2} {go : D → D → Option D}
theorem tst_t {σ : L2.St} {H : Hp} {Q : Bool → Hp → Prop} (q : tT X.K Wx (fTst f) σ H Q) : tE X.K Wx f σ H fun x H' => ∃ k, x = .bl k ∧ Q k H' := by
  obtain ⟨ι, F, l, h, S, q⟩ := q
  refine ⟨ι, F, l, h, S, Sat.cut q fun w l1 h1 v ι1 F1 H1 a1 S1 r1 q1 => ?_⟩
  cases w with
  | v d =>
    cases d with
    | bl b =>
      cases (show Rp X.K F1 H1 (.bl b) v from r1)
      exact ⟨b, rfl, Sat.here S1 q1 rfl⟩
    | _ => exact False.elim q1
  | _ => exact False.elim q1
theorem vt_cmp {op : CmpOp} (ho : OpR X (compareOp op) r) (hg : OpG X.K r go) (ha : VE X Wx a fa) (hb : VE X Wx b fb) (hm : behindInMarks op b = false) : VT X Wx (.Compare a [op] [b] pos) (fTst (fBin go fa fb)) :=
  PT.imp (pt_cmpR ho ha hb hm) fun σ H Q q => by
    have z := tst_t q
    exact bin_t hg z
theorem vt_tru (ha : VE X Wx a f) (he : ∀ whole, isTrue a X.env whole = (do let v ← whole; standAt a.pos; holding [v] (truthy v)) := by intro _; rfl) : VT X Wx a (fTru f) :=
  PT.imp (pt_truth ha he) fun σ H Q ⟨ι, F, l, h, S, q⟩ => by
    refine ⟨ι, F, l, h, S, Sat.cut q fun w l1 h1 v ι1 F1 H1 a1 S1 r1 q1 => ?_⟩
    cases e : dOf l1 h1 w with
    | none => simp only [e] at q1; exact False.elim q1
    | some d =>
      simp only [e] at q1
      cases e2 : tru d with
      | none => simp only [e2] at q1; exact False.elim q1
      | some b =>
        simp only [e2] at q1
        refine ⟨b, ?_, Sat.here S1 q1 rfl⟩
        have nd := dOf_nd S1 r1 e
        cases d with
        | non => cases (show v = .non from nd); cases e2; exact (rfl : (false : Bool) = false)
        | bl c => cases (show v = .bl c from nd); cases e2; exact (rfl : b = b)
        | int i => cases (show v = .int i from nd); cases e2; exact (rfl : (i != 0) = (i != 0))
        | str s =>
          cases (show v = .str s from nd)
          have e2 : (if s.length ≤ sizeLine then some ((s.length : Int) != 0) else none) = some b := e2
          by_cases c : s.length ≤ sizeLine
          · rw [if_pos c] at e2
            cases e2
            exact ⟨c, rfl⟩
          · rw [if_neg c] at e2; cases e2
        | lst xs =>
          obtain ⟨p, vs, rfl, e3, r3⟩ := nd
          cases (show some (!xs.isEmpty) = some b from e2)
          refine .inl ⟨vs, SqL.of e3, ?_⟩
          cases r3 <;> rfl
        | tup xs =>
          obtain ⟨p, vs, rfl, e3, r3⟩ := rp_tup nd
          cases (show some (!xs.isEmpty) = some b from e2)
          refine .inr (.inl ⟨vs, e3, ?_⟩)
          cases r3 <;> rfl
        | dK ks xs =>
          obtain ⟨p, vs, rfl, hl, e3, r3⟩ := nd
          cases (show some (!ks.isEmpty) = some b from e2)
          refine .inr (.inr ⟨_, e3, ?_⟩)
          cases ks with
          | nil => rfl
          | cons k ks =>
            cases vs with
            | nil => cases hl
            | cons v vs => rfl
        | _ => cases e2
theorem vt_not (ha : VT X Wx a t) : VT X Wx (.UnaryOp .Not a pos) (fNot t) :=
  PT.imp (pt_not ha) fun σ H Q ⟨ι, F, l, h, S, q⟩ => ⟨ι, F, l, h, S, Sat.cut q fun b l1 h1 b' ι1 F1 H1 a1 S1 r1 q1 => by
    cases (show b = b' from r1)
    exact Sat.here S1 q1 rfl⟩
theorem vw_and1 (ha : VT X Wx a t) : PW X (.BoolOp .And [a] pos) (tT X.K Wx t) := pw_and1 ha
theorem vw_or1 (ha : VT X Wx a t) : PW X (.BoolOp .Or [a] pos) (tT X.K Wx t) := pw_or1 ha
theorem PW.imp {e : Expr} {t t' : TT} (p : PW X e t) (h : ∀ σ H Q, t' σ H Q → t σ H Q) : PW X e t' := ⟨fun wh pins s σ H Q I q => p.run wh pins s σ H Q I (h σ H Q q)⟩
theorem vw_and (ha : VT X Wx a t) (hb : PW X (.BoolOp .And (b :: rest) pos) (tT X.K Wx u)) : PW X (.BoolOp .And (a :: b :: rest) pos) (tT X.K Wx (fAnd t u)) :=
  PW.imp (pw_and ha hb) fun σ H Q ⟨ι, F, l, h, S, q⟩ => ⟨ι, F, l, h, S, Sat.cut q fun b l1 h1 b' ι1 F1 H1 a1 S1 r1 q1 => by
    cases (show b = b' from r1)
    cases b with
    | true => exact ⟨ι1, F1, l1, h1, S1, q1⟩
    | false => exact Sat.here S1 q1 rfl⟩
theorem vw_or (ha : VT X Wx a t) (hb : PW X (.BoolOp .Or (b :: rest) pos) (tT X.K Wx u)) : PW X (.BoolOp .Or (a :: b :: rest) pos) (tT X.K Wx (fOr t u)) :=
  PW.imp (pw_or ha hb) fun σ H Q ⟨ι, F, l, h, S, q⟩ => ⟨ι, F, l, h, S, Sat.cut q fun b l1 h1 b' ι1 F1 H1 a1 S1 r1 q1 => by
    cases (show b = b' from r1)
    cases b with
    | false => exact ⟨ι1, F1, l1, h1, S1, q1⟩
    | true => exact Sat.here S1 q1 rfl⟩
theorem ve_one {op} (h : VE X Wx a f) : VE X Wx (.BoolOp op [a] pos) f := pe_one h
theorem ve_and (ha : VE X Wx a f) (hb : VE X Wx (.BoolOp .And (b :: rest) pos) g) : VE X Wx (.BoolOp .And (a :: b :: rest) pos) (fAndV f g) :=
  PE.imp (pe_and ha hb) fun σ H Q ⟨ι, F, l, h, S, q⟩ => ⟨ι, F, l, h, S, Sat.cut q fun w l1 h1 v ι1 F1 H1 a1 S1 r1 q1 => by
    cases w with
    | v d =>
      cases d with
      | bl b =>
        cases (show Rp X.K F1 H1 (.bl b) v from r1)
        cases b with
        | true => exact ⟨true, rfl, ι1, F1, l1, h1, S1, q1⟩
        | false => exact ⟨false, rfl, Sat.here S1 q1 (show relW X.K σ ι1 F1 H1 (.v (.bl false)) (.bl false) from .bl false)⟩
      | _ => exact False.elim q1
    | _ => exact False.elim q1⟩
theorem ve_or (ha : VE X Wx a f) (hb : VE X Wx (.BoolOp .Or (b :: rest) pos) g) : VE X Wx (.BoolOp .Or (a :: b :: rest) pos) (fOrV f g) :=
  PE.imp (pe_or ha hb) fun σ H Q ⟨ι, F, l, h, S, q⟩ => ⟨ι, F, l, h, S, Sat.cut q fun w l1 h1 v ι1 F1 H1 a1 S1 r1 q1 => by
    cases w with
    | v d =>
      cases d with
      | bl b =>
        cases (show Rp X.K F1 H1 (.bl b) v from r1)
        cases b with
        | false => exact ⟨false, rfl, ι1, F1, l1, h1, S1, q1⟩
        | true => exact ⟨true, rfl, Sat.here S1 q1 (show relW X.K σ ι1 F1 H1 (.v (.bl true)) (.bl true) from .bl true)⟩
      | _ => exact False.elim q1
    | _ => exact False.elim q1⟩
theorem ve_not (ha : VE X Wx a f) : VE X Wx (.UnaryOp .Not a pos) (fNotV f) :=
  PE.imp (pe_not ha) fun σ H Q ⟨ι, F, l, h, S, q⟩ => ⟨ι, F, l, h, S, Sat.cut q fun w l1 h1 v ι1 F1 H1 a1 S1 r1 q1 => by
    cases w with
    | v d =>
      cases d with
      | bl b =>
        cases (show Rp X.K F1 H1 (.bl b) v from r1)
        exact ⟨b, rfl, Sat.here S1 q1 (show relW X.K σ ι1 F1 H1 (.v (.bl (!b))) (.bl (!b)) from .bl (!b))⟩
      | _ => exact False.elim q1
    | _ => exact False.elim q1⟩
theorem ve_if {c : Expr} (hc : VT X Wx c t) (ha : VE X Wx a f) (hb : VE X Wx b g) : VE X Wx (.IfExp c a b pos) (fIf t f g) :=
  PE.imp (pe_ifExp hc ha hb) fun σ H Q ⟨ι, F, l, h, S, q⟩ => ⟨ι, F, l, h, S, Sat.cut q fun b l1 h1 b' ι1 F1 H1 a1 S1 r1 q1 => by
    cases (show b = b' from r1)
    cases b with
    | true => exact ⟨ι1, F1, l1, h1, S1, q1⟩
    | false => exact ⟨ι1, F1, l1, h1, S1, q1⟩⟩
end
def fNeg (f : FE) : FE := fun l h => (f l h).bind fun w l h => match w with
  | .v (.int i) => .ok (.v (.int (-i))) l h
  | _ => .no
theorem ve_neg {X : Cx} {Wx : WX} {a : Expr} {f : FE} {pos : Pos} (ha : VE X Wx a f) : VE X Wx (.UnaryOp .USub a pos) (fNeg f) :=
  PE.imp (pe_un un_neg ha) fun σ H Q ⟨ι, F, l, h, S, q⟩ => ⟨ι, F, l, h, S, Sat.cut q fun w l1 h1 v ι1 F1 H1 a1 S1 r1 q1 => by
    cases w with
    | v d =>
      cases d with
      | int i =>
        cases (show Rp X.K F1 H1 (.int i) v from r1)
        exact ⟨i, rfl, Sat.here S1 q1 (show relW X.K σ ι1 F1 H1 (.v (.int (-i))) (.int (-i)) from .int (-i))⟩
      | _ => exact False.elim q1
    | _ => exact False.elim q1⟩
end VL
set_option maxRecDepth 100000
set_option maxHeartbeats 2000000
namespace VL
open PySem PySem.Spec PyProof.Rows L2

/-! ### slots that others do not touch -/
section
variable {K : PySem.W.Frag} {ι ι' : List Addr} {F F' : Addr → Prop} {l l' : Ls} {h h' : Hs} {σ σ' τ : L2.St} {H H' : Hp} {A : Addr → Prop} {p a : Addr} {d : D} {v : V} {x : Sl}
theorem SlR.over (e : Ext A ι F H ι' F' H') (na : ∀ b d a, x = .m b d → v = .ref a → ¬ A a) (r : SlR K ι F H x v) : SlR K ι' F' H' x v := by
  cases x with
  | e => trivial
  | v d => exact Rp.kp e.kp r
  | r n =>
    obtain ⟨a, q, z⟩ := r
    exact ⟨a, e.pre_get q, z⟩
  | m b d =>
    obtain ⟨a, rfl, n1, n2, o⟩ := r
    have nA := na b d a rfl rfl
    obtain ⟨u, hu⟩ := o.there
    have n3 : a ∉ ι' := fun z => by
      have y := e.new a z n2
      rw [hu] at y; cases y
    refine ⟨a, rfl, fun f => ?_, n3, Own.ext e.kp (fun o q => e.keep a o q (.inr ⟨n2, nA⟩)) o⟩
    rcases e.newF a f with z | z | z | z
    · exact n1 z
    · exact n2 z
    · exact nA z
    · rw [hu] at z; cases z
/-- the slots stay where only others' objects change -/
theorem Sim.over (S : Sim K ι F l h σ H) (e : Ext A ι F H ι' F' H') (hs : SimH K ι' F' h' H') (na : ∀ a, Ow l σ a → ¬ A a) : Sim K ι' F' l h' σ H' :=
  ⟨hs, S.len, fun i x q => (S.sl i x q).imp id fun ⟨v, ev, r⟩ => ⟨v, ev, SlR.over e (fun b d a z y => na a ⟨i, b, d, by rw [q, z], by rw [ev, y]⟩) r⟩, S.one⟩
theorem Sim.tail {xs : Ls} {v : Option V} (S : Sim K ι F (x :: xs) h (v :: τ) H) : Sim K ι F xs h τ H :=
  ⟨S.hs, by have := S.len; simpa using this, fun i y q => by
    have z := S.sl (i + 1) y (by simpa using q)
    simpa using z, fun i j a ⟨b, d, e1, e2⟩ ⟨b', d', e3, e4⟩ => by
    have z := S.one (i + 1) (j + 1) a ⟨b, d, by simpa using e1, by simpa using e2⟩ ⟨b', d', by simpa using e3, by simpa using e4⟩
    omega⟩
theorem Sim.cons {xs : Ls} {v : V} (S : Sim K ι F xs h τ H) (r : SlR K ι F H x v) (na : ∀ b d a, x = .m b d → v = .ref a → ¬ Ow xs τ a) : Sim K ι F (x :: xs) h (some v :: τ) H := by
  refine ⟨S.hs, by simp [S.len], fun i y q => ?_, fun i j a ⟨b, d, e1, e2⟩ ⟨b', d', e3, e4⟩ => ?_⟩
  · cases i with
    | zero =>
      simp at q
      subst q
      exact .inr ⟨v, rfl, r⟩
    | succ i => simpa using S.sl i y (by simpa using q)
  · cases i with
    | zero =>
      cases j with
      | zero => rfl
      | succ j =>
        simp at e1 e2 e3 e4
        exact absurd ⟨j, b', d', e3, e4⟩ (na b d a e1 e2)
    | succ i =>
      cases j with
      | zero =>
        simp at e1 e2 e3 e4
        exact absurd ⟨i, b, d, e1, e2⟩ (na b' d' a e3 e4)
      | succ j =>
        simp at e1 e2 e3 e4
        rw [S.one i j a ⟨b, d, e1, e2⟩ ⟨b', d', e3, e4⟩]
theorem ow_cons {xs : Ls} {v : Option V} {a : Addr} (z : Ow (x :: xs) (v :: τ) a) : (∃ b d, x = .m b d ∧ v = some (.ref a)) ∨ Ow xs τ a := by
  obtain ⟨i, b, d, e1, e2⟩ := z
  cases i with
  | zero =>
    simp at e1 e2
    exact .inl ⟨b, d, e1, e2⟩
  | succ i =>
    simp at e1 e2
    exact .inr ⟨i, b, d, e1, e2⟩
theorem ow_tail {xs : Ls} {v : Option V} {a : Addr} (z : Ow xs τ a) : Ow (x :: xs) (v :: τ) a := by
  obtain ⟨i, b, d, e1, e2⟩ := z
  exact ⟨i + 1, b, d, by simpa using e1, by simpa using e2⟩
theorem own_set {i j : Nat} {y : Sl} {a : Addr} (z : OwnAt (l.set i y) σ j a) : (j = i ∧ ∃ b d, y = .m b d ∧ σ[i]? = some (some (.ref a))) ∨ (j ≠ i ∧ OwnAt l σ j a) := by
  obtain ⟨b, d, e1, e2⟩ := z
  by_cases hj : i = j
  · subst hj
    by_cases hi : i < l.length
    · rw [List.getElem?_set_self hi] at e1
      exact .inl ⟨rfl, b, d, Option.some.inj e1, e2⟩
    · rw [List.getElem?_eq_none (by rw [List.length_set]; omega)] at e1
      cases e1
  · rw [List.getElem?_set_ne hj] at e1
    exact .inr ⟨fun z => hj z.symm, b, d, e1, e2⟩
/-- a slot gets another content -/
theorem Sim.setSl {i : Nat} {y : Sl} (S : Sim K ι F l h σ H) (r : y = .e ∨ ∃ v, σ[i]? = some (some v) ∧ SlR K ι F H y v) (na : ∀ b d a, y = .m b d → σ[i]? = some (some (.ref a)) → ∀ j, OwnAt l σ j a → j = i) : Sim K ι F (l.set i y) h σ H := by
  refine ⟨S.hs, by rw [List.length_set]; exact S.len, fun j x q => ?_, fun j j' a z z' => ?_⟩
  · by_cases hj : i = j
    · subst hj
      by_cases hi : i < l.length
      · rw [List.getElem?_set_self hi] at q
        cases q
        exact r
      · rw [List.getElem?_eq_none (by rw [List.length_set]; omega)] at q
        cases q
    · rw [List.getElem?_set_ne hj] at q
      exact S.sl j x q
  · rcases own_set z with ⟨e, b, d, ey, eq⟩ | ⟨n, z⟩
    · rcases own_set z' with ⟨e', _⟩ | ⟨n', z'⟩
      · rw [e, e']
      · exact absurd (na b d a ey eq j' z') n'
    · rcases own_set z' with ⟨e', b, d, ey, eq⟩ | ⟨n', z'⟩
      · exact absurd (na b d a ey eq j z) n
      · exact S.one j j' a z z'
end

/-! ### arguments -/
/-- data and numbered objects -/
def mkV (l : Ls) (h : Hs) : List W → Option (Ls × Ls × Hs)
  | [] => some ([], l, h)
  | .r n :: ws => (mkV l h ws).map fun p => (.r n :: p.1, p.2)
  | w :: ws => match fz l h w with
    | none => none
    | some (d, l, h) => (mkV l h ws).map fun p => (.v d :: p.1, p.2)
/-- .. and own objects, where io says so -/
def mkA (l : Ls) (h : Hs) : List Bool → List W → Option (Ls × Ls × Hs)
  | _, [] => some ([], l, h)
  | true :: io, .s i :: ws => match l[i]? with
    | some (.m _ d) => (mkA (l.set i .e) h io ws).map fun p => (.m true d :: p.1, p.2)
    | _ => none
  | false :: io, .r n :: ws => (mkA l h io ws).map fun p => (.r n :: p.1, p.2)
  | false :: io, w :: ws => match fz l h w with
    | none => none
    | some (d, l, h) => (mkA l h io ws).map fun p => (.v d :: p.1, p.2)
  | _, _ :: _ => none
/-- what was lent comes back -/
def putB (lo : Ls) : List Bool → List W → Ls → Ls → Ls
  | true :: io, .s i :: ws, .m _ d :: as, l => putB lo io ws as (l.set i (.m (match lo[i]? with
      | some (.m b _) => b
      | _ => false) d))
  | _ :: io, _ :: ws, _ :: as, l => putB lo io ws as l
  | _, _, _, l => l
/-- what a def hands back at its arguments -/
def outs : Ls → Ls → Ls
  | .m true _ :: as, x :: l => x :: outs as l
  | a :: as, _ :: l => a :: outs as l
  | as, _ => as
abbrev G := Ls → Hs → R Sl
/-- the result of a def -/
def relR (K : PySem.W.Frag) (H0 : Hp) (ι : List Addr) (F : Addr → Prop) (H : Hp) : Sl → V → Prop
  | .v d, v => Rp K F H d v
  | .r n, v => ∃ a, ι[n]? = some a ∧ v = .ref a
  | .m false d, v => ∃ a, v = .ref a ∧ ¬ F a ∧ a ∉ ι ∧ Own K F H a d ∧ H0 a = none
  | _, _ => False
/-- a def's promise -/
def spV (K : PySem.W.Frag) (n : Nat) (g : G) : Sp := fun vs H Q E => vs.length = n ∧ ∃ ι F as h, Sim K ι F as h (vs.map some) H ∧ (∀ d, Sl.m false d ∉ as) ∧ (match g as h with
  | .ok w as' h' => ∀ v ι' F' H', Aft ι F as (vs.map some) H ι' F' as' (vs.map some) H' → Sim K ι' F' as' h' (vs.map some) H' → (∀ a, Ow as' (vs.map some) a → Ow as (vs.map some) a) → relR K H ι' F' H' w v → Q v H'
  | .ex x as' h' => ∀ ι' F' H' dx, Aft ι F as (vs.map some) H ι' F' as' (vs.map some) H' → Sim K ι' F' as' h' (vs.map some) H' → (∀ a, Ow as' (vs.map some) a → Ow as (vs.map some) a) → XR K F' H' x dx → E (.ref (He.ga K x.c)) (some dx) H'
  | .no => False)
section
variable {K : PySem.W.Frag} {ι ι' : List Addr} {F F' : Addr → Prop} {l l' : Ls} {h h' : Hs} {σ σ' τ : L2.St} {H H' : Hp} {A : Addr → Prop} {a : Addr} {d : D} {v : V} {x : Sl}
theorem SlR.plain (e : Ext A ι F H ι' F' H') (nx : ∀ b d, x ≠ .m b d) (r : SlR K ι F H x v) : SlR K ι' F' H' x v := by
  cases x with
  | e => trivial
  | v d => exact Rp.kp e.kp r
  | r n =>
    obtain ⟨a, q, z⟩ := r
    exact ⟨a, e.pre_get q, z⟩
  | m b d => exact absurd rfl (nx b d)
theorem mkV_ok : ∀ {ws : List W} {vs : List V} {as : Ls} {F : Addr → Prop} {l l' : Ls} {h h' : Hs}, Sim K ι F l h σ H → relWs K σ ι F H ws vs → mkV l h ws = some (as, l', h') →
    ∃ F', Sim K ι F' l' h' σ H ∧ Aft ι F l σ H ι F' l' σ H ∧ Sim K ι F' as h' (vs.map some) H ∧ (∀ b d, Sl.m b d ∉ as)
  | [], _, as, F, l, l', h, h', S, .nil, e => by
    cases e
    exact ⟨F, S, Aft.refl, ⟨S.hs, rfl, fun i x q => by simp at q, fun i j a ⟨b, d, e, _⟩ => by simp at e⟩, fun b d z => by cases z⟩
  | w :: ws, v :: vs, as, F, l, l', h, h', S, .cons a r, e => by
    have core : ∀ {F1 : Addr → Prop} {l1 : Ls} {h1 : Hs} {x : Sl} {p : Ls × Ls × Hs}, Sim K ι F1 l1 h1 σ H → Aft ι F l σ H ι F1 l1 σ H → relWs K σ ι F1 H ws vs → SlR K ι F1 H x v → (∀ b d, x ≠ .m b d) → mkV l1 h1 ws = some p → (x :: p.1, p.2) = (as, l', h') →
        ∃ F', Sim K ι F' l' h' σ H ∧ Aft ι F l σ H ι F' l' σ H ∧ Sim K ι F' as h' ((v :: vs).map some) H ∧ (∀ b d, Sl.m b d ∉ as) := by
      intro F1 l1 h1 x p S1 A1 r1 rx nx e1 e2
      obtain ⟨as2, l2, h2⟩ := p
      cases e2
      obtain ⟨F2, S2, A2, S3, n3⟩ := mkV_ok S1 r1 e1
      refine ⟨F2, S2, A1.trans A2, ?_, fun b d z => ?_⟩
      · rw [List.map_cons]
        exact S3.cons (SlR.plain A2.ext nx rx) (fun b d a z => absurd z (nx b d))
      · rcases List.mem_cons.mp z with z | z
        · exact nx b d z.symm
        · exact n3 b d z
    have viaFz : (match fz l h w with
        | none => none
        | some (d, l, h) => (mkV l h ws).map fun p => (Sl.v d :: p.1, p.2)) = some (as, l', h') → ∃ F', Sim K ι F' l' h' σ H ∧ Aft ι F l σ H ι F' l' σ H ∧ Sim K ι F' as h' ((v :: vs).map some) H ∧ (∀ b d, Sl.m b d ∉ as) := fun e => by
      cases z : fz l h w with
      | none => rw [z] at e; cases e
      | some q =>
        obtain ⟨d, l1, h1⟩ := q
        rw [z] at e
        obtain ⟨p, e1, e2⟩ := Option.map_eq_some_iff.mp e
        obtain ⟨F1, S1, A1, rp⟩ := fz_ok S a z
        exact core (x := .v d) S1 A1 (relWs.ext A1.ext r) rp (fun _ _ z => by cases z) e1 e2
    cases w with
    | v d => exact viaFz e
    | s i => exact viaFz e
    | r n =>
      obtain ⟨p, e1, e2⟩ := Option.map_eq_some_iff.mp (show (mkV l h ws).map (fun p => (Sl.r n :: p.1, p.2)) = some (as, l', h') from e)
      exact core (x := .r n) S Aft.refl r a (fun _ _ z => by cases z) e1 e2
theorem mkA_ok : ∀ {io : List Bool} {ws : List W} {vs : List V} {as : Ls} {F : Addr → Prop} {l l' : Ls} {h h' : Hs}, Sim K ι F l h σ H → relWs K σ ι F H ws vs → mkA l h io ws = some (as, l', h') →
    ∃ F', Sim K ι F' l' h' σ H ∧ Ext (Ow l σ) ι F H ι F' H ∧ (∀ a, Ow l' σ a → Ow l σ a) ∧ Sim K ι F' as h' (vs.map some) H ∧ (∀ d, Sl.m false d ∉ as) ∧ (∀ a, Ow as (vs.map some) a → Ow l σ a ∧ ¬ Ow l' σ a)
  | io, [], _, as, F, l, l', h, h', S, .nil, e => by
    have e : some (([] : Ls), l, h) = some (as, l', h') := by cases io <;> exact e
    cases e
    exact ⟨F, S, Ext.refl, fun _ z => z, ⟨S.hs, rfl, fun i x q => by simp at q, fun i j a ⟨b, d, e, _⟩ => by simp at e⟩, fun d z => (by cases z), fun a ⟨i, b, d, e, _⟩ => (by simp at e)⟩
  | io, w :: ws, v :: vs, as, F, l, l', h, h', S, .cons a r, e => by
    have core : ∀ {io : List Bool} {F1 : Addr → Prop} {l1 : Ls} {h1 : Hs} {x : Sl} {p : Ls × Ls × Hs}, Sim K ι F1 l1 h1 σ H → Aft ι F l σ H ι F1 l1 σ H → relWs K σ ι F1 H ws vs → SlR K ι F1 H x v → (∀ b d, x ≠ .m b d) → mkA l1 h1 io ws = some p → (x :: p.1, p.2) = (as, l', h') →
        ∃ F', Sim K ι F' l' h' σ H ∧ Ext (Ow l σ) ι F H ι F' H ∧ (∀ a, Ow l' σ a → Ow l σ a) ∧ Sim K ι F' as h' ((v :: vs).map some) H ∧ (∀ d, Sl.m false d ∉ as) ∧ (∀ a, Ow as ((v :: vs).map some) a → Ow l σ a ∧ ¬ Ow l' σ a) := by
      intro io F1 l1 h1 x p S1 A1 r1 rx nx e1 e2
      obtain ⟨as2, l2, h2⟩ := p
      cases e2
      obtain ⟨F2, S2, A2, o2, S3, n3, d3⟩ := mkA_ok S1 r1 e1
      have back : ∀ a, Ow l1 σ a → Ow l σ a := fun a z => (A1.ow a z).elim id fun y => by
        obtain ⟨i, b, d, q1, q2⟩ := z
        obtain ⟨v', ev, a', rfl, _, _, o⟩ := S1.slot q1 (by intro y; cases y)
        rw [q2] at ev
        cases ev
        obtain ⟨u, hu⟩ := o.there
        rw [hu] at y; cases y
      refine ⟨F2, S2, A1.ext.trans A2 A1.ow, fun a z => back a (o2 a z), ?_, fun d z => ?_, fun a z => ?_⟩
      · rw [List.map_cons]
        exact S3.cons (SlR.plain A2 nx rx) (fun b d a z => absurd z (nx b d))
      · rcases List.mem_cons.mp z with z | z
        · exact nx false d z.symm
        · exact n3 d z
      · rw [List.map_cons] at z
        rcases ow_cons z with ⟨b, d, z, _⟩ | z
        · exact absurd z (nx b d)
        · exact ⟨back a (d3 a z).1, (d3 a z).2⟩
    have viaFz : ∀ {io : List Bool}, (match fz l h w with
        | none => none
        | some (d, l, h) => (mkA l h io ws).map fun p => (Sl.v d :: p.1, p.2)) = some (as, l', h') → ∃ F', Sim K ι F' l' h' σ H ∧ Ext (Ow l σ) ι F H ι F' H ∧ (∀ a, Ow l' σ a → Ow l σ a) ∧ Sim K ι F' as h' ((v :: vs).map some) H ∧ (∀ d, Sl.m false d ∉ as) ∧ (∀ a, Ow as ((v :: vs).map some) a → Ow l σ a ∧ ¬ Ow l' σ a) := fun {io} e => by
      cases z : fz l h w with
      | none => rw [z] at e; cases e
      | some q =>
        obtain ⟨d, l1, h1⟩ := q
        rw [z] at e
        obtain ⟨p, e1, e2⟩ := Option.map_eq_some_iff.mp e
        obtain ⟨F1, S1, A1, rp⟩ := fz_ok S a z
        exact core (x := .v d) S1 A1 (relWs.ext A1.ext r) rp (fun _ _ z => by cases z) e1 e2
    cases io with
    | nil => cases w <;> cases e
    | cons b io =>
      cases b with
      | false =>
        cases w with
        | v d => exact viaFz e
        | s i => exact viaFz e
        | r n =>
          obtain ⟨p, e1, e2⟩ := Option.map_eq_some_iff.mp (show (mkA l h io ws).map (fun p => (Sl.r n :: p.1, p.2)) = some (as, l', h') from e)
          exact core (x := .r n) S Aft.refl r a (fun _ _ z => by cases z) e1 e2
      | true =>
        cases w with
        | v d => cases e
        | r n => cases e
        | s i =>
          obtain ⟨a, rfl, q⟩ := a
          unfold mkA at e
          cases z : l[i]? with
          | none => simp only [z] at e; cases e
          | some x =>
            simp only [z] at e
            cases x with
            | m b d =>
              obtain ⟨p, e1, e2⟩ := Option.map_eq_some_iff.mp e
              obtain ⟨as2, l2, h2⟩ := p
              cases e2
              have own : OwnAt l σ i a := ⟨b, d, z, q⟩
              obtain ⟨v', ev, a', rfl, n1, n2, o⟩ := S.slot z (by intro y; cases y)
              rw [q] at ev
              cases ev
              have S1 : Sim K ι F (l.set i .e) h σ H := S.setSl (.inl rfl) (fun b d a y => by cases y)
              have sub : ∀ a2, Ow (l.set i .e) σ a2 → Ow l σ a2 ∧ a2 ≠ a := fun a2 ⟨j, y⟩ => by
                rcases own_set y with ⟨_, b, d, y, _⟩ | ⟨nj, y⟩
                · cases y
                · exact ⟨⟨j, y⟩, fun e => nj (S.one j i a (e ▸ y) own)⟩
              obtain ⟨F2, S2, A2, o2, S3, n3, d3⟩ := mkA_ok S1 r e1
              have na2 : ¬ Ow as2 (vs.map some) a := fun y => (sub a (d3 a y).1).2 rfl
              have nl2 : ¬ Ow l' σ a := fun y => (sub a (o2 a y)).2 rfl
              refine ⟨F2, S2, A2.weak fun x y => (sub x y).1, fun a y => (sub a (o2 a y)).1, ?_, fun d y => ?_, fun a2 y => ?_⟩
              · rw [List.map_cons]
                refine S3.cons (SlR.over (x := .m true d) A2 (fun b d a2 _ y => ?_) ⟨a, rfl, n1, n2, o⟩) (fun b d a2 _ y => ?_)
                · cases y
                  exact fun y => (sub a y).2 rfl
                · cases y
                  exact na2
              · rcases List.mem_cons.mp y with y | y
                · cases y
                · exact n3 d y
              · rw [List.map_cons] at y
                rcases ow_cons y with ⟨b, d, _, y⟩ | y
                · cases y
                  exact ⟨⟨i, own⟩, nl2⟩
                · exact ⟨(sub a2 (d3 a2 y).1).1, (d3 a2 y).2⟩
            | _ => cases e
theorem putB_ok (lo : Ls) : ∀ {io : List Bool} {ws : List W} {vs : List V} {as l : Ls} {F0 : Addr → Prop} {ι0 : List Addr} {H0 : Hp}, Sim K ι F l h σ H → Sim K ι F as h (vs.map some) H → (∀ a, Ow as (vs.map some) a → ¬ Ow l σ a) → relWs K σ ι0 F0 H0 ws vs →
    Sim K ι F (putB lo io ws as l) h σ H ∧ ∀ a, Ow (putB lo io ws as l) σ a → Ow l σ a ∨ Ow as (vs.map some) a
  | [], ws, vs, as, l, F0, ι0, H0, S, S2, nd, r => by
    have e : putB lo [] ws as l = l := by cases ws <;> cases as <;> rfl
    rw [e]
    exact ⟨S, fun a z => .inl z⟩
  | io :: ios, [], vs, as, l, F0, ι0, H0, S, S2, nd, r => by
    have e : putB lo (io :: ios) [] as l = l := by cases io <;> cases as <;> rfl
    rw [e]
    exact ⟨S, fun a z => .inl z⟩
  | io :: ios, w :: ws, v :: vs, [], l, F0, ι0, H0, S, S2, nd, r => by
    have e : putB lo (io :: ios) (w :: ws) [] l = l := by cases io <;> cases w <;> rfl
    rw [e]
    exact ⟨S, fun a z => .inl z⟩
  | io :: ios, w :: ws, v :: vs, x :: as, l, F0, ι0, H0, S, S2, nd, .cons rw_ r => by
    rw [List.map_cons] at S2 nd
    have skip : putB lo (io :: ios) (w :: ws) (x :: as) l = putB lo ios ws as l → Sim K ι F (putB lo (io :: ios) (w :: ws) (x :: as) l) h σ H ∧ ∀ a, Ow (putB lo (io :: ios) (w :: ws) (x :: as) l) σ a → Ow l σ a ∨ Ow (x :: as) ((v :: vs).map some) a := fun e => by
      rw [e]
      obtain ⟨S3, o3⟩ := putB_ok lo (io := ios) (ws := ws) (vs := vs) (as := as) (l := l) S S2.tail (fun a z => nd a (ow_tail z)) r
      exact ⟨S3, fun a z => (o3 a z).imp id fun y => by rw [List.map_cons]; exact ow_tail y⟩
    cases io with
    | false => exact skip (by cases w <;> rfl)
    | true =>
      cases w with
      | v d => exact skip rfl
      | r n => exact skip rfl
      | s i =>
        cases x with
        | e => exact skip rfl
        | v d => exact skip rfl
        | r n => exact skip rfl
        | m b d =>
          obtain ⟨a, rfl, q⟩ := rw_
          obtain ⟨v', ev, a', rfl, n1, n2, o⟩ := S2.slot (i := 0) (x := .m b d) rfl (by intro y; cases y)
          cases (show some (some (V.ref a)) = some (some (V.ref a')) from ev)
          have own : OwnAt (Sl.m b d :: as) (some (V.ref a) :: vs.map some) 0 a := ⟨b, d, rfl, rfl⟩
          have nl : ¬ Ow l σ a := nd a ⟨0, own⟩
          obtain ⟨bb, hb⟩ : ∃ bb : Bool, bb = (match lo[i]? with
            | some (.m b _) => b
            | _ => false) := ⟨_, rfl⟩
          have e : putB lo (true :: ios) (.s i :: ws) (.m b d :: as) l = putB lo ios ws as (l.set i (.m bb d)) := by rw [hb]; rfl
          rw [e]
          have S1 : Sim K ι F (l.set i (.m bb d)) h σ H := S.setSl (.inr ⟨.ref a, q, a, rfl, n1, n2, o⟩) (fun b d a2 _ y j z => by
            rw [q] at y
            cases y
            exact absurd ⟨j, z⟩ nl)
          have sub : ∀ a2, Ow (l.set i (.m bb d)) σ a2 → Ow l σ a2 ∨ a2 = a := fun a2 ⟨j, y⟩ => by
            rcases own_set y with ⟨_, b, d, _, y⟩ | ⟨_, y⟩
            · rw [q] at y
              cases y
              exact .inr rfl
            · exact .inl ⟨j, y⟩
          obtain ⟨S3, o3⟩ := putB_ok lo (io := ios) (ws := ws) (vs := vs) (as := as) (l := l.set i (.m bb d)) S1 S2.tail (fun a2 z y => by
            rcases sub a2 y with y | rfl
            · exact nd a2 (ow_tail z) y
            · obtain ⟨j, b', d', z1, z2⟩ := z
              have := S2.one 0 (j + 1) a2 own ⟨b', d', by simpa using z1, by simpa using z2⟩
              omega) r
          refine ⟨S3, fun a2 z => ?_⟩
          rw [List.map_cons]
          rcases o3 a2 z with y | y
          · rcases sub a2 y with y | rfl
            · exact .inl y
            · exact .inr ⟨0, own⟩
          · exact .inr (ow_tail y)
end

/-! ### calls -/
def resW : Sl → Option W
  | .v d => some (.v d)
  | .r n => some (.r n)
  | .m false d => some (.v d)
  | _ => none
/-- f(..): no argument is changed in its slot -/
def fCall (g : G) (fa : FA) : FE := fun l h => (fa l h).bind fun ws l h => match mkV l h ws with
  | none => .no
  | some (as, l, h) => match g as h with
    | .ok w _ h => (match resW w with
      | some w => .ok w l h
      | none => .no)
    | .ex x _ h => .ex x l h
    | .no => .no
def poB : Ls → Ls → Bool
  | .m true _ :: l, .m true _ :: l' => poB l l'
  | .m true _ :: _, _ => false
  | _ :: l, _ :: l' => poB l l'
  | _, _ => true
/-- .. io: which ones are lent -/
def fCallM (io : List Bool) (g : G) (fa : FA) : FE := fun l h => (fa l h).bind fun ws l0 h => match mkA l0 h io ws with
  | none => .no
  | some (as, l1, h) => match g as h with
    | .ok w as' h => (match resW w with
      | some w => (match poB l0 (putB l0 io ws as' l1) with
        | true => .ok w (putB l0 io ws as' l1) h
        | false => .no)
      | none => .no)
    | .ex x as' h => (match poB l0 (putB l0 io ws as' l1) with
        | true => .ex x (putB l0 io ws as' l1) h
        | false => .no)
    | .no => .no
theorem poB_ok : ∀ {l l' : Ls}, poB l l' = true → l.length = l'.length → ∀ (i : Nat) (d : D), l[i]? = some (.m true d) → ∃ d', l'[i]? = some (.m true d')
  | [], _, _, _, i, d, e => by simp at e
  | _ :: _, [], _, hl, i, d, e => by cases hl
  | x :: l, y :: l', h, hl, i, d, e => by
    have hl2 : l.length = l'.length := by simpa using hl
    cases i with
    | zero =>
      simp at e
      subst e
      cases y with
      | m b d' =>
        cases b with
        | true => exact ⟨d', rfl⟩
        | false => cases h
      | _ => cases h
    | succ i =>
      have h2 : poB l l' = true := by
        cases x with
        | m b dx =>
          cases b with
          | true =>
            cases y with
            | m b' d' =>
              cases b' with
              | true => exact h
              | false => cases h
            | _ => cases h
          | false => exact h
        | _ => exact h
      simpa using poB_ok h2 hl2 i d (by simpa using e)
section
variable {K : PySem.W.Frag} {ι ι' : List Addr} {F F' : Addr → Prop} {l l' : Ls} {h h' : Hs} {σ σ' τ : L2.St} {H H' : Hp}
theorem res_ok {l0 : Ls} {x : Sl} {w : W} {v : V} (S : Sim K ι' F' l h σ H') (A : Aft ι F l0 σ H ι' F' l σ H') (e : resW x = some w) (r : relR K H ι' F' H' x v) (hl : ∀ a, Ow l σ a → ∃ o, H a = some o) :
    ∃ F2, Sim K ι' F2 l h σ H' ∧ Aft ι F l0 σ H ι' F2 l σ H' ∧ relW K σ ι' F2 H' w v := by
  cases x with
  | e => cases e
  | v d => cases e; exact ⟨F', S, A, r⟩
  | r n => cases e; exact ⟨F', S, A, r⟩
  | m b d =>
    cases b with
    | true => cases e
    | false =>
      cases e
      obtain ⟨a, rfl, n1, n2, o, h0⟩ := r
      have kp : Kp F' (fun b => F' b ∨ b = a) H' H' := ⟨fun _ f => .inl f, fun _ _ _ z => z⟩
      have ext : Ext (fun b => b = a) ι' F' H' ι' (fun b => F' b ∨ b = a) H' := ⟨List.prefix_refl _, fun _ f => .inl f, fun _ _ z _ => z, fun _ x y => absurd x y, fun b f => f.elim .inl fun z => .inr (.inr (.inl z)), fun _ o z => ⟨o, z⟩⟩
      refine ⟨fun b => F' b ∨ b = a, S.over ext (S.hs.grow ext (fun _ _ _ z => z) (fun b m n f => f.elim n fun z => n2 (z ▸ m)) fun b f => f.elim (S.hs.fk b) fun z => z ▸ o.there) (fun b z y => ?_), ⟨⟨A.ext.pre, fun b f => .inl (A.ext.mono b f), A.ext.keep, A.ext.new, fun b f => f.elim (A.ext.newF b) fun z => .inr (.inr (.inr (z ▸ h0))), A.ext.there⟩, A.ow, A.po⟩, Own.frz kp (fun _ z => z) (.inr rfl) o⟩
      obtain ⟨u, hu⟩ := hl b z
      rw [y, h0] at hu; cases hu
theorem Sim.owns (S : Sim K ι F l h σ H) {a : Addr} (z : Ow l σ a) : ∃ o, H a = some o := by
  obtain ⟨i, b, d, q1, q2⟩ := z
  obtain ⟨v', ev, a', rfl, _, _, o⟩ := S.slot q1 (by intro y; cases y)
  rw [q2] at ev
  cases ev
  exact o.there
end
def Ar (n : Nat) (g : G) : Prop := ∀ as h, as.length ≠ n → g as h = .no
section
variable {X : Cx} {Wx : WX} {k n : Nat} {f : Addr} {fd : FuncData} {ps : List Str} {g : G} {fa : FA} {K : PySem.W.Frag} {ι : List Addr} {F : Addr → Prop} {l : Ls} {h : Hs} {σ : L2.St} {H : Hp}
theorem Ar.len {as : Ls} (ar : Ar n g) (e : g as h ≠ .no) : as.length = n := by
  by_cases c : as.length = n
  · exact c
  · exact absurd (ar as h c) e
/-- behind the arguments: the callee's promise, from the caller's wish -/
theorem call_sp (ar : Ar n g) {ws : List W} {vs : List V} {Q : VK} (S : Sim K ι F l h σ H) (r : relWs K σ ι F H ws vs)
    (q : Sat K Wx (relW K σ) ι F l σ H (match mkV l h ws with
      | none => .no
      | some (as, l, h) => match g as h with
        | .ok w _ h => (match resW w with
          | some w => .ok w l h
          | none => .no)
        | .ex x _ h => .ex x l h
        | .no => .no) Q) : spV K n g vs H Q (WE Wx σ) := by
  cases e : mkV l h ws with
  | none => rw [e] at q; exact False.elim q
  | some p =>
    obtain ⟨as, l1, h1⟩ := p
    rw [e] at q
    obtain ⟨F1, S1, A1, S2, nm⟩ := mkV_ok S r e
    have noOw : ∀ a, ¬ Ow as (vs.map some) a := fun a ⟨i, b, d, z, _⟩ => nm b d (List.mem_of_getElem? z)
    have after : ∀ {ι' F' as' h2 H'}, Aft ι F1 as (vs.map some) H ι' F' as' (vs.map some) H' → Sim K ι' F' as' h2 (vs.map some) H' → Sim K ι' F' l1 h2 σ H' ∧ Aft ι F l σ H ι' F' l1 σ H' := fun A S3 =>
      ⟨S1.over A.ext S3.hs fun a _ => noOw a, A1.trans ⟨A.ext.weak fun a z => absurd z (noOw a), fun _ z => .inl z, fun _ d z => ⟨d, z, rfl⟩⟩⟩
    have ng : g as h1 ≠ .no := fun z => by
      simp only [z] at q
      exact q
    have hl : vs.length = n := by
      have := S2.len
      rw [List.length_map] at this
      rw [← this]
      exact ar.len ng
    refine ⟨hl, ι, F1, as, h1, S2, fun d => nm false d, ?_⟩
    cases eg : g as h1 with
    | no => exact absurd eg ng
    | ex x as' h2 =>
      simp only [eg] at q
      exact fun ι' F' H' dx A S3 _ xr => q ι' F' H' dx (after A S3).2 (after A S3).1 xr
    | ok w as' h2 =>
      simp only [eg] at q
      cases er : resW w with
      | none => simp only [er] at q; exact False.elim q
      | some w' =>
        simp only [er] at q
        intro v ι' F' H' A S3 ao rr
        obtain ⟨S4, A4⟩ := after A S3
        obtain ⟨F2, S5, A5, r5⟩ := res_ok S4 A4 er rr (fun a z => S1.owns z)
        exact q v ι' F2 H' A5 S5 r5
theorem call_spM (ar : Ar n g) {io : List Bool} {ws : List W} {vs : List V} {Q : VK} (S : Sim K ι F l h σ H) (r : relWs K σ ι F H ws vs)
    (q : Sat K Wx (relW K σ) ι F l σ H (match mkA l h io ws with
      | none => .no
      | some (as, l1, h) => match g as h with
        | .ok w as' h => (match resW w with
          | some w => (match poB l (putB l io ws as' l1) with
            | true => .ok w (putB l io ws as' l1) h
            | false => .no)
          | none => .no)
        | .ex x as' h => (match poB l (putB l io ws as' l1) with
            | true => .ex x (putB l io ws as' l1) h
            | false => .no)
        | .no => .no) Q) : spV K n g vs H Q (WE Wx σ) := by
  cases e : mkA l h io ws with
  | none => rw [e] at q; exact False.elim q
  | some p =>
    obtain ⟨as, l1, h1⟩ := p
    rw [e] at q
    obtain ⟨F1, S1, E1, o1, S2, nm, dj⟩ := mkA_ok S r e
    have after : ∀ {ι' F' as' h2 H'}, Aft ι F1 as (vs.map some) H ι' F' as' (vs.map some) H' → Sim K ι' F' as' h2 (vs.map some) H' → poB l (putB l io ws as' l1) = true →
        Sim K ι' F' (putB l io ws as' l1) h2 σ H' ∧ Aft ι F l σ H ι' F' (putB l io ws as' l1) σ H' := fun {ι' F' as' h2 H'} A S3 hp => by
      have S4 : Sim K ι' F' l1 h2 σ H' := S1.over A.ext S3.hs fun a z y => (dj a y).2 z
      have nd : ∀ a, Ow as' (vs.map some) a → ¬ Ow l1 σ a := fun a z y => by
        rcases A.ow a z with x | x
        · exact (dj a x).2 y
        · obtain ⟨u, hu⟩ := S1.owns y
          rw [hu] at x; cases x
      obtain ⟨S5, o5⟩ := putB_ok l (io := io) (ws := ws) (vs := vs) S4 S3 nd r
      refine ⟨S5, ⟨E1.trans (A.ext.weak fun a z => z) fun a z => .inl (dj a z).1, fun a z => ?_, fun i d z => ?_⟩⟩
      · rcases o5 a z with y | y
        · exact .inl (o1 a y)
        · rcases A.ow a y with x | x
          · exact .inl (dj a x).1
          · exact .inr x
      · obtain ⟨d', z'⟩ := poB_ok hp (by rw [S.len, S5.len]) i d z
        exact ⟨d', z', rfl⟩
    have ng : g as h1 ≠ .no := fun z => by
      simp only [z] at q
      exact q
    have hl : vs.length = n := by
      have := S2.len
      rw [List.length_map] at this
      rw [← this]
      exact ar.len ng
    refine ⟨hl, ι, F1, as, h1, S2, nm, ?_⟩
    cases eg : g as h1 with
    | no => exact absurd eg ng
    | ex x as' h2 =>
      simp only [eg] at q
      cases ep : poB l (putB l io ws as' l1) with
      | false => rw [ep] at q; exact False.elim q
      | true =>
        rw [ep] at q
        exact fun ι' F' H' dx A S3 _ xr => q ι' F' H' dx (after A S3 ep).2 (after A S3 ep).1 xr
    | ok w as' h2 =>
      simp only [eg] at q
      cases er : resW w with
      | none => simp only [er] at q; exact False.elim q
      | some w' =>
        simp only [er] at q
        cases ep : poB l (putB l io ws as' l1) with
        | false => rw [ep] at q; exact False.elim q
        | true =>
          rw [ep] at q
          intro v ι' F' H' A S3 ao rr
          obtain ⟨S4, A4⟩ := after A S3 ep
          obtain ⟨F2, S5, A5, r5⟩ := res_ok S4 A4 er rr (fun a z => by
            have y := putB_ok l (io := io) (ws := ws) (vs := vs) (S1.over A.ext S3.hs fun a z y => (dj a y).2 z) S3 (fun a z y => by
              rcases A.ow a z with x | x
              · exact (dj a x).2 y
              · obtain ⟨u, hu⟩ := S1.owns y
                rw [hu] at x; cases x) r
            rcases y.2 a z with y | y
            · exact S1.owns y
            · exact S2.owns (ao a y))
          exact q v ι' F2 H' A5 S5 r5
theorem call_t (ar : Ar n g) {Q : VK} (q : tE X.K Wx (fCall g fa) σ H Q) : tCallSD (spV X.K n g) [] (WE Wx) (tA X.K Wx fa) σ H Q := by
  obtain ⟨ι, F, l, h, S, q⟩ := q
  refine ⟨ι, F, l, h, S, Sat.cut q fun ws l1 h1 vs ι1 F1 H1 a1 S1 r1 q1 => ?_⟩
  rw [List.append_nil]
  exact call_sp ar S1 r1 q1
theorem call_tM (ar : Ar n g) {io : List Bool} {Q : VK} (q : tE X.K Wx (fCallM io g fa) σ H Q) : tCallSD (spV X.K n g) [] (WE Wx) (tA X.K Wx fa) σ H Q := by
  obtain ⟨ι, F, l, h, S, q⟩ := q
  refine ⟨ι, F, l, h, S, Sat.cut q fun ws l1 h1 vs ι1 F1 H1 a1 S1 r1 q1 => ?_⟩
  rw [List.append_nil]
  exact call_spM ar S1 r1 q1
variable {x : Str} {p pos : Pos} {e : Expr} {es : List Expr}
/-- a def of the module, called -/
structure Def (X : Cx) (x : Str) (k n : Nat) (g : G) : Prop where
  ar : Ar n g
  ok : ∃ f fd ps, FnOk X.prog X.w X.K X.mg X.base (L2.CX X.prog X.w) k f fd ps (spV X.K n g) ∧ X.mg x = some (.ref f) ∧ PySem.W.keepIn X.K (.ref f) = true ∧ Binds X.K fd ps []
theorem ve_call (F : Def X x k n g) (hr : Room k X.A) (tk : Takes X Wx) (hg : Gl X x) (ha : VA X Wx (e :: es) fa) (hdb : (x == ("__debug__" : Str)) = false := by decide)
    (he : starEach (e :: es) X.env = (false, eval e X.env) :: starEach es X.env := by rfl) (hpl : (backTo pos (starEach es X.env)).any (·.1) = false := by rfl) : VE X Wx (.Call (.Name x p) (e :: es) [] pos) (fCall g fa) := by
  obtain ⟨f, fd, ps, ok, hm, hk, hb⟩ := F.ok
  exact PE.imp (pe_callSD ok hr hg hm hk hb .nil (fun σ => passAt tk σ) ha hdb he hpl) fun σ H Q q => call_t F.ar q
theorem ve_callM {io : List Bool} (F : Def X x k n g) (hr : Room k X.A) (tk : Takes X Wx) (hg : Gl X x) (ha : VA X Wx (e :: es) fa) (hdb : (x == ("__debug__" : Str)) = false := by decide)
    (he : starEach (e :: es) X.env = (false, eval e X.env) :: starEach es X.env := by rfl) (hpl : (backTo pos (starEach es X.env)).any (·.1) = false := by rfl) : VE X Wx (.Call (.Name x p) (e :: es) [] pos) (fCallM io g fa) := by
  obtain ⟨f, fd, ps, ok, hm, hk, hb⟩ := F.ok
  exact PE.imp (pe_callSD ok hr hg hm hk hb .nil (fun σ => passAt tk σ) ha hdb he hpl) fun σ H Q q => call_tM F.ar q
end
/-! ### argument lists -/
def fNil : FA := fun l h => .ok [] l h
def fCons (f : FE) (fr : FA) : FA := fun l h => (f l h).bind fun w l h => (fr l h).bind fun ws l h => .ok (w :: ws) l h
section
variable {X : Cx} {Wx : WX} {e : Expr} {es : List Expr} {f : FE} {fa : FA}
theorem va_nil : VA X Wx [] fNil := PA.imp pa_nil fun σ H Q ⟨ι, F, l, h, S, q⟩ => Sat.here S q .nil
theorem va_cons (ha : VE X Wx e f) (hr : VA X Wx es fa) (hs : starEach (e :: es) X.env = (false, eval e X.env) :: starEach es X.env := by rfl) : VA X Wx (e :: es) (fCons f fa) :=
  PA.imp (pa_cons ha hr hs) fun σ H Q ⟨ι, F, l, h, S, q⟩ => ⟨ι, F, l, h, S, Sat.cut q fun w l1 h1 v ι1 F1 H1 a1 S1 r1 q1 =>
    ⟨ι1, F1, l1, h1, S1, Sat.cut q1 fun ws l2 h2 vs ι2 F2 H2 a2 S2 r2 q2 => Sat.here S2 q2 (.cons (relW.ext a2.ext r1) r2)⟩⟩
end
end VL
set_option maxRecDepth 100000
set_option maxHeartbeats 2000000
namespace VL
open PySem PySem.Spec PyProof.Rows L2

/-! ### slots stored -/
section
variable {K : PySem.W.Frag} {ι ι' : List Addr} {F F' : Addr → Prop} {l l' : Ls} {h h' : Hs} {σ σ' τ : L2.St} {H H' : Hp} {A : Addr → Prop} {a : Addr} {d : D} {v : V} {y : Sl} {i : Nat}
theorem own_set2 {i j : Nat} {y : Sl} {v : V} {a : Addr} (hi : i < σ.length) (hl : l.length = σ.length) (z : OwnAt (l.set i y) (σ.set i (some v)) j a) : (j = i ∧ (∃ b d, y = .m b d) ∧ v = .ref a) ∨ (j ≠ i ∧ OwnAt l σ j a) := by
  obtain ⟨b, d, e1, e2⟩ := z
  by_cases hj : i = j
  · subst hj
    rw [List.getElem?_set_self (by rw [hl]; exact hi)] at e1
    rw [List.getElem?_set_self hi] at e2
    exact .inl ⟨rfl, ⟨b, d, Option.some.inj e1⟩, by injection e2 with e2; injection e2⟩
  · rw [List.getElem?_set_ne hj] at e1 e2
    exact .inr ⟨fun z => hj z.symm, b, d, e1, e2⟩
theorem Sim.set (S : Sim K ι F l h σ H) (hi : i < σ.length) (r : SlR K ι F H y v) (na : ∀ b d a, y = .m b d → v = .ref a → ∀ j, OwnAt l σ j a → j = i) : Sim K ι F (l.set i y) h (σ.set i (some v)) H := by
  refine ⟨S.hs, by rw [List.length_set, List.length_set]; exact S.len, fun j x q => ?_, fun j j' a z z' => ?_⟩
  · by_cases hj : i = j
    · subst hj
      rw [List.getElem?_set_self (by rw [S.len]; exact hi)] at q
      cases q
      exact .inr ⟨v, List.getElem?_set_self hi, r⟩
    · rw [List.getElem?_set_ne hj] at q
      rw [List.getElem?_set_ne hj]
      exact S.sl j x q
  · rcases own_set2 hi S.len z with ⟨e, ⟨b, d, ey⟩, ev⟩ | ⟨n, z⟩
    · rcases own_set2 hi S.len z' with ⟨e', _⟩ | ⟨n', z'⟩
      · rw [e, e']
      · exact absurd (na b d a ey ev j' z') n'
    · rcases own_set2 hi S.len z' with ⟨e', ⟨b, d, ey⟩, ev⟩ | ⟨n', z'⟩
      · exact absurd (na b d a ey ev j z) n
      · exact S.one j j' a z z'
theorem Aft.set (S : Sim K ι F l h σ H) (hi : i < σ.length) (ny : ∀ b d, y ≠ .m b d) (np : ∀ d, l[i]? ≠ some (.m true d)) : Aft ι F l σ H ι F (l.set i y) (σ.set i (some v)) H :=
  ⟨Ext.refl, fun a ⟨j, z⟩ => by
    rcases own_set2 hi S.len z with ⟨_, ⟨b, d, e⟩, _⟩ | ⟨_, z⟩
    · exact absurd e (ny b d)
    · exact .inl ⟨j, z⟩, fun j d q => by
    have hj : i ≠ j := fun z => np d (z ▸ q)
    exact ⟨d, by rw [List.getElem?_set_ne hj]; exact q, by rw [List.getElem?_set_ne hj]⟩⟩
end
/-- a slot's new content -/
def stW (l : Ls) (h : Hs) : W → Option (Sl × Ls × Hs)
  | .r n => some (.r n, l, h)
  | w => (fz l h w).map fun p => (.v p.1, p.2)
theorem stW_ok {K : PySem.W.Frag} {ι : List Addr} {F : Addr → Prop} {l l' : Ls} {h h' : Hs} {σ : L2.St} {H : Hp} {w : W} {v : V} {y : Sl} (S : Sim K ι F l h σ H) (r : relW K σ ι F H w v) (e : stW l h w = some (y, l', h')) :
    ∃ F', Sim K ι F' l' h' σ H ∧ Aft ι F l σ H ι F' l' σ H ∧ SlR K ι F' H y v ∧ (∀ b d, y ≠ .m b d) := by
  have viaFz : ∀ {w : W}, relW K σ ι F H w v → (fz l h w).map (fun p => (Sl.v p.1, p.2)) = some (y, l', h') → ∃ F', Sim K ι F' l' h' σ H ∧ Aft ι F l σ H ι F' l' σ H ∧ SlR K ι F' H y v ∧ (∀ b d, y ≠ .m b d) := fun r e => by
    obtain ⟨⟨d, l1, h1⟩, e1, e2⟩ := Option.map_eq_some_iff.mp e
    cases e2
    obtain ⟨F1, S1, A1, rp⟩ := fz_ok S r e1
    exact ⟨F1, S1, A1, rp, fun _ _ z => by cases z⟩
  cases w with
  | v d => exact viaFz r e
  | s i => exact viaFz r e
  | r n =>
    cases (show some (Sl.r n, l, h) = some (y, l', h') from e)
    exact ⟨F, S, Aft.refl, r, fun _ _ z => by cases z⟩
def notP (l : Ls) (i : Nat) : Bool := match l[i]? with
  | some (.m true _) => false
  | some _ => true
  | none => false
theorem notP_ok {l : Ls} {i : Nat} (h : notP l i = true) : (∀ d, l[i]? ≠ some (.m true d)) ∧ i < l.length := by
  unfold notP at h
  cases e : l[i]? with
  | none => rw [e] at h; cases h
  | some x =>
    rw [e] at h
    refine ⟨fun d z => ?_, (List.getElem?_eq_some_iff.mp e).1⟩
    cases z
    cases h

/-! ### statements -/
def sNx : FS := fun l h => .ok .nx l h
def sSeq (f g : FS) : FS := fun l h => (f l h).bind fun fl l h => match fl with
  | .nx => g l h
  | fl => .ok fl l h
/-- store a value in slot i -/
def setW (i : Nat) (w : W) : FS := fun l h => match stW l h w with
  | none => .no
  | some (y, l, h) => match notP l i with
    | true => .ok .nx (l.set i y) h
    | false => .no
def sAsg (i : Nat) (f : FE) : FS := fun l h => (f l h).bind fun w l h => setW i w l h
def sDrop (f : FE) : FS := fun l h => (f l h).bind fun _ l h => .ok .nx l h
/-- return, the value frozen | as it is -/
def sRet (f : FE) : FS := fun l h => (f l h).bind fun w l h => match fz l h w with
  | some (d, l, h) => .ok (.rt (.v d)) l h
  | none => .no
def sRetR (f : FE) : FS := fun l h => (f l h).bind fun w l h => .ok (.rt w) l h
/-- return, an object of our own -/
def sRetL (f : Ls → Hs → R D) : FS := fun l h => (f l h).bind fun d l h => .ok (.ro d) l h
def sRetN : FS := fun l h => .ok (.rt (.v .non)) l h
def sIf (c : FT) (f g : FS) : FS := fun l h => (c l h).bind fun b l h => if b = true then f l h else g l h
def sNo : FS := fun _ _ => .no
section
variable {X : Cx} {Wx : WX} {st : Stmt} {sts : List Stmt} {e c : Expr} {f g : FS} {fe : FE} {fc : FT} {pos : Pos}
theorem vss_nil : VSs X Wx [] sNx := PSs.imp pss_nil fun D σ H ⟨ι, F, l, h, S, q⟩ => q σ ι F H Aft.refl S
theorem vss_one (h : VS X Wx st f) : VSs X Wx [st] f := pss_one h
theorem vss_cons (h1 : VS X Wx st f) (h2 : VSs X Wx sts g) : VSs X Wx (st :: sts) (sSeq f g) := PSs.imp (pss_cons h1 h2) fun D σ H ⟨ι, F, l, h, S, q⟩ => by
  refine ⟨ι, F, l, h, S, ?_⟩
  unfold sSeq at q
  cases e : f l h with
  | no => rw [e] at q; exact q
  | ex x l1 h1 => rw [e] at q; exact q
  | ok fl l1 h1 =>
    rw [e] at q
    cases fl with
    | nx => exact fun σ' ι' F' H' A S' => ⟨ι', F', l1, h1, S', SatS.later A q⟩
    | rt w => exact q
    | ro d => exact q
    | bk => exact q
    | ct => exact q
theorem vs_pass : VS X Wx (.Pass pos) sNx := PS.imp ps_pass fun D σ H ⟨ι, F, l, h, S, q⟩ => q σ ι F H Aft.refl S
theorem vs_break : VS X Wx (.Break pos) (fun l h => .ok .bk l h) := PS.imp ps_break fun D σ H ⟨ι, F, l, h, S, q⟩ => q σ ι F H Aft.refl S
theorem vs_cont : VS X Wx (.Continue pos) (fun l h => .ok .ct l h) := PS.imp ps_continue fun D σ H ⟨ι, F, l, h, S, q⟩ => q σ ι F H Aft.refl S
theorem vs_no : VS X Wx st sNo := PS.imp ps_never fun D σ H ⟨ι, F, l, h, S, q⟩ => q
theorem vss_no : VSs X Wx sts sNo := PSs.imp pss_never fun D σ H ⟨ι, F, l, h, S, q⟩ => q
theorem vs_drop (he : VE X Wx e fe) (hs : swapsWith e none pos.line X.env = pure false := by rfl) : VS X Wx (.Expr e pos) (sDrop fe) := PS.imp (ps_expr he hs) fun D σ H ⟨ι, F, l, h, S, q⟩ =>
  ⟨ι, F, l, h, S, Sat.cutS q fun w l1 h1 v ι1 F1 H1 a1 S1 r1 q1 => q1 σ ι1 F1 H1 Aft.refl S1⟩
theorem vs_retN : VS X Wx (.Return none pos) sRetN := PS.imp ps_retN fun D σ H ⟨ι, F, l, h, S, q⟩ => q σ ι F H Aft.refl S .non (show relW X.K σ ι F H (.v .non) .non from .non)
theorem vs_ret (he : VE X Wx e fe) : VS X Wx (.Return (some e) pos) (sRet fe) := PS.imp (ps_ret he) fun D σ H ⟨ι, F, l, h, S, q⟩ =>
  ⟨ι, F, l, h, S, Sat.cutS q fun w l1 h1 v ι1 F1 H1 a1 S1 r1 q1 => by
    cases z : fz l1 h1 w with
    | none => rw [z] at q1; exact False.elim q1
    | some p =>
      obtain ⟨d, l2, h2⟩ := p
      rw [z] at q1
      obtain ⟨F2, S2, A2, rp⟩ := fz_ok S1 r1 z
      exact q1 σ ι1 F2 H1 A2 S2 v (show relW X.K σ ι1 F2 H1 (.v d) v from rp)⟩
theorem vs_retR (he : VE X Wx e fe) : VS X Wx (.Return (some e) pos) (sRetR fe) := PS.imp (ps_ret he) fun D σ H ⟨ι, F, l, h, S, q⟩ =>
  ⟨ι, F, l, h, S, Sat.cutS q fun w l1 h1 v ι1 F1 H1 a1 S1 r1 q1 => q1 σ ι1 F1 H1 Aft.refl S1 v r1⟩
theorem vs_if {a b : List Stmt} (hc : VT X Wx c fc) (ha : VSs X Wx a f) (hb : VSs X Wx b g) : VS X Wx (.If c a b pos) (sIf fc f g) := PS.imp (ps_if hc ha hb) fun D σ H ⟨ι, F, l, h, S, q⟩ =>
  ⟨ι, F, l, h, S, Sat.cutS q fun b l1 h1 b' ι1 F1 H1 a1 S1 r1 q1 => by
    cases (show b = b' from r1)
    cases b with
    | true => exact ⟨ι1, F1, l1, h1, S1, q1⟩
    | false => exact ⟨ι1, F1, l1, h1, S1, q1⟩⟩
/-- what a store asks -/
theorem setW_t {K : PySem.W.Frag} {ι : List Addr} {F : Addr → Prop} {l : Ls} {h : Hs} {σ : L2.St} {H : Hp} {w : W} {v : V} {i : Nat} {D : Ends} (S : Sim K ι F l h σ H) (r : relW K σ ι F H w v) (q : SatS K Wx ι F l σ H (setW i w l h) D) : D.nx (σ.set i (some v)) H := by
  unfold setW at q
  cases z : stW l h w with
  | none => rw [z] at q; exact False.elim q
  | some p =>
    obtain ⟨y, l1, h1⟩ := p
    rw [z] at q
    obtain ⟨F1, S1, A1, rs, ny⟩ := stW_ok S r z
    cases n : notP l1 i with
    | false => simp only [n] at q; exact False.elim q
    | true =>
      simp only [n] at q
      obtain ⟨np, hi⟩ := notP_ok n
      rw [S1.len] at hi
      exact q (σ.set i (some v)) ι F1 H (A1.trans (Aft.set S1 hi ny np)) (S1.set hi rs fun b d a y => absurd y (ny b d))
theorem vs_set {i : Nat} {x : Str} {pos' : Pos} (hN : X.N.Nodup) (hi : X.N[i]? = some x) (hx : Loc X.env.scope x) (he : VE X Wx e fe) (hs : swapsWith e (some (.Name x pos')) pos.line X.env = pure false := by rfl)
    (hf : X.fn x = true ∨ X.env.scope.names.lookup x = some .local := by first | exact .inl rfl | exact .inr rfl | assumption) : VS X Wx (.Assign [.Name x pos'] e pos) (sAsg i fe) := PS.imp (ps_set hN hi hx he hs hf) fun D σ H ⟨ι, F, l, h, S, q⟩ =>
  ⟨ι, F, l, h, S, Sat.cutS q fun w l1 h1 v ι1 F1 H1 a1 S1 r1 q1 => setW_t S1 r1 q1⟩
end

/-! ### a def's body -/
def run (n N : Nat) (b : FS) : G := fun as h => if as.length = n then (match b (as ++ List.replicate (N - n) .e) h with
  | .ok .nx l' h' => .ok (.v .non) (outs as l') h'
  | .ok (.rt (.v d)) l' h' => .ok (.v d) (outs as l') h'
  | .ok (.ro d) l' h' => .ok (.m false d) (outs as l') h'
  | .ok (.rt (.r k)) l' h' => .ok (.r k) (outs as l') h'
  | .ok (.rt (.s i)) l' h' => (match l'[i]? with
    | some (.m false d) => .ok (.m false d) (outs as l') h'
    | _ => .no)
  | .ok _ _ _ => .no
  | .ex x l' h' => .ex x (outs as l') h'
  | .no => .no) else .no
theorem run_ar (n N : Nat) (b : FS) : Ar n (run n N b) := fun as h ne => if_neg ne
section
variable {K : PySem.W.Frag} {ι ι' : List Addr} {F F' : Addr → Prop} {l l' as : Ls} {h h' : Hs} {σ σ' τ : L2.St} {H H' : Hp}
theorem outs_get : ∀ {as l' : Ls} {i : Nat} {x : Sl}, (outs as l')[i]? = some x → (∃ d, as[i]? = some (.m true d) ∧ l'[i]? = some x) ∨ as[i]? = some x
  | [], l', i, x, e => by simp [outs] at e
  | a :: as, [], i, x, e => by
    have e2 : outs (a :: as) [] = a :: as := by cases a with
      | m b d => cases b <;> rfl
      | _ => rfl
    rw [e2] at e
    exact .inr e
  | a :: as, y :: l', i, x, e => by
    have cases_ : (∃ d, a = .m true d ∧ outs (a :: as) (y :: l') = y :: outs as l') ∨ outs (a :: as) (y :: l') = a :: outs as l' := by
      cases a with
      | m b d =>
        cases b with
        | true => exact .inl ⟨d, rfl, rfl⟩
        | false => exact .inr rfl
      | _ => exact .inr rfl
    rcases cases_ with ⟨d, rfl, e2⟩ | e2
    · rw [e2] at e
      cases i with
      | zero => exact .inl ⟨d, rfl, e⟩
      | succ i => simpa using outs_get (as := as) (l' := l') (i := i) (by simpa using e)
    · rw [e2] at e
      cases i with
      | zero => exact .inr e
      | succ i => simpa using outs_get (as := as) (l' := l') (i := i) (by simpa using e)
theorem outs_len : ∀ {as l' : Ls}, (outs as l').length = as.length
  | [], l' => by simp [outs]
  | a :: as, [] => by
    cases a with
    | m b d => cases b <;> rfl
    | _ => rfl
  | a :: as, y :: l' => by
    cases a with
    | m b d =>
      cases b with
      | true => exact congrArg Nat.succ (outs_len (as := as) (l' := l'))
      | false => exact congrArg Nat.succ (outs_len (as := as) (l' := l'))
    | _ => exact congrArg Nat.succ (outs_len (as := as) (l' := l'))
theorem Sim.start (S : Sim K ι F as h τ H) (k : Nat) : Sim K ι F (as ++ List.replicate k .e) h (τ ++ List.replicate k none) H := by
  have own : ∀ j a, OwnAt (as ++ List.replicate k .e) (τ ++ List.replicate k none) j a → OwnAt as τ j a := fun j a ⟨b, d, e1, e2⟩ => by
    by_cases hj : j < as.length
    · rw [List.getElem?_append_left hj] at e1
      rw [List.getElem?_append_left (by rw [← S.len]; exact hj)] at e2
      exact ⟨b, d, e1, e2⟩
    · rw [List.getElem?_append_right (by omega), List.getElem?_replicate] at e1
      split at e1 <;> cases e1
  refine ⟨S.hs, by rw [List.length_append, List.length_append, S.len, List.length_replicate, List.length_replicate], fun j x q => ?_, fun j j' a z z' => S.one j j' a (own j a z) (own j' a z')⟩
  by_cases hj : j < as.length
  · rw [List.getElem?_append_left hj] at q
    rw [List.getElem?_append_left (by rw [← S.len]; exact hj)]
    exact S.sl j x q
  · rw [List.getElem?_append_right (by omega), List.getElem?_replicate] at q
    split at q <;> cases q
    exact .inl rfl
/-- behind the body: the arguments -/
theorem back_args {k : Nat} (S : Sim K ι F as h τ H) (nm : ∀ d, Sl.m false d ∉ as) (A : Aft ι F (as ++ List.replicate k .e) (τ ++ List.replicate k none) H ι' F' l' σ' H') (S' : Sim K ι' F' l' h' σ' H') :
    Sim K ι' F' (outs as l') h' τ H' ∧ Aft ι F as τ H ι' F' (outs as l') τ H' ∧ (∀ a, Ow (outs as l') τ a → Ow as τ a) ∧ (∀ i a, OwnAt (outs as l') τ i a → OwnAt l' σ' i a ∧ ∃ d, as[i]? = some (.m true d)) := by
  have ow1 : ∀ a, Ow (as ++ List.replicate k .e) (τ ++ List.replicate k none) a → Ow as τ a := fun a ⟨j, b, d, e1, e2⟩ => by
    by_cases hj : j < as.length
    · rw [List.getElem?_append_left hj] at e1
      rw [List.getElem?_append_left (by rw [← S.len]; exact hj)] at e2
      exact ⟨j, b, d, e1, e2⟩
    · rw [List.getElem?_append_right (by omega), List.getElem?_replicate] at e1
      split at e1 <;> cases e1
  have po : ∀ (i : Nat) (d : D), as[i]? = some (.m true d) → ∃ d', l'[i]? = some (.m true d') ∧ σ'[i]? = τ[i]? := fun i d e => by
    have hi : i < as.length := (List.getElem?_eq_some_iff.mp e).1
    obtain ⟨d', e1, e2⟩ := A.po i d (by rw [List.getElem?_append_left hi]; exact e)
    exact ⟨d', e1, by rw [e2, List.getElem?_append_left (by rw [← S.len]; exact hi)]⟩
  have at_ : ∀ i a, OwnAt (outs as l') τ i a → OwnAt l' σ' i a ∧ ∃ d, as[i]? = some (.m true d) := fun i a ⟨b, d, e1, e2⟩ => by
    rcases outs_get e1 with ⟨d0, z1, z2⟩ | z
    · obtain ⟨d', y1, y2⟩ := po i d0 z1
      rw [z2] at y1
      cases y1
      exact ⟨⟨true, _, z2, by rw [y2]; exact e2⟩, d0, z1⟩
    · cases b with
      | false => exact absurd (List.mem_of_getElem? z) (nm d)
      | true =>
        obtain ⟨d', y1, y2⟩ := po i d z
        exact ⟨⟨true, d', y1, by rw [y2]; exact e2⟩, d, z⟩
  have ow2 : ∀ a, Ow (outs as l') τ a → Ow as τ a := fun a ⟨i, z⟩ => by
    obtain ⟨_, d, e⟩ := at_ i a z
    obtain ⟨_, _, _, e2⟩ := z
    exact ⟨i, true, d, e, e2⟩
  refine ⟨⟨S'.hs, by rw [outs_len]; exact S.len, fun i x q => ?_, fun i j a z z' => S'.one i j a (at_ i a z).1 (at_ j a z').1⟩, ⟨A.ext.weak ow1, fun a z => .inl (ow2 a z), fun i d e => ?_⟩, ow2, at_⟩
  · rcases outs_get q with ⟨d0, z1, z2⟩ | z
    · obtain ⟨d', y1, y2⟩ := po i d0 z1
      rw [z2] at y1
      cases y1
      obtain ⟨v, ev, r⟩ := S'.slot z2 (by intro y; cases y)
      exact .inr ⟨v, by rw [← y2]; exact ev, r⟩
    · refine (S.sl i x z).imp id fun ⟨v, ev, r⟩ => ⟨v, ev, ?_⟩
      cases x with
      | e => trivial
      | v d => exact Rp.kp A.ext.kp r
      | r n =>
        obtain ⟨a, q, z⟩ := r
        exact ⟨a, A.ext.pre_get q, z⟩
      | m b d =>
        cases b with
        | false => exact absurd (List.mem_of_getElem? z) (nm d)
        | true =>
          -- then outs took it from l'
          obtain ⟨d', y1, y2⟩ := po i d z
          have o : (outs as l')[i]? = some (.m true d') := by
            have gen : ∀ (as l' : Ls) (i : Nat) (x : Sl) (d : D), as[i]? = some (.m true d) → l'[i]? = some x → (outs as l')[i]? = some x := by
              intro as
              induction as with
              | nil => intro l' i x d e; simp at e
              | cons a as ih =>
                intro l' i x d e1 e2
                cases l' with
                | nil => simp at e2
                | cons y l' =>
                  cases i with
                  | zero =>
                    simp at e1 e2
                    subst e1 e2
                    rfl
                  | succ i =>
                    have z := ih l' i x d (by simpa using e1) (by simpa using e2)
                    cases a with
                    | m b d => cases b <;> simpa [outs] using z
                    | _ => simpa [outs] using z
            exact gen as l' i _ d z y1
          rw [q] at o
          cases o
          obtain ⟨v', ev', r'⟩ := S'.slot y1 (by intro y; cases y)
          rw [y2, ev] at ev'
          cases ev'
          exact r'
  · obtain ⟨d', y1, y2⟩ := po i d e
    have o : (outs as l')[i]? = some (.m true d') := by
      have gen : ∀ (as l' : Ls) (i : Nat) (x : Sl) (d : D), as[i]? = some (.m true d) → l'[i]? = some x → (outs as l')[i]? = some x := by
        intro as
        induction as with
        | nil => intro l' i x d e; simp at e
        | cons a as ih =>
          intro l' i x d e1 e2
          cases l' with
          | nil => simp at e2
          | cons y l' =>
            cases i with
            | zero =>
              simp at e1 e2
              subst e1 e2
              rfl
            | succ i =>
              have z := ih l' i x d (by simpa using e1) (by simpa using e2)
              cases a with
              | m b d => cases b <;> simpa [outs] using z
              | _ => simpa [outs] using z
      exact gen as l' i _ d e y1
    exact ⟨d', o, rfl⟩
end
section
variable {P : Program} {w : World} {K : PySem.W.Frag} {mg : Str → Option Value} {base : Heap} {x qual : Str} {params : Arguments} {body : List Stmt} {scope : Scope} {dvs : List V} {kws : List (Str × V)} {f : Addr} {fd : FuncData} {N ps : List Str} {k : Nat} {b : FS}
/-- behind a def's body: what it promises -/
theorem run_body {cdv : Value} {A : Around} {outer : List Env} {s : Shared} {H : Hp} {vs : List V} {Q : VK} {E : XK}
    (hb : VSs (cxOf (L2.CX P w) P w K mg base N qual scope f cdv A outer s H E) (fun cls d _ H => E cls d H) body b) (hsp : spV K ps.length (run ps.length N.length b) vs H Q E) :
    ∃ t, PSs (cxOf (L2.CX P w) P w K mg base N qual scope f cdv A outer s H E) body t ∧ t { nx := fun _ H' => Q .non H', rt := Q } (L2.start N vs) H := by
  obtain ⟨hn, ι, F, as, h, S, nm, q⟩ := hsp
  refine ⟨tS K (fun cls d _ H => E cls d H) b, hb, ?_⟩
  have hl : as.length = ps.length := by
    have := S.len
    rw [List.length_map] at this
    omega
  have S0 := S.start (N.length - ps.length)
  have st : L2.start N vs = vs.map some ++ List.replicate (N.length - ps.length) none := by unfold L2.start; rw [hn]
  refine ⟨ι, F, as ++ List.replicate (N.length - ps.length) .e, h, by rw [st]; exact S0, ?_⟩
  unfold run at q
  rw [if_pos hl] at q
  have args : ∀ {σ' ι' F' H' l' h'}, Aft ι F (as ++ List.replicate (N.length - ps.length) .e) (L2.start N vs) H ι' F' l' σ' H' → Sim K ι' F' l' h' σ' H' → _ := fun {σ' ι' F' H' l' h'} A S' => back_args S nm (by rw [← st]; exact A) S'
  cases e : b (as ++ List.replicate (N.length - ps.length) .e) h with
  | no => rw [e] at q; exact q
  | ex x l' h' =>
    rw [e] at q
    intro σ' ι' F' H' dx A S' xr
    obtain ⟨B1, B2, B3, _⟩ := args A S'
    exact q ι' F' H' dx B2 B1 B3 xr
  | ok fl l' h' =>
    rw [e] at q
    intro σ' ι' F' H' A S'
    obtain ⟨B1, B2, B3, B4⟩ := args A S'
    cases fl with
    | nx => exact q .non ι' F' H' B2 B1 B3 (show Rp K F' H' .non .non from .non)
    | bk => exact False.elim q
    | ct => exact False.elim q
    | ro d => exact fun a n1 n2 n3 o fr => q (.ref a) ι' F' H' B2 B1 B3 ⟨a, rfl, n1, n2, o, fr⟩
    | rt w =>
      intro v r
      cases w with
      | v d => exact q v ι' F' H' B2 B1 B3 r
      | r n => exact q v ι' F' H' B2 B1 B3 r
      | s i =>
        obtain ⟨a, rfl, qa⟩ := r
        cases z : l'[i]? with
        | none => simp only [z] at q
        | some y =>
          simp only [z] at q
          cases y with
          | m bb d =>
            cases bb with
            | true => exact False.elim q
            | false =>
              obtain ⟨v', ev, a', rfl, n1, n2, o⟩ := S'.slot z (by intro y; cases y)
              rw [qa] at ev
              cases ev
              have fresh : H a = none := by
                rcases A.ow a ⟨i, false, d, z, qa⟩ with ⟨j, b', d', e1, e2⟩ | y
                · -- an argument's own object stays in its slot
                  exfalso
                  by_cases hj : j < as.length
                  · rw [List.getElem?_append_left hj] at e1
                    cases b' with
                    | false => exact nm d' (List.mem_of_getElem? e1)
                    | true =>
                      obtain ⟨d2, y1, y2⟩ := A.po j d' (by rw [List.getElem?_append_left hj]; exact e1)
                      have := S'.one i j a ⟨false, d, z, qa⟩ ⟨true, d2, y1, by rw [y2]; exact e2⟩
                      subst this
                      rw [z] at y1
                      cases y1
                  · rw [List.getElem?_append_right (by omega), List.getElem?_replicate] at e1
                    split at e1 <;> cases e1
                · exact y
              exact q (.ref a) ι' F' H' B2 B1 B3 ⟨a, rfl, n1, n2, o, fresh⟩
          | _ => exact False.elim q
/-- THE RULE for a def -/
theorem fn_run (FD : FunD K x qual params body scope dvs kws f fd) (Sc : FnScope N ps scope)
    (hb : ∀ (X : Cx) (Wx : WX), X.prog = P → X.w = w → X.K = K → X.mg = mg → X.base = base → X.N = N → X.env.scope = scope → X.calm = true → Room k X.A → Takes X Wx → PassesOwn (model X.prog X.w) X.A X.env X.xe → X.stack = X.env :: X.outer → X.env.frame = some X.env.locals → X.fn = (fun _ => true) → VSs X Wx body b) :
    FnOk P w K mg base (L2.CX P w) (k + 1) f fd ps (spV K ps.length (run ps.length N.length b)) := by
  refine FD.ok Sc (fun vs H Q E hsp => hsp.1) fun cdv A outer s H vs Q E hr hsp => ?_
  exact run_body (hb (cxOf (L2.CX P w) P w K mg base N qual scope f cdv A outer s H E) (fun cls d _ H => E cls d H) rfl rfl rfl rfl rfl rfl rfl rfl hr (takes_of rfl rfl rfl rfl) (passes_of rfl) rfl rfl rfl) hsp
end
end VL
set_option maxRecDepth 100000
set_option maxHeartbeats 2000000
namespace VL
open PySem PySem.Spec PyProof.Rows L2

/-! ### expressions that make a container of their own -/
def SatL (K : PySem.W.Frag) (Wx : WX) (ι : List Addr) (F : Addr → Prop) (l : Ls) (σ : L2.St) (H : Hp) (r : R D) (Q : VK) : Prop := match r with
  | .ok d l' h' => ∀ a ι' F' H', Aft ι F l σ H ι' F' l' σ H' → Sim K ι' F' l' h' σ H' → ¬ F' a → a ∉ ι' → ¬ Ow l' σ a → Own K F' H' a d → H a = none → Q (.ref a) H'
  | .ex x l' h' => ∀ ι' F' H' dx, Aft ι F l σ H ι' F' l' σ H' → Sim K ι' F' l' h' σ H' → XR K F' H' x dx → Wx (.ref (He.ga K x.c)) (some dx) σ H'
  | .no => False
abbrev FL := Ls → Hs → R D
def tL (K : PySem.W.Frag) (Wx : WX) (f : FL) : TE := fun σ H Q => ∃ ι F l h, Sim K ι F l h σ H ∧ SatL K Wx ι F l σ H (f l h) Q
abbrev VL (X : Cx) (Wx : WX) (e : Expr) (f : FL) : Prop := PE X e (tL X.K Wx f)
def fOfL (f : FL) : FE := fun l h => (f l h).bind fun d l h => .ok (.v d) l h
section
variable {α β : Type} {K : PySem.W.Frag} {Wx : WX} {rel : List Addr → (Addr → Prop) → Hp → α → β → Prop} {ι ι' : List Addr} {F F' : Addr → Prop} {l l' l0 : Ls} {h h' : Hs} {σ σ' : L2.St} {H H' : Hp} {a p : Addr} {d : D}
theorem SatL.later {r : R D} {Q : VK} (a : Aft ι F l σ H ι' F' l' σ H') (q : SatL K Wx ι F l σ H r Q) : SatL K Wx ι' F' l' σ H' r Q := by
  cases r with
  | ok x l2 h2 => exact fun b ι2 F2 H2 a2 S n1 n2 n3 o f => q b ι2 F2 H2 (a.trans a2) S n1 n2 n3 o (a.ext.back f)
  | ex x l2 h2 => exact fun ι2 F2 H2 dx a2 => q ι2 F2 H2 dx (a.trans a2)
  | no => exact q
theorem Sat.cutL {r : R α} {k : α → Ls → Hs → R D} {Q : VK} {Q1 : β → Hp → Prop} (q : SatL K Wx ι F l σ H (r.bind k) Q)
    (h : ∀ a l1 h1 b ι1 F1 H1, Aft ι F l σ H ι1 F1 l1 σ H1 → Sim K ι1 F1 l1 h1 σ H1 → rel ι1 F1 H1 a b → SatL K Wx ι1 F1 l1 σ H1 (k a l1 h1) Q → Q1 b H1) : Sat K Wx rel ι F l σ H r Q1 := by
  cases r with
  | ok a l1 h1 => exact fun b ι1 F1 H1 af S z => h a l1 h1 b ι1 F1 H1 af S z (SatL.later af q)
  | ex x l1 h1 => exact q
  | no => exact q
/-- an object of our own is frozen -/
theorem own_frz (S : Sim K ι' F' l' h' σ H') (A : Aft ι F l0 σ' H ι' F' l' σ H') (n1 : ¬ F' a) (n2 : a ∉ ι') (n3 : ¬ Ow l' σ a) (o : Own K F' H' a d) (f : H a = none) :
    Sim K ι' (fun b => F' b ∨ b = a) l' h' σ H' ∧ Aft ι F l0 σ' H ι' (fun b => F' b ∨ b = a) l' σ H' ∧ Rp K (fun b => F' b ∨ b = a) H' d (.ref a) := by
  have kp : Kp F' (fun b => F' b ∨ b = a) H' H' := ⟨fun _ f => .inl f, fun _ _ _ z => z⟩
  have ext : Ext (fun b => b = a) ι' F' H' ι' (fun b => F' b ∨ b = a) H' := ⟨List.prefix_refl _, fun _ f => .inl f, fun _ _ z _ => z, fun _ x y => absurd x y, fun b f => f.elim .inl fun z => .inr (.inr (.inl z)), fun _ o z => ⟨o, z⟩⟩
  exact ⟨S.over ext (S.hs.grow ext (fun _ _ _ z => z) (fun b m n f => f.elim n fun z => n2 (z ▸ m)) fun b f => f.elim (S.hs.fk b) fun z => z ▸ o.there) (fun b z y => n3 (y ▸ z)), ⟨⟨A.ext.pre, fun b f => .inl (A.ext.mono b f), A.ext.keep, A.ext.new, fun b f' => f'.elim (A.ext.newF b) fun z => .inr (.inr (.inr (z ▸ f))), A.ext.there⟩, A.ow, A.po⟩, Own.frz kp (fun _ z => z) (.inr rfl) o⟩
/-- a new list, ours -/
theorem Sim.none_ow (S : Sim K ι F l h σ H) (hp : H p = none) : ¬ F p ∧ p ∉ ι ∧ ¬ Ow l σ p := ⟨S.fnone hp, (fun m => by
    obtain ⟨o, e⟩ := S.hs.there m
    rw [hp] at e; cases e), (fun z => by
    obtain ⟨o, e⟩ := S.owns z
    rw [hp] at e; cases e)⟩
theorem SatL.new {ds : List D} {vs : List V} {Q : VK} (q : SatL K Wx ι F l σ H (.ok (.lst ds) l h) Q) (S : Sim K ι F l h σ H) (hp : H p = none) (r : RpL K F H ds vs) : Q (.ref p) (upd H p (.lst vs)) := by
  obtain ⟨n1, n2, n3⟩ := S.none_ow hp
  exact q p ι F _ (Aft.laid hp) (S.laid hp) n1 n2 n3 ⟨vs, upd_same, r.kp (Ext.laid (A := fun _ => False) (ι := ι) hp).kp⟩ hp
end
section
variable {X : Cx} {Wx : WX} {e : Expr} {es : List Expr} {f : FL} {fa : FA} {fe : FE} {pos : Pos}
theorem ve_ofL (he : VL X Wx e f) : VE X Wx e (fOfL f) := PE.imp he fun σ H Q ⟨ι, F, l, h, S, q⟩ => by
  refine ⟨ι, F, l, h, S, ?_⟩
  unfold fOfL at q
  cases z : f l h with
  | no => rw [z] at q; exact q
  | ex x l1 h1 => rw [z] at q; exact q
  | ok d l1 h1 =>
    rw [z] at q
    intro a ι' F' H' A S' n1 n2 n3 o fr
    obtain ⟨S2, A2, rp⟩ := own_frz S' A n1 n2 n3 o fr
    exact q (.ref a) ι' _ H' A2 S2 (show relW X.K σ ι' _ H' (.v d) (.ref a) from rp)
/-- x = e, e a container of its own: it stays ours -/
def sAsgM (i : Nat) (f : FL) : FS := fun l h => (f l h).bind fun d l h => match notP l i with
  | true => .ok .nx (l.set i (.m false d)) h
  | false => .no
theorem setM_t {K : PySem.W.Frag} {i : Nat} {t : TE} {σ : L2.St} {H : Hp} {D : Ends} (ht : ∀ σ H Q, tL K Wx f σ H Q → t σ H Q) (q : tS K Wx (sAsgM i f) D σ H) : tAsg t (gName i) D σ H := by
  obtain ⟨ι, F, l, h, S, q⟩ := q
  refine ht σ H _ ⟨ι, F, l, h, S, ?_⟩
  unfold sAsgM at q
  cases z : f l h with
  | no => rw [z] at q; exact q
  | ex x l1 h1 =>
    rw [z] at q
    exact fun ι' F' H' dx A S' xr => q σ ι' F' H' dx A S' xr
  | ok d l1 h1 =>
    rw [z] at q
    intro a ι' F' H' A S' n1 n2 n3 o fr
    cases n : notP l1 i with
    | false =>
      unfold R.bind at q
      simp only [n] at q
      exact (show False from q).elim
    | true =>
      unfold R.bind at q
      simp only [n] at q
      obtain ⟨np, hi⟩ := notP_ok n
      have hi2 : i < σ.length := by rw [← S'.len]; exact hi
      refine q (σ.set i (some (.ref a))) ι' F' H' ⟨A.ext, fun b ⟨j, y⟩ => ?_, fun j d' y => ?_⟩ (S'.set hi2 ⟨a, rfl, n1, n2, o⟩ fun b d a2 _ y j z => ?_)
      · rcases own_set2 hi2 S'.len y with ⟨_, _, y⟩ | ⟨_, y⟩
        · cases y
          exact .inr fr
        · exact A.ow b ⟨j, y⟩
      · obtain ⟨d2, y1, y2⟩ := A.po j d' y
        have hj : i ≠ j := fun e => np d2 (e ▸ y1)
        exact ⟨d2, by rw [List.getElem?_set_ne hj]; exact y1, (List.getElem?_set_ne hj).trans y2⟩
      · cases y
        exact absurd ⟨j, z⟩ n3
theorem vs_setM {i : Nat} {x : Str} {pos' : Pos} (hN : X.N.Nodup) (hi : X.N[i]? = some x) (hx : Loc X.env.scope x) (he : VL X Wx e f) (hs : swapsWith e (some (.Name x pos')) pos.line X.env = pure false := by rfl)
    (hf : X.fn x = true ∨ X.env.scope.names.lookup x = some .local := by first | exact .inl rfl | exact .inr rfl | assumption) : VS X Wx (.Assign [.Name x pos'] e pos) (sAsgM i f) := PS.imp (ps_set hN hi hx he hs hf) fun D σ H q => setM_t (fun _ _ _ q => q) q
theorem ofL_t {K : PySem.W.Frag} {t : TE} {σ : L2.St} {H : Hp} {Q : VK} (ht : ∀ σ H Q, tL K Wx f σ H Q → t σ H Q) (q : tE K Wx (fOfL f) σ H Q) : t σ H Q := by
  obtain ⟨ι, F, l, h, S, q⟩ := q
  refine ht σ H Q ⟨ι, F, l, h, S, ?_⟩
  unfold fOfL at q
  cases z : f l h with
  | no => rw [z] at q; exact q
  | ex x l1 h1 => rw [z] at q; exact q
  | ok d l1 h1 =>
    rw [z] at q
    intro a ι' F' H' A S' n1 n2 n3 o fr
    obtain ⟨S2, A2, rp⟩ := own_frz S' A n1 n2 n3 o fr
    exact q (.ref a) ι' _ H' A2 S2 (show relW K σ ι' _ H' (.v d) (.ref a) from rp)
theorem setV_t {K : PySem.W.Frag} {i : Nat} {t : TE} {σ : L2.St} {H : Hp} {D : Ends} (ht : ∀ σ H Q, tL K Wx f σ H Q → t σ H Q) (q : tS K Wx (sAsg i (fOfL f)) D σ H) : tAsg t (gName i) D σ H := by
  refine ofL_t ht ?_
  obtain ⟨ι, F, l, h, S, q⟩ := q
  exact ⟨ι, F, l, h, S, Sat.cutS q fun w l1 h1 v ι1 F1 H1 a1 S1 r1 q1 => setW_t S1 r1 q1⟩
def sz (n : Nat) : Bool := decide (n ≤ sizeLine)
theorem sz_ok {n : Nat} (h : sz n = true) : n ≤ sizeLine := of_decide_eq_true h
theorem sz_of {n : Nat} (h : n ≤ 1000000) : sz n = true := decide_eq_true (by rw [sizeLine_eq]; omega)
/-- [a, b, ..] -/
def fLst (fa : FA) : FL := fun l h => (fa l h).bind fun ws l h => match fzs l h ws with
  | none => .no
  | some (ds, l, h) => match sz ds.length with
    | true => .ok (.lst ds) l h
    | false => .no
theorem vl_lst (ha : VA X Wx es fa) : VL X Wx (.List es pos) (fLst fa) := PE.imp (pe_lst ha) fun σ H Q ⟨ι, F, l, h, S, q⟩ =>
  ⟨ι, F, l, h, S, Sat.cutL q fun ws l1 h1 vs ι1 F1 H1 a1 S1 r1 q1 => by
    cases z : fzs l1 h1 ws with
    | none => rw [z] at q1; exact False.elim q1
    | some p =>
      obtain ⟨ds, l2, h2⟩ := p
      rw [z] at q1
      obtain ⟨F2, S2, A2, rs⟩ := fzs_ok S1 r1 z
      cases c : sz ds.length with
      | false => simp only [c] at q1; exact False.elim q1
      | true =>
        simp only [c] at q1
        refine ⟨by rw [← rs.length]; exact sz_ok c, fun p hp => SatL.new (SatL.later A2 q1) S2 hp rs⟩⟩
/-- (a, b, ..) -/
def fTup (fa : FA) : FE := fun l h => (fa l h).bind fun ws l h => match fzs l h ws with
  | none => .no
  | some (ds, l, h) => match sz ds.length with
    | true => .ok (.v (.tup ds)) l h
    | false => .no
theorem ve_tup {k : Nat} (ha : VA X Wx es fa) : VE X Wx (.Tuple es k pos) (fTup fa) := PE.imp (pe_tup ha) fun σ H Q ⟨ι, F, l, h, S, q⟩ =>
  ⟨ι, F, l, h, S, Sat.cut q fun ws l1 h1 vs ι1 F1 H1 a1 S1 r1 q1 => by
    cases z : fzs l1 h1 ws with
    | none => rw [z] at q1; exact False.elim q1
    | some p =>
      obtain ⟨ds, l2, h2⟩ := p
      rw [z] at q1
      obtain ⟨F2, S2, A2, rs⟩ := fzs_ok S1 r1 z
      cases c : sz ds.length with
      | false => simp only [c] at q1; exact False.elim q1
      | true =>
        simp only [c] at q1
        refine ⟨by rw [← rs.length]; exact sz_ok c, fun p hp => q1 (.ref p) ι1 _ _ (A2.trans (Aft.laidF hp)) (S2.laidF hp) ?_⟩
        exact Rp.tup (.inr rfl) (.inl upd_same) (rs.kp (Ext.laidF (A := fun _ => False) (ι := ι1) hp).kp)⟩
end

/-! ### an object of one's own, returned -/
section
variable {X : Cx} {Wx : WX} {e : Expr} {f : FL} {pos : Pos}
theorem vs_retL (he : VL X Wx e f) : VS X Wx (.Return (some e) pos) (sRetL f) := PS.imp (ps_ret he) fun D σ H ⟨ι, F, l, h, S, q⟩ => by
  refine ⟨ι, F, l, h, S, ?_⟩
  unfold sRetL at q
  cases z : f l h with
  | no => rw [z] at q; exact q
  | ex x l1 h1 => rw [z] at q; exact fun ι' F' H' dx A S' xr => q σ ι' F' H' dx A S' xr
  | ok d l1 h1 =>
    rw [z] at q
    exact fun a ι' F' H' A S' n1 n2 n3 o fr => q σ ι' F' H' A S' a n1 n2 n3 o fr
end
/-! ### what is walked -/
structure Yields (K : PySem.W.Frag) (J : It) (F0 : Addr → Prop) (H0 : Hp) (ds : List D) : Prop where
  go : ∀ i F H, Kp F0 F H0 H → i < ds.length → J.go i H
  stop : ∀ F H, Kp F0 F H0 H → J.stop ds.length H
  yld : ∀ (i : Nat) (d : D) (ι : List Addr) (F : Addr → Prop) (l : Ls) (h : Hs) (σ : L2.St) (H : Hp) (x : V) (H' : Hp), ds[i]? = some d → Sim K ι F l h σ H → Kp F0 F H0 H → J.yld i H x H' →
    ∃ F', Sim K ι F' l h σ H' ∧ Aft ι F l σ H ι F' l σ H' ∧ Rp K F' H' d x
abbrev FI := Ls → Hs → R (List D)
def tI (K : PySem.W.Frag) (Wx : WX) (f : FI) : TI := fun σ H R => ∃ ι F l h, Sim K ι F l h σ H ∧ Sat K Wx (fun _ F' H' ds (J : It) => Yields K J F' H' ds) ι F l σ H (f l h) R
abbrev VI (X : Cx) (Wx : WX) (tg iter : Expr) (f : FI) : Prop := PI X tg iter (tI X.K Wx f)
theorem PI.imp {X : Cx} {tg e : Expr} {t t' : TI} (p : PI X tg e t) (h : ∀ σ H R', t' σ H R' → t σ H R') : PI X tg e t' := ⟨fun pins s σ H R' I q => p.run pins s σ H R' I (h σ H R' q)⟩
theorem PI.or {X : Cx} {tg e : Expr} {t t' : TI} (p : PI X tg e t) (p' : PI X tg e t') : PI X tg e (fun σ H R => t σ H R ∨ t' σ H R) := ⟨fun pins s σ H R I q => q.elim (p.run pins s σ H R I) (p'.run pins s σ H R I)⟩
section
variable {K : PySem.W.Frag} {F : Addr → Prop} {H : Hp} {a : Addr} {ds : List D} {vs : List V}
theorem yields_seqL (f : F a) (e : H a = some (.lst vs)) (r : RpL K F H ds vs) : Yields K (Itl K a) F H ds where
  go := fun i F' H' k hi => by
    have e' := k.keep a _ f e
    exact ⟨vs, vs[i]'(by rw [← r.length]; exact hi), SqL.of e', List.getElem?_eq_getElem _⟩
  stop := fun F' H' k => ⟨vs, SqL.of (k.keep a _ f e), by rw [r.length]; exact Nat.le_refl _⟩
  yld := fun i d ι F' l h σ H' x H2 hd S k y => by
    obtain ⟨rfl, y⟩ := y
    obtain ⟨v, ev, rv⟩ := r.get hd
    have z := y vs (SqL.of (k.keep a _ f e))
    rw [ev] at z
    cases z
    exact ⟨F', S, Aft.refl, rv.kp k⟩
theorem yields_seqT (e : ∀ F' H', Kp F F' H H' → SqT K H' a vs) (r : RpL K F H ds vs) : Yields K (Itt K a) F H ds where
  go := fun i F' H' k hi => ⟨vs, vs[i]'(by rw [← r.length]; exact hi), e F' H' k, List.getElem?_eq_getElem _⟩
  stop := fun F' H' k => ⟨vs, e F' H' k, by rw [r.length]; exact Nat.le_refl _⟩
  yld := fun i d ι F' l h σ H' x H2 hd S k y => by
    obtain ⟨rfl, y⟩ := y
    obtain ⟨v, ev, rv⟩ := r.get hd
    have z := y vs (e F' _ k)
    rw [ev] at z
    cases z
    exact ⟨F', S, Aft.refl, rv.kp k⟩
theorem rp_tupK {v : V} (q : Rp K F H (.tup ds) v) : ∃ a vs, v = .ref a ∧ (∀ F' H', Kp F F' H H' → SqT K H' a vs) ∧ RpL K F H ds vs := by
  cases q with
  | tup f e r => exact ⟨_, _, rfl, fun F' H' k => .inl (k.rd f e), r⟩
  | tupK kk r => exact ⟨_, _, rfl, fun F' H' k => SqT.ofK kk, r⟩
end
/-- a list, a tuple, frozen -/
def seqD : D → Option (List D)
  | .lst ds => some ds
  | .tup ds => some ds
  | _ => none
def fSeq (f : FE) : FI := fun l h => (f l h).bind fun w l h => match fz l h w with
  | none => .no
  | some (d, l, h) => match seqD d with
    | some ds => .ok ds l h
    | none => .no
def intsFrom (lo : Int) (n : Nat) : List D := (List.range n).map fun i => .int (lo + (i : Nat))
def bnd (i : Int) : Bool := decide (i.natAbs < 4611686018427387904)
theorem bnd_ok {i : Int} (h : bnd i = true) : -(2 ^ 62) ≤ i ∧ i < 2 ^ 62 := by
  have := of_decide_eq_true h
  omega
theorem bndOf {i : Int} (h : -(2 ^ 62) < i ∧ i < 2 ^ 62) : bnd i = true := decide_eq_true (by omega)
def fRng1 (fa : FA) : FI := fun l h => (fa l h).bind fun ws l h => match ws with
  | [.v (.int j)] => (match bnd j with
    | true => .ok (intsFrom 0 j.toNat) l h
    | false => .no)
  | _ => .no
def fRng2 (fa : FA) : FI := fun l h => (fa l h).bind fun ws l h => match ws with
  | [.v (.int i), .v (.int j)] => (match bnd i && bnd j with
    | true => .ok (intsFrom i (j - i).toNat) l h
    | false => .no)
  | _ => .no
def signs (x : Str) : List D := x.cps.toList.map fun c => .str ⟨#[c]⟩
def fStr (f : FE) : FI := fun l h => (f l h).bind fun w l h => match w with
  | .v (.str x) => .ok (signs x) l h
  | _ => .no
theorem intsFrom_get {lo : Int} {n i : Nat} {d : D} (h : (intsFrom lo n)[i]? = some d) : i < n ∧ d = .int (lo + (i : Nat)) := by
  unfold intsFrom at h
  rw [List.getElem?_map] at h
  obtain ⟨j, e1, e2⟩ := Option.map_eq_some_iff.mp h
  obtain ⟨h1, h2⟩ := List.getElem?_eq_some_iff.mp e1
  rw [List.length_range] at h1
  rw [List.getElem_range] at h2
  subst h2
  exact ⟨h1, e2.symm⟩
theorem yields_rng {K : PySem.W.Frag} {F : Addr → Prop} {H : Hp} {lo : Int} {n : Nat} : Yields K (Itr lo n) F H (intsFrom lo n) where
  go := fun i F' H' k hi => by unfold intsFrom at hi; rw [List.length_map, List.length_range] at hi; exact hi
  stop := fun F' H' k => by show n ≤ (intsFrom lo n).length; unfold intsFrom; rw [List.length_map, List.length_range]; exact Nat.le_refl _
  yld := fun i d ι F' l h σ H' x H2 hd S k y => by
    obtain ⟨rfl, rfl⟩ := y
    obtain ⟨_, rfl⟩ := intsFrom_get hd
    exact ⟨F', S, Aft.refl, .int _⟩
theorem yields_str {K : PySem.W.Frag} {F : Addr → Prop} {H : Hp} {x : Str} : Yields K (Its x) F H (signs x) where
  go := fun i F' H' k hi => by unfold signs at hi; rw [List.length_map, Array.length_toList] at hi; exact hi
  stop := fun F' H' k => by show x.cps.size ≤ (signs x).length; unfold signs; rw [List.length_map, Array.length_toList]; exact Nat.le_refl _
  yld := fun i d ι F' l h σ H' v H2 hd S k y => by
    obtain ⟨rfl, c, ec, rfl⟩ := y
    unfold signs at hd
    rw [List.getElem?_map, Array.getElem?_toList, ec] at hd
    cases hd
    exact ⟨F', S, Aft.refl, .str _⟩
section
variable {X : Cx} {Wx : WX} {tg e : Expr} {es : List Expr} {fe : FE} {fa : FA} {p pos : Pos}
theorem vi_seq (he : VE X Wx e fe) : VI X Wx tg e (fSeq fe) := PI.imp (PI.or (pi_list he) (pi_tup he)) fun σ H R' ⟨ι, F, l, h, S, q⟩ => by
  unfold fSeq at q
  cases z : fe l h with
  | no => rw [z] at q; exact False.elim q
  | ex x l1 h1 =>
    rw [z] at q
    exact .inl ⟨ι, F, l, h, S, by rw [z]; exact q⟩
  | ok w l1 h1 =>
    rw [z] at q
    cases y : fz l1 h1 w with
    | none => unfold R.bind at q; simp only [y] at q; exact False.elim q
    | some pp =>
      obtain ⟨d, l2, h2⟩ := pp
      unfold R.bind at q
      simp only [y] at q
      cases d with
      | lst ds =>
        refine .inl ⟨ι, F, l, h, S, ?_⟩
        rw [z]
        intro v ι1 F1 H1 A1 S1 r1
        obtain ⟨F2, S2, A2, rp⟩ := fz_ok S1 r1 y
        cases rp with
        | lst f e r => exact ⟨_, rfl, ⟨_, SqL.of e⟩, q _ ι1 F2 H1 (A1.trans A2) S2 (yields_seqL f e r)⟩
      | tup ds =>
        refine .inr ⟨ι, F, l, h, S, ?_⟩
        rw [z]
        intro v ι1 F1 H1 A1 S1 r1
        obtain ⟨F2, S2, A2, rp⟩ := fz_ok S1 r1 y
        obtain ⟨a, vs, rfl, e, r⟩ := rp_tupK rp
        exact ⟨a, rfl, ⟨vs, e F2 H1 ⟨fun _ f => f, fun _ _ _ z => z⟩⟩, q _ ι1 F2 H1 (A1.trans A2) S2 (yields_seqT e r)⟩
      | _ => exact False.elim q
theorem vi_rng1 (hg : Gl X "range") (hm : X.mg "range" = none) (ha : VA X Wx [e] fa) (hs : starEach [e] X.env = [(false, eval e X.env)] := by rfl) : VI X Wx tg (.Call (.Name "range" p) [e] [] pos) (fRng1 fa) := PI.imp (pi_range1 hg hm ha hs) fun σ H R' ⟨ι, F, l, h, S, q⟩ =>
  ⟨ι, F, l, h, S, Sat.cut q fun ws l1 h1 vs ι1 F1 H1 a1 S1 r1 q1 => by
    split at q1
    · rename_i j
      cases r1 with
      | cons a r =>
        cases r
        cases (show Rp X.K F1 H1 (.int j) _ from a)
        cases c : bnd j with
        | false => simp only [c] at q1; exact False.elim q1
        | true =>
          simp only [c] at q1
          have b : -(2 ^ 62) ≤ j ∧ j < 2 ^ 62 := bnd_ok c
          exact ⟨j, rfl, b.1, b.2, Sat.here S1 q1 yields_rng⟩
    · exact False.elim q1⟩
theorem vi_rng2 {e2 : Expr} (hg : Gl X "range") (hm : X.mg "range" = none) (ha : VA X Wx [e, e2] fa) (hs : starEach [e, e2] X.env = [(false, eval e X.env), (false, eval e2 X.env)] := by rfl) (hs2 : starEach [e2] X.env = [(false, eval e2 X.env)] := by rfl) :
    VI X Wx tg (.Call (.Name "range" p) [e, e2] [] pos) (fRng2 fa) := PI.imp (pi_range2 hg hm ha hs hs2) fun σ H R' ⟨ι, F, l, h, S, q⟩ =>
  ⟨ι, F, l, h, S, Sat.cut q fun ws l1 h1 vs ι1 F1 H1 a1 S1 r1 q1 => by
    split at q1
    · rename_i i j
      cases r1 with
      | cons a r =>
        cases r with
        | cons b r =>
          cases r
          cases (show Rp X.K F1 H1 (.int i) _ from a)
          cases (show Rp X.K F1 H1 (.int j) _ from b)
          cases c : (bnd i && bnd j) with
          | false => simp only [c] at q1; exact False.elim q1
          | true =>
            simp only [c] at q1
            rw [Bool.and_eq_true] at c
            have b1 : -(2 ^ 62) ≤ i ∧ i < 2 ^ 62 := bnd_ok c.1
            have b2 : -(2 ^ 62) ≤ j ∧ j < 2 ^ 62 := bnd_ok c.2
            exact ⟨i, j, rfl, ⟨b1.1, b1.2, b2.1, b2.2⟩, Sat.here S1 q1 yields_rng⟩
    · exact False.elim q1⟩
theorem vi_str (he : VE X Wx e fe) : VI X Wx tg e (fStr fe) := PI.imp (pi_str he) fun σ H R' ⟨ι, F, l, h, S, q⟩ =>
  ⟨ι, F, l, h, S, Sat.cut q fun w l1 h1 v ι1 F1 H1 a1 S1 r1 q1 => by
    split at q1
    · rename_i x
      cases (show Rp X.K F1 H1 (.str x) v from r1)
      exact ⟨x, rfl, Sat.here S1 q1 yields_str⟩
    · exact False.elim q1⟩
end

/-! ### targets -/
abbrev FG := D → FS
abbrev FGs := List D → FS
/-- only the slots vs change -/
def Only (vs : List Nat) (σ σ' : L2.St) : Prop := σ'.length = σ.length ∧ ∀ i, i ∉ vs → σ'[i]? = σ[i]?
def tG (K : PySem.W.Frag) (vs : List Nat) (g : FG) : TG := fun v σ H Q => ∃ ι F l h d, Sim K ι F l h σ H ∧ Rp K F H d v ∧ (match g d l h with
  | .ok .nx l' h' => ∀ σ' ι' F' H', Only vs σ σ' → Aft ι F l σ H ι' F' l' σ' H' → Sim K ι' F' l' h' σ' H' → Q σ' H'
  | _ => False)
def tGs (K : PySem.W.Frag) (vs : List Nat) (g : FGs) : TGs := fun us σ H Q => ∃ ι F l h ds, Sim K ι F l h σ H ∧ RpL K F H ds us ∧ (match g ds l h with
  | .ok .nx l' h' => ∀ σ' ι' F' H', Only vs σ σ' → Aft ι F l σ H ι' F' l' σ' H' → Sim K ι' F' l' h' σ' H' → Q σ' H'
  | _ => False)
abbrev VG (X : Cx) (tg : Expr) (vs : List Nat) (g : FG) : Prop := PG X tg (tG X.K vs g)
abbrev VGs (X : Cx) (tg : List Expr) (vs : List Nat) (g : FGs) : Prop := PGs X tg (tGs X.K vs g)
theorem PG.imp {X : Cx} {e : Expr} {t t' : TG} (p : PG X e t) (h : ∀ v σ H Q, t' v σ H Q → t v σ H Q) : PG X e t' := ⟨fun pins s σ H v u Q I r q => p.run pins s σ H v u Q I r (h v σ H Q q)⟩
theorem PGs.imp {X : Cx} {e : List Expr} {t t' : TGs} (p : PGs X e t) (h : ∀ v σ H Q, t' v σ H Q → t v σ H Q) : PGs X e t' := ⟨fun pins s σ H v u Q I r q => p.run pins s σ H v u Q I r (h v σ H Q q)⟩
theorem Only.refl {vs : List Nat} {σ : L2.St} : Only vs σ σ := ⟨rfl, fun _ _ => rfl⟩
theorem Only.mono {vs ws : List Nat} {σ σ' : L2.St} (o : Only vs σ σ') (s : ∀ i, i ∈ vs → i ∈ ws) : Only ws σ σ' := ⟨o.1, fun i n => o.2 i fun m => n (s i m)⟩
theorem Only.trans {vs : List Nat} {σ σ' σ'' : L2.St} (o : Only vs σ σ') (o' : Only vs σ' σ'') : Only vs σ σ'' := ⟨o'.1.trans o.1, fun i n => (o'.2 i n).trans (o.2 i n)⟩
theorem Only.set {σ : L2.St} {i : Nat} {v : Option V} : Only [i] σ (σ.set i v) := ⟨List.length_set, fun j n => List.getElem?_set_ne fun e => n (by rw [e]; exact List.mem_singleton_self _)⟩
def gNm (i : Nat) : FG := fun d l h => match notP l i with
  | true => .ok .nx (l.set i (.v d)) h
  | false => .no
def gsNil : FGs := fun ds l h => match ds with
  | [] => .ok .nx l h
  | _ => .no
def gsCons (g : FG) (gs : FGs) : FGs := fun ds l h => match ds with
  | d :: ds => (match g d l h with
    | .ok .nx l h => gs ds l h
    | _ => .no)
  | [] => .no
/-- (x, y, ..) = a tuple -/
def gTupD (n : Nat) (gs : FGs) : FG := fun d l h => match d with
  | .tup ds => if ds.length = n then gs ds l h else .no
  | _ => .no
def sAsgG (g : FG) (f : FE) : FS := fun l h => (f l h).bind fun w l h => match fz l h w with
  | some (d, l, h) => (match g d l h with
    | .ok .nx l h => .ok .nx l h
    | _ => .no)
  | none => .no
section
variable {X : Cx} {Wx : WX} {pos : Pos} {e : Expr} {es : List Expr} {vs ws : List Nat} {g : FG} {gs : FGs} {fe : FE}
theorem gNm_t {K : PySem.W.Frag} {i : Nat} {v : V} {σ : L2.St} {H : Hp} {Q : L2.St → Hp → Prop} (q : tG K [i] (gNm i) v σ H Q) : Q (σ.set i (some v)) H := by
  obtain ⟨ι, F, l, h, d, S, rp, q⟩ := q
  unfold gNm at q
  cases n : notP l i with
  | false => simp only [n] at q
  | true =>
    simp only [n] at q
    obtain ⟨np, hi⟩ := notP_ok n
    rw [S.len] at hi
    exact q _ ι F H Only.set (Aft.set S hi (fun _ _ z => by cases z) np) (S.set (y := .v d) hi rp fun b d a y => by cases y)
theorem vg_name {i : Nat} {x : Str} (hN : X.N.Nodup) (hi : X.N[i]? = some x) (hx : Loc X.env.scope x) (hf : X.fn x = true ∨ X.env.scope.names.lookup x = some .local := by first | exact .inl rfl | exact .inr rfl | assumption) : VG X (.Name x pos) [i] (gNm i) :=
  PG.imp (pg_name hN hi hx hf) fun v σ H Q q => gNm_t q
theorem vgs_nil : VGs X [] vs gsNil := PGs.imp pgs_nil fun us σ H Q ⟨ι, F, l, h, ds, S, r, q⟩ => by
  cases r with
  | nil => exact ⟨rfl, q σ ι F H Only.refl Aft.refl S⟩
  | cons a r => exact False.elim q
theorem vgs_cons (h1 : VG X e vs g) (h2 : VGs X es ws gs) (hs : (assignEach (e :: es) X.env).map (·.2) = assign e X.env :: (assignEach es X.env).map (·.2) := by rfl) : VGs X (e :: es) (vs ++ ws) (gsCons g gs) :=
  PGs.imp (pgs_cons h1 h2 hs) fun us σ H Q ⟨ι, F, l, h, ds, S, r, q⟩ => by
    cases r with
    | nil => exact False.elim q
    | @cons d ds v vr a r =>
      refine ⟨_, _, rfl, ι, F, l, h, d, S, a, ?_⟩
      unfold gsCons at q
      cases z : g d l h with
      | no => simp only [z] at q
      | ex x l h => simp only [z] at q
      | ok fl l1 h1 =>
        cases fl with
        | nx =>
          simp only [z] at q ⊢
          intro σ' ι' F' H' o A S'
          refine ⟨ι', F', l1, h1, ds, S', r.kp A.ext.kp, ?_⟩
          cases z2 : gs ds l1 h1 with
          | no => simp only [z2] at q
          | ex x l h => simp only [z2] at q
          | ok fl l2 h2 =>
            cases fl with
            | nx =>
              simp only [z2] at q ⊢
              exact fun σ2 ι2 F2 H2 o2 A2 S2 => q σ2 ι2 F2 H2 ((o.mono fun i m => List.mem_append_left _ m).trans (o2.mono fun i m => List.mem_append_right _ m)) (A.trans A2) S2
            | _ => simp only [z2] at q
        | _ => simp only [z] at q
theorem vg_tup {k n : Nat} (hc : X.calm = true) (h : VGs X es vs gs) (hn : (assignEach es X.env).length = n := by rfl) (hst : (assignEach es X.env).findIdx? (·.1) = none := by rfl) : VG X (.Tuple es k pos) vs (gTupD n gs) :=
  PG.imp (pg_tup hc h hn hst) fun v σ H Q ⟨ι, F, l, h, d, S, rp, q⟩ => by
    cases d with
    | tup ds =>
      unfold gTupD at q
      by_cases c : ds.length = n
      · simp only [c, if_true] at q
        obtain ⟨a, us, rfl, e, r⟩ := rp_tupK rp
        exact ⟨a, us, rfl, e F H ⟨fun _ f => f, fun _ _ _ z => z⟩, by rw [← r.length]; exact c, ι, F, l, h, ds, S, r, q⟩
      · simp only [c, if_false] at q
    | _ => exact False.elim q
theorem vs_asg (he : VE X Wx e fe) {t : Expr} (hg : VG X t vs g) (hs : swapsWithSole [t] e pos.line X.env = pure false := by rfl) (hw : swappedStores [t] e X.env = pure none := by rfl)
    (h1 : (assignEach [t] X.env).map (·.2) = [assign t X.env] := by rfl) : VS X Wx (.Assign [t] e pos) (sAsgG g fe) := PS.imp (ps_asg he hg hs hw h1) fun D σ H ⟨ι, F, l, h, S, q⟩ =>
  ⟨ι, F, l, h, S, Sat.cutS q fun w l1 h1 v ι1 F1 H1 a1 S1 r1 q1 => by
    cases z : fz l1 h1 w with
    | none => rw [z] at q1; exact False.elim q1
    | some p =>
      obtain ⟨d, l2, h2⟩ := p
      rw [z] at q1
      obtain ⟨F2, S2, A2, rp⟩ := fz_ok S1 r1 z
      refine ⟨ι1, F2, l2, h2, d, S2, rp, ?_⟩
      simp only at q1
      cases y : g d l2 h2 with
      | no => simp only [y] at q1; exact False.elim q1
      | ex x l h => simp only [y] at q1; exact False.elim q1
      | ok fl l3 h3 =>
        cases fl with
        | nx =>
          simp only [y] at q1 ⊢
          exact fun σ' ι' F' H' _ A S' => q1 σ' ι' F' H' (A2.trans A) S'
        | _ => simp only [y] at q1; exact False.elim q1⟩
end
end VL
set_option maxRecDepth 100000
set_option maxHeartbeats 2000000
namespace VL
open PySem PySem.Spec PyProof.Rows L2

/-! ### for -/
def forL (g : FG) (fb : FS) : List D → FS
  | [], l, h => .ok .nx l h
  | d :: ds, l, h => match g d l h with
    | .ok .nx l h => (fb l h).bind fun fl l h => match fl with
      | .nx => forL g fb ds l h
      | .ct => forL g fb ds l h
      | .bk => .ok .nx l h
      | .rt w => .ok (.rt w) l h
      | .ro d => .ok (.ro d) l h
    | _ => .no
def sFor (fi : FI) (g : FG) (fb : FS) : FS := fun l h => (fi l h).bind fun ds l h => forL g fb ds l h
theorem Kp.refl {F : Addr → Prop} {H : Hp} : Kp F F H H := ⟨fun _ f => f, fun _ _ _ z => z⟩
theorem Kp.trans {F F' F'' : Addr → Prop} {H H' H'' : Hp} (a : Kp F F' H H') (b : Kp F' F'' H' H'') : Kp F F'' H H'' := ⟨fun x f => b.mono x (a.mono x f), fun x o f z => b.keep x o (a.mono x f) (a.keep x o f z)⟩
section
variable {X : Cx} {Wx : WX} {fi : FI} {g : FG} {fb : FS} {tg : Expr} {pos : Pos}
theorem vs_for {iter : Expr} {body : List Stmt} (hp : PassesOwn (model X.prog X.w) X.A X.env X.xe) (hc : X.calm = true) (hi : VI X Wx tg iter fi) {vs : List Nat} (hg : VG X tg vs g) (hb : VSs X Wx body fb)
    (hs : ∀ x, foldedSetIterable iter X.env x = pure x := by intro _; rfl) : VS X Wx (.For tg iter body [] pos) (sFor fi g fb) := PS.imp (ps_for hp hc hi hg hb hs) fun D σ H ⟨ι, F, l, h, S, q⟩ =>
  ⟨ι, F, l, h, S, Sat.cutS q fun ds l1 h1 J ι1 F1 H1 a1 S1 y1 q1 => by
    refine ⟨fun i m σ' H' => i ≤ ds.length ∧ m = ds.length - i ∧ ∃ ι2 F2 l2 h2, Sim X.K ι2 F2 l2 h2 σ' H' ∧ Kp F1 F2 H1 H' ∧ SatS X.K Wx ι2 F2 l2 σ' H' (forL g fb (ds.drop i) l2 h2) D, ⟨_, Nat.zero_le _, rfl, ι1, F1, l1, h1, S1, Kp.refl, q1⟩, ?_⟩
    rintro i m σ2 H2 ⟨hi, rfl, ι2, F2, l2, h2, S2, k2, q2⟩
    rcases Nat.lt_or_ge i ds.length with c | c
    · refine .inr ⟨y1.go i F2 H2 k2 c, fun σ' H' => i + 1 ≤ ds.length ∧ ∃ ι3 F3 l3 h3, Sim X.K ι3 F3 l3 h3 σ' H' ∧ Kp F1 F3 H1 H' ∧ SatS X.K Wx ι3 F3 l3 σ' H' (forL g fb (ds.drop (i + 1)) l3 h3) D, fun σ' H' ⟨c', z⟩ => ⟨ds.length - (i + 1), by omega, c', rfl, z⟩, fun x H' yy => ?_⟩
      have ed : ds.drop i = ds[i] :: ds.drop (i + 1) := List.drop_eq_getElem_cons c
      obtain ⟨F3, S3, A3, rp⟩ := y1.yld i ds[i] ι2 F2 l2 h2 σ2 H2 x H' (List.getElem?_eq_getElem c) S2 k2 yy
      rw [ed] at q2
      have q3 := SatS.later A3 q2
      unfold forL at q3
      refine ⟨ι2, F3, l2, h2, ds[i], S3, rp, ?_⟩
      cases e : g ds[i] l2 h2 with
      | no => simp only [e] at q3; exact q3
      | ex x l3 h3 => simp only [e] at q3; exact q3
      | ok fl l3 h3 =>
        cases fl with
        | nx =>
          simp only [e] at q3 ⊢
          intro σ' ι' F' H'' _ A S'
          refine ⟨ι', F', l3, h3, S', ?_⟩
          have q4 := SatS.later A q3
          have k4 : Kp F1 F' H1 H'' := k2.trans (A3.ext.kp.trans A.ext.kp)
          cases e2 : fb l3 h3 with
          | no => rw [e2] at q4; exact q4
          | ex x l4 h4 => rw [e2] at q4; exact q4
          | ok fl l4 h4 =>
            rw [e2] at q4
            cases fl with
            | nx => exact fun σ4 ι4 F4 H4 A4 S4 => ⟨c, ι4, F4, l4, h4, S4, k4.trans A4.ext.kp, SatS.later A4 q4⟩
            | ct => exact fun σ4 ι4 F4 H4 A4 S4 => ⟨c, ι4, F4, l4, h4, S4, k4.trans A4.ext.kp, SatS.later A4 q4⟩
            | bk => exact q4
            | rt w => exact q4
            | ro d => exact q4
        | rt w => simp only [e] at q3; exact q3
        | ro d => simp only [e] at q3; exact q3
        | bk => simp only [e] at q3; exact q3
        | ct => simp only [e] at q3; exact q3
    · have : i = ds.length := Nat.le_antisymm hi c
      subst this
      refine .inl ⟨y1.stop F2 H2 k2, ?_⟩
      rw [List.drop_length] at q2
      exact q2 σ2 ι2 F2 H2 Aft.refl S2⟩
end

/-! ### while -/
def whL (c : FT) (fb : FS) : Nat → FS
  | 0, _, _ => .no
  | n + 1, l, h => (c l h).bind fun b l h => match b with
    | true => (fb l h).bind fun fl l h => (match fl with
      | .nx => whL c fb n l h
      | .ct => whL c fb n l h
      | .bk => .ok .nx l h
      | .rt w => .ok (.rt w) l h
      | .ro d => .ok (.ro d) l h)
    | false => .ok .nx l h
theorem whL_more {c : FT} {fb : FS} : ∀ {n : Nat} {l : Ls} {h : Hs}, whL c fb n l h ≠ .no → whL c fb (n + 1) l h = whL c fb n l h
  | 0, l, h, e => absurd rfl e
  | n + 1, l, h, e => by
    have ih := @whL_more c fb n
    rw [whL]
    conv => rhs; rw [whL]
    rw [whL] at e
    cases e1 : c l h with
    | no => rfl
    | ex x l1 h1 => rfl
    | ok b l1 h1 =>
      rw [e1] at e
      cases b with
      | false => rfl
      | true =>
        simp only [R.bind] at e ⊢
        cases e2 : fb l1 h1 with
        | no => rfl
        | ex x l2 h2 => rfl
        | ok fl l2 h2 =>
          rw [e2] at e
          cases fl with
          | nx => exact ih e
          | ct => exact ih e
          | bk => rfl
          | rt w => rfl
          | ro d => rfl
theorem whL_le {c : FT} {fb : FS} {n : Nat} {l : Ls} {h : Hs} (e : whL c fb n l h ≠ .no) : ∀ k, whL c fb (n + k) l h = whL c fb n l h
  | 0 => rfl
  | k + 1 => by
    have ih := whL_le e k
    rw [← Nat.add_assoc, whL_more (by rw [ih]; exact e), ih]
open Classical in
noncomputable def sWhile (c : FT) (fb : FS) : FS := fun l h => if z : ∃ n, whL c fb n l h ≠ .no then whL c fb z.choose l h else .no
theorem sWhile_eq {c : FT} {fb : FS} {l : Ls} {h : Hs} {r : R Fl} (n : Nat) (e : whL c fb n l h = r) (ne : r ≠ .no) : sWhile c fb l h = r := by
  have z : ∃ n, whL c fb n l h ≠ .no := ⟨n, by rw [e]; exact ne⟩
  unfold sWhile
  rw [dif_pos z]
  have zs := z.choose_spec
  have ne' : whL c fb n l h ≠ .no := by rw [e]; exact ne
  rcases Nat.le_total n z.choose with c1 | c1
  · obtain ⟨k, hk⟩ := Nat.exists_eq_add_of_le c1
    rw [hk, whL_le ne', e]
  · obtain ⟨k, hk⟩ := Nat.exists_eq_add_of_le c1
    rw [← e, hk, whL_le zs]
section
variable {X : Cx} {Wx : WX} {fc : FT} {fb : FS} {c : Expr} {pos : Pos}
theorem vs_while {body : List Stmt} (hp : PassesOwn (model X.prog X.w) X.A X.env X.xe) (hc : VT X Wx c fc) (hb : VSs X Wx body fb) : VS X Wx (.While c body [] pos) (sWhile fc fb) := PS.imp (ps_while hp hc hb) fun D σ H ⟨ι, F, l, h, S, q⟩ => by
  unfold sWhile at q
  split at q
  · rename_i z
    refine ⟨fun m σ' H' => ∃ ι2 F2 l2 h2, Sim X.K ι2 F2 l2 h2 σ' H' ∧ SatS X.K Wx ι2 F2 l2 σ' H' (whL fc fb m l2 h2) D, ⟨z.choose, ι, F, l, h, S, q⟩, ?_⟩
    rintro m σ2 H2 ⟨ι2, F2, l2, h2, S2, q2⟩
    cases m with
    | zero => exact False.elim q2
    | succ m =>
      refine ⟨ι2, F2, l2, h2, S2, Sat.cutS (rel := relB) q2 fun b l3 h3 b' ι3 F3 H3 A3 S3 e q3 => ?_⟩
      cases (show b = b' from e)
      cases b with
      | false => exact q3 σ2 ι3 F3 H3 Aft.refl S3
      | true =>
        refine ⟨fun σ' H' => ∃ ι2 F2 l2 h2, Sim X.K ι2 F2 l2 h2 σ' H' ∧ SatS X.K Wx ι2 F2 l2 σ' H' (whL fc fb m l2 h2) D, fun σ' H' z => ⟨m, Nat.lt_succ_self m, z⟩, ι3, F3, l3, h3, S3, ?_⟩
        simp only at q3
        cases e2 : fb l3 h3 with
        | no => rw [e2] at q3; exact q3
        | ex x l4 h4 => rw [e2] at q3; exact q3
        | ok fl l4 h4 =>
          rw [e2] at q3
          cases fl with
          | nx => exact fun σ4 ι4 F4 H4 A4 S4 => ⟨ι4, F4, l4, h4, S4, SatS.later A4 q3⟩
          | ct => exact fun σ4 ι4 F4 H4 A4 S4 => ⟨ι4, F4, l4, h4, S4, SatS.later A4 q3⟩
          | bk => exact q3
          | rt w => exact q3
          | ro d => exact q3
  · exact False.elim q
end

/-! ### comprehensions -/
def wipeL (l : Ls) : List Nat → Ls
  | [] => l
  | v :: vs => (wipeL l vs).set v .e
/-- a name's slot behind a comprehension that hid it -/
def keepS : Option Sl → Sl
  | some (.v d) => .v d
  | some (.r n) => .r n
  | _ => .e
def resL (l0 l : Ls) : List Nat → Ls
  | [] => l
  | v :: vs => (resL l0 l vs).set v (keepS l0[v]?)
def noM (l : Ls) (vs : List Nat) : Bool := vs.all fun v => match l[v]? with
  | some (.m _ _) => false
  | _ => true
def lcL (g : FG) (ft : FT) (fe : FE) (vs : List Nat) : List D → List D → Ls → Hs → R (List D)
  | [], acc, l, h => .ok acc l h
  | d :: ds, acc, l, h => match g d l h with
    | .ok .nx l h => (match ft l h with
      | .ok true l h => (match fe l h with
        | .ok w l h => (match fz l h w with
          | some (d', l, h) => lcL g ft fe vs ds (acc ++ [d']) (wipeL l vs) h
          | none => .no)
        | _ => .no)
      | .ok false l h => lcL g ft fe vs ds acc (wipeL l vs) h
      | _ => .no)
    | _ => .no
def fLc (fi : FI) (g : FG) (ft : FT) (fe : FE) (vs : List Nat) : FL := fun l h => (fi l h).bind fun ds l h => match noM l vs && sz ds.length with
  | true => (match lcL g ft fe vs ds [] (wipeL l vs) h with
    | .ok acc l' h => .ok (.lst acc) (resL l l' vs) h
    | _ => .no)
  | false => .no
def fYes : FT := fun l h => .ok true l h
section
variable {K : PySem.W.Frag} {ι ι' : List Addr} {F F' : Addr → Prop} {l l' l0 : Ls} {h h' : Hs} {σ σ' : L2.St} {H H' : Hp} {a : Addr}
theorem wipeL_len : ∀ {vs : List Nat}, (wipeL l vs).length = l.length
  | [] => rfl
  | v :: vs => by unfold wipeL; rw [List.length_set, wipeL_len]
theorem resL_len : ∀ {vs : List Nat}, (resL l0 l vs).length = l.length
  | [] => rfl
  | v :: vs => by unfold resL; rw [List.length_set, resL_len]
theorem wipeL_get {i : Nat} {x : Sl} : ∀ {vs : List Nat}, (wipeL l vs)[i]? = some x → x = .e ∨ (l[i]? = some x ∧ i ∉ vs)
  | [], e => .inr ⟨e, by simp⟩
  | v :: vs, e => by
    unfold wipeL at e
    by_cases c : v = i
    · subst c
      by_cases c2 : v < (wipeL l vs).length
      · rw [List.getElem?_set_self c2] at e
        cases e
        exact .inl rfl
      · rw [List.getElem?_eq_none (by rw [List.length_set]; omega)] at e
        cases e
    · rw [List.getElem?_set_ne c] at e
      rcases wipeL_get e with z | ⟨z1, z2⟩
      · exact .inl z
      · exact .inr ⟨z1, by simp only [List.mem_cons, not_or]; exact ⟨fun e => c e.symm, z2⟩⟩
theorem wipeL_out {i : Nat} : ∀ {vs : List Nat}, i ∉ vs → (wipeL l vs)[i]? = l[i]?
  | [], _ => rfl
  | v :: vs, n => by
    unfold wipeL
    rw [List.getElem?_set_ne (fun e => n (by rw [e]; exact List.mem_cons_self))]
    exact wipeL_out fun m => n (List.mem_cons_of_mem _ m)
theorem resL_out {i : Nat} : ∀ {vs : List Nat}, i ∉ vs → (resL l0 l vs)[i]? = l[i]?
  | [], _ => rfl
  | v :: vs, n => by
    unfold resL
    rw [List.getElem?_set_ne (fun e => n (by rw [e]; exact List.mem_cons_self))]
    exact resL_out fun m => n (List.mem_cons_of_mem _ m)
theorem resL_get {i : Nat} {x : Sl} : ∀ {vs : List Nat}, (resL l0 l vs)[i]? = some x → (l[i]? = some x ∧ i ∉ vs) ∨ (i ∈ vs ∧ x = keepS l0[i]?)
  | [], e => .inl ⟨e, by simp⟩
  | v :: vs, e => by
    unfold resL at e
    by_cases c : v = i
    · subst c
      by_cases c2 : v < (resL l0 l vs).length
      · rw [List.getElem?_set_self c2] at e
        cases e
        exact .inr ⟨List.mem_cons_self, rfl⟩
      · rw [List.getElem?_eq_none (by rw [List.length_set]; omega)] at e
        cases e
    · rw [List.getElem?_set_ne c] at e
      rcases resL_get e with ⟨z1, z2⟩ | ⟨z1, z2⟩
      · exact .inl ⟨z1, by simp only [List.mem_cons, not_or]; exact ⟨fun e => c e.symm, z2⟩⟩
      · exact .inr ⟨List.mem_cons_of_mem _ z1, z2⟩
theorem own_wipe {vs : List Nat} {i : Nat} (z : OwnAt (wipeL l vs) (wipe σ vs) i a) : OwnAt l σ i a ∧ i ∉ vs := by
  obtain ⟨b, d, e1, e2⟩ := z
  rcases wipeL_get e1 with y | ⟨y1, y2⟩
  · cases y
  · exact ⟨⟨b, d, y1, (wipe_some e2).1⟩, y2⟩
theorem own_res {vs : List Nat} {i : Nat} (z : OwnAt (resL l0 l vs) σ i a) : OwnAt l (wipe σ vs) i a ∧ i ∉ vs := by
  obtain ⟨b, d, e1, e2⟩ := z
  rcases resL_get e1 with ⟨y1, y2⟩ | ⟨y1, y2⟩
  · exact ⟨⟨b, d, y1, by rw [wipe_out y2]; exact e2⟩, y2⟩
  · unfold keepS at y2
    split at y2 <;> cases y2
theorem Sim.wipe {vs : List Nat} (S : Sim K ι F l h σ H) : Sim K ι F (wipeL l vs) h (L2.wipe σ vs) H :=
  ⟨S.hs, by rw [wipeL_len, wipe_length]; exact S.len, fun i x e => by
    rcases wipeL_get e with z | ⟨z1, z2⟩
    · exact .inl z
    · rw [wipe_out z2]
      exact S.sl i x z1, fun i j a z z' => S.one i j a (own_wipe z).1 (own_wipe z').1⟩
theorem Sim.res {vs : List Nat} (S0 : Sim K ι F l0 h σ H) (e : ι <+: ι') (k : Kp F F' H H') (S : Sim K ι' F' l h' (L2.wipe σ vs) H') : Sim K ι' F' (resL l0 l vs) h' σ H' :=
  ⟨S.hs, by rw [resL_len, S.len, wipe_length], fun i x y => by
    rcases resL_get y with ⟨z1, z2⟩ | ⟨z1, z2⟩
    · have := S.sl i x z1
      rw [wipe_out z2] at this
      exact this
    · unfold keepS at z2
      split at z2
      · rename_i d e
        subst z2
        obtain ⟨v, ev, r⟩ := S0.slot e (by intro z; cases z)
        exact .inr ⟨v, ev, Rp.kp k r⟩
      · rename_i n e2
        subst z2
        obtain ⟨v, ev, a, q, z⟩ := S0.slot e2 (by intro z; cases z)
        obtain ⟨u, rfl⟩ := e
        exact .inr ⟨v, ev, a, by rw [List.getElem?_append_left (List.getElem?_eq_some_iff.mp q).1]; exact q, z⟩
      · exact .inl z2, fun i j a z z' => S.one i j a (own_res z).1 (own_res z').1⟩
theorem Aft.wiped {vs : List Nat} (A : Aft ι F (wipeL l0 vs) (L2.wipe σ vs) H ι' F' l (L2.wipe σ vs) H') (nm : noM l0 vs = true) : Aft ι F l0 σ H ι' F' (resL l0 l vs) σ H' where
  ext := A.ext.weak fun a ⟨i, z⟩ => ⟨i, (own_wipe z).1⟩
  ow := fun x ⟨i, z⟩ => (A.ow x ⟨i, (own_res z).1⟩).imp (fun ⟨j, y⟩ => ⟨j, (own_wipe y).1⟩) id
  po := fun i d e => by
    have ni : i ∉ vs := fun m => by
      have := List.all_eq_true.mp nm i m
      rw [e] at this
      cases this
    obtain ⟨d', y1, y2⟩ := A.po i d (by rw [wipeL_out ni]; exact e)
    exact ⟨d', by rw [resL_out ni]; exact y1, rfl⟩
/-- each turn the block's names are forgotten -/
theorem Sim.wiped {vs : List Nat} (S : Sim K ι F l h (L2.wipe σ vs) H) (hw : L2.wipe (L2.wipe σ vs) vs = L2.wipe σ vs) : Sim K ι F (wipeL l vs) h (L2.wipe σ vs) H := by
  have := S.wipe (vs := vs)
  rw [hw] at this
  exact this
theorem set_comm_none {σ : L2.St} {i j : Nat} : (σ.set i none).set j none = (σ.set j none).set i none := by
  by_cases c : i = j
  · rw [c]
  · exact List.set_comm none none c
theorem wipe_set {i : Nat} : ∀ {vs : List Nat}, L2.wipe (σ.set i none) vs = (L2.wipe σ vs).set i none
  | [] => rfl
  | v :: vs => by
    show (L2.wipe (σ.set i none) vs).set v none = ((L2.wipe σ vs).set v none).set i none
    rw [wipe_set, set_comm_none]
theorem wipe_idem : ∀ {vs : List Nat}, L2.wipe (L2.wipe σ vs) vs = L2.wipe σ vs
  | [] => rfl
  | v :: vs => by
    show (L2.wipe ((L2.wipe σ vs).set v none) vs).set v none = (L2.wipe σ vs).set v none
    rw [wipe_set, wipe_idem, List.set_set]
end
abbrev VTs (X : Cx) (Wx : WX) (es : List Expr) (f : FT) : Prop := PTs X es (tT X.K Wx f)
/-- no exception -/
abbrev WN : WX := fun _ _ _ _ => False

/-- a place beside everything -/
structure Off (ι : List Addr) (F : Addr → Prop) (l : Ls) (σ : L2.St) (D : Addr) : Prop where
  nF : ¬ F D
  nι : D ∉ ι
  nO : ¬ Ow l σ D
/-- what a comprehension's walk promises, at the slots σ with the block's names forgotten, the new list at D -/
def SatC (K : PySem.W.Frag) (vs : List Nat) (D : Addr) (ι : List Addr) (F : Addr → Prop) (l : Ls) (σ : L2.St) (H : Hp) (r : R (List VL.D)) (Q : VK) : Prop := match r with
  | .ok acc l' h' => ∀ ι' F' H', Aft ι F l (L2.wipe σ vs) H ι' F' l' (L2.wipe σ vs) H' → Sim K ι' F' l' h' (L2.wipe σ vs) H' → Off ι' F' l' (L2.wipe σ vs) D → Own K F' H' D (.lst acc) → Q (.ref D) H'
  | _ => False
theorem SatC.later0 {K : PySem.W.Frag} {vs : List Nat} {D : Addr} {ι ι' : List Addr} {F F' : Addr → Prop} {l l' : Ls} {σ : L2.St} {H H' : Hp} {r : R (List VL.D)} {Q : VK} (a : Aft ι F l (L2.wipe σ vs) H ι' F' l' (L2.wipe σ vs) H') (q : SatC K vs D ι F l σ H r Q) : SatC K vs D ι' F' l' σ H' r Q := by
  cases r with
  | ok x l2 h2 => exact fun ι2 F2 H2 a2 => q ι2 F2 H2 (a.trans a2)
  | ex x l2 h2 => exact q
  | no => exact q
section
variable {K : PySem.W.Frag} {ι ι' : List Addr} {F F' : Addr → Prop} {l l' l0 : Ls} {h h' : Hs} {σ σ' : L2.St} {H H' : Hp} {a D : Addr} {o : HO} {vs ws : List Nat}
theorem Off.aft (n : Off ι F l σ D) (e : H D = some o) (A : Aft ι F l σ H ι' F' l' σ' H') : Off ι' F' l' σ' D ∧ H' D = some o := by
  refine ⟨⟨fun f => ?_, fun m => ?_, fun z => ?_⟩, A.ext.keep D o e (.inr ⟨n.nι, n.nO⟩)⟩
  · rcases A.ext.newF D f with z | z | z | z
    · exact n.nF z
    · exact n.nι z
    · exact n.nO z
    · rw [e] at z; cases z
  · have z := A.ext.new D m n.nι
    rw [e] at z; cases z
  · rcases A.ow D z with y | y
    · exact n.nO y
    · rw [e] at y; cases y
/-- beside everything, something is written -/
theorem Off.put {u : HO} (n : Off ι F l σ D) (S : Sim K ι F l h σ H) (e : H D = some o) : Sim K ι F l h σ (upd H D u) ∧ (∀ ds us, RpL K F H ds us → RpL K F (upd H D u) ds us) := by
  have kp : Kp F F H (upd H D u) := ⟨fun _ f => f, fun b o f z => by rw [upd_ne fun e => n.nF (by rw [← e]; exact f)]; exact z⟩
  have ext : Ext (fun b => b = D) ι F H ι F (upd H D u) := ⟨List.prefix_refl _, fun _ f => f, fun b o z y => by
    rw [upd_ne]
    · exact z
    · intro e
      rcases y with y | ⟨_, y⟩
      · exact n.nF (e ▸ y)
      · exact y e, fun _ x y => absurd x y, fun _ f => .inl f, fun b o z => by
      by_cases c : b = D
      · subst c; exact ⟨_, upd_same⟩
      · exact ⟨o, by rw [upd_ne c]; exact z⟩⟩
  exact ⟨S.over ext (S.hs.grow ext (fun b m o z => by rw [upd_ne fun e => n.nι (by rw [← e]; exact m)]; exact z) (fun b _ f => f) fun b f => by
    obtain ⟨o, z⟩ := S.hs.fk b f
    exact ext.there b o z) fun b z y => n.nO (by rw [← y]; exact z), fun ds us r => r.kp kp⟩
/-- .. at a place that was free -/
theorem Aft.put {u : HO} (A : Aft ι F l σ H ι' F' l' σ' H') (e : H D = none) : Aft ι F l σ H ι' F' l' σ' (upd H' D u) where
  ext := ⟨A.ext.pre, A.ext.mono, fun a o z y => by
    rw [upd_ne fun c => by rw [c, e] at z; cases z]
    exact A.ext.keep a o z y, A.ext.new, A.ext.newF, fun a o z => by
    rw [upd_ne fun c => by rw [c, e] at z; cases z]
    exact A.ext.there a o z⟩
  ow := A.ow
  po := A.po
/-- a turn's end: the block's names forgotten -/
theorem Sim.turn (S : Sim K ι F l h σ' H) (hw : L2.wipe σ' vs = L2.wipe σ vs) : Sim K ι F (wipeL l vs) h (L2.wipe σ vs) H := by
  have := S.wipe (vs := vs)
  rw [hw] at this
  exact this
theorem wipe_none {i : Nat} : ∀ {us : List Nat}, i ∈ us → ∀ v, (L2.wipe σ us)[i]? ≠ some (some v)
  | u :: us, m, v, e => by
    have := (wipe_some e).2
    exact this m
theorem Aft.turn (A : Aft ι F l (L2.wipe σ vs) H ι' F' l' σ' H') (S : Sim K ι F l h (L2.wipe σ vs) H) (hw : L2.wipe σ' vs = L2.wipe σ vs) : Aft ι F l (L2.wipe σ vs) H ι' F' (wipeL l' vs) (L2.wipe σ vs) H' where
  ext := A.ext
  ow := fun x ⟨i, z⟩ => by
    rw [← hw] at z
    exact A.ow x ⟨i, (own_wipe z).1⟩
  po := fun i d e => by
    have ni : i ∉ vs := fun m => by
      rcases S.sl i _ e with z | ⟨v, ev, _⟩
      · cases z
      · exact wipe_none m v ev
    obtain ⟨d', y1, y2⟩ := A.po i d e
    exact ⟨d', by rw [wipeL_out ni]; exact y1, rfl⟩
theorem wipe_len2 : (L2.wipe σ vs).length = σ.length := wipe_length σ vs
theorem wipe_only (o : Only ws (L2.wipe σ vs) σ') (s : ∀ i, i ∈ ws → i ∈ vs) : L2.wipe σ' vs = L2.wipe σ vs := by
  refine List.ext_getElem? fun i => ?_
  by_cases c : i ∈ vs
  · have gen : ∀ {τ : L2.St} {us : List Nat}, i ∈ us → (L2.wipe τ us)[i]? = (if i < τ.length then some none else none) := by
      intro τ us
      induction us with
      | nil => intro m; cases m
      | cons u us ih =>
        intro m
        show ((L2.wipe τ us).set u none)[i]? = _
        by_cases e : u = i
        · subst e
          by_cases c2 : u < τ.length
          · rw [if_pos c2, List.getElem?_set_self (by rw [wipe_len2]; exact c2)]
          · rw [if_neg c2, List.getElem?_eq_none (by rw [List.length_set, wipe_len2]; omega)]
        · rw [List.getElem?_set_ne e]
          exact ih ((List.mem_cons.mp m).elim (fun z => absurd z.symm e) id)
    rw [gen c, gen c, o.1, wipe_len2]
  · rw [wipe_out c, o.2 i fun m => c (s i m)]
end
section
variable {X : Cx} {Wx : WX} {elt tg iter : Expr} {ifs : List Expr} {scope : Scope} {own : List (Str × Nat)} {pos : Pos} {fi : FI} {g : FG} {ft : FT} {fe : FE} {ws : List Nat}
/-- the walk, at the new list D -/
theorem lc_turn {K : PySem.W.Frag} {ι1 : List Addr} {F1 : Addr → Prop} {l1 : Ls} {h1 : Hs} {σ : L2.St} {H1 : Hp} {J : It} {ds : List VL.D} {Q : VK} {D : Addr} {vs : List Nat} (sub : ∀ i, i ∈ ws → i ∈ vs) (hz : ds.length ≤ sizeLine)
    (S1 : Sim K ι1 F1 l1 h1 (L2.wipe σ vs) H1) (y1 : Yields K J F1 H1 ds) (hD : H1 D = none) (q : SatC K vs D ι1 F1 l1 σ H1 (lcL g ft fe vs ds [] l1 h1) Q) :
    ∃ W : Nat → Nat → Hp → Prop, (∃ m, W 0 m (upd H1 D (.lst []))) ∧ ∀ i m H, W i m H →
      (J.stop i H ∧ Q (.ref D) H) ∨ (J.go i H ∧ ∃ Nx : Hp → Prop, (∀ H', Nx H' → ∃ m', m' < m ∧ W (i + 1) m' H') ∧ ∀ x H', J.yld i H x H' → tG K ws g x (L2.wipe σ vs) H' fun σ2 H2 => L2.wipe σ2 vs = L2.wipe σ vs ∧ tT K WN ft σ2 H2 fun b H3 =>
        if b = true then tE K WN fe σ2 H3 fun y H4 => ∃ acc, H4 D = some (.lst acc) ∧ acc.length < sizeLine ∧ Nx (upd H4 D (.lst (acc ++ [y]))) else Nx H3) := by
  let T : Nat → Hp → Prop := fun i H => ∃ ι F l h acc us, i ≤ ds.length ∧ Sim K ι F l h (L2.wipe σ vs) H ∧ Aft ι1 F1 l1 (L2.wipe σ vs) H1 ι F l (L2.wipe σ vs) H ∧ Off ι F l (L2.wipe σ vs) D ∧ H D = some (.lst us) ∧ RpL K F H acc us ∧ acc.length ≤ i ∧ SatC K vs D ι1 F1 l1 σ H1 (lcL g ft fe vs (ds.drop i) acc l h) Q
  obtain ⟨n1, n2, n3⟩ := S1.none_ow hD
  refine ⟨fun i m H => m = ds.length - i ∧ T i H, ⟨_, rfl, ι1, F1, l1, h1, [], [], Nat.zero_le _, S1.laid hD, Aft.laid hD, ⟨n1, n2, n3⟩, upd_same, .nil, Nat.le_refl _, q⟩, ?_⟩
  rintro i m H ⟨rfl, ι, F, l, h, acc, us, hi, S, A, off, eD, rr, hacc, q⟩
  rcases Nat.lt_or_ge i ds.length with c | c
  · refine .inr ⟨y1.go i F H A.ext.kp c, T (i + 1), fun H' t => ⟨ds.length - (i + 1), by omega, rfl, t⟩, fun x H' yy => ?_⟩
    have ed : ds.drop i = ds[i] :: ds.drop (i + 1) := List.drop_eq_getElem_cons c
    obtain ⟨F3, S3, A3, rp⟩ := y1.yld i ds[i] ι F l h (L2.wipe σ vs) H x H' (List.getElem?_eq_getElem c) S A.ext.kp yy
    obtain ⟨off3, eD3⟩ := off.aft eD A3
    rw [ed] at q
    have q3 := q
    unfold lcL at q3
    refine ⟨ι, F3, l, h, ds[i], S3, rp, ?_⟩
    have r3 := rr.kp A3.ext.kp
    cases e : g ds[i] l h with
    | no => simp only [e] at q3; exact q3
    | ex x l3 h3 => simp only [e] at q3; exact q3
    | ok fl l4 h4 =>
      cases fl with
      | nx =>
        simp only [e] at q3 ⊢
        intro σ' ι4 F4 H4 only A4 S4
        have hw : L2.wipe σ' vs = L2.wipe σ vs := wipe_only only sub
        obtain ⟨off4, eD4⟩ := off3.aft eD3 A4
        refine ⟨hw, ι4, F4, l4, h4, S4, ?_⟩
        cases e2 : ft l4 h4 with
        | no => simp only [e2] at q3; exact q3
        | ex x l5 h5 => simp only [e2] at q3; exact q3.elim
        | ok b l5 h5 =>
          intro b' ι5 F5 H5 A5 S5 rb
          cases (show b = b' from rb)
          obtain ⟨off5, eD5⟩ := off4.aft eD4 A5
          have A35 := A4.trans A5
          cases b with
          | false =>
            simp only [e2] at q3
            have At := A35.turn S3 hw
            obtain ⟨off6, eD6⟩ := off3.aft eD3 At
            exact ⟨ι5, F5, wipeL l5 vs, h5, acc, us, c, S5.turn hw, A.trans (A3.trans At), off6, eD6, r3.kp A35.ext.kp, by omega, q3⟩
          | true =>
            simp only [e2] at q3
            refine ⟨ι5, F5, l5, h5, S5, ?_⟩
            cases e3 : fe l5 h5 with
            | no => simp only [e3] at q3; exact q3
            | ex x l6 h6 => simp only [e3] at q3; exact q3.elim
            | ok w l6 h6 =>
              simp only [e3] at q3
              intro y ι6 F6 H6 A6 S6 ry
              cases e4 : fz l6 h6 w with
              | none => simp only [e4] at q3; exact q3.elim
              | some p =>
                obtain ⟨d', l7, h7⟩ := p
                simp only [e4] at q3
                obtain ⟨F7, S7, A7, rp7⟩ := fz_ok S6 ry e4
                have A37 := A35.trans (A6.trans A7)
                obtain ⟨off7, eD7⟩ := off3.aft eD3 A37
                have At := A37.turn S3 hw
                obtain ⟨off8, eD8⟩ := off3.aft eD3 At
                obtain ⟨S9, ku⟩ := off8.put (u := .lst (us ++ [y])) (S7.turn hw) eD8
                refine ⟨us, eD7, by rw [← rr.length]; omega, ι6, F7, wipeL l7 vs, h7, acc ++ [d'], us ++ [y], c, S9, (A.trans (A3.trans At)).put hD, off8, upd_same, ku _ _ ((r3.kp A37.ext.kp).append (.one rp7)), by simp; omega, q3⟩
      | _ => simp only [e] at q3; exact q3
  · have : i = ds.length := Nat.le_antisymm hi c
    subst this
    rw [List.drop_length] at q
    exact .inl ⟨y1.stop F H A.ext.kp, q ι F H A S off ⟨us, eD, rr⟩⟩
/-- [elt for tg in iter if ..]: D the new list -/
theorem lc_t {K : PySem.W.Frag} {vs : List Nat} {σ : L2.St} {H : Hp} {Q : VK} (sub : ∀ i, i ∈ ws → i ∈ vs) (q : tL K Wx (fLc fi g ft fe vs) σ H Q) :
    tLc (tI K Wx fi) (tG K ws g) (tT K WN ft) (tE K WN fe) vs σ H Q := by
  obtain ⟨ι, F, l, h, S, q⟩ := q
  refine ⟨ι, F, l, h, S, Sat.cutL (rel := fun _ F' H' ds (J : It) => Yields K J F' H' ds) q fun ds l1 h1 J ι1 F1 H1 a1 S1 y1 q1 => ?_⟩
  cases c : (noM l1 vs && sz ds.length) with
  | false => rw [c] at q1; exact q1.elim
  | true =>
    rw [c] at q1
    rw [Bool.and_eq_true] at c
    intro D hD
    refine lc_turn sub (sz_ok c.2) S1.wipe y1 hD ?_
    simp only at q1
    cases e : lcL g ft fe vs ds [] (wipeL l1 vs) h1 with
    | no => rw [e] at q1; exact q1
    | ex x l2 h2 => rw [e] at q1; exact q1
    | ok acc l2 h2 =>
      rw [e] at q1
      intro ι' F' H' A S' off o
      exact q1 D ι' F' H' (A.wiped c.1) (S1.res A.ext.pre A.ext.kp S') off.nF off.nι (fun ⟨i, z⟩ => off.nO ⟨i, (own_res z).1⟩) o hD
theorem vl_lc (hc : X.calm = true) (hN : X.N.Nodup) (hi : VI X Wx tg iter fi) (ok : BlkOk X.N X.env.scope scope own) (sub : ∀ i, i ∈ ws → i ∈ own.map (·.2))
    (hg : ∀ (s : Shared) (H : Hp) (C : Addr) (cl : List (Str × Addr)) (fp : List Addr), VG (X.blk s H scope (compEnvC scope cl C X.env) fp) tg ws g) (ht : ∀ (s : Shared) (H : Hp) (C : Addr) (cl : List (Str × Addr)) (fp : List Addr), VTs (X.blk s H scope (compEnvC scope cl C X.env) fp) WN ifs ft)
    (he : ∀ (s : Shared) (H : Hp) (C : Addr) (cl : List (Str × Addr)) (fp : List Addr), VE (X.blk s H scope (compEnvC scope cl C X.env) fp) WN elt fe) (hs : ∀ x, foldedSetIterable iter X.env x = pure x := by intro _; rfl) :
    VL X Wx (.ListComp elt [⟨tg, iter, ifs, 0⟩] scope pos) (fLc fi g ft fe (own.map (·.2))) := PE.imp (pe_lc hc hN hi ok hg ht he hs) fun σ H Q q => lc_t sub q
theorem vts_nil : VTs X Wx [] fYes := ⟨fun pins s σ H Q I ⟨ι, F, l, h, S, q⟩ => pts_nil.run pins s σ H Q I (Sat.here S q rfl)⟩
theorem vts_one {c : Expr} {fc : FT} (h : VT X Wx c fc) : VTs X Wx [c] fc := pts_one h
/-- name = [..] on one line -/
theorem vs_setLc {i : Nat} {y : Str} {py spos : Pos} (hc : X.calm = true) (hN : X.N.Nodup) (hy : X.N[i]? = some y) (hyl : X.env.scope.names.lookup y = some .local)
    (hsw : swapsWith (.ListComp elt [⟨tg, iter, ifs, 0⟩] scope pos) (some (.Name y py)) spos.line X.env = pure true) (hi : VI X Wx tg iter fi) (ok : BlkOk X.N X.env.scope scope own) (sub : ∀ i, i ∈ ws → i ∈ own.map (·.2))
    (hg : ∀ (s : Shared) (H : Hp) (C : Addr) (cl : List (Str × Addr)) (fp : List Addr), VG (X.blk s H scope (compEnvC scope cl C X.env) fp) tg ws g) (ht : ∀ (s : Shared) (H : Hp) (C : Addr) (cl : List (Str × Addr)) (fp : List Addr), VTs (X.blk s H scope (compEnvC scope cl C X.env) fp) WN ifs ft)
    (he : ∀ (s : Shared) (H : Hp) (C : Addr) (cl : List (Str × Addr)) (fp : List Addr), VE (X.blk s H scope (compEnvC scope cl C X.env) fp) WN elt fe) (hs : ∀ x, foldedSetIterable iter X.env x = pure x := by intro _; rfl) :
    VS X Wx (.Assign [.Name y py] (.ListComp elt [⟨tg, iter, ifs, 0⟩] scope pos) spos) (sAsgM i (fLc fi g ft fe (own.map (·.2)))) := PS.imp (ps_setLc hc hN hy hyl hsw hi ok hg ht he hs) fun D σ H q => setM_t (fun σ H Q q => lc_t sub q) q
/-- .. its value frozen -/
theorem vs_setLcV {i : Nat} {y : Str} {py spos : Pos} (hc : X.calm = true) (hN : X.N.Nodup) (hy : X.N[i]? = some y) (hyl : X.env.scope.names.lookup y = some .local)
    (hsw : swapsWith (.ListComp elt [⟨tg, iter, ifs, 0⟩] scope pos) (some (.Name y py)) spos.line X.env = pure true) (hi : VI X Wx tg iter fi) (ok : BlkOk X.N X.env.scope scope own) (sub : ∀ i, i ∈ ws → i ∈ own.map (·.2))
    (hg : ∀ (s : Shared) (H : Hp) (C : Addr) (cl : List (Str × Addr)) (fp : List Addr), VG (X.blk s H scope (compEnvC scope cl C X.env) fp) tg ws g) (ht : ∀ (s : Shared) (H : Hp) (C : Addr) (cl : List (Str × Addr)) (fp : List Addr), VTs (X.blk s H scope (compEnvC scope cl C X.env) fp) WN ifs ft)
    (he : ∀ (s : Shared) (H : Hp) (C : Addr) (cl : List (Str × Addr)) (fp : List Addr), VE (X.blk s H scope (compEnvC scope cl C X.env) fp) WN elt fe) (hs : ∀ x, foldedSetIterable iter X.env x = pure x := by intro _; rfl) :
    VS X Wx (.Assign [.Name y py] (.ListComp elt [⟨tg, iter, ifs, 0⟩] scope pos) spos) (sAsg i (fOfL (fLc fi g ft fe (own.map (·.2))))) := PS.imp (ps_setLc hc hN hy hyl hsw hi ok hg ht he hs) fun D σ H q => setV_t (fun σ H Q q => lc_t sub q) q
end
end VL
set_option maxRecDepth 100000
set_option maxHeartbeats 2000000
namespace VL
open PySem PySem.Spec PyProof.Rows L2

/-! ### comprehensions with two clauses -/
section
variable {K : PySem.W.Frag} {ι ι' : List Addr} {F F' : Addr → Prop} {l l' l0 : Ls} {h h' : Hs} {σ σ' : L2.St} {H H' : Hp} {a D : Addr} {o : HO} {vs ws : List Nat}
theorem Off.put2 {u : HO} (n : Off ι F l σ D) (S : Sim K ι F l h σ H) (e : H D = some o) : Sim K ι F l h σ (upd H D u) ∧ Kp F F H (upd H D u) ∧ (∀ ds us, RpL K F H ds us → RpL K F (upd H D u) ds us) :=
  ⟨(n.put S e).1, ⟨fun _ f => f, fun b o f z => by rw [upd_ne fun e => n.nF (by rw [← e]; exact f)]; exact z⟩, (n.put S e).2⟩
theorem wipe_in {i : Nat} : ∀ {us : List Nat}, i ∈ us → (L2.wipe σ us)[i]? = (if i < σ.length then some none else none)
  | u :: us, m => by
    show ((L2.wipe σ us).set u none)[i]? = _
    by_cases e : u = i
    · subst e
      by_cases c2 : u < σ.length
      · rw [if_pos c2, List.getElem?_set_self (by rw [wipe_len2]; exact c2)]
      · rw [if_neg c2, List.getElem?_eq_none (by rw [List.length_set, wipe_len2]; omega)]
    · rw [List.getElem?_set_ne e]
      exact wipe_in ((List.mem_cons.mp m).elim (fun z => absurd z.symm e) id)
theorem wipe_sub (s : ∀ i, i ∈ ws → i ∈ vs) : L2.wipe (L2.wipe σ ws) vs = L2.wipe σ vs := by
  refine List.ext_getElem? fun i => ?_
  by_cases c : i ∈ vs
  · rw [wipe_in c, wipe_in c, wipe_len2]
  · rw [wipe_out c, wipe_out c, wipe_out fun m => c (s i m)]
theorem Aft.wipeR (A : Aft ι F l σ H ι' F' l' σ' H') (nm : noM l' vs = true) : Aft ι F l σ H ι' F' (wipeL l' vs) (L2.wipe σ' vs) H' where
  ext := A.ext
  ow := fun x ⟨i, z⟩ => A.ow x ⟨i, (own_wipe z).1⟩
  po := fun i d e => by
    obtain ⟨d', y1, y2⟩ := A.po i d e
    have ni : i ∉ vs := fun m => by
      have := List.all_eq_true.mp nm i m
      rw [y1] at this
      cases this
    exact ⟨d', by rw [wipeL_out ni]; exact y1, by rw [wipe_out ni]; exact y2⟩
theorem Off.wipe (n : Off ι F l σ D) : Off ι F (wipeL l vs) (L2.wipe σ vs) D := ⟨n.nF, n.nι, fun ⟨i, z⟩ => n.nO ⟨i, (own_wipe z).1⟩⟩
end
def lc2L (g : FG) (ft : FT) (fi1 : FI) (g1 : FG) (ft1 : FT) (fe : FE) (vs vs1 : List Nat) : List D → List D → Ls → Hs → R (List D)
  | [], acc, l, h => .ok acc l h
  | d :: ds, acc, l, h => match g d l h with
    | .ok .nx l h => (match ft l h with
      | .ok true l h => (match fi1 l h with
        | .ok es l h => (match noM l vs1 && sz (acc.length + es.length) with
          | true => (match lcL g1 ft1 fe vs1 es acc (wipeL l vs1) h with
            | .ok acc l h => lc2L g ft fi1 g1 ft1 fe vs vs1 ds acc (wipeL l vs) h
            | _ => .no)
          | false => .no)
        | _ => .no)
      | .ok false l h => lc2L g ft fi1 g1 ft1 fe vs vs1 ds acc (wipeL l vs) h
      | _ => .no)
    | _ => .no
def fLc2 (fi : FI) (g : FG) (ft : FT) (fi1 : FI) (g1 : FG) (ft1 : FT) (fe : FE) (vs vs1 : List Nat) : FL := fun l h => (fi l h).bind fun ds l h => match noM l vs with
  | true => (match lc2L g ft fi1 g1 ft1 fe vs vs1 ds [] (wipeL l vs) h with
    | .ok acc l' h => .ok (.lst acc) (resL l l' vs) h
    | _ => .no)
  | false => .no
section
variable {X : Cx} {Wx : WX} {elt tg iter tg1 iter1 : Expr} {ifs ifs1 : List Expr} {scope : Scope} {own : List (Str × Nat)} {pos : Pos} {fi fi1 : FI} {g g1 : FG} {ft ft1 : FT} {fe : FE} {ws ws1 vs1 : List Nat}
/-- what a walk promises, seen from an earlier state -/
def SatB (K : PySem.W.Frag) (τ : L2.St) (D : Addr) (ι : List Addr) (F : Addr → Prop) (l : Ls) (σ : L2.St) (H : Hp) (r : R (List VL.D)) (N : Hp → Prop) : Prop := match r with
  | .ok acc l' h' => ∀ ι' F' H' us, Aft ι F l σ H ι' F' l' τ H' → Sim K ι' F' l' h' τ H' → Off ι' F' l' τ D → H' D = some (.lst us) → RpL K F' H' acc us → N H'
  | _ => False
/-- the walk, the list at D under way -/
theorem lc_turnG {K : PySem.W.Frag} {ι0 : List Addr} {F0 : Addr → Prop} {l0 : Ls} {σ0 : L2.St} {H0 : Hp} {ι1 : List Addr} {F1 : Addr → Prop} {l1 : Ls} {h1 : Hs} {σ : L2.St} {H1 : Hp} {J : It} {ds acc1 : List VL.D} {us1 : List V} {N : Hp → Prop} {D : Addr} {vs : List Nat} (sub : ∀ i, i ∈ ws → i ∈ vs) (hz : acc1.length + ds.length ≤ sizeLine)
    (S1 : Sim K ι1 F1 l1 h1 (L2.wipe σ vs) H1) (y1 : Yields K J F1 H1 ds) (hD : H0 D = none) (A1 : Aft ι0 F0 l0 σ0 H0 ι1 F1 l1 (L2.wipe σ vs) H1) (off1 : Off ι1 F1 l1 (L2.wipe σ vs) D) (eD1 : H1 D = some (.lst us1)) (rr1 : RpL K F1 H1 acc1 us1) (q : SatB K (L2.wipe σ vs) D ι0 F0 l0 σ0 H0 (lcL g ft fe vs ds acc1 l1 h1) N) :
    ∃ W : Nat → Nat → Hp → Prop, (∃ m, W 0 m H1) ∧ ∀ i m H, W i m H →
      (J.stop i H ∧ N H) ∨ (J.go i H ∧ ∃ Nx : Hp → Prop, (∀ H', Nx H' → ∃ m', m' < m ∧ W (i + 1) m' H') ∧ ∀ x H', J.yld i H x H' → tG K ws g x (L2.wipe σ vs) H' fun σ2 H2 => L2.wipe σ2 vs = L2.wipe σ vs ∧ tT K WN ft σ2 H2 fun b H3 =>
        if b = true then tE K WN fe σ2 H3 fun y H4 => ∃ acc, H4 D = some (.lst acc) ∧ acc.length < sizeLine ∧ Nx (upd H4 D (.lst (acc ++ [y]))) else Nx H3) := by
  let T : Nat → Hp → Prop := fun i H => ∃ ι F l h acc us, i ≤ ds.length ∧ Sim K ι F l h (L2.wipe σ vs) H ∧ Aft ι0 F0 l0 σ0 H0 ι F l (L2.wipe σ vs) H ∧ Kp F1 F H1 H ∧ Off ι F l (L2.wipe σ vs) D ∧ H D = some (.lst us) ∧ RpL K F H acc us ∧ acc.length ≤ acc1.length + i ∧ SatB K (L2.wipe σ vs) D ι0 F0 l0 σ0 H0 (lcL g ft fe vs (ds.drop i) acc l h) N
  refine ⟨fun i m H => m = ds.length - i ∧ T i H, ⟨_, rfl, ι1, F1, l1, h1, acc1, us1, Nat.zero_le _, S1, A1, Kp.refl, off1, eD1, rr1, Nat.le_refl _, q⟩, ?_⟩
  rintro i m H ⟨rfl, ι, F, l, h, acc, us, hi, S, A, kk, off, eD, rr, hacc, q⟩
  rcases Nat.lt_or_ge i ds.length with c | c
  · refine .inr ⟨y1.go i F H kk c, T (i + 1), fun H' t => ⟨ds.length - (i + 1), by omega, rfl, t⟩, fun x H' yy => ?_⟩
    have ed : ds.drop i = ds[i] :: ds.drop (i + 1) := List.drop_eq_getElem_cons c
    obtain ⟨F3, S3, A3, rp⟩ := y1.yld i ds[i] ι F l h (L2.wipe σ vs) H x H' (List.getElem?_eq_getElem c) S kk yy
    obtain ⟨off3, eD3⟩ := off.aft eD A3
    rw [ed] at q
    have q3 := q
    unfold lcL at q3
    refine ⟨ι, F3, l, h, ds[i], S3, rp, ?_⟩
    have r3 := rr.kp A3.ext.kp
    cases e : g ds[i] l h with
    | no => simp only [e] at q3; exact q3
    | ex x l3 h3 => simp only [e] at q3; exact q3
    | ok fl l4 h4 =>
      cases fl with
      | nx =>
        simp only [e] at q3 ⊢
        intro σ' ι4 F4 H4 only A4 S4
        have hw : L2.wipe σ' vs = L2.wipe σ vs := wipe_only only sub
        obtain ⟨off4, eD4⟩ := off3.aft eD3 A4
        refine ⟨hw, ι4, F4, l4, h4, S4, ?_⟩
        cases e2 : ft l4 h4 with
        | no => simp only [e2] at q3; exact q3
        | ex x l5 h5 => simp only [e2] at q3; exact q3.elim
        | ok b l5 h5 =>
          intro b' ι5 F5 H5 A5 S5 rb
          cases (show b = b' from rb)
          obtain ⟨off5, eD5⟩ := off4.aft eD4 A5
          have A35 := A4.trans A5
          cases b with
          | false =>
            simp only [e2] at q3
            have At := A35.turn S3 hw
            obtain ⟨off6, eD6⟩ := off3.aft eD3 At
            exact ⟨ι5, F5, wipeL l5 vs, h5, acc, us, c, S5.turn hw, A.trans (A3.trans At), kk.trans (A3.ext.kp.trans At.ext.kp), off6, eD6, r3.kp A35.ext.kp, by omega, q3⟩
          | true =>
            simp only [e2] at q3
            refine ⟨ι5, F5, l5, h5, S5, ?_⟩
            cases e3 : fe l5 h5 with
            | no => simp only [e3] at q3; exact q3
            | ex x l6 h6 => simp only [e3] at q3; exact q3.elim
            | ok w l6 h6 =>
              simp only [e3] at q3
              intro y ι6 F6 H6 A6 S6 ry
              cases e4 : fz l6 h6 w with
              | none => simp only [e4] at q3; exact q3.elim
              | some p =>
                obtain ⟨d', l7, h7⟩ := p
                simp only [e4] at q3
                obtain ⟨F7, S7, A7, rp7⟩ := fz_ok S6 ry e4
                have A37 := A35.trans (A6.trans A7)
                obtain ⟨off7, eD7⟩ := off3.aft eD3 A37
                have At := A37.turn S3 hw
                obtain ⟨off8, eD8⟩ := off3.aft eD3 At
                obtain ⟨S9, kp9, ku⟩ := off8.put2 (u := .lst (us ++ [y])) (S7.turn hw) eD8
                refine ⟨us, eD7, by rw [← rr.length]; omega, ι6, F7, wipeL l7 vs, h7, acc ++ [d'], us ++ [y], c, S9, (A.trans (A3.trans At)).put hD, kk.trans ((A3.ext.kp.trans At.ext.kp).trans kp9), off8, upd_same, ku _ _ ((r3.kp A37.ext.kp).append (.one rp7)), by simp; omega, q3⟩
      | _ => simp only [e] at q3; exact q3
  · have : i = ds.length := Nat.le_antisymm hi c
    subst this
    rw [List.drop_length] at q
    exact .inl ⟨y1.stop F H kk, q ι F H us A S off eD rr⟩


theorem lc2_turn {K : PySem.W.Frag} {ι1 : List Addr} {F1 : Addr → Prop} {l1 : Ls} {h1 : Hs} {σ : L2.St} {H1 : Hp} {J : It} {ds : List VL.D} {N : Hp → Prop} {D : Addr} {vs : List Nat} (sub : ∀ i, i ∈ ws → i ∈ vs) (sub1 : ∀ i, i ∈ ws1 → i ∈ vs1) (sub2 : ∀ i, i ∈ vs1 → i ∈ vs)
    (S1 : Sim K ι1 F1 l1 h1 (L2.wipe σ vs) H1) (y1 : Yields K J F1 H1 ds) (hD : H1 D = none) (q : SatB K (L2.wipe σ vs) D ι1 F1 l1 (L2.wipe σ vs) H1 (lc2L g ft fi1 g1 ft1 fe vs vs1 ds [] l1 h1) N) :
    ∃ W : Nat → Nat → Hp → Prop, (∃ m, W 0 m (upd H1 D (.lst []))) ∧ ∀ i m H, W i m H →
      (J.stop i H ∧ N H) ∨ (J.go i H ∧ ∃ Nx : Hp → Prop, (∀ H', Nx H' → ∃ m', m' < m ∧ W (i + 1) m' H') ∧ ∀ x H', J.yld i H x H' → tG K ws g x (L2.wipe σ vs) H' fun σ2 H2 => L2.wipe σ2 vs = L2.wipe σ vs ∧ tT K WN ft σ2 H2 fun b H3 =>
        if b = true then tI K WN fi1 σ2 H3 fun J1 H4 => ∃ W1 : Nat → Nat → Hp → Prop, (∃ m, W1 0 m H4) ∧ ∀ j k H, W1 j k H →
          (J1.stop j H ∧ Nx H) ∨ (J1.go j H ∧ ∃ Nx1 : Hp → Prop, (∀ H', Nx1 H' → ∃ k', k' < k ∧ W1 (j + 1) k' H') ∧ ∀ x H', J1.yld j H x H' → tG K ws1 g1 x (L2.wipe σ2 vs1) H' fun σ3 H5 => L2.wipe σ3 vs1 = L2.wipe σ2 vs1 ∧ tT K WN ft1 σ3 H5 fun b H6 =>
            if b = true then tE K WN fe σ3 H6 fun y H7 => ∃ acc, H7 D = some (.lst acc) ∧ acc.length < sizeLine ∧ Nx1 (upd H7 D (.lst (acc ++ [y]))) else Nx1 H6)
        else Nx H3) := by
  let T : Nat → Hp → Prop := fun i H => ∃ ι F l h acc us, i ≤ ds.length ∧ Sim K ι F l h (L2.wipe σ vs) H ∧ Aft ι1 F1 l1 (L2.wipe σ vs) H1 ι F l (L2.wipe σ vs) H ∧ Off ι F l (L2.wipe σ vs) D ∧ H D = some (.lst us) ∧ RpL K F H acc us ∧ SatB K (L2.wipe σ vs) D ι1 F1 l1 (L2.wipe σ vs) H1 (lc2L g ft fi1 g1 ft1 fe vs vs1 (ds.drop i) acc l h) N
  obtain ⟨n1, n2, n3⟩ := S1.none_ow hD
  refine ⟨fun i m H => m = ds.length - i ∧ T i H, ⟨_, rfl, ι1, F1, l1, h1, [], [], Nat.zero_le _, S1.laid hD, Aft.laid hD, ⟨n1, n2, n3⟩, upd_same, .nil, q⟩, ?_⟩
  rintro i m H ⟨rfl, ι, F, l, h, acc, us, hi, S, A, off, eD, rr, q⟩
  rcases Nat.lt_or_ge i ds.length with c | c
  · refine .inr ⟨y1.go i F H A.ext.kp c, T (i + 1), fun H' t => ⟨ds.length - (i + 1), by omega, rfl, t⟩, fun x H' yy => ?_⟩
    have ed : ds.drop i = ds[i] :: ds.drop (i + 1) := List.drop_eq_getElem_cons c
    obtain ⟨F3, S3, A3, rp⟩ := y1.yld i ds[i] ι F l h (L2.wipe σ vs) H x H' (List.getElem?_eq_getElem c) S A.ext.kp yy
    obtain ⟨off3, eD3⟩ := off.aft eD A3
    rw [ed] at q
    unfold lc2L at q
    refine ⟨ι, F3, l, h, ds[i], S3, rp, ?_⟩
    have r3 := rr.kp A3.ext.kp
    cases e : g ds[i] l h with
    | no => simp only [e] at q; exact q
    | ex x l3 h3 => simp only [e] at q; exact q
    | ok fl l4 h4 =>
      cases fl with
      | nx =>
        simp only [e] at q ⊢
        intro σ' ι4 F4 H4 only A4 S4
        have hw : L2.wipe σ' vs = L2.wipe σ vs := wipe_only only sub
        refine ⟨hw, ι4, F4, l4, h4, S4, ?_⟩
        cases e2 : ft l4 h4 with
        | no => simp only [e2] at q; exact q
        | ex x l5 h5 => simp only [e2] at q; exact q.elim
        | ok b l5 h5 =>
          intro b' ι5 F5 H5 A5 S5 rb
          cases (show b = b' from rb)
          have A35 := A4.trans A5
          cases b with
          | false =>
            simp only [e2] at q
            have At := A35.turn S3 hw
            obtain ⟨off6, eD6⟩ := off3.aft eD3 At
            exact ⟨ι5, F5, wipeL l5 vs, h5, acc, us, c, S5.turn hw, A.trans (A3.trans At), off6, eD6, r3.kp A35.ext.kp, q⟩
          | true =>
            simp only [e2] at q
            refine ⟨ι5, F5, l5, h5, S5, ?_⟩
            cases e3 : fi1 l5 h5 with
            | no => simp only [e3] at q; exact q
            | ex x l6 h6 => simp only [e3] at q; exact q.elim
            | ok es l6 h6 =>
              simp only [e3] at q
              intro J1 ι6 F6 H6 A6 S6 y6
              cases e4 : (noM l6 vs1 && sz (acc.length + es.length)) with
              | false => simp only [e4] at q; exact q.elim
              | true =>
                simp only [e4] at q
                rw [Bool.and_eq_true] at e4
                have A36 := A35.trans A6
                obtain ⟨off7, eD7⟩ := off3.aft eD3 A36
                refine lc_turnG sub1 (sz_ok e4.2) S6.wipe y6 hD ((A.trans (A3.trans A36)).wipeR e4.1) off7.wipe eD7 (r3.kp A36.ext.kp) ?_
                cases e5 : lcL g1 ft1 fe vs1 es acc (wipeL l6 vs1) h6 with
                | no => simp only [e5] at q; exact q
                | ex x l8 h8 => simp only [e5] at q; exact q
                | ok acc8 l8 h8 =>
                  simp only [e5] at q
                  intro ι8 F8 H8 us8 A8 S8 off8 eD8 r8
                  have hw8 : L2.wipe (L2.wipe σ' vs1) vs = L2.wipe σ vs := (wipe_sub sub2).trans hw
                  refine ⟨ι8, F8, wipeL l8 vs, h8, acc8, us8, c, S8.turn hw8, A8.turn S1 hw8, ?_, eD8, r8, q⟩
                  have := off8.wipe (vs := vs)
                  rw [hw8] at this
                  exact this
      | _ => simp only [e] at q; exact q
  · have : i = ds.length := Nat.le_antisymm hi c
    subst this
    rw [List.drop_length] at q
    exact .inl ⟨y1.stop F H A.ext.kp, q ι F H us A S off eD rr⟩
theorem lc2_t {K : PySem.W.Frag} {vs : List Nat} {σ : L2.St} {H : Hp} {Q : VK} (sub : ∀ i, i ∈ ws → i ∈ vs) (sub1 : ∀ i, i ∈ ws1 → i ∈ vs1) (sub2 : ∀ i, i ∈ vs1 → i ∈ vs) (q : tL K Wx (fLc2 fi g ft fi1 g1 ft1 fe vs vs1) σ H Q) :
    tLc2 (tI K Wx fi) (tG K ws g) (tT K WN ft) (tI K WN fi1) (tG K ws1 g1) (tT K WN ft1) (tE K WN fe) vs vs1 σ H Q := by
  obtain ⟨ι, F, l, h, S, q⟩ := q
  refine ⟨ι, F, l, h, S, Sat.cutL (rel := fun _ F' H' ds (J : It) => Yields K J F' H' ds) q fun ds l1 h1 J ι1 F1 H1 a1 S1 y1 q1 => ?_⟩
  cases c : noM l1 vs with
  | false => rw [c] at q1; exact q1.elim
  | true =>
    rw [c] at q1
    intro D hD
    refine lc2_turn sub sub1 sub2 S1.wipe y1 hD ?_
    simp only at q1
    cases e : lc2L g ft fi1 g1 ft1 fe vs vs1 ds [] (wipeL l1 vs) h1 with
    | no => rw [e] at q1; exact q1
    | ex x l2 h2 => rw [e] at q1; exact q1
    | ok acc l2 h2 =>
      rw [e] at q1
      intro ι' F' H' us A S' off eD rr
      exact q1 D ι' F' H' (A.wiped c) (S1.res A.ext.pre A.ext.kp S') off.nF off.nι (fun ⟨i, z⟩ => off.nO ⟨i, (own_res z).1⟩) ⟨us, eD, rr⟩ hD
section
variable (hc : X.calm = true) (hN : X.N.Nodup) (hi : VI X Wx tg iter fi) (ok : BlkOk X.N X.env.scope scope own) (sub : ∀ i, i ∈ ws → i ∈ own.map (·.2)) (sub1 : ∀ i, i ∈ ws1 → i ∈ vs1) (sub2 : ∀ i, i ∈ vs1 → i ∈ own.map (·.2))
    (hg : ∀ (s : Shared) (H : Hp) (C : Addr) (cl : List (Str × Addr)) (fp : List Addr), VG (X.blk s H scope (compEnvC scope cl C X.env) fp) tg ws g) (ht : ∀ (s : Shared) (H : Hp) (C : Addr) (cl : List (Str × Addr)) (fp : List Addr), VTs (X.blk s H scope (compEnvC scope cl C X.env) fp) WN ifs ft)
    (hi1 : ∀ (s : Shared) (H : Hp) (C : Addr) (cl : List (Str × Addr)) (fp : List Addr), VI (X.blk s H scope (compEnvC scope cl C X.env) fp) WN tg1 iter1 fi1)
    (hg1 : ∀ (s : Shared) (H : Hp) (C : Addr) (cl : List (Str × Addr)) (fp : List Addr), VG (X.blk s H scope (compEnvC scope cl C X.env) fp) tg1 ws1 g1) (ht1 : ∀ (s : Shared) (H : Hp) (C : Addr) (cl : List (Str × Addr)) (fp : List Addr), VTs (X.blk s H scope (compEnvC scope cl C X.env) fp) WN ifs1 ft1)
    (he : ∀ (s : Shared) (H : Hp) (C : Addr) (cl : List (Str × Addr)) (fp : List Addr), VE (X.blk s H scope (compEnvC scope cl C X.env) fp) WN elt fe)
include hc hN hi ok sub sub1 sub2 hg ht hi1 hg1 ht1 he
theorem vl_lc2 (hs : ∀ x, foldedSetIterable iter X.env x = pure x := by intro _; rfl) (hs1 : ∀ env x, foldedSetIterable iter1 env x = pure x := by intro _ _; rfl) :
    VL X Wx (.ListComp elt [⟨tg, iter, ifs, 0⟩, ⟨tg1, iter1, ifs1, 0⟩] scope pos) (fLc2 fi g ft fi1 g1 ft1 fe (own.map (·.2)) vs1) := PE.imp (pe_lc2 hc hN hi ok sub2 hg ht hi1 hg1 ht1 he hs hs1) fun σ H Q q => lc2_t sub sub1 sub2 q
theorem vs_setLc2 {i : Nat} {y : Str} {py spos : Pos} (hy : X.N[i]? = some y) (hyl : X.env.scope.names.lookup y = some .local)
    (hsw : swapsWith (.ListComp elt [⟨tg, iter, ifs, 0⟩, ⟨tg1, iter1, ifs1, 0⟩] scope pos) (some (.Name y py)) spos.line X.env = pure true)
    (hs : ∀ x, foldedSetIterable iter X.env x = pure x := by intro _; rfl) (hs1 : ∀ env x, foldedSetIterable iter1 env x = pure x := by intro _ _; rfl) :
    VS X Wx (.Assign [.Name y py] (.ListComp elt [⟨tg, iter, ifs, 0⟩, ⟨tg1, iter1, ifs1, 0⟩] scope pos) spos) (sAsgM i (fLc2 fi g ft fi1 g1 ft1 fe (own.map (·.2)) vs1)) := PS.imp (ps_setLc2 hc hN hy hyl hsw hi ok sub2 hg ht hi1 hg1 ht1 he hs hs1) fun D σ H q => setM_t (fun σ H Q q => lc2_t sub sub1 sub2 q) q
theorem vs_setLc2V {i : Nat} {y : Str} {py spos : Pos} (hy : X.N[i]? = some y) (hyl : X.env.scope.names.lookup y = some .local)
    (hsw : swapsWith (.ListComp elt [⟨tg, iter, ifs, 0⟩, ⟨tg1, iter1, ifs1, 0⟩] scope pos) (some (.Name y py)) spos.line X.env = pure true)
    (hs : ∀ x, foldedSetIterable iter X.env x = pure x := by intro _; rfl) (hs1 : ∀ env x, foldedSetIterable iter1 env x = pure x := by intro _ _; rfl) :
    VS X Wx (.Assign [.Name y py] (.ListComp elt [⟨tg, iter, ifs, 0⟩, ⟨tg1, iter1, ifs1, 0⟩] scope pos) spos) (sAsg i (fOfL (fLc2 fi g ft fi1 g1 ft1 fe (own.map (·.2)) vs1))) := PS.imp (ps_setLc2 hc hN hy hyl hsw hi ok sub2 hg ht hi1 hg1 ht1 he hs hs1) fun D σ H q => setV_t (fun σ H Q q => lc2_t sub sub1 sub2 q) q
end
end
end VL
set_option maxRecDepth 100000
set_option maxHeartbeats 2000000
namespace VL
open PySem PySem.Spec PyProof.Rows L2

/-! ### builtins -/
inductive Nds (K : PySem.W.Frag) (F : Addr → Prop) (H : Hp) : List D → List V → Prop
  | nil : Nds K F H [] []
  | cons {d : D} {ds : List D} {v : V} {vs : List V} : Nd K F H d v → Nds K F H ds vs → Nds K F H (d :: ds) (v :: vs)
def dsOf (l : Ls) (h : Hs) : List W → Option (List D)
  | [] => some []
  | w :: ws => match dOf l h w, dsOf l h ws with
    | some d, some ds => some (d :: ds)
    | _, _ => none
theorem dsOf_nds {K : PySem.W.Frag} {ι : List Addr} {F : Addr → Prop} {l : Ls} {h : Hs} {σ : L2.St} {H : Hp} (S : Sim K ι F l h σ H) : ∀ {ws : List W} {vs : List V} {ds : List D}, relWs K σ ι F H ws vs → dsOf l h ws = some ds → Nds K F H ds vs
  | [], _, ds, .nil, e => by cases e; exact .nil
  | w :: ws, _, ds, .cons a r, e => by
    unfold dsOf at e
    cases z : dOf l h w with
    | none => simp only [z] at e; cases e
    | some d =>
      cases y : dsOf l h ws with
      | none => simp only [z, y] at e; cases e
      | some ds2 =>
        simp only [z, y] at e
        cases e
        exact .cons (dOf_nd S a z) (dsOf_nds S r y)
def fCallB (g : List D → Option D) (fa : FA) : FE := fun l h => (fa l h).bind fun ws l h => match dsOf l h ws with
  | some ds => (match g ds with
    | some z => .ok (.v z) l h
    | none => .no)
  | none => .no
/-- a builtin by values: its result a new frozen thing | no thing -/
def CallG (K : PySem.W.Frag) (r : List V → Hp → VK → Prop) (g : List D → Option D) : Prop := ∀ (ι : List Addr) (F : Addr → Prop) (l : Ls) (h : Hs) (σ : L2.St) (H : Hp) (ds : List D) (z : D) (vs : List V) (Q : VK), Sim K ι F l h σ H → Nds K F H ds vs → g ds = some z →
  (∀ v F' H', Aft ι F l σ H ι F' l σ H' → Sim K ι F' l h σ H' → Rp K F' H' z v → Q v H') → r vs H Q
theorem CallG.scalar {K : PySem.W.Frag} {r : List V → Hp → VK → Prop} {g : List D → Option D} (hr : ∀ F H ds z vs (Q : VK), Nds K F H ds vs → g ds = some z → (∀ v, (∀ F', Rp K F' H z v) → Q v H) → r vs H Q) : CallG K r g :=
  fun ι F l h σ H ds z vs Q S n e k => hr F H ds z vs Q n e fun v rp => k v F H Aft.refl S (rp F)
section
variable {X : Cx} {Wx : WX} {x : Str} {p pos : Pos} {e : Expr} {es : List Expr} {fa : FA} {r : List V → Hp → VK → Prop} {g : List D → Option D} {id T : String}
theorem callB_t (hg : CallG X.K r g) {σ : L2.St} {H : Hp} {Q : VK} (q : tE X.K Wx (fCallB g fa) σ H Q) : tCB r (tA X.K Wx fa) σ H Q := by
  obtain ⟨ι, F, l, h, S, q⟩ := q
  refine ⟨ι, F, l, h, S, Sat.cut q fun ws l1 h1 vs ι1 F1 H1 a1 S1 r1 q1 => ?_⟩
  cases z : dsOf l1 h1 ws with
  | none => simp only [z] at q1; exact q1.elim
  | some ds =>
    simp only [z] at q1
    cases y : g ds with
    | none => simp only [y] at q1; exact q1.elim
    | some d =>
      simp only [y] at q1
      exact hg ι1 F1 l1 h1 σ H1 ds d vs Q S1 (dsOf_nds S1 r1 z) y fun v F' H' A S' rp => q1 v ι1 F' H' A S' rp
theorem ve_callB (hc : CallR X (.builtin id) r) (hgr : CallG X.K r g) (hg : Gl X x) (hm : X.mg x = none) (hv : bootBuiltins x = some (.builtin id)) (ha : VA X Wx (e :: es) fa) (hn : x ≠ "__name__" := by decide) (hdb : (x == ("__debug__" : Str)) = false := by decide)
    (he : starEach (e :: es) X.env = (false, eval e X.env) :: starEach es X.env := by rfl) (hpl : (backTo pos (starEach es X.env)).any (·.1) = false := by rfl) : VE X Wx (.Call (.Name x p) (e :: es) [] pos) (fCallB g fa) :=
  PE.imp (pe_callB hc hg hm hv ha hn hdb he hpl) fun σ H Q q => callB_t hgr q
theorem ve_callTy (hc : CallR X (.type T) r) (hgr : CallG X.K r g) (hg : Gl X x) (hm : X.mg x = none) (hv : bootBuiltins x = some (.type T)) (ha : VA X Wx (e :: es) fa) (hn : x ≠ "__name__" := by decide) (hdb : (x == ("__debug__" : Str)) = false := by decide)
    (he : starEach (e :: es) X.env = (false, eval e X.env) :: starEach es X.env := by rfl) (hpl : (backTo pos (starEach es X.env)).any (·.1) = false := by rfl) : VE X Wx (.Call (.Name x p) (e :: es) [] pos) (fCallB g fa) :=
  PE.imp (pe_callTy hc hg hm hv ha hn hdb he hpl) fun σ H Q q => callB_t hgr q
end
/-- len -/
def rLenX (K : PySem.W.Frag) : List V → Hp → VK → Prop := fun xs H Q => ∃ x n, xs = [x] ∧ LenV K x H n ∧ Q (.int n) H
def bLen : List D → Option D
  | [.lst ds] => some (.int ds.length)
  | [.rol ds] => some (.int ds.length)
  | [.tup ds] => some (.int ds.length)
  | [.str x] => if sz x.length then some (.int x.length) else none
  | _ => none
theorem nds1 {K : PySem.W.Frag} {F : Addr → Prop} {H : Hp} {d : D} {vs : List V} (n : Nds K F H [d] vs) : ∃ v, vs = [v] ∧ Nd K F H d v := by
  cases n with
  | cons a r => cases r; exact ⟨_, rfl, a⟩
theorem nds2 {K : PySem.W.Frag} {F : Addr → Prop} {H : Hp} {d e : D} {vs : List V} (n : Nds K F H [d, e] vs) : ∃ v u, vs = [v, u] ∧ Nd K F H d v ∧ Nd K F H e u := by
  cases n with
  | cons a r => cases r with
    | cons b r => cases r; exact ⟨_, _, rfl, a, b⟩
theorem cg_len {K : PySem.W.Frag} : CallG K (rLenX K) bLen := CallG.scalar fun F H ds z vs Q n e k => by
  unfold bLen at e
  split at e
  · rename_i xs
    cases e
    obtain ⟨v, rfl, a, us, rfl, he, r⟩ := nds1 n
    exact ⟨_, _, rfl, .inl ⟨us, .inl (.inl he), r.length⟩, k _ fun _ => .int _⟩
  · rename_i xs
    cases e
    obtain ⟨v, rfl, a⟩ := nds1 n
    obtain ⟨a, us, rfl, he, r⟩ := rp_rol a
    exact ⟨_, _, rfl, .inl ⟨us, he, r.length⟩, k _ fun _ => .int _⟩
  · rename_i xs
    cases e
    obtain ⟨v, rfl, a⟩ := nds1 n
    obtain ⟨a, us, rfl, he, r⟩ := rp_tup a
    exact ⟨_, _, rfl, .inr ⟨us, he, r.length⟩, k _ fun _ => .int _⟩
  · rename_i x
    split at e
    · rename_i c
      cases e
      obtain ⟨v, rfl, a⟩ := nds1 n
      cases a
      exact ⟨_, _, rfl, ⟨sz_ok c, rfl⟩, k _ fun _ => .int _⟩
    · cases e
  · cases e
def bInt : List D → Option D
  | [.int i] => some (.int i)
  | [.bl b] => some (.int (if b then 1 else 0))
  | _ => none
def rIntX : List V → Hp → VK → Prop := fun xs H Q => (∃ i, xs = [.int i] ∧ Q (.int i) H) ∨ ∃ k, xs = [.bl k] ∧ Q (.int (if k then 1 else 0)) H
theorem cg_int {K : PySem.W.Frag} : CallG K rIntX bInt := CallG.scalar fun F H ds z vs Q n e k => by
  unfold bInt at e
  split at e
  · cases e
    obtain ⟨v, rfl, a⟩ := nds1 n
    cases a
    exact .inl ⟨_, rfl, k _ fun _ => .int _⟩
  · cases e
    obtain ⟨v, rfl, a⟩ := nds1 n
    cases a
    exact .inr ⟨_, rfl, k _ fun _ => .int _⟩
  · cases e
def bMax : List D → Option D
  | [.int i, .int j] => some (.int (if j > i then j else i))
  | _ => none
def bMin : List D → Option D
  | [.int i, .int j] => some (.int (if j < i then j else i))
  | _ => none
def rMaxX : List V → Hp → VK → Prop := fun xs H Q => ∃ i j, xs = [.int i, .int j] ∧ Q (.int (if j > i then j else i)) H
def rMinX : List V → Hp → VK → Prop := fun xs H Q => ∃ i j, xs = [.int i, .int j] ∧ Q (.int (if j < i then j else i)) H
theorem cg_max {K : PySem.W.Frag} : CallG K rMaxX bMax := CallG.scalar fun F H ds z vs Q n e k => by
  unfold bMax at e
  split at e
  · cases e
    obtain ⟨v, u, rfl, a, b⟩ := nds2 n
    cases a
    cases b
    exact ⟨_, _, rfl, k _ fun _ => .int _⟩
  · cases e
theorem cg_min {K : PySem.W.Frag} : CallG K rMinX bMin := CallG.scalar fun F H ds z vs Q n e k => by
  unfold bMin at e
  split at e
  · cases e
    obtain ⟨v, u, rfl, a, b⟩ := nds2 n
    cases a
    cases b
    exact ⟨_, _, rfl, k _ fun _ => .int _⟩
  · cases e
/-- any(..) of booleans -/
def blsV : List D → Option (List Bool)
  | [] => some []
  | .bl b :: ds => (blsV ds).map (b :: ·)
  | _ :: _ => none
def rAnyX (K : PySem.W.Frag) : List V → Hp → VK → Prop := fun xs H Q => ∃ (a : Addr) (bs : List Bool), xs = [.ref a] ∧ SqL K H a (bs.map V.bl) ∧ Q (.bl (bs.any fun b => b)) H
theorem call_anyX {X : Cx} (hc : X.calm = true) : CallR X (.builtin "any") (rAnyX X.K) := by
  intro pins s σ H xs us Q I r h
  obtain ⟨a, bs, rfl, ha, q⟩ := h
  obtain ⟨u, rfl, ru⟩ := vals1 r
  cases ru
  obtain ⟨its, rv, pl, hz⟩ := I.list ha
  have ex : its = bs.map Value.bool := by
    clear pl hz ha q
    induction bs generalizing its with
    | nil => cases rv; rfl
    | cons b bs ih =>
      cases rv with
      | cons a t =>
        cases (show _ = Value.bool b from a)
        rw [ih _ t]
        rfl
  have getB : ∀ (i : Nat) (v : Value), its.toArray[i]? = some v → ∃ b, bs[i]? = some b ∧ v = .bool b := fun i v e => by
    rw [List.getElem?_toArray, ex, List.getElem?_map] at e
    obtain ⟨b, e1, e2⟩ := Option.map_eq_some_iff.mp e
    exact ⟨b, e1, e2.symm⟩
  have hl := pl.isList
  have lt : a < s.heap.objs.size := by
    obtain ⟨_, e, _⟩ := hl
    exact Heap.lt_size e
  refine call_any_walk (wpAny_pyIter_list hl ⟨s.heap.objs.size, [s.heap.objs.size, a], [s.heap.objs.size], its.toArray.size, _, _, fun i => (bs[i]?).getD false, rfl, Walks.list (A := X.A.in1) (I.ok.hd hc) _ a (Nat.ne_of_lt lt) its.toArray, ⟨⟨_, Heap.get?_push_size _ rfl, rfl, rfl⟩, hl.push _⟩, fun i v s' Q' E' hi hq => ?_, fun h' tk hk => ?_⟩)
  · obtain ⟨b, e, rfl⟩ := getB i v (by simpa using hi)
    simp only [e, Option.getD_some] at hq
    exact wpAny_truthy_bool hq
  · refine ⟨.bl _, H, I.kept (t' := tk) (LSm.kept_iter hk), ?_, q⟩
    have e : ((List.range its.toArray.size).any fun i => (bs[i]?).getD false) = bs.any fun b => b := by
      rw [List.size_toArray, ex, List.length_map]
      exact LSm.range_any bs
    show Value.bool _ = Value.bool _
    rw [e]
def bAny : List D → Option D
  | [.lst ds] => (blsV ds).map fun bs => .bl (bs.any fun b => b)
  | _ => none
theorem bls_rp {K : PySem.W.Frag} {F : Addr → Prop} {H : Hp} : ∀ {ds : List D} {vs : List V} {bs : List Bool}, blsV ds = some bs → RpL K F H ds vs → vs = bs.map V.bl
  | [], _, bs, e, .nil => by cases e; rfl
  | d :: ds, v :: vs, bs, e, .cons a r => by
    cases d with
    | bl b =>
      obtain ⟨bs2, e2, rfl⟩ := Option.map_eq_some_iff.mp (show (blsV ds).map (b :: ·) = some bs from e)
      rw [bls_rp e2 r]
      cases a
      rfl
    | _ => cases e
theorem cg_any {K : PySem.W.Frag} : CallG K (rAnyX K) bAny := CallG.scalar fun F H ds z vs Q n e k => by
  unfold bAny at e
  split at e
  · rename_i xs
    obtain ⟨bs, e1, rfl⟩ := Option.map_eq_some_iff.mp e
    obtain ⟨v, rfl, a, us, rfl, he, r⟩ := nds1 n
    exact ⟨a, bs, rfl, .inl (.inl (by rw [he, bls_rp e1 r])), k _ fun _ => .bl _⟩
  · cases e
end VL
set_option maxRecDepth 100000
set_option maxHeartbeats 2000000
namespace VL
open PySem PySem.Spec PyProof.Rows L2

/-! ### list(..), tuple(..) -/
def seqR : D → Option (List D)
  | .lst ds => some ds
  | .rol ds => some ds
  | .tup ds => some ds
  | _ => none
theorem nd_seq {K : PySem.W.Frag} {F : Addr → Prop} {H : Hp} {d : D} {v : V} {ds : List D} (n : Nd K F H d v) (e : seqR d = some ds) : ∃ a vs, v = .ref a ∧ (SqL K H a vs ∨ SqT K H a vs) ∧ RpL K F H ds vs := by
  cases d with
  | lst xs =>
    cases e
    obtain ⟨a, us, rfl, he, r⟩ := n
    exact ⟨a, us, rfl, .inl (.inl (.inl he)), r⟩
  | rol xs =>
    cases e
    obtain ⟨a, us, rfl, he, r⟩ := rp_rol n
    exact ⟨a, us, rfl, .inl he, r⟩
  | tup xs =>
    cases e
    obtain ⟨a, us, rfl, he, r⟩ := rp_tup n
    exact ⟨a, us, rfl, .inr he, r⟩
  | _ => cases e
def fListOf (fa : FA) : FL := fun l h => (fa l h).bind fun ws l h => match dsOf l h ws with
  | some [d] => (match seqR d with
    | some ds => .ok (.lst ds) l h
    | none => .no)
  | _ => .no
def rListX (K : PySem.W.Frag) : List V → Hp → VK → Prop := fun xs H Q => ∃ p ys, xs = [.ref p] ∧ (SqL K H p ys ∨ SqT K H p ys) ∧ ∀ l, H l = none → Q (.ref l) (upd H l (.lst ys))
section
variable {X : Cx} {Wx : WX} {p pos : Pos} {e : Expr} {es : List Expr} {fa : FA}
theorem vl_list (hg : Gl X "list") (hm : X.mg "list" = none) (ha : VA X Wx (e :: es) fa)
    (he : starEach (e :: es) X.env = (false, eval e X.env) :: starEach es X.env := by rfl) (hpl : (backTo pos (starEach es X.env)).any (·.1) = false := by rfl) : VL X Wx (.Call (.Name "list" p) (e :: es) [] pos) (fListOf fa) :=
  PE.imp (pe_callTy (r := rListX X.K) call_list_of hg hm boot_list ha (by decide) (by decide) he hpl) fun σ H Q ⟨ι, F, l, h, S, q⟩ =>
    ⟨ι, F, l, h, S, Sat.cutL q fun ws l1 h1 vs ι1 F1 H1 a1 S1 r1 q1 => by
      cases z : dsOf l1 h1 ws with
      | none => simp only [z] at q1; exact q1.elim
      | some ds =>
        cases ds with
        | nil => simp only [z] at q1; exact q1.elim
        | cons d ds =>
          cases ds with
          | cons d2 ds => simp only [z] at q1; exact q1.elim
          | nil =>
            simp only [z] at q1
            cases y : seqR d with
            | none => simp only [y] at q1; exact q1.elim
            | some us =>
              simp only [y] at q1
              obtain ⟨v, rfl, n⟩ := nds1 (dsOf_nds S1 r1 z)
              obtain ⟨a, us2, rfl, sq, r⟩ := nd_seq n y
              exact ⟨a, us2, rfl, sq, fun p hp => SatL.new q1 S1 hp r⟩⟩
end
def bTup : List D → Option D
  | [.lst ds] => some (.tup ds)
  | [.rol ds] => some (.tup ds)
  | [.tup ds] => some (.tup ds)
  | _ => none
def rTupX (K : PySem.W.Frag) : List V → Hp → VK → Prop := fun xs H Q => ∃ p ys, xs = [.ref p] ∧ ((SqL K H p ys ∧ ∀ l, H l = none → Q (.ref l) (upd H l (.tup ys))) ∨ (SqT K H p ys ∧ Q (.ref p) H))
theorem new_tup {K : PySem.W.Frag} {ι : List Addr} {F : Addr → Prop} {l : Ls} {h : Hs} {σ : L2.St} {H : Hp} {ds : List D} {vs : List V} {Q : VK} {p : Addr} (S : Sim K ι F l h σ H) (hp : H p = none) (r : RpL K F H ds vs)
    (k : ∀ v F' H', Aft ι F l σ H ι F' l σ H' → Sim K ι F' l h σ H' → Rp K F' H' (.tup ds) v → Q v H') : Q (.ref p) (upd H p (.tup vs)) :=
  k _ _ _ (Aft.laidF hp) (S.laidF hp) (Rp.tup (.inr rfl) (.inl upd_same) (r.kp (Ext.laidF (A := fun _ => False) (ι := ι) hp).kp))
theorem new_lst {K : PySem.W.Frag} {ι : List Addr} {F : Addr → Prop} {l : Ls} {h : Hs} {σ : L2.St} {H : Hp} {ds : List D} {vs : List V} {Q : VK} {p : Addr} (S : Sim K ι F l h σ H) (hp : H p = none) (r : RpL K F H ds vs)
    (k : ∀ v F' H', Aft ι F l σ H ι F' l σ H' → Sim K ι F' l h σ H' → Rp K F' H' (.lst ds) v → Q v H') : Q (.ref p) (upd H p (.lst vs)) :=
  k _ _ _ (Aft.laidF hp) (S.laidF hp) (Rp.lst (.inr rfl) upd_same (r.kp (Ext.laidF (A := fun _ => False) (ι := ι) hp).kp))
theorem cg_tup {K : PySem.W.Frag} : CallG K (rTupX K) bTup := fun ι F l h σ H ds z vs Q S n e k => by
  unfold bTup at e
  split at e
  · cases e
    obtain ⟨v, rfl, a⟩ := nds1 n
    obtain ⟨a, us, rfl, he, r⟩ := a
    exact ⟨a, us, rfl, .inl ⟨.inl (.inl he), fun p hp => new_tup S hp r k⟩⟩
  · cases e
    obtain ⟨v, rfl, a⟩ := nds1 n
    obtain ⟨b, us, rfl, he, r⟩ := rp_rol a
    exact ⟨b, us, rfl, .inl ⟨he, fun p hp => new_tup S hp r k⟩⟩
  · cases e
    obtain ⟨v, rfl, a⟩ := nds1 n
    have a0 : Rp K F H (.tup _) v := a
    obtain ⟨b, us, rfl, he, r⟩ := rp_tup a
    exact ⟨b, us, rfl, .inr ⟨he, k _ F H Aft.refl S a0⟩⟩
  · cases e

/-! ### isinstance -/
def tyNames : List String := ["NoneType", "bool", "int", "str", "list", "tuple", "dict"]
def tyN : D → Option String
  | .non => some "NoneType"
  | .bl _ => some "bool"
  | .int _ => some "int"
  | .str _ => some "str"
  | .lst _ => some "list"
  | .rol _ => some "list"
  | .tup _ => some "tuple"
  | .dK _ _ => some "dict"
  | .dT _ _ => some "dict"
  | .ins _ _ _ => none
theorem tyN_mem {d : D} {a : String} (e : tyN d = some a) : a ∈ tyNames := by
  cases d <;> first | (cases e; decide) | cases e
def isiD (ft : String → Bool) (fc : Str → Option Bool) : D → Option Bool
  | .ins c _ _ => fc c
  | d => (tyN d).map ft
structure IsiOk (K : PySem.W.Frag) (u : Value) (ft : String → Bool) (fc : Str → Option Bool) : Prop where
  ty : ∀ a ∈ tyNames, PySem.W.kitOne K (.type a) u = some (ft a)
  cl : ∀ c b, fc c = some b → C8.InsC K (He.ga K c) ∧ PySem.W.kitOne K (.ref (He.ga K c)) u = some b
theorem nd_tyX {K : PySem.W.Frag} {F : Addr → Prop} {H : Hp} {d : D} {v : V} {a : String} (n : Nd K F H d v) (e : tyN d = some a) : TyX K H v (.type a) := by
  cases d with
  | non => cases e; cases n; exact .base .non
  | bl b => cases e; cases n; exact .base (.bl _)
  | int i => cases e; cases n; exact .base (.int _)
  | str x => cases e; cases n; exact .base (.str _)
  | lst xs => cases e; obtain ⟨a, us, rfl, he, r⟩ := n; exact .base (.lst he)
  | rol xs =>
    cases e
    cases (show Rp K F H (.rol xs) v from n) with
    | rol f he r => exact .base (he.elim (fun z => .lst z) fun ⟨o, z⟩ => .frz z)
    | rolK k r =>
      obtain ⟨o, its, nn, hk, hc, _⟩ := k
      exact .kList hk hc
  | tup xs =>
    cases e
    cases (show Rp K F H (.tup xs) v from n) with
    | tup f he r => exact he.elim (fun z => .base (.tup z)) fun ⟨o, z⟩ => .fTuple z
    | tupK k r =>
      obtain ⟨o, its, nn, hk, hc, _⟩ := k
      exact .kTuple hk hc
  | dK ks xs => cases e; obtain ⟨a, us, rfl, _, he, r⟩ := n; exact .base (.dK he)
  | dT ks xs => cases e; obtain ⟨a, us, rfl, _, he, r⟩ := n; exact .base (.dT he)
  | ins c ns xs => cases e
theorem isi_core {K : PySem.W.Frag} {F : Addr → Prop} {H : Hp} {d : D} {v : V} {u : Value} {ft : String → Bool} {fc : Str → Option Bool} {b : Bool} (ok : IsiOk K u ft fc) (n : Nd K F H d v) (e : isiD ft fc d = some b) : ∃ t, TyX K H v t ∧ PySem.W.kitOne K t u = some b := by
  have viaTy : (tyN d).map ft = some b → ∃ t, TyX K H v t ∧ PySem.W.kitOne K t u = some b := fun e => by
    obtain ⟨a, e1, rfl⟩ := Option.map_eq_some_iff.mp e
    exact ⟨_, nd_tyX n e1, ok.ty a (tyN_mem e1)⟩
  cases d with
  | ins c ns xs =>
    obtain ⟨ic, hk⟩ := ok.cl c b e
    obtain ⟨a, dx, us, rfl, _, he, r⟩ := n
    exact ⟨_, .base (.ins he ic.cl ic.ha ic.hn ic.htk ic.hm), hk⟩
  | _ => exact viaTy e
def fIsi (ft : String → Bool) (fc : Str → Option Bool) (f : FE) : FE := fun l h => (f l h).bind fun w l h => match dOf l h w with
  | some d => (match isiD ft fc d with
    | some b => .ok (.v (.bl b)) l h
    | none => .no)
  | none => .no
section
variable {X : Cx} {Wx : WX} {p pos : Pos} {e ce : Expr} {f : FE} {ft : String → Bool} {fc : Str → Option Bool} {c : V} {u : Value}
theorem ve_isi (hg : Gl X "isinstance") (hm : X.mg "isinstance" = none) (he : VE X Wx e f) (hc : PE X ce (tC c)) (cv : ClsV c u) (ok : IsiOk X.K u ft fc)
    (h1 : starEach [e, ce] X.env = (false, eval e X.env) :: starEach [ce] X.env := by rfl) (h2 : starEach [ce] X.env = (false, eval ce X.env) :: starEach [] X.env := by rfl) (hpl : (backTo pos (starEach [ce] X.env)).any (·.1) = false := by rfl) :
    VE X Wx (.Call (.Name "isinstance" p) [e, ce] [] pos) (fIsi ft fc f) :=
  PE.imp (pe_callB call_isi hg hm boot_isinstance (pa_cons he (pa_cons hc pa_nil h2) h1) (by decide) (by decide) h1 hpl) fun σ H Q ⟨ι, F, l, h, S, q⟩ =>
    ⟨ι, F, l, h, S, Sat.cut q fun w l1 h1 v ι1 F1 H1 a1 S1 r1 q1 => by
      cases z : dOf l1 h1 w with
      | none => simp only [z] at q1; exact q1.elim
      | some d =>
        simp only [z] at q1
        cases y : isiD ft fc d with
        | none => simp only [y] at q1; exact q1.elim
        | some b =>
          simp only [y] at q1
          obtain ⟨t, ty, hk⟩ := isi_core ok (dOf_nd S1 r1 z) y
          exact ⟨v, c, t, u, b, rfl, cv, ty, hk, Sat.here S1 q1 (show relW X.K σ ι1 F1 H1 (.v (.bl b)) (.bl b) from .bl b)⟩⟩
end
/-- a built-in type -/
def ftT (T : String) (a : String) : Bool := a == T || (a == "bool" && T == "int")
def kitT (T : String) : Bool := tyNames.all fun a => kitB a T == some (ftT T a)
theorem isi_ty {K : PySem.W.Frag} {T : String} (h : kitT T = true) {fc : Str → Option Bool} (hc : ∀ c b, fc c = some b → C8.InsC K (He.ga K c) ∧ PySem.W.kitOne K (.ref (He.ga K c)) (.type T) = some b) : IsiOk K (.type T) (ftT T) fc :=
  ⟨fun a m => kit_ty (by simpa using List.all_eq_true.mp h a m), hc⟩
end VL
set_option maxRecDepth 100000
set_option maxHeartbeats 2000000
namespace VL
open PySem PySem.Spec PyProof.Rows L2

/-! ### objects rewritten -/
section
variable {K : PySem.W.Frag} {ι ι' : List Addr} {F F' : Addr → Prop} {l l' : Ls} {h h' : Hs} {σ σ' : L2.St} {H H' : Hp} {a : Addr} {d d' : D} {u : HO} {b : Bool} {i n : Nat}
theorem ext_upd (nF : ¬ F a) (ha : ∃ o, H a = some o) : Ext (fun c => c = a) ι F H ι F (upd H a u) := ⟨List.prefix_refl _, fun _ f => f, fun c o z y => by
    have ne : c ≠ a := fun e => by
      rcases y with y | ⟨_, y⟩
      · exact nF (by rw [← e]; exact y)
      · exact y e
    rw [upd_ne ne]; exact z, fun _ x y => absurd x y, fun _ f => .inl f, fun c o z => by
    by_cases e : c = a
    · subst e; exact ⟨_, upd_same⟩
    · exact ⟨o, by rw [upd_ne e]; exact z⟩⟩
/-- a slot's own object -/
theorem Sim.wrM (S : Sim K ι F l h σ H) (e : l[i]? = some (.m b d)) (q : σ[i]? = some (some (.ref a))) (o : Own K F (upd H a u) a d') : Sim K ι F (l.set i (.m b d')) h σ (upd H a u) ∧ Aft ι F l σ H ι F (l.set i (.m b d')) σ (upd H a u) := by
  obtain ⟨v, ev, a2, rfl, n1, n2, ow⟩ := S.slot e (by intro z; cases z)
  rw [q] at ev
  cases ev
  have own : OwnAt l σ i a := ⟨b, d, e, q⟩
  have ext := ext_upd (ι := ι) (u := u) n1 ow.there
  have S1 : Sim K ι F (l.set i .e) h σ H := S.setSl (.inl rfl) (fun b d a y => by cases y)
  have S2 : Sim K ι F (l.set i .e) h σ (upd H a u) := S1.over ext (S.hs.grow ext (fun c m o z => by rw [upd_ne fun e => n2 (by rw [← e]; exact m)]; exact z) (fun c _ f => f) fun c f => by
    obtain ⟨o, z⟩ := S.hs.fk c f
    exact ext.there c o z) fun c ⟨j, z⟩ y => by
      rcases own_set z with ⟨_, b, d, y, _⟩ | ⟨nj, z⟩
      · cases y
      · subst y
        exact nj (S.one j i c z own)
  have S3 := S2.setSl (i := i) (y := .m b d') (.inr ⟨.ref a, q, a, rfl, n1, n2, o⟩) (fun b d c _ y j z => by
    rcases own_set z with ⟨_, b, d, y, _⟩ | ⟨nj, z⟩
    · cases y
    · rw [q] at y
      cases y
      exact S.one j i a z own)
  rw [List.set_set] at S3
  refine ⟨S3, ext.weak fun c z => z ▸ ⟨i, own⟩, fun c ⟨j, z⟩ => ?_, fun j d2 z => ?_⟩
  · rcases own_set z with ⟨ej, b2, d2, y, y2⟩ | ⟨_, z⟩
    · cases y
      subst ej
      exact .inl ⟨j, b, d, e, y2⟩
    · exact .inl ⟨j, z⟩
  · by_cases c : i = j
    · subst c
      rw [e] at z
      cases z
      exact ⟨d', List.getElem?_set_self (List.getElem?_eq_some_iff.mp e).1, rfl⟩
    · exact ⟨d2, by rw [List.getElem?_set_ne c]; exact z, rfl⟩
/-- a numbered object -/
theorem Sim.wrH (S : Sim K ι F l h σ H) {o o' : O} (q : ι[n]? = some a) (nF : ¬ F a) (ob : ObR K ι F (upd H a u) a o') : Sim K ι F l (h.set n o') σ (upd H a u) ∧ Aft ι F l σ H ι F l σ (upd H a u) := by
  have ha : a ∈ ι := List.mem_of_getElem? q
  have ext := ext_upd (ι := ι) (u := u) nF (S.hs.there ha)
  have hs : SimH K ι F (h.set n o') (upd H a u) := by
    refine ⟨by rw [List.length_set]; exact S.hs.len, S.hs.nd, fun m c o2 e1 e2 => ?_, fun c f => ?_⟩
    · by_cases ec : n = m
      · subst ec
        rw [q] at e1
        cases e1
        by_cases hn : n < h.length
        · rw [List.getElem?_set_self hn] at e2
          cases e2
          exact ob
        · rw [List.getElem?_eq_none (by rw [List.length_set]; omega)] at e2
          cases e2
      · rw [List.getElem?_set_ne ec] at e2
        have ne : c ≠ a := fun e => by
          subst e
          have h1 := (List.getElem?_eq_some_iff.mp q).1
          have h2 := (List.getElem?_eq_some_iff.mp e1).1
          have h3 := (List.getElem?_eq_some_iff.mp q).2
          have h4 := (List.getElem?_eq_some_iff.mp e1).2
          rcases Nat.lt_or_gt_of_ne ec with lt | lt
          · exact List.pairwise_iff_getElem.mp S.hs.nd _ _ h1 h2 lt (h3.trans h4.symm)
          · exact List.pairwise_iff_getElem.mp S.hs.nd _ _ h2 h1 lt (h4.trans h3.symm)
        exact ObR.ext ext (fun f => f) (fun o z => by rw [upd_ne ne]; exact z) (S.hs.ob m c o2 e1 e2)
    · obtain ⟨o, z⟩ := S.hs.fk c f
      exact ext.there c o z
  refine ⟨S.over ext hs fun c ⟨j, b, d, e1, e2⟩ y => ?_, ⟨⟨List.prefix_refl _, fun _ f => f, fun c o z y => ?_, fun _ x y => absurd x y, fun _ f => .inl f, ext.there⟩, fun _ z => .inl z, fun _ d q => ⟨d, q, rfl⟩⟩⟩
  · obtain ⟨v, ev, a2, rfl, n1, n2, ow⟩ := S.slot e1 (by intro z; cases z)
    rw [e2] at ev
    cases ev
    subst y
    exact n2 ha
  · rw [upd_ne]
    · exact z
    · intro e
      rcases y with y | ⟨y, _⟩
      · exact nF (by rw [← e]; exact y)
      · exact y (by rw [e]; exact ha)
end

/-! ### append, extend -/
/-- a value to be put into a numbered object -/
def nrm (l : Ls) (h : Hs) : W → Option (W × Ls × Hs)
  | .r n => some (.r n, l, h)
  | w => (fz l h w).map fun p => (.v p.1, p.2)
/-- a list that may be changed -/
def isL (l : Ls) (h : Hs) : W → Bool
  | .s i => (match l[i]? with
    | some (.m _ (.lst _)) => true
    | _ => false)
  | .r n => (match h[n]? with
    | some (.lst _) => true
    | _ => false)
  | _ => false
def appW (l : Ls) (h : Hs) : W → W → R W
  | .s i, y => match fz l h y with
    | some (d, l, h) => (match l[i]? with
      | some (.m b (.lst ds)) => (match sz (ds.length + 1) with
        | true => .ok (.v .non) (l.set i (.m b (.lst (ds ++ [d])))) h
        | false => .no)
      | _ => .no)
    | none => .no
  | .r n, y => match nrm l h y with
    | some (w, l, h) => (match h[n]? with
      | some (.lst ws) => (match sz (ws.length + 1) with
        | true => .ok (.v .non) l (h.set n (.lst (ws ++ [w])))
        | false => .no)
      | _ => .no)
    | none => .no
  | _, _ => .no
def extW (l : Ls) (h : Hs) : W → W → R W
  | .s i, y => match dOf l h y with
    | some (.lst zs) => (match l[i]? with
      | some (.m b (.lst ds)) => (match sz (ds.length + zs.length) with
        | true => .ok (.v .non) (l.set i (.m b (.lst (ds ++ zs)))) h
        | false => .no)
      | _ => .no)
    | _ => .no
  | .r n, y => match dOf l h y with
    | some (.lst zs) => (match h[n]? with
      | some (.lst ws) => (match sz (ws.length + zs.length) with
        | true => .ok (.v .non) l (h.set n (.lst (ws ++ zs.map .v)))
        | false => .no)
      | _ => .no)
    | _ => .no
  | _, _ => .no
def fMet (g : Ls → Hs → W → W → R W) (fo : FE) (fa : FA) : FE := fun l h => (fo l h).bind fun w l h => match isL l h w with
  | true => (fa l h).bind fun ws l h => (match ws with
    | [y] => g l h w y
    | _ => .no)
  | false => .no
section
variable {K : PySem.W.Frag} {ι ι' : List Addr} {F F' : Addr → Prop} {l l' : Ls} {h h' : Hs} {σ σ' : L2.St} {H H' : Hp} {a : Addr} {d d' : D} {u : HO} {b : Bool} {i n : Nat}
theorem relW.wr {w : W} {v : V} (ns : ∀ i, w ≠ .s i) (r : relW K σ ι F H w v) : WR K ι F H w v := by
  cases w with
  | s i => exact absurd rfl (ns i)
  | v d => exact r
  | r n => exact r
theorem nrm_ok {w w' : W} {v : V} (S : Sim K ι F l h σ H) (r : relW K σ ι F H w v) (e : nrm l h w = some (w', l', h')) :
    ∃ F', Sim K ι F' l' h' σ H ∧ Aft ι F l σ H ι F' l' σ H ∧ WR K ι F' H w' v := by
  have viaFz : ∀ {w : W}, relW K σ ι F H w v → (fz l h w).map (fun p => (W.v p.1, p.2)) = some (w', l', h') → ∃ F', Sim K ι F' l' h' σ H ∧ Aft ι F l σ H ι F' l' σ H ∧ WR K ι F' H w' v := fun r e => by
    obtain ⟨⟨d, l1, h1⟩, e1, e2⟩ := Option.map_eq_some_iff.mp e
    cases e2
    obtain ⟨F1, S1, A1, rp⟩ := fz_ok S r e1
    exact ⟨F1, S1, A1, rp⟩
  cases w with
  | v d => exact viaFz r e
  | s i => exact viaFz r e
  | r n =>
    cases (show some (W.r n, l, h) = some (w', l', h') from e)
    exact ⟨F, S, Aft.refl, r⟩
theorem isL_ty {w : W} {v : V} (S : Sim K ι F l h σ H) (r : relW K σ ι F H w v) (e : isL l h w = true) : tyV K "list" v H := by
  cases w with
  | v d => cases e
  | s i =>
    unfold isL at e
    simp only at e
    split at e
    · rename_i b ds z
      obtain ⟨a, rfl, q⟩ := r
      obtain ⟨v', ev, a2, rfl, n1, n2, us, ha, rr⟩ := S.slot z (by intro y; cases y)
      rw [q] at ev
      cases ev
      exact .inl ⟨rfl, us, SqL.of ha⟩
    · cases e
  | r n =>
    unfold isL at e
    simp only at e
    split at e
    · rename_i ws z
      obtain ⟨a, q, rfl⟩ := r
      obtain ⟨nF, us, ha, rr⟩ := S.hs.ob n a _ q z
      exact .inl ⟨rfl, us, SqL.of ha⟩
    · cases e
theorem WsR.kp (k : Kp F F' H H') : ∀ {ws : List W} {vs : List V}, WsR K ι F H ws vs → WsR K ι F' H' ws vs
  | [], _, .nil => .nil
  | _ :: _, _, .cons a r => .cons (WR.kp k a) (WsR.kp k r)
theorem WsR.ofD : ∀ {ds : List D} {vs : List V}, RpL K F H ds vs → WsR K ι F H (ds.map .v) vs
  | [], _, .nil => .nil
  | _ :: _, _, .cons a r => .cons a (WsR.ofD r)
theorem kp_upd (nF : ¬ F a) : Kp F F H (upd H a u) := ⟨fun _ f => f, fun c o f z => by rw [upd_ne fun e => nF (by rw [← e]; exact f)]; exact z⟩
theorem app_ok {Wx : WX} {w y : W} {x v : V} {Q : VK} (S : Sim K ι F l h σ H) (r : relW K σ ι F H w x) (ry : relW K σ ι F H y v) (q : Sat K Wx (relW K σ) ι F l σ H (appW l h w y) Q) : rAppend x [v] H Q := by
  cases w with
  | v d => exact q.elim
  | s i =>
    obtain ⟨a, rfl, qa⟩ := r
    unfold appW at q
    simp only at q
    split at q
    · rename_i d l1 h1 z
      obtain ⟨F1, S1, A1, rp⟩ := fz_ok S ry z
      split at q
      · rename_i b ds zi
        split at q
        · rename_i c
          obtain ⟨v', ev, a2, rfl, n1, n2, us, ha, rr⟩ := S1.slot zi (by intro y; cases y)
          rw [qa] at ev
          cases ev
          have c := sz_ok c
          refine ⟨a, us, v, rfl, rfl, ha, by rw [← rr.length]; omega, ?_⟩
          have kp := kp_upd (H := H) (u := .lst (us ++ [v])) n1
          obtain ⟨S2, A2⟩ := S1.wrM (u := .lst (us ++ [v])) (d' := .lst (ds ++ [d])) zi qa ⟨_, upd_same, (rr.append (.one rp)).kp kp⟩
          exact q .non ι F1 _ (A1.trans A2) S2 (show relW K σ ι F1 _ (.v .non) .non from .non)
        · exact q.elim
      · exact q.elim
    · exact q.elim
  | r n =>
    obtain ⟨a, qa, rfl⟩ := r
    unfold appW at q
    simp only at q
    split at q
    · rename_i w1 l1 h1 z
      obtain ⟨F1, S1, A1, rp⟩ := nrm_ok S ry z
      split at q
      · rename_i ws zi
        split at q
        · rename_i c
          obtain ⟨nF, us, ha, rr⟩ := S1.hs.ob n a _ qa zi
          have c := sz_ok c
          refine ⟨a, us, v, rfl, rfl, ha, by rw [← rr.length]; omega, ?_⟩
          have kp := kp_upd (H := H) (u := .lst (us ++ [v])) nF
          obtain ⟨S2, A2⟩ := S1.wrH (u := .lst (us ++ [v])) (o := .lst ws) (o' := .lst (ws ++ [w1])) qa nF ⟨nF, _, upd_same, (rr.append (.cons rp .nil)).kp kp⟩
          exact q .non ι F1 _ (A1.trans A2) S2 (show relW K σ ι F1 _ (.v .non) .non from .non)
        · exact q.elim
      · exact q.elim
    · exact q.elim
theorem ext_ok {Wx : WX} {w y : W} {x v : V} {Q : VK} (S : Sim K ι F l h σ H) (r : relW K σ ι F H w x) (ry : relW K σ ι F H y v) (q : Sat K Wx (relW K σ) ι F l σ H (extW l h w y) Q) : rExtend x [v] H Q := by
  cases w with
  | v d => exact q.elim
  | s i =>
    obtain ⟨a, rfl, qa⟩ := r
    unfold extW at q
    simp only at q
    split at q
    · rename_i zs z
      obtain ⟨c2, vs2, rfl, hz, r2⟩ := dOf_nd S ry z
      split at q
      · rename_i b ds zi
        split at q
        · rename_i c
          obtain ⟨v', ev, a2, rfl, n1, n2, us, ha, rr⟩ := S.slot zi (by intro y; cases y)
          rw [qa] at ev
          cases ev
          have c := sz_ok c
          refine ⟨a, c2, us, vs2, rfl, rfl, ha, hz, by rw [← rr.length, ← r2.length]; omega, ?_⟩
          have kp := kp_upd (H := H) (u := .lst (us ++ vs2)) n1
          obtain ⟨S2, A2⟩ := S.wrM (u := .lst (us ++ vs2)) (d' := .lst (ds ++ zs)) zi qa ⟨_, upd_same, (rr.append r2).kp kp⟩
          exact q .non ι F _ A2 S2 (show relW K σ ι F _ (.v .non) .non from .non)
        · exact q.elim
      · exact q.elim
    · exact q.elim
  | r n =>
    obtain ⟨a, qa, rfl⟩ := r
    unfold extW at q
    simp only at q
    split at q
    · rename_i zs z
      obtain ⟨c2, vs2, rfl, hz, r2⟩ := dOf_nd S ry z
      split at q
      · rename_i ws zi
        split at q
        · rename_i c
          obtain ⟨nF, us, ha, rr⟩ := S.hs.ob n a _ qa zi
          have c := sz_ok c
          refine ⟨a, c2, us, vs2, rfl, rfl, ha, hz, by rw [← rr.length, ← r2.length]; omega, ?_⟩
          have kp := kp_upd (H := H) (u := .lst (us ++ vs2)) nF
          obtain ⟨S2, A2⟩ := S.wrH (u := .lst (us ++ vs2)) (o := .lst ws) (o' := .lst (ws ++ zs.map .v)) qa nF ⟨nF, _, upd_same, (rr.append (WsR.ofD r2)).kp kp⟩
          exact q .non ι F _ A2 S2 (show relW K σ ι F _ (.v .non) .non from .non)
        · exact q.elim
      · exact q.elim
    · exact q.elim
theorem met_t {Wx : WX} {g : Ls → Hs → W → W → R W} {r : V → List V → Hp → VK → Prop} {fo : FE} {fa : FA} {Q : VK}
    (hg : ∀ {ι : List Addr} {F : Addr → Prop} {l : Ls} {h : Hs} {σ : L2.St} {H : Hp} {w y : W} {x v : V} {Q : VK}, Sim K ι F l h σ H → relW K σ ι F H w x → relW K σ ι F H y v → Sat K Wx (relW K σ) ι F l σ H (g l h w y) Q → r x [v] H Q)
    (q : tE K Wx (fMet g fo fa) σ H Q) : tBM K "list" r (tE K Wx fo) (tA K Wx fa) σ H Q := by
  obtain ⟨ι, F, l, h, S, q⟩ := q
  refine ⟨ι, F, l, h, S, Sat.cut q fun w l1 h1 x ι1 F1 H1 a1 S1 r1 q1 => ?_⟩
  cases c : isL l1 h1 w with
  | false => simp only [c] at q1; exact q1.elim
  | true =>
    simp only [c] at q1
    refine ⟨isL_ty S1 r1 c, ι1, F1, l1, h1, S1, Sat.cut q1 fun ws l2 h2 vs ι2 F2 H2 a2 S2 r2 q2 => ?_⟩
    split at q2
    · cases r2 with
      | cons ry rr =>
        cases rr
        exact hg S2 (relW.ext a2.ext r1) ry q2
    · exact q2.elim
end
section
variable {X : Cx} {Wx : WX} {o e : Expr} {es : List Expr} {fo : FE} {fa : FA} {apos cpos : Pos}
theorem ve_append (ho : VE X Wx o fo) (ha : VA X Wx (e :: es) fa) (hbase : attributeBase o "append" X.env (eval o X.env) = eval o X.env := by rfl)
    (hfew : ((backTo cpos (starEach (e :: es) X.env)).all (fun x => !x.1) && (backToKw cpos (keywordEach [] X.env)).all (fun x => x.1.isSome)
      && decide ((e :: es).length + ([] : List Keyword).length + (if ([] : List Keyword).isEmpty then 0 else 1) < 30)) = true := by rfl)
    (hline : (apos.endLine == cpos.line) = true := by rfl) (hs : starEach (e :: es) X.env = (false, eval e X.env) :: starEach es X.env := by rfl) (hplain : (backTo cpos (starEach es X.env)).any (·.1) = false := by rfl) :
    VE X Wx (.Call (.Attribute o "append" apos) (e :: es) [] cpos) (fMet appW fo fa) :=
  PE.imp (pe_bm PySem.F.plainAttrs_list PySem.F.slot_list_append PySem.F.type_list_append mt_append ho ha hbase hfew hline hs hplain) fun σ H Q q => met_t app_ok q
theorem ve_extend (ho : VE X Wx o fo) (ha : VA X Wx (e :: es) fa) (hbase : attributeBase o "extend" X.env (eval o X.env) = eval o X.env := by rfl)
    (hfew : ((backTo cpos (starEach (e :: es) X.env)).all (fun x => !x.1) && (backToKw cpos (keywordEach [] X.env)).all (fun x => x.1.isSome)
      && decide ((e :: es).length + ([] : List Keyword).length + (if ([] : List Keyword).isEmpty then 0 else 1) < 30)) = true := by rfl)
    (hline : (apos.endLine == cpos.line) = true := by rfl) (hs : starEach (e :: es) X.env = (false, eval e X.env) :: starEach es X.env := by rfl) (hplain : (backTo cpos (starEach es X.env)).any (·.1) = false := by rfl) :
    VE X Wx (.Call (.Attribute o "extend" apos) (e :: es) [] cpos) (fMet extW fo fa) :=
  PE.imp (pe_bm PySem.F.plainAttrs_list PySem.F.slot_list_extend PySem.F.type_list_extend mt_extend ho ha hbase hfew hline hs hplain) fun σ H Q q => met_t ext_ok q
end
end VL
set_option maxRecDepth 100000
set_option maxHeartbeats 2000000
namespace VL
open PySem PySem.Spec PyProof.Rows L2

/-! ### slices -/
def cutA {α : Type} (xs : List α) (lo hi : Option Int) : List α := (xs.drop (HT.sIx xs.length 0 lo)).take (HT.sIx xs.length xs.length hi - HT.sIx xs.length 0 lo)
abbrev FO := Ls → Hs → R (Option Int)
def tO (K : PySem.W.Frag) (Wx : WX) (f : FO) : TO := fun σ H Q => ∃ ι F l h, Sim K ι F l h σ H ∧ Sat K Wx (fun _ _ _ a b => a = b) ι F l σ H (f l h) Q
abbrev VO (X : Cx) (Wx : WX) (e : Option Expr) (f : FO) : Prop := PO X e (tO X.K Wx f)
theorem PO.imp {X : Cx} {e : Option Expr} {t t' : TO} (p : PO X e t) (h : ∀ σ H Q, t' σ H Q → t σ H Q) : PO X e t' := ⟨fun pins s σ H Q I q => p.run pins s σ H Q I (h σ H Q q)⟩
def oNone : FO := fun l h => .ok none l h
def oSome (f : FE) : FO := fun l h => (f l h).bind fun w l h => match w with
  | .v (.int i) => .ok (some i) l h
  | _ => .no
def slD : D → Option Int → Option Int → Option D
  | .lst ds, lo, hi => some (.lst (cutA ds lo hi))
  | .rol ds, lo, hi => some (.lst (cutA ds lo hi))
  | .tup ds, lo, hi => some (.tup (cutA ds lo hi))
  | .str x, lo, hi => if sz x.length then some (.str (L2.cutS x lo hi)) else none
  | _, _, _ => none
def fSl (f : FE) (fl fh : FO) : FE := fun l h => (f l h).bind fun w l h => (fl l h).bind fun lo l h => (fh l h).bind fun hi l h => match dOf l h w with
  | some d => (match slD d lo hi with
    | some z => .ok (.v z) l h
    | none => .no)
  | none => .no
/-- .. of a list: a list of one's own -/
def fSlL (f : FE) (fl fh : FO) : FL := fun l h => (f l h).bind fun w l h => (fl l h).bind fun lo l h => (fh l h).bind fun hi l h => match dOf l h w with
  | some (.lst ds) => .ok (.lst (cutA ds lo hi)) l h
  | some (.rol ds) => .ok (.lst (cutA ds lo hi)) l h
  | _ => .no
theorem RpL.cut {K : PySem.W.Frag} {F : Addr → Prop} {H : Hp} {ds : List D} {vs : List V} {lo hi : Option Int} (r : RpL K F H ds vs) : RpL K F H (cutA ds lo hi) (cutV vs lo hi) := by
  unfold cutA cutV
  rw [r.length]
  exact (r.drop _).take _
theorem cutA_whole {α : Type} {xs : List α} {lo hi : Option Int} (h : HT.sIx xs.length 0 lo = 0 ∧ HT.sIx xs.length xs.length hi = xs.length) : cutA xs lo hi = xs := by
  unfold cutA
  rw [h.1, h.2, List.drop_zero, Nat.sub_zero, List.take_length]
section
variable {X : Cx} {Wx : WX} {e : Expr} {f : FE} {fl fh : FO} {lo hi : Option Expr} {pos p2 : Pos}
theorem vo_none : VO X Wx none oNone := PO.imp po_none fun σ H Q ⟨ι, F, l, h, S, q⟩ => Sat.here S q rfl
theorem vo_some (he : VE X Wx e f) : VO X Wx (some e) (oSome f) := PO.imp (po_some he) fun σ H Q ⟨ι, F, l, h, S, q⟩ =>
  ⟨ι, F, l, h, S, Sat.cut q fun w l1 h1 v ι1 F1 H1 a1 S1 r1 q1 => by
    split at q1
    · cases (show Rp X.K F1 H1 (.int _) v from r1)
      exact ⟨_, rfl, Sat.here S1 q1 rfl⟩
    · exact q1.elim⟩
theorem ve_slice (he : VE X Wx e f) (hl : VO X Wx lo fl) (hh : VO X Wx hi fh) : VE X Wx (.Subscript e (.Slice lo hi none p2) pos) (fSl f fl fh) :=
  PE.imp (pe_slice (SlR.or sl_list (SlR.or sl_tupA sl_str)) he hl hh) fun σ H Q ⟨ι, F, l, h, S, q⟩ =>
    ⟨ι, F, l, h, S, Sat.cut q fun w l1 h1 v ι1 F1 H1 a1 S1 r1 q1 => ⟨ι1, F1, l1, h1, S1, Sat.cut q1 fun lo l2 h2 lo' ι2 F2 H2 a2 S2 r2 q2 => ⟨ι2, F2, l2, h2, S2, Sat.cut q2 fun hi l3 h3 hi' ι3 F3 H3 a3 S3 r3 q3 => by
      subst r2 r3
      cases z : dOf l3 h3 w with
      | none => simp only [z] at q3; exact q3.elim
      | some d =>
        simp only [z] at q3
        have n := dOf_nd S3 (relW.ext (a2.trans a3).ext r1) z
        cases y : slD d lo hi with
        | none => simp only [y] at q3; exact q3.elim
        | some zz =>
          simp only [y] at q3
          have k : ∀ v F' H', Aft ι3 F3 l3 σ H3 ι3 F' l3 σ H' → Sim X.K ι3 F' l3 h3 σ H' → Rp X.K F' H' zz v → Q v H' := fun v F' H' A S' rp => q3 v ι3 F' H' A S' rp
          cases d with
          | lst ds =>
            cases y
            obtain ⟨a, us, rfl, ha, rr⟩ := n
            exact .inl ⟨a, us, rfl, SqL.of ha, fun p hp => new_lst S3 hp rr.cut k⟩
          | rol ds =>
            cases y
            obtain ⟨a, us, rfl, ha, rr⟩ := rp_rol n
            exact .inl ⟨a, us, rfl, ha, fun p hp => new_lst S3 hp rr.cut k⟩
          | tup ds =>
            cases y
            have n0 : Rp X.K F3 H3 (.tup ds) v := n
            obtain ⟨a, us, rfl, ha, rr⟩ := rp_tup n
            refine .inr (.inl ⟨a, us, rfl, ha, fun hw => ?_, fun _ p hp => new_tup S3 hp rr.cut k⟩)
            refine k _ F3 H3 Aft.refl S3 ?_
            rw [cutA_whole (by rw [rr.length]; exact hw)]
            exact n0
          | str x =>
            have y2 : (if sz x.length = true then some (D.str (L2.cutS x lo hi)) else none) = some zz := y
            split at y2
            · rename_i c
              cases y2
              cases n
              exact .inr (.inr ⟨x, rfl, sz_ok c, k _ F3 H3 Aft.refl S3 (.str _)⟩)
            · cases y2
          | _ => cases y⟩⟩⟩
theorem vl_slice (he : VE X Wx e f) (hl : VO X Wx lo fl) (hh : VO X Wx hi fh) : VL X Wx (.Subscript e (.Slice lo hi none p2) pos) (fSlL f fl fh) :=
  PE.imp (pe_slice sl_list he hl hh) fun σ H Q ⟨ι, F, l, h, S, q⟩ =>
    ⟨ι, F, l, h, S, Sat.cutL q fun w l1 h1 v ι1 F1 H1 a1 S1 r1 q1 => ⟨ι1, F1, l1, h1, S1, Sat.cutL q1 fun lo l2 h2 lo' ι2 F2 H2 a2 S2 r2 q2 => ⟨ι2, F2, l2, h2, S2, Sat.cutL q2 fun hi l3 h3 hi' ι3 F3 H3 a3 S3 r3 q3 => by
      subst r2 r3
      cases z : dOf l3 h3 w with
      | none => simp only [z] at q3; exact q3.elim
      | some d =>
        have n := dOf_nd S3 (relW.ext (a2.trans a3).ext r1) z
        cases d with
        | lst ds =>
          simp only [z] at q3
          obtain ⟨a, us, rfl, ha, rr⟩ := n
          exact ⟨a, us, rfl, SqL.of ha, fun p hp => SatL.new q3 S3 hp rr.cut⟩
        | rol ds =>
          simp only [z] at q3
          obtain ⟨a, us, rfl, ha, rr⟩ := rp_rol n
          exact ⟨a, us, rfl, ha, fun p hp => SatL.new q3 S3 hp rr.cut⟩
        | _ => simp only [z] at q3; exact q3.elim⟩⟩⟩
end

/-! ### x op= e, o[i] = e -/
def sAug (g : D → D → Option D) (i : Nat) (f : FE) : FS := fun l h => match l[i]? with
  | some (.v a) => (f l h).bind fun w l h => (match w with
    | .v b => (match g a b with
      | some z => (match notP l i with
        | true => .ok .nx (l.set i (.v z)) h
        | false => .no)
      | none => .no)
    | _ => .no)
  | _ => .no
section
variable {X : Cx} {Wx : WX} {e : Expr} {f : FE} {pos pos' : Pos} {i : Nat} {x : Str}
theorem aug_t {op : Operator} {fi : Int → Int → Int} (σ : L2.St) (H : Hp) (D : Ends) (q : tS X.K Wx (sAug (gI0 fun a b => .int (fi a b)) i f) D σ H) : tAug i (tE X.K Wx f) (ipI fi) D σ H := by
  obtain ⟨ι, F, l, h, S, q⟩ := q
  unfold sAug at q
  split at q
  · rename_i a ea
    obtain ⟨v, ev, rv⟩ := S.slot ea (by intro z; cases z)
    refine ⟨v, ev, ι, F, l, h, S, Sat.cutS q fun w l1 h1 u ι1 F1 H1 a1 S1 r1 q1 => ?_⟩
    split at q1
    · rename_i b
      split at q1
      · rename_i z ez
        split at q1
        · rename_i n
          obtain ⟨np, hi⟩ := notP_ok n
          rw [S1.len] at hi
          have sp : ∃ i j, a = .int i ∧ b = .int j ∧ z = .int (fi i j) := by
            cases a <;> cases b <;> first | (cases ez; exact ⟨_, _, rfl, rfl, rfl⟩) | cases ez
          obtain ⟨i1, j1, rfl, rfl, rfl⟩ := sp
          cases (show Rp X.K F H (.int i1) v from rv)
          cases (show Rp X.K F1 H1 (.int j1) u from r1)
          exact ⟨i1, j1, rfl, rfl, q1 _ ι1 F1 H1 (Aft.set S1 hi (fun _ _ z => by cases z) np) (S1.set (y := .v (.int (fi i1 j1))) hi (.int _) fun b d a y => by cases y)⟩
        · exact q1.elim
      · exact q1.elim
    · exact q1.elim
  · exact q.elim
theorem vs_augAdd (hN : X.N.Nodup) (hi : X.N[i]? = some x) (hx : Loc X.env.scope x) (he : VE X Wx e f) (hf : X.fn x = true ∨ X.env.scope.names.lookup x = some .local := by first | exact .inl rfl | exact .inr rfl | assumption) :
    VS X Wx (.AugAssign (.Name x pos') .Add e pos) (sAug (gI0 fun a b => .int (a + b)) i f) := PS.imp (ps_aug hN hi hx he ip_add hf) fun D σ H q => aug_t (op := .Add) σ H D q
theorem vs_augSub (hN : X.N.Nodup) (hi : X.N[i]? = some x) (hx : Loc X.env.scope x) (he : VE X Wx e f) (hf : X.fn x = true ∨ X.env.scope.names.lookup x = some .local := by first | exact .inl rfl | exact .inr rfl | assumption) :
    VS X Wx (.AugAssign (.Name x pos') .Sub e pos) (sAug (gI0 fun a b => .int (a - b)) i f) := PS.imp (ps_aug hN hi hx he ip_sub hf) fun D σ H q => aug_t (op := .Sub) σ H D q
end
def setI (l : Ls) (h : Hs) (y : W) (k : Int) : W → R Fl
  | .s i => match fz l h y with
    | some (d, l, h) => (match l[i]? with
      | some (.m b (.lst ds)) => (match ixN ds.length k with
        | some j => .ok .nx (l.set i (.m b (.lst (ds.set j d)))) h
        | none => .no)
      | _ => .no)
    | none => .no
  | .r n => match nrm l h y with
    | some (w, l, h) => (match h[n]? with
      | some (.lst ws) => (match ixN ws.length k with
        | some j => .ok .nx l (h.set n (.lst (ws.set j w)))
        | none => .no)
      | _ => .no)
    | none => .no
  | _ => .no
/-- o[i] = e -/
def sSetI (fo fi fe : FE) : FS := fun l h => (fe l h).bind fun y l h => (fo l h).bind fun w l h => (fi l h).bind fun k l h => match k with
  | .v (.int k) => setI l h y k w
  | _ => .no
section
variable {X : Cx} {Wx : WX} {o i e : Expr} {fo fi fe : FE} {pos spos : Pos}
theorem setI_ok {K : PySem.W.Frag} {ι : List Addr} {F : Addr → Prop} {l : Ls} {h : Hs} {σ : L2.St} {H : Hp} {w y : W} {x v : V} {k : Int} {D : Ends} (S : Sim K ι F l h σ H) (r : relW K σ ι F H w x) (ry : relW K σ ι F H y v) (q : SatS K Wx ι F l σ H (setI l h y k w) D) : rSetL x (.int k) v H fun H' => D.nx σ H' := by
  cases w with
  | v d => exact q.elim
  | s i =>
    obtain ⟨a, rfl, qa⟩ := r
    unfold setI at q
    simp only at q
    split at q
    · rename_i d l1 h1 z
      obtain ⟨F1, S1, A1, rp⟩ := fz_ok S ry z
      split at q
      · rename_i b ds zi
        split at q
        · rename_i j c
          obtain ⟨v', ev, a2, rfl, n1, n2, us, ha, rr⟩ := S1.slot zi (by intro y; cases y)
          rw [qa] at ev
          cases ev
          refine ⟨a, us, k, j, rfl, rfl, ha, by rw [← rr.length]; exact c, ?_⟩
          have kp := kp_upd (H := H) (u := .lst (us.set j v)) n1
          obtain ⟨S2, A2⟩ := S1.wrM (u := .lst (us.set j v)) (d' := .lst (ds.set j d)) zi qa ⟨_, upd_same, (RpL.set rp j rr).kp kp⟩
          exact q σ ι F1 _ (A1.trans A2) S2
        · exact q.elim
      · exact q.elim
    · exact q.elim
  | r n =>
    obtain ⟨a, qa, rfl⟩ := r
    unfold setI at q
    simp only at q
    split at q
    · rename_i w1 l1 h1 z
      obtain ⟨F1, S1, A1, rp⟩ := nrm_ok S ry z
      split at q
      · rename_i ws zi
        split at q
        · rename_i j c
          obtain ⟨nF, us, ha, rr⟩ := S1.hs.ob n a _ qa zi
          refine ⟨a, us, k, j, rfl, rfl, ha, by rw [← rr.length]; exact c, ?_⟩
          have kp := kp_upd (H := H) (u := .lst (us.set j v)) nF
          obtain ⟨S2, A2⟩ := S1.wrH (u := .lst (us.set j v)) (o := .lst ws) (o' := .lst (ws.set j w1)) qa nF ⟨nF, _, upd_same, (WsR.set rp j rr).kp kp⟩
          exact q σ ι F1 _ (A1.trans A2) S2
        · exact q.elim
      · exact q.elim
    · exact q.elim
theorem vs_setI (ho : VE X Wx o fo) (hi : VE X Wx i fi) (he : VE X Wx e fe)
    (ha : ∀ v, assign (.Subscript o i pos) X.env v = (do
      let ov ← holding [v] (eval o X.env)
      let iv ← holding [v, ov] (eval i X.env)
      standAt pos
      holding [v, ov, iv] (setItem ov iv v)
      release [v, ov, iv] []) := by intro _; rfl)
    (hs : swapsWithSole [.Subscript o i pos] e spos.line X.env = pure false := by rfl) (hw : swappedStores [.Subscript o i pos] e X.env = pure none := by rfl)
    (h1 : (assignEach [.Subscript o i pos] X.env).map (·.2) = [assign (.Subscript o i pos) X.env] := by rfl) : VS X Wx (.Assign [.Subscript o i pos] e spos) (sSetI fo fi fe) :=
  PS.imp (ps_asg he (pg_sub ho hi set_list ha) hs hw h1) fun D σ H ⟨ι, F, l, h, S, q⟩ =>
    ⟨ι, F, l, h, S, Sat.cutS q fun y l1 h1 v ι1 F1 H1 a1 S1 r1 q1 => ⟨ι1, F1, l1, h1, S1, Sat.cutS q1 fun w l2 h2 x ι2 F2 H2 a2 S2 r2 q2 => ⟨ι2, F2, l2, h2, S2, Sat.cutS q2 fun k l3 h3 kv ι3 F3 H3 a3 S3 r3 q3 => by
      split at q3
      · cases (show Rp X.K F3 H3 (.int _) kv from r3)
        exact setI_ok S3 (relW.ext a3.ext r2) (relW.ext (a2.trans a3).ext r1) q3
      · exact q3.elim⟩⟩⟩
end
end VL
set_option maxRecDepth 100000
set_option maxHeartbeats 2000000
namespace VL
open PySem PySem.Spec PyProof.Rows L2

/-! ### callees by position -/
/-- spV without the count -/
def spW (K : PySem.W.Frag) (g : G) : Sp := fun vs H Q E => ∃ n, spV K n g vs H Q E
/-- what a def at f promises -/
def Fn (P : Program) (w : World) (K : PySem.W.Frag) (mg : Str → Option Value) (base : Heap) (k : Nat) (f : Addr) (g : G) : Prop := FnR P w K mg base (L2.CX P w) k f (spW K g)
section
variable {P : Program} {w : World} {K : PySem.W.Frag} {mg : Str → Option Value} {base : Heap} {j k n : Nat} {f : Addr} {fd : FuncData} {ps : List Str} {g : G}
theorem Fn.mono (F : Fn P w K mg base j f g) (h : j ≤ k) : Fn P w K mg base k f g := FnR.mono F h
theorem Fn.of (F : FnOk P w K mg base (L2.CX P w) k f fd ps (spV K n g)) (ar : Ar n g) (hb : Binds K fd ps []) : Fn P w K mg base k f g := FnR.imp (F.raw hb .nil) fun vs H Q E ⟨m, hl, ι, F, as, h, S, nm, q⟩ => by
  rw [List.append_nil]
  have z := ar.len (as := as) (h := h) (fun e => by rw [e] at q; exact q)
  have y := S.len
  rw [List.length_map] at y
  exact ⟨by omega, ι, F, as, h, S, nm, q⟩
end
/-- the call of g with ws; io: which arguments are lent -/
def callW (io : List Bool) (g : G) (l : Ls) (h : Hs) (ws : List W) : R W := match mkA l h io ws with
  | none => .no
  | some (as, l1, h) => match g as h with
    | .ok w as' h => (match resW w with
      | some w => (match poB l (putB l io ws as' l1) with
        | true => .ok w (putB l io ws as' l1) h
        | false => .no)
      | none => .no)
    | .ex x as' h => (match poB l (putB l io ws as' l1) with
        | true => .ex x (putB l io ws as' l1) h
        | false => .no)
    | .no => .no
section
variable {K : PySem.W.Frag} {Wx : WX} {ι : List Addr} {F : Addr → Prop} {l : Ls} {h : Hs} {σ : L2.St} {H : Hp} {g : G}
theorem callW_sp {io : List Bool} {ws : List W} {vs : List V} {Q : VK} (S : Sim K ι F l h σ H) (r : relWs K σ ι F H ws vs) (q : Sat K Wx (relW K σ) ι F l σ H (callW io g l h ws) Q) : spW K g vs H Q (WE Wx σ) := by
  unfold callW at q
  cases e : mkA l h io ws with
  | none => rw [e] at q; exact False.elim q
  | some p =>
    obtain ⟨as, l1, h1⟩ := p
    rw [e] at q
    obtain ⟨F1, S1, E1, o1, S2, nm, dj⟩ := mkA_ok S r e
    have after : ∀ {ι' F' as' h2 H'}, Aft ι F1 as (vs.map some) H ι' F' as' (vs.map some) H' → Sim K ι' F' as' h2 (vs.map some) H' → poB l (putB l io ws as' l1) = true →
        Sim K ι' F' (putB l io ws as' l1) h2 σ H' ∧ Aft ι F l σ H ι' F' (putB l io ws as' l1) σ H' := fun {ι' F' as' h2 H'} A S3 hp => by
      have S4 : Sim K ι' F' l1 h2 σ H' := S1.over A.ext S3.hs fun a z y => (dj a y).2 z
      have nd : ∀ a, Ow as' (vs.map some) a → ¬ Ow l1 σ a := fun a z y => by
        rcases A.ow a z with x | x
        · exact (dj a x).2 y
        · obtain ⟨u, hu⟩ := S1.owns y
          rw [hu] at x; cases x
      obtain ⟨S5, o5⟩ := putB_ok l (io := io) (ws := ws) (vs := vs) S4 S3 nd r
      refine ⟨S5, ⟨E1.trans (A.ext.weak fun a z => z) fun a z => .inl (dj a z).1, fun a z => ?_, fun i d z => ?_⟩⟩
      · rcases o5 a z with y | y
        · exact .inl (o1 a y)
        · rcases A.ow a y with x | x
          · exact .inl (dj a x).1
          · exact .inr x
      · obtain ⟨d', z'⟩ := poB_ok hp (by rw [S.len, S5.len]) i d z
        exact ⟨d', z', rfl⟩
    refine ⟨vs.length, rfl, ι, F1, as, h1, S2, nm, ?_⟩
    cases eg : g as h1 with
    | no => simp only [eg] at q; exact q
    | ex x as' h2 =>
      simp only [eg] at q
      cases ep : poB l (putB l io ws as' l1) with
      | false => rw [ep] at q; exact False.elim q
      | true =>
        rw [ep] at q
        exact fun ι' F' H' dx A S3 _ xr => q ι' F' H' dx (after A S3 ep).2 (after A S3 ep).1 xr
    | ok w as' h2 =>
      simp only [eg] at q
      cases er : resW w with
      | none => simp only [er] at q; exact False.elim q
      | some w' =>
        simp only [er] at q
        cases ep : poB l (putB l io ws as' l1) with
        | false => rw [ep] at q; exact False.elim q
        | true =>
          rw [ep] at q
          intro v ι' F' H' A S3 ao rr
          obtain ⟨S4, A4⟩ := after A S3 ep
          obtain ⟨F2, S5, A5, r5⟩ := res_ok S4 A4 er rr (fun a z => by
            have y := putB_ok l (io := io) (ws := ws) (vs := vs) (S1.over A.ext S3.hs fun a z y => (dj a y).2 z) S3 (fun a z y => by
              rcases A.ow a z with x | x
              · exact (dj a x).2 y
              · obtain ⟨u, hu⟩ := S1.owns y
                rw [hu] at x; cases x) r
            rcases y.2 a z with y | y
            · exact S1.owns y
            · exact S2.owns (ao a y))
          exact q v ι' F2 H' A5 S5 r5
end
/-- .. whose result is ours -/
def callL (io : List Bool) (g : G) (l : Ls) (h : Hs) (ws : List W) : R D := match mkA l h io ws with
  | none => .no
  | some (as, l1, h) => match g as h with
    | .ok (.m false d) as' h => (match poB l (putB l io ws as' l1) with
      | true => .ok d (putB l io ws as' l1) h
      | false => .no)
    | .ok _ _ _ => .no
    | .ex x as' h => (match poB l (putB l io ws as' l1) with
        | true => .ex x (putB l io ws as' l1) h
        | false => .no)
    | .no => .no
section
variable {K : PySem.W.Frag} {Wx : WX} {ι : List Addr} {F : Addr → Prop} {l : Ls} {h : Hs} {σ : L2.St} {H : Hp} {g : G}
theorem callL_sp {io : List Bool} {ws : List W} {vs : List V} {Q : VK} (S : Sim K ι F l h σ H) (r : relWs K σ ι F H ws vs) (q : SatL K Wx ι F l σ H (callL io g l h ws) Q) : spW K g vs H Q (WE Wx σ) := by
  unfold callL at q
  cases e : mkA l h io ws with
  | none => rw [e] at q; exact False.elim q
  | some p =>
    obtain ⟨as, l1, h1⟩ := p
    rw [e] at q
    obtain ⟨F1, S1, E1, o1, S2, nm, dj⟩ := mkA_ok S r e
    have after : ∀ {ι' F' as' h2 H'}, Aft ι F1 as (vs.map some) H ι' F' as' (vs.map some) H' → Sim K ι' F' as' h2 (vs.map some) H' → poB l (putB l io ws as' l1) = true →
        Sim K ι' F' (putB l io ws as' l1) h2 σ H' ∧ Aft ι F l σ H ι' F' (putB l io ws as' l1) σ H' ∧ ∀ a, Ow (putB l io ws as' l1) σ a → Ow l1 σ a ∨ Ow as' (vs.map some) a := fun {ι' F' as' h2 H'} A S3 hp => by
      have S4 : Sim K ι' F' l1 h2 σ H' := S1.over A.ext S3.hs fun a z y => (dj a y).2 z
      have nd : ∀ a, Ow as' (vs.map some) a → ¬ Ow l1 σ a := fun a z y => by
        rcases A.ow a z with x | x
        · exact (dj a x).2 y
        · obtain ⟨u, hu⟩ := S1.owns y
          rw [hu] at x; cases x
      obtain ⟨S5, o5⟩ := putB_ok l (io := io) (ws := ws) (vs := vs) S4 S3 nd r
      refine ⟨S5, ⟨E1.trans (A.ext.weak fun a z => z) fun a z => .inl (dj a z).1, fun a z => ?_, fun i d z => ?_⟩, o5⟩
      · rcases o5 a z with y | y
        · exact .inl (o1 a y)
        · rcases A.ow a y with x | x
          · exact .inl (dj a x).1
          · exact .inr x
      · obtain ⟨d', z'⟩ := poB_ok hp (by rw [S.len, S5.len]) i d z
        exact ⟨d', z', rfl⟩
    refine ⟨vs.length, rfl, ι, F1, as, h1, S2, nm, ?_⟩
    cases eg : g as h1 with
    | no => simp only [eg] at q; exact q
    | ex x as' h2 =>
      simp only [eg] at q
      cases ep : poB l (putB l io ws as' l1) with
      | false => rw [ep] at q; exact False.elim q
      | true =>
        rw [ep] at q
        exact fun ι' F' H' dx A S3 _ xr => q ι' F' H' dx (after A S3 ep).2.1 (after A S3 ep).1 xr
    | ok w as' h2 =>
      cases w with
      | m b d =>
        cases b with
        | true => simp only [eg] at q; exact q.elim
        | false =>
          simp only [eg] at q
          cases ep : poB l (putB l io ws as' l1) with
          | false => rw [ep] at q; exact False.elim q
          | true =>
            rw [ep] at q
            intro v ι' F' H' A S3 ao rr
            obtain ⟨S4, A4, o4⟩ := after A S3 ep
            obtain ⟨a, rfl, n1, n2, ow, h0⟩ := rr
            refine q a ι' F' H' A4 S4 n1 n2 (fun z => ?_) ow h0
            rcases o4 a z with y | y
            · obtain ⟨u, hu⟩ := S1.owns y
              rw [h0] at hu; cases hu
            · obtain ⟨u, hu⟩ := S2.owns (ao a y)
              rw [h0] at hu; cases hu
      | _ => simp only [eg] at q; exact q.elim
end
section
variable {X : Cx} {pins : List (Addr × Obj)} {σ : L2.St} {H : Hp} {s : Shared} {k : Nat} {f C : Addr} {sp : Sp} {E : XK}
/-- the callee runs -/
theorem run_fnE {Q : VK} {us : List Value} {vs : List V} (F : FnR X.prog X.w X.K X.mg X.base (L2.CX X.prog X.w) k f sp) (hr : Room k X.A) (hx : PassesAt (L2.CX X.prog X.w) X σ E) (I : Inv X pins σ H s) (r : Vals vs us) (h : sp vs H Q E) :
    wpAny (model X.prog X.w) X.A (call (.ref f) us) (EP X pins σ Q) X.xe s := by
  refine wpAny_call (codeAny_mono (F X.A X.stack s H us vs Q E hr I.env0 r h) fun out s' hq => ?_)
  match out, hq with
  | .error e, hq => exact hx pins H s e s' I hq
  | .ok (.ret u), hq => exact I.after hq
/-- an instance is made -/
theorem run_makeE {Q : VK} {us : List Value} {vs : List V} (M : Mk X.K C f) (F : FnR X.prog X.w X.K X.mg X.base (L2.CX X.prog X.w) k f sp) (hr : Room (k + 1) X.A) (hx : PassesAt (L2.CX X.prog X.w) X σ E) (I : Inv X pins σ H s) (r : Vals vs us)
    (h : ∀ x dx, H x = none → H dx = none → dx ≠ x → sp (V.ref x :: vs) (upd (upd H dx (.own x)) x (.ins C dx [])) (fun v H2 => v = .non ∧ Q (.ref x) H2) E) :
    wpAny (model X.prog X.w) X.A (call (.ref C) us) (EP X pins σ Q) X.xe s := by
  have top := h (s.heap.objs.size + 1) s.heap.objs.size (I.hok.fresh (Nat.le_succ _)) (I.hok.fresh (Nat.le_refl _)) (Nat.ne_of_lt (Nat.lt_succ_self _))
  have J := Inv.made (C := C) I
  have rr : Vals (V.ref (s.heap.objs.size + 1) :: vs) (Value.ref (s.heap.objs.size + 1) :: us) := .cons rfl r
  refine wpAny_call (make_map (f := f) I.kIn M.makes M.init (beq_iff_eq.mp M.fn) (codeAny_mono (F _ X.stack _ _ (Value.ref (s.heap.objs.size + 1) :: us) _ _ E (hr.make C us []) (J.env0.make C us []) rr top) fun out s' hq => ?_))
  match out, hq with
  | .error e, hq => exact hx pins _ _ e s' J hq
  | .ok (.ret u), hq =>
    obtain ⟨v, H', J2, rv, ev, q3⟩ := J.after hq
    subst ev
    exact ⟨rv, ⟨V.ref (s.heap.objs.size + 1), H', J2, rfl, q3⟩⟩
end

/-! ### new objects -/
section
variable {K : PySem.W.Frag} {ι ι' : List Addr} {F F' : Addr → Prop} {l l' as as' : Ls} {h h' : Hs} {σ σ' τ : L2.St} {H H' H2 : Hp} {x dx a : Addr} {d : D} {c : Str} {u : HO} {o : O}
theorem WR.pre {w : W} {v : V} (e : ι <+: ι') : WR K ι F H w v → WR K ι' F H w v := by
  cases w with
  | v d => exact fun r => r
  | r n =>
    intro ⟨a, q, z⟩
    obtain ⟨t, rfl⟩ := e
    exact ⟨a, by rw [List.getElem?_append_left (List.getElem?_eq_some_iff.mp q).1]; exact q, z⟩
  | s i => exact fun z => z
theorem WsR.pre (e : ι <+: ι') : ∀ {ws : List W} {vs : List V}, WsR K ι F H ws vs → WsR K ι' F H ws vs
  | _, _, .nil => .nil
  | _, _, .cons a r => .cons (WR.pre e a) (WsR.pre e r)
theorem ObR.pre (e : ι <+: ι') : ObR K ι F H a o → ObR K ι' F H a o := by
  cases o with
  | lst ws => exact fun ⟨n, vs, q, r⟩ => ⟨n, vs, q, r.pre e⟩
  | dK ks ws => exact fun ⟨n, vs, z, q, r⟩ => ⟨n, vs, z, q, r.pre e⟩
  | dT ks ws => exact fun ⟨n, vs, z, q, r⟩ => ⟨n, vs, z, q, r.pre e⟩
  | ins c ns ws => exact fun ⟨n, dx, vs, z, q, r⟩ => ⟨n, dx, vs, z, q, r.pre e⟩
  | frz d => exact fun z => z
/-- a fresh object gets a number -/
theorem Sim.born (S : Sim K ι F l h σ H) (nι : x ∉ ι) (nO : ¬ Ow l σ x) (ob : ObR K (ι ++ [x]) F H x o) : Sim K (ι ++ [x]) F l (h ++ [o]) σ H := by
  have pre : ι <+: ι ++ [x] := List.prefix_append ι [x]
  refine ⟨⟨by rw [List.length_append, List.length_append, S.hs.len]; rfl, List.nodup_append.mpr ⟨S.hs.nd, by simp, fun a m b m2 => by
      rw [List.mem_singleton] at m2
      subst m2
      intro e
      exact nι (e ▸ m)⟩, fun n b o2 q z => ?_, S.hs.fk⟩, S.len, fun i y q => (S.sl i y q).imp id fun ⟨v, ev, r⟩ => ⟨v, ev, ?_⟩, S.one⟩
  · by_cases cn : n < ι.length
    · rw [List.getElem?_append_left cn] at q
      rw [List.getElem?_append_left (by rw [← S.hs.len]; exact cn)] at z
      exact ObR.pre pre (S.hs.ob n b o2 q z)
    · rw [List.getElem?_append_right (by omega)] at q
      rw [List.getElem?_append_right (by rw [← S.hs.len]; omega), ← S.hs.len] at z
      cases hm : n - ι.length with
      | zero =>
        rw [hm] at q z
        simp at q z
        subst q z
        exact ob
      | succ m =>
        rw [hm] at q
        simp at q
  · cases y with
    | e => trivial
    | v d => exact r
    | r n => exact WR.pre (K := K) (F := F) (H := H) (w := .r n) pre r
    | m b d =>
      obtain ⟨a, rfl, n1, n2, ow⟩ := r
      refine ⟨a, rfl, n1, fun m => ?_, ow⟩
      rcases List.mem_append.mp m with m | m
      · exact n2 m
      · rw [List.mem_singleton] at m
        subst m
        exact nO ⟨i, b, d, q, ev⟩
theorem Aft.born (A : Aft ι F l σ H ι' F' l' σ' H') (hx : H x = none) (nι : x ∉ ι') : Aft ι F l σ H (ι' ++ [x]) F' l' σ' H' where
  ext := ⟨A.ext.pre.trans (List.prefix_append _ _), A.ext.mono, A.ext.keep, fun a m n => by
    rcases List.mem_append.mp m with m | m
    · exact A.ext.new a m n
    · rw [List.mem_singleton] at m
      rw [m]
      exact hx, A.ext.newF, A.ext.there⟩
  ow := A.ow
  po := A.po
theorem two_down {u1 u2 : HO} (hx : H x = none) (hd : H dx = none) (z : (upd (upd H dx u1) x u2) a = none) : H a = none := by
  cases q : H a with
  | none => rfl
  | some o =>
    rw [upd_ne (fun c => by rw [c, hx] at q; cases q), upd_ne (fun c => by rw [c, hd] at q; cases q), q] at z
    cases z
theorem two_up {u1 u2 o : HO} (hx : H x = none) (hd : H dx = none) (z : H a = some o) : (upd (upd H dx u1) x u2) a = some o := by
  rw [upd_ne (fun c => by rw [c, hx] at z; cases z), upd_ne (fun c => by rw [c, hd] at z; cases z)]
  exact z
/-- .. the second with a number -/
theorem Ext.ahead2 {A B : Addr → Prop} {u1 u2 : HO} (e : Ext B (ι ++ [x]) F (upd (upd H dx u1) x u2) ι' F' H') (ab : ∀ a, B a → A a) (hx : H x = none) (hd : H dx = none) : Ext A ι F H ι' F' H' where
  pre := (List.prefix_append _ _).trans e.pre
  mono := e.mono
  keep := fun a o z y => by
    refine e.keep a o (two_up hx hd z) (y.imp id fun y => ⟨fun m => ?_, fun w => y.2 (ab a w)⟩)
    rcases List.mem_append.mp m with m | m
    · exact y.1 m
    · rw [List.mem_singleton.mp m, hx] at z; cases z
  new := fun a m n => by
    by_cases c : a ∈ ι ++ [x]
    · rcases List.mem_append.mp c with c | c
      · exact absurd c n
      · rw [List.mem_singleton.mp c]; exact hx
    · exact two_down hx hd (e.new a m c)
  newF := fun a f => by
    rcases e.newF a f with z | z | z | z
    · exact .inl z
    · rcases List.mem_append.mp z with z | z
      · exact .inr (.inl z)
      · rw [List.mem_singleton.mp z]
        exact .inr (.inr (.inr hx))
    · exact .inr (.inr (.inl (ab a z)))
    · exact .inr (.inr (.inr (two_down hx hd z)))
  there := fun a o z => e.there a o (two_up hx hd z)
/-- .. seen from ahead of two fresh objects -/
theorem Ext.ahead {A : Addr → Prop} {u1 u2 : HO} (e : Ext (fun a => A a ∨ a = x) ι F (upd (upd H dx u1) x u2) ι' F' H') (hx : H x = none) (hd : H dx = none) : Ext A ι F H ι' F' H' := by
  have up : ∀ a o, H a = some o → (upd (upd H dx u1) x u2) a = some o := fun a o z => by
    rw [upd_ne (fun c => by rw [c, hx] at z; cases z), upd_ne (fun c => by rw [c, hd] at z; cases z)]
    exact z
  have down : ∀ a, (upd (upd H dx u1) x u2) a = none → H a = none := fun a z => by
    cases q : H a with
    | none => rfl
    | some o => rw [up a o q] at z; cases z
  refine ⟨e.pre, e.mono, fun a o z y => e.keep a o (up a o z) (y.imp id fun ⟨y1, y2⟩ => ⟨y1, fun w => w.elim y2 fun c => by rw [c, hx] at z; cases z⟩), fun a m n => down a (e.new a m n), fun a f => ?_, fun a o z => e.there a o (up a o z)⟩
  rcases e.newF a f with z | z | (z | z) | z
  · exact .inl z
  · exact .inr (.inl z)
  · exact .inr (.inr (.inl z))
  · exact .inr (.inr (.inr (by rw [z]; exact hx)))
  · exact .inr (.inr (.inr (down a z)))
end
/-- C(..): the new instance is lent to __init__ and ours behind it -/
def makeM (io : List Bool) (g : G) (c : Str) (l : Ls) (h : Hs) (ws : List W) : R D := match mkA l h io ws with
  | none => .no
  | some (as, l1, h) => match g (.m true (.ins c [] []) :: as) h with
    | .ok (.v .non) (.m true d :: as') h => (match poB l (putB l io ws as' l1) with
      | true => .ok d (putB l io ws as' l1) h
      | false => .no)
    | .ex x (.m true _ :: as') h => (match poB l (putB l io ws as' l1) with
      | true => .ex x (putB l io ws as' l1) h
      | false => .no)
    | _ => .no
/-- C(..): the new instance gets a number -/
def makeH (io : List Bool) (g : G) (c : Str) (l : Ls) (h : Hs) (ws : List W) : R W := match mkA l h io ws with
  | none => .no
  | some (as, l1, h1) => match g (.r h1.length :: as) (h1 ++ [.ins c [] []]) with
    | .ok (.v .non) (.r n :: as') h => (match decide (n = h1.length) && poB l (putB l io ws as' l1) with
      | true => .ok (.r n) (putB l io ws as' l1) h
      | false => .no)
    | .ex x (.r n :: as') h => (match decide (n = h1.length) && poB l (putB l io ws as' l1) with
      | true => .ex x (putB l io ws as' l1) h
      | false => .no)
    | _ => .no
section
variable {K : PySem.W.Frag} {Wx : WX} {ι : List Addr} {F : Addr → Prop} {l : Ls} {h : Hs} {σ : L2.St} {H : Hp} {g : G} {c : Str} {x dx : Addr}
theorem ow_head {x : Sl} {xs : Ls} {v : Option V} {τ : L2.St} {a : Addr} {b : Bool} {d : D} : Ow (.m b d :: xs) (some (.ref a) :: τ) a := ⟨0, b, d, rfl, rfl⟩
theorem makeM_sp {io : List Bool} {ws : List W} {vs : List V} {Q : VK} (S : Sim K ι F l h σ H) (r : relWs K σ ι F H ws vs) (q : SatL K Wx ι F l σ H (makeM io g c l h ws) Q) (hx : H x = none) (hd : H dx = none) (ne : dx ≠ x) :
    spW K g (.ref x :: vs) (upd (upd H dx (.own x)) x (.ins (He.ga K c) dx [])) (fun v H2 => v = .non ∧ Q (.ref x) H2) (WE Wx σ) := by
  unfold makeM at q
  cases e : mkA l h io ws with
  | none => rw [e] at q; exact False.elim q
  | some p =>
    obtain ⟨as, l1, h1⟩ := p
    rw [e] at q
    obtain ⟨F1, S1, E1, o1, S2, nm, dj⟩ := mkA_ok S r e
    have hx2 : (upd H dx (.own x)) x = none := by rw [upd_ne fun e => ne e.symm]; exact hx
    have S3 : Sim K ι F1 as h1 (vs.map some) (upd (upd H dx (.own x)) x (.ins (He.ga K c) dx [])) := (S2.laid hd).laid hx2
    obtain ⟨n1, n2, n3⟩ := S2.none_ow hx
    obtain ⟨_, n2', n3'⟩ := S1.none_ow hx
    have S4 : Sim K ι F1 (.m true (.ins c [] []) :: as) h1 (some (.ref x) :: vs.map some) (upd (upd H dx (.own x)) x (.ins (He.ga K c) dx [])) :=
      S3.cons (v := .ref x) ⟨x, rfl, n1, n2, dx, [], rfl, upd_same, .nil⟩ fun b d a _ y => by cases y; exact n3
    have after : ∀ {ι' F' d' as' h2 H'}, Aft ι F1 (.m true (.ins c [] []) :: as) (some (.ref x) :: vs.map some) (upd (upd H dx (.own x)) x (.ins (He.ga K c) dx [])) ι' F' (.m true d' :: as') (some (.ref x) :: vs.map some) H' → Sim K ι' F' (.m true d' :: as') h2 (some (.ref x) :: vs.map some) H' → poB l (putB l io ws as' l1) = true →
        Sim K ι' F' (putB l io ws as' l1) h2 σ H' ∧ Aft ι F l σ H ι' F' (putB l io ws as' l1) σ H' ∧ ¬ Ow (putB l io ws as' l1) σ x := fun {ι' F' d' as' h2 H'} A S5 hp => by
      have ex1 : Ext (Ow as (vs.map some)) ι F1 H ι' F' H' := Ext.ahead (A.ext.weak fun a z => (ow_cons z).elim (fun ⟨b, d, _, y⟩ => .inr (by cases y; rfl)) .inl) hx hd
      have down : ∀ a, (upd (upd H dx (.own x)) x (.ins (He.ga K c) dx [])) a = none → H a = none := fun a z => by
        cases q : H a with
        | none => rfl
        | some o =>
          rw [upd_ne (fun c => by rw [c, hx] at q; cases q), upd_ne (fun c => by rw [c, hd] at q; cases q), q] at z
          cases z
      have notx : ∀ a, Ow as' (vs.map some) a → a ≠ x := fun a ⟨j, b', d2, z1, z2⟩ e => by
        have := S5.one 0 (j + 1) x ⟨true, d', rfl, rfl⟩ ⟨b', d2, by simpa using z1, by rw [← e]; simpa using z2⟩
        omega
      have ow2 : ∀ a, Ow as' (vs.map some) a → Ow as (vs.map some) a ∨ H a = none := fun a z => by
        rcases A.ow a (ow_tail z) with y | y
        · rcases ow_cons y with ⟨_, _, _, y⟩ | y
          · cases y
            exact absurd rfl (notx _ z)
          · exact .inl y
        · exact .inr (down a y)
      have S6 : Sim K ι' F' l1 h2 σ H' := S1.over ex1 S5.hs fun a z y => (dj a y).2 z
      have nd : ∀ a, Ow as' (vs.map some) a → ¬ Ow l1 σ a := fun a z y => by
        rcases ow2 a z with x | x
        · exact (dj a x).2 y
        · obtain ⟨u, hu⟩ := S1.owns y
          rw [hu] at x; cases x
      obtain ⟨S7, o7⟩ := putB_ok l (io := io) (ws := ws) (vs := vs) S6 S5.tail nd r
      refine ⟨S7, ⟨E1.trans (ex1.weak fun a z => z) fun a z => .inl (dj a z).1, fun a z => ?_, fun i d z => ?_⟩, fun z => ?_⟩
      · rcases o7 a z with y | y
        · exact .inl (o1 a y)
        · rcases ow2 a y with x | x
          · exact .inl (dj a x).1
          · exact .inr x
      · obtain ⟨d', z'⟩ := poB_ok hp (by rw [S.len, S7.len]) i d z
        exact ⟨d', z', rfl⟩
      · rcases o7 x z with y | y
        · exact n3' y
        · exact notx x y rfl
    refine ⟨(V.ref x :: vs).length, rfl, ι, F1, .m true (.ins c [] []) :: as, h1, S4, fun d m => ?_, ?_⟩
    · rcases List.mem_cons.mp m with m | m
      · cases m
      · exact nm d m
    · simp only at q
      split at q
      · rename_i d as' h2 eg
        rw [eg]
        simp only
        split at q
        · rename_i ep
          intro v ι' F' H' A S5 ao rr
          cases (show Rp K F' H' .non v from rr)
          obtain ⟨S7, A7, nO⟩ := after A S5 ep
          obtain ⟨v', ev, a2, ea2, m1, m2, ow⟩ := S5.slot (i := 0) (x := .m true d) rfl (by intro z; cases z)
          cases ev
          cases ea2
          exact ⟨rfl, q x ι' F' H' A7 S7 m1 m2 nO ow hx⟩
        · exact q.elim
      · rename_i xx d as' h2 eg
        rw [eg]
        simp only
        split at q
        · rename_i ep
          intro ι' F' H' dx' A S5 ao xr
          obtain ⟨S7, A7, nO⟩ := after A S5 ep
          exact q ι' F' H' dx' A7 S7 xr
        · exact q.elim
      · exact q.elim
theorem makeH_sp {io : List Bool} {ws : List W} {vs : List V} {Q : VK} (S : Sim K ι F l h σ H) (r : relWs K σ ι F H ws vs) (q : Sat K Wx (relW K σ) ι F l σ H (makeH io g c l h ws) Q) (hx : H x = none) (hd : H dx = none) (ne : dx ≠ x) :
    spW K g (.ref x :: vs) (upd (upd H dx (.own x)) x (.ins (He.ga K c) dx [])) (fun v H2 => v = .non ∧ Q (.ref x) H2) (WE Wx σ) := by
  unfold makeH at q
  cases e : mkA l h io ws with
  | none => rw [e] at q; exact False.elim q
  | some p =>
    obtain ⟨as, l1, h1⟩ := p
    rw [e] at q
    obtain ⟨F1, S1, E1, o1, S2, nm, dj⟩ := mkA_ok S r e
    have hx2 : (upd H dx (.own x)) x = none := by rw [upd_ne fun e => ne e.symm]; exact hx
    have S3 : Sim K ι F1 as h1 (vs.map some) (upd (upd H dx (.own x)) x (.ins (He.ga K c) dx [])) := (S2.laid hd).laid hx2
    obtain ⟨n1, n2, n3⟩ := S2.none_ow hx
    obtain ⟨_, n2', n3'⟩ := S1.none_ow hx
    have ob : ObR K (ι ++ [x]) F1 (upd (upd H dx (.own x)) x (.ins (He.ga K c) dx [])) x (.ins c [] []) := ⟨n1, dx, [], rfl, upd_same, .nil⟩
    have len1 : ι.length = h1.length := S2.hs.len
    have S4 : Sim K (ι ++ [x]) F1 (.r h1.length :: as) (h1 ++ [.ins c [] []]) (some (.ref x) :: vs.map some) (upd (upd H dx (.own x)) x (.ins (He.ga K c) dx [])) :=
      (S3.born n2 n3 ob).cons (x := .r h1.length) (v := .ref x) ⟨x, by rw [← len1, List.getElem?_append_right (Nat.le_refl _), Nat.sub_self]; rfl, rfl⟩ fun b d a y => by cases y
    have after : ∀ {ι' F' n' as' h2 H'}, Aft (ι ++ [x]) F1 (.r h1.length :: as) (some (.ref x) :: vs.map some) (upd (upd H dx (.own x)) x (.ins (He.ga K c) dx [])) ι' F' (.r n' :: as') (some (.ref x) :: vs.map some) H' → Sim K ι' F' (.r n' :: as') h2 (some (.ref x) :: vs.map some) H' → poB l (putB l io ws as' l1) = true →
        Sim K ι' F' (putB l io ws as' l1) h2 σ H' ∧ Aft ι F l σ H ι' F' (putB l io ws as' l1) σ H' := fun {ι' F' n' as' h2 H'} A S5 hp => by
      have owt : ∀ {as : Ls} {n : Nat} (a : Addr), Ow (Sl.r n :: as) (some (.ref x) :: vs.map some) a → Ow as (vs.map some) a := fun a z => (ow_cons z).elim (fun ⟨_, _, y, _⟩ => by cases y) id
      have ex1 : Ext (Ow as (vs.map some)) ι F1 H ι' F' H' := Ext.ahead2 A.ext (fun a z => owt a z) hx hd
      have ow2 : ∀ a, Ow as' (vs.map some) a → Ow as (vs.map some) a ∨ H a = none := fun a z => (A.ow a (ow_tail z)).imp (owt a) (two_down hx hd)
      have S6 : Sim K ι' F' l1 h2 σ H' := S1.over ex1 S5.hs fun a z y => (dj a y).2 z
      have nd : ∀ a, Ow as' (vs.map some) a → ¬ Ow l1 σ a := fun a z y => by
        rcases ow2 a z with x | x
        · exact (dj a x).2 y
        · obtain ⟨u, hu⟩ := S1.owns y
          rw [hu] at x; cases x
      obtain ⟨S7, o7⟩ := putB_ok l (io := io) (ws := ws) (vs := vs) S6 S5.tail nd r
      refine ⟨S7, ⟨E1.trans (ex1.weak fun a z => z) fun a z => .inl (dj a z).1, fun a z => ?_, fun i d z => ?_⟩⟩
      · rcases o7 a z with y | y
        · exact .inl (o1 a y)
        · rcases ow2 a y with x | x
          · exact .inl (dj a x).1
          · exact .inr x
      · obtain ⟨d', z'⟩ := poB_ok hp (by rw [S.len, S7.len]) i d z
        exact ⟨d', z', rfl⟩
    refine ⟨(V.ref x :: vs).length, rfl, ι ++ [x], F1, .r h1.length :: as, h1 ++ [.ins c [] []], S4, fun d m => ?_, ?_⟩
    · rcases List.mem_cons.mp m with m | m
      · cases m
      · exact nm d m
    · simp only at q
      split at q
      · rename_i n as' h2 eg
        rw [eg]
        simp only
        split at q
        · rename_i ep
          rw [Bool.and_eq_true] at ep
          have en : n = h1.length := of_decide_eq_true ep.1
          subst en
          intro v ι' F' H' A S5 ao rr
          cases (show Rp K F' H' .non v from rr)
          obtain ⟨S7, A7⟩ := after A S5 ep.2
          obtain ⟨v', ev, a2, qa, ea⟩ := S5.slot (i := 0) (x := .r h1.length) rfl (by intro z; cases z)
          cases ev
          exact ⟨rfl, q (.ref x) ι' F' H' A7 S7 ⟨a2, qa, ea⟩⟩
        · exact q.elim
      · rename_i xx n as' h2 eg
        rw [eg]
        simp only
        split at q
        · rename_i ep
          rw [Bool.and_eq_true] at ep
          intro ι' F' H' dx' A S5 ao xr
          obtain ⟨S7, A7⟩ := after A S5 ep.2
          exact q ι' F' H' dx' A7 S7 xr
        · exact q.elim
      · exact q.elim
end
end VL
set_option maxRecDepth 100000
set_option maxHeartbeats 2000000
namespace VL
open PySem PySem.Spec PyProof.Rows L2

/-! ### calls, as expressions -/
theorem spV_of {K : PySem.W.Frag} {n : Nat} {g : G} (ar : Ar n g) {vs : List V} {H : Hp} {Q : VK} {E : XK} (h : spW K g vs H Q E) : spV K n g vs H Q E := by
  obtain ⟨m, hl, ι, F, as, h, S, nm, q⟩ := h
  have z := ar.len (as := as) (h := h) (fun e => by rw [e] at q; exact q)
  have y := S.len
  rw [List.length_map] at y
  exact ⟨by omega, ι, F, as, h, S, nm, q⟩
def fCallW (io : List Bool) (g : G) (fa : FA) : FE := fun l h => (fa l h).bind fun ws l h => callW io g l h ws
def fCallL (io : List Bool) (g : G) (fa : FA) : FL := fun l h => (fa l h).bind fun ws l h => callL io g l h ws
def fMakeH (io : List Bool) (g : G) (c : Str) (fa : FA) : FE := fun l h => (fa l h).bind fun ws l h => makeH io g c l h ws
def fMakeM (io : List Bool) (g : G) (c : Str) (fa : FA) : FL := fun l h => (fa l h).bind fun ws l h => makeM io g c l h ws
/-- a def of the module -/
def CallOk (P : Program) (w : World) (K : PySem.W.Frag) (mg : Str → Option Value) (base : Heap) (x : Str) (k : Nat) (g : G) : Prop := ∃ f, Fn P w K mg base k f g ∧ mg x = some (.ref f) ∧ PySem.W.keepIn K (.ref f) = true
/-- a class of the module, its __init__ -/
def MakeOk (P : Program) (w : World) (K : PySem.W.Frag) (mg : Str → Option Value) (base : Heap) (x : Str) (k : Nat) (g : G) : Prop := ∃ f, Fn P w K mg base k f g ∧ Mk K (He.ga K x) f ∧ mg x = some (.ref (He.ga K x))
section
variable {X : Cx} {Wx : WX} {k n : Nat} {g : G} {fa : FA} {fe : FE} {x : Str} {p pos sp_ : Pos} {e : Expr} {es : List Expr} {io : List Bool} {σ : L2.St} {H : Hp} {Q : VK}
theorem callW_t (q : tE X.K Wx (fCallW io g fa) σ H Q) : tA X.K Wx fa σ H fun vs H1 => spW X.K g vs H1 Q (WE Wx σ) := by
  obtain ⟨ι, F, l, h, S, q⟩ := q
  exact ⟨ι, F, l, h, S, Sat.cut q fun ws l1 h1 vs ι1 F1 H1 a1 S1 r1 q1 => callW_sp S1 r1 q1⟩
theorem makeH_t (q : tE X.K Wx (fMakeH io g x fa) σ H Q) : tA X.K Wx fa σ H fun vs H1 => ∀ a dx, H1 a = none → H1 dx = none → dx ≠ a → spW X.K g (.ref a :: vs) (upd (upd H1 dx (.own a)) a (.ins (He.ga X.K x) dx [])) (fun v H2 => v = .non ∧ Q (.ref a) H2) (WE Wx σ) := by
  obtain ⟨ι, F, l, h, S, q⟩ := q
  exact ⟨ι, F, l, h, S, Sat.cut q fun ws l1 h1 vs ι1 F1 H1 a1 S1 r1 q1 a dx ha hd ne => makeH_sp S1 r1 q1 ha hd ne⟩
theorem makeM_t (q : tL X.K Wx (fMakeM io g x fa) σ H Q) : tA X.K Wx fa σ H fun vs H1 => ∀ a dx, H1 a = none → H1 dx = none → dx ≠ a → spW X.K g (.ref a :: vs) (upd (upd H1 dx (.own a)) a (.ins (He.ga X.K x) dx [])) (fun v H2 => v = .non ∧ Q (.ref a) H2) (WE Wx σ) := by
  obtain ⟨ι, F, l, h, S, q⟩ := q
  exact ⟨ι, F, l, h, S, Sat.cutL q fun ws l1 h1 vs ι1 F1 H1 a1 S1 r1 q1 a dx ha hd ne => makeM_sp S1 r1 q1 ha hd ne⟩
section
variable {t : TA} {u : List V → Hp → VK → XK → Prop}
/-- the three ways that arguments are written: plain ones, none, one with a star -/
theorem pe_fn {sp : Sp} {f : Addr} (F : FnR X.prog X.w X.K X.mg X.base (L2.CX X.prog X.w) k f sp) (hk : PySem.W.keepIn X.K (.ref f) = true) (hm : X.mg x = some (.ref f)) (hr : Room k X.A) (tk : Takes X Wx) (hg : Gl X x) (ha : PA X (e :: es) t) (hdb : (x == ("__debug__" : Str)) = false := by decide)
    (he : starEach (e :: es) X.env = (false, eval e X.env) :: starEach es X.env := by rfl) (hpl : (backTo pos (starEach es X.env)).any (·.1) = false := by rfl) : PE X (.Call (.Name x p) (e :: es) [] pos) (fun σ H Q => t σ H fun vs H1 => sp vs H1 Q (WE Wx σ)) :=
  ⟨fun pins s σ H Q I h => wpAny_Call_Name_kw (ld_glob I hg hm (PySem.W.callWith_K (h₀ := X.base) I.ok.mod.kin hk (thn (ha.run pos pins s σ H _ I h) fun us s1 ⟨vs, H1, I1, r, q⟩ => ⟨I1.kIn, run_fnE F hr (passAt tk σ) I1 r q⟩) he hpl) hdb)⟩
theorem pe_fn0 {sp : Sp} {f : Addr} (F : FnR X.prog X.w X.K X.mg X.base (L2.CX X.prog X.w) k f sp) (hk : PySem.W.keepIn X.K (.ref f) = true) (hm : X.mg x = some (.ref f)) (hr : Room k X.A) (tk : Takes X Wx) (hg : Gl X x) (hdb : (x == ("__debug__" : Str)) = false := by decide) :
    PE X (.Call (.Name x p) [] [] pos) (fun σ H Q => sp [] H Q (WE Wx σ)) :=
  ⟨fun pins s σ H Q I h => wpAny_Call_Name_kw (ld_glob I hg hm (PySem.W.callWith_K0 I.kIn hk (run_fnE (us := []) F hr (passAt tk σ) I .nil h)) hdb)⟩
theorem pe_fnS {te : TE} {sp : Sp} {f : Addr} (F : FnR X.prog X.w X.K X.mg X.base (L2.CX X.prog X.w) k f sp) (hk : PySem.W.keepIn X.K (.ref f) = true) (hm : X.mg x = some (.ref f)) (hr : Room k X.A) (tk : Takes X Wx) (hg : Gl X x) (ht : PE X e te) (hdb : (x == ("__debug__" : Str)) = false := by decide)
    (hst : starEach [.Starred e sp_] X.env = [(true, eval e X.env)] := by rfl) :
    PE X (.Call (.Name x p) [.Starred e sp_] [] pos) (fun σ H Q => te σ H fun y H1 => ∃ a xs, y = V.ref a ∧ (SqT X.K H1 a xs ∨ SqL X.K H1 a xs) ∧ sp xs H1 Q (WE Wx σ)) := by
  refine ⟨fun pins s σ H Q I h => wpAny_Call_Name_kw (ld_glob I hg hm (PySem.W.callWith_S (h₀ := X.base) I.ok.mod.kin hk (thn (ht.run pins s σ H _ I h) fun v s1 z => ?_) hst) hdb)⟩
  obtain ⟨y, H1, I1, ry, a, xs, rfl, sq, q⟩ := z
  cases ry
  exact StX.star_any I1 sq fun us s2 I2 rv => ⟨I2.kIn, run_fnE F hr (passAt tk σ) I2 rv q⟩
theorem pe_mk {sp : Sp} {f : Addr} (F : FnR X.prog X.w X.K X.mg X.base (L2.CX X.prog X.w) k f sp) (M : Mk X.K (He.ga X.K x) f) (hm : X.mg x = some (.ref (He.ga X.K x))) (hr : Room (k + 1) X.A) (tk : Takes X Wx) (hg : Gl X x) (ha : PA X (e :: es) t) (hdb : (x == ("__debug__" : Str)) = false := by decide)
    (he : starEach (e :: es) X.env = (false, eval e X.env) :: starEach es X.env := by rfl) (hpl : (backTo pos (starEach es X.env)).any (·.1) = false := by rfl) : PE X (.Call (.Name x p) (e :: es) [] pos)
      (fun σ H Q => t σ H fun vs H1 => ∀ a dx, H1 a = none → H1 dx = none → dx ≠ a → sp (.ref a :: vs) (upd (upd H1 dx (.own a)) a (.ins (He.ga X.K x) dx [])) (fun v H2 => v = .non ∧ Q (.ref a) H2) (WE Wx σ)) :=
  ⟨fun pins s σ H Q I h => wpAny_Call_Name_kw (ld_glob I hg hm (PySem.W.callWith_K (h₀ := X.base) I.ok.mod.kin M.kp (thn (ha.run pos pins s σ H _ I h) fun us s1 ⟨vs, H1, I1, r, q⟩ => ⟨I1.kIn, run_makeE M F hr (passAt tk σ) I1 r q⟩) he hpl) hdb)⟩
theorem pe_mk0 {sp : Sp} {f : Addr} (F : FnR X.prog X.w X.K X.mg X.base (L2.CX X.prog X.w) k f sp) (M : Mk X.K (He.ga X.K x) f) (hm : X.mg x = some (.ref (He.ga X.K x))) (hr : Room (k + 1) X.A) (tk : Takes X Wx) (hg : Gl X x) (hdb : (x == ("__debug__" : Str)) = false := by decide) : PE X (.Call (.Name x p) [] [] pos)
      (fun σ H Q => ∀ a dx, H a = none → H dx = none → dx ≠ a → sp [.ref a] (upd (upd H dx (.own a)) a (.ins (He.ga X.K x) dx [])) (fun v H2 => v = .non ∧ Q (.ref a) H2) (WE Wx σ)) :=
  ⟨fun pins s σ H Q I h => wpAny_Call_Name_kw (ld_glob I hg hm (PySem.W.callWith_K0 I.kIn M.kp (run_makeE (us := []) M F hr (passAt tk σ) I .nil h)) hdb)⟩
theorem pe_mkS {te : TE} {sp : Sp} {f : Addr} (F : FnR X.prog X.w X.K X.mg X.base (L2.CX X.prog X.w) k f sp) (M : Mk X.K (He.ga X.K x) f) (hm : X.mg x = some (.ref (He.ga X.K x))) (hr : Room (k + 1) X.A) (tk : Takes X Wx) (hg : Gl X x) (ht : PE X e te) (hdb : (x == ("__debug__" : Str)) = false := by decide)
    (hst : starEach [.Starred e sp_] X.env = [(true, eval e X.env)] := by rfl) : PE X (.Call (.Name x p) [.Starred e sp_] [] pos)
      (fun σ H Q => te σ H fun y H1 => ∃ b xs, y = V.ref b ∧ (SqT X.K H1 b xs ∨ SqL X.K H1 b xs) ∧ ∀ a dx, H1 a = none → H1 dx = none → dx ≠ a → sp (.ref a :: xs) (upd (upd H1 dx (.own a)) a (.ins (He.ga X.K x) dx [])) (fun v H2 => v = .non ∧ Q (.ref a) H2) (WE Wx σ)) := by
  refine ⟨fun pins s σ H Q I h => wpAny_Call_Name_kw (ld_glob I hg hm (PySem.W.callWith_S (h₀ := X.base) I.ok.mod.kin M.kp (thn (ht.run pins s σ H _ I h) fun v s1 z => ?_) hst) hdb)⟩
  obtain ⟨y, H1, I1, ry, a, xs, rfl, sq, q⟩ := z
  cases ry
  exact StX.star_any I1 sq fun us s2 I2 rv => ⟨I2.kIn, run_makeE M F hr (passAt tk σ) I2 rv q⟩
end
/-- f(..) -/
theorem ve_fn (c : CallOk X.prog X.w X.K X.mg X.base x k g) (hr : Room k X.A) (tk : Takes X Wx) (hg : Gl X x) (ha : VA X Wx (e :: es) fa) (hdb : (x == ("__debug__" : Str)) = false := by decide)
    (he : starEach (e :: es) X.env = (false, eval e X.env) :: starEach es X.env := by rfl) (hpl : (backTo pos (starEach es X.env)).any (·.1) = false := by rfl) : VE X Wx (.Call (.Name x p) (e :: es) [] pos) (fCallW io g fa) := by
  obtain ⟨f, F, hm, hk⟩ := c
  exact PE.imp (pe_fn F hk hm hr tk hg ha hdb he hpl) fun σ H Q q => callW_t q
theorem vl_fn (c : CallOk X.prog X.w X.K X.mg X.base x k g) (hr : Room k X.A) (tk : Takes X Wx) (hg : Gl X x) (ha : VA X Wx (e :: es) fa) (hdb : (x == ("__debug__" : Str)) = false := by decide)
    (he : starEach (e :: es) X.env = (false, eval e X.env) :: starEach es X.env := by rfl) (hpl : (backTo pos (starEach es X.env)).any (·.1) = false := by rfl) : VL X Wx (.Call (.Name x p) (e :: es) [] pos) (fCallL io g fa) := by
  obtain ⟨f, F, hm, hk⟩ := c
  exact PE.imp (pe_fn F hk hm hr tk hg ha hdb he hpl) fun σ H Q ⟨ι, F, l, h, S, q⟩ => ⟨ι, F, l, h, S, Sat.cutL q fun ws l1 h1 vs ι1 F1 H1 a1 S1 r1 q1 => callL_sp S1 r1 q1⟩
theorem ve_fn0 (c : CallOk X.prog X.w X.K X.mg X.base x k g) (hr : Room k X.A) (tk : Takes X Wx) (hg : Gl X x) (hdb : (x == ("__debug__" : Str)) = false := by decide) : VE X Wx (.Call (.Name x p) [] [] pos) (fCallW io g fNil) := by
  obtain ⟨f, F, hm, hk⟩ := c
  exact PE.imp (pe_fn0 F hk hm hr tk hg hdb) fun σ H Q ⟨ι, F, l, h, S, q⟩ => callW_sp S .nil q
/-- C(..) -/
theorem ve_mk (c : MakeOk X.prog X.w X.K X.mg X.base x k g) (hr : Room (k + 1) X.A) (tk : Takes X Wx) (hg : Gl X x) (ha : VA X Wx (e :: es) fa) (hdb : (x == ("__debug__" : Str)) = false := by decide)
    (he : starEach (e :: es) X.env = (false, eval e X.env) :: starEach es X.env := by rfl) (hpl : (backTo pos (starEach es X.env)).any (·.1) = false := by rfl) : VE X Wx (.Call (.Name x p) (e :: es) [] pos) (fMakeH io g x fa) := by
  obtain ⟨f, F, M, hm⟩ := c
  exact PE.imp (pe_mk F M hm hr tk hg ha hdb he hpl) fun σ H Q q => makeH_t q
theorem ve_mk0 (c : MakeOk X.prog X.w X.K X.mg X.base x k g) (hr : Room (k + 1) X.A) (tk : Takes X Wx) (hg : Gl X x) (hdb : (x == ("__debug__" : Str)) = false := by decide) : VE X Wx (.Call (.Name x p) [] [] pos) (fMakeH io g x fNil) := by
  obtain ⟨f, F, M, hm⟩ := c
  exact PE.imp (pe_mk0 F M hm hr tk hg hdb) fun σ H Q ⟨ι, F, l, h, S, q⟩ a dx ha hd ne => makeH_sp S .nil q ha hd ne
theorem vl_mk (c : MakeOk X.prog X.w X.K X.mg X.base x k g) (hr : Room (k + 1) X.A) (tk : Takes X Wx) (hg : Gl X x) (ha : VA X Wx (e :: es) fa) (hdb : (x == ("__debug__" : Str)) = false := by decide)
    (he : starEach (e :: es) X.env = (false, eval e X.env) :: starEach es X.env := by rfl) (hpl : (backTo pos (starEach es X.env)).any (·.1) = false := by rfl) : VL X Wx (.Call (.Name x p) (e :: es) [] pos) (fMakeM io g x fa) := by
  obtain ⟨f, F, M, hm⟩ := c
  exact PE.imp (pe_mk F M hm hr tk hg ha hdb he hpl) fun σ H Q q => makeM_t q
theorem vl_mk0 (c : MakeOk X.prog X.w X.K X.mg X.base x k g) (hr : Room (k + 1) X.A) (tk : Takes X Wx) (hg : Gl X x) (hdb : (x == ("__debug__" : Str)) = false := by decide) : VL X Wx (.Call (.Name x p) [] [] pos) (fMakeM io g x fNil) := by
  obtain ⟨f, F, M, hm⟩ := c
  exact PE.imp (pe_mk0 F M hm hr tk hg hdb) fun σ H Q ⟨ι, F, l, h, S, q⟩ a dx ha hd ne => makeM_sp S .nil q ha hd ne
end

/-! ### stars -/
def fStar (f : FE) (fr : FA) : FA := fun l h => (f l h).bind fun w l h => match dOf l h w with
  | some d => (match seqR d with
    | some ds => (fr l h).bind fun ws l h => .ok (ds.map .v ++ ws) l h
    | none => .no)
  | none => .no
theorem relWs.ofD {K : PySem.W.Frag} {σ : L2.St} {ι : List Addr} {F : Addr → Prop} {H : Hp} : ∀ {ds : List D} {vs : List V}, RpL K F H ds vs → relWs K σ ι F H (ds.map .v) vs
  | _, _, .nil => .nil
  | _, _, .cons a r => .cons (show relW K σ ι F H (.v _) _ from a) (relWs.ofD r)
theorem relWs.append {K : PySem.W.Frag} {σ : L2.St} {ι : List Addr} {F : Addr → Prop} {H : Hp} : ∀ {ws us : List W} {vs xs : List V}, relWs K σ ι F H ws vs → relWs K σ ι F H us xs → relWs K σ ι F H (ws ++ us) (vs ++ xs)
  | _, _, _, _, .nil, s => s
  | _, _, _, _, .cons a r, s => .cons a (r.append s)
section
variable {X : Cx} {Wx : WX} {k n : Nat} {g : G} {fa : FA} {fe : FE} {x : Str} {p pos sp_ : Pos} {e : Expr} {es : List Expr} {io : List Bool}
theorem va_star (he : VE X Wx e fe) (hr : VA X Wx es fa) (hs : starEach (.Starred e p :: es) X.env = (true, eval e X.env) :: starEach es X.env := by rfl) : VA X Wx (.Starred e p :: es) (fStar fe fa) :=
  PA.imp (StX.pa_star he hr hs) fun σ H Q ⟨ι, F, l, h, S, q⟩ => ⟨ι, F, l, h, S, Sat.cut q fun w l1 h1 v ι1 F1 H1 a1 S1 r1 q1 => by
    cases z : dOf l1 h1 w with
    | none => simp only [z] at q1; exact q1.elim
    | some d =>
      simp only [z] at q1
      cases y : seqR d with
      | none => simp only [y] at q1; exact q1.elim
      | some ds =>
        simp only [y] at q1
        obtain ⟨a, us, rfl, sq, r⟩ := nd_seq (dOf_nd S1 r1 z) y
        exact ⟨a, us, rfl, sq.symm, ι1, F1, l1, h1, S1, Sat.cut q1 fun ws l2 h2 vs ι2 F2 H2 a2 S2 r2 q2 => Sat.here S2 q2 ((relWs.ofD (r.kp a2.ext.kp)).append r2)⟩⟩
theorem star_t {σ : L2.St} {H : Hp} {P : List V → Hp → Prop} {u : Ls → Hs → List W → R W} {Q : VK} (q : tE X.K Wx (fun l h => (fStar fe fNil l h).bind fun ws l h => u l h ws) σ H Q)
    (hu : ∀ {ι F l h H ws vs}, Sim X.K ι F l h σ H → relWs X.K σ ι F H ws vs → Sat X.K Wx (relW X.K σ) ι F l σ H (u l h ws) Q → P vs H) : tE X.K Wx fe σ H fun y H1 => ∃ a xs, y = V.ref a ∧ (SqT X.K H1 a xs ∨ SqL X.K H1 a xs) ∧ P xs H1 := by
  obtain ⟨ι, F, l, h, S, q⟩ := q
  refine ⟨ι, F, l, h, S, ?_⟩
  simp only [fStar] at q
  cases e1 : fe l h with
  | no => rw [e1] at q; exact q
  | ex x l1 h1 => rw [e1] at q; exact q
  | ok w l1 h1 =>
    rw [e1] at q
    intro v ι1 F1 H1 A1 S1 r1
    have q1 := Sat.later A1 q
    simp only [R.bind] at q1
    cases z : dOf l1 h1 w with
    | none => simp only [z] at q1; exact q1.elim
    | some d =>
      simp only [z] at q1
      cases y : seqR d with
      | none => simp only [y] at q1; exact q1.elim
      | some ds =>
        simp only [y, fNil, List.append_nil] at q1
        obtain ⟨a, us, rfl, sq, r⟩ := nd_seq (dOf_nd S1 r1 z) y
        exact ⟨a, us, rfl, sq.symm, hu S1 (relWs.ofD r) q1⟩
theorem ve_fnS (c : CallOk X.prog X.w X.K X.mg X.base x k g) (hr : Room k X.A) (tk : Takes X Wx) (hg : Gl X x) (he : VE X Wx e fe) (hdb : (x == ("__debug__" : Str)) = false := by decide) (hst : starEach [.Starred e sp_] X.env = [(true, eval e X.env)] := by rfl) :
    VE X Wx (.Call (.Name x p) [.Starred e sp_] [] pos) (fCallW io g (fStar fe fNil)) := by
  obtain ⟨f, F, hm, hk⟩ := c
  exact PE.imp (pe_fnS F hk hm hr tk hg he hdb hst) fun σ H Q q => star_t q fun S r z => callW_sp S r z
theorem ve_mkS (c : MakeOk X.prog X.w X.K X.mg X.base x k g) (hr : Room (k + 1) X.A) (tk : Takes X Wx) (hg : Gl X x) (he : VE X Wx e fe) (hdb : (x == ("__debug__" : Str)) = false := by decide) (hst : starEach [.Starred e sp_] X.env = [(true, eval e X.env)] := by rfl) :
    VE X Wx (.Call (.Name x p) [.Starred e sp_] [] pos) (fMakeH io g x (fStar fe fNil)) := by
  obtain ⟨f, F, M, hm⟩ := c
  exact PE.imp (pe_mkS F M hm hr tk hg he hdb hst) fun σ H Q q => star_t q fun S r z a dx ha hd ne => makeH_sp S r z ha hd ne
end
end VL
set_option maxRecDepth 100000
set_option maxHeartbeats 2000000
namespace VL
open PySem PySem.Spec PyProof.Rows L2

/-! ### instances -/
/-- the class and the attributes' names -/
def clsOf (l : Ls) (h : Hs) : W → Option (Str × List Str)
  | .v (.ins c ns _) => some (c, ns)
  | .s i => (match l[i]? with
    | some (.m _ (.ins c ns _)) => some (c, ns)
    | _ => none)
  | .r n => (match h[n]? with
    | some (.ins c ns _) => some (c, ns)
    | some (.frz (.ins c ns _)) => some (c, ns)
    | _ => none)
  | _ => none
/-- an attribute -/
def fldW (l : Ls) (h : Hs) (f : Str) : W → Option W
  | .v (.ins _ ns xs) => ((ns.zip xs).lookup f).map .v
  | .s i => (match l[i]? with
    | some (.m _ (.ins _ ns xs)) => ((ns.zip xs).lookup f).map .v
    | _ => none)
  | .r n => (match h[n]? with
    | some (.ins _ ns ws) => (ns.zip ws).lookup f
    | some (.frz (.ins _ ns xs)) => ((ns.zip xs).lookup f).map .v
    | _ => none)
  | _ => none
def noEx {α : Type} : R α → R α
  | .ex _ _ _ => .no
  | r => r
section
variable {K : PySem.W.Frag} {ι ι' : List Addr} {F F' : Addr → Prop} {l l' : Ls} {h h' : Hs} {σ σ' : L2.St} {H H' : Hp} {a : Addr} {d : D} {c : Str} {ns : List Str}
theorem lookup_rp {f : Str} : ∀ {ns : List Str} {ds : List D} {vs : List V} {d : D}, RpL K F H ds vs → (ns.zip ds).lookup f = some d → ∃ v, (ns.zip vs).lookup f = some v ∧ Rp K F H d v
  | [], _, _, _, _, e => by simp at e
  | n :: ns, [], _, _, _, e => by simp at e
  | n :: ns, d :: ds, v :: vs, x, .cons a r, e => by
    rw [List.zip_cons_cons, List.lookup_cons] at e ⊢
    cases c : f == n with
    | true =>
      rw [c] at e
      cases e
      exact ⟨v, rfl, a⟩
    | false =>
      rw [c] at e
      exact lookup_rp r e
theorem lookup_wr {f : Str} : ∀ {ns : List Str} {ds : List W} {vs : List V} {d : W}, WsR K ι F H ds vs → (ns.zip ds).lookup f = some d → ∃ v, (ns.zip vs).lookup f = some v ∧ WR K ι F H d v
  | [], _, _, _, _, e => by simp at e
  | n :: ns, [], _, _, _, e => by simp at e
  | n :: ns, d :: ds, v :: vs, x, .cons a r, e => by
    rw [List.zip_cons_cons, List.lookup_cons] at e ⊢
    cases c : f == n with
    | true =>
      rw [c] at e
      cases e
      exact ⟨v, rfl, a⟩
    | false =>
      rw [c] at e
      exact lookup_wr r e
theorem lookup_none {f : Str} : ∀ {ns : List Str} {vs : List V}, f ∉ ns → (ns.zip vs).lookup f = none
  | [], _, _ => by simp
  | n :: ns, [], _ => by simp
  | n :: ns, v :: vs, m => by
    rw [List.zip_cons_cons, List.lookup_cons]
    have c : (f == n) = false := by
      simp only [beq_eq_false_iff_ne]
      exact fun e => m (by rw [e]; exact List.mem_cons_self)
    rw [c]
    exact lookup_none fun y => m (List.mem_cons_of_mem _ y)
/-- an instance stands there -/
theorem clsOf_ok {w : W} {x : V} (S : Sim K ι F l h σ H) (r : relW K σ ι F H w x) (e : clsOf l h w = some (c, ns)) : ∃ a dx vs, x = .ref a ∧ ns.length = vs.length ∧ H a = some (.ins (He.ga K c) dx (ns.zip vs)) := by
  cases w with
  | v d =>
    cases d <;> first | (cases e; cases (show Rp K F H _ x from r) with | ins f hl he rr => exact ⟨_, _, _, rfl, hl, he⟩) | cases e
  | s i =>
    obtain ⟨a, rfl, q⟩ := r
    unfold clsOf at e
    simp only at e
    split at e
    · rename_i b c' ns' xs z
      cases e
      obtain ⟨v', ev, a2, rfl, n1, n2, dx, us, hl, ha, rr⟩ := S.slot z (by intro y; cases y)
      rw [q] at ev
      cases ev
      exact ⟨a, dx, us, rfl, hl, ha⟩
    · cases e
  | r n =>
    obtain ⟨a, q, rfl⟩ := r
    unfold clsOf at e
    simp only at e
    split at e
    · rename_i c' ns' ws z
      cases e
      obtain ⟨nF, dx, us, hl, ha, rr⟩ := S.hs.ob n a _ q z
      exact ⟨a, dx, us, rfl, hl, ha⟩
    · rename_i c' ns' xs z
      cases e
      obtain ⟨f, rp⟩ := S.hs.ob n a _ q z
      cases rp with
      | ins f hl he rr => exact ⟨_, _, _, rfl, hl, he⟩
    · cases e
theorem fldW_ok {w y : W} {x : V} {f : Str} (S : Sim K ι F l h σ H) (r : relW K σ ι F H w x) (e : clsOf l h w = some (c, ns)) (ef : fldW l h f w = some y) : ∃ a dx fs v, x = .ref a ∧ H a = some (.ins (He.ga K c) dx fs) ∧ fs.lookup f = some v ∧ relW K σ ι F H y v := by
  cases w with
  | v d =>
    cases d with
    | ins c' ns' xs =>
      cases e
      obtain ⟨d2, e1, rfl⟩ := Option.map_eq_some_iff.mp (show ((ns.zip xs).lookup f).map W.v = some y from ef)
      cases (show Rp K F H _ x from r) with
      | ins ff hl he rr =>
        obtain ⟨v, e2, rv⟩ := lookup_rp rr e1
        exact ⟨_, _, _, v, rfl, he, e2, rv⟩
    | _ => cases e
  | s i =>
    obtain ⟨a, rfl, q⟩ := r
    unfold clsOf at e
    unfold fldW at ef
    simp only at e ef
    split at e
    · rename_i b c' ns' xs z
      cases e
      simp only [z] at ef
      obtain ⟨d2, e1, rfl⟩ := Option.map_eq_some_iff.mp ef
      obtain ⟨v', ev, a2, rfl, n1, n2, dx, us, hl, ha, rr⟩ := S.slot z (by intro y; cases y)
      rw [q] at ev
      cases ev
      obtain ⟨v, e2, rv⟩ := lookup_rp rr e1
      exact ⟨a, dx, _, v, rfl, ha, e2, rv⟩
    · cases e
  | r n =>
    obtain ⟨a, q, rfl⟩ := r
    unfold clsOf at e
    unfold fldW at ef
    simp only at e ef
    split at e
    · rename_i c' ns' ws z
      cases e
      simp only [z] at ef
      obtain ⟨nF, dx, us, hl, ha, rr⟩ := S.hs.ob n a _ q z
      obtain ⟨v, e2, rv⟩ := lookup_wr rr ef
      exact ⟨a, dx, _, v, rfl, ha, e2, relW.of rv⟩
    · rename_i c' ns' xs z
      cases e
      simp only [z] at ef
      obtain ⟨d2, e1, rfl⟩ := Option.map_eq_some_iff.mp ef
      obtain ⟨f, rp⟩ := S.hs.ob n a _ q z
      cases rp with
      | ins f hl he rr =>
        obtain ⟨v, e2, rv⟩ := lookup_rp rr e1
        exact ⟨_, _, _, v, rfl, he, e2, rv⟩
    · cases e
theorem Sat.noEx {α β : Type} {Wx Wy : WX} {rel : List Addr → (Addr → Prop) → Hp → α → β → Prop} {r : R α} {Q : β → Hp → Prop} (q : Sat K Wx rel ι F l σ H (noEx r) Q) : Sat K Wy rel ι F l σ H r Q := by
  cases r with
  | ok a l h => exact q
  | ex x l h => exact q.elim
  | no => exact q
end
/-- a class's attribute f stands in its instances -/
def FldOk (K : PySem.W.Frag) (f c : Str) : Prop := Cls K (He.ga K c) ∧ NoAttr K (He.ga K c) f
/-- .. is a property -/
def PropOk (P : Program) (w : World) (K : PySem.W.Frag) (mg : Str → Option Value) (base : Heap) (k : Nat) (f c : Str) (g : G) : Prop :=
  Cls K (He.ga K c) ∧ ∃ p ga fd ps n, PropOf K (He.ga K c) f p ga ∧ FnOk P w K mg base (L2.CX P w) k ga fd ps (spV K n g) ∧ Ar n g ∧ Binds K fd ps []
/-- .. is a method -/
def MethOk (P : Program) (w : World) (K : PySem.W.Frag) (mg : Str → Option Value) (base : Heap) (k : Nat) (m c : Str) (g : G) : Prop :=
  Cls K (He.ga K c) ∧ ∃ f, Meth K (He.ga K c) m f ∧ Fn P w K mg base k f g
/-- o.f: the classes cs have it in their instances, those of ps as a property -/
def fAtt (cs : List Str) (ps : List (Str × Bool × G)) (f : Str) (fo : FE) : FE := fun l h => (fo l h).bind fun w l h => match clsOf l h w with
  | some (c, ns) => (match ps.lookup c with
    | some (io, g) => noEx (callW [io] g l h [w])
    | none => (match cs.contains c with
      | true => (match fldW l h f w with
        | some y => .ok y l h
        | none => .no)
      | false => .no))
  | none => .no
/-- o.m(..) -/
def fMeth (ms : List (Str × List Bool × G)) (m : Str) (fo : FE) (fa : FA) : FE := fun l h => (fo l h).bind fun w l h => match clsOf l h w with
  | some (c, ns) => (match ms.lookup c with
    | some (io, g) => (match ns.contains m with
      | true => .no
      | false => (fa l h).bind fun ws l h => callW io g l h (w :: ws))
    | none => .no)
  | none => .no
theorem mem_lookup2 {α : Type} : ∀ {xs : List (Str × α)} {c : Str} {y : α}, xs.lookup c = some y → (c, y) ∈ xs
  | (n, a) :: r, c, y, e => by
    rw [List.lookup_cons] at e
    cases q : c == n with
    | true =>
      rw [q] at e
      cases e
      rw [beq_iff_eq] at q
      rw [q]
      exact List.mem_cons_self
    | false =>
      rw [q] at e
      exact List.mem_cons_of_mem _ (mem_lookup2 e)
theorem PE.any {X : Cx} {e : Expr} {ι : Type} {t : ι → TE} (p : ∀ i, PE X e (t i)) : PE X e (fun σ H Q => ∃ i, t i σ H Q) := ⟨fun pins s σ H Q I ⟨i, q⟩ => (p i).run pins s σ H Q I q⟩
theorem PE.or {X : Cx} {e : Expr} {t t' : TE} (p : PE X e t) (p' : PE X e t') : PE X e (fun σ H Q => t σ H Q ∨ t' σ H Q) := ⟨fun pins s σ H Q I q => q.elim (p.run pins s σ H Q I) (p'.run pins s σ H Q I)⟩
theorem tE.mono {K : PySem.W.Frag} {Wx : WX} {fe : FE} {σ : L2.St} {H : Hp} {Q Q' : VK} (k : ∀ x H1, Q x H1 → Q' x H1) (q : tE K Wx fe σ H Q) : tE K Wx fe σ H Q' := by
  obtain ⟨ι, F, l, h, S, q⟩ := q
  refine ⟨ι, F, l, h, S, ?_⟩
  cases e : fe l h with
  | no => rw [e] at q; exact q
  | ex x l1 h1 => rw [e] at q; exact q
  | ok w l1 h1 =>
    rw [e] at q
    exact fun v ι1 F1 H1 A S' r => k _ _ (q v ι1 F1 H1 A S' r)
/-- behind an expression, told by its result -/
theorem tE.ok {K : PySem.W.Frag} {Wx : WX} {fe : FE} {ι : List Addr} {F : Addr → Prop} {l l1 : Ls} {h h1 : Hs} {w : W} {σ : L2.St} {H : Hp} {Q : VK} {u : W → Ls → Hs → R W} (S : Sim K ι F l h σ H) (e : fe l h = .ok w l1 h1) {Q1 : VK} (q : Sat K Wx (relW K σ) ι F l σ H ((fe l h).bind u) Q)
    (k : ∀ x ι1 F1 H1, Aft ι F l σ H ι1 F1 l1 σ H1 → Sim K ι1 F1 l1 h1 σ H1 → relW K σ ι1 F1 H1 w x → Sat K Wx (relW K σ) ι1 F1 l1 σ H1 (u w l1 h1) Q → Q1 x H1) : tE K Wx fe σ H Q1 := by
  refine ⟨ι, F, l, h, S, ?_⟩
  rw [e] at q ⊢
  exact fun v ι1 F1 H1 A S' r => k v ι1 F1 H1 A S' r (Sat.later A q)
section
variable {X : Cx} {Wx : WX} {k : Nat} {fa : FA} {fo fe : FE} {f m : Str} {pos apos p pos' : Pos} {o e value : Expr} {es : List Expr} {cs : List Str} {ps : List (Str × Bool × G)} {ms : List (Str × List Bool × G)}
theorem ve_att (ho : VE X Wx o fo) (hcs : ∀ c ∈ cs, FldOk X.K f c) (hps : ∀ q ∈ ps, PropOk X.prog X.w X.K X.mg X.base k f q.1 q.2.2) (hr : Room (k + 1) X.A) (hb : attributeBase o f X.env (eval o X.env) = eval o X.env) :
    VE X Wx (.Attribute o f pos) (fAtt cs ps f fo) := by
  have prop : ∀ q : { q : Str × Bool × G // q ∈ ps }, PE X (.Attribute o f pos) (tProp (He.ga X.K q.1.1) (spW X.K q.1.2.2) [] (WE WN []) (tE X.K Wx fo)) := fun ⟨q, hq⟩ => by
    obtain ⟨cl, pa, ga, fd, pars, n, po, F, ar, hbd⟩ := hps q hq
    refine PE.imp (pe_prop ho cl po F hr hbd .nil (E := fun _ _ _ => False) (fun pins σ H s e s' I x => ?_) hb) fun σ H Q t => tE.mono (fun x H1 ⟨a, dx, fs, e1, e2, z⟩ => ⟨a, dx, fs, e1, e2, spV_of ar z⟩) t
    obtain ⟨a, B, H', cls, d, ea, fl, hok, ub, na, os, ag, he⟩ := x
    exact he
  refine PE.imp (PE.or (pe_fld ho hb) (PE.any prop)) fun σ H Q ⟨ι, F, l, h, S, q⟩ => ?_
  unfold fAtt at q
  cases e1 : fo l h with
  | no => rw [e1] at q; exact q.elim
  | ex x l1 h1 =>
    rw [e1] at q
    exact .inl ⟨ι, F, l, h, S, by rw [e1]; exact q⟩
  | ok w l1 h1 =>
    cases e2 : clsOf l1 h1 w with
    | none => rw [e1] at q; simp only [R.bind, e2] at q; exact q.elim
    | some cn =>
      obtain ⟨c, ns⟩ := cn
      cases e3 : ps.lookup c with
      | some iog =>
        obtain ⟨io, g⟩ := iog
        refine .inr ⟨⟨(c, io, g), mem_lookup2 e3⟩, tE.ok S e1 q fun x ι1 F1 H1 A S1 r1 q1 => ?_⟩
        simp only [e2, e3] at q1
        obtain ⟨a, dx, us, rfl, hl, he⟩ := clsOf_ok S1 r1 e2
        have z := callW_sp (Wx := WN) (σ := σ) S1 (.cons r1 .nil) q1.noEx
        exact ⟨a, dx, _, rfl, he, z⟩
      | none =>
        refine .inl (tE.ok S e1 q fun x ι1 F1 H1 A S1 r1 q1 => ?_)
        simp only [e2, e3] at q1
        cases e4 : cs.contains c with
        | false => simp only [e4] at q1; exact q1.elim
        | true =>
          simp only [e4] at q1
          cases e5 : fldW l1 h1 f w with
          | none => simp only [e5] at q1; exact q1.elim
          | some y =>
            simp only [e5] at q1
            obtain ⟨cl, na⟩ := hcs c (by simpa using e4)
            obtain ⟨a, dx, fs, v, rfl, he, hl, rv⟩ := fldW_ok S1 r1 e2 e5
            exact ⟨a, _, dx, fs, v, rfl, he, cl, na, hl, Sat.here S1 q1 rv⟩
/-- an instance's method -/
def tMt (C : Addr) (m : Str) (sp : Sp) (Wx : WX) (ta : TE) (t : TA) : TE := fun σ H Q => ta σ H fun x H1 => ∃ a dx fs, x = .ref a ∧ H1 a = some (.ins C dx fs) ∧ fs.lookup m = none ∧ t σ H1 fun vs H2 => sp (.ref a :: vs) H2 Q (WE Wx σ)
theorem pe_mt {ta : TE} {t : TA} {C g : Addr} {sp : Sp} {pl : Sem Bool} (ho : PE X o ta) (cl : Cls X.K C) (hm : Meth X.K C m g) (F : FnR X.prog X.w X.K X.mg X.base (L2.CX X.prog X.w) k g sp) (hr : Room k X.A) (tk : Takes X Wx) (ha : PA X (e :: es) t)
    (hst : starEach (e :: es) X.env = (false, eval e X.env) :: starEach es X.env := by rfl) (hpl : (backTo pos (starEach es X.env)).any (·.1) = false := by rfl)
    (ht : eval (.Call (.Attribute o m apos) (e :: es) [] pos) X.env = (do
      let ov ← eval o X.env
      standAt apos.atName
      let (f, first) ← holding [ov] (getMethod ov m pl)
      callWith pos f first (backTo pos (starEach (e :: es) X.env)) (backToKw pos (keywordEach [] X.env))) := by rfl) : PE X (.Call (.Attribute o m apos) (e :: es) [] pos) (tMt C m sp Wx ta t) := by
  refine ⟨fun pins s σ H Q I h => PySem.W.methodCall_KW (pl := pl) (thn (ho.run pins s σ H _ I h) fun u s1 z => ?_) ht⟩
  obtain ⟨x, H1, I1, rx, a, dx, fs, rfl, ea, l, q⟩ := z
  cases (show u = Value.ref a from rx)
  exact getmeth_ok I1 ea cl hm l (PySem.W.callWith_K (first := [.ref a]) (h₀ := X.base) I.ok.mod.kin hm.kp (thn (ha.run pos pins s1 σ H1 _ I1 q) fun us s2 ⟨vs, H2, I2, r, q2⟩ => ⟨I2.kIn, run_fnE (us := .ref a :: us) (vs := .ref a :: vs) F hr (passAt tk σ) I2 (.cons rfl r) q2⟩) hst hpl)
theorem pe_mt0 {ta : TE} {C g : Addr} {sp : Sp} {pl : Sem Bool} (ho : PE X o ta) (cl : Cls X.K C) (hm : Meth X.K C m g) (F : FnR X.prog X.w X.K X.mg X.base (L2.CX X.prog X.w) k g sp) (hr : Room k X.A) (tk : Takes X Wx)
    (ht : eval (.Call (.Attribute o m apos) [] [] pos) X.env = (do
      let ov ← eval o X.env
      standAt apos.atName
      let (f, first) ← holding [ov] (getMethod ov m pl)
      callWith pos f first (backTo pos (starEach [] X.env)) (backToKw pos (keywordEach [] X.env))) := by rfl) : PE X (.Call (.Attribute o m apos) [] [] pos) (fun σ H Q => ta σ H fun x H1 => ∃ a dx fs, x = .ref a ∧ H1 a = some (.ins C dx fs) ∧ fs.lookup m = none ∧ sp [.ref a] H1 Q (WE Wx σ)) := by
  refine ⟨fun pins s σ H Q I h => PySem.W.methodCall_KW (pl := pl) (thn (ho.run pins s σ H _ I h) fun u s1 z => ?_) ht⟩
  obtain ⟨x, H1, I1, rx, a, dx, fs, rfl, ea, l, q⟩ := z
  cases (show u = Value.ref a from rx)
  exact getmeth_ok I1 ea cl hm l (PySem.W.callWith_K0 (first := [.ref a]) I1.kIn hm.kp (run_fnE (us := [.ref a]) (vs := [.ref a]) F hr (passAt tk σ) I1 (.cons rfl .nil) q))
theorem ve_meth {pl : Sem Bool} (ho : VE X Wx o fo) (hms : ∀ q ∈ ms, MethOk X.prog X.w X.K X.mg X.base k m q.1 q.2.2) (hne : ∃ q, q ∈ ms) (hr : Room k X.A) (tk : Takes X Wx) (ha : VA X Wx (e :: es) fa)
    (hst : starEach (e :: es) X.env = (false, eval e X.env) :: starEach es X.env := by rfl) (hpl : (backTo pos (starEach es X.env)).any (·.1) = false := by rfl)
    (ht : eval (.Call (.Attribute o m apos) (e :: es) [] pos) X.env = (do
      let ov ← eval o X.env
      standAt apos.atName
      let (f, first) ← holding [ov] (getMethod ov m pl)
      callWith pos f first (backTo pos (starEach (e :: es) X.env)) (backToKw pos (keywordEach [] X.env))) := by rfl) : VE X Wx (.Call (.Attribute o m apos) (e :: es) [] pos) (fMeth ms m fo fa) := by
  have each : ∀ q : { q : Str × List Bool × G // q ∈ ms }, PE X (.Call (.Attribute o m apos) (e :: es) [] pos) (tMt (He.ga X.K q.1.1) m (spW X.K q.1.2.2) Wx (tE X.K Wx fo) (tA X.K Wx fa)) := fun ⟨q, hq⟩ => by
    obtain ⟨cl, g, mt, F⟩ := hms q hq
    exact pe_mt ho cl mt F hr tk ha hst hpl ht
  refine PE.imp (PE.any each) fun σ H Q ⟨ι, F, l, h, S, q⟩ => ?_
  unfold fMeth at q
  cases e1 : fo l h with
  | no => rw [e1] at q; exact q.elim
  | ex x l1 h1 =>
    rw [e1] at q
    obtain ⟨q0, hq0⟩ := hne
    exact ⟨⟨q0, hq0⟩, ι, F, l, h, S, by rw [e1]; exact q⟩
  | ok w l1 h1 =>
    cases e2 : clsOf l1 h1 w with
    | none => rw [e1] at q; simp only [R.bind, e2] at q; exact q.elim
    | some cn =>
      obtain ⟨c, ns⟩ := cn
      cases e3 : ms.lookup c with
      | none => rw [e1] at q; simp only [R.bind, e2, e3] at q; exact q.elim
      | some iog =>
        obtain ⟨io, g⟩ := iog
        refine ⟨⟨(c, io, g), mem_lookup2 e3⟩, tE.ok S e1 q fun x ι1 F1 H1 A S1 r1 q1 => ?_⟩
        simp only [e2, e3] at q1
        obtain ⟨a, dx, us, rfl, hl, he⟩ := clsOf_ok S1 r1 e2
        cases e4 : ns.contains m with
        | true => simp only [e4] at q1; exact q1.elim
        | false =>
          simp only [e4] at q1
          refine ⟨a, dx, _, rfl, he, lookup_none (by simpa using e4), ι1, F1, l1, h1, S1, Sat.cut q1 fun ws l2 h2 vs ι2 F2 H2 a2 S2 r2 q2 => ?_⟩
          exact callW_sp S2 (.cons (relW.ext a2.ext r1) r2) q2
theorem ve_meth0 {pl : Sem Bool} (ho : VE X Wx o fo) (hms : ∀ q ∈ ms, MethOk X.prog X.w X.K X.mg X.base k m q.1 q.2.2) (hne : ∃ q, q ∈ ms) (hr : Room k X.A) (tk : Takes X Wx)
    (ht : eval (.Call (.Attribute o m apos) [] [] pos) X.env = (do
      let ov ← eval o X.env
      standAt apos.atName
      let (f, first) ← holding [ov] (getMethod ov m pl)
      callWith pos f first (backTo pos (starEach [] X.env)) (backToKw pos (keywordEach [] X.env))) := by rfl) : VE X Wx (.Call (.Attribute o m apos) [] [] pos) (fMeth ms m fo fNil) := by
  have each : ∀ q : { q : Str × List Bool × G // q ∈ ms }, PE X (.Call (.Attribute o m apos) [] [] pos) (fun σ H Q => tE X.K Wx fo σ H fun x H1 => ∃ a dx fs, x = .ref a ∧ H1 a = some (.ins (He.ga X.K q.1.1) dx fs) ∧ fs.lookup m = none ∧ spW X.K q.1.2.2 [.ref a] H1 Q (WE Wx σ)) := fun ⟨q, hq⟩ => by
    obtain ⟨cl, g, mt, F⟩ := hms q hq
    exact pe_mt0 ho cl mt F hr tk ht
  refine PE.imp (PE.any each) fun σ H Q ⟨ι, F, l, h, S, q⟩ => ?_
  unfold fMeth at q
  cases e1 : fo l h with
  | no => rw [e1] at q; exact q.elim
  | ex x l1 h1 =>
    rw [e1] at q
    obtain ⟨q0, hq0⟩ := hne
    exact ⟨⟨q0, hq0⟩, ι, F, l, h, S, by rw [e1]; exact q⟩
  | ok w l1 h1 =>
    cases e2 : clsOf l1 h1 w with
    | none => rw [e1] at q; simp only [R.bind, e2] at q; exact q.elim
    | some cn =>
      obtain ⟨c, ns⟩ := cn
      cases e3 : ms.lookup c with
      | none => rw [e1] at q; simp only [R.bind, e2, e3] at q; exact q.elim
      | some iog =>
        obtain ⟨io, g⟩ := iog
        refine ⟨⟨(c, io, g), mem_lookup2 e3⟩, tE.ok S e1 q fun x ι1 F1 H1 A S1 r1 q1 => ?_⟩
        simp only [e2, e3] at q1
        obtain ⟨a, dx, us, rfl, hl, he⟩ := clsOf_ok S1 r1 e2
        cases e4 : ns.contains m with
        | true => simp only [e4] at q1; exact q1.elim
        | false =>
          simp only [e4] at q1
          exact ⟨a, dx, _, rfl, he, lookup_none (by simpa using e4), callW_sp S1 (.cons r1 .nil) q1⟩
end

/-! ### attributes stored -/
def putN {α : Type} (f : Str) (v : α) : List Str → List α → List Str × List α
  | n :: ns, x :: xs => if n = f then (n :: ns, v :: xs) else ((n :: (putN f v ns xs).1), (x :: (putN f v ns xs).2))
  | _, _ => ([f], [v])
def setF (l : Ls) (h : Hs) (f : Str) (y : W) : W → R Fl
  | .s i => match fz l h y with
    | some (d, l, h) => (match l[i]? with
      | some (.m b (.ins c ns ds)) => (match decide (ns.length < 1000 ∧ ns.length = ds.length) with
        | true => .ok .nx (l.set i (.m b (.ins c (putN f d ns ds).1 (putN f d ns ds).2))) h
        | false => .no)
      | _ => .no)
    | none => .no
  | .r n => match nrm l h y with
    | some (w, l, h) => (match h[n]? with
      | some (.ins c ns ws) => (match decide (ns.length < 1000 ∧ ns.length = ws.length) with
        | true => .ok .nx l (h.set n (.ins c (putN f w ns ws).1 (putN f w ns ws).2))
        | false => .no)
      | _ => .no)
    | none => .no
  | _ => .no
/-- o.f = e, o of one of the classes cs -/
def sFld (cs : List Str) (f : Str) (fo fe : FE) : FS := fun l h => (fe l h).bind fun y l h => (fo l h).bind fun w l h => match clsOf l h w with
  | some (c, _) => (match cs.contains c with
    | true => setF l h f y w
    | false => .no)
  | none => .no
section
variable {K : PySem.W.Frag} {Wx : WX} {ι ι' : List Addr} {F F' : Addr → Prop} {l l' : Ls} {h h' : Hs} {σ σ' : L2.St} {H H' : Hp} {a : Addr} {d : D} {c : Str} {ns : List Str}
theorem putN_len {α : Type} {f : Str} {v : α} : ∀ {ns : List Str} {xs : List α}, ns.length = xs.length → (putN f v ns xs).1.length = (putN f v ns xs).2.length
  | [], [], _ => rfl
  | n :: ns, x :: xs, e => by
    unfold putN
    by_cases c : n = f
    · rw [if_pos c]; exact e
    · rw [if_neg c]
      exact congrArg Nat.succ (putN_len (ns := ns) (xs := xs) (by simpa using e))
theorem putN_zip {f : Str} {v : V} : ∀ {ns : List Str} {vs : List V}, ns.length = vs.length → putF f v (ns.zip vs) = (putN f v ns vs).1.zip (putN f v ns vs).2
  | [], [], _ => rfl
  | n :: ns, x :: xs, e => by
    unfold putN
    rw [List.zip_cons_cons]
    unfold putF
    by_cases c : n = f
    · rw [if_pos c, if_pos c]; rfl
    · rw [if_neg c, if_neg c, putN_zip (ns := ns) (vs := xs) (by simpa using e)]; rfl
theorem putN_names {α β : Type} {f : Str} {v : α} {u : β} : ∀ {ns : List Str} {xs : List α} {ys : List β}, ns.length = xs.length → ns.length = ys.length → (putN f v ns xs).1 = (putN f u ns ys).1
  | [], [], [], _, _ => rfl
  | n :: ns, x :: xs, y :: ys, e, e' => by
    unfold putN
    by_cases c : n = f
    · rw [if_pos c, if_pos c]
    · rw [if_neg c, if_neg c]
      exact congrArg (n :: ·) (putN_names (by simpa using e) (by simpa using e'))
theorem putN_rp {f : Str} {d : D} {v : V} (r : Rp K F H d v) : ∀ {ns : List Str} {ds : List D} {vs : List V}, ns.length = vs.length → RpL K F H ds vs → RpL K F H (putN f d ns ds).2 (putN f v ns vs).2
  | [], _, _, _, .nil => .cons r .nil
  | _ :: _, [], [], e, .nil => by cases e
  | n :: ns, d :: ds, v :: vs, e, .cons a rr => by
    unfold putN
    by_cases c : n = f
    · rw [if_pos c, if_pos c]; exact .cons r rr
    · rw [if_neg c, if_neg c]
      exact .cons a (putN_rp r (by simpa using e) rr)
theorem putN_wr {f : Str} {d : W} {v : V} (r : WR K ι F H d v) : ∀ {ns : List Str} {ds : List W} {vs : List V}, ns.length = vs.length → WsR K ι F H ds vs → WsR K ι F H (putN f d ns ds).2 (putN f v ns vs).2
  | [], _, _, _, .nil => .cons r .nil
  | _ :: _, [], [], e, .nil => by cases e
  | n :: ns, d :: ds, v :: vs, e, .cons a rr => by
    unfold putN
    by_cases c : n = f
    · rw [if_pos c, if_pos c]; exact .cons r rr
    · rw [if_neg c, if_neg c]
      exact .cons a (putN_wr r (by simpa using e) rr)
theorem setF_ok {w y : W} {x v : V} {f : Str} {D : Ends} (S : Sim K ι F l h σ H) (r : relW K σ ι F H w x) (ry : relW K σ ι F H y v) (e : clsOf l h w = some (c, ns)) (q : SatS K Wx ι F l σ H (setF l h f y w) D) :
    ∃ a dx fs, x = .ref a ∧ H a = some (.ins (He.ga K c) dx fs) ∧ fs.length < 1000 ∧ D.nx σ (upd H a (.ins (He.ga K c) dx (putF f v fs))) := by
  cases w with
  | v d => exact q.elim
  | s i =>
    obtain ⟨a, rfl, qa⟩ := r
    unfold setF at q
    simp only at q
    split at q
    · rename_i d l1 h1 z
      obtain ⟨F1, S1, A1, rp⟩ := fz_ok S ry z
      obtain ⟨a', dx', us', ea', hl', he'⟩ := clsOf_ok S (show relW K σ ι F H (.s i) (.ref a) from ⟨a, rfl, qa⟩) e
      cases ea'
      split at q
      · rename_i b c' ns' ds zi
        split at q
        · rename_i cc
          obtain ⟨cc1, cc2⟩ := of_decide_eq_true cc
          obtain ⟨v', ev, a2, rfl, n1, n2, dx, us, hl, ha, rr⟩ := S1.slot zi (by intro y; cases y)
          rw [qa] at ev
          cases ev
          have hcl : He.ga K c' = He.ga K c := by
            rw [he'] at ha
            injection ha with ha
            injection ha with e1 e2 e3
            exact e1.symm
          refine ⟨a, dx, ns'.zip us, rfl, by rw [← hcl]; exact ha, by rw [List.length_zip, ← hl, Nat.min_self]; exact cc1, ?_⟩
          rw [putN_zip hl, ← hcl]
          have kp := kp_upd (H := H) (u := .ins (He.ga K c') dx ((putN f v ns' us).1.zip (putN f v ns' us).2)) n1
          obtain ⟨S2, A2⟩ := S1.wrM (u := .ins (He.ga K c') dx ((putN f v ns' us).1.zip (putN f v ns' us).2)) (d' := .ins c' (putN f d ns' ds).1 (putN f d ns' ds).2) zi qa
            ⟨dx, (putN f v ns' us).2, by rw [putN_names cc2 hl]; exact putN_len hl, by rw [putN_names cc2 hl]; exact upd_same, (putN_rp rp hl rr).kp kp⟩
          exact q σ ι F1 _ (A1.trans A2) S2
        · exact q.elim
      · exact q.elim
    · exact q.elim
  | r n =>
    obtain ⟨a, qa, rfl⟩ := r
    unfold setF at q
    simp only at q
    split at q
    · rename_i w1 l1 h1 z
      obtain ⟨F1, S1, A1, rp⟩ := nrm_ok S ry z
      obtain ⟨a', dx', us', ea', hl', he'⟩ := clsOf_ok S (show relW K σ ι F H (.r n) (.ref a) from ⟨a, qa, rfl⟩) e
      cases ea'
      split at q
      · rename_i c' ns' ws zi
        split at q
        · rename_i cc
          obtain ⟨cc1, cc2⟩ := of_decide_eq_true cc
          obtain ⟨nF, dx, us, hl, ha, rr⟩ := S1.hs.ob n a _ qa zi
          have hcl : He.ga K c' = He.ga K c := by
            rw [he'] at ha
            injection ha with ha
            injection ha with e1 e2 e3
            exact e1.symm
          refine ⟨a, dx, ns'.zip us, rfl, by rw [← hcl]; exact ha, by rw [List.length_zip, ← hl, Nat.min_self]; exact cc1, ?_⟩
          rw [putN_zip hl, ← hcl]
          have kp := kp_upd (H := H) (u := .ins (He.ga K c') dx ((putN f v ns' us).1.zip (putN f v ns' us).2)) nF
          obtain ⟨S2, A2⟩ := S1.wrH (u := .ins (He.ga K c') dx ((putN f v ns' us).1.zip (putN f v ns' us).2)) (o := .ins c' ns' ws) (o' := .ins c' (putN f w1 ns' ws).1 (putN f w1 ns' ws).2) qa nF
            ⟨nF, dx, (putN f v ns' us).2, by rw [putN_names cc2 hl]; exact putN_len hl, by rw [putN_names cc2 hl]; exact upd_same, (putN_wr rp hl rr).kp kp⟩
          exact q σ ι F1 _ (A1.trans A2) S2
        · exact q.elim
      · exact q.elim
    · exact q.elim
end
section
variable {X : Cx} {Wx : WX} {fo fe : FE} {f : Str} {pos pos' : Pos} {o value : Expr} {cs : List Str} {fl : FL}
theorem vs_fld (ho : VE X Wx o fo) (hv : VE X Wx value fe) (hcs : ∀ c ∈ cs, FldOk X.K f c) (hs : swapsWith value (some (.Attribute o f pos')) pos.line X.env = pure false) : VS X Wx (.Assign [.Attribute o f pos'] value pos) (sFld cs f fo fe) :=
  PS.imp (ps_fld ho hv hs) fun D σ H ⟨ι, F, l, h, S, q⟩ => ⟨ι, F, l, h, S, Sat.cutS q fun y l1 h1 v ι1 F1 H1 a1 S1 r1 q1 => ⟨ι1, F1, l1, h1, S1, Sat.cutS q1 fun w l2 h2 x ι2 F2 H2 a2 S2 r2 q2 => by
    cases e2 : clsOf l2 h2 w with
    | none => simp only [e2] at q2; exact q2.elim
    | some cn =>
      obtain ⟨c, ns⟩ := cn
      simp only [e2] at q2
      cases e4 : cs.contains c with
      | false => simp only [e4] at q2; exact q2.elim
      | true =>
        simp only [e4] at q2
        obtain ⟨cl, na⟩ := hcs c (by simpa using e4)
        obtain ⟨a, dx, fs, rfl, he, hl, z⟩ := setF_ok S2 r2 (relW.ext a2.ext r1) e2 q2
        exact ⟨a, _, dx, fs, rfl, he, cl, na, hl, z⟩⟩⟩
/-- a fresh container gets a number -/
def oOf : D → Option O
  | .lst ds => some (.lst (ds.map .v))
  | .dK ks ds => some (.dK ks (ds.map .v))
  | .dT ks ds => some (.dT ks (ds.map .v))
  | .ins c ns ds => some (.ins c ns (ds.map .v))
  | _ => none
def fBorn (f : FL) : FE := fun l h => (f l h).bind fun d l h => match oOf d with
  | some o => .ok (.r h.length) l (h ++ [o])
  | none => .no
theorem ve_born {e : Expr} (he : VL X Wx e fl) : VE X Wx e (fBorn fl) := PE.imp he fun σ H Q ⟨ι, F, l, h, S, q⟩ => by
  refine ⟨ι, F, l, h, S, ?_⟩
  unfold fBorn at q
  cases z : fl l h with
  | no => rw [z] at q; exact q
  | ex x l1 h1 => rw [z] at q; exact q
  | ok d l1 h1 =>
    rw [z] at q
    intro a ι' F' H' A S' n1 n2 n3 o fr
    cases y : oOf d with
    | none => simp only [R.bind, y] at q; exact q.elim
    | some ob =>
      simp only [R.bind, y] at q
      have hob : ObR X.K (ι' ++ [a]) F' H' a ob := by
        cases d with
        | lst ds => cases y; obtain ⟨vs, ha, rr⟩ := o; exact ⟨n1, vs, ha, WsR.ofD rr⟩
        | dK ks ds => cases y; obtain ⟨vs, hl, ha, rr⟩ := o; exact ⟨n1, vs, hl, ha, WsR.ofD rr⟩
        | dT ks ds => cases y; obtain ⟨vs, hl, ha, rr⟩ := o; exact ⟨n1, vs, hl, ha, WsR.ofD rr⟩
        | ins c ns ds => cases y; obtain ⟨dx, vs, hl, ha, rr⟩ := o; exact ⟨n1, dx, vs, hl, ha, WsR.ofD rr⟩
        | _ => cases y
      exact q (.ref a) (ι' ++ [a]) F' H' (A.born fr n2) (S'.born n2 n3 hob) ⟨a, by rw [← S'.hs.len, List.getElem?_append_right (Nat.le_refl _), Nat.sub_self]; rfl, rfl⟩
/-- a value frozen -/
def fFrz (f : FE) : FE := fun l h => (f l h).bind fun w l h => match fz l h w with
  | some (d, l, h) => .ok (.v d) l h
  | none => .no
theorem ve_frz {e : Expr} (he : VE X Wx e fe) : VE X Wx e (fFrz fe) := PE.imp he fun σ H Q ⟨ι, F, l, h, S, q⟩ => ⟨ι, F, l, h, S, Sat.cut q fun w l1 h1 v ι1 F1 H1 a1 S1 r1 q1 => by
  cases z : fz l1 h1 w with
  | none => simp only [z] at q1; exact q1.elim
  | some p =>
    obtain ⟨d, l2, h2⟩ := p
    simp only [z] at q1
    obtain ⟨F2, S2, A2, rp⟩ := fz_ok S1 r1 z
    exact q1 v ι1 F2 H1 A2 S2 (show relW X.K σ ι1 F2 H1 (.v d) v from rp)⟩
/-- C.f, a constant of a class of the module -/
theorem ve_cc {e : Expr} {C : Addr} {mc u : Value} {d : D} {v : V} (he : PE X e (tC (.ref C))) (cr : ClX.CRead X.K C mc) (cv : ClX.CVal X.K C mc f v u) (rd : ∀ F H, Rp X.K F H d v) (hb : attributeBase e f X.env (eval e X.env) = eval e X.env := by rfl) : VE X Wx (.Attribute e f pos) (fC d) :=
  PE.imp (ClX.pe_cval he hb) fun σ H Q ⟨ι, F, l, h, S, q⟩ => ⟨C, mc, v, u, rfl, cr, cv, Sat.here S q (show relW X.K σ ι F H (.v d) v from rd F H)⟩
end
end VL
set_option maxRecDepth 100000
set_option maxHeartbeats 2000000
namespace VL
open PySem PySem.Spec PyProof.Rows L2

/-! ### objects that hand on a list's iterator -/
/-- __iter__ at fi: iter(self.f), f a list -/
def ItFn (P : Program) (w : World) (K : PySem.W.Frag) (mg : Str → Option Value) (base : Heap) (k : Nat) (fi C : Addr) (f : Str) : Prop :=
  ∀ (A : Around) (outer : List Env) (s : Shared) (H : Hp) (a dx l : Addr) (fs : List (Str × V)) (zs : List V), Room k A → Env0 P w K mg base A outer s H → H a = some (.ins C dx fs) → fs.lookup f = some (.ref l) → SqL K H l zs →
    codeAny (model P w) A (.call (.ref fi) ⟨[.ref a], []⟩) (CR (fun _ _ _ _ _ _ => False) outer P w H s (fun v H' => ∃ it, v = .ref it ∧ s.heap.objs.size ≤ it ∧ H it = none ∧ H' = upd H it (ItO l it 0)) (fun _ _ _ => False)) s
/-- __len__ at fl: len(self.f) -/
def LnFn (P : Program) (w : World) (K : PySem.W.Frag) (mg : Str → Option Value) (base : Heap) (k : Nat) (fl C : Addr) (f : Str) : Prop :=
  FnR P w K mg base (fun _ _ _ _ _ _ => False) k fl (fun vs H Q _ => ∃ a dx fs l zs, vs = [.ref a] ∧ H a = some (.ins C dx fs) ∧ fs.lookup f = some (.ref l) ∧ SqL K H l zs ∧ Q (.int zs.length) H)
/-- a class that is walked so -/
def IterOk (P : Program) (w : World) (K : PySem.W.Frag) (mg : Str → Option Value) (base : Heap) (k : Nat) (c f : Str) : Prop :=
  Cls K (He.ga K c) ∧ NoAttr K (He.ga K c) f ∧ (∃ fi, PySem.W.findIn K (.ref (He.ga K c)) "__iter__" = some (some (.ref fi)) ∧ PySem.W.isFn K (.ref fi) = true ∧ ItFn P w K mg base k fi (He.ga K c) f) ∧
  ∃ fl, PySem.W.findIn K (.ref (He.ga K c)) "__len__" = some (some (.ref fl)) ∧ PySem.W.isFn K (.ref fl) = true ∧ LnFn P w K mg base k fl (He.ga K c) f
theorem li_type {s : Shared} {it l : Addr} {i : Nat} (e : s.heap.get? it = some (GNX.itObj l i)) : s.TypeIs (.ref it) "list_iterator" := ⟨_, e, rfl⟩
section
variable {X : Cx} {pins : List (Addr × Obj)} {σ : L2.St} {H : Hp} {s : Shared} {k : Nat} {a dx l fi C : Addr} {fs : List (Str × V)} {zs : List V} {f : Str}
/-- o's iterator comes -/
theorem own_pyIter {A : Around} {Q : Value → Shared → Prop} {E : Value → Shared → Prop} (I : Inv X pins σ H s) (e0 : Env0 X.prog X.w X.K X.mg X.base A X.stack s H) (hr : Room k A) (hit : PySem.W.findIn X.K (.ref C) "__iter__" = some (some (.ref fi))) (hf : PySem.W.isFn X.K (.ref fi) = true)
    (F : ItFn X.prog X.w X.K X.mg X.base k fi C f) (ha : H a = some (.ins C dx fs)) (hl : fs.lookup f = some (.ref l)) (hz : SqL X.K H l zs)
    (h : ∀ it s', Inv X pins σ (upd H it (ItO l it 0)) s' → s.heap.objs.size ≤ it → H it = none → Q (.ref it) s') : wpAny (model X.prog X.w) A (pyIter (.ref a)) Q E s := by
  obtain ⟨mA, J, _⟩ := ins_get I.hok ha
  obtain ⟨od, J, _⟩ := J.look
  obtain ⟨m0, hF⟩ := I.fr
  refine PySem.W.owit_iter hF I.ok.mod.kin J hit hf (wpAny_call (codeAny_mono (F A X.stack s H a dx l fs zs hr e0 ha hl hz) fun out s' hq => ?_))
  match out, hq with
  | .ok (.ret u), hq =>
    obtain ⟨v, H', I', rv, it, rfl, hsz, hn, rfl⟩ := I.after hq
    cases rv
    have eo := itO_get I' upd_same
    unfold PySem.W.OwitIt
    exact wpAny_specialOf (name := Str.ofString "__next__") (li_type eo) slot_listiter_next.lookup (h it s' I' hsz hn)
end
section
variable {X : Cx} {tg e : Expr} {te : TE} {k : Nat} {c f : Str}
theorem pi_own (he : PE X e te) (ok : IterOk X.prog X.w X.K X.mg X.base k c f) (hr : Room k X.A) : PI X tg e (fun σ H R => te σ H fun x H1 => ∃ a dx fs l zs, x = .ref a ∧ H1 a = some (.ins (He.ga X.K c) dx fs) ∧ fs.lookup f = some (.ref l) ∧ SqL X.K H1 l zs ∧ R (Itl X.K l) H1) := by
  obtain ⟨cl, na, ⟨fi, hit, hf, F⟩, _⟩ := ok
  refine ⟨fun pins s σ H R I h => thn (he.run pins s σ H _ I h) fun v s1 z => ?_⟩
  obtain ⟨x, H1, I1, rx, a, dx, fs, l, zs, rfl, ha, hl, hz, q⟩ := z
  cases rx
  refine own_pyIter I1 I1.env0 hr hit hf F ha hl hz fun it s2 I2 hsz hn => ?_
  have eo := itO_get I2 upd_same
  have hi : (upd H1 it (ItO l it 0)) it = some (.ext fun h => h.get? it = some (GNX.itObj l 0)) := upd_same
  have I3 := ItX.inv_drop I2 hi
  have fp := ItX.inv_fp I2 hi (Nat.le_trans I1.sz hsz)
  rw [ItX.dropH_upd hn] at I3 fp
  exact ⟨it, [it], _, Itl X.K l, H1, rfl, I3, turn_list l it, ⟨_, eo, rfl, rfl⟩, fun b hb => by
    have e : b = it := by simpa using hb
    rw [e]
    exact fp, q⟩
end
section
variable {X : Cx} {pins : List (Addr × Obj)} {σ : L2.St} {H : Hp} {s : Shared} {k : Nat} {a dx l fl C q it : Addr} {fs : List (Str × V)} {zs xs ys : List V} {f : Str} {A1 : Around}
/-- an iterator turns and a list is filled -/
theorem inv_fill {h' : Heap} {t' : Nat} {o0 o1 : Obj} (I : Inv X pins σ H s) (fp : FpOk X pins H it) (hq : H q = some (.lst xs)) (e0 : s.heap.get? q = some o0) (of : o0.isFreed = false) (e1 : h'.get? q = some o1) (k : ∀ b o, b ≠ it → b ≠ q → s.heap.get? b = some o → h'.get? b = some o)
    (new : ObjOk X.prog X.w (upd H q (.lst ys)) h' q (.lst ys)) : Inv X pins σ (upd H q (.lst ys)) { s with heap := h', toks := t' } := by
  obtain ⟨f0, f1, f2, f3, f4, f5⟩ := fp
  have em : (h'.update q fun _ => o0).get? q = some o0 := Heap.get?_update_self _ e1 of
  have eo : ∀ b, b ≠ q → (h'.update q fun _ => o0).get? b = h'.get? b := fun b nb => Heap.get?_update_other _ _ (Ne.symm nb)
  have I1 : Inv X pins σ H { s with heap := h'.update q fun _ => o0, toks := t' } := I.turned (it := it) (fun b o nb z => by
    by_cases c : b = q
    · subst c
      rw [e0] at z
      cases z
      exact em
    · rw [eo b c]
      exact k b o nb c z) f0 f1 f3 f4 f5
  exact I1.write (x := q) (e := q) (t' := t') (by rw [hq]; exact trivial) (.inl rfl) (fun b u nb z => by
    rw [← eo b nb]
    exact z) ⟨_, e1⟩ new
/-- the length that o tells -/
theorem own_lenHint {A : Around} {E : Value → Shared → Prop} {Q : Bool → Shared → Prop} (I : Inv X pins σ H s) (hr : Room k A.in1) (e0 : ∀ s', Inv X pins σ H s' → Env0 X.prog X.w X.K X.mg X.base A.in1 X.stack s' H) (hlen : PySem.W.findIn X.K (.ref C) "__len__" = some (some (.ref fl))) (hf : PySem.W.isFn X.K (.ref fl) = true)
    (F : LnFn X.prog X.w X.K X.mg X.base k fl C f) (ha : H a = some (.ins C dx fs)) (hl : fs.lookup f = some (.ref l)) (hz : SqL X.K H l zs) (h : ∀ b s', Inv X pins σ H s' → Q b s') : wpAny (model X.prog X.w) A (Builtin.List.listLengthHint (.ref a)) Q E s := by
  obtain ⟨mA, J, _⟩ := ins_get I.hok ha
  obtain ⟨od, J, _⟩ := J.look
  obtain ⟨m0, hF⟩ := I.fr
  obtain ⟨its, rv, pl, hlz⟩ := I.list hz
  unfold Builtin.List.listLengthHint
  refine wpAny_bind (wpAny_bind (J.type.here ((PySem.W.looks_findIn I.kIn hlen).here ?_)))
  refine PySem.W.KFB.if_not rfl ?_
  refine wpAny_bind (wpAny_rule ?_)
  refine wpAny_bind (wpAny_attempt (PySem.W.len_K hF I.ok.mod.kin J hlen hf (wpAny_call (codeAny_mono (F A.in1 X.stack s H [.ref a] [.ref a] (fun v H' => v = .int zs.length ∧ H' = H) (fun _ _ _ => False) hr (e0 s I) (.cons rfl .nil) ⟨a, dx, fs, l, zs, rfl, ha, hl, hz, rfl, rfl⟩) fun out s' hq => ?_))))
  match out, hq with
  | .ok (.ret u), hq =>
    obtain ⟨v, H', I', rv2, rfl, rfl⟩ := I.after hq
    obtain ⟨t, rfl⟩ := rv2
    have hs := line63
    refine ⟨by omega, ?_⟩
    refine wpAny_bind (m := asInt? (.int _ _)) (wpAny_pure ?_)
    dsimp only
    have hsml : Builtin.List.listTooLong (Int.toNat (zs.length : Int)) = false := notLongL (by simpa using hlz)
    rw [if_neg (by rw [hsml]; decide)]
    exact wpAny_pure (h _ _ (I'.tok _))
theorem own_fills {Rs : Result → Shared → Prop} {c : Str} {n : Nat} (hh : A1.in1.handled = none) (sb : Sub X (n + 1) A1.in1) (ok : IterOk X.prog X.w X.K X.mg X.base n c f)
    (hdone : ∀ s, Inv X pins σ (upd H q (.lst zs)) s → Rs (.ok (.ret .none)) s) (I : Inv X pins σ H s) (ha : H a = some (.ins (He.ga X.K c) dx fs)) (hl : fs.lookup f = some (.ref l)) (hz : SqL X.K H l zs) (hq : H q = some (.lst [])) (hlq : l ≠ q) :
    wpAny (model X.prog X.w) A1.in1 (Builtin.List.listExtendWith (.ref q) (.ref a) .none)
      (fun fin s' => match fin with | .done f => Rs (.ok f) s' | .again c' => c'.quiet = true ∧ codeAny (model X.prog X.w) A1 c' Rs s') (fun e s' => Rs (.error e) s') s := by
  obtain ⟨cl, na, ⟨fi, hit, hfi, F⟩, fl, hln, hfl, G⟩ := ok
  have hne : q ≠ a := ne_of hq ha (fun z => nomatch z)
  obtain ⟨mA, J, _⟩ := ins_get I.hok ha
  obtain ⟨od, J, _⟩ := J.look
  unfold Builtin.List.listExtendWith
  refine wpAny_bind (J.type.here ?_)
  have h1 : Builtin.List.listSameRef (.ref q) (.ref a) = false := by simp [Builtin.List.listSameRef, hne]
  have h2 : (Value.ref (He.ga X.K c) == Value.type "list") = false := rfl
  have h3 : (Value.ref (He.ga X.K c) == Value.type "tuple") = false := rfl
  simp only [h1, h2, h3, Bool.or_false, Bool.false_eq_true, if_false]
  have envAt : ∀ {A : Around} {s' : Shared} {H' : Hp}, A.frames = X.A.frames → Inv X pins σ H' s' → Env0 X.prog X.w X.K X.mg X.base A X.stack s' H' := fun {A s' H'} fr I' => by
    have e := I'.env0
    exact ⟨by rw [fr]; exact e.frames, e.mod, e.bs, e.bsz, e.funs, e.frf, e.hok, e.bare⟩
  refine wpAny_bind (own_pyIter I (envAt sb.fr I) (sb.room.mono (Nat.le_succ _)) hit hfi F ha hl hz fun it s2 I2 hsz hn => ?_)
  have na2 : a ≠ it := ne_of_none ha hn
  have nq2 : q ≠ it := ne_of_none hq hn
  have hl2 : SqL X.K (upd H it (ItO l it 0)) l zs := by
    by_cases cc : l = it
    · exfalso
      subst cc
      rcases hz with (z | ⟨o, z⟩) | ⟨o, its, m, hk, _⟩
      · rw [hn] at z; cases z
      · rw [hn] at z; cases z
      · have z := I.kIn l o hk
        exact absurd (Heap.lt_size z) (Nat.not_lt.mpr hsz)
    · unfold SqL Rd at hz ⊢
      simp only [upd_ne cc]
      exact hz
  refine wpAny_bind (wpAny_holding (own_lenHint I2 sb.in1.room (fun s' I' => envAt (by exact sb.fr) I') hln hfl G (by rw [upd_ne na2]; exact ha) hl hl2 fun b s3 I3 => ?_))
  -- the iterator is forgotten, the list filled
  have hi : (upd H it (ItO l it 0)) it = some (.ext fun h => h.get? it = some (GNX.itObj l 0)) := upd_same
  have eo := itO_get I3 upd_same
  have I4 := ItX.inv_drop I3 hi
  have fp := ItX.inv_fp I3 hi (Nat.le_trans I.sz hsz)
  rw [ItX.dropH_upd hn] at I4 fp
  obtain ⟨its, rv, pl, hlz⟩ := I4.list hz
  obtain ⟨_, its0, m0, r0, l0, e0⟩ := I4.lstM hq
  cases r0
  have loop : ∀ {s5 : Shared} {m5 : Nat}, s5.heap.get? q = some { cls := .type "list", data := .seq #[] m5 } → (∀ b o, b ≠ q → s3.heap.get? b = some o → s5.heap.get? b = some o) → s5.gens = s3.gens → s5.os = s3.os → s5.drawn = s3.drawn →
      codeAny (model X.prog X.w) A1 (.builtin "list.extend.loop" ⟨[.ref q, .ref it, .none], []⟩) Rs s5 := fun {s5 m5} eq5 k5 g5 o5 d5 => by
    have nit : it ≠ q := fun e => nq2 e.symm
    have nlit : l ≠ it := fun e => by
      rcases hz with (z | ⟨o, z⟩) | ⟨o, its, m, hk, _⟩
      · rw [e, hn] at z; cases z
      · rw [e, hn] at z; cases z
      · have z := I.kIn l o hk
        rw [e] at z
        exact absurd (Heap.lt_size z) (Nat.not_lt.mpr hsz)
    have hi5 : s5.heap.IsListIter it l 0 := ⟨_, k5 _ _ nit eo, rfl, rfl⟩
    have hl5 : s5.heap.IsList l its.toArray := by
      obtain ⟨o, z1, z2, z3⟩ := pl.isList
      exact ⟨o, k5 _ _ hlq z1, z2, z3⟩
    refine codeAny_extend_loopS (W := (Walks.list (A := A1.in1) hh it l nlit its.toArray).toS) (by rw [List.size_toArray, ← rv.length]; exact hlz) q (fun m => by
      rcases List.mem_cons.mp m with m | m
      · exact nit m.symm
      · exact hlq (List.mem_singleton.mp m).symm) .none its.toArray.size 0 s5 #[] m5 rfl (Nat.zero_le _) ⟨hi5, hl5⟩ eq5 (ItemsOf.nil _) fun s' acc' c' hm hS' hacc => ?_
    have eacc : acc' = its.toArray := by
      refine Array.ext hacc.1 fun i h1 h2 => ?_
      have : its.toArray[i]? = some acc'[i] := hacc.2 i acc'[i] (Array.getElem?_eq_getElem h1)
      rw [Array.getElem?_eq_getElem h2] at this
      exact (Option.some.inj this).symm
    subst eacc
    have es : s' = { s3 with heap := s'.heap, toks := s'.toks } := by
      have g1 := hm.gens
      have g2 := hm.os
      have g3 := hm.drawn
      rw [g5] at g1
      rw [o5] at g2
      rw [d5] at g3
      cases s'
      cases s3
      simp only at g1 g2 g3
      subst g1 g2 g3
      rfl
    rw [es]
    refine hdone _ (inv_fill I4 fp hq e0 rfl hS' (fun b o n1 n2 z => hm.heap b o (fun m => ?_) (k5 b o n2 z)) ⟨hlz, its, c', rv, hS'⟩)
    rcases List.mem_cons.mp m with m | m
    · exact n2 m
    · exact n1 (List.mem_singleton.mp m)
  refine wpAny_ite_split (fun _ => ?_) (fun _ => wpAny_pure ⟨plainId_quiet PySem.F.plain_extend_loop _, loop e0 (fun b o _ z => z) rfl rfl rfl⟩)
  refine wpAny_bind (wpAny_rule ?_)
  refine wpAny_bind ?_
  show wpAny _ _ (updateSeq q (·.push .none) >>= fun _ => updateSeq q (·.pop)) _ _ _
  refine wpAny_bind (wpAny_updateSeq e0 rfl ?_)
  have e1 := Heap.get?_update_self (Obj.mapSeq (·.push Value.none)) e0 rfl
  refine wpAny_updateSeq e1 rfl ?_ (by show 1 ≤ sizeLine; rw [sizeLine_eq]; decide) (by show 0 ≤ sizeLine + 1; exact Nat.zero_le _)
  have e2 := Heap.get?_update_self (Obj.mapSeq (·.pop)) e1 rfl
  exact wpAny_pure ⟨plainId_quiet PySem.F.plain_extend_loop _, loop e2 (fun b o nb z => (Heap.get?_update_other _ _ (Ne.symm nb)).trans ((Heap.get?_update_other _ _ (Ne.symm nb)).trans z)) rfl rfl rfl⟩
end
/-- list(o) -/
def rListO (K : PySem.W.Frag) (c f : Str) : List V → Hp → VK → Prop := fun xs H Q => ∃ a dx fs l zs, xs = [.ref a] ∧ H a = some (.ins (He.ga K c) dx fs) ∧ fs.lookup f = some (.ref l) ∧ SqL K H l zs ∧ (∃ o, H l = some o) ∧ ∀ q, H q = none → Q (.ref q) (upd H q (.lst zs))
theorem call_listO {X : Cx} {c f : Str} {n : Nat} (hcalm : X.calm = true) (ok : IterOk X.prog X.w X.K X.mg X.base n c f) (hr : Room (n + 3) X.A) : CallR X (.type "list") (rListO X.K c f) := by
  intro pins s σ H xs us Q I rv h
  obtain ⟨a, dx, fs, l, zs, rfl, ha, hl, hz, ⟨ol, hol⟩, hQ⟩ := h
  obtain ⟨u, rfl, ru⟩ := rv.one
  cases ru
  have sb : Sub X (n + 1) X.A.in1.in1 := (Sub.in1 (Sub.in1 (⟨hr, rfl⟩ : Sub X (n + 3) X.A)))
  refine callType_codes (Q₁ := fun obj s₁ => obj = .ref s.heap.objs.size ∧ s₁ = { s with heap := s.heap.push { cls := .type "list", data := .seq #[] } }) PySem.F.called_list (PySem.F.typeCall_list_1 _) PySem.F.entry_list_init
    (code_list_new _ ⟨rfl, rfl⟩) fun obj s₁ h₁ => ?_
  obtain ⟨rfl, rfl⟩ := h₁
  have hS : (s.heap.push { cls := .type "list", data := .seq #[] }).get? s.heap.objs.size = some { cls := .type "list", data := .seq #[] } := Heap.get?_push_size _ rfl
  refine ⟨⟨_, hS, rfl⟩, PySem.F.args_list_init_2 _ _, ?_⟩
  have fr : H s.heap.objs.size = none := I.hok.fresh (Nat.le_refl _)
  have I1 : Inv X pins σ (upd H s.heap.objs.size (.lst [])) { s with heap := s.heap.push { cls := .type "list", data := .seq #[] } } := I.lnew (its := []) (t' := s.toks) .nil (Nat.zero_le _)
  show wpAny _ _ (do let old ← Builtin.List.listItems (.ref s.heap.objs.size); Builtin.List.listUpdate (.ref s.heap.objs.size) (fun _ => #[]); letGo old.toList.reverse; Builtin.List.listExtendWith (.ref s.heap.objs.size) (.ref a) .none) _ _ _
  refine wpAny_bind ?_
  unfold Builtin.List.listItems
  refine wpAny_bind (wpAny_seqItems hS rfl (wpAny_pure ?_))
  show wpAny _ _ (updateSeq s.heap.objs.size (fun _ => #[]) >>= fun _ => letGo (#[] : Array Value).toList.reverse >>= fun _ => Builtin.List.listExtendWith (.ref s.heap.objs.size) (.ref a) .none) _ _ _
  refine wpAny_bind (wpAny_updateSeq hS rfl ?_)
  have I2 := I1.lset (f := fun _ => #[]) (its := []) (its' := []) (ys := []) (t' := s.toks) upd_same hS rfl .nil (Nat.zero_le _)
  rw [upd_upd] at I2
  refine wpAny_bind (wpAny_letGo ?_)
  have ha2 : upd H s.heap.objs.size (.lst []) a = some (.ins (He.ga X.K c) dx fs) := by rw [upd_ne (ne_of_none ha fr)]; exact ha
  have nl : l ≠ s.heap.objs.size := ne_of_none hol fr
  have hz2 : SqL X.K (upd H s.heap.objs.size (.lst [])) l zs := by
    unfold SqL Rd at hz ⊢
    simp only [upd_ne nl]
    exact hz
  have fin := hQ _ fr
  exact own_fills (A1 := X.A.in1) (Rs := wants (fun r s₂ => r = .none ∧ EP X pins σ Q (.ref s.heap.objs.size) s₂) X.xe) (by exact I.ok.hd hcalm) sb ok
    (fun s' I' => ⟨rfl, .ref s.heap.objs.size, _, by rw [upd_upd] at I'; exact I', rfl, fin⟩) I2 ha2 hl hz2 upd_same nl
/-- the list that an object of one of the classes hands on -/
def ownD (its : List (Str × Str)) (l : Ls) (h : Hs) (w : W) : Option (List D) := match clsOf l h w with
  | some (c, _) => (match its.lookup c with
    | some f => (match fldW l h f w with
      | some (.v (.lst ds)) => some ds
      | _ => none)
    | none => none)
  | none => none
def fOwnI (its : List (Str × Str)) (fo : FE) : FI := fun l h => (fo l h).bind fun w l h => match ownD its l h w with
  | some ds => .ok ds l h
  | none => .no
def fListO (its : List (Str × Str)) (fa : FA) : FL := fun l h => (fa l h).bind fun ws l h => match ws with
  | [w] => (match ownD its l h w with
    | some ds => .ok (.lst ds) l h
    | none => .no)
  | _ => .no
theorem ownD_ok {K : PySem.W.Frag} {ι : List Addr} {F : Addr → Prop} {l : Ls} {h : Hs} {σ : L2.St} {H : Hp} {its : List (Str × Str)} {w : W} {x : V} {ds : List D} (S : Sim K ι F l h σ H) (r : relW K σ ι F H w x) (e : ownD its l h w = some ds) :
    ∃ c f a dx fs b vs, (c, f) ∈ its ∧ x = .ref a ∧ H a = some (.ins (He.ga K c) dx fs) ∧ fs.lookup f = some (.ref b) ∧ F b ∧ H b = some (.lst vs) ∧ RpL K F H ds vs := by
  unfold ownD at e
  cases e1 : clsOf l h w with
  | none => simp only [e1] at e; cases e
  | some cn =>
    obtain ⟨c, ns⟩ := cn
    simp only [e1] at e
    cases e2 : its.lookup c with
    | none => simp only [e2] at e; cases e
    | some f =>
      simp only [e2] at e
      split at e
      · rename_i xs e3
        cases e
        obtain ⟨a, dx, fs, v, rfl, ha, hl, rv⟩ := fldW_ok S r e1 e3
        cases (show Rp K F H (.lst ds) v from rv) with
        | lst fb eb rr => exact ⟨c, f, a, dx, fs, _, _, mem_lookup2 e2, rfl, ha, hl, fb, eb, rr⟩
      · cases e
theorem PI.any {X : Cx} {tg e : Expr} {ι : Type} {t : ι → TI} (p : ∀ i, PI X tg e (t i)) : PI X tg e (fun σ H R => ∃ i, t i σ H R) := ⟨fun pins s σ H R I ⟨i, q⟩ => (p i).run pins s σ H R I q⟩
section
variable {X : Cx} {Wx : WX} {k : Nat} {tg o e : Expr} {es : List Expr} {fo : FE} {fa : FA} {its : List (Str × Str)} {p pos : Pos}
theorem vi_own (ho : VE X Wx o fo) (hits : ∀ q ∈ its, IterOk X.prog X.w X.K X.mg X.base k q.1 q.2) (hne : ∃ q, q ∈ its) (hr : Room k X.A) : VI X Wx tg o (fOwnI its fo) := by
  have each : ∀ q : { q : Str × Str // q ∈ its }, PI X tg o (fun σ H R => tE X.K Wx fo σ H fun x H1 => ∃ a dx fs l zs, x = .ref a ∧ H1 a = some (.ins (He.ga X.K q.1.1) dx fs) ∧ fs.lookup q.1.2 = some (.ref l) ∧ SqL X.K H1 l zs ∧ R (Itl X.K l) H1) := fun ⟨q, hq⟩ => pi_own ho (hits q hq) hr
  refine PI.imp (PI.any each) fun σ H R0 ⟨ι, F, l, h, S, q⟩ => ?_
  unfold fOwnI at q
  cases e1 : fo l h with
  | no => rw [e1] at q; exact q.elim
  | ex x l1 h1 =>
    rw [e1] at q
    obtain ⟨q0, hq0⟩ := hne
    exact ⟨⟨q0, hq0⟩, ι, F, l, h, S, by rw [e1]; exact q⟩
  | ok w l1 h1 =>
    rw [e1] at q
    simp only [R.bind] at q
    cases e2 : ownD its l1 h1 w with
    | none => simp only [e2] at q; exact q.elim
    | some ds =>
      simp only [e2] at q
      have sel : ∃ c f, (c, f) ∈ its ∧ (∃ ns, clsOf l1 h1 w = some (c, ns)) ∧ fldW l1 h1 f w = some (.v (.lst ds)) := by
        unfold ownD at e2
        split at e2
        · rename_i c ns z1
          split at e2
          · rename_i f z2
            split at e2
            · rename_i xs z3
              cases e2
              exact ⟨c, f, mem_lookup2 z2, ⟨ns, z1⟩, z3⟩
            · cases e2
          · cases e2
        · cases e2
      obtain ⟨c, f, hm, ⟨ns, z1⟩, z3⟩ := sel
      refine ⟨⟨(c, f), hm⟩, ι, F, l, h, S, ?_⟩
      rw [e1]
      intro v ι1 F1 H1 A S1 r1
      obtain ⟨a, dx, fs, u, rfl, ha, hl, rv⟩ := fldW_ok S1 r1 z1 z3
      cases (show Rp X.K F1 H1 (.lst ds) u from rv) with
      | lst fb eb rr => exact ⟨a, dx, fs, _, _, rfl, ha, hl, SqL.of eb, q _ ι1 F1 H1 A S1 (yields_seqL fb eb rr)⟩
theorem CallR.any {X : Cx} {f : Value} {ι : Type} {r : ι → List V → Hp → VK → Prop} (h : ∀ i, CallR X f (r i)) : CallR X f (fun xs H Q => ∃ i, r i xs H Q) := fun pins s σ H xs us Q I rs ⟨i, q⟩ => h i pins s σ H xs us Q I rs q
theorem vl_listO (hcalm : X.calm = true) (hits : ∀ q ∈ its, IterOk X.prog X.w X.K X.mg X.base k q.1 q.2) (hr : Room (k + 3) X.A) (hg : Gl X "list") (hm : X.mg "list" = none) (ha : VA X Wx (e :: es) fa)
    (he : starEach (e :: es) X.env = (false, eval e X.env) :: starEach es X.env := by rfl) (hpl : (backTo pos (starEach es X.env)).any (·.1) = false := by rfl) : VL X Wx (.Call (.Name "list" p) (e :: es) [] pos) (fListO its fa) :=
  PE.imp (pe_callTy (CallR.any fun q : { q : Str × Str // q ∈ its } => call_listO hcalm (hits q.1 q.2) hr) hg hm boot_list ha (by decide) (by decide) he hpl) fun σ H Q ⟨ι, F, l, h, S, q⟩ =>
    ⟨ι, F, l, h, S, Sat.cutL q fun ws l1 h1 vs ι1 F1 H1 a1 S1 r1 q1 => by
      split at q1
      · rename_i w
        cases r1 with
        | cons rw_ rr =>
          cases rr
          cases e2 : ownD its l1 h1 w with
          | none => simp only [e2] at q1; exact q1.elim
          | some ds =>
            simp only [e2] at q1
            obtain ⟨c, f, a, dx, fs, b, us, hm, rfl, ha, hl, fb, eb, rr⟩ := ownD_ok S1 rw_ e2
            exact ⟨⟨(c, f), hm⟩, a, dx, fs, b, us, rfl, ha, hl, SqL.of eb, ⟨_, eb⟩, fun q hq => SatL.new q1 S1 hq rr⟩
      · exact q1.elim⟩
end
end VL
set_option maxRecDepth 100000
set_option maxHeartbeats 2000000
namespace VL
open PySem PySem.Spec PyProof.Rows L2

/-! ### facts of the written part, by names -/
inductive Pl where
  | glo (x : Str) | meth (c m : Str) | prop (c m : Str)
def Pl.adr (K : PySem.W.Frag) : Pl → Addr
  | .glo x => He.ga K x
  | .meth c m => He.ma K (He.ga K c) m
  | .prop c m => match PySem.W.recIn K (He.ma K (He.ga K c) m) "property" with
    | some (.ref g :: _) => g
    | _ => 0
def fnP (K : PySem.W.Frag) (a : Addr) : He.FnW := match K.lookup a with
  | some ⟨_, _, .func fd, _⟩ => some (fd.name, fd.qualname, fd.params, fd.body, fd.scope, fd.globals, fd.closure, fd.builtins)
  | _ => none
structure Kd where
  at_ : Pl
  name : Str
  qual : Str
  params : Arguments
  body : List Stmt
  scope : Scope
  dfl : List He.Dv := []
  /-- an own error's __init__: the error's name, the program's file -/
  err : Option (Str × Str) := none
def Kd.val (d : Kd) : He.FnW := some (d.name, d.qual, d.params, .stmts d.body, d.scope, mainGlobals, [], builtinsNs)
/-- .. the closure left out -/
def fnPX (K : PySem.W.Frag) (a : Addr) : He.FnW := match K.lookup a with
  | some ⟨_, _, .func fd, _⟩ => some (fd.name, fd.qualname, fd.params, fd.body, fd.scope, fd.globals, [], fd.builtins)
  | _ => none
def Kd.see (K : PySem.W.Frag) (d : Kd) : He.FnW := match d.err with
  | none => fnP K (d.at_.adr K)
  | some _ => fnPX K (d.at_.adr K)
/-- an own error over ValueError -/
def xclB (K : PySem.W.Frag) (C : Addr) : Bool := match K.lookup C with
  | some ⟨.type T, _, .cls cd, sl⟩ => decide (T = "type") && (match cd.mro, sl.toList with
    | .ref C' :: bm, [_, _, _, _, some (.builtin n), _] => decide (C' = C) && (decide (n = "ValueError.__new__") && (!cd.hasDel && (cd.hasDict && HandSPX.refsVE bm)))
    | _, _ => false)
  | _ => false
def xfnB (K : PySem.W.Frag) (C fI : Addr) (q file : Str) : Bool := match K.lookup fI with
  | some ⟨_, _, .func fd, _⟩ => (match fd.closure, fd.code, fd.defaults with
    | [(cn, cc)], .ref cda, .none => decide (cn = "__class__") && (PySem.W.codeIn K (.ref cda) q && ((match K.lookup cc with
      | some ⟨_, _, .cell (some (.ref C')), _⟩ => decide (C' = C)
      | _ => false) && (match K.lookup cda with
        | some ⟨_, _, .fields vs, _⟩ => (match vs[2]? with
          | some (Value.str f _) => decide (f = file)
          | _ => false)
        | _ => false)))
    | _, _, _ => false)
  | _ => false
def errB (K : PySem.W.Frag) (C fI : Addr) (q file : Str) : Bool :=
  xclB K C && (xfnB K C fI q file && (He.eqO (PySem.W.findIn K (.ref C) "__setattr__") (some (some (.builtin "object.__setattr__"))) && (He.eqO (PySem.W.findIn K (.ref C) "__getattribute__") (some (some (.builtin "BaseException.__getattribute__"))) &&
    (He.eqO (PySem.W.findIn K (.ref C) "__getattr__") (some none) && (PySem.W.hasDictIn K C && (He.eqO (PySem.W.findIn K (.ref C) "__init__") (some (some (.ref fI))) && (decide (PySem.W.typeIn K (.ref fI) = some (.type "function")) &&
      (decide (PySem.W.ks_superIn K C C "__init__" = some (some (.builtin "ValueError.__init__"))) && (decide (PySem.W.subIn K (.ref C) (.type "ValueError") = some true) && (decide (PySem.W.mroIn K C (.ref C) = some true) && (He.eqO (PySem.W.nsIn K cStatics "thirdparty.any") (some none) &&
        (decide (PySem.W.subIn K (.ref C) (.type "BaseException") = some true) && (decide (PySem.W.typeIn K (.ref C) = some (.type "type")) && PySem.W.keepIn K (.ref C))))))))))))))
def Kd.okF (K : PySem.W.Frag) (d : Kd) : Bool := PySem.W.keepIn K (.ref (d.at_.adr K)) && (match K.lookup (d.at_.adr K) with
  | some ⟨_, _, .func fd, _⟩ => PySem.W.codeIn K fd.code d.qual && (He.dflB K fd.defaults (d.dfl.map (He.Dv.v K)) && He.kwdB K fd.kwdefaults [])
  | _ => false)
def Kd.ok (K : PySem.W.Frag) (d : Kd) : Bool := match d.err with
  | none => d.okF K
  | some (x, file) => errB K (He.ga K x) (d.at_.adr K) d.qual file
abbrev KdF (K : PySem.W.Frag) (d : Kd) : Prop := ∃ fd, FunD K d.name d.qual d.params d.body d.scope (d.dfl.map (He.Dv.v K)) [] (d.at_.adr K) fd
theorem Kd.funD {K : PySem.W.Frag} {d : Kd} (he : d.err = none) (e : d.see K = d.val) (c : d.ok K = true) : KdF K d := by
  unfold Kd.see at e
  unfold Kd.ok at c
  rw [he] at c e
  have c := show d.okF K = true from c
  have e := show fnP K (d.at_.adr K) = d.val from e
  obtain ⟨kp, c2⟩ := He.ba c
  unfold fnP at e
  cases q : K.lookup (d.at_.adr K) with
  | none => rw [q] at c2; cases c2
  | some o =>
    obtain ⟨oc, od, dt, osl⟩ := o
    rw [q] at c2 e
    cases dt with
    | func fd =>
      obtain ⟨n1, n2, n3, n4, n5, n6, n7, n8, n9, n10, n11, n12, n13, n14, n15⟩ := fd
      have e2 : (some (n1, n2, n3, n4, n5, n6, n7, n15) : He.FnW) = some (d.name, d.qual, d.params, .stmts d.body, d.scope, mainGlobals, [], builtinsNs) := e
      simp only [Option.some.injEq, Prod.mk.injEq] at e2
      obtain ⟨h1, h2, h3, h4, h5, h6, h7, h8⟩ := e2
      subst h1 h2 h3 h4 h5 h6 h7 h8
      obtain ⟨k1, k2⟩ := He.ba (show (PySem.W.codeIn K n13 d.qual && (He.dflB K n8 (d.dfl.map (He.Dv.v K)) && He.kwdB K n9 [])) = true from c2)
      obtain ⟨k3, k4⟩ := He.ba k2
      exact ⟨_, ⟨oc, od, n8, n9, n10, n11, n12, n13, n14, osl, rfl, q, k1, He.dflB_ok k3, He.kwdB_ok k4⟩, kp⟩
    | _ => cases c2
/-- a value of the written part -/
def dvB (K : PySem.W.Frag) : Nat → D → Value → Bool
  | _, .non, .none => true
  | _, .bl b, .bool c => b == c
  | _, .int i, .int j _ => decide (i = j)
  | _, .str x, .str y _ => decide (x = y)
  | n + 1, .tup ds, .ref a => (match K.lookup a with
    | some ⟨.type T, _, .seq its _, _⟩ => decide (T = "tuple") && (decide (its.size ≤ sizeLine) && (decide (ds.length = its.toList.length) && (ds.zip its.toList).all fun p => dvB K n p.1 p.2))
    | _ => false)
  | n + 1, .rol ds, .ref a => (match K.lookup a with
    | some ⟨.type T, none, .seq its _, _⟩ => decide (T = "list") && (decide (its.size ≤ sizeLine) && (decide (ds.length = its.toList.length) && (ds.zip its.toList).all fun p => dvB K n p.1 p.2))
    | _ => false)
  | _, _, _ => false
theorem dvL_ok {K : PySem.W.Frag} {P : D → Value → Prop} (h : ∀ d u, P d u → ∃ v, RelV v u ∧ ∀ F H, Rp K F H d v) : ∀ {ds : List D} {us : List Value}, ds.length = us.length → (∀ p ∈ ds.zip us, P p.1 p.2) → ∃ vs, Vals vs us ∧ ∀ F H, RpL K F H ds vs
  | [], [], _, _ => ⟨[], .nil, fun _ _ => .nil⟩
  | d :: ds, u :: us, e, q => by
    obtain ⟨v, rv, rp⟩ := h d u (q (d, u) (by simp))
    obtain ⟨vs, rvs, rps⟩ := dvL_ok h (ds := ds) (us := us) (by simpa using e) fun p m => q p (by simp [m])
    exact ⟨v :: vs, .cons rv rvs, fun F H => .cons (rp F H) (rps F H)⟩
theorem dvB_ok {K : PySem.W.Frag} : ∀ {n : Nat} {d : D} {u : Value}, dvB K n d u = true → ∃ v, RelV v u ∧ ∀ F H, Rp K F H d v
  | n, .non, u, h => by cases n <;> cases u <;> first | exact ⟨.non, rfl, fun _ _ => .non⟩ | cases h
  | n, .bl b, u, h => by
    cases n <;> cases u <;> first | (rename_i c; have e : b = c := by simpa [dvB] using h
                                     subst e; exact ⟨.bl b, rfl, fun _ _ => .bl b⟩) | cases h
  | n, .int i, u, h => by
    cases n <;> cases u <;> first | (rename_i c t; have e : i = c := by simpa [dvB] using h
                                     subst e; exact ⟨.int i, ⟨_, rfl⟩, fun _ _ => .int i⟩) | cases h
  | n, .str i, u, h => by
    cases n <;> cases u <;> first | (rename_i c t; have e : i = c := by simpa [dvB] using h
                                     subst e; exact ⟨.str i, ⟨_, rfl⟩, fun _ _ => .str i⟩) | cases h
  | 0, .tup ds, u, h => by cases u <;> cases h
  | 0, .rol ds, u, h => by cases u <;> cases h
  | n + 1, .tup ds, u, h => by
    cases u with
    | ref a =>
      unfold dvB at h
      split at h
      · rename_i T od its m sl q
        obtain ⟨h1, g1⟩ := He.ba h
        obtain ⟨h2, g2⟩ := He.ba g1
        obtain ⟨h3, g3⟩ := He.ba g2
        have e1 : T = "tuple" := of_decide_eq_true h1
        subst e1
        obtain ⟨vs, rv, rp⟩ := dvL_ok (K := K) (P := fun d u => dvB K n d u = true) (fun d u q => dvB_ok q) (of_decide_eq_true h3) (List.all_eq_true.mp g3)
        exact ⟨.ref a, rfl, fun F H => .tupK ⟨_, its, m, q, rfl, rfl, of_decide_eq_true h2, rv⟩ (rp F H)⟩
      · cases h
    | _ => cases h
  | n + 1, .rol ds, u, h => by
    cases u with
    | ref a =>
      unfold dvB at h
      split at h
      · rename_i T its m sl q
        obtain ⟨h1, g1⟩ := He.ba h
        obtain ⟨h2, g2⟩ := He.ba g1
        obtain ⟨h3, g3⟩ := He.ba g2
        have e1 : T = "list" := of_decide_eq_true h1
        subst e1
        obtain ⟨vs, rv, rp⟩ := dvL_ok (K := K) (P := fun d u => dvB K n d u = true) (fun d u q => dvB_ok q) (of_decide_eq_true h3) (List.all_eq_true.mp g3)
        exact ⟨.ref a, rfl, fun F H => .rolK ⟨_, its, m, q, rfl, rfl, rfl, of_decide_eq_true h2, rv⟩ (rp F H)⟩
      · cases h
    | _ => cases h
  | n, .lst _, u, h => by cases n <;> cases u <;> cases h
  | n, .dK _ _, u, h => by cases n <;> cases u <;> cases h
  | n, .dT _ _, u, h => by cases n <;> cases u <;> cases h
  | n, .ins _ _ _, u, h => by cases n <;> cases u <;> cases h
inductive Kf where
  | fa (x : He.Fa) | gval (x : Str) (d : D) | prop (c m : Str) | cread (c : Str) | cval (c f : Str) (d : D) | insc (c : Str) | kitc (c : Str) (T : String) (b : Bool) | kitn (c : Str) | kitcc (c c' : Str) (b : Bool)
def Kf.ok (K : PySem.W.Frag) : Kf → Bool
  | .fa x => x.ok K
  | .gval x d => (match PySem.W.nsIn K mainGlobals x with
    | some (some u) => dvB K 4 d u
    | _ => false)
  | .prop c m => He.eqO (PySem.W.findIn K (.ref (He.ga K c)) m) (some (some (.ref (He.ma K (He.ga K c) m)))) && (He.eqO (PySem.W.specialIn K (.ref (He.ma K (He.ga K c) m)) "__get__") (some (some (.builtin "property.__get__"))) &&
      (decide (PySem.W.takesIn K (.ref (He.ma K (He.ga K c) m)) = some true) && (match PySem.W.recIn K (He.ma K (He.ga K c) m) "property" with
        | some (.ref _ :: _) => true
        | _ => false)))
  | .cread c => PySem.W.readsIn K (He.ga K c) (.type "type") && He.eqO (PySem.W.specialIn K (.ref (He.ga K c)) "__getattribute__") (some (some (.builtin "type.__getattribute__")))
  | .cval c f d => (match PySem.W.findCls K (.ref (He.ga K c)) (.type "type") f with
    | some (.val u) => dvB K 4 d u
    | _ => false)
  | .insc c => PySem.W.plainGet K (He.ga K c) Str.empty && (PySem.W.hasDictIn K (He.ga K c) && (PySem.W.plainOver K (He.ga K c) && (He.eqO (PySem.W.findIn K (.ref (He.ga K c)) "__setattr__") (some (some (.builtin "object.__setattr__"))) &&
      (He.eqO (PySem.W.findIn K (.ref (He.ga K c)) "__class__") (some (some (.builtin "object.__class__"))) && (He.eqO (PySem.W.specialIn K (.builtin "object.__class__") "__get__") (some (some (.builtin "getset_descriptor.__get__"))) &&
        (decide (PySem.W.takesIn K (.builtin "object.__class__") = some true) && (decide (PySem.W.mroIn K (He.ga K c) (.type "object") = some true) && decide (PySem.W.kitOne K (.ref (He.ga K c)) (.ref (He.ga K c)) = some true))))))))
  | .kitc c T b => decide (PySem.W.kitOne K (.ref (He.ga K c)) (.type T) = some b)
  | .kitn c => tyNames.all fun a => decide (PySem.W.kitOne K (.type a) (.ref (He.ga K c)) = some false)
  | .kitcc c c' b => decide (PySem.W.kitOne K (.ref (He.ga K c)) (.ref (He.ga K c')) = some b)
section
variable {K : PySem.W.Frag} {h : Heap} {mg : Str → Option Value}
theorem gval_ok (X : K.In h) (G : h.Ns mainGlobals mg) {x : Str} {d : D} (c : (Kf.gval x d).ok K = true) : ∃ u v, mg x = some u ∧ RelV v u ∧ ∀ F H, Rp K F H d v := by
  have c2 : (match PySem.W.nsIn K mainGlobals x with
    | some (some u) => dvB K 4 d u
    | _ => false) = true := c
  split at c2
  · rename_i u e
    obtain ⟨v, rv, rp⟩ := dvB_ok c2
    exact ⟨u, v, PySem.W.mg_of X G e, rv, rp⟩
  · cases c2
theorem prop_ok {c m : Str} (h : (Kf.prop c m).ok K = true) : PropOf K (He.ga K c) m (He.ma K (He.ga K c) m) ((Pl.prop c m).adr K) := by
  obtain ⟨h1, h⟩ := He.ba h
  obtain ⟨h2, h⟩ := He.ba h
  obtain ⟨h3, h4⟩ := He.ba h
  refine ⟨He.eqO_ok h1, He.eqO_ok h2, of_decide_eq_true h3, ?_⟩
  unfold Pl.adr
  split at h4
  · rename_i g r e
    refine ⟨r, ?_⟩
    show _ = some (Value.ref (match PySem.W.recIn K (He.ma K (He.ga K c) m) "property" with
      | some (.ref g :: _) => g
      | _ => 0) :: r)
    simp only [e]
  · cases h4
theorem cread_ok {c : Str} (h : (Kf.cread c).ok K = true) : ClX.CRead K (He.ga K c) (.type "type") := by
  obtain ⟨h1, h2⟩ := He.ba h
  exact ⟨h1, He.eqO_ok h2⟩
theorem cval_ok {c f : Str} {d : D} (h : (Kf.cval c f d).ok K = true) : ∃ u v, ClX.CVal K (He.ga K c) (.type "type") f v u ∧ ∀ F H, Rp K F H d v := by
  have h2 : (match PySem.W.findCls K (.ref (He.ga K c)) (.type "type") f with
    | some (.val u) => dvB K 4 d u
    | _ => false) = true := h
  split at h2
  · rename_i u e
    obtain ⟨v, rv, rp⟩ := dvB_ok h2
    exact ⟨u, v, ⟨e, rv⟩, rp⟩
  · cases h2
theorem insc_ok {c : Str} (h : (Kf.insc c).ok K = true) : C8.InsC K (He.ga K c) := by
  obtain ⟨h1, h⟩ := He.ba h
  obtain ⟨h2, h⟩ := He.ba h
  obtain ⟨h3, h⟩ := He.ba h
  obtain ⟨h4, h⟩ := He.ba h
  obtain ⟨h5, h⟩ := He.ba h
  obtain ⟨h6, h⟩ := He.ba h
  obtain ⟨h7, h⟩ := He.ba h
  obtain ⟨h8, h9⟩ := He.ba h
  exact ⟨⟨h1, h2, h3, He.eqO_ok h4⟩, He.eqO_ok h5, He.eqO_ok h6, of_decide_eq_true h7, of_decide_eq_true h8, of_decide_eq_true h9⟩
theorem kitc_ok {c : Str} {T : String} {b : Bool} (h : (Kf.kitc c T b).ok K = true) : PySem.W.kitOne K (.ref (He.ga K c)) (.type T) = some b := of_decide_eq_true h
theorem kitcc_ok {c c' : Str} {b : Bool} (h : (Kf.kitcc c c' b).ok K = true) : PySem.W.kitOne K (.ref (He.ga K c)) (.ref (He.ga K c')) = some b := of_decide_eq_true h
theorem kitn_ok {c : Str} (h : (Kf.kitn c).ok K = true) : ∀ a ∈ tyNames, PySem.W.kitOne K (.type a) (.ref (He.ga K c)) = some false := fun a m => of_decide_eq_true (List.all_eq_true.mp h a m)
end
/-! ### the Hook -/
abbrev AlV : Type := Bool × List He.FnW
def obsV (fa : List Kf) (fn : List Kd) (K : PySem.W.Frag) : AlV := ((fa.all fun f => f.ok K) && fn.all fun d => d.ok K, fn.map fun d => d.see K)
def valV (fn : List Kd) : AlV := (true, fn.map Kd.val)
def SaysV (fa : List Kf) (fn : List Kd) (K : PySem.W.Frag) : Prop := obsV fa fn K = valV fn
/-- what an object names that a fact may want -/
def refsV (o : Obj) : List Addr := match o.data with
  | .seq its _ => its.toList.flatMap He.refV
  | .dict es _ => es.toList.flatMap fun e => He.refV e.val
  | .func fd => He.refV fd.code ++ fd.closure.map (·.2)
  | .cls cd => cd.ns :: cd.mro.flatMap He.refV
  | _ => []
def refsP (o : Obj) : List Addr := match o.data with
  | .fields vs => vs.toList.flatMap He.refV
  | _ => []
def stepV (r : Obj → List Addr) (g : Addr → Option Obj) (as : List Addr) : List Addr := as.flatMap fun a => match g a with
  | some o => r o
  | none => []
def reachV (g : Addr → Option Obj) : List Addr :=
  let a1 := stepV refsV g [mainGlobals]
  let a2 := stepV refsV g a1
  let a3 := stepV refsV g a2
  let a4 := stepV refsV g a3 ++ stepV refsP g a3
  let a5 := stepV refsV g a4
  mainGlobals :: cStatics :: (a1 ++ a2 ++ a3 ++ a4 ++ a5).eraseDups
def obsVG (_n : Nat) (fa : List Kf) (fn : List Kd) (g : Addr → Option Obj) : AlV := obsV fa fn (He.frG g (reachV g))
def hookV (n : Nat) (fa : List Kf) (fn : List Kd) : PySem.W.Hook where
  α := AlV
  obs := fun s => obsVG n fa fn s.heap.get?
  val := fun _ => valV fn
  says := fun _ h => ∃ K : PySem.W.Frag, K.In h ∧ SaysV fa fn K
  of := fun _ _ e => ⟨_, He.frG_in, e⟩
  keeps := fun _ _ _ ⟨K, hK, c⟩ k => ⟨K, PySem.W.Frag.In.keeps hK k, c⟩
theorem obsVG_eq {n : Nat} {fa : List Kf} {fn : List Kd} {g : Addr → Option Obj} {s : Shared} (h : ∀ a, g a = s.heap.get? a) : obsVG n fa fn g = (hookV n fa fn).obs s := by
  have e : g = s.heap.get? := funext h
  rw [e] <;> rfl
section
variable {fa : List Kf} {fn : List Kd} {K : PySem.W.Frag}
theorem SaysV.fact (c : SaysV fa fn K) (i : Nat) {f : Kf} (h : fa[i]? = some f := by rfl) : f.ok K = true :=
  List.all_eq_true.mp (He.ba (show ((fa.all fun f => f.ok K) && fn.all fun d => d.ok K) = true from congrArg (fun z : AlV => z.1) c)).1 f (List.mem_of_getElem? h)
theorem SaysV.def_ (c : SaysV fa fn K) (i : Nat) {d : Kd} (h : fn[i]? = some d := by rfl) (he : d.err = none := by rfl) : KdF K d := by
  have c2 := List.all_eq_true.mp (He.ba (show ((fa.all fun f => f.ok K) && fn.all fun d => d.ok K) = true from congrArg (fun z : AlV => z.1) c)).2 d (List.mem_of_getElem? h)
  have e : fn.map (fun d => d.see K) = fn.map Kd.val := congrArg (fun z : AlV => z.2) c
  have e2 : (fn.map fun d => d.see K)[i]? = (fn.map Kd.val)[i]? := by rw [e]
  rw [List.getElem?_map, List.getElem?_map, h] at e2
  exact Kd.funD he (Option.some.inj e2) c2
end

/-! ### __iter__, __len__ by their texts -/
section
variable {P : Program} {w : World} {K : PySem.W.Frag} {mg : Str → Option Value} {base : Heap} {k : Nat} {C f : Str} {d : Kd} {p1 p2 p3 p4 p5 : Pos}
theorem hkind_of {scope : Scope} {N ps : List Str} (S : FnScope N ps scope) {us : List Value} {n : Nat} : ∀ y ∈ ps.zip us, scope.names.lookup y.1 = some .local ∨ (scope.names.lookup y.1 = some .cell ∧ ((cellsFrom n scope.names []).lookup y.1).isSome = true) := fun ⟨x, v⟩ m => by
  rcases S.par x (List.of_mem_zip m).1 with q | q
  · exact .inl q
  · exact .inr ⟨q, PySem.W.cellsFrom_some _ _ _ (.inl q)⟩
theorem it_fn (F : KdF K d) (hd : d.dfl = []) (S : FnScope ["self"] ["self"] d.scope) (hb : d.body = [.Return (some (.Call (.Name "iter" p1) [.Attribute (.Name "self" p2) f p3] [] p4)) p5])
    (bd : ∀ (kV doc pm : Value) (an : Option Addr) (cdv ct : Value) (u : Value), bindArgs (PySem.W.fnOf d.name d.qual d.params d.body d.scope .none kV doc pm an cdv ct) ⟨[u], []⟩ = pure [(("self" : Str), u)])
    (hgi : mg "iter" = none) (hgl : ∀ (A : Around) (outer : List Env) (s : Shared) (H : Hp) (cdv : Value) (E : XK), Gl (cxOf (fun _ _ _ _ _ _ => False) P w K mg base ["self"] d.qual d.scope (d.at_.adr K) cdv A outer s H E) "iter")
    (cl : Cls K (He.ga K C)) (na : NoAttr K (He.ga K C) f) : ItFn P w K mg base (k + 1) (d.at_.adr K) (He.ga K C) f := by
  intro A outer s H a dx l fs zs hr e0 ha hl hz
  obtain ⟨fd, FD⟩ := F
  obtain ⟨oc, od, dV, kV, doc, pm, an, cdv, ct, osl, rfl, lk, hcd, dv, _⟩ := FD.ex
  have edV : dV = .none := by
    rcases dv with ⟨_, e⟩ | ⟨e, _⟩
    · exact e
    · rw [hd] at e; exact absurd rfl e
  subst edV
  have KX : K.In s.heap := e0.mod.kin.keeps fun b o e => (e0.bs b o e).1
  have lim : s.heap.NoLimit := e0.mod.nolimit.keeps fun b o e => (e0.bs b o e).1
  refine codeAny_call_function hr.depth (KX _ _ lk) rfl S.co S.gen rfl (PySem.W.codeRec_of KX hcd) ((BindsTo.of_eq (bd kV doc pm an cdv ct (.ref a))) _ _ _ _ ?_)
  refine wpAny_newFunctionEnv_cells S.kind (hkind_of S (ps := ["self"]) (us := [.ref a])) fun env he s1 x => ?_
  subst he
  refine ⟨lim.keeps x.toInCall.keep, codeAny_func ?_⟩
  have I : Inv (cxOf (fun _ _ _ _ _ _ => False) P w K mg base ["self"] d.qual d.scope (d.at_.adr K) cdv A outer s H (fun _ _ _ => False)) [] (L2.start ["self"] [.ref a]) H s1 := inv_start S hr.hd e0 rfl (.cons (rfl : RelV (.ref a) (.ref a)) .nil) x
  have hN : (cxOf (fun _ _ _ _ _ _ => False) P w K mg base ["self"] d.qual d.scope (d.at_.adr K) cdv A outer s H (fun _ _ _ => False)).N[0]? = some ("self" : Str) := rfl
  have vis : Vis d.scope "self" := by
    rcases S.par "self" (by simp) with q | q
    · exact .inl q
    · exact .inr (.inl q)
  have body := ps_ret (pos := p5) (pe_callB (p := p1) (pos := p4) (ItX.call_iterN (X := cxOf (fun _ _ _ _ _ _ => False) P w K mg base ["self"] d.qual d.scope (d.at_.adr K) cdv A outer s H (fun _ _ _ => False))) (hgl A outer s H cdv _) hgi (by decide +kernel) (pa_cons (pe_fld (f := f) (pos := p3) (pe_var (pos := p2) hN vis (by decide) (by decide)) rfl) pa_nil (by rfl)) (by decide) (by decide) (by rfl) (by rfl))
  rw [hb]
  refine wpAny_mono ((pss_one body).run [] s1 _ H { nx := fun _ H' => False, rt := fun v H' => ∃ it, v = .ref it ∧ s.heap.objs.size ≤ it ∧ H it = none ∧ H' = upd H it (ItO l it 0) } I ?_) (fun fl s' hs => ?_) fun e s' hs => hs
  · exact ⟨.ref a, rfl, a, _, dx, fs, .ref l, rfl, ha, cl, na, hl, l, zs, rfl, hz, fun it hn hsz => ⟨it, rfl, hsz, hn, rfl⟩⟩
  · match fl, hs with
    | .ret u, ⟨v, σ', H', J, rv, q⟩ => exact ⟨v, H', J.os, J.bare, J.base, J.hok, rv, q⟩
    | .next, ⟨_, _, _, q⟩ => exact q.elim
    | .brk, ⟨_, _, _, q⟩ => exact q.elim
    | .cont, ⟨_, _, _, q⟩ => exact q.elim
theorem ln_fn (F : KdF K d) (hd : d.dfl = []) (S : FnScope ["self"] ["self"] d.scope) (hb : d.body = [.Return (some (.Call (.Name "len" p1) [.Attribute (.Name "self" p2) f p3] [] p4)) p5])
    (bd : ∀ (kV doc pm : Value) (an : Option Addr) (cdv ct : Value) (us : List Value), us.length = 1 → bindArgs (PySem.W.fnOf d.name d.qual d.params d.body d.scope .none kV doc pm an cdv ct) ⟨us, []⟩ = pure ((["self"] : List Str).zip us))
    (hgi : mg "len" = none) (hgl : ∀ (A : Around) (outer : List Env) (s : Shared) (H : Hp) (cdv : Value) (E : XK), Gl (cxOf (fun _ _ _ _ _ _ => False) P w K mg base ["self"] d.qual d.scope (d.at_.adr K) cdv A outer s H E) "len")
    (cl : Cls K (He.ga K C)) (na : NoAttr K (He.ga K C) f) : LnFn P w K mg base (k + 1) (d.at_.adr K) (He.ga K C) f := by
  obtain ⟨fd, FD⟩ := F
  have vis : Vis d.scope "self" := by
    rcases S.par "self" (by simp) with q | q
    · exact .inl q
    · exact .inr (.inl q)
  rw [hd] at FD
  have ok : FnOk P w K mg base (fun _ _ _ _ _ _ => False) (k + 1) (d.at_.adr K) fd ["self"] (fun vs H Q _ => ∃ a dx fs l zs, vs = [.ref a] ∧ H a = some (.ins (He.ga K C) dx fs) ∧ fs.lookup f = some (.ref l) ∧ SqL K H l zs ∧ Q (.int zs.length) H) := by
    refine FD.ok S (fun vs H Q E ⟨a, dx, fs, l, zs, e, _⟩ => by rw [e]; rfl) fun cdv A outer s H vs Q E hr ⟨a, dx, fs, l, zs, e, ha, hl, hz, q⟩ => ?_
    subst e
    refine ⟨_, by rw [hb]; exact pss_one (ps_ret (pos := p5) (pe_callB (p := p1) (pos := p4) call_len (hgl A outer s H cdv E) hgi boot_len (pa_cons (pe_fld (f := f) (pos := p3) (pe_var (pos := p2) (i := 0) rfl vis (by decide) (by decide)) rfl) pa_nil (by rfl)) (by decide) (by decide) (by rfl) (by rfl))), ?_⟩
    exact ⟨.ref a, rfl, a, _, dx, fs, .ref l, rfl, ha, cl, na, hl, _, _, rfl, .inl ⟨zs, hz, rfl⟩, q⟩
  have b := FD.bindsN (ps := ["self"]) bd
  exact FnR.imp (ok.raw b .nil) fun vs H Q E h => by rw [List.append_nil]; exact h
end
end VL
set_option maxRecDepth 100000
set_option maxHeartbeats 2000000
namespace VL
open PySem PySem.Spec PyProof.Rows L2

/-! ### def f(a, .., *v) -/
def vsSl : Ls → Option (List D)
  | [] => some []
  | .v d :: r => (vsSl r).map (d :: ·)
  | _ :: _ => none
def gStar (m : Nat) (g : G) : G := fun as h => match vsSl (as.drop m) with
  | some ds => (match decide (m ≤ as.length) && sz ds.length with
    | true => (match g (as.take m ++ [.v (.tup ds)]) h with
      | .ok w as' h => .ok w (as'.take m ++ as.drop m) h
      | .ex x as' h => .ex x (as'.take m ++ as.drop m) h
      | .no => .no)
    | false => .no)
  | none => .no
section
variable {K : PySem.W.Frag} {ι ι' : List Addr} {F F' : Addr → Prop} {l l' as as' : Ls} {h h' : Hs} {σ τ : L2.St} {H H' : Hp} {a : Addr} {d : D} {v : V}
theorem vsSl_all : ∀ {as : Ls} {ds : List D}, vsSl as = some ds → ∀ (i : Nat) (x : Sl), as[i]? = some x → ∃ d, x = .v d
  | [], _, _, i, x, e => by simp at e
  | y :: r, ds, h, i, x, e => by
    cases y with
    | v d0 =>
      obtain ⟨ds2, h2, rfl⟩ := Option.map_eq_some_iff.mp (show (vsSl r).map (d0 :: ·) = some ds from h)
      cases i with
      | zero => simp at e; exact ⟨d0, e.symm⟩
      | succ i => exact vsSl_all h2 i x (by simpa using e)
    | _ => cases h
theorem vsSl_rp : ∀ {as : Ls} {ds : List D} {vs : List V}, vsSl as = some ds → as.length = vs.length → (∀ (i : Nat) (x : Sl), as[i]? = some x → x = .e ∨ ∃ v, (vs.map some)[i]? = some (some v) ∧ SlR K ι F H x v) → RpL K F H ds vs
  | [], ds, [], h, _, _ => by cases h; exact .nil
  | y :: r, ds, v :: vs, h, e, q => by
    cases y with
    | v d0 =>
      obtain ⟨ds2, h2, rfl⟩ := Option.map_eq_some_iff.mp (show (vsSl r).map (d0 :: ·) = some ds from h)
      rcases q 0 (.v d0) rfl with z | ⟨v', ev, rp⟩
      · cases z
      · cases ev
        exact .cons rp (vsSl_rp h2 (by simpa using e) fun i x z => by simpa using q (i + 1) x (by simpa using z))
    | _ => cases h
theorem ow_take {m : Nat} (z : Ow (as.take m) (τ.take m) a) : Ow as τ a := by
  obtain ⟨i, b, d, e1, e2⟩ := z
  rw [List.getElem?_take] at e1 e2
  split at e1
  · rename_i c
    rw [if_pos c] at e2
    exact ⟨i, b, d, e1, e2⟩
  · cases e1
theorem Sim.take {m : Nat} (S : Sim K ι F as h τ H) : Sim K ι F (as.take m) h (τ.take m) H := by
  have own : ∀ i a, OwnAt (as.take m) (τ.take m) i a → OwnAt as τ i a := fun i a ⟨b, d, e1, e2⟩ => by
    rw [List.getElem?_take] at e1 e2
    split at e1
    · rename_i c
      rw [if_pos c] at e2
      exact ⟨b, d, e1, e2⟩
    · cases e1
  refine ⟨S.hs, by rw [List.length_take, List.length_take, S.len], fun i x q => ?_, fun i j a z z' => S.one i j a (own i a z) (own j a z')⟩
  rw [List.getElem?_take] at q ⊢
  split at q
  · rename_i c
    rw [if_pos c]
    exact S.sl i x q
  · cases q
theorem Sim.snoc (S : Sim K ι F as h τ H) (r : Rp K F H d v) : Sim K ι F (as ++ [.v d]) h (τ ++ [some v]) H := by
  have own : ∀ i a, OwnAt (as ++ [.v d]) (τ ++ [some v]) i a → OwnAt as τ i a := fun i a ⟨b, d', e1, e2⟩ => by
    by_cases c : i < as.length
    · rw [List.getElem?_append_left c] at e1
      rw [List.getElem?_append_left (by rw [← S.len]; exact c)] at e2
      exact ⟨b, d', e1, e2⟩
    · rw [List.getElem?_append_right (by omega)] at e1
      cases hm : i - as.length with
      | zero => rw [hm] at e1; simp at e1
      | succ m => rw [hm] at e1; simp at e1
  refine ⟨S.hs, by rw [List.length_append, List.length_append, S.len]; rfl, fun i x q => ?_, fun i j a z z' => S.one i j a (own i a z) (own j a z')⟩
  by_cases c : i < as.length
  · rw [List.getElem?_append_left c] at q
    rw [List.getElem?_append_left (by rw [← S.len]; exact c)]
    exact S.sl i x q
  · rw [List.getElem?_append_right (by omega)] at q
    rw [List.getElem?_append_right (by rw [← S.len]; omega), ← S.len]
    cases hm : i - as.length with
    | zero =>
      rw [hm] at q
      simp at q
      subst q
      exact .inr ⟨v, rfl, r⟩
    | succ m => rw [hm] at q; simp at q
theorem ow_snoc (z : Ow (as ++ [.v d]) (τ ++ [some v]) a) (hl : as.length = τ.length) : Ow as τ a := by
  obtain ⟨i, b, d', e1, e2⟩ := z
  by_cases c : i < as.length
  · rw [List.getElem?_append_left c] at e1
    rw [List.getElem?_append_left (by rw [← hl]; exact c)] at e2
    exact ⟨i, b, d', e1, e2⟩
  · rw [List.getElem?_append_right (by omega)] at e1
    cases hm : i - as.length with
    | zero => rw [hm] at e1; simp at e1
    | succ m => rw [hm] at e1; simp at e1
/-- the arguments behind the call -/
theorem star_back {m : Nat} {ds : List D} {vs : List V} {v : V} (S : Sim K ι F as h (vs.map some) H) (hm : m ≤ as.length) (hd : vsSl (as.drop m) = some ds) (k : Kp F F' H H') (hl : as'.length = m + 1) (S' : Sim K ι' F' as' h' ((vs.take m ++ [v]).map some) H') :
    Sim K ι' F' (as'.take m ++ as.drop m) h' (vs.map some) H' ∧ (∀ i a, OwnAt (as'.take m ++ as.drop m) (vs.map some) i a → i < m ∧ OwnAt as' ((vs.take m ++ [v]).map some) i a) := by
  have lv : as.length = vs.length := by simpa using S.len
  have hl1 : (as'.take m).length = m := by rw [List.length_take, hl]; omega
  have at_ : ∀ i, i < m → ((vs.take m ++ [v]).map some)[i]? = (vs.map some)[i]? := fun i c => by
    rw [List.getElem?_map, List.getElem?_map, List.getElem?_append_left (by rw [List.length_take]; omega), List.getElem?_take, if_pos c]
  have own : ∀ i a, OwnAt (as'.take m ++ as.drop m) (vs.map some) i a → i < m ∧ OwnAt as' ((vs.take m ++ [v]).map some) i a := fun i a ⟨b, d, e1, e2⟩ => by
    by_cases c : i < m
    · rw [List.getElem?_append_left (by rw [hl1]; exact c), List.getElem?_take, if_pos c] at e1
      exact ⟨c, b, d, e1, by rw [at_ i c]; exact e2⟩
    · rw [List.getElem?_append_right (by rw [hl1]; omega)] at e1
      obtain ⟨d', z⟩ := vsSl_all hd _ _ e1
      cases z
  refine ⟨⟨S'.hs, by rw [List.length_append, hl1, List.length_drop, List.length_map]; omega, fun i x q => ?_, fun i j a z z' => S'.one i j a (own i a z).2 (own j a z').2⟩, own⟩
  by_cases c : i < m
  · rw [List.getElem?_append_left (by rw [hl1]; exact c), List.getElem?_take, if_pos c] at q
    have := S'.sl i x q
    rw [at_ i c] at this
    exact this
  · rw [List.getElem?_append_right (by rw [hl1]; omega)] at q
    obtain ⟨d', rfl⟩ := vsSl_all hd _ _ q
    rw [hl1, List.getElem?_drop] at q
    have e : m + (i - m) = i := by omega
    rw [e] at q
    obtain ⟨u, ev, rp⟩ := S.slot q (by intro z; cases z)
    exact .inr ⟨u, ev, Rp.kp k rp⟩
theorem star_sp {m : Nat} {g : G} (ar : Ar (m + 1) g) (hol : ∀ as h w as' h', g as h = .ok w as' h' → as'.length = as.length) (hxl : ∀ as h x as' h', g as h = .ex x as' h' → as'.length = as.length) {vs : List V} {Q : VK} {E : XK} (hs : spW K (gStar m g) vs H Q E) :
    ∃ ws rest, vs = ws ++ rest ∧ ws.length = m ∧ rest.length ≤ sizeLine ∧ ∀ p, H p = none → spV K (m + 1) g (ws ++ [V.ref p]) (upd H p (.tup rest)) Q E := by
  obtain ⟨n, hn, ι, F, as, h, S, nm, q⟩ := hs
  unfold gStar at q
  have lv : as.length = vs.length := by simpa using S.len
  cases hd : vsSl (as.drop m) with
  | none => simp only [hd] at q
  | some ds =>
    simp only [hd] at q
    cases hc : (decide (m ≤ as.length) && sz ds.length) with
    | false => simp only [hc] at q
    | true =>
      simp only [hc] at q
      rw [Bool.and_eq_true] at hc
      have hm : m ≤ as.length := of_decide_eq_true hc.1
      have rr : RpL K F H ds (vs.drop m) := vsSl_rp hd (by rw [List.length_drop, List.length_drop, lv]) fun i x z => by
        rw [List.getElem?_drop] at z
        have := S.sl (m + i) x z
        rw [List.map_drop, List.getElem?_drop]
        exact this
      refine ⟨vs.take m, vs.drop m, (List.take_append_drop m vs).symm, by rw [List.length_take]; omega, by rw [← rr.length]; exact sz_ok hc.2, fun p hp => ?_⟩
      have S1 := (S.laidF (o := .tup (vs.drop m)) hp).take (m := m)
      have kpl := (Ext.laidF (A := fun _ => False) (ι := ι) (F := F) (o := HO.tup (vs.drop m)) hp).kp
      have S2 := S1.snoc (d := .tup ds) (v := .ref p) (Rp.tup (.inr rfl) (.inl upd_same) (rr.kp kpl))
      have eτ : (vs.map some).take m ++ [some (V.ref p)] = (vs.take m ++ [V.ref p]).map some := by rw [List.map_append, List.map_take]; rfl
      rw [eτ] at S2
      have l1 : (as.take m).length = m := by rw [List.length_take]; omega
      have owb : ∀ a, Ow (as.take m ++ [.v (.tup ds)]) ((vs.take m ++ [V.ref p]).map some) a → Ow as (vs.map some) a := fun a z => by
        rw [← eτ] at z
        exact ow_take (ow_snoc z (by rw [List.length_take, List.length_take, List.length_map, lv]))
      have laid : Aft ι F as (vs.map some) H ι (fun a => F a ∨ a = p) as (vs.map some) (upd H p (.tup (vs.drop m))) := Aft.laidF hp
      have after : ∀ {ι' F' as' h' H'}, as'.length = m + 1 → Aft ι (fun a => F a ∨ a = p) (as.take m ++ [.v (.tup ds)]) ((vs.take m ++ [V.ref p]).map some) (upd H p (.tup (vs.drop m))) ι' F' as' ((vs.take m ++ [V.ref p]).map some) H' → Sim K ι' F' as' h' ((vs.take m ++ [V.ref p]).map some) H' →
          (∀ a, Ow as' ((vs.take m ++ [V.ref p]).map some) a → Ow (as.take m ++ [.v (.tup ds)]) ((vs.take m ++ [V.ref p]).map some) a) →
          Sim K ι' F' (as'.take m ++ as.drop m) h' (vs.map some) H' ∧ Aft ι F as (vs.map some) H ι' F' (as'.take m ++ as.drop m) (vs.map some) H' ∧ (∀ a, Ow (as'.take m ++ as.drop m) (vs.map some) a → Ow as (vs.map some) a) := fun {ι' F' as' h' H'} hl A S' ao => by
        obtain ⟨S3, own⟩ := star_back S hm hd (laid.ext.kp.trans A.ext.kp) hl S'
        have owa : ∀ a, Ow (as'.take m ++ as.drop m) (vs.map some) a → Ow as (vs.map some) a := fun a ⟨i, z⟩ => owb a (ao a ⟨i, (own i a z).2⟩)
        refine ⟨S3, ⟨laid.ext.trans (A.ext.weak owb) fun a z => .inl z, fun a z => .inl (owa a z), fun i d z => ?_⟩, owa⟩
        have ci : i < m := by
          by_cases c : i < m
          · exact c
          · obtain ⟨d', y⟩ := vsSl_all hd (i - m) _ (by rw [List.getElem?_drop, show m + (i - m) = i by omega]; exact z)
            cases y
        obtain ⟨d', y1, y2⟩ := A.po i d (by rw [List.getElem?_append_left (by rw [l1]; exact ci), List.getElem?_take, if_pos ci]; exact z)
        exact ⟨d', by rw [List.getElem?_append_left (by rw [List.length_take, hl]; omega), List.getElem?_take, if_pos ci]; exact y1, rfl⟩
      refine ⟨by rw [List.length_append, List.length_take, List.length_singleton]; omega, ι, _, as.take m ++ [.v (.tup ds)], h, S2, fun d z => ?_, ?_⟩
      · rcases List.mem_append.mp z with z | z
        · exact nm d (List.mem_of_mem_take z)
        · simp at z
      · cases eg : g (as.take m ++ [.v (.tup ds)]) h with
        | no => simp only [eg] at q
        | ex x as' h2 =>
          simp only [eg] at q
          have hl : as'.length = m + 1 := by rw [hxl _ _ _ _ _ eg, List.length_append, l1]; rfl
          intro ι' F' H' dx A S' ao xr
          obtain ⟨S3, A3, o3⟩ := after hl A S' ao
          exact q ι' F' H' dx A3 S3 o3 xr
        | ok w as' h2 =>
          simp only [eg] at q
          have hl : as'.length = m + 1 := by rw [hol _ _ _ _ _ eg, List.length_append, l1]; rfl
          intro v ι' F' H' A S' ao rr2
          obtain ⟨S3, A3, o3⟩ := after hl A S' ao
          refine q v ι' F' H' A3 S3 o3 ?_
          cases w with
          | e => exact rr2.elim
          | v d => exact rr2
          | r k => exact rr2
          | m b d =>
            cases b with
            | true => exact rr2.elim
            | false =>
              obtain ⟨a, e, n1, n2, ow, h0⟩ := rr2
              exact ⟨a, e, n1, n2, ow, by
                by_cases c : a = p
                · rw [c]; exact hp
                · rw [upd_ne c] at h0; exact h0⟩
end
section
variable {P : Program} {w : World} {K : PySem.W.Frag} {mg : Str → Option Value} {base : Heap} {x qual pv : Str} {params : Arguments} {body : List Stmt} {scope : Scope} {f : Addr} {fd : FuncData} {N ps : List Str} {k : Nat} {b : FS}
theorem run_lens {n M : Nat} {b : FS} : (∀ as h w as' h', run n M b as h = .ok w as' h' → as'.length = as.length) ∧ (∀ as h x as' h', run n M b as h = .ex x as' h' → as'.length = as.length) := by
  constructor
  · intro as h w as' h' e
    unfold run at e
    split at e
    · split at e
      · cases e; exact outs_len
      · cases e; exact outs_len
      · cases e; exact outs_len
      · cases e; exact outs_len
      · split at e
        · cases e; exact outs_len
        · cases e
      · cases e
      · cases e
      · cases e
    · cases e
  · intro as h w as' h' e
    unfold run at e
    split at e
    · split at e
      · cases e
      · cases e
      · cases e
      · cases e
      · split at e <;> cases e
      · cases e
      · cases e; exact outs_len
      · cases e
    · cases e
theorem fn_runStar (FD : FunD K x qual params body scope [] [] f fd) (Sc : FnScope N (ps ++ [pv]) scope)
    (hbd : ∀ (kV doc pm : Value) (an : Option Addr) (cdv ct : Value) (us rest : List Value), us.length = ps.length → bindArgs (PySem.W.fnOf x qual params body scope .none kV doc pm an cdv ct) ⟨us ++ rest, []⟩ = (newTuple rest >>= fun t => pure (ps.zip us ++ [(pv, t)])))
    (hb : ∀ (X : Cx) (Wx : WX), X.prog = P → X.w = w → X.K = K → X.mg = mg → X.base = base → X.N = N → X.env.scope = scope → X.calm = true → Room k X.A → Takes X Wx → PassesOwn (model X.prog X.w) X.A X.env X.xe → X.stack = X.env :: X.outer → X.env.frame = some X.env.locals → X.fn = (fun _ => true) → VSs X Wx body b) :
    Fn P w K mg base (k + 1) f (gStar ps.length (run (ps.length + 1) N.length b)) := by
  obtain ⟨oc, od, dV, kV, doc, pm, an, cdv, ct, osl, rfl, lk, hcd, dv, _⟩ := FD.ex
  have edV : dV = .none := by
    rcases dv with ⟨_, e⟩ | ⟨e, _⟩
    · exact e
    · exact absurd rfl e
  subst edV
  have hlen : (ps ++ [pv]).length = ps.length + 1 := by rw [List.length_append]; rfl
  have R := StX.fn_star (CX := L2.CX P w) (P := P) (w := w) (mg := mg) (base := base) (k := k) (sp := spV K (ps ++ [pv]).length (run (ps ++ [pv]).length N.length b)) lk hcd Sc StX.cxUp (hbd kV doc pm an cdv ct) fun A outer s H vs Q E hr hsp =>
    run_body (ps := ps ++ [pv]) (hb (cxOf (L2.CX P w) P w K mg base N qual scope f cdv A outer s H E) (fun cls d _ H => E cls d H) rfl rfl rfl rfl rfl rfl rfl rfl hr (takes_of rfl rfl rfl rfl) (passes_of rfl) rfl rfl rfl) hsp
  rw [hlen] at R
  exact FnR.imp R fun vs H Q E hs => star_sp (run_ar _ _ _) run_lens.1 run_lens.2 hs
end
end VL
set_option maxRecDepth 100000
set_option maxHeartbeats 2000000
namespace VL
open PySem PySem.Spec PyProof.Rows L2

/-! ### contexts: what a rule asks of its surroundings, kept together -/
def visB (sc : Scope) (x : Str) : Bool := match sc.names.lookup x with
  | some .local => true
  | some .cell => true
  | some .free => true
  | _ => false
def glB (sc : Scope) (x : Str) : Bool := match sc.names.lookup x with
  | some .globalImplicit => true
  | _ => false
/-- the names that a scope has of its own -/
def ownN (sc : Scope) : List Str := (sc.names.map (·.1)).filter fun x => match sc.names.lookup x with
  | some .local => true
  | some .cell => true
  | _ => false
def stoB (o : List Str) (x : Str) : Bool := o.contains x
theorem ownN_loc {sc : Scope} {x : Str} (h : stoB (ownN sc) x = true) : Loc sc x := by
  have m : x ∈ ownN sc := by simpa [stoB] using h
  have q := (List.mem_filter.mp m).2
  split at q
  · exact .inl (by assumption)
  · exact .inr (by assumption)
  · cases q
theorem visB_ok {sc : Scope} {x : Str} (h : visB sc x = true) : Vis sc x := by
  unfold visB at h
  split at h <;> first | exact .inl (by assumption) | exact .inr (.inl (by assumption)) | exact .inr (.inr (by assumption)) | cases h
theorem glB_ok {sc : Scope} {x : Str} (h : glB sc x = true) : sc.names.lookup x = some .globalImplicit := by
  unfold glB at h
  split at h <;> first | assumption | cases h
structure Ctx (X : Cx) (Wx : WX) (P : Program) (w : World) (K : PySem.W.Frag) (mg : Str → Option Value) (base : Heap) (N : List Str) (sc : Scope) (b : List Str) (k : Nat) : Prop where
  eP : X.prog = P
  ew : X.w = w
  eK : X.K = K
  em : X.mg = mg
  eb : X.base = base
  eN : X.N = N
  es : X.env.scope = sc
  calm : X.calm = true
  room : Room k X.A
  tk : Takes X Wx
  sto : ∀ x, stoB b x = true → Loc sc x ∧ (X.fn x = true ∨ sc.names.lookup x = some .local)
  kd : sc.kind = .function
section
variable {X : Cx} {Wx : WX} {P : Program} {w : World} {K : PySem.W.Frag} {mg : Str → Option Value} {base : Heap} {N : List Str} {sc : Scope} {b : List Str} {j k i : Nat} {x y : Str} {p pos pos' spos : Pos} {e o value elt tg iter : Expr} {es ifs : List Expr} {f fe fo : FE} {fl : FL} {fa : FA} {g : G} {io : List Bool}
theorem Ctx.blk (c : Ctx X Wx P w K mg base N sc b k) (s : Shared) (H : Hp) (scope : Scope) (C : Addr) (cl : List (Str × Addr)) (fp : List Addr) (uq : ∀ y ∈ scope.names, scope.names.lookup y.1 = some y.2) (hk : scope.kind = .function := by rfl) : Ctx (X.blk s H scope (compEnvC scope cl C X.env) fp) WN P w K mg base N (relS scope sc) (ownN scope) k where
  eP := c.eP
  ew := c.ew
  eK := c.eK
  em := c.em
  eb := c.eb
  eN := c.eN
  es := by rw [← c.es]; rfl
  calm := c.calm
  room := c.room
  tk := fun u s' ⟨_, _, _, _, _, _, _, _, _, _, _, _, _, _, _, _, z⟩ => z.elim
  sto := fun x h => by
    rcases ownN_loc h with q | q
    · exact ⟨.inl (lookup_relS_keep (by decide) q), .inr (lookup_relS_keep (by decide) q)⟩
    · exact ⟨.inr (lookup_relS_keep (by decide) q), .inl (by show (scope.names.lookup x == some .cell) = true; rw [q]; rfl)⟩
  kd := hk
theorem Ctx.nm (c : Ctx X Wx P w K mg base N sc b k) (h : N[i]? = some x := by rfl) : X.N[i]? = some x := by rw [c.eN]; exact h
theorem Ctx.gl (c : Ctx X Wx P w K mg base N sc b k) (h : glB sc x = true := by rfl) : Gl X x := by
  show X.env.scope.names.lookup x = _
  rw [c.es]; exact glB_ok h
theorem Ctx.var (c : Ctx X Wx P w K mg base N sc b k) (i : Nat) (h : N[i]? = some x := by rfl) (v : visB sc x = true := by rfl) (hd : (x == ("__debug__" : Str)) = false := by decide) (hcd : (x == ("__classdict__" : Str)) = false := by decide) : VE X Wx (.Name x pos) (fVar i) :=
  ve_var (c.nm h) (by rw [c.es]; exact visB_ok v) hd hcd
theorem Ctx.loc (c : Ctx X Wx P w K mg base N sc b k) (v : stoB b x = true) : Loc X.env.scope x ∧ (X.fn x = true ∨ X.env.scope.names.lookup x = some .local) := by
  rw [c.es]
  exact c.sto x v
theorem Ctx.glob (c : Ctx X Wx P w K mg base N sc b k) {d : D} (h : ∃ u v, mg x = some u ∧ RelV v u ∧ ∀ F H, Rp K F H d v) (hg : glB sc x = true := by rfl) (hd : (x == ("__debug__" : Str)) = false := by decide) : VE X Wx (.Name x pos) (fC d) := by
  obtain ⟨u, v, hm, r, rd⟩ := h
  exact ve_glob (c.gl hg) (by rw [c.em]; exact hm) r (by rw [c.eK]; exact rd) hd
theorem Ctx.set (c : Ctx X Wx P w K mg base N sc b k) (i : Nat) (he : VE X Wx e f) (nd : N.Nodup := by decide +kernel) (h : N[i]? = some x := by rfl) (v : stoB b x = true := by rfl) (hs : swapsWith e (some (.Name x pos')) pos.line X.env = pure false := by rfl) : VS X Wx (.Assign [.Name x pos'] e pos) (sAsg i f) :=
  vs_set (by rw [c.eN]; exact nd) (c.nm h) (c.loc v).1 he hs (c.loc v).2
theorem Ctx.setM (c : Ctx X Wx P w K mg base N sc b k) (i : Nat) (he : VL X Wx e fl) (nd : N.Nodup := by decide +kernel) (h : N[i]? = some x := by rfl) (v : stoB b x = true := by rfl) (hs : swapsWith e (some (.Name x pos')) pos.line X.env = pure false := by rfl) : VS X Wx (.Assign [.Name x pos'] e pos) (sAsgM i fl) :=
  vs_setM (by rw [c.eN]; exact nd) (c.nm h) (c.loc v).1 he hs (c.loc v).2
theorem Ctx.augAdd (c : Ctx X Wx P w K mg base N sc b k) (i : Nat) (he : VE X Wx e f) (nd : N.Nodup := by decide +kernel) (h : N[i]? = some x := by rfl) (v : stoB b x = true := by rfl) : VS X Wx (.AugAssign (.Name x pos') .Add e pos) (sAug (gI0 fun a b => .int (a + b)) i f) :=
  vs_augAdd (by rw [c.eN]; exact nd) (c.nm h) (c.loc v).1 he (c.loc v).2
theorem Ctx.augSub (c : Ctx X Wx P w K mg base N sc b k) (i : Nat) (he : VE X Wx e f) (nd : N.Nodup := by decide +kernel) (h : N[i]? = some x := by rfl) (v : stoB b x = true := by rfl) : VS X Wx (.AugAssign (.Name x pos') .Sub e pos) (sAug (gI0 fun a b => .int (a - b)) i f) :=
  vs_augSub (by rw [c.eN]; exact nd) (c.nm h) (c.loc v).1 he (c.loc v).2
theorem Ctx.target (c : Ctx X Wx P w K mg base N sc b k) (i : Nat) (nd : N.Nodup := by decide +kernel) (h : N[i]? = some x := by rfl) (v : stoB b x = true := by rfl) : VG X (.Name x pos) [i] (gNm i) :=
  vg_name (by rw [c.eN]; exact nd) (c.nm h) (c.loc v).1 (c.loc v).2
theorem Ctx.tup (c : Ctx X Wx P w K mg base N sc b k) {vs : List Nat} {gs : FGs} {kk n : Nat} (h : VGs X es vs gs) (hn : (assignEach es X.env).length = n := by rfl) (hst : (assignEach es X.env).findIdx? (·.1) = none := by rfl) : VG X (.Tuple es kk pos) vs (gTupD n gs) := vg_tup c.calm h hn hst
/-! builtins -/
theorem Ctx.len (c : Ctx X Wx P w K mg base N sc b k) (hm : mg "len" = none) (ha : VA X Wx (e :: es) fa) (hg : glB sc "len" = true := by rfl)
    (he : starEach (e :: es) X.env = (false, eval e X.env) :: starEach es X.env := by rfl) (hpl : (backTo pos (starEach es X.env)).any (·.1) = false := by rfl) : VE X Wx (.Call (.Name "len" p) (e :: es) [] pos) (fCallB bLen fa) :=
  ve_callB call_len cg_len (c.gl hg) (by rw [c.em]; exact hm) boot_len ha (by decide) (by decide) he hpl
theorem Ctx.int (c : Ctx X Wx P w K mg base N sc b k) (hm : mg "int" = none) (ha : VA X Wx (e :: es) fa) (hg : glB sc "int" = true := by rfl)
    (he : starEach (e :: es) X.env = (false, eval e X.env) :: starEach es X.env := by rfl) (hpl : (backTo pos (starEach es X.env)).any (·.1) = false := by rfl) : VE X Wx (.Call (.Name "int" p) (e :: es) [] pos) (fCallB bInt fa) :=
  ve_callTy call_int1 cg_int (c.gl hg) (by rw [c.em]; exact hm) (by decide +kernel) ha (by decide) (by decide) he hpl
theorem Ctx.max (c : Ctx X Wx P w K mg base N sc b k) (hm : mg "max" = none) (ha : VA X Wx (e :: es) fa) (hg : glB sc "max" = true := by rfl)
    (he : starEach (e :: es) X.env = (false, eval e X.env) :: starEach es X.env := by rfl) (hpl : (backTo pos (starEach es X.env)).any (·.1) = false := by rfl) : VE X Wx (.Call (.Name "max" p) (e :: es) [] pos) (fCallB bMax fa) :=
  ve_callB (call_max2 c.calm) cg_max (c.gl hg) (by rw [c.em]; exact hm) (by decide +kernel) ha (by decide) (by decide) he hpl
theorem Ctx.min (c : Ctx X Wx P w K mg base N sc b k) (hm : mg "min" = none) (ha : VA X Wx (e :: es) fa) (hg : glB sc "min" = true := by rfl)
    (he : starEach (e :: es) X.env = (false, eval e X.env) :: starEach es X.env := by rfl) (hpl : (backTo pos (starEach es X.env)).any (·.1) = false := by rfl) : VE X Wx (.Call (.Name "min" p) (e :: es) [] pos) (fCallB bMin fa) :=
  ve_callB (call_min2 c.calm) cg_min (c.gl hg) (by rw [c.em]; exact hm) (by decide +kernel) ha (by decide) (by decide) he hpl
theorem Ctx.any (c : Ctx X Wx P w K mg base N sc b k) (hm : mg "any" = none) (ha : VA X Wx (e :: es) fa) (hg : glB sc "any" = true := by rfl)
    (he : starEach (e :: es) X.env = (false, eval e X.env) :: starEach es X.env := by rfl) (hpl : (backTo pos (starEach es X.env)).any (·.1) = false := by rfl) : VE X Wx (.Call (.Name "any" p) (e :: es) [] pos) (fCallB bAny fa) :=
  ve_callB (call_anyX c.calm) cg_any (c.gl hg) (by rw [c.em]; exact hm) (by decide +kernel) ha (by decide) (by decide) he hpl
theorem Ctx.tuple (c : Ctx X Wx P w K mg base N sc b k) (hm : mg "tuple" = none) (ha : VA X Wx (e :: es) fa) (hg : glB sc "tuple" = true := by rfl)
    (he : starEach (e :: es) X.env = (false, eval e X.env) :: starEach es X.env := by rfl) (hpl : (backTo pos (starEach es X.env)).any (·.1) = false := by rfl) : VE X Wx (.Call (.Name "tuple" p) (e :: es) [] pos) (fCallB bTup fa) :=
  ve_callTy call_tuple_of cg_tup (c.gl hg) (by rw [c.em]; exact hm) (by decide +kernel) ha (by decide) (by decide) he hpl
theorem Ctx.list (c : Ctx X Wx P w K mg base N sc b k) (hm : mg "list" = none) (ha : VA X Wx (e :: es) fa) (hg : glB sc "list" = true := by rfl)
    (he : starEach (e :: es) X.env = (false, eval e X.env) :: starEach es X.env := by rfl) (hpl : (backTo pos (starEach es X.env)).any (·.1) = false := by rfl) : VL X Wx (.Call (.Name "list" p) (e :: es) [] pos) (fListOf fa) :=
  vl_list (c.gl hg) (by rw [c.em]; exact hm) ha he hpl
theorem Ctx.rng1 (c : Ctx X Wx P w K mg base N sc b k) (hm : mg "range" = none) (ha : VA X Wx [e] fa) (hg : glB sc "range" = true := by rfl) (hs : starEach [e] X.env = [(false, eval e X.env)] := by rfl) : VI X Wx tg (.Call (.Name "range" p) [e] [] pos) (fRng1 fa) :=
  vi_rng1 (c.gl hg) (by rw [c.em]; exact hm) ha hs
theorem Ctx.rng2 (c : Ctx X Wx P w K mg base N sc b k) (hm : mg "range" = none) {e2 : Expr} (ha : VA X Wx [e, e2] fa) (hg : glB sc "range" = true := by rfl) (hs : starEach [e, e2] X.env = [(false, eval e X.env), (false, eval e2 X.env)] := by rfl) (hs2 : starEach [e2] X.env = [(false, eval e2 X.env)] := by rfl) : VI X Wx tg (.Call (.Name "range" p) [e, e2] [] pos) (fRng2 fa) :=
  vi_rng2 (c.gl hg) (by rw [c.em]; exact hm) ha hs hs2
/-! own defs, classes -/
theorem Ctx.fn (c : Ctx X Wx P w K mg base N sc b k) (d : CallOk P w K mg base x j g) (ha : VA X Wx (e :: es) fa) (hj : j ≤ k := by first | decide | omega) (hg : glB sc x = true := by rfl) (hdb : (x == ("__debug__" : Str)) = false := by decide)
    (he : starEach (e :: es) X.env = (false, eval e X.env) :: starEach es X.env := by rfl) (hpl : (backTo pos (starEach es X.env)).any (·.1) = false := by rfl) : VE X Wx (.Call (.Name x p) (e :: es) [] pos) (fCallW io g fa) :=
  ve_fn (by rw [c.eP, c.ew, c.eK, c.em, c.eb]; exact d) (c.room.mono hj) c.tk (c.gl hg) ha hdb he hpl
theorem Ctx.fnL (c : Ctx X Wx P w K mg base N sc b k) (d : CallOk P w K mg base x j g) (ha : VA X Wx (e :: es) fa) (hj : j ≤ k := by first | decide | omega) (hg : glB sc x = true := by rfl) (hdb : (x == ("__debug__" : Str)) = false := by decide)
    (he : starEach (e :: es) X.env = (false, eval e X.env) :: starEach es X.env := by rfl) (hpl : (backTo pos (starEach es X.env)).any (·.1) = false := by rfl) : VL X Wx (.Call (.Name x p) (e :: es) [] pos) (fCallL io g fa) :=
  vl_fn (by rw [c.eP, c.ew, c.eK, c.em, c.eb]; exact d) (c.room.mono hj) c.tk (c.gl hg) ha hdb he hpl
theorem Ctx.fn0 (c : Ctx X Wx P w K mg base N sc b k) (d : CallOk P w K mg base x j g) (hj : j ≤ k := by first | decide | omega) (hg : glB sc x = true := by rfl) (hdb : (x == ("__debug__" : Str)) = false := by decide) : VE X Wx (.Call (.Name x p) [] [] pos) (fCallW io g fNil) :=
  ve_fn0 (by rw [c.eP, c.ew, c.eK, c.em, c.eb]; exact d) (c.room.mono hj) c.tk (c.gl hg) hdb
theorem Ctx.make (c : Ctx X Wx P w K mg base N sc b k) (d : MakeOk P w K mg base x j g) (ha : VA X Wx (e :: es) fa) (hj : j + 1 ≤ k := by first | decide | omega) (hg : glB sc x = true := by rfl) (hdb : (x == ("__debug__" : Str)) = false := by decide)
    (he : starEach (e :: es) X.env = (false, eval e X.env) :: starEach es X.env := by rfl) (hpl : (backTo pos (starEach es X.env)).any (·.1) = false := by rfl) : VE X Wx (.Call (.Name x p) (e :: es) [] pos) (fMakeH io g x fa) :=
  ve_mk (by rw [c.eP, c.ew, c.eK, c.em, c.eb]; exact d) (c.room.mono hj) c.tk (c.gl hg) ha hdb he hpl
theorem Ctx.make0 (c : Ctx X Wx P w K mg base N sc b k) (d : MakeOk P w K mg base x j g) (hj : j + 1 ≤ k := by first | decide | omega) (hg : glB sc x = true := by rfl) (hdb : (x == ("__debug__" : Str)) = false := by decide) : VE X Wx (.Call (.Name x p) [] [] pos) (fMakeH io g x fNil) :=
  ve_mk0 (by rw [c.eP, c.ew, c.eK, c.em, c.eb]; exact d) (c.room.mono hj) c.tk (c.gl hg) hdb
theorem Ctx.makeS (c : Ctx X Wx P w K mg base N sc b k) (d : MakeOk P w K mg base x j g) {sp_ : Pos} (he : VE X Wx e fe) (hj : j + 1 ≤ k := by first | decide | omega) (hg : glB sc x = true := by rfl) (hdb : (x == ("__debug__" : Str)) = false := by decide) (hst : starEach [.Starred e sp_] X.env = [(true, eval e X.env)] := by rfl) : VE X Wx (.Call (.Name x p) [.Starred e sp_] [] pos) (fMakeH io g x (fStar fe fNil)) :=
  ve_mkS (by rw [c.eP, c.ew, c.eK, c.em, c.eb]; exact d) (c.room.mono hj) c.tk (c.gl hg) he hdb hst
theorem Ctx.makeM (c : Ctx X Wx P w K mg base N sc b k) (d : MakeOk P w K mg base x j g) (ha : VA X Wx (e :: es) fa) (hj : j + 1 ≤ k := by first | decide | omega) (hg : glB sc x = true := by rfl) (hdb : (x == ("__debug__" : Str)) = false := by decide)
    (he : starEach (e :: es) X.env = (false, eval e X.env) :: starEach es X.env := by rfl) (hpl : (backTo pos (starEach es X.env)).any (·.1) = false := by rfl) : VL X Wx (.Call (.Name x p) (e :: es) [] pos) (fMakeM io g x fa) :=
  vl_mk (by rw [c.eP, c.ew, c.eK, c.em, c.eb]; exact d) (c.room.mono hj) c.tk (c.gl hg) ha hdb he hpl
theorem Ctx.att (c : Ctx X Wx P w K mg base N sc b k) {cs : List Str} {ps : List (Str × Bool × G)} {a : Str} (j : Nat) (ho : VE X Wx o fo) (hcs : ∀ c ∈ cs, FldOk K a c) (hps : ∀ q ∈ ps, PropOk P w K mg base j a q.1 q.2.2) (hj : j + 1 ≤ k := by first | decide | omega) (hb : attributeBase o a X.env (eval o X.env) = eval o X.env := by rfl) : VE X Wx (.Attribute o a pos) (fAtt cs ps a fo) :=
  ve_att ho (by rw [c.eK]; exact hcs) (by rw [c.eP, c.ew, c.eK, c.em, c.eb]; exact hps) (c.room.mono hj) hb
theorem Ctx.meth (c : Ctx X Wx P w K mg base N sc b k) {ms : List (Str × List Bool × G)} {m : Str} {apos : Pos} {pl : Sem Bool} (ho : VE X Wx o fo) (hms : ∀ q ∈ ms, MethOk P w K mg base j m q.1 q.2.2) (ha : VA X Wx (e :: es) fa) (hne : ∃ q, q ∈ ms := by exact ⟨_, List.mem_cons_self⟩) (hj : j ≤ k := by first | decide | omega)
    (hst : starEach (e :: es) X.env = (false, eval e X.env) :: starEach es X.env := by rfl) (hpl : (backTo pos (starEach es X.env)).any (·.1) = false := by rfl)
    (ht : eval (.Call (.Attribute o m apos) (e :: es) [] pos) X.env = (do
      let ov ← eval o X.env
      standAt apos.atName
      let (f, first) ← holding [ov] (getMethod ov m pl)
      callWith pos f first (backTo pos (starEach (e :: es) X.env)) (backToKw pos (keywordEach [] X.env))) := by rfl) : VE X Wx (.Call (.Attribute o m apos) (e :: es) [] pos) (fMeth ms m fo fa) :=
  ve_meth ho (by rw [c.eP, c.ew, c.eK, c.em, c.eb]; exact hms) hne (c.room.mono hj) c.tk ha hst hpl ht
theorem Ctx.meth0 (c : Ctx X Wx P w K mg base N sc b k) {ms : List (Str × List Bool × G)} {m : Str} {apos : Pos} {pl : Sem Bool} (ho : VE X Wx o fo) (hms : ∀ q ∈ ms, MethOk P w K mg base j m q.1 q.2.2) (hne : ∃ q, q ∈ ms := by exact ⟨_, List.mem_cons_self⟩) (hj : j ≤ k := by first | decide | omega)
    (ht : eval (.Call (.Attribute o m apos) [] [] pos) X.env = (do
      let ov ← eval o X.env
      standAt apos.atName
      let (f, first) ← holding [ov] (getMethod ov m pl)
      callWith pos f first (backTo pos (starEach [] X.env)) (backToKw pos (keywordEach [] X.env))) := by rfl) : VE X Wx (.Call (.Attribute o m apos) [] [] pos) (fMeth ms m fo fNil) :=
  ve_meth0 ho (by rw [c.eP, c.ew, c.eK, c.em, c.eb]; exact hms) hne (c.room.mono hj) c.tk ht
theorem Ctx.fld (c : Ctx X Wx P w K mg base N sc b k) {cs : List Str} {a : Str} (ho : VE X Wx o fo) (hv : VE X Wx value fe) (hcs : ∀ c ∈ cs, FldOk K a c) (hs : swapsWith value (some (.Attribute o a pos')) pos.line X.env = pure false := by rfl) : VS X Wx (.Assign [.Attribute o a pos'] value pos) (sFld cs a fo fe) :=
  vs_fld ho hv (by rw [c.eK]; exact hcs) hs
theorem Ctx.isi (c : Ctx X Wx P w K mg base N sc b k) {ce : Expr} {ft : String → Bool} {fc : Str → Option Bool} {cv : V} {u : Value} (hm : mg "isinstance" = none) (he : VE X Wx e f) (hc : PE X ce (tC cv)) (hcv : ClsV cv u) (ok : IsiOk K u ft fc) (hg : glB sc "isinstance" = true := by rfl)
    (h1 : starEach [e, ce] X.env = (false, eval e X.env) :: starEach [ce] X.env := by rfl) (h2 : starEach [ce] X.env = (false, eval ce X.env) :: starEach [] X.env := by rfl) (hpl : (backTo pos (starEach [ce] X.env)).any (·.1) = false := by rfl) :
    VE X Wx (.Call (.Name "isinstance" p) [e, ce] [] pos) (fIsi ft fc f) := ve_isi (c.gl hg) (by rw [c.em]; exact hm) he hc hcv (by rw [c.eK]; exact ok) h1 h2 hpl
theorem Ctx.ty (c : Ctx X Wx P w K mg base N sc b k) {T : String} (hm : mg x = none) (hv : bootBuiltins x = some (.type T)) (hg : glB sc x = true := by rfl) (hn : x ≠ "__name__" := by decide) (hd : (x == ("__debug__" : Str)) = false := by decide) : PE X (.Name x pos) (tC (.ty T)) :=
  pe_bltn (c.gl hg) (by rw [c.em]; exact hm) hv rfl hn hd
theorem Ctx.cls (c : Ctx X Wx P w K mg base N sc b k) (hm : mg x = some (.ref (He.ga K x))) (hg : glB sc x = true := by rfl) (hd : (x == ("__debug__" : Str)) = false := by decide) : PE X (.Name x pos) (tC (.ref (He.ga K x))) :=
  C8.pe_gc (c.gl hg) ⟨_, by rw [c.em]; exact hm, rfl⟩ hd
theorem Ctx.cc (c : Ctx X Wx P w K mg base N sc b k) {a : Str} {d : D} (hm : mg x = some (.ref (He.ga K x))) (cr : ClX.CRead K (He.ga K x) (.type "type")) (cv : ∃ u v, ClX.CVal K (He.ga K x) (.type "type") a v u ∧ ∀ F H, Rp K F H d v) (hg : glB sc x = true := by rfl) (hd : (x == ("__debug__" : Str)) = false := by decide) : VE X Wx (.Attribute (.Name x pos') a pos) (fC d) := by
  obtain ⟨u, v, cv, rd⟩ := cv
  exact ve_cc (c.cls hm hg hd) (by rw [c.eK]; exact cr) (by rw [c.eK]; exact cv) (by rw [c.eK]; exact rd)
theorem Ctx.own (c : Ctx X Wx P w K mg base N sc b k) {its : List (Str × Str)} (ho : VE X Wx o fo) (hits : ∀ q ∈ its, IterOk P w K mg base j q.1 q.2) (hne : ∃ q, q ∈ its := by exact ⟨_, List.mem_cons_self⟩) (hj : j ≤ k := by first | decide | omega) : VI X Wx tg o (fOwnI its fo) :=
  vi_own ho (by rw [c.eP, c.ew, c.eK, c.em, c.eb]; exact hits) hne (c.room.mono hj)
theorem Ctx.listO (c : Ctx X Wx P w K mg base N sc b k) {its : List (Str × Str)} (hm : mg "list" = none) (hits : ∀ q ∈ its, IterOk P w K mg base j q.1 q.2) (ha : VA X Wx (e :: es) fa) (hj : j + 3 ≤ k := by first | decide | omega) (hg : glB sc "list" = true := by rfl)
    (he : starEach (e :: es) X.env = (false, eval e X.env) :: starEach es X.env := by rfl) (hpl : (backTo pos (starEach es X.env)).any (·.1) = false := by rfl) : VL X Wx (.Call (.Name "list" p) (e :: es) [] pos) (fListO its fa) :=
  vl_listO c.calm (by rw [c.eP, c.ew, c.eK, c.em, c.eb]; exact hits) (c.room.mono hj) (c.gl hg) (by rw [c.em]; exact hm) ha he hpl
/-! loops, comprehensions -/
theorem Ctx.for_ (c : Ctx X Wx P w K mg base N sc b k) {fi : FI} {gt : FG} {fb : FS} {body : List Stmt} {vs : List Nat} (hp : PassesOwn (model X.prog X.w) X.A X.env X.xe) (hi : VI X Wx tg iter fi) (hg : VG X tg vs gt) (hb : VSs X Wx body fb) (hs : ∀ x, foldedSetIterable iter X.env x = pure x := by intro _; rfl) : VS X Wx (.For tg iter body [] pos) (sFor fi gt fb) := vs_for hp c.calm hi hg hb hs
section
variable {fi fi1 : FI} {gt gt1 : FG} {ft ft1 : FT} {scope : Scope} {own : List (Str × Nat)} {ws ws1 vs1 : List Nat} {tg1 iter1 : Expr} {ifs1 : List Expr} {py : Pos}
theorem Ctx.lc (c : Ctx X Wx P w K mg base N sc b k) (own : List (Str × Nat)) (hi : VI X Wx tg iter fi) (hg : ∀ {Y : Cx}, Ctx Y WN P w K mg base N (relS scope sc) (ownN scope) k → VG Y tg ws gt) (ht : ∀ {Y : Cx}, Ctx Y WN P w K mg base N (relS scope sc) (ownN scope) k → VTs Y WN ifs ft)
    (he : ∀ {Y : Cx}, Ctx Y WN P w K mg base N (relS scope sc) (ownN scope) k → VE Y WN elt fe) (nd : N.Nodup := by decide +kernel) (ok : blkC N sc scope own = true := by decide +kernel) (hk : scope.kind = .function := by rfl) (sub : ∀ i, i ∈ ws → i ∈ own.map (·.2) := by decide) (hs : ∀ x, foldedSetIterable iter X.env x = pure x := by intro _; rfl) :
    VL X Wx (.ListComp elt [⟨tg, iter, ifs, 0⟩] scope pos) (fLc fi gt ft fe (own.map (·.2))) :=
  vl_lc c.calm (by rw [c.eN]; exact nd) hi (by rw [c.eN, c.es]; exact blkOk_by ok) sub (fun s H C cl fp => hg (c.blk s H scope C cl fp (blkOk_by ok).uniq hk)) (fun s H C cl fp => ht (c.blk s H scope C cl fp (blkOk_by ok).uniq hk)) (fun s H C cl fp => he (c.blk s H scope C cl fp (blkOk_by ok).uniq hk)) hs
theorem Ctx.lc2 (c : Ctx X Wx P w K mg base N sc b k) (own : List (Str × Nat)) (vs1 : List Nat) (hi : VI X Wx tg iter fi) (hg : ∀ {Y : Cx}, Ctx Y WN P w K mg base N (relS scope sc) (ownN scope) k → VG Y tg ws gt) (ht : ∀ {Y : Cx}, Ctx Y WN P w K mg base N (relS scope sc) (ownN scope) k → VTs Y WN ifs ft)
    (hi1 : ∀ {Y : Cx}, Ctx Y WN P w K mg base N (relS scope sc) (ownN scope) k → VI Y WN tg1 iter1 fi1) (hg1 : ∀ {Y : Cx}, Ctx Y WN P w K mg base N (relS scope sc) (ownN scope) k → VG Y tg1 ws1 gt1) (ht1 : ∀ {Y : Cx}, Ctx Y WN P w K mg base N (relS scope sc) (ownN scope) k → VTs Y WN ifs1 ft1)
    (he : ∀ {Y : Cx}, Ctx Y WN P w K mg base N (relS scope sc) (ownN scope) k → VE Y WN elt fe) (nd : N.Nodup := by decide +kernel) (ok : blkC N sc scope own = true := by decide +kernel) (hk : scope.kind = .function := by rfl) (sub : ∀ i, i ∈ ws → i ∈ own.map (·.2) := by decide) (sub1 : ∀ i, i ∈ ws1 → i ∈ vs1 := by decide) (sub2 : ∀ i, i ∈ vs1 → i ∈ own.map (·.2) := by decide)
    (hs : ∀ x, foldedSetIterable iter X.env x = pure x := by intro _; rfl) (hs1 : ∀ env x, foldedSetIterable iter1 env x = pure x := by intro _ _; rfl) :
    VL X Wx (.ListComp elt [⟨tg, iter, ifs, 0⟩, ⟨tg1, iter1, ifs1, 0⟩] scope pos) (fLc2 fi gt ft fi1 gt1 ft1 fe (own.map (·.2)) vs1) :=
  vl_lc2 c.calm (by rw [c.eN]; exact nd) hi (by rw [c.eN, c.es]; exact blkOk_by ok) sub sub1 sub2 (fun s H C cl fp => hg (c.blk s H scope C cl fp (blkOk_by ok).uniq hk)) (fun s H C cl fp => ht (c.blk s H scope C cl fp (blkOk_by ok).uniq hk)) (fun s H C cl fp => hi1 (c.blk s H scope C cl fp (blkOk_by ok).uniq hk)) (fun s H C cl fp => hg1 (c.blk s H scope C cl fp (blkOk_by ok).uniq hk)) (fun s H C cl fp => ht1 (c.blk s H scope C cl fp (blkOk_by ok).uniq hk)) (fun s H C cl fp => he (c.blk s H scope C cl fp (blkOk_by ok).uniq hk)) hs hs1
def locB (sc : Scope) (x : Str) : Bool := match sc.names.lookup x with
  | some .local => true
  | _ => false
theorem locB_ok {sc : Scope} {x : Str} (h : locB sc x = true) : sc.names.lookup x = some .local := by
  unfold locB at h
  split at h <;> first | assumption | cases h
def swB (scope : Scope) (y : Str) : Bool := !(scope.names.any fun q => q.1 == y && (q.2 == .local || q.2 == .cell))
theorem Ctx.sw (c : Ctx X Wx P w K mg base N sc b k) {gs : List Comprehension} {l : Nat} (hl : (py.line == pos.line) = true) (hy : locB sc y = true) (h : swB scope y = true) (hln : l = l := by rfl) : swapsWith (.ListComp elt gs scope pos) (some (.Name y py)) l X.env = pure true :=
  sw_true (by rw [c.es]; exact c.kd) (by rw [c.es]; exact locB_ok hy) hl (by simpa [swB] using h)
theorem Ctx.swF (c : Ctx X Wx P w K mg base N sc b k) {gs : List Comprehension} {l : Nat} (h : (locB sc y && (py.line == pos.line) && swB scope y) = false := by rfl) : swapsWith (.ListComp elt gs scope pos) (some (.Name y py)) l X.env = pure false := by
  show (pure (X.env.blockKind == .function && X.env.kindOf y == some .local && py.line == (Expr.ListComp elt gs scope pos).pos.line && !(scope.names.any fun q => q.1 == y && (q.2 == .local || q.2 == .cell))) : Sem Bool) = pure false
  refine congrArg pure ?_
  have hk : (X.env.kindOf y == some .local) = locB sc y := by
    show (X.env.scope.names.lookup y == some .local) = _
    rw [c.es]
    unfold locB
    cases sc.names.lookup y with
    | none => rfl
    | some z => cases z <;> rfl
  rw [hk]
  have e : (Expr.ListComp elt gs scope pos).pos.line = pos.line := rfl
  rw [e]
  unfold swB at h
  cases h1 : locB sc y with
  | false => simp
  | true =>
    rw [h1] at h
    cases h2 : (py.line == pos.line) with
    | false => simp
    | true =>
      rw [h2] at h
      have h3 : (!(scope.names.any fun q => q.1 == y && (q.2 == .local || q.2 == .cell))) = false := by simpa using h
      rw [h3]
      simp
theorem Ctx.setLc (c : Ctx X Wx P w K mg base N sc b k) (i : Nat) (own : List (Str × Nat)) (hi : VI X Wx tg iter fi) (hg : ∀ {Y : Cx}, Ctx Y WN P w K mg base N (relS scope sc) (ownN scope) k → VG Y tg ws gt) (ht : ∀ {Y : Cx}, Ctx Y WN P w K mg base N (relS scope sc) (ownN scope) k → VTs Y WN ifs ft)
    (he : ∀ {Y : Cx}, Ctx Y WN P w K mg base N (relS scope sc) (ownN scope) k → VE Y WN elt fe) (nd : N.Nodup := by decide +kernel) (hy : N[i]? = some y := by rfl) (hyl : locB sc y = true := by rfl) (hl : (py.line == pos.line) = true := by rfl) (hsw : swB scope y = true := by rfl) (ok : blkC N sc scope own = true := by decide +kernel) (hk : scope.kind = .function := by rfl) (sub : ∀ i, i ∈ ws → i ∈ own.map (·.2) := by decide) (hs : ∀ x, foldedSetIterable iter X.env x = pure x := by intro _; rfl) :
    VS X Wx (.Assign [.Name y py] (.ListComp elt [⟨tg, iter, ifs, 0⟩] scope pos) spos) (sAsgM i (fLc fi gt ft fe (own.map (·.2)))) :=
  vs_setLc c.calm (by rw [c.eN]; exact nd) (c.nm hy) (by rw [c.es]; exact locB_ok hyl) (c.sw hl hyl hsw) hi (by rw [c.eN, c.es]; exact blkOk_by ok) sub (fun s H C cl fp => hg (c.blk s H scope C cl fp (blkOk_by ok).uniq hk)) (fun s H C cl fp => ht (c.blk s H scope C cl fp (blkOk_by ok).uniq hk)) (fun s H C cl fp => he (c.blk s H scope C cl fp (blkOk_by ok).uniq hk)) hs
theorem Ctx.setLcV (c : Ctx X Wx P w K mg base N sc b k) (i : Nat) (own : List (Str × Nat)) (hi : VI X Wx tg iter fi) (hg : ∀ {Y : Cx}, Ctx Y WN P w K mg base N (relS scope sc) (ownN scope) k → VG Y tg ws gt) (ht : ∀ {Y : Cx}, Ctx Y WN P w K mg base N (relS scope sc) (ownN scope) k → VTs Y WN ifs ft)
    (he : ∀ {Y : Cx}, Ctx Y WN P w K mg base N (relS scope sc) (ownN scope) k → VE Y WN elt fe) (nd : N.Nodup := by decide +kernel) (hy : N[i]? = some y := by rfl) (hyl : locB sc y = true := by rfl) (hl : (py.line == pos.line) = true := by rfl) (hsw : swB scope y = true := by rfl) (ok : blkC N sc scope own = true := by decide +kernel) (hk : scope.kind = .function := by rfl) (sub : ∀ i, i ∈ ws → i ∈ own.map (·.2) := by decide) (hs : ∀ x, foldedSetIterable iter X.env x = pure x := by intro _; rfl) :
    VS X Wx (.Assign [.Name y py] (.ListComp elt [⟨tg, iter, ifs, 0⟩] scope pos) spos) (sAsg i (fOfL (fLc fi gt ft fe (own.map (·.2))))) :=
  vs_setLcV c.calm (by rw [c.eN]; exact nd) (c.nm hy) (by rw [c.es]; exact locB_ok hyl) (c.sw hl hyl hsw) hi (by rw [c.eN, c.es]; exact blkOk_by ok) sub (fun s H C cl fp => hg (c.blk s H scope C cl fp (blkOk_by ok).uniq hk)) (fun s H C cl fp => ht (c.blk s H scope C cl fp (blkOk_by ok).uniq hk)) (fun s H C cl fp => he (c.blk s H scope C cl fp (blkOk_by ok).uniq hk)) hs
section
variable (c : Ctx X Wx P w K mg base N sc b k) (i : Nat) (own : List (Str × Nat)) (vs1 : List Nat) (hi : VI X Wx tg iter fi) (hg : ∀ {Y : Cx}, Ctx Y WN P w K mg base N (relS scope sc) (ownN scope) k → VG Y tg ws gt) (ht : ∀ {Y : Cx}, Ctx Y WN P w K mg base N (relS scope sc) (ownN scope) k → VTs Y WN ifs ft)
    (hi1 : ∀ {Y : Cx}, Ctx Y WN P w K mg base N (relS scope sc) (ownN scope) k → VI Y WN tg1 iter1 fi1) (hg1 : ∀ {Y : Cx}, Ctx Y WN P w K mg base N (relS scope sc) (ownN scope) k → VG Y tg1 ws1 gt1) (ht1 : ∀ {Y : Cx}, Ctx Y WN P w K mg base N (relS scope sc) (ownN scope) k → VTs Y WN ifs1 ft1)
    (he : ∀ {Y : Cx}, Ctx Y WN P w K mg base N (relS scope sc) (ownN scope) k → VE Y WN elt fe)
include c hi hg ht hi1 hg1 ht1 he
theorem Ctx.setLc2 (nd : N.Nodup := by decide +kernel) (hy : N[i]? = some y := by rfl) (hyl : locB sc y = true := by rfl) (hl : (py.line == pos.line) = true := by rfl) (hsw : swB scope y = true := by rfl) (ok : blkC N sc scope own = true := by decide +kernel) (hk : scope.kind = .function := by rfl) (sub : ∀ i, i ∈ ws → i ∈ own.map (·.2) := by decide) (sub1 : ∀ i, i ∈ ws1 → i ∈ vs1 := by decide) (sub2 : ∀ i, i ∈ vs1 → i ∈ own.map (·.2) := by decide)
    (hs : ∀ x, foldedSetIterable iter X.env x = pure x := by intro _; rfl) (hs1 : ∀ env x, foldedSetIterable iter1 env x = pure x := by intro _ _; rfl) :
    VS X Wx (.Assign [.Name y py] (.ListComp elt [⟨tg, iter, ifs, 0⟩, ⟨tg1, iter1, ifs1, 0⟩] scope pos) spos) (sAsgM i (fLc2 fi gt ft fi1 gt1 ft1 fe (own.map (·.2)) vs1)) :=
  vs_setLc2 c.calm (by rw [c.eN]; exact nd) hi (by rw [c.eN, c.es]; exact blkOk_by ok) sub sub1 sub2 (fun s H C cl fp => hg (c.blk s H scope C cl fp (blkOk_by ok).uniq hk)) (fun s H C cl fp => ht (c.blk s H scope C cl fp (blkOk_by ok).uniq hk)) (fun s H C cl fp => hi1 (c.blk s H scope C cl fp (blkOk_by ok).uniq hk)) (fun s H C cl fp => hg1 (c.blk s H scope C cl fp (blkOk_by ok).uniq hk)) (fun s H C cl fp => ht1 (c.blk s H scope C cl fp (blkOk_by ok).uniq hk)) (fun s H C cl fp => he (c.blk s H scope C cl fp (blkOk_by ok).uniq hk)) (c.nm hy) (by rw [c.es]; exact locB_ok hyl) (c.sw hl hyl hsw) hs hs1
theorem Ctx.setLc2V (nd : N.Nodup := by decide +kernel) (hy : N[i]? = some y := by rfl) (hyl : locB sc y = true := by rfl) (hl : (py.line == pos.line) = true := by rfl) (hsw : swB scope y = true := by rfl) (ok : blkC N sc scope own = true := by decide +kernel) (hk : scope.kind = .function := by rfl) (sub : ∀ i, i ∈ ws → i ∈ own.map (·.2) := by decide) (sub1 : ∀ i, i ∈ ws1 → i ∈ vs1 := by decide) (sub2 : ∀ i, i ∈ vs1 → i ∈ own.map (·.2) := by decide)
    (hs : ∀ x, foldedSetIterable iter X.env x = pure x := by intro _; rfl) (hs1 : ∀ env x, foldedSetIterable iter1 env x = pure x := by intro _ _; rfl) :
    VS X Wx (.Assign [.Name y py] (.ListComp elt [⟨tg, iter, ifs, 0⟩, ⟨tg1, iter1, ifs1, 0⟩] scope pos) spos) (sAsg i (fOfL (fLc2 fi gt ft fi1 gt1 ft1 fe (own.map (·.2)) vs1))) :=
  vs_setLc2V c.calm (by rw [c.eN]; exact nd) hi (by rw [c.eN, c.es]; exact blkOk_by ok) sub sub1 sub2 (fun s H C cl fp => hg (c.blk s H scope C cl fp (blkOk_by ok).uniq hk)) (fun s H C cl fp => ht (c.blk s H scope C cl fp (blkOk_by ok).uniq hk)) (fun s H C cl fp => hi1 (c.blk s H scope C cl fp (blkOk_by ok).uniq hk)) (fun s H C cl fp => hg1 (c.blk s H scope C cl fp (blkOk_by ok).uniq hk)) (fun s H C cl fp => ht1 (c.blk s H scope C cl fp (blkOk_by ok).uniq hk)) (fun s H C cl fp => he (c.blk s H scope C cl fp (blkOk_by ok).uniq hk)) (c.nm hy) (by rw [c.es]; exact locB_ok hyl) (c.sw hl hyl hsw) hs hs1
end
end
end
section
variable {X : Cx} {Wx : WX} {P : Program} {w : World} {K : PySem.W.Frag} {mg : Str → Option Value} {base : Heap} {N : List Str} {sc : Scope} {b : List Str} {k : Nat}
theorem Ctx.units (c : Ctx X Wx P w K mg base N sc b k) : X.A.units + 65 < cLine := by have := c.room.un; omega
theorem Ctx.oEq (c : Ctx X Wx P w K mg base N sc b k) : OpR X (compareOp .Eq) (fun x y H Q => rEq x y H Q ∨ rEqD X.K x y H Q) := OpR.or op_eq (op_eqD (by have := c.units; omega))
theorem Ctx.oNe (c : Ctx X Wx P w K mg base N sc b k) : OpR X (compareOp .NotEq) (fun x y H Q => rNe x y H Q ∨ rNeD X.K x y H Q) := OpR.or op_ne (op_neD (by have := c.units; omega))
theorem Ctx.oIn (c : Ctx X Wx P w K mg base N sc b k) : OpR X (compareOp .In) (fun x y H Q => rInL X.K x y H Q ∨ rInT X.K x y H Q ∨ rInS x y H Q) := OpR.or (op_inL c.units) (OpR.or (op_inT c.units) op_inS)
theorem Ctx.oNi (c : Ctx X Wx P w K mg base N sc b k) : OpR X (compareOp .NotIn) (fun x y H Q => rNotInL X.K x y H Q ∨ rNotInT X.K x y H Q ∨ rNotInS x y H Q) := OpR.or (op_notInL c.units) (OpR.or (op_notInT c.units) op_notInS)
end
theorem all_nil {α : Type} {p : α → Prop} : ∀ q ∈ ([] : List α), p q := fun _ m => by cases m
theorem all_cons {α : Type} {p : α → Prop} {a : α} {l : List α} (h : p a) (r : ∀ q ∈ l, p q) : ∀ q ∈ a :: l, p q := fun q m => by
  rcases List.mem_cons.mp m with e | m
  · rw [e]; exact h
  · exact r q m
section
variable {P : Program} {w : World} {K : PySem.W.Frag} {mg : Str → Option Value} {base : Heap} {j k : Nat} {f c : Str} {g : G}
theorem CallOk.mono (h : CallOk P w K mg base f j g) (l : j ≤ k := by decide) : CallOk P w K mg base f k g := by
  obtain ⟨a, F, r⟩ := h
  exact ⟨a, F.mono l, r⟩
theorem PropOk.mono (h : PropOk P w K mg base j f c g) (l : j ≤ k := by decide) : PropOk P w K mg base k f c g := by
  obtain ⟨cl, p, ga, fd, ps, n, po, F, r⟩ := h
  exact ⟨cl, p, ga, fd, ps, n, po, F.mono l, r⟩
theorem MethOk.mono (h : MethOk P w K mg base j f c g) (l : j ≤ k := by decide) : MethOk P w K mg base k f c g := by
  obtain ⟨cl, a, m, F⟩ := h
  exact ⟨cl, a, m, F.mono l⟩
theorem IterOk.mono (h : IterOk P w K mg base j c f) (l : j ≤ k := by decide) : IterOk P w K mg base k c f := by
  obtain ⟨cl, na, ⟨fi, h1, h2, F⟩, fl, h3, h4, L⟩ := h
  exact ⟨cl, na, ⟨fi, h1, h2, fun A outer s H a dx l fs zs hr => F A outer s H a dx l fs zs (hr.mono ‹_›)⟩, fl, h3, h4, FnR.mono L l⟩
end
/-! ### a def, by its facts -/
section
variable {P : Program} {w : World} {K : PySem.W.Frag} {mg : Str → Option Value} {base : Heap} {k : Nat} {d : Kd} {N ps : List Str} {b : FS} {x : Str}
/-- X runs a def's frame -/
structure FrOk (X : Cx) : Prop where
  stk : X.stack = X.env :: X.outer
  frm : X.env.frame = some X.env.locals
/-- the body's derivation in any surroundings that fit -/
def BodyOk (P : Program) (w : World) (K : PySem.W.Frag) (mg : Str → Option Value) (base : Heap) (N : List Str) (sc : Scope) (k : Nat) (body : List Stmt) (b : FS) : Prop :=
  ∀ {X : Cx} {Wx : WX}, Ctx X Wx P w K mg base N sc (ownN sc) k → PassesOwn (model X.prog X.w) X.A X.env X.xe → FrOk X → VSs X Wx body b
theorem Kd.runs (F : KdF K d) (hd : d.dfl = []) (Sc : FnScope N ps d.scope) (bd : ∀ (kV doc pm : Value) (an : Option Addr) (cdv ct : Value) (us : List Value), us.length = ps.length → bindArgs (PySem.W.fnOf d.name d.qual d.params d.body d.scope .none kV doc pm an cdv ct) ⟨us, []⟩ = pure (ps.zip us))
    (hb : BodyOk P w K mg base N d.scope k d.body b) : ∃ fd, FnOk P w K mg base (L2.CX P w) (k + 1) (d.at_.adr K) fd ps (spV K ps.length (run ps.length N.length b)) ∧ Binds K fd ps [] ∧ PySem.W.keepIn K (.ref (d.at_.adr K)) = true ∧ (∀ (s : Shared) (us : List Value), us.length = ps.length → BindsTo s fd ⟨us, []⟩ (ps.zip us)) := by
  obtain ⟨fd, FD⟩ := F
  rw [hd] at FD
  refine ⟨fd, fn_run FD Sc fun X Wx eP ew eK em eb eN es hc hr tk hp hst hfr hfn => ?_, FD.bindsN bd, FD.kp, fun s us hl => FD.bindsA bd s us hl⟩
  exact hb ⟨eP, ew, eK, em, eb, eN, es, hc, hr, tk, fun x h => ⟨ownN_loc h, .inl (by rw [hfn])⟩, Sc.kind⟩ hp ⟨hst, hfr⟩
theorem Kd.call (F : KdF K d) (hd : d.dfl = []) (Sc : FnScope N ps d.scope) (bd : ∀ (kV doc pm : Value) (an : Option Addr) (cdv ct : Value) (us : List Value), us.length = ps.length → bindArgs (PySem.W.fnOf d.name d.qual d.params d.body d.scope .none kV doc pm an cdv ct) ⟨us, []⟩ = pure (ps.zip us))
    (hb : BodyOk P w K mg base N d.scope k d.body b) (hat : d.at_ = .glo x) (hm : mg x = some (.ref (He.ga K x))) : CallOk P w K mg base x (k + 1) (run ps.length N.length b) := by
  obtain ⟨fd, ok, bn, kp, _⟩ := Kd.runs F hd Sc bd hb
  rw [hat] at ok kp
  exact ⟨He.ga K x, Fn.of ok (run_ar _ _ _) bn, hm, kp⟩
theorem Kd.make (F : KdF K d) (hd : d.dfl = []) (Sc : FnScope N ps d.scope) (bd : ∀ (kV doc pm : Value) (an : Option Addr) (cdv ct : Value) (us : List Value), us.length = ps.length → bindArgs (PySem.W.fnOf d.name d.qual d.params d.body d.scope .none kV doc pm an cdv ct) ⟨us, []⟩ = pure (ps.zip us))
    (hb : BodyOk P w K mg base N d.scope k d.body b) (hat : d.at_ = .meth x "__init__") (M : Mk K (He.ga K x) (He.ma K (He.ga K x) "__init__")) (hm : mg x = some (.ref (He.ga K x))) : MakeOk P w K mg base x (k + 1) (run ps.length N.length b) := by
  obtain ⟨fd, ok, bn, kp, _⟩ := Kd.runs F hd Sc bd hb
  rw [hat] at ok kp
  exact ⟨_, Fn.of ok (run_ar _ _ _) bn, M, hm⟩
theorem Kd.makeS {pv : Str} (F : KdF K d) (hd : d.dfl = []) (Sc : FnScope N (ps ++ [pv]) d.scope) (bd : ∀ (kV doc pm : Value) (an : Option Addr) (cdv ct : Value) (us rest : List Value), us.length = ps.length → bindArgs (PySem.W.fnOf d.name d.qual d.params d.body d.scope .none kV doc pm an cdv ct) ⟨us ++ rest, []⟩ = (newTuple rest >>= fun t => pure (ps.zip us ++ [(pv, t)])))
    (hb : BodyOk P w K mg base N d.scope k d.body b) (hat : d.at_ = .meth x "__init__") (M : Mk K (He.ga K x) (He.ma K (He.ga K x) "__init__")) (hm : mg x = some (.ref (He.ga K x))) : MakeOk P w K mg base x (k + 1) (gStar ps.length (run (ps.length + 1) N.length b)) := by
  obtain ⟨fd, FD⟩ := F
  rw [hd] at FD
  have ok : Fn P w K mg base (k + 1) (d.at_.adr K) _ := fn_runStar FD Sc bd fun X Wx eP ew eK em eb eN es hc hr tk hp hst hfr hfn => hb ⟨eP, ew, eK, em, eb, eN, es, hc, hr, tk, fun x h => ⟨ownN_loc h, .inl (by rw [hfn])⟩, Sc.kind⟩ hp ⟨hst, hfr⟩
  rw [hat] at ok
  exact ⟨_, ok, M, hm⟩
theorem Kd.meth {c m : Str} (F : KdF K d) (hd : d.dfl = []) (Sc : FnScope N ps d.scope) (bd : ∀ (kV doc pm : Value) (an : Option Addr) (cdv ct : Value) (us : List Value), us.length = ps.length → bindArgs (PySem.W.fnOf d.name d.qual d.params d.body d.scope .none kV doc pm an cdv ct) ⟨us, []⟩ = pure (ps.zip us))
    (hb : BodyOk P w K mg base N d.scope k d.body b) (hat : d.at_ = .meth c m) (cl : Cls K (He.ga K c)) (mt : Meth K (He.ga K c) m (He.ma K (He.ga K c) m)) : MethOk P w K mg base (k + 1) m c (run ps.length N.length b) := by
  obtain ⟨fd, ok, bn, kp, _⟩ := Kd.runs F hd Sc bd hb
  rw [hat] at ok kp
  exact ⟨cl, _, mt, Fn.of ok (run_ar _ _ _) bn⟩
theorem Kd.prop {c m : Str} (F : KdF K d) (hd : d.dfl = []) (Sc : FnScope N ps d.scope) (bd : ∀ (kV doc pm : Value) (an : Option Addr) (cdv ct : Value) (us : List Value), us.length = ps.length → bindArgs (PySem.W.fnOf d.name d.qual d.params d.body d.scope .none kV doc pm an cdv ct) ⟨us, []⟩ = pure (ps.zip us))
    (hb : BodyOk P w K mg base N d.scope k d.body b) (hat : d.at_ = .prop c m) (cl : Cls K (He.ga K c)) (po : PropOf K (He.ga K c) m (He.ma K (He.ga K c) m) ((Pl.prop c m).adr K)) : PropOk P w K mg base (k + 1) m c (run ps.length N.length b) := by
  obtain ⟨fd, ok, bn, kp, _⟩ := Kd.runs F hd Sc bd hb
  rw [hat] at ok kp
  exact ⟨cl, _, _, fd, ps, ps.length, po, ok, run_ar _ _ _, bn⟩
end
end VL
namespace VL
open PySem PySem.Spec PyProof.Rows L2
theorem isi_cls {K : PySem.W.Frag} {C : Addr} (h : ∀ a ∈ tyNames, PySem.W.kitOne K (.type a) (.ref C) = some false) {l : List (Str × Bool)} (hl : ∀ q ∈ l, C8.InsC K (He.ga K q.1) ∧ PySem.W.kitOne K (.ref (He.ga K q.1)) (.ref C) = some q.2) : IsiOk K (.ref C) (fun _ => false) (fun c => List.lookup c l) :=
  ⟨h, fun c b e => hl (c, b) (mem_lookup2 e)⟩
end VL
set_option maxRecDepth 100000
set_option maxHeartbeats 2000000
namespace VL
open PySem PySem.Spec PyProof.Rows L2

/-! ### the law's def -/
section
variable {P : Program} {w : World} {K : PySem.W.Frag} {mg : Str → Option Value} {k : Nat} {d : Kd} {N ps : List Str} {b : FS}
theorem Kd.runsA (F : KdF K d) (hd : d.dfl = []) (Sc : FnScope N ps d.scope) (bd : ∀ (kV doc pm : Value) (an : Option Addr) (cdv ct : Value) (us : List Value), us.length = ps.length → bindArgs (PySem.W.fnOf d.name d.qual d.params d.body d.scope .none kV doc pm an cdv ct) ⟨us, []⟩ = pure (ps.zip us))
    (hb : ∀ base : Heap, BodyOk P w K mg base N d.scope k d.body b) : ∃ fd, (∀ base : Heap, FnOk P w K mg base (L2.CX P w) (k + 1) (d.at_.adr K) fd ps (spV K ps.length (run ps.length N.length b))) ∧ (∀ (s : Shared) (us : List Value), us.length = ps.length → BindsTo s fd ⟨us, []⟩ (ps.zip us)) := by
  obtain ⟨fd, FD⟩ := F
  rw [hd] at FD
  refine ⟨fd, fun base => fn_run FD Sc fun X Wx eP ew eK em eb eN es hc hr tk hp hst hfr hfn => ?_, fun s us hl => FD.bindsA bd s us hl⟩
  exact hb base ⟨eP, ew, eK, em, eb, eN, es, hc, hr, tk, fun x h => ⟨ownN_loc h, .inl (by rw [hfn])⟩, Sc.kind⟩ hp ⟨hst, hfr⟩
theorem rol_rp {F : Addr → Prop} {H : Hp} : ∀ (ns : List Int), RpL K F H (ns.map D.int) (ns.map V.int)
  | [] => .nil
  | n :: ns => .cons (.int n) (rol_rp ns)
/-- the law's promise from what its function answers -/
theorem law_sp {g : G} {H : Hp} {a : Addr} {ns : List Int} (hS : SqL K H a (ns.map V.int)) {as' : Ls} {h' : Hs} (e : g [.v (.rol (ns.map D.int))] [] = .ok (.v (.bl true)) as' h') : spV K 1 g [.ref a] H (fun v _ => v = .bl true) (fun _ _ _ => False) := by
  have go : ∀ F : Addr → Prop, (∀ b, F b → ∃ o, H b = some o) → Rp K F H (.rol (ns.map D.int)) (.ref a) → spV K 1 g [.ref a] H (fun v _ => v = .bl true) (fun _ _ _ => False) := fun F fk rp => by
    refine ⟨rfl, [], F, [.v (.rol (ns.map D.int))], [], ⟨⟨rfl, List.nodup_nil, fun n a o q => by simp at q, fk⟩, rfl, fun i x q => ?_, fun i j c ⟨b, d, q, _⟩ => ?_⟩, fun d m => by simp at m, ?_⟩
    · cases i with
      | zero =>
        simp at q
        subst q
        exact .inr ⟨.ref a, rfl, rp⟩
      | succ i => simp at q
    · cases i with
      | zero => simp at q
      | succ i => simp at q
    · rw [e]
      intro v ι' F' H' A S' ao r
      cases (show Rp K F' H' (.bl true) v from r)
      rfl
  rcases hS with h | h
  · refine go (fun b => b = a) (fun b e => ?_) (.rol rfl h (rol_rp ns))
    subst e
    rcases h with h | ⟨o, h⟩
    · exact ⟨_, h⟩
    · exact ⟨_, h⟩
  · exact go (fun _ => False) (fun b z => z.elim) (.rolK h (rol_rp ns))
theorem FnOk.nox {base : Heap} {f : Addr} {fd : FuncData} {sp : Sp} (F : FnOk P w K mg base (L2.CX P w) k f fd ps sp) : FnOk P w K mg base CX0 k f fd ps (fun vs H Q _ => sp vs H Q fun _ _ _ => False) :=
  ⟨fun vs H Q E h => F.len vs H Q _ h, fun A outer s H args us vs Q E hr e0 hb r hs => codeAny_mono (F.run A outer s H args us vs Q _ hr e0 hb r hs) fun out s' hq => by
    match out, hq with
    | .error e, ⟨_, _, _, _, _, _, _, _, _, _, _, _, z⟩ => exact z
    | .ok (.ret u), hq => exact hq⟩
end
end VL
set_option maxRecDepth 100000
set_option maxHeartbeats 2000000
/-! own errors over ValueError whose __init__ says super().__init__('..') and stores its parameters -/
namespace VL
open PySem PySem.Spec PySem.Calls PyProof.Rows L2
open PySem.W (Frag)

theorem lk_mem {β : Type} {y : Str} {v : β} : ∀ {l : List (Str × β)}, (y, v) ∈ l → (∀ v', (y, v') ∈ l → v' = v) → l.lookup y = some v
  | (z, u) :: l, h, q => by
    by_cases e : y = z
    · subst e
      rw [q u List.mem_cons_self]
      simp [List.lookup]
    · have e2 : (y == z) = false := by simpa using e
      have h2 : (y, v) ∈ l := by
        rcases List.mem_cons.mp h with h | h
        · exact absurd (congrArg Prod.fst h) e
        · exact h
      have := lk_mem h2 fun v' hv => q v' (List.mem_cons_of_mem _ hv)
      simp only [List.lookup, e2]
      exact this
theorem zip_un {β : Type} : ∀ {ns : List Str} {vs : List β} {y : Str} {v v' : β}, ns.Nodup → (y, v) ∈ ns.zip vs → (y, v') ∈ ns.zip vs → v' = v
  | n :: ns, u :: vs, y, v, v', hn, h, h' => by
    rw [List.zip_cons_cons] at h h'
    obtain ⟨h1, h2⟩ := List.nodup_cons.mp hn
    rcases List.mem_cons.mp h with h | h <;> rcases List.mem_cons.mp h' with h' | h'
    · injection h with a b
      injection h' with a' b'
      rw [b, b']
    · injection h with a b
      exact absurd (a ▸ (List.of_mem_zip h').1) h1
    · injection h' with a b
      exact absurd (a ▸ (List.of_mem_zip h).1) h1
    · exact zip_un h2 h h'
theorem lk_zip {β : Type} {ns : List Str} {vs : List β} {y : Str} {v : β} (hn : ns.Nodup) (h : (y, v) ∈ ns.zip vs) : (ns.zip vs).reverse.lookup y = some v :=
  lk_mem (List.mem_reverse.mpr h) fun v' h' => zip_un hn h (List.mem_reverse.mp h')
theorem zip_has {β : Type} : ∀ {ns : List Str} {vs : List β} {y : Str}, ns.length = vs.length → y ∈ ns → ∃ v, (y, v) ∈ ns.zip vs
  | n :: ns, u :: vs, y, hl, h => by
    rcases List.mem_cons.mp h with h | h
    · exact ⟨u, by rw [h, List.zip_cons_cons]; exact List.mem_cons_self⟩
    · obtain ⟨v, hv⟩ := zip_has (vs := vs) (by simpa using hl) h
      exact ⟨v, by rw [List.zip_cons_cons]; exact List.mem_cons_of_mem _ hv⟩
abbrev Sto := Str × Pos × Pos × Pos × Pos
/-- self.f = f, .. -/
def storesOf : List Sto → List Stmt
  | [] => []
  | (f, a, b, c, d) :: r => .Assign [.Attribute (.Name "self" a) f b] (.Name f c) d :: storesOf r
def supOf (txt : Str) (n : Nat) (p0 p1 p2 p3 p4 p5 : Pos) : Stmt := .Expr (.Call (.Attribute (.Call (.Name "super" p0) [] [] p1) "__init__" p2) [.Constant (.str txt) n p5] [] p3) p4
section
variable {prog : Program} {w : World} {A : Around} {E : Value → Shared → Prop} {K : Frag} {C x L dx : Addr} {cd : ClassData} {env : Env} {m : Str → Option Value}
/-- the wrapper of ValueError.__init__ called -/
theorem call_mw {h : Heap} {g : Array GenState} {d : Drawn} {t : Nat} {os : OsState} {nm q : Str} {N : Addr} {bs bm : List Value} {hdct : Bool} {sn : List Str} {sub : List Value} {ab : Bool} {col : Option Bool} {dd : Option Addr} {k0 k1 k2 k3 k5 : Option Value}
    {u e t0 : Addr} {rest : List Value} {Q : Value → Shared → Prop}
    (hC : h.get? C = some (excClassObj nm q C N bs bm hdct sn sub ab col dd k0 k1 k2 k3 k5 "ValueError.__new__")) (he : h.get? e = some (HandSPX.excO C t0)) (hu : PySem.W.KxsAt "ValueError.__init__" u e h) (hz : rest.length ≤ sizeLine)
    (hq : ∀ h' t1, (∀ b o, b ≠ e → h.get? b = some o → h'.get? b = some o) → h'.get? e = some (HandSPX.excO C t1) → Q .none ⟨h', g, d, t, os⟩) :
    wpAny (model prog w) A (call (.ref u) rest) Q E ⟨h, g, d, t, os⟩ := by
  refine wpAny_call (codeAny_of_tree ?_)
  show wpAny _ A.in1 (callAny (.ref u) ⟨rest, []⟩) _ _ _
  simp only [callAny]
  refine wpAny_bind (wpAny_load hu ?_)
  simp only [PySem.W.kxs_mw]
  refine PySem.W.KFB.if_so (by decide) ?_
  refine wpAny_bind (ESX.check_bound F.excBase_ValueError hC he rfl (wpAny_bind (wpAny_pure (wpAny_pure ⟨Code.quiet_builtin _ (by decide +kernel), ?_⟩))))
  refine codeAny_builtin F.excBase_ValueError.initEntry ?_
  rw [Around.under_plainId F.excBase_ValueError.init.plain _]
  wp_walk
  exact hq _ h.objs.size (fun b o hb ho => (Heap.get?_update_other _ _ (Ne.symm hb)).trans (Heap.get?_push_of_some _ ho)) (Heap.get?_update_self _ (Heap.get?_push_of_some _ he) rfl)
theorem in_but {h h' : Heap} {b : Addr} (X : K.In h) (hb : K.lookup b = none) (k : ∀ c o, c ≠ b → h.get? c = some o → h'.get? c = some o) : K.In h' := fun a o e => k a o (fun z => by rw [z, hb] at e; cases e) (X a o e)
theorem ns_but {h h' : Heap} {b : Addr} (hn : h.Ns L m) (ne : L ≠ b) (k : ∀ c o, c ≠ b → h.get? c = some o → h'.get? c = some o) : h'.Ns L m := by
  obtain ⟨o, es, ep, ho, r⟩ := hn
  exact ⟨o, es, ep, k _ _ ne ho, r⟩
def addsTo (m : Str → Option Value) : List Sto → (Str → Option Value) → Str → Option Value
  | [], m0 => m0
  | (f, _) :: r, m0 => addsTo m r fun y => if y = f then some ((m f).getD .none) else m0 y
/-- the later stores: the dict is there -/
theorem st_more (hcd : PySem.W.clsIn K C = some cd) (hm : HandSPX.refsVE cd.mro = true) (hh : cd.hasDict = true) (sa : PySem.W.findIn K (.ref C) "__setattr__" = some (some (.builtin "object.__setattr__"))) (hk : env.scope.kind = .function)
    (hself : env.kindOf "self" = some .local) (mself : m "self" = some (.ref x)) (hxL : env.locals ≠ dx) (hKd : K.lookup dx = none) {Q : Flow → Shared → Prop} {fv : Array Value} :
    ∀ (fs : List Sto) (m0 : Str → Option Value) (nl : List Str) (s : Shared), K.In s.heap → s.heap.Ns env.locals m → s.heap.get? x = some { cls := .ref C, dict := some dx, data := .fields fv } → x ≠ dx → s.heap.Ns1 dx m0 → Within m0 nl → nl.length + fs.length ≤ 900 →
      (∀ q ∈ fs, PySem.W.findIn K (.ref C) q.1 = some none ∧ env.kindOf q.1 = some .local ∧ (q.1 == ("__debug__" : Str)) = false ∧ ∃ v, m q.1 = some v) →
      (∀ h' tk, (∀ b o, b ≠ dx → s.heap.get? b = some o → h'.get? b = some o) → h'.Ns1 dx (addsTo m fs m0) → Q .next { s with heap := h', toks := tk }) →
      wpAny (model prog w) A (execs (storesOf fs) env) Q E s
  | [], m0, nl, s, X, hn, hx, nx, hd, wi, hl, hf, hq => wpAny_execs_nil (hq s.heap s.toks (fun _ _ _ z => z) hd)
  | (f, a, b, c, d) :: r, m0, nl, s, X, hn, hx, nx, hd, wi, hl, hf, hq => by
    obtain ⟨no, kf, nd, v, mv⟩ := hf (f, a, b, c, d) List.mem_cons_self
    refine wpAny_execs_cons (plainObj_wpAny_Assign_Attribute ?_)
    refine wpAny_Name (wpAny_loadName_local hk kf hn mv (wpAny_Name (wpAny_loadName_local hk hself hn mself ?_) (by decide))) nd
    obtain ⟨oD, esD, epD, hoD, hdD, _⟩ := hd.count wi
    have hl1 : nl.length ≤ 1000 := by simp only [List.length_cons] at hl; omega
    have hl2 : (f :: nl).length + r.length ≤ 900 := by simp only [List.length_cons] at hl ⊢; omega
    have I : PySem.W.InstAt s.heap x { cls := .ref C, dict := some dx, data := .fields fv } C (some oD) := ⟨hx, rfl, rfl, hoD⟩
    obtain ⟨hp, g, dr, tk, os⟩ := s
    refine PySem.W.set_plain X I sa ?_
    refine OEX.osa_old X hx hd wi hl1 hcd hm hh no fun h' tk' k hd' => ?_
    have hn' : h'.Ns env.locals m := ns_but hn hxL k
    refine st_more hcd hm hh sa hk hself mself hxL hKd r (fun y => if y = f then some v else m0 y) (f :: nl) ⟨h', g, dr, tk', os⟩ (in_but X hKd k) hn' (k _ _ nx hx) nx hd' (Within.cons f v wi) hl2 (fun q hm => hf q (List.mem_cons_of_mem _ hm)) fun h2 tk2 k2 hd2 => hq h2 tk2 (fun b o hb e => k2 b o hb (k b o hb e)) ?_
    show h2.Ns1 dx (addsTo m r fun y => if y = f then some ((m f).getD .none) else m0 y)
    rw [mv]
    exact hd2
end
theorem call_sup {env : Env} {txt : Str} {n : Nat} {p0 p1 p2 p3 p5 : Pos} (hl : (p2.endLine == p3.line) = true) : eval (.Call (.Attribute (.Call (.Name "super" p0) [] [] p1) "__init__" p2) [.Constant (.str txt) n p5] [] p3) env = (do
      let ov ← attributeBase (.Call (.Name "super" p0) [] [] p1) "__init__" env (eval (.Call (.Name "super" p0) [] [] p1) env)
      standAt p2.atName
      let (f, first) ← holding [ov] (getMethod ov "__init__" (do return (← importBound (.Call (.Name "super" p0) [] [] p1) env).getD true))
      callWith p3 f first (backTo p3 (starEach [.Constant (.str txt) n p5] env)) []) := by
  have e : methodCallPos true (.Call (.Name "super" p0) [] [] p1) env p2 p3 = pure p3 := by
    unfold methodCallPos
    rw [hl]
    rfl
  have e2 : ∀ ov, methodCall (.Call (.Name "super" p0) [] [] p1) "__init__" p2 p3 env ov 1 (backTo p3 (starEach [.Constant (.str txt) n p5] env)) [] = (do
      let (f, first) ← holding [ov] (getMethod ov "__init__" (do return (← importBound (.Call (.Name "super" p0) [] [] p1) env).getD true))
      callWith p3 f first (backTo p3 (starEach [.Constant (.str txt) n p5] env)) []) := fun ov => by
    show (do
      let (f, first) ← holding [ov] (getMethod ov "__init__" (do return (← importBound (.Call (.Name "super" p0) [] [] p1) env).getD true))
      let callPos ← methodCallPos true (.Call (.Name "super" p0) [] [] p1) env p2 p3
      callWith callPos f first (backTo p3 (starEach [.Constant (.str txt) n p5] env)) []) = _
    rw [e]
    simp only [pure_bind]
  show (do
      let ov ← attributeBase (.Call (.Name "super" p0) [] [] p1) "__init__" env (eval (.Call (.Name "super" p0) [] [] p1) env)
      standAt p2.atName
      methodCall (.Call (.Name "super" p0) [] [] p1) "__init__" p2 p3 env ov 1 (backTo p3 (starEach [.Constant (.str txt) n p5] env)) []) = _
  simp only [e2]
/-- what the written part says of an own error x, at C: its __init__, at fI, with its cell and its code -/
structure Xc (prog : Program) (K : Frag) (mg : Str → Option Value) (x : Str) (txt : Str) (fs : List Sto) (C fI : Addr) : Prop where
  gC : mg x = some (.ref C)
  oex : OexC K C
  ga : PySem.W.findIn K (.ref C) "__getattribute__" = some (some (.builtin "BaseException.__getattribute__"))
  gg : PySem.W.findIn K (.ref C) "__getattr__" = some none
  noF : ∀ q ∈ fs, PySem.W.findIn K (.ref C) q.1 = some none
  hdC : PySem.W.hasDictIn K C = true
  iC : PySem.W.findIn K (.ref C) "__init__" = some (some (.ref fI))
  tI : PySem.W.typeIn K (.ref fI) = some (.type "function")
  fn : ∃ (oc : Value) (od : Option Addr) (name q : Str) (params : Arguments) (scope : Scope) (dV kV doc pm : Value) (an : Option Addr) (ct : Value) (osl : Array (Option Value)) (cc cda : Addr) (n : Nat) (p0 p1 p2 p3 p4 p5 : Pos),
    K.lookup fI = some ⟨oc, od, .func (PySem.W.ksFn name q params (supOf txt n p0 p1 p2 p3 p4 p5 :: storesOf fs) scope dV kV doc pm an (.ref cda) ct cc), osl⟩ ∧ PySem.W.codeIn K (.ref cda) q = true ∧
    (∀ us : List Value, us.length = fs.length + 1 → bindArgs (PySem.W.ksFn name q params (supOf txt n p0 p1 p2 p3 p4 p5 :: storesOf fs) scope dV kV doc pm an (.ref cda) ct cc) ⟨us, []⟩ = pure ((("self" : Str) :: fs.map (·.1)).zip us)) ∧
    (∃ ar, (params.posonlyargs ++ params.args).head? = some ar ∧ ar.arg = "self") ∧
    (∃ ccl cdd vs ccs file tf, K.lookup cda = some ⟨ccl, cdd, .fields vs, ccs⟩ ∧ vs[2]? = some (.str file tf) ∧ ((prog.main.file : Str) == file) = true) ∧
    (∃ cl cld csl, K.lookup cc = some ⟨cl, cld, .cell (some (.ref C)), csl⟩) ∧
    scope.names.lookup ("super" : Str) = some .globalImplicit ∧ scope.names.lookup ("__class__" : Str) = some .free ∧ (∀ y ∈ ("self" : Str) :: fs.map (·.1), scope.names.lookup y = some .local) ∧ (∀ y ∈ scope.names, y.2 ≠ .cell) ∧
    scope.kind = .function ∧ scope.isCoroutine = false ∧ scope.isGenerator = false ∧ (p2.endLine == p3.line) = true
  sup : PySem.W.ks_superIn K C C "__init__" = some (some (.builtin "ValueError.__init__"))
  subB : PySem.W.subIn K (.ref C) (.type "ValueError") = some true
  mro : PySem.W.mroIn K C (.ref C) = some true
  any : PySem.W.nsIn K cStatics "thirdparty.any" = some none
  nosup : mg "super" = none
  top : (prog.main.scope.names.lookup ("super" : Str)).isSome = false
  nd : ((("self" : Str) :: fs.map (·.1)).Nodup)
  dbg : ∀ q ∈ fs, (q.1 == ("__debug__" : Str)) = false
  le : fs.length ≤ 100
/-- what __init__ leaves of a fresh error at x -/
structure XEnd (h h' : Heap) (x C dx t1 : Addr) (mA : Str → Option Value) : Prop where
  keep : ∀ b o, b ≠ x → h.get? b = some o → h'.get? b = some o
  obj : h'.get? x = some { cls := .ref C, dict := some dx, data := .fields #[.ref t1, .none, .none, .none, .bool false, .none] }
  dbig : h.objs.size ≤ dx
  dne : dx ≠ x
  ns : h'.Ns1 dx mA
section
variable {prog : Program} {w : World} {A : Around} {R : Result → Shared → Prop} {s : Shared} {K : Frag} {mg : Str → Option Value} {C fI x : Addr} {nm txt : Str} {f1 : Sto} {fs : List Sto}
theorem err_init (T : Xc prog K mg nm txt (f1 :: fs) C fI) {t0 : Addr} {us : List Value} (X : K.In s.heap) (hg : s.heap.Ns mainGlobals mg) (hb : ∃ mb, s.heap.Ns builtinsNs mb ∧ ∀ y : Str, y ≠ "__name__" → mb y = bootBuiltins y) (hlim : s.heap.NoLimit)
    (hx : s.heap.get? x = some (HandSPX.excO C t0)) (hnx : K.lookup x = none) (hl : us.length = (f1 :: fs).length) (hroom : A.depth < recursionLimit)
    (hq : ∀ h' tk dx t1, XEnd s.heap h' x C dx t1 (addsTo (fun y => ((("self" : Str) :: (f1 :: fs).map (·.1)).zip (.ref x :: us)).reverse.lookup y) (f1 :: fs) fun _ => none) → R (.ok (.ret .none)) { s with heap := h', toks := tk }) :
    codeAny (model prog w) A (.call (.ref fI) ⟨.ref x :: us, []⟩) R s := by
  obtain ⟨oc, od, name, q, params, scope, dV, kV, doc, pm, an, ct, osl, cc, cda, n, p0, p1, p2, p3, p4, p5, ho, hcd, hbind, ⟨ar, hp, har⟩, ⟨ccl, cdd, vs, ccs, file, tf, hcode, hvs, hfile⟩, ⟨cl, cld, csl, hcell⟩, hks, hkc, hloc, hnc, hk, hco, hgen, hline⟩ := T.fn
  obtain ⟨cn, qn, N, bs, bm, sn, sub, ab, col, dd, k0, k1, k2, k3, k5, hC, hbm⟩ := T.oex.cls
  have hcl : PySem.W.clsIn K C = some { name := cn, bases := bs, mro := .ref C :: bm, ns := N, qualname := qn, hasDict := true, slotNames := sn, subclasses := sub, abstract := ab, collection := col, hasDel := false } := by unfold PySem.W.clsIn; rw [hC] <;> rfl
  refine ks_codeAny_call_defAt (binds := (("self" : Str) :: (f1 :: fs).map (·.1)).zip (.ref x :: us)) hroom (X _ _ ho) rfl hlim (PySem.W.codeRec_of X hcd) rfl (BindsTo.of_eq (hbind (.ref x :: us) (by rw [List.length_cons, hl]))) hnc
    (fun y hy => hloc y.1 (List.of_mem_zip hy).1) (fun h0 hns hk0 => ?_) hco hgen hk
  have hsz : x < s.heap.objs.size := Heap.lt_size hx
  have X0 : K.In h0 := X.keeps hk0
  have hx0 := hk0 _ _ hx
  have hI0 : PySem.W.InstAt h0 x (HandSPX.excO C t0) C none := ⟨hx0, rfl, rfl, trivial⟩
  have hCn : C ≠ x := fun z => by rw [z, hnx] at hC; cases hC
  generalize hm : (fun y => ((("self" : Str) :: (f1 :: fs).map (·.1)).zip (.ref x :: us)).reverse.lookup y) = m at hns hq
  obtain ⟨mb, hb1, hb2⟩ := hb
  obtain ⟨oD, hD1, hD2⟩ : ∃ oD, h0.get? C = some oD ∧ oD.data = .cls { name := cn, bases := bs, mro := .ref C :: bm, ns := N, qualname := qn, hasDict := true, slotNames := sn, subclasses := sub, abstract := ab, collection := col, hasDel := false } := ⟨_, X0 _ _ hC, rfl⟩
  have hself : m "self" = some (.ref x) := by
    rw [← hm]
    exact lk_zip T.nd (by rw [List.zip_cons_cons]; exact List.mem_cons_self)
  show _root_.PySem.wpAt (model prog w) (A.deeper (PySem.W.ksEnv q scope s.heap.objs.size fI (.ref cda) cc)) (.func (supOf txt n p0 p1 p2 p3 p4 p5 :: storesOf (f1 :: fs)) (PySem.W.ksEnv q scope s.heap.objs.size fI (.ref cda) cc))
    (execs (.Expr (.Call (.Attribute (.Call (.Name "super" p0) [] [] p1) "__init__" p2) [.Constant (.str txt) n p5] [] p3) p4 :: storesOf (f1 :: fs)) (PySem.W.ksEnv q scope s.heap.objs.size fI (.ref cda) cc)) _ _ _
  refine ks_wpAt_execs_cons ?_
  have hint : interactive (PySem.W.ksEnv q scope s.heap.objs.size fI (.ref cda) cc) = false := by
    show (scope.kind == _ && _) = false
    rw [hk]
    rfl
  refine ks_wpAt_Expr_any ?_ (hi := hint)
  refine ks_wpAt_MethodCall ?_ (he := call_sup hline)
  refine ks_wpAt_super_base (env := PySem.W.ksEnv q scope s.heap.objs.size fI (.ref cda) cc) hks hkc (by decide) rfl (X0 _ _ ho) rfl hp rfl (X0 _ _ hcode) rfl hvs hfile T.top ?_
  have hg0 : h0.Ns mainGlobals mg := hg.keeps hk0
  refine PySem.W.ks_loadName_global hk hks (loadGlobal_builtin (env := PySem.W.ksEnv q scope s.heap.objs.size fI (.ref cda) cc) hg0 T.nosup (hb1.keeps hk0) ((hb2 "super" (by decide)).trans (by decide +kernel)) ⟨rfl, ?_⟩)
  refine wpAny_loadName_free hk hkc rfl ⟨_, X0 _ _ hcell, rfl⟩ ?_
  rw [har]
  refine wpAny_loadName_local hk (hloc "self" List.mem_cons_self) hns hself ?_
  refine ks_wpAny_isType_cls hD1 hD2 ⟨rfl, ?_⟩
  refine ks_wpAny_call_super hD1 hD2 hI0.at_ hI0.cls (fun c e => by cases e) (PySem.W.looks_mroIn X0 T.mro) (fun h1 e1 k1 => ?_)
  have X1 : K.In h1 := X0.keeps k1
  have hI1 : PySem.W.InstAt h1 x (HandSPX.excO C t0) C none := ⟨k1 _ _ hx0, rfl, rfl, trivial⟩
  have hal : PySem.W.alongIn K "__init__" (((Value.ref C :: bm).dropWhile (· != .ref C)).drop 1) = some (some (.builtin "ValueError.__init__")) := by
    have e := T.sup
    unfold PySem.W.ks_superIn at e
    rw [hcl] at e
    exact e
  refine PySem.W.kxs_getMethod PySem.W.kxs_ValueError e1 (PySem.W.looks_opaque X1 T.any) (l₀ := .ref C :: bm) ((PySem.W.looks_clsIn X1 hcl).andThen .now) rfl X1 hal (hI1.type.andThen (PySem.W.looks_subIn X1 T.subB)) hCn.symm (by decide) ?_
  have k2 : ∀ b o, h1.get? b = some o → (h1.push (PySem.W.kxs_mw "ValueError.__init__" x)).get? b = some o := fun b o e => Heap.get?_push_of_some _ e
  have hu : (h1.push (PySem.W.kxs_mw "ValueError.__init__" x)).get? h1.objs.size = some (PySem.W.kxs_mw "ValueError.__init__" x) := Heap.get?_push_at rfl rfl
  have X2 := X1.keeps k2
  refine PySem.W.kxs_callWith (i := "ValueError.__init__") (x := x) rfl (evalArgs_plain (spliced_cons (wpAny_Constant_str (k := n) (pos := p5) (spliced_nil ⟨hu, ?_⟩))))
  refine call_mw (X2 _ _ hC) (k2 _ _ (k1 _ _ hx0)) hu (by rw [sizeLine_eq]; exact (by decide : (1 : Nat) ≤ 16777216)) fun h3 t1 k3 hx3 => ?_
  -- the fields
  have hxL : s.heap.objs.size ≠ x := Nat.ne_of_gt hsz
  have hns3 : h3.Ns s.heap.objs.size m := ns_but (hns.keeps fun b o e => k2 b o (k1 b o e)) hxL k3
  have X3 : K.In h3 := in_but X2 hnx k3
  have keep3 : ∀ b o, b ≠ x → s.heap.get? b = some o → h3.get? b = some o := fun b o hb e => k3 b o hb (k2 b o (k1 b o (hk0 b o e)))
  have hmv : ∀ q ∈ f1 :: fs, ∃ v, m q.1 = some v := fun q hq => by
    obtain ⟨v, hv⟩ := zip_has (ns := ("self" : Str) :: (f1 :: fs).map (·.1)) (vs := .ref x :: us) (y := q.1) (by simp only [List.length_cons, List.length_map] at hl ⊢; omega) (List.mem_cons_of_mem _ (List.mem_map_of_mem hq))
    rw [← hm]
    exact ⟨v, lk_zip T.nd hv⟩
  obtain ⟨f, pa, pb, pc, pd⟩ := f1
  refine wpAt_of_wpAny (wpAny_execs_cons (plainObj_wpAny_Assign_Attribute ?_))
  obtain ⟨v, mv⟩ := hmv _ List.mem_cons_self
  refine wpAny_Name (wpAny_loadName_local hk (hloc f (by simp)) hns3 mv (wpAny_Name (wpAny_loadName_local hk (hloc "self" List.mem_cons_self) hns3 hself ?_) (by decide))) (T.dbg _ List.mem_cons_self)
  refine PySem.W.set_plain X3 (ox := HandSPX.excO C t1) (od := none) ⟨hx3, rfl, rfl, trivial⟩ T.oex.sa ?_
  refine HandSPX.exc_osa X3 hx3 hcl (show HandSPX.refsVE (.ref C :: bm) = true from hbm) rfl (T.noF _ List.mem_cons_self) (fun h4 tk4 dx k4 dn dne hx4 hn4 => ?_)
  have lt3 : s.heap.objs.size < h3.objs.size := hns3.lt
  have hdn : K.lookup dx = none := by
    cases e : K.lookup dx with
    | none => rfl
    | some o => exact absurd (Heap.lt_size (X3 _ _ e)) (Nat.not_lt.mpr dn)
  have hLd : s.heap.objs.size ≠ dx := Nat.ne_of_lt (Nat.lt_of_lt_of_le lt3 dn)
  refine st_more (env := PySem.W.ksEnv q scope s.heap.objs.size fI (.ref cda) cc) (x := x) (dx := dx) (m := m) hcl (show HandSPX.refsVE (.ref C :: bm) = true from hbm) rfl T.oex.sa hk (hloc "self" List.mem_cons_self) hself hLd hdn fs (fun y => if y = f then some v else none) [f] _ (in_but X3 hnx k4) (ns_but hns3 hxL k4) hx4 dne.symm hn4 (Within.cons f v Within.nil)
    (by have := T.le; simp only [List.length_cons, List.length_nil] at this ⊢; omega) (fun q hq => ⟨T.noF q (List.mem_cons_of_mem _ hq), hloc q.1 (by simp; exact Or.inr (Or.inr ⟨_, _, _, _, hq⟩)), T.dbg q (List.mem_cons_of_mem _ hq), hmv q (List.mem_cons_of_mem _ hq)⟩) (fun h5 tk5 k5 hn5 => ?_)
  have q := hq h5 tk5 dx t1 ⟨fun b o hb e => k5 b o (fun z => absurd (Heap.lt_size (show s.heap.get? b = some o from e)) (Nat.not_lt.mpr (z ▸ Nat.le_trans (Nat.le_of_lt lt3) dn))) (k4 b o hb (keep3 b o hb e)), k5 _ _ dne.symm hx4, Nat.le_trans (Nat.le_of_lt lt3) dn, dne, by
    show h5.Ns1 dx (addsTo m fs fun y => if y = f then some ((m f).getD .none) else none)
    rw [mv]
    exact hn5⟩
  exact q
/-- a made error -/
structure XMade (h h' : Heap) (e C d : Addr) (mA : Str → Option Value) : Prop where
  keep : ∀ b o, h.get? b = some o → h'.get? b = some o
  new : h.objs.size ≤ e
  obj : ∃ oe vs, h'.get? e = some oe ∧ oe.cls = .ref C ∧ oe.dict = some d ∧ oe.data = .fields vs ∧ vs[1]? = some .none
  dbig : h.objs.size ≤ d
  dne : d ≠ e
  ns : h'.Ns1 d mA
theorem err_made (T : Xc prog K mg nm txt (f1 :: fs) C fI) {us : List Value} (X : K.In s.heap) (hg : s.heap.Ns mainGlobals mg) (hb : ∃ mb, s.heap.Ns builtinsNs mb ∧ ∀ y : Str, y ≠ "__name__" → mb y = bootBuiltins y) (hlim : s.heap.NoLimit)
    (hl : us.length = (f1 :: fs).length) (hroom : A.depth + 1 < recursionLimit)
    (hq : ∀ h' tk e d, XMade s.heap h' e C d (addsTo (fun y => ((("self" : Str) :: (f1 :: fs).map (·.1)).zip (.ref (s.heap.objs.size + 1) :: us)).reverse.lookup y) (f1 :: fs) fun _ => none) → R (.ok (.ret (.ref e))) { s with heap := h', toks := tk }) :
    codeAny (model prog w) A (.call (.ref C) ⟨us, []⟩) R s := by
  obtain ⟨cn, qn, N, bs, bm, sn, sub, ab, col, dd, k0, k1, k2, k3, k5, hC, hbm⟩ := T.oex.cls
  obtain ⟨hp, g, dr, tk, os⟩ := s
  have k : ∀ b o, hp.get? b = some o → ((hp.push (PySem.W.kdv_tup us)).push (HandSPX.excO C hp.objs.size)).get? b = some o := fun b o e => Heap.get?_push_of_some _ (Heap.get?_push_of_some _ e)
  have hget : ((hp.push (PySem.W.kdv_tup us)).push (HandSPX.excO C hp.objs.size)).get? (hp.objs.size + 1) = some (HandSPX.excO C hp.objs.size) := by heap_get
  have hnx : K.lookup (hp.objs.size + 1) = none := by
    cases e : K.lookup (hp.objs.size + 1) with
    | none => rfl
    | some o => exact absurd (Heap.lt_size (X _ _ e)) (by show ¬ hp.objs.size + 1 < hp.objs.size; omega)
  have hz : us.length ≤ sizeLine := by
    have := T.le
    rw [hl, sizeLine_eq]
    omega
  refine HandSPX.call_own F.excBase_ValueError (fun Y => HandSPX.refsVE_contains Y bm hbm) (X _ _ hC) (PySem.W.looks_findIn X T.iC) (fun self => PySem.W.bind_fn X self T.tI) hz ?_
  refine err_init (s := ⟨(hp.push (PySem.W.kdv_tup us)).push (HandSPX.excO C hp.objs.size), g, dr, tk, os⟩) T (X.keeps k) (hg.keeps k) (hb.imp fun mb q => ⟨q.1.keeps k, q.2⟩) (hlim.keeps k) hget hnx hl (by show A.depth + 1 < recursionLimit; exact hroom) fun h' tk' dx t1 E => ?_
  have hs : ((hp.push (PySem.W.kdv_tup us)).push (HandSPX.excO C hp.objs.size)).objs.size = hp.objs.size + 1 + 1 := by rw [Heap.size_push, Heap.size_push]
  have db := E.dbig
  have db2 : hp.objs.size + 1 + 1 ≤ dx := by
    rw [← hs]
    exact db
  exact ⟨rfl, hq h' tk' (hp.objs.size + 1) dx ⟨fun b o e => E.keep b o (Nat.ne_of_lt (Nat.lt_succ_of_lt (Heap.lt_size e))) (k b o e), Nat.le_succ _, ⟨_, _, E.obj, rfl, rfl, rfl, rfl⟩, Nat.le_trans (Nat.le_trans (Nat.le_succ _) (Nat.le_succ _)) db2, E.dne, E.ns⟩⟩
end
/-! ### C(e, ..) -/
theorem adds_eq {m : Str → Option Value} : ∀ {fs : List Sto} {m0 : Str → Option Value} {y : Str}, addsTo m fs m0 y = if y ∈ fs.map (·.1) then some ((m y).getD .none) else m0 y
  | [], m0, y => by simp [addsTo]
  | (f, _) :: r, m0, y => by
    show addsTo m r _ y = _
    rw [adds_eq (fs := r)]
    by_cases h : y ∈ r.map (·.1)
    · rw [if_pos h, if_pos (by simp only [List.map_cons]; exact List.mem_cons_of_mem _ h)]
    · rw [if_neg h]
      by_cases e : y = f
      · subst e
        rw [if_pos rfl, if_pos (by simp only [List.map_cons]; exact List.mem_cons_self)]
      · rw [if_neg e, if_neg (by simp only [List.map_cons, List.mem_cons, not_or]; exact ⟨e, h⟩)]
theorem zip_rel : ∀ {ns : List Str} {vs : List V} {us : List Value}, Vals vs us → ns.length = vs.length → ∀ y ∈ ns, ∃ v u, (y, v) ∈ ns.zip vs ∧ (y, u) ∈ ns.zip us ∧ RelV v u
  | [], _, _, _, _, y, h => by cases h
  | n :: ns, _, _, .cons (a := v) (b := u) rv r, hl, y, h => by
    rcases List.mem_cons.mp h with h | h
    · subst h
      exact ⟨v, u, by rw [List.zip_cons_cons]; exact List.mem_cons_self, by rw [List.zip_cons_cons]; exact List.mem_cons_self, rv⟩
    · obtain ⟨v', u', h1, h2, h3⟩ := zip_rel r (by simpa using hl) y h
      exact ⟨v', u', by rw [List.zip_cons_cons]; exact List.mem_cons_of_mem _ h1, by rw [List.zip_cons_cons]; exact List.mem_cons_of_mem _ h2, h3⟩
theorem lk_not {β : Type} {y : Str} : ∀ {ns : List Str} {vs : List β}, y ∉ ns → (ns.zip vs).lookup y = none
  | [], _, _ => by simp
  | _ :: _, [], _ => by simp
  | n :: ns, v :: vs, h => by
    rw [List.zip_cons_cons]
    have e : (y == n) = false := by
      simp only [List.mem_cons, not_or] at h
      simpa using h.1
    simp only [List.lookup, e]
    exact lk_not fun z => h (List.mem_cons_of_mem _ z)
theorem relO_adds {fs : List Sto} {vs : List V} {us : List Value} {x : Addr} (hn : (("self" : Str) :: fs.map (·.1)).Nodup) (r : Vals vs us) (hl : vs.length = fs.length) (y : Str) :
    RelO (((fs.map (·.1)).zip vs).lookup y) (addsTo (fun y => ((("self" : Str) :: fs.map (·.1)).zip (.ref x :: us)).reverse.lookup y) fs (fun _ => none) y) := by
  rw [adds_eq]
  by_cases h : y ∈ fs.map (·.1)
  · rw [if_pos h]
    obtain ⟨v, u, h1, h2, h3⟩ := zip_rel r (by rw [List.length_map, hl]) y h
    have hn2 := (List.nodup_cons.mp hn).2
    rw [lk_mem h1 fun v' hv => zip_un hn2 h1 hv, lk_zip (v := u) hn (by rw [List.zip_cons_cons]; exact List.mem_cons_of_mem _ h2)]
    exact h3
  · rw [if_neg h, lk_not h]
    trivial
def tMkX (C : Addr) (ns : List Str) (ta : TA) : L2.St → Hp → XK → Prop := fun σ H Q => ta σ H fun vs H1 => vs.length = ns.length ∧ ∀ d, H1 d = none → Q (.ref C) (some d) (upd H1 d (.xd (ns.zip vs)))
section
variable {X : Cx} {C fI : Addr} {nm txt : Str} {f1 : Sto} {fs : List Sto} {a : Expr} {es : List Expr} {ta : TA} {p pos : Pos} {k : Nat}
theorem pmk_x (T : Xc X.prog X.K X.mg nm txt (f1 :: fs) C fI) (hr : Room (k + 1) X.A) (ha : PA X (a :: es) ta) (hg : Gl X nm) (hdb : (nm == ("__debug__" : Str)) = false := by decide)
    (he : starEach (a :: es) X.env = (false, eval a X.env) :: starEach es X.env := by rfl) (hpl : (backTo pos (starEach es X.env)).any (·.1) = false := by rfl) :
    PMk X (.Call (.Name nm p) (a :: es) [] pos) (tMkX C ((f1 :: fs).map (·.1)) ta) := by
  intro pins s σ H Q I h
  refine wpAny_Call_Name_kw (ld_glob I hg T.gC ?_ hdb)
  refine PySem.W.callWith_K (h₀ := X.base) I.ok.mod.kin T.oex.kC (thn (ha.run pos pins s σ H _ I h) fun us s1 hh => ?_) he hpl
  obtain ⟨vs, H1, I1, r1, hlen, q1⟩ := hh
  refine ⟨I1.kIn, ?_⟩
  show wpAny _ _ (call (.ref C) us) _ _ _
  have hlim := I1.nolimit
  have hgl : s1.heap.Ns mainGlobals X.mg := I1.mod.glob.keeps I1.bk
  have hbl : ∃ mb, s1.heap.Ns builtinsNs mb ∧ ∀ y : Str, y ≠ "__name__" → mb y = bootBuiltins y := I1.mod.blt.imp fun mb q => ⟨q.1.keeps I1.bk, q.2⟩
  have hl : us.length = (f1 :: fs).length := by
    rw [← Paired.length r1, hlen, List.length_map]
  obtain ⟨hp, g, dr, tk, os⟩ := s1
  refine wpAny_call (err_made T I1.kIn hgl hbl hlim hl (by have := hr.dp; omega) fun h' tk' e d M => ?_)
  show MkP X pins σ Q (.ref e) ⟨h', g, dr, tk', os⟩
  obtain ⟨oe, fv, hoe, hc, hd, hdat, h1⟩ := M.obj
  have hns := M.ns
  obtain ⟨G', g1, g2⟩ := restrict h' fun b => decide (b ≠ e)
  have gk : ∀ b, b ≠ e → G'.get? b = h'.get? b := fun b hb => g1 b (decide_eq_true hb)
  have ge : G'.get? e = none := g2 e (by simp)
  have old : ∀ b o, hp.get? b = some o → G'.get? b = some o := fun b o q => (gk b (Nat.ne_of_lt (Nat.lt_of_lt_of_le (Heap.lt_size q) M.new))).trans (M.keep b o q)
  have ob : ObjOk X.prog X.w (upd H1 d (.xd (((f1 :: fs).map (·.1)).zip vs))) G' d (.xd (((f1 :: fs).map (·.1)).zip vs)) :=
    ⟨_, hns.at (fun o q => (gk d M.dne).trans q), fun f => relO_adds T.nd r1 (by rw [hlen, List.length_map]) f⟩
  have J : Inv X pins σ (upd H1 d (.xd (((f1 :: fs).map (·.1)).zip vs))) ⟨G', g, dr, tk', os⟩ := I1.laid (t' := tk') old M.dbig ob
  refine ⟨e, oe, fv, ⟨G', g, dr, tk', os⟩, _, .ref C, some d, rfl, J, fun b o q => ?_, ge, hoe, ⟨hc, hd⟩, hdat, h1, ?_, rfl, I1.bare, raises_own T.oex.exC T.oex.tyC, q1 d (I1.hok.fresh M.dbig)⟩
  · by_cases hb : b = e
    · have q' : G'.get? b = some o := q
      rw [hb, ge] at q'; cases q'
    · exact (gk b hb).symm.trans q
  · rw [upd_ne (Ne.symm M.dne)]
    exact I1.hok.fresh M.new
end
end VL
set_option maxRecDepth 100000
set_option maxHeartbeats 2000000
/-! raise, try .. except X as e -/
namespace VL
open PySem PySem.Spec PyProof.Rows L2

/-! ### raise C(e, ..) -/
def sRaise (c : Str) (ns : List Str) (f : FA) : FS := fun l h => (f l h).bind fun ws l h => match fzs l h ws with
  | some (ds, l, h) => if ds.length = ns.length then .ex ⟨c, ns, ds⟩ l h else .no
  | none => .no
section
variable {X : Cx} {Wx : WX} {fI : Addr} {nm txt : Str} {f1 : Sto} {fs : List Sto} {a : Expr} {es : List Expr} {fa : FA} {p pos pos2 : Pos} {k : Nat}
theorem vs_raise (T : Xc X.prog X.K X.mg nm txt (f1 :: fs) (He.ga X.K nm) fI) (hc : X.calm = true) (tk : Takes X Wx) (hr : Room (k + 1) X.A) (ha : VA X Wx (a :: es) fa) (hg : Gl X nm) (hdb : (nm == ("__debug__" : Str)) = false := by decide)
    (he : starEach (a :: es) X.env = (false, eval a X.env) :: starEach es X.env := by rfl) (hpl : (backTo pos (starEach es X.env)).any (·.1) = false := by rfl) :
    VS X Wx (.Raise (some (.Call (.Name nm p) (a :: es) [] pos)) none pos2) (sRaise nm ((f1 :: fs).map (·.1)) fa) :=
  PS.imp (ps_raise hc tk (pmk_x T hr ha hg hdb he hpl)) fun D σ H ⟨ι, F, l, h, S, q⟩ => by
    refine ⟨ι, F, l, h, S, Sat.cutS q fun ws l1 h1 vs ι1 F1 H1 a1 S1 r1 q1 => ?_⟩
    cases z : fzs l1 h1 ws with
    | none => rw [z] at q1; exact False.elim q1
    | some pq =>
      obtain ⟨ds, l2, h2⟩ := pq
      rw [z] at q1
      obtain ⟨F2, S2, A2, rp⟩ := fzs_ok S1 r1 z
      by_cases hl : ds.length = ((f1 :: fs).map (·.1)).length
      · simp only [if_pos hl] at q1
        refine ⟨by rw [← RpL.length rp, hl], fun d hd => ?_⟩
        have S3 := S2.laidF (o := .xd (((f1 :: fs).map (·.1)).zip vs)) hd
        have A3 : Aft ι1 F2 l2 σ H1 ι1 _ l2 σ (upd H1 d (.xd (((f1 :: fs).map (·.1)).zip vs))) := Aft.laidF hd
        exact q1 σ ι1 _ _ d (A2.trans A3) S3 ⟨.inr rfl, vs, by rw [← RpL.length rp, hl], upd_same, RpL.kp A3.ext.kp rp⟩
      · simp only [if_neg hl] at q1
        exact False.elim q1
end
/-! ### try .. except C as e -/
section
variable {K : PySem.W.Frag} {ι : List Addr} {F : Addr → Prop} {l : Ls} {h : Hs} {σ : L2.St} {H : Hp} {i : Nat} {y : Option V}
theorem own_gone {j : Nat} {a : Addr} (z : OwnAt (l.set i .e) (σ.set i y) j a) (hi : i < l.length) : j ≠ i ∧ OwnAt l σ j a := by
  obtain ⟨b, d, e1, e2⟩ := z
  by_cases hj : i = j
  · subst hj
    rw [List.getElem?_set_self hi] at e1
    cases e1
  · rw [List.getElem?_set_ne hj] at e1 e2
    exact ⟨fun z => hj z.symm, b, d, e1, e2⟩
theorem Sim.gone (S : Sim K ι F l h σ H) (hi : i < l.length) : Sim K ι F (l.set i .e) h (σ.set i y) H := by
  refine ⟨S.hs, by rw [List.length_set, List.length_set]; exact S.len, fun j x q => ?_, fun j j' a z z' => S.one j j' a (own_gone z hi).2 (own_gone z' hi).2⟩
  by_cases hj : i = j
  · subst hj
    rw [List.getElem?_set_self hi] at q
    exact .inl (Option.some.inj q).symm
  · rw [List.getElem?_set_ne hj] at q
    rw [List.getElem?_set_ne hj]
    exact S.sl j x q
theorem Aft.gone (hi : i < l.length) (np : ∀ d, l[i]? ≠ some (.m true d)) : Aft ι F l σ H ι F (l.set i .e) (σ.set i y) H :=
  ⟨Ext.refl, fun a ⟨j, z⟩ => .inl ⟨j, (own_gone z hi).2⟩, fun j d q => by
    have hj : i ≠ j := fun z => np d (z ▸ q)
    exact ⟨d, by rw [List.getElem?_set_ne hj]; exact q, by rw [List.getElem?_set_ne hj]⟩⟩
end
/-- behind the suite: its name is gone -/
def goneR (i : Nat) (r : R Fl) : R Fl := match r with
  | .ok fl l h => (match notP l i with
    | true => (match fl with
      | .rt (.s _) => .no
      | .ro _ => .no
      | fl => .ok fl (l.set i .e) h)
    | false => .no)
  | _ => .no
def sTryAs (i : Nat) (sub : Str → Option Bool) (su : Xn → FS) (fb : FS) : FS := fun l h => match fb l h with
  | .ex x l1 h1 => (match sub x.c with
    | some true => (match notP l1 i with
      | true => goneR i (su x (l1.set i .e) h1)
      | false => .no)
    | some false => .ex x l1 h1
    | none => .no)
  | r => r
section
variable {X : Cx} {Wx : WX} {x n : Str} {c : Value} {i : Nat} {body suite : List Stmt} {b₀ : Stmt} {np pos pos' : Pos} {ts : Addr → Value → Option Addr → TS} {fb : FS} {sub : Str → Option Bool} {su : Xn → FS}
theorem gone_t {K : PySem.W.Frag} {ι : List Addr} {F : Addr → Prop} {l : Ls} {σ : L2.St} {H : Hp} {r : R Fl} {D : Ends} (q : SatS K Wx ι F l σ H (goneR i r) D) :
    SatS K WN ι F l σ H r { nx := fun σ' H' => D.nx (σ'.set i none) H', rt := D.rt, bk := fun σ' H' => D.bk (σ'.set i none) H', ct := fun σ' H' => D.ct (σ'.set i none) H' } := by
  cases r with
  | no => exact q
  | ex x l1 h1 => exact False.elim q
  | ok fl l1 h1 =>
    unfold goneR at q
    cases e : notP l1 i with
    | false => simp only [e] at q; exact False.elim q
    | true =>
      simp only [e] at q
      obtain ⟨np, hi⟩ := notP_ok e
      cases fl with
      | nx => exact fun σ' ι' F' H' A S => q (σ'.set i none) ι' F' H' (A.trans (Aft.gone hi np)) (S.gone hi)
      | bk => exact fun σ' ι' F' H' A S => q (σ'.set i none) ι' F' H' (A.trans (Aft.gone hi np)) (S.gone hi)
      | ct => exact fun σ' ι' F' H' A S => q (σ'.set i none) ι' F' H' (A.trans (Aft.gone hi np)) (S.gone hi)
      | ro d => exact False.elim q
      | rt w =>
        cases w with
        | s j => exact False.elim q
        | v d => exact fun σ' ι' F' H' A S v r => q (σ'.set i none) ι' F' H' (A.trans (Aft.gone hi np)) (S.gone hi) v r
        | r m => exact fun σ' ι' F' H' A S v r => q (σ'.set i none) ι' F' H' (A.trans (Aft.gone hi np)) (S.gone hi) v r
theorem vs_tryAs (hs : X.stack = X.env :: X.outer) (hf : X.env.frame = some X.env.locals) (hN : X.N.Nodup) (hi : X.N[i]? = some n) (hln : X.env.kindOf n = some .local) (hc : Names X x c) (tk : Takes X Wx)
    (hsub : ∀ c' b, sub c' = some b → PySem.W.exmOne X.K (.ref (He.ga X.K c')) c = some b)
    (hb : ∀ (W : WX) (pn : List (Addr × Obj)) (xe : Value → Shared → Prop), Takes (X.tr pn xe) W → PassesOwn (model X.prog X.w) X.A X.env xe → VSs (X.tr pn xe) W body fb)
    (hsu : ∀ (a : Addr) (oe : Obj) (cls : Value) (d : Option Addr) (pn : List (Addr × Obj)), Zc cls d oe → (∃ vs, oe.data = .fields vs) → PSs (X.suite a ((a, oe) :: pn)) (b₀ :: suite) (ts a cls d))
    (hts : ∀ a dx x ι F l h σ H D, Sim X.K ι F l h σ H → l[i]? = some .e → σ[i]? = some (some (.ref a)) → H a = none → sub x.c = some true → XR X.K F H x dx → SatS X.K WN ι F l σ H (su x l h) D → ts a (.ref (He.ga X.K x.c)) (some dx) D σ H) :
    VS X Wx (.Try body [.ExceptHandler (some (.Name x np)) (some n) (b₀ :: suite) pos'] [] [] pos) (sTryAs i sub su fb) := by
  refine PS.imp (ps_try_as (i := i) (tb := fun W => tS X.K W fb) (ts := ts) (Wout := Wx) hs hf hN hi hln hc tk hb hsu) fun D σ H ⟨ι, F, l, h, S, q⟩ => ⟨ι, F, l, h, S, ?_⟩
  unfold sTryAs at q
  cases e : fb l h with
  | no => rw [e] at q; exact q
  | ok fl l1 h1 => rw [e] at q; exact q
  | ex y l1 h1 =>
    rw [e] at q
    intro σ' ι' F' H' dx A S' xr
    cases z : sub y.c with
    | none => simp only [z] at q; exact False.elim q
    | some b =>
      refine ⟨b, hsub _ _ z, fun hb => ?_, fun hb => ?_⟩
      · subst hb
        simp only [z] at q
        cases e2 : notP l1 i with
        | false => rw [e2] at q; exact False.elim q
        | true =>
          rw [e2] at q
          obtain ⟨np2, hi2⟩ := notP_ok e2
          intro a na
          have hi3 : i < σ'.length := by rw [← S'.len]; exact hi2
          have q2 := gone_t q
          exact hts a dx y ι' F' (l1.set i .e) h1 (σ'.set i (some (.ref a))) H' _ (S'.gone hi2) (List.getElem?_set_self hi2) (List.getElem?_set_self hi3) na z xr (SatS.later (A.trans (Aft.gone hi2 np2)) q2)
      · subst hb
        simp only [z] at q
        exact q σ' ι' F' H' dx A S' xr
end
/-- x's field f -/
def xfld (x : Xn) (f : Str) : Option D := (x.ns.zip x.xs).lookup f
theorem xfld_ok {K : PySem.W.Frag} {F : Addr → Prop} {H : Hp} {x : Xn} {dx : Addr} {f : Str} {d : D} (r : XR K F H x dx) (e : xfld x f = some d) : ∃ fs v, H dx = some (.xd fs) ∧ fs.lookup f = some v ∧ Rp K F H d v := by
  obtain ⟨_, vs, hl, hd, rp⟩ := r
  have key : ∀ {ns : List Str} {ds : List D} {vs : List V}, RpL K F H ds vs → (ns.zip ds).lookup f = some d → ∃ v, (ns.zip vs).lookup f = some v ∧ Rp K F H d v := by
    intro ns
    induction ns with
    | nil => intro ds vs r e; simp at e
    | cons n ns ih =>
      intro ds vs r e
      cases r with
      | nil => simp at e
      | cons rd rs =>
        rw [List.zip_cons_cons] at e
        rw [List.zip_cons_cons]
        by_cases h : f = n
        · subst h
          simp only [List.lookup, beq_self_eq_true] at e ⊢
          cases e
          exact ⟨_, rfl, rd⟩
        · have h2 : (f == n) = false := by simpa using h
          simp only [List.lookup, h2] at e ⊢
          exact ih rs e
  obtain ⟨v, h1, h2⟩ := key rp e
  exact ⟨_, v, hd, h1, h2⟩
def suRetF (f : Str) (x : Xn) : FS := fun l h => match xfld x f with
  | some d => .ok (.rt (.v d)) l h
  | none => .no
section
variable {X : Cx} {Wx : WX} {P : Program} {w : World} {K : PySem.W.Frag} {mg : Str → Option Value} {base : Heap} {N : List Str} {sc : Scope} {b : List Str} {k i : Nat} {nm n f : Str} {body : List Stmt} {fb : FS} {sub : Str → Option Bool} {np pos pos' p1 p2 p3 : Pos} {st : Stmt}
theorem Ctx.tr (c : Ctx X Wx P w K mg base N sc b k) {W : WX} {pn : List (Addr × Obj)} {xe : Value → Shared → Prop} (tk : Takes (X.tr pn xe) W) : Ctx (X.tr pn xe) W P w K mg base N sc b k :=
  ⟨c.eP, c.ew, c.eK, c.em, c.eb, c.eN, c.es, c.calm, c.room, tk, c.sto, c.kd⟩
/-- try: body, except nm as n: return n.f -/
theorem Ctx.tryRetF (c : Ctx X Wx P w K mg base N sc b k) (hfr : FrOk X) (hgl : glB sc nm = true) (hm : mg nm = some (.ref (He.ga K nm))) (T : XfC K (He.ga K nm)) (hno : PySem.W.findIn K (.ref (He.ga K nm)) f = some none)
    (hsub : ∀ c' b, sub c' = some b → PySem.W.exmOne K (.ref (He.ga K c')) (.ref (He.ga K nm)) = some b) (honly : ∀ c', sub c' = some true → c' = nm)
    (hb : ∀ {Y : Cx} {W : WX}, Ctx Y W P w K mg base N sc b k → PassesOwn (model Y.prog Y.w) Y.A Y.env Y.xe → FrOk Y → VSs Y W body fb)
    (nd : N.Nodup := by decide +kernel) (hi : N[i]? = some n := by rfl) (hl : locB sc n = true := by rfl) (hdn : (n == ("__debug__" : Str)) = false := by decide) (hdm : (nm == ("__debug__" : Str)) = false := by decide) (hcd : (n == ("__classdict__" : Str)) = false := by decide)
    (hba : attributeBase (.Name n p1) f X.env (eval (.Name n p1) X.env) = eval (.Name n p1) X.env := by rfl) :
    VS X Wx (.Try body [.ExceptHandler (some (.Name nm np)) (some n) [.Return (some (.Attribute (.Name n p1) f p2)) p3] pos'] [] [] pos) (sTryAs i sub (suRetF f) fb) := by
  have hloc : X.env.scope.names.lookup n = some .local := by rw [c.es]; exact locB_ok hl
  refine vs_tryAs (ts := fun a cls d => tRet (tXf a cls d (He.ga K nm) f (tVar i))) hfr.stk hfr.frm (by rw [c.eN]; exact nd) (by rw [c.eN]; exact hi) hloc ⟨c.gl hgl, hdm, .inl (by rw [c.em]; exact hm)⟩ c.tk (by rw [c.eK]; exact hsub) (fun W pn xe tk hp => hb (c.tr tk) hp ⟨hfr.stk, hfr.frm⟩)
    (fun a oe cls d pn hz hf => pss_one (ps_ret (pe_xf (X := X) (C := He.ga K nm) (by rw [c.eK]; exact T) (by rw [c.eK]; exact hno) hz hf (pe_var (X := X.suite a ((a, oe) :: pn)) (by show X.N[i]? = _; rw [c.eN]; exact hi) (.inl hloc) hdn hcd) hba)))
    fun a dx x ι F l h σ H D S hl hσ na hs xr q => ?_
  unfold suRetF at q
  cases e : xfld x f with
  | none => rw [e] at q; exact False.elim q
  | some d =>
    rw [e] at q
    obtain ⟨fs, v, h1, h2, h3⟩ := xfld_ok xr e
    refine ⟨.ref a, hσ, rfl, ?_, dx, fs, v, rfl, h1, h2, ?_⟩
    · rw [honly _ hs, c.eK]
    · exact q σ ι F H Aft.refl S v (show relW X.K σ ι F H (.v d) v from h3)
end
end VL
set_option maxRecDepth 100000
set_option maxHeartbeats 2000000
/-! own errors by their facts -/
namespace VL
open PySem PySem.Spec PyProof.Rows L2
section
variable {K : PySem.W.Frag} {C fI : Addr} {q file : Str} {fa : List Kf} {fn : List Kd}
theorem xclB_ok (h : xclB K C = true) : ∃ nm q N bs bm sn sub ab col dd k0 k1 k2 k3 k5, K.lookup C = some (excClassObj nm q C N bs bm true sn sub ab col dd k0 k1 k2 k3 k5 "ValueError.__new__") ∧ HandSPX.refsVE bm = true := by
  unfold xclB at h
  split at h
  · rename_i T dd cd sl ho
    obtain ⟨hT, g⟩ := He.ba h
    clear h
    have hT2 := of_decide_eq_true hT
    subst hT2
    clear hT
    split at g
    · rename_i C' bm k0 k1 k2 k3 n k5 hm hs
      obtain ⟨h1, g⟩ := He.ba g
      obtain ⟨h2, g⟩ := He.ba g
      obtain ⟨h3, g⟩ := He.ba g
      obtain ⟨h4, h5⟩ := He.ba g
      have h1 := of_decide_eq_true h1
      have h2 := of_decide_eq_true h2
      subst h1
      subst h2
      obtain ⟨nm, bs, mro, ns, qn, hd, sn, sub, ab, col, del⟩ := cd
      dsimp only at hm h3 h4
      have h3 : del = false := by simpa using h3
      subst hm h3 h4
      have hsl : sl = #[k0, k1, k2, k3, some (.builtin "ValueError.__new__"), k5] := by
        obtain ⟨l⟩ := sl
        simp only at hs
        rw [hs]
      subst hsl
      exact ⟨nm, qn, ns, bs, bm, sn, sub, ab, col, dd, k0, k1, k2, k3, k5, ho, h5⟩
    · cases g
  · cases h
theorem SaysV.see (c : SaysV fa fn K) (i : Nat) {d : Kd} (h : fn[i]? = some d := by rfl) : d.see K = d.val ∧ d.ok K = true := by
  have c2 := List.all_eq_true.mp (He.ba (show ((fa.all fun f => f.ok K) && fn.all fun d => d.ok K) = true from congrArg (fun z : AlV => z.1) c)).2 d (List.mem_of_getElem? h)
  have e : fn.map (fun d => d.see K) = fn.map Kd.val := congrArg (fun z : AlV => z.2) c
  have e2 : (fn.map fun d => d.see K)[i]? = (fn.map Kd.val)[i]? := by rw [e]
  rw [List.getElem?_map, List.getElem?_map, h] at e2
  exact ⟨Option.some.inj e2, c2⟩
end
section
variable {P : Program} {K : PySem.W.Frag} {h : Heap} {mg : Str → Option Value} {d : Kd} {x file txt : Str} {fs : List Sto} {n : Nat} {p0 p1 p2 p3 p4 p5 : Pos}
theorem Kd.errOk (e : d.see K = d.val ∧ d.ok K = true) (he : d.err = some (x, file)) (hb : d.body = supOf txt n p0 p1 p2 p3 p4 p5 :: storesOf fs)
    (bd : ∀ (kV doc pm : Value) (an : Option Addr) (cdv ct : Value) (cc : Addr) (us : List Value), us.length = fs.length + 1 → bindArgs (PySem.W.ksFn d.name d.qual d.params d.body d.scope .none kV doc pm an cdv ct cc) ⟨us, []⟩ = pure ((("self" : Str) :: fs.map (·.1)).zip us))
    (hp : ∃ ar, (d.params.posonlyargs ++ d.params.args).head? = some ar ∧ ar.arg = "self") (hfile : ((P.main.file : Str) == file) = true)
    (hsc : d.scope.names.lookup ("super" : Str) = some .globalImplicit ∧ d.scope.names.lookup ("__class__" : Str) = some .free ∧ (∀ y ∈ ("self" : Str) :: fs.map (·.1), d.scope.names.lookup y = some .local) ∧ (∀ y ∈ d.scope.names, y.2 ≠ .cell) ∧ d.scope.kind = .function ∧ d.scope.isCoroutine = false ∧ d.scope.isGenerator = false ∧ (p2.endLine == p3.line) = true)
    (gC : mg x = some (.ref (He.ga K x))) (noF : ∀ q ∈ fs, PySem.W.findIn K (.ref (He.ga K x)) q.1 = some none) (nosup : mg "super" = none) (top : (P.main.scope.names.lookup ("super" : Str)).isSome = false)
    (nd : ((("self" : Str) :: fs.map (·.1)).Nodup)) (dbg : ∀ q ∈ fs, (q.1 == ("__debug__" : Str)) = false) (le : fs.length ≤ 100) : Xc P K mg x txt fs (He.ga K x) (d.at_.adr K) := by
  obtain ⟨e, c⟩ := e
  unfold Kd.see at e
  unfold Kd.ok at c
  rw [he] at c e
  have c := show errB K (He.ga K x) (d.at_.adr K) d.qual file = true from c
  have e := show fnPX K (d.at_.adr K) = d.val from e
  obtain ⟨c1, c⟩ := He.ba c
  obtain ⟨c2, c⟩ := He.ba c
  obtain ⟨c3, c⟩ := He.ba c
  obtain ⟨c4, c⟩ := He.ba c
  obtain ⟨c5, c⟩ := He.ba c
  obtain ⟨c6, c⟩ := He.ba c
  obtain ⟨c7, c⟩ := He.ba c
  obtain ⟨c8, c⟩ := He.ba c
  obtain ⟨c9, c⟩ := He.ba c
  obtain ⟨c10, c⟩ := He.ba c
  obtain ⟨c11, c⟩ := He.ba c
  obtain ⟨c12, c⟩ := He.ba c
  obtain ⟨c13, c⟩ := He.ba c
  obtain ⟨c14, c15⟩ := He.ba c
  refine { gC := gC, oex := ⟨xclB_ok c1, He.eqO_ok c3, of_decide_eq_true c13, of_decide_eq_true c14, c15⟩, ga := He.eqO_ok c4, gg := He.eqO_ok c5, noF := noF, hdC := c6, iC := He.eqO_ok c7, tI := of_decide_eq_true c8, fn := ?_, sup := of_decide_eq_true c9, subB := of_decide_eq_true c10, mro := of_decide_eq_true c11, any := He.eqO_ok c12, nosup := nosup, top := top, nd := nd, dbg := dbg, le := le }
  unfold xfnB at c2
  unfold fnPX at e
  split at c2
  · rename_i oc od fd osl ho
    rw [ho] at e
    obtain ⟨n1, n2, n3, n4, n5, n6, n7, n8, n9, n10, n11, n12, n13, n14, n15⟩ := fd
    dsimp only at c2 e
    split at c2
    · rename_i cn cc cda
      have e4 : (some (n1, n2, n3, n4, n5, n6, ([] : List (Str × Addr)), n15) : He.FnW) = some (d.name, d.qual, d.params, .stmts d.body, d.scope, mainGlobals, [], builtinsNs) := e
      simp only [Option.some.injEq, Prod.mk.injEq, true_and] at e4
      obtain ⟨h1, h2, h3, h4, h5, h6, h8⟩ := e4
      subst h1 h2 h3 h4 h5 h6 h8
      obtain ⟨b1, c2⟩ := He.ba c2
      obtain ⟨b2, c2⟩ := He.ba c2
      obtain ⟨b3, b4⟩ := He.ba c2
      have b1 := of_decide_eq_true b1
      subst b1
      refine ⟨oc, od, d.name, d.qual, d.params, d.scope, .none, n9, n10, n11, n12, n14, osl, cc, cda, n, p0, p1, p2, p3, p4, p5, ?_, b2, ?_, hp, ?_, ?_, hsc⟩
      · rw [← hb]
        exact ho
      · rw [← hb]
        exact fun us hl => bd _ _ _ _ _ _ _ us hl
      · split at b4
        · rename_i z1 z2 vs z3 y
          split at b4
          · rename_i f tf y2
            have b4 := of_decide_eq_true b4
            subst b4
            exact ⟨_, _, _, _, _, tf, y, y2, hfile⟩
          · cases b4
        · cases b4
      · split at b3
        · rename_i z1 z2 C' z3 y
          have b3 := of_decide_eq_true b3
          subst b3
          exact ⟨_, _, _, y⟩
        · cases b3
    · cases c2
  · cases c2
end
end VL
set_option maxRecDepth 100000
set_option maxHeartbeats 2000000
/-! exceptions in contexts; the facts with the program's file -/
namespace VL
open PySem PySem.Spec PyProof.Rows L2
structure SaysP (P : Program) (file : Str) (fa : List Kf) (fn : List Kd) (K : PySem.W.Frag) : Prop where
  S : SaysV fa fn K
  file : ((P.main.file : Str) == file) = true
  top : (P.main.scope.names.lookup ("super" : Str)).isSome = false
section
variable {P : Program} {file : Str} {fa : List Kf} {fn : List Kd} {K : PySem.W.Frag}
theorem SaysP.fact (c : SaysP P file fa fn K) (i : Nat) {f : Kf} (h : fa[i]? = some f := by rfl) : f.ok K = true := c.S.fact i h
theorem SaysP.def_ (c : SaysP P file fa fn K) (i : Nat) {d : Kd} (h : fn[i]? = some d := by rfl) (he : d.err = none := by rfl) : KdF K d := c.S.def_ i h he
theorem SaysP.see (c : SaysP P file fa fn K) (i : Nat) {d : Kd} (h : fn[i]? = some d := by rfl) : d.see K = d.val ∧ d.ok K = true := c.S.see i h
end
/-- an own error over ValueError, its fields by name -/
def XcE (P : Program) (K : PySem.W.Frag) (mg : Str → Option Value) (nm : Str) (ns : List Str) : Prop := ∃ (txt : Str) (f1 : Sto) (fs : List Sto) (fI : Addr), (f1 :: fs).map (·.1) = ns ∧ Xc P K mg nm txt (f1 :: fs) (He.ga K nm) fI
theorem Xc.e {P : Program} {K : PySem.W.Frag} {mg : Str → Option Value} {nm txt : Str} {f1 : Sto} {fs : List Sto} {fI : Addr} {ns : List Str} (T : Xc P K mg nm txt (f1 :: fs) (He.ga K nm) fI) (h : (f1 :: fs).map (·.1) = ns := by rfl) : XcE P K mg nm ns := ⟨txt, f1, fs, fI, h, T⟩
theorem XcE.xf {P : Program} {K : PySem.W.Frag} {mg : Str → Option Value} {nm : Str} {ns : List Str} (T : XcE P K mg nm ns) : XfC K (He.ga K nm) := by
  obtain ⟨txt, f1, fs, fI, _, T⟩ := T
  exact ⟨T.ga, T.gg, T.oex.exC, T.hdC⟩
theorem XcE.gC {P : Program} {K : PySem.W.Frag} {mg : Str → Option Value} {nm : Str} {ns : List Str} (T : XcE P K mg nm ns) : mg nm = some (.ref (He.ga K nm)) := by
  obtain ⟨txt, f1, fs, fI, _, T⟩ := T
  exact T.gC
section
variable {X : Cx} {Wx : WX} {P : Program} {w : World} {K : PySem.W.Frag} {mg : Str → Option Value} {base : Heap} {N : List Str} {sc : Scope} {b : List Str} {k : Nat} {nm : Str} {ns : List Str} {a : Expr} {es : List Expr} {fa : FA} {p pos pos2 : Pos}
theorem Ctx.raise (c : Ctx X Wx P w K mg base N sc b k) (T : XcE P K mg nm ns) (ha : VA X Wx (a :: es) fa) (hk : 1 ≤ k := by first | decide | omega) (hg : glB sc nm = true := by rfl) (hdb : (nm == ("__debug__" : Str)) = false := by decide)
    (he : starEach (a :: es) X.env = (false, eval a X.env) :: starEach es X.env := by rfl) (hpl : (backTo pos (starEach es X.env)).any (·.1) = false := by rfl) :
    VS X Wx (.Raise (some (.Call (.Name nm p) (a :: es) [] pos)) none pos2) (sRaise nm ns fa) := by
  obtain ⟨txt, f1, fs, fI, h, T⟩ := T
  subst h
  exact vs_raise (k := 0) (by rw [c.eP, c.eK, c.em]; exact T) c.calm c.tk (c.room.mono hk) ha (c.gl hg) hdb he hpl
end
theorem all_of {fs : List Sto} (h : (fs.all fun q => !(q.1 == ("__debug__" : Str))) = true) : ∀ q ∈ fs, (q.1 == ("__debug__" : Str)) = false := fun q m => by
  have := List.all_eq_true.mp h q m
  simpa using this
/-- what an except clause of nm asks of the classes in l -/
theorem sub_of {K : PySem.W.Frag} {nm : Str} {l : List (Str × Bool)} (h : ∀ q ∈ l, PySem.W.exmOne K (.ref (He.ga K q.1)) (.ref (He.ga K nm)) = some q.2) : ∀ c' b, (fun c => List.lookup c l) c' = some b → PySem.W.exmOne K (.ref (He.ga K c')) (.ref (He.ga K nm)) = some b :=
  fun c' b e => h (c', b) (mem_lookup2 e)
theorem only_of {nm : Str} {l : List (Str × Bool)} (h : (l.all fun q => !q.2 || decide (q.1 = nm)) = true) : ∀ c', (fun c => List.lookup c l) c' = some true → c' = nm := fun c' e => by
  have := List.all_eq_true.mp h _ (mem_lookup2 e)
  simpa using this
end VL
set_option maxRecDepth 100000
set_option maxHeartbeats 2000000
/-! numbered lists walked: each turn reads the list as it then is -/
namespace VL
/-- nothing is lent -/
def ioF : List Bool := List.replicate 64 false
open PySem PySem.Spec PyProof.Rows L2
/-- item i of a numbered list, live or frozen -/
def itN (h : Hs) (n i : Nat) : Option (Option W) := match h[n]? with
  | some (.lst ws) => some ws[i]?
  | some (.frz (.lst ds)) => some (ds[i]?.map .v)
  | _ => none
def lenN (h : Hs) (n : Nat) : Nat := match h[n]? with
  | some (.lst ws) => ws.length
  | some (.frz (.lst ds)) => ds.length
  | _ => 0
def ItR (K : PySem.W.Frag) (ι : List Addr) (F : Addr → Prop) (H : Hp) (i : Nat) (vs : List V) : Option W → Prop
  | none => vs.length ≤ i
  | some w => ∃ v, vs[i]? = some v ∧ WR K ι F H w v
theorem WsR.getW {K : PySem.W.Frag} {ι : List Addr} {F : Addr → Prop} {H : Hp} : ∀ {ws : List W} {vs : List V} (i : Nat), WsR K ι F H ws vs → ItR K ι F H i vs ws[i]?
  | _, _, i, .nil => by simp [ItR]
  | _, _, 0, .cons a r => ⟨_, rfl, a⟩
  | w :: ws, v :: vs, i + 1, .cons a r => by
    have := WsR.getW i r
    rw [List.getElem?_cons_succ]
    revert this
    cases ws[i]? with
    | none => intro q; exact Nat.succ_le_succ q
    | some w => intro ⟨v, q1, q2⟩; exact ⟨v, by rw [List.getElem?_cons_succ]; exact q1, q2⟩
theorem itN_ok {K : PySem.W.Frag} {ι : List Addr} {F : Addr → Prop} {l : Ls} {h : Hs} {σ : L2.St} {H : Hp} {n i : Nat} {a : Addr} {o : Option W} (S : Sim K ι F l h σ H) (ea : ι[n]? = some a) (e : itN h n i = some o) :
    ∃ vs, SqL K H a vs ∧ ItR K ι F H i vs o := by
  unfold itN at e
  split at e
  · rename_i ws eh
    cases e
    obtain ⟨nf, vs, hv, r⟩ := S.hs.ob n a _ ea eh
    exact ⟨vs, SqL.of hv, r.getW i⟩
  · rename_i ds eh
    cases e
    obtain ⟨f, rp⟩ := S.hs.ob n a _ ea eh
    cases rp with
    | @lst _ vs _ f e r =>
      refine ⟨vs, SqL.of e, ?_⟩
      cases z : ds[i]? with
      | none =>
        have := List.getElem?_eq_none_iff.mp z
        have := r.length
        exact show vs.length ≤ i by omega
      | some d =>
        obtain ⟨v, ev, rv⟩ := r.get z
        exact ⟨v, ev, rv⟩
  · cases e
inductive Sr where
  | st (ds : List D) | nm (n : Nat)
abbrev FK := Ls → Hs → R Sr
def relK (K : PySem.W.Frag) (ι : List Addr) (F : Addr → Prop) (H : Hp) : Sr → It → Prop
  | .st ds, J => Yields K J F H ds
  | .nm n, J => ∃ a, ι[n]? = some a ∧ J = Itl K a
def tJ (K : PySem.W.Frag) (Wx : WX) (f : FK) : TI := fun σ H R => ∃ ι F l h, Sim K ι F l h σ H ∧ Sat K Wx (relK K) ι F l σ H (f l h) R
abbrev VJ (X : Cx) (Wx : WX) (tg iter : Expr) (f : FK) : Prop := PI X tg iter (tJ X.K Wx f)
def fSta (fi : FI) : FK := fun l h => (fi l h).bind fun ds l h => .ok (.st ds) l h
def fAny (fe : FE) : FK := fun l h => (fe l h).bind fun w l h => match w with
  | .r n => (match itN h n 0 with
    | some _ => .ok (.nm n) l h
    | none => .no)
  | w => (match fz l h w with
    | some (d, l, h) => (match seqD d with
      | some ds => .ok (.st ds) l h
      | none => .no)
    | none => .no)
/-! targets of values -/
def tGW (K : PySem.W.Frag) (vs : List Nat) (g : W → FS) : TG := fun v σ H Q => ∃ ι F l h w, Sim K ι F l h σ H ∧ WR K ι F H w v ∧ (match g w l h with
  | .ok .nx l' h' => ∀ σ' ι' F' H', Only vs σ σ' → Aft ι F l σ H ι' F' l' σ' H' → Sim K ι' F' l' h' σ' H' → Q σ' H'
  | _ => False)
abbrev VGW (X : Cx) (tg : Expr) (vs : List Nat) (g : W → FS) : Prop := PG X tg (tGW X.K vs g)
def gOf (g : FG) : W → FS := fun w => match w with
  | .v d => g d
  | _ => fun _ _ => .no
def gNmW (i : Nat) : W → FS := fun w => match w with
  | .v d => gNm i d
  | .r n => fun l h => (match notP l i with
    | true => .ok .nx (l.set i (.r n)) h
    | false => .no)
  | .s _ => fun _ _ => .no
section
variable {X : Cx} {Wx : WX} {tg e : Expr} {fe : FE} {pos : Pos} {g : FG} {vs : List Nat}
theorem vgw_of (h : VG X tg vs g) : VGW X tg vs (gOf g) := PG.imp h fun v σ H Q ⟨ι, F, l, h, w, S, r, q⟩ => by
  cases w with
  | v d => exact ⟨ι, F, l, h, d, S, r, q⟩
  | r n => exact q.elim
  | s i => exact q.elim
theorem gNmW_t {K : PySem.W.Frag} {i : Nat} {v : V} {σ : L2.St} {H : Hp} {Q : L2.St → Hp → Prop} (q : tGW K [i] (gNmW i) v σ H Q) : Q (σ.set i (some v)) H := by
  obtain ⟨ι, F, l, h, w, S, r, q⟩ := q
  cases w with
  | v d => exact gNm_t ⟨ι, F, l, h, d, S, r, q⟩
  | s j => exact q.elim
  | r m =>
    unfold gNmW at q
    dsimp only at q
    cases n : notP l i with
    | false => simp only [n] at q
    | true =>
      simp only [n] at q
      obtain ⟨np, hi⟩ := notP_ok n
      rw [S.len] at hi
      exact q _ ι F H Only.set (Aft.set S hi (fun _ _ z => by cases z) np) (S.set (y := .r m) hi r fun b d a y => by cases y)
theorem vgw_name {i : Nat} {x : Str} (hN : X.N.Nodup) (hi : X.N[i]? = some x) (hx : Loc X.env.scope x) (hf : X.fn x = true ∨ X.env.scope.names.lookup x = some .local := by first | exact .inl rfl | exact .inr rfl | assumption) : VGW X (.Name x pos) [i] (gNmW i) :=
  PG.imp (pg_name hN hi hx hf) fun v σ H Q q => gNmW_t q
theorem vj_sta {fi : FI} (h : VI X Wx tg e fi) : VJ X Wx tg e (fSta fi) := PI.imp h fun σ H R ⟨ι, F, l, h, S, q⟩ =>
  ⟨ι, F, l, h, S, Sat.cut (rel := fun _ F' H' ds (J : It) => Yields X.K J F' H' ds) q fun ds l1 h1 J ι1 F1 H1 a1 S1 y1 q1 => Sat.here S1 q1 y1⟩
theorem vj_any (he : VE X Wx e fe) : VJ X Wx tg e (fAny fe) := PI.imp (PI.or (pi_list he) (pi_tup he)) fun σ H R' ⟨ι, F, l, h, S, q⟩ => by
  unfold fAny at q
  cases z : fe l h with
  | no => rw [z] at q; exact False.elim q
  | ex x l1 h1 =>
    rw [z] at q
    exact .inl ⟨ι, F, l, h, S, by rw [z]; exact q⟩
  | ok w l1 h1 =>
    rw [z] at q
    unfold R.bind at q
    have sta : (Sat X.K Wx (relK X.K) ι F l σ H (match fz l1 h1 w with
      | some (d, l, h) => (match seqD d with
        | some ds => R.ok (.st ds) l h
        | none => .no)
      | none => .no) R') → iList X.K (tE X.K Wx fe) σ H R' ∨ iTup X.K (tE X.K Wx fe) σ H R' := fun q => by
      cases y : fz l1 h1 w with
      | none => simp only [y] at q; exact False.elim q
      | some pp =>
        obtain ⟨d, l2, h2⟩ := pp
        simp only [y] at q
        cases d with
        | lst ds =>
          refine .inl ⟨ι, F, l, h, S, ?_⟩
          rw [z]
          intro v ι1 F1 H1 A1 S1 r1
          obtain ⟨F2, S2, A2, rp⟩ := fz_ok S1 r1 y
          cases rp with
          | lst f e r => exact ⟨_, rfl, ⟨_, SqL.of e⟩, q _ ι1 F2 H1 (A1.trans A2) S2 (show Yields X.K _ F2 H1 ds from yields_seqL f e r)⟩
        | tup ds =>
          refine .inr ⟨ι, F, l, h, S, ?_⟩
          rw [z]
          intro v ι1 F1 H1 A1 S1 r1
          obtain ⟨F2, S2, A2, rp⟩ := fz_ok S1 r1 y
          obtain ⟨a, vs, rfl, e, r⟩ := rp_tupK rp
          exact ⟨a, rfl, ⟨vs, e F2 H1 ⟨fun _ f => f, fun _ _ _ z => z⟩⟩, q _ ι1 F2 H1 (A1.trans A2) S2 (show Yields X.K _ F2 H1 ds from yields_seqT e r)⟩
        | _ => exact False.elim q
    cases w with
    | v d => exact sta q
    | s i => exact sta q
    | r n =>
      dsimp only at q
      cases y : itN h1 n 0 with
      | none => simp only [y] at q; exact False.elim q
      | some o =>
        simp only [y] at q
        refine .inl ⟨ι, F, l, h, S, ?_⟩
        rw [z]
        intro v ι1 F1 H1 A1 S1 r1
        obtain ⟨a, ea, rfl⟩ := r1
        obtain ⟨vs, hv, _⟩ := itN_ok S1 ea y
        exact ⟨a, rfl, ⟨vs, hv⟩, q _ ι1 F1 H1 A1 S1 ⟨a, ea, rfl⟩⟩
end
/-! for -/
def forN (g : W → FS) (fb : FS) (n : Nat) : Nat → Nat → FS
  | 0, _, _, _ => .no
  | m + 1, i, l, h => match itN h n i with
    | none => .no
    | some none => .ok .nx l h
    | some (some w) => match g w l h with
      | .ok .nx l h => (fb l h).bind fun fl l h => match fl with
        | .nx => forN g fb n m (i + 1) l h
        | .ct => forN g fb n m (i + 1) l h
        | .bk => .ok .nx l h
        | .rt w => .ok (.rt w) l h
        | .ro d => .ok (.ro d) l h
      | _ => .no
def forK (g : W → FS) (fb : FS) (s : Sr) : FS := fun l h => match s with
  | .st ds => forL (fun d => g (.v d)) fb ds l h
  | .nm n => forN g fb n (lenN h n + 1) 0 l h
def sForK (fk : FK) (g : W → FS) (fb : FS) : FS := fun l h => (fk l h).bind fun s l h => forK g fb s l h
section
variable {X : Cx} {Wx : WX} {fk : FK} {g : W → FS} {fb : FS} {tg : Expr} {pos : Pos}
theorem vs_forK {iter : Expr} {body : List Stmt} (hp : PassesOwn (model X.prog X.w) X.A X.env X.xe) (hc : X.calm = true) (hi : VJ X Wx tg iter fk) {vs : List Nat} (hg : VGW X tg vs g) (hb : VSs X Wx body fb)
    (hs : ∀ x, foldedSetIterable iter X.env x = pure x := by intro _; rfl) : VS X Wx (.For tg iter body [] pos) (sForK fk g fb) := PS.imp (ps_for hp hc hi hg hb hs) fun D σ H ⟨ι, F, l, h, S, q⟩ =>
  ⟨ι, F, l, h, S, Sat.cutS q fun s l1 h1 J ι1 F1 H1 a1 S1 y1 q1 => by
    cases s with
    | nm n =>
      obtain ⟨a, ea, rfl⟩ := y1
      refine ⟨fun i m σ' H' => ∃ ι2 F2 l2 h2, Sim X.K ι2 F2 l2 h2 σ' H' ∧ ι2[n]? = some a ∧ SatS X.K Wx ι2 F2 l2 σ' H' (forN g fb n m i l2 h2) D, ⟨_, ι1, F1, l1, h1, S1, ea, q1⟩, ?_⟩
      rintro i m σ2 H2 ⟨ι2, F2, l2, h2, S2, e2, q2⟩
      cases m with
      | zero => exact q2.elim
      | succ m =>
        unfold forN at q2
        cases c : itN h2 n i with
        | none => simp only [c] at q2; exact q2.elim
        | some o =>
          obtain ⟨vs', hv, ho⟩ := itN_ok S2 e2 c
          cases o with
          | none =>
            simp only [c] at q2
            exact .inl ⟨⟨vs', hv, ho⟩, q2 σ2 ι2 F2 H2 Aft.refl S2⟩
          | some w =>
            simp only [c] at q2
            obtain ⟨v, ev, rw_⟩ := ho
            refine .inr ⟨⟨vs', v, hv, ev⟩, fun σ' H' => ∃ ι3 F3 l3 h3, Sim X.K ι3 F3 l3 h3 σ' H' ∧ ι3[n]? = some a ∧ SatS X.K Wx ι3 F3 l3 σ' H' (forN g fb n m (i + 1) l3 h3) D, fun σ' H' z => ⟨m, Nat.lt_succ_self m, z⟩, fun x H' yy => ?_⟩
            obtain ⟨rfl, yy⟩ := yy
            have ex := yy vs' hv
            rw [ev] at ex
            cases ex
            refine ⟨ι2, F2, l2, h2, w, S2, rw_, ?_⟩
            cases e : g w l2 h2 with
            | no => simp only [e] at q2; exact q2
            | ex x l3 h3 => simp only [e] at q2; exact q2
            | ok fl l3 h3 =>
              cases fl with
              | nx =>
                simp only [e] at q2 ⊢
                intro σ' ι' F' H'' _ A S'
                refine ⟨ι', F', l3, h3, S', ?_⟩
                have q4 := SatS.later A q2
                have e4 := A.ext.pre_get e2
                cases eb : fb l3 h3 with
                | no => rw [eb] at q4; exact q4
                | ex x l4 h4 => rw [eb] at q4; exact q4
                | ok fl l4 h4 =>
                  rw [eb] at q4
                  cases fl with
                  | nx => exact fun σ4 ι4 F4 H4 A4 S4 => ⟨ι4, F4, l4, h4, S4, A4.ext.pre_get e4, SatS.later A4 q4⟩
                  | ct => exact fun σ4 ι4 F4 H4 A4 S4 => ⟨ι4, F4, l4, h4, S4, A4.ext.pre_get e4, SatS.later A4 q4⟩
                  | bk => exact q4
                  | rt w => exact q4
                  | ro d => exact q4
              | _ => simp only [e] at q2; exact q2
    | st ds =>
      have y1 : Yields X.K J F1 H1 ds := y1
      have q1 : SatS X.K Wx ι1 F1 l1 σ H1 (forL (fun d => g (.v d)) fb ds l1 h1) D := q1
      refine ⟨fun i m σ' H' => i ≤ ds.length ∧ m = ds.length - i ∧ ∃ ι2 F2 l2 h2, Sim X.K ι2 F2 l2 h2 σ' H' ∧ Kp F1 F2 H1 H' ∧ SatS X.K Wx ι2 F2 l2 σ' H' (forL (fun d => g (.v d)) fb (ds.drop i) l2 h2) D, ⟨_, Nat.zero_le _, rfl, ι1, F1, l1, h1, S1, Kp.refl, q1⟩, ?_⟩
      rintro i m σ2 H2 ⟨hi, rfl, ι2, F2, l2, h2, S2, k2, q2⟩
      rcases Nat.lt_or_ge i ds.length with c | c
      · refine .inr ⟨y1.go i F2 H2 k2 c, fun σ' H' => i + 1 ≤ ds.length ∧ ∃ ι3 F3 l3 h3, Sim X.K ι3 F3 l3 h3 σ' H' ∧ Kp F1 F3 H1 H' ∧ SatS X.K Wx ι3 F3 l3 σ' H' (forL (fun d => g (.v d)) fb (ds.drop (i + 1)) l3 h3) D, fun σ' H' ⟨c', z⟩ => ⟨ds.length - (i + 1), by omega, c', rfl, z⟩, fun x H' yy => ?_⟩
        have ed : ds.drop i = ds[i] :: ds.drop (i + 1) := List.drop_eq_getElem_cons c
        obtain ⟨F3, S3, A3, rp⟩ := y1.yld i ds[i] ι2 F2 l2 h2 σ2 H2 x H' (List.getElem?_eq_getElem c) S2 k2 yy
        rw [ed] at q2
        have q3 := SatS.later A3 q2
        unfold forL at q3
        refine ⟨ι2, F3, l2, h2, .v ds[i], S3, rp, ?_⟩
        cases e : g (.v ds[i]) l2 h2 with
        | no => simp only [e] at q3; exact q3
        | ex x l3 h3 => simp only [e] at q3; exact q3
        | ok fl l3 h3 =>
          cases fl with
          | nx =>
            simp only [e] at q3 ⊢
            intro σ' ι' F' H'' _ A S'
            refine ⟨ι', F', l3, h3, S', ?_⟩
            have q4 := SatS.later A q3
            have k4 : Kp F1 F' H1 H'' := k2.trans (A3.ext.kp.trans A.ext.kp)
            cases e2 : fb l3 h3 with
            | no => rw [e2] at q4; exact q4
            | ex x l4 h4 => rw [e2] at q4; exact q4
            | ok fl l4 h4 =>
              rw [e2] at q4
              cases fl with
              | nx => exact fun σ4 ι4 F4 H4 A4 S4 => ⟨c, ι4, F4, l4, h4, S4, k4.trans A4.ext.kp, SatS.later A4 q4⟩
              | ct => exact fun σ4 ι4 F4 H4 A4 S4 => ⟨c, ι4, F4, l4, h4, S4, k4.trans A4.ext.kp, SatS.later A4 q4⟩
              | bk => exact q4
              | rt w => exact q4
              | ro d => exact q4
          | rt w => simp only [e] at q3; exact q3
          | ro d => simp only [e] at q3; exact q3
          | bk => simp only [e] at q3; exact q3
          | ct => simp only [e] at q3; exact q3
      · have : i = ds.length := Nat.le_antisymm hi c
        subst this
        refine .inl ⟨y1.stop F2 H2 k2, ?_⟩
        rw [List.drop_length] at q2
        exact q2 σ2 ι2 F2 H2 Aft.refl S2⟩
end
/-! comprehensions -/
def lcN (g : W → FS) (ft : FT) (fe : FE) (vs : List Nat) (n : Nat) : Nat → Nat → List D → Ls → Hs → R (List D)
  | 0, _, _, _, _ => .no
  | m + 1, i, acc, l, h => match itN h n i with
    | none => .no
    | some none => .ok acc l h
    | some (some w) => match g w l h with
      | .ok .nx l h => (match ft l h with
        | .ok true l h => (match fe l h with
          | .ok w l h => (match fz l h w, sz (acc.length + 1) with
            | some (d', l, h), true => lcN g ft fe vs n m (i + 1) (acc ++ [d']) (wipeL l vs) h
            | _, _ => .no)
          | _ => .no)
        | .ok false l h => lcN g ft fe vs n m (i + 1) acc (wipeL l vs) h
        | _ => .no)
      | _ => .no
def lcK (g : W → FS) (ft : FT) (fe : FE) (vs : List Nat) (s : Sr) : Ls → Hs → R (List D) := fun l h => match s with
  | .st ds => (match sz ds.length with
    | true => lcL (fun d => g (.v d)) ft fe vs ds [] l h
    | false => .no)
  | .nm n => lcN g ft fe vs n (lenN h n + 1) 0 [] l h
def fLcK (fk : FK) (g : W → FS) (ft : FT) (fe : FE) (vs : List Nat) : FL := fun l h => (fk l h).bind fun s l h => match noM l vs with
  | true => (match lcK g ft fe vs s (wipeL l vs) h with
    | .ok acc l' h => .ok (.lst acc) (resL l l' vs) h
    | _ => .no)
  | false => .no
section
variable {X : Cx} {Wx : WX} {elt tg iter : Expr} {ifs : List Expr} {scope : Scope} {own : List (Str × Nat)} {pos : Pos} {fk : FK} {g : W → FS} {ft : FT} {fe : FE} {ws : List Nat}
theorem tGW_v {K : PySem.W.Frag} {v : V} {σ : L2.St} {H : Hp} {Q : L2.St → Hp → Prop} (q : tG K ws (fun d => g (.v d)) v σ H Q) : tGW K ws g v σ H Q := by
  obtain ⟨ι, F, l, h, d, S, r, q⟩ := q
  exact ⟨ι, F, l, h, .v d, S, r, q⟩
theorem lcN_turn {K : PySem.W.Frag} {ι1 : List Addr} {F1 : Addr → Prop} {l1 : Ls} {h1 : Hs} {σ : L2.St} {H1 : Hp} {n m0 : Nat} {a : Addr} {Q : VK} {D : Addr} {vs : List Nat} (sub : ∀ i, i ∈ ws → i ∈ vs)
    (S1 : Sim K ι1 F1 l1 h1 (L2.wipe σ vs) H1) (ea : ι1[n]? = some a) (hD : H1 D = none) (q : SatC K vs D ι1 F1 l1 σ H1 (lcN g ft fe vs n m0 0 [] l1 h1) Q) :
    ∃ W : Nat → Nat → Hp → Prop, (∃ m, W 0 m (upd H1 D (.lst []))) ∧ ∀ i m H, W i m H →
      ((Itl K a).stop i H ∧ Q (.ref D) H) ∨ ((Itl K a).go i H ∧ ∃ Nx : Hp → Prop, (∀ H', Nx H' → ∃ m', m' < m ∧ W (i + 1) m' H') ∧ ∀ x H', (Itl K a).yld i H x H' → tGW K ws g x (L2.wipe σ vs) H' fun σ2 H2 => L2.wipe σ2 vs = L2.wipe σ vs ∧ tT K WN ft σ2 H2 fun b H3 =>
        if b = true then tE K WN fe σ2 H3 fun y H4 => ∃ acc, H4 D = some (.lst acc) ∧ acc.length < sizeLine ∧ Nx (upd H4 D (.lst (acc ++ [y]))) else Nx H3) := by
  let T : Nat → Nat → Hp → Prop := fun i m H => ∃ ι F l h acc us, Sim K ι F l h (L2.wipe σ vs) H ∧ Aft ι1 F1 l1 (L2.wipe σ vs) H1 ι F l (L2.wipe σ vs) H ∧ Off ι F l (L2.wipe σ vs) D ∧ H D = some (.lst us) ∧ RpL K F H acc us ∧ SatC K vs D ι1 F1 l1 σ H1 (lcN g ft fe vs n m i acc l h) Q
  obtain ⟨n1, n2, n3⟩ := S1.none_ow hD
  refine ⟨T, ⟨m0, ι1, F1, l1, h1, [], [], S1.laid hD, Aft.laid hD, ⟨n1, n2, n3⟩, upd_same, .nil, q⟩, ?_⟩
  rintro i m H ⟨ι, F, l, h, acc, us, S, A, off, eD, rr, q⟩
  have e2 := A.ext.pre_get ea
  cases m with
  | zero => exact q.elim
  | succ m =>
    unfold lcN at q
    cases c : itN h n i with
    | none => simp only [c] at q; exact q.elim
    | some o =>
      obtain ⟨vs', hv, ho⟩ := itN_ok S e2 c
      cases o with
      | none =>
        simp only [c] at q
        exact .inl ⟨⟨vs', hv, ho⟩, q ι F H A S off ⟨us, eD, rr⟩⟩
      | some w =>
        simp only [c] at q
        obtain ⟨v, ev, rw_⟩ := ho
        refine .inr ⟨⟨vs', v, hv, ev⟩, T (i + 1) m, fun H' t => ⟨m, Nat.lt_succ_self m, t⟩, fun x H' yy => ?_⟩
        obtain ⟨rfl, yy⟩ := yy
        have ex := yy vs' hv
        rw [ev] at ex
        cases ex
        have q3 := q
        refine ⟨ι, F, l, h, w, S, rw_, ?_⟩
        cases e : g w l h with
        | no => simp only [e] at q3; exact q3
        | ex x l3 h3 => simp only [e] at q3; exact q3
        | ok fl l4 h4 =>
          cases fl with
          | nx =>
            simp only [e] at q3 ⊢
            intro σ' ι4 F4 H4 only A4 S4
            have hw : L2.wipe σ' vs = L2.wipe σ vs := wipe_only only sub
            obtain ⟨off4, eD4⟩ := off.aft eD A4
            refine ⟨hw, ι4, F4, l4, h4, S4, ?_⟩
            cases e2 : ft l4 h4 with
            | no => simp only [e2] at q3; exact q3
            | ex x l5 h5 => simp only [e2] at q3; exact q3.elim
            | ok b l5 h5 =>
              intro b' ι5 F5 H5 A5 S5 rb
              cases (show b = b' from rb)
              obtain ⟨off5, eD5⟩ := off4.aft eD4 A5
              have A35 := A4.trans A5
              cases b with
              | false =>
                simp only [e2] at q3
                have At := A35.turn S hw
                obtain ⟨off6, eD6⟩ := off.aft eD At
                exact ⟨ι5, F5, wipeL l5 vs, h5, acc, us, S5.turn hw, A.trans At, off6, eD6, rr.kp A35.ext.kp, q3⟩
              | true =>
                simp only [e2] at q3
                refine ⟨ι5, F5, l5, h5, S5, ?_⟩
                cases e3 : fe l5 h5 with
                | no => simp only [e3] at q3; exact q3
                | ex x l6 h6 => simp only [e3] at q3; exact q3.elim
                | ok w l6 h6 =>
                  simp only [e3] at q3
                  intro y ι6 F6 H6 A6 S6 ry
                  cases e4 : fz l6 h6 w with
                  | none => simp only [e4] at q3; exact q3.elim
                  | some p =>
                    obtain ⟨d', l7, h7⟩ := p
                    cases e5 : sz (acc.length + 1) with
                    | false => simp only [e4, e5] at q3; exact q3.elim
                    | true =>
                      simp only [e4, e5] at q3
                      obtain ⟨F7, S7, A7, rp7⟩ := fz_ok S6 ry e4
                      have A37 := A35.trans (A6.trans A7)
                      obtain ⟨off7, eD7⟩ := off.aft eD A37
                      have At := A37.turn S hw
                      obtain ⟨off8, eD8⟩ := off.aft eD At
                      obtain ⟨S9, ku⟩ := off8.put (u := .lst (us ++ [y])) (S7.turn hw) eD8
                      have zz := sz_ok e5
                      refine ⟨us, eD7, by rw [← rr.length]; omega, ι6, F7, wipeL l7 vs, h7, acc ++ [d'], us ++ [y], S9, (A.trans At).put hD, off8, upd_same, ku _ _ ((rr.kp A37.ext.kp).append (.one rp7)), q3⟩
          | _ => simp only [e] at q3; exact q3
/-- [elt for tg in iter if ..]: D the new list -/
theorem lcK_t {K : PySem.W.Frag} {vs : List Nat} {σ : L2.St} {H : Hp} {Q : VK} (sub : ∀ i, i ∈ ws → i ∈ vs) (q : tL K Wx (fLcK fk g ft fe vs) σ H Q) :
    tLc (tJ K Wx fk) (tGW K ws g) (tT K WN ft) (tE K WN fe) vs σ H Q := by
  obtain ⟨ι, F, l, h, S, q⟩ := q
  refine ⟨ι, F, l, h, S, Sat.cutL (rel := relK K) q fun s l1 h1 J ι1 F1 H1 a1 S1 y1 q1 => ?_⟩
  cases c : noM l1 vs with
  | false => rw [c] at q1; exact q1.elim
  | true =>
    rw [c] at q1
    intro D hD
    have fin : SatC K vs D ι1 F1 (wipeL l1 vs) σ H1 (lcK g ft fe vs s (wipeL l1 vs) h1) Q := by
      simp only at q1
      cases e : lcK g ft fe vs s (wipeL l1 vs) h1 with
      | no => rw [e] at q1; exact q1
      | ex x l2 h2 => rw [e] at q1; exact q1
      | ok acc l2 h2 =>
        rw [e] at q1
        intro ι' F' H' A S' off o
        exact q1 D ι' F' H' (A.wiped c) (S1.res A.ext.pre A.ext.kp S') off.nF off.nι (fun ⟨i, z⟩ => off.nO ⟨i, (own_res z).1⟩) o hD
    cases s with
    | nm n =>
      obtain ⟨a, ea, rfl⟩ := y1
      exact lcN_turn sub S1.wipe ea hD fin
    | st ds =>
      have fin2 : SatC K vs D ι1 F1 (wipeL l1 vs) σ H1 (match sz ds.length with
        | true => lcL (fun d => g (.v d)) ft fe vs ds [] (wipeL l1 vs) h1
        | false => .no) Q := fin
      cases cz : sz ds.length with
      | false => rw [cz] at fin2; exact fin2.elim
      | true =>
        rw [cz] at fin2
        obtain ⟨W, w0, tn⟩ := lc_turn (g := fun d => g (.v d)) sub (sz_ok cz) S1.wipe y1 hD fin2
        refine ⟨W, w0, fun i m H w => (tn i m H w).imp id fun ⟨go, Nx, n1, n2⟩ => ⟨go, Nx, n1, fun x H' yy => tGW_v (n2 x H' yy)⟩⟩
theorem vl_lcK (hc : X.calm = true) (hN : X.N.Nodup) (hi : VJ X Wx tg iter fk) (ok : BlkOk X.N X.env.scope scope own) (sub : ∀ i, i ∈ ws → i ∈ own.map (·.2))
    (hg : ∀ (s : Shared) (H : Hp) (C : Addr) (cl : List (Str × Addr)) (fp : List Addr), VGW (X.blk s H scope (compEnvC scope cl C X.env) fp) tg ws g) (ht : ∀ (s : Shared) (H : Hp) (C : Addr) (cl : List (Str × Addr)) (fp : List Addr), VTs (X.blk s H scope (compEnvC scope cl C X.env) fp) WN ifs ft)
    (he : ∀ (s : Shared) (H : Hp) (C : Addr) (cl : List (Str × Addr)) (fp : List Addr), VE (X.blk s H scope (compEnvC scope cl C X.env) fp) WN elt fe) (hs : ∀ x, foldedSetIterable iter X.env x = pure x := by intro _; rfl) :
    VL X Wx (.ListComp elt [⟨tg, iter, ifs, 0⟩] scope pos) (fLcK fk g ft fe (own.map (·.2))) := PE.imp (pe_lc hc hN hi ok hg ht he hs) fun σ H Q q => lcK_t sub q
end
/-! in contexts -/
section
variable {X : Cx} {Wx : WX} {P : Program} {w : World} {K : PySem.W.Frag} {mg : Str → Option Value} {base : Heap} {N : List Str} {sc : Scope} {b : List Str} {j k i : Nat} {x y : Str} {p pos pos' spos : Pos} {e o value elt tg iter : Expr} {es ifs : List Expr} {f fe fo : FE} {fl : FL} {fa : FA}
theorem Ctx.targetW (c : Ctx X Wx P w K mg base N sc b k) (i : Nat) (nd : N.Nodup := by decide +kernel) (h : N[i]? = some x := by rfl) (v : stoB b x = true := by rfl) : VGW X (.Name x pos) [i] (gNmW i) :=
  vgw_name (by rw [c.eN]; exact nd) (c.nm h) (c.loc v).1 (c.loc v).2
theorem Ctx.forK_ (c : Ctx X Wx P w K mg base N sc b k) {fi : FK} {gt : W → FS} {fb : FS} {body : List Stmt} {vs : List Nat} (hp : PassesOwn (model X.prog X.w) X.A X.env X.xe) (hi : VJ X Wx tg iter fi) (hg : VGW X tg vs gt) (hb : VSs X Wx body fb) (hs : ∀ x, foldedSetIterable iter X.env x = pure x := by intro _; rfl) : VS X Wx (.For tg iter body [] pos) (sForK fi gt fb) := vs_forK hp c.calm hi hg hb hs
variable {fi : FK} {gt : W → FS} {ft : FT} {scope : Scope} {ws : List Nat}
theorem Ctx.lcK (c : Ctx X Wx P w K mg base N sc b k) (own : List (Str × Nat)) (hi : VJ X Wx tg iter fi) (hg : ∀ {Y : Cx}, Ctx Y WN P w K mg base N (relS scope sc) (ownN scope) k → VGW Y tg ws gt) (ht : ∀ {Y : Cx}, Ctx Y WN P w K mg base N (relS scope sc) (ownN scope) k → VTs Y WN ifs ft)
    (he : ∀ {Y : Cx}, Ctx Y WN P w K mg base N (relS scope sc) (ownN scope) k → VE Y WN elt fe) (nd : N.Nodup := by decide +kernel) (ok : blkC N sc scope own = true := by decide +kernel) (hk : scope.kind = .function := by rfl) (sub : ∀ i, i ∈ ws → i ∈ own.map (·.2) := by decide) (hs : ∀ x, foldedSetIterable iter X.env x = pure x := by intro _; rfl) :
    VL X Wx (.ListComp elt [⟨tg, iter, ifs, 0⟩] scope pos) (fLcK fi gt ft fe (own.map (·.2))) :=
  vl_lcK c.calm (by rw [c.eN]; exact nd) hi (by rw [c.eN, c.es]; exact blkOk_by ok) sub (fun s H C cl fp => hg (c.blk s H scope C cl fp (blkOk_by ok).uniq hk)) (fun s H C cl fp => ht (c.blk s H scope C cl fp (blkOk_by ok).uniq hk)) (fun s H C cl fp => he (c.blk s H scope C cl fp (blkOk_by ok).uniq hk)) hs
end
end VL
set_option maxRecDepth 100000
set_option maxHeartbeats 2000000
/-! value functions run: the steps as equations for simp -/
namespace VL
open PySem PySem.Spec PyProof.Rows L2
section
variable {α β : Type} {l : Ls} {h : Hs}
@[simp ↓] theorem R.bind_eq {r : R α} {k : α → Ls → Hs → R β} : r.bind k = match r with
  | .ok a l h => k a l h
  | .ex x l h => .ex x l h
  | .no => .no := Eq.trans rfl rfl
/-! statements -/
@[simp ↓] theorem ap_sNx : sNx l h = .ok .nx l h := Eq.trans rfl rfl
@[simp ↓] theorem ap_sNo : sNo l h = .no := Eq.trans rfl rfl
@[simp ↓] theorem ap_sSeq {f g : FS} : sSeq f g l h = (f l h).bind fun fl l h => match fl with
  | .nx => g l h
  | fl => .ok fl l h := Eq.trans rfl rfl
@[simp ↓] theorem ap_setW {i : Nat} {w : W} : setW i w l h = match stW l h w with
  | none => .no
  | some (y, l, h) => match notP l i with
    | true => .ok .nx (l.set i y) h
    | false => .no := Eq.trans rfl rfl
@[simp ↓] theorem ap_sAsg {i : Nat} {f : FE} : sAsg i f l h = (f l h).bind fun w l h => setW i w l h := Eq.trans rfl rfl
@[simp ↓] theorem ap_sAsgM {i : Nat} {f : FL} : sAsgM i f l h = (f l h).bind fun d l h => match notP l i with
  | true => .ok .nx (l.set i (.m false d)) h
  | false => .no := Eq.trans rfl rfl
@[simp ↓] theorem ap_sAsgG {g : FG} {f : FE} : sAsgG g f l h = (f l h).bind fun w l h => match fz l h w with
  | some (d, l, h) => (match g d l h with
    | .ok .nx l h => .ok .nx l h
    | _ => .no)
  | none => .no := Eq.trans rfl rfl
@[simp ↓] theorem ap_sDrop {f : FE} : sDrop f l h = (f l h).bind fun _ l h => .ok .nx l h := Eq.trans rfl rfl
@[simp ↓] theorem ap_sRet {f : FE} : sRet f l h = (f l h).bind fun w l h => match fz l h w with
  | some (d, l, h) => .ok (.rt (.v d)) l h
  | none => .no := Eq.trans rfl rfl
@[simp ↓] theorem ap_sRetR {f : FE} : sRetR f l h = (f l h).bind fun w l h => .ok (.rt w) l h := Eq.trans rfl rfl
@[simp ↓] theorem ap_sRetL {f : FL} : sRetL f l h = (f l h).bind fun d l h => .ok (.ro d) l h := Eq.trans rfl rfl
@[simp ↓] theorem ap_sRetN : sRetN l h = .ok (.rt (.v .non)) l h := Eq.trans rfl rfl
@[simp ↓] theorem ap_sIf {c : FT} {f g : FS} : sIf c f g l h = (c l h).bind fun b l h => if b = true then f l h else g l h := Eq.trans rfl rfl
@[simp ↓] theorem ap_sFor {fi : FI} {g : FG} {fb : FS} : sFor fi g fb l h = (fi l h).bind fun ds l h => forL g fb ds l h := Eq.trans rfl rfl
@[simp ↓] theorem ap_sAug {go : D → D → Option D} {i : Nat} {f : FE} : sAug go i f l h = match l[i]? with
  | some (.v a) => (f l h).bind fun w l h => (match w with
    | .v b => (match go a b with
      | some z => (match notP l i with
        | true => .ok .nx (l.set i (.v z)) h
        | false => .no)
      | none => .no)
    | _ => .no)
  | _ => .no := Eq.trans rfl rfl
@[simp ↓] theorem ap_sSetI {fo fi fe : FE} : sSetI fo fi fe l h = (fe l h).bind fun y l h => (fo l h).bind fun w l h => (fi l h).bind fun k l h => match k with
  | .v (.int k) => setI l h y k w
  | _ => .no := Eq.trans rfl rfl
@[simp ↓] theorem ap_sFld {cs : List Str} {f : Str} {fo fe : FE} : sFld cs f fo fe l h = (fe l h).bind fun y l h => (fo l h).bind fun w l h => match clsOf l h w with
  | some (c, _) => (match cs.contains c with
    | true => setF l h f y w
    | false => .no)
  | none => .no := Eq.trans rfl rfl
@[simp ↓] theorem ap_sRaise {c : Str} {ns : List Str} {f : FA} : sRaise c ns f l h = (f l h).bind fun ws l h => match fzs l h ws with
  | some (ds, l, h) => if ds.length = ns.length then .ex ⟨c, ns, ds⟩ l h else .no
  | none => .no := Eq.trans rfl rfl
@[simp ↓] theorem ap_sTryAs {i : Nat} {sub : Str → Option Bool} {su : Xn → FS} {fb : FS} : sTryAs i sub su fb l h = match fb l h with
  | .ex x l1 h1 => (match sub x.c with
    | some true => (match notP l1 i with
      | true => goneR i (su x (l1.set i .e) h1)
      | false => .no)
    | some false => .ex x l1 h1
    | none => .no)
  | r => r := Eq.trans rfl rfl
@[simp ↓] theorem ap_suRetF {f : Str} {x : Xn} : suRetF f x l h = match xfld x f with
  | some d => .ok (.rt (.v d)) l h
  | none => .no := Eq.trans rfl rfl
theorem ap_run {n N : Nat} {b : FS} {as : Ls} : run n N b as h = if as.length = n then (match b (as ++ List.replicate (N - n) .e) h with
  | .ok .nx l' h' => .ok (.v .non) (outs as l') h'
  | .ok (.rt (.v d)) l' h' => .ok (.v d) (outs as l') h'
  | .ok (.ro d) l' h' => .ok (.m false d) (outs as l') h'
  | .ok (.rt (.r k)) l' h' => .ok (.r k) (outs as l') h'
  | .ok (.rt (.s i)) l' h' => (match l'[i]? with
    | some (.m false d) => .ok (.m false d) (outs as l') h'
    | _ => .no)
  | .ok _ _ _ => .no
  | .ex x l' h' => .ex x (outs as l') h'
  | .no => .no) else .no := Eq.trans rfl rfl
/-! expressions -/
@[simp ↓] theorem ap_fC {d : D} : fC d l h = .ok (.v d) l h := Eq.trans rfl rfl
@[simp ↓] theorem ap_fVar {i : Nat} : fVar i l h = match l[i]? with
  | some (.v d) => .ok (.v d) l h
  | some (.r n) => .ok (.r n) l h
  | some (.m _ _) => .ok (.s i) l h
  | _ => .no := Eq.trans rfl rfl
@[simp ↓] theorem ap_fBin {g : D → D → Option D} {fa fb : FE} : fBin g fa fb l h = (fa l h).bind fun a l h => (fb l h).bind fun b l h => match dOf l h a, dOf l h b with
  | some x, some y => (match g x y with
    | some z => .ok (.v z) l h
    | none => .no)
  | _, _ => .no := Eq.trans rfl rfl
@[simp ↓] theorem ap_fTst {f : FE} : fTst f l h = (f l h).bind fun w l h => match w with
  | .v (.bl b) => .ok b l h
  | _ => .no := Eq.trans rfl rfl
@[simp ↓] theorem ap_fTru {f : FE} : fTru f l h = (f l h).bind fun w l h => match dOf l h w with
  | some d => (match tru d with
    | some b => .ok b l h
    | none => .no)
  | none => .no := Eq.trans rfl rfl
@[simp ↓] theorem ap_fNot {f : FT} : fNot f l h = (f l h).bind fun b l h => .ok (!b) l h := Eq.trans rfl rfl
@[simp ↓] theorem ap_fAnd {f g : FT} : fAnd f g l h = (f l h).bind fun b l h => if b = true then g l h else .ok false l h := Eq.trans rfl rfl
@[simp ↓] theorem ap_fOr {f g : FT} : fOr f g l h = (f l h).bind fun b l h => if b = true then .ok true l h else g l h := Eq.trans rfl rfl
@[simp ↓] theorem ap_fYes : fYes l h = .ok true l h := Eq.trans rfl rfl
@[simp ↓] theorem ap_fAndV {f g : FE} : fAndV f g l h = (f l h).bind fun w l h => match w with
  | .v (.bl true) => g l h
  | .v (.bl false) => .ok (.v (.bl false)) l h
  | _ => .no := Eq.trans rfl rfl
@[simp ↓] theorem ap_fOrV {f g : FE} : fOrV f g l h = (f l h).bind fun w l h => match w with
  | .v (.bl true) => .ok (.v (.bl true)) l h
  | .v (.bl false) => g l h
  | _ => .no := Eq.trans rfl rfl
@[simp ↓] theorem ap_fNotV {f : FE} : fNotV f l h = (f l h).bind fun w l h => match w with
  | .v (.bl b) => .ok (.v (.bl (!b))) l h
  | _ => .no := Eq.trans rfl rfl
@[simp ↓] theorem ap_fIf {c : FT} {f g : FE} : fIf c f g l h = (c l h).bind fun b l h => if b = true then f l h else g l h := Eq.trans rfl rfl
@[simp ↓] theorem ap_fNeg {f : FE} : fNeg f l h = (f l h).bind fun w l h => match w with
  | .v (.int i) => .ok (.v (.int (-i))) l h
  | _ => .no := Eq.trans rfl rfl
@[simp ↓] theorem ap_fOfL {f : FL} : fOfL f l h = (f l h).bind fun d l h => .ok (.v d) l h := Eq.trans rfl rfl
@[simp ↓] theorem ap_fLst {fa : FA} : fLst fa l h = (fa l h).bind fun ws l h => match fzs l h ws with
  | none => .no
  | some (ds, l, h) => match sz ds.length with
    | true => .ok (.lst ds) l h
    | false => .no := Eq.trans rfl rfl
@[simp ↓] theorem ap_fTup {fa : FA} : fTup fa l h = (fa l h).bind fun ws l h => match fzs l h ws with
  | none => .no
  | some (ds, l, h) => match sz ds.length with
    | true => .ok (.v (.tup ds)) l h
    | false => .no := Eq.trans rfl rfl
@[simp ↓] theorem ap_fNil : fNil l h = .ok [] l h := Eq.trans rfl rfl
@[simp ↓] theorem ap_fCons {f : FE} {fr : FA} : fCons f fr l h = (f l h).bind fun w l h => (fr l h).bind fun ws l h => .ok (w :: ws) l h := Eq.trans rfl rfl
@[simp ↓] theorem ap_fStar {f : FE} {fr : FA} : fStar f fr l h = (f l h).bind fun w l h => match dOf l h w with
  | some d => (match seqR d with
    | some ds => (fr l h).bind fun ws l h => .ok (ds.map .v ++ ws) l h
    | none => .no)
  | none => .no := Eq.trans rfl rfl
@[simp ↓] theorem ap_fCallB {g : List D → Option D} {fa : FA} : fCallB g fa l h = (fa l h).bind fun ws l h => match dsOf l h ws with
  | some ds => (match g ds with
    | some z => .ok (.v z) l h
    | none => .no)
  | none => .no := Eq.trans rfl rfl
@[simp ↓] theorem ap_fCallW {io : List Bool} {g : G} {fa : FA} : fCallW io g fa l h = (fa l h).bind fun ws l h => callW io g l h ws := Eq.trans rfl rfl
@[simp ↓] theorem ap_fCallL {io : List Bool} {g : G} {fa : FA} : fCallL io g fa l h = (fa l h).bind fun ws l h => callL io g l h ws := Eq.trans rfl rfl
@[simp ↓] theorem ap_fMakeH {io : List Bool} {g : G} {c : Str} {fa : FA} : fMakeH io g c fa l h = (fa l h).bind fun ws l h => makeH io g c l h ws := Eq.trans rfl rfl
@[simp ↓] theorem ap_fMakeM {io : List Bool} {g : G} {c : Str} {fa : FA} : fMakeM io g c fa l h = (fa l h).bind fun ws l h => makeM io g c l h ws := Eq.trans rfl rfl
@[simp ↓] theorem ap_fListOf {fa : FA} : fListOf fa l h = (fa l h).bind fun ws l h => match dsOf l h ws with
  | some [d] => (match seqR d with
    | some ds => .ok (.lst ds) l h
    | none => .no)
  | _ => .no := Eq.trans rfl rfl
@[simp ↓] theorem ap_fListO {its : List (Str × Str)} {fa : FA} : fListO its fa l h = (fa l h).bind fun ws l h => match ws with
  | [w] => (match ownD its l h w with
    | some ds => .ok (.lst ds) l h
    | none => .no)
  | _ => .no := Eq.trans rfl rfl
@[simp ↓] theorem ap_fOwnI {its : List (Str × Str)} {fo : FE} : fOwnI its fo l h = (fo l h).bind fun w l h => match ownD its l h w with
  | some ds => .ok ds l h
  | none => .no := Eq.trans rfl rfl
@[simp ↓] theorem ap_fIsi {ft : String → Bool} {fc : Str → Option Bool} {f : FE} : fIsi ft fc f l h = (f l h).bind fun w l h => match dOf l h w with
  | some d => (match isiD ft fc d with
    | some b => .ok (.v (.bl b)) l h
    | none => .no)
  | none => .no := Eq.trans rfl rfl
@[simp ↓] theorem ap_fMet {g : Ls → Hs → W → W → R W} {fo : FE} {fa : FA} : fMet g fo fa l h = (fo l h).bind fun w l h => match isL l h w with
  | true => (fa l h).bind fun ws l h => (match ws with
    | [y] => g l h w y
    | _ => .no)
  | false => .no := Eq.trans rfl rfl
@[simp ↓] theorem ap_fAtt {cs : List Str} {ps : List (Str × Bool × G)} {f : Str} {fo : FE} : fAtt cs ps f fo l h = (fo l h).bind fun w l h => match clsOf l h w with
  | some (c, ns) => (match ps.lookup c with
    | some (io, g) => noEx (callW [io] g l h [w])
    | none => (match cs.contains c with
      | true => (match fldW l h f w with
        | some y => .ok y l h
        | none => .no)
      | false => .no))
  | none => .no := Eq.trans rfl rfl
@[simp ↓] theorem ap_fMeth {ms : List (Str × List Bool × G)} {m : Str} {fo : FE} {fa : FA} : fMeth ms m fo fa l h = (fo l h).bind fun w l h => match clsOf l h w with
  | some (c, ns) => (match ms.lookup c with
    | some (io, g) => (match ns.contains m with
      | true => .no
      | false => (fa l h).bind fun ws l h => callW io g l h (w :: ws))
    | none => .no)
  | none => .no := Eq.trans rfl rfl
@[simp ↓] theorem ap_fBorn {f : FL} : fBorn f l h = (f l h).bind fun d l h => match oOf d with
  | some o => .ok (.r h.length) l (h ++ [o])
  | none => .no := Eq.trans rfl rfl
@[simp ↓] theorem ap_fFrz {f : FE} : fFrz f l h = (f l h).bind fun w l h => match fz l h w with
  | some (d, l, h) => .ok (.v d) l h
  | none => .no := Eq.trans rfl rfl
@[simp ↓] theorem ap_oNone : oNone l h = .ok none l h := Eq.trans rfl rfl
@[simp ↓] theorem ap_oSome {f : FE} : oSome f l h = (f l h).bind fun w l h => match w with
  | .v (.int i) => .ok (some i) l h
  | _ => .no := Eq.trans rfl rfl
@[simp ↓] theorem ap_fSl {f : FE} {fl fh : FO} : fSl f fl fh l h = (f l h).bind fun w l h => (fl l h).bind fun lo l h => (fh l h).bind fun hi l h => match dOf l h w with
  | some d => (match slD d lo hi with
    | some z => .ok (.v z) l h
    | none => .no)
  | none => .no := Eq.trans rfl rfl
@[simp ↓] theorem ap_fSlL {f : FE} {fl fh : FO} : fSlL f fl fh l h = (f l h).bind fun w l h => (fl l h).bind fun lo l h => (fh l h).bind fun hi l h => match dOf l h w with
  | some (.lst ds) => .ok (.lst (cutA ds lo hi)) l h
  | some (.rol ds) => .ok (.lst (cutA ds lo hi)) l h
  | _ => .no := Eq.trans rfl rfl
/-! what is walked -/
@[simp ↓] theorem ap_fSeq {f : FE} : fSeq f l h = (f l h).bind fun w l h => match fz l h w with
  | none => .no
  | some (d, l, h) => match seqD d with
    | some ds => .ok ds l h
    | none => .no := Eq.trans rfl rfl
/-- (by a name of its own: what bnd says is never run) -/
def rng1 (l : Ls) (h : Hs) : List W → R (List D)
  | [.v (.int j)] => (match bnd j with
    | true => .ok (intsFrom 0 j.toNat) l h
    | false => .no)
  | _ => .no
def rng2 (l : Ls) (h : Hs) : List W → R (List D)
  | [.v (.int i), .v (.int j)] => (match bnd i && bnd j with
    | true => .ok (intsFrom i (j - i).toNat) l h
    | false => .no)
  | _ => .no
@[simp ↓] theorem ap_fRng1 {fa : FA} : fRng1 fa l h = (fa l h).bind fun ws l h => rng1 l h ws := Eq.trans rfl rfl
@[simp ↓] theorem ap_fRng2 {fa : FA} : fRng2 fa l h = (fa l h).bind fun ws l h => rng2 l h ws := Eq.trans rfl rfl
theorem rng1_of {j : Int} (hb : bnd j = true) : rng1 l h [.v (.int j)] = .ok (intsFrom 0 j.toNat) l h := by
  unfold rng1
  simp only [hb]
theorem rng2_of {i j : Int} (hb : bnd i = true) (hc : bnd j = true) : rng2 l h [.v (.int i), .v (.int j)] = .ok (intsFrom i (j - i).toNat) l h := by
  unfold rng2
  simp only [hb, hc, Bool.and_self]
theorem ints_nat {m n : Nat} : intsFrom (m : Int) n = (List.range n).map fun k => .int ((m + k : Nat) : Int) := by
  unfold intsFrom
  simp
theorem ints_0 {n : Nat} : intsFrom 0 n = (List.range n).map fun k => .int ((k : Nat) : Int) := by
  unfold intsFrom
  simp
theorem rng1_nat {n : Nat} (c : n ≤ 1000000) : rng1 l h [.v (.int (n : Int))] = .ok ((List.range n).map fun k => .int (k : Nat)) l h :=
  (rng1_of (bndOf (by omega))).trans (by rw [Int.toNat_natCast, ints_0])
theorem rng2_nat {m n : Nat} (c : m ≤ 1000000) (c2 : n ≤ 1000000) : rng2 l h [.v (.int (m : Int)), .v (.int (n : Int))] = .ok ((List.range (n - m)).map fun k => .int ((m + k : Nat) : Int)) l h :=
  (rng2_of (bndOf (by omega)) (bndOf (by omega))).trans (by rw [show ((n : Int) - m).toNat = n - m by omega, ints_nat])
@[simp ↓] theorem ap_fStr {f : FE} : fStr f l h = (f l h).bind fun w l h => match w with
  | .v (.str x) => .ok (signs x) l h
  | _ => .no := Eq.trans rfl rfl
@[simp ↓] theorem ap_gNm {i : Nat} {d : D} : gNm i d l h = match notP l i with
  | true => .ok .nx (l.set i (.v d)) h
  | false => .no := Eq.trans rfl rfl
@[simp ↓] theorem ap_gTupD {n : Nat} {gs : FGs} {d : D} : gTupD n gs d l h = match d with
  | .tup ds => if ds.length = n then gs ds l h else .no
  | _ => .no := Eq.trans rfl rfl
@[simp ↓] theorem ap_gsCons {g : FG} {gs : FGs} {d : D} {ds : List D} : gsCons g gs (d :: ds) l h = match g d l h with
    | .ok .nx l h => gs ds l h
    | _ => .no := Eq.trans rfl rfl
@[simp ↓] theorem ap_gsNil : gsNil [] l h = .ok .nx l h := Eq.trans rfl rfl
/-! comprehensions -/
@[simp ↓] theorem ap_fLc {fi : FI} {g : FG} {ft : FT} {fe : FE} {vs : List Nat} : fLc fi g ft fe vs l h = (fi l h).bind fun ds l h => match noM l vs && sz ds.length with
  | true => (match lcL g ft fe vs ds [] (wipeL l vs) h with
    | .ok acc l' h => .ok (.lst acc) (resL l l' vs) h
    | _ => .no)
  | false => .no := Eq.trans rfl rfl
@[simp ↓] theorem ap_fLc2 {fi : FI} {g : FG} {ft : FT} {fi1 : FI} {g1 : FG} {ft1 : FT} {fe : FE} {vs vs1 : List Nat} : fLc2 fi g ft fi1 g1 ft1 fe vs vs1 l h = (fi l h).bind fun ds l h => match noM l vs with
  | true => (match lc2L g ft fi1 g1 ft1 fe vs vs1 ds [] (wipeL l vs) h with
    | .ok acc l' h => .ok (.lst acc) (resL l l' vs) h
    | _ => .no)
  | false => .no := Eq.trans rfl rfl
/-! numbered lists walked -/
@[simp ↓] theorem ap_fSta {fi : FI} : fSta fi l h = (fi l h).bind fun ds l h => .ok (.st ds) l h := Eq.trans rfl rfl
@[simp ↓] theorem ap_fAny {fe : FE} : fAny fe l h = (fe l h).bind fun w l h => match w with
  | .r n => (match itN h n 0 with
    | some _ => .ok (.nm n) l h
    | none => .no)
  | w => (match fz l h w with
    | some (d, l, h) => (match seqD d with
      | some ds => .ok (.st ds) l h
      | none => .no)
    | none => .no) := Eq.trans rfl rfl
@[simp ↓] theorem ap_gOf {g : FG} {d : D} : gOf g (.v d) l h = g d l h := Eq.trans rfl rfl
@[simp ↓] theorem ap_gNmW_v {i : Nat} {d : D} : gNmW i (.v d) l h = gNm i d l h := Eq.trans rfl rfl
@[simp ↓] theorem ap_gNmW_r {i n : Nat} : gNmW i (.r n) l h = match notP l i with
    | true => .ok .nx (l.set i (.r n)) h
    | false => .no := Eq.trans rfl rfl
@[simp ↓] theorem ap_sForK {fk : FK} {g : W → FS} {fb : FS} : sForK fk g fb l h = (fk l h).bind fun s l h => forK g fb s l h := Eq.trans rfl rfl
@[simp ↓] theorem ap_forK_st {g : W → FS} {fb : FS} {ds : List D} : forK g fb (.st ds) l h = forL (fun d => g (.v d)) fb ds l h := Eq.trans rfl rfl
@[simp ↓] theorem ap_forK_nm {g : W → FS} {fb : FS} {n : Nat} : forK g fb (.nm n) l h = forN g fb n (lenN h n + 1) 0 l h := Eq.trans rfl rfl
@[simp ↓] theorem ap_fLcK {fk : FK} {g : W → FS} {ft : FT} {fe : FE} {vs : List Nat} : fLcK fk g ft fe vs l h = (fk l h).bind fun s l h => match noM l vs with
  | true => (match lcK g ft fe vs s (wipeL l vs) h with
    | .ok acc l' h => .ok (.lst acc) (resL l l' vs) h
    | _ => .no)
  | false => .no := Eq.trans rfl rfl
@[simp ↓] theorem ap_lcK_st {g : W → FS} {ft : FT} {fe : FE} {vs : List Nat} {ds : List D} : lcK g ft fe vs (.st ds) l h = match sz ds.length with
    | true => lcL (fun d => g (.v d)) ft fe vs ds [] l h
    | false => .no := Eq.trans rfl rfl
@[simp ↓] theorem ap_lcK_nm {g : W → FS} {ft : FT} {fe : FE} {vs : List Nat} {n : Nat} : lcK g ft fe vs (.nm n) l h = lcN g ft fe vs n (lenN h n + 1) 0 [] l h := Eq.trans rfl rfl
/-! the small parts -/
@[simp] theorem dOf_v {d : D} : dOf l h (.v d) = some d := Eq.trans rfl rfl
@[simp] theorem dOf_s {i : Nat} : dOf l h (.s i) = match l[i]? with
    | some (.m _ d) => some d
    | _ => none := Eq.trans rfl rfl
@[simp] theorem fz_v {d : D} : fz l h (.v d) = some (d, l, h) := Eq.trans rfl rfl
@[simp] theorem fz_s {i : Nat} : fz l h (.s i) = match l[i]? with
    | some (.m false d) => some (d, l.set i (.v d), h)
    | _ => none := Eq.trans rfl rfl
@[simp] theorem fzs_nil : fzs l h [] = some ([], l, h) := Eq.trans rfl rfl
@[simp] theorem fzs_cons {w : W} {ws : List W} : fzs l h (w :: ws) = match fz l h w with
    | none => none
    | some (d, l, h) => (fzs l h ws).map fun p => (d :: p.1, p.2) := Eq.trans rfl rfl
@[simp] theorem dsOf_nil : dsOf l h [] = some [] := Eq.trans rfl rfl
@[simp] theorem dsOf_cons {w : W} {ws : List W} : dsOf l h (w :: ws) = match dOf l h w, dsOf l h ws with
    | some d, some ds => some (d :: ds)
    | _, _ => none := Eq.trans rfl rfl
@[simp] theorem stW_v {d : D} : stW l h (.v d) = some (.v d, l, h) := Eq.trans rfl rfl
@[simp] theorem stW_r {n : Nat} : stW l h (.r n) = some (.r n, l, h) := Eq.trans rfl rfl
@[simp] theorem stW_s {i : Nat} : stW l h (.s i) = (fz l h (.s i)).map fun p => (.v p.1, p.2) := Eq.trans rfl rfl
@[simp] theorem notP_eq {i : Nat} : notP l i = match l[i]? with
  | some (.m true _) => false
  | some _ => true
  | none => false := Eq.trans rfl rfl
@[simp] theorem isL_s {i : Nat} : isL l h (.s i) = match l[i]? with
    | some (.m _ (.lst _)) => true
    | _ => false := Eq.trans rfl rfl
@[simp] theorem isL_r {n : Nat} : isL l h (.r n) = match h[n]? with
    | some (.lst _) => true
    | _ => false := Eq.trans rfl rfl
@[simp] theorem appW_s {i : Nat} {y : W} : appW l h (.s i) y = match fz l h y with
    | some (d, l, h) => (match l[i]? with
      | some (.m b (.lst ds)) => (match sz (ds.length + 1) with
        | true => .ok (.v .non) (l.set i (.m b (.lst (ds ++ [d])))) h
        | false => .no)
      | _ => .no)
    | none => .no := Eq.trans rfl rfl
@[simp] theorem appW_r {n : Nat} {y : W} : appW l h (.r n) y = match nrm l h y with
    | some (w, l, h) => (match h[n]? with
      | some (.lst ws) => (match sz (ws.length + 1) with
        | true => .ok (.v .non) l (h.set n (.lst (ws ++ [w])))
        | false => .no)
      | _ => .no)
    | none => .no := Eq.trans rfl rfl
@[simp] theorem extW_s {i : Nat} {y : W} : extW l h (.s i) y = match dOf l h y with
    | some (.lst zs) => (match l[i]? with
      | some (.m b (.lst ds)) => (match sz (ds.length + zs.length) with
        | true => .ok (.v .non) (l.set i (.m b (.lst (ds ++ zs)))) h
        | false => .no)
      | _ => .no)
    | _ => .no := Eq.trans rfl rfl
@[simp] theorem nrm_v {d : D} : nrm l h (.v d) = some (.v d, l, h) := Eq.trans rfl rfl
@[simp] theorem nrm_r {n : Nat} : nrm l h (.r n) = some (.r n, l, h) := Eq.trans rfl rfl
@[simp] theorem nrm_s {i : Nat} : nrm l h (.s i) = (fz l h (.s i)).map fun p => (.v p.1, p.2) := Eq.trans rfl rfl
@[simp] theorem setI_s {y : W} {k : Int} {i : Nat} : setI l h y k (.s i) = match fz l h y with
    | some (d, l, h) => (match l[i]? with
      | some (.m b (.lst ds)) => (match ixN ds.length k with
        | some j => .ok .nx (l.set i (.m b (.lst (ds.set j d)))) h
        | none => .no)
      | _ => .no)
    | none => .no := Eq.trans rfl rfl
@[simp] theorem setF_s {f : Str} {y : W} {i : Nat} : setF l h f y (.s i) = match fz l h y with
    | some (d, l, h) => (match l[i]? with
      | some (.m b (.ins c ns ds)) => (match decide (ns.length < 1000 ∧ ns.length = ds.length) with
        | true => .ok .nx (l.set i (.m b (.ins c (putN f d ns ds).1 (putN f d ns ds).2))) h
        | false => .no)
      | _ => .no)
    | none => .no := Eq.trans rfl rfl
@[simp] theorem setF_r {f : Str} {y : W} {n : Nat} : setF l h f y (.r n) = match nrm l h y with
    | some (w, l, h) => (match h[n]? with
      | some (.ins c ns ws) => (match decide (ns.length < 1000 ∧ ns.length = ws.length) with
        | true => .ok .nx l (h.set n (.ins c (putN f w ns ws).1 (putN f w ns ws).2))
        | false => .no)
      | _ => .no)
    | none => .no := Eq.trans rfl rfl
@[simp] theorem putN_nil {α : Type} {f : Str} {v : α} : putN f v [] [] = ([f], [v]) := Eq.trans rfl rfl
@[simp] theorem putN_cons {α : Type} {f n : Str} {v x : α} {ns : List Str} {xs : List α} : putN f v (n :: ns) (x :: xs) = if n = f then (n :: ns, v :: xs) else ((n :: (putN f v ns xs).1), (x :: (putN f v ns xs).2)) := Eq.trans rfl rfl
@[simp] theorem clsOf_v {c : Str} {ns : List Str} {xs : List D} : clsOf l h (.v (.ins c ns xs)) = some (c, ns) := Eq.trans rfl rfl
@[simp] theorem clsOf_s {i : Nat} : clsOf l h (.s i) = match l[i]? with
    | some (.m _ (.ins c ns _)) => some (c, ns)
    | _ => none := Eq.trans rfl rfl
@[simp] theorem clsOf_r {n : Nat} : clsOf l h (.r n) = match h[n]? with
    | some (.ins c ns _) => some (c, ns)
    | some (.frz (.ins c ns _)) => some (c, ns)
    | _ => none := Eq.trans rfl rfl
@[simp] theorem fldW_v {c f : Str} {ns : List Str} {xs : List D} : fldW l h f (.v (.ins c ns xs)) = ((ns.zip xs).lookup f).map .v := Eq.trans rfl rfl
@[simp] theorem fldW_s {f : Str} {i : Nat} : fldW l h f (.s i) = match l[i]? with
    | some (.m _ (.ins _ ns xs)) => ((ns.zip xs).lookup f).map .v
    | _ => none := Eq.trans rfl rfl
@[simp] theorem fldW_r {f : Str} {n : Nat} : fldW l h f (.r n) = match h[n]? with
    | some (.ins _ ns ws) => (ns.zip ws).lookup f
    | some (.frz (.ins _ ns xs)) => ((ns.zip xs).lookup f).map .v
    | _ => none := Eq.trans rfl rfl
@[simp] theorem noEx_ok {α : Type} {a : α} : noEx (.ok a l h) = .ok a l h := Eq.trans rfl rfl
@[simp] theorem mkA_nil {io : List Bool} : mkA l h io [] = some ([], l, h) := by unfold mkA; rfl
@[simp] theorem mkA_ts {io : List Bool} {i : Nat} {ws : List W} : mkA l h (true :: io) (.s i :: ws) = match l[i]? with
    | some (.m _ d) => (mkA (l.set i .e) h io ws).map fun p => (.m true d :: p.1, p.2)
    | _ => none := by
  first
  | (rw [mkA]; done)
  | (rw [mkA]; rfl)
@[simp] theorem mkA_fr {io : List Bool} {n : Nat} {ws : List W} : mkA l h (false :: io) (.r n :: ws) = (mkA l h io ws).map fun p => (.r n :: p.1, p.2) := by
  first
  | (rw [mkA]; done)
  | (rw [mkA]; rfl)
@[simp] theorem mkA_fv {io : List Bool} {d : D} {ws : List W} : mkA l h (false :: io) (.v d :: ws) = (mkA l h io ws).map fun p => (.v d :: p.1, p.2) := by
  first
  | (rw [mkA]; done)
  | (rw [mkA]; rfl; done)
  | (rw [mkA]; rfl; intro n z; cases z; done)
  | (rw [mkA]; intro n z; cases z; done)
  | (rw [mkA]; intro n z; cases z; rfl)
@[simp] theorem mkA_fs {io : List Bool} {i : Nat} {ws : List W} : mkA l h (false :: io) (.s i :: ws) = match fz l h (.s i) with
    | none => none
    | some (d, l, h) => (mkA l h io ws).map fun p => (.v d :: p.1, p.2) := by
  first
  | (rw [mkA]; done)
  | (rw [mkA]; rfl; done)
  | (rw [mkA]; rfl; intro n z; cases z; done)
  | (rw [mkA]; intro n z; cases z; done)
  | (rw [mkA]; intro n z; cases z; rfl)
/-! calls -/
@[simp] theorem ap_callW {io : List Bool} {g : G} {ws : List W} : callW io g l h ws = match mkA l h io ws with
  | none => .no
  | some (as, l1, h) => match g as h with
    | .ok w as' h => (match resW w with
      | some w => (match poB l (putB l io ws as' l1) with
        | true => .ok w (putB l io ws as' l1) h
        | false => .no)
      | none => .no)
    | .ex x as' h => (match poB l (putB l io ws as' l1) with
        | true => .ex x (putB l io ws as' l1) h
        | false => .no)
    | .no => .no := Eq.trans rfl rfl
@[simp] theorem ap_callL {io : List Bool} {g : G} {ws : List W} : callL io g l h ws = match mkA l h io ws with
  | none => .no
  | some (as, l1, h) => match g as h with
    | .ok (.m false d) as' h => (match poB l (putB l io ws as' l1) with
      | true => .ok d (putB l io ws as' l1) h
      | false => .no)
    | .ok _ _ _ => .no
    | .ex x as' h => (match poB l (putB l io ws as' l1) with
        | true => .ex x (putB l io ws as' l1) h
        | false => .no)
    | .no => .no := Eq.trans rfl rfl
@[simp] theorem ap_makeM {io : List Bool} {g : G} {c : Str} {ws : List W} : makeM io g c l h ws = match mkA l h io ws with
  | none => .no
  | some (as, l1, h) => match g (.m true (.ins c [] []) :: as) h with
    | .ok (.v .non) (.m true d :: as') h => (match poB l (putB l io ws as' l1) with
      | true => .ok d (putB l io ws as' l1) h
      | false => .no)
    | .ex x (.m true _ :: as') h => (match poB l (putB l io ws as' l1) with
      | true => .ex x (putB l io ws as' l1) h
      | false => .no)
    | _ => .no := Eq.trans rfl rfl
@[simp] theorem ap_makeH {io : List Bool} {g : G} {c : Str} {ws : List W} : makeH io g c l h ws = match mkA l h io ws with
  | none => .no
  | some (as, l1, h1) => match g (.r h1.length :: as) (h1 ++ [.ins c [] []]) with
    | .ok (.v .non) (.r n :: as') h => (match decide (n = h1.length) && poB l (putB l io ws as' l1) with
      | true => .ok (.r n) (putB l io ws as' l1) h
      | false => .no)
    | .ex x (.r n :: as') h => (match decide (n = h1.length) && poB l (putB l io ws as' l1) with
      | true => .ex x (putB l io ws as' l1) h
      | false => .no)
    | _ => .no := Eq.trans rfl rfl
@[simp] theorem resW_v {d : D} : resW (.v d) = some (.v d) := Eq.trans rfl rfl
@[simp] theorem resW_r {n : Nat} : resW (.r n) = some (.r n) := Eq.trans rfl rfl
@[simp] theorem resW_m {d : D} : resW (.m false d) = some (.v d) := Eq.trans rfl rfl
@[simp] theorem putB_t {lo as l : Ls} {io : List Bool} {ws : List W} {i : Nat} {b : Bool} {d : D} : putB lo (true :: io) (.s i :: ws) (.m b d :: as) l = putB lo io ws as (l.set i (.m (match lo[i]? with
      | some (.m b _) => b
      | _ => false) d)) := by
  first
  | (rw [putB]; done)
  | (rw [putB]; rfl)
@[simp] theorem putB_f {lo as l : Ls} {io : List Bool} {w : W} {ws : List W} {a : Sl} : putB lo (false :: io) (w :: ws) (a :: as) l = putB lo io ws as l := by
  rw [putB]
  intro _ _ _ z
  cases z
@[simp] theorem putB_n {lo as l : Ls} {io : List Bool} : putB lo io [] as l = l := by
  unfold putB
  cases io with
  | nil => rfl
  | cons b io => cases b <;> rfl
@[simp] theorem poB_n {l : Ls} : poB [] l = true := by rw [poB]; all_goals (intros; contradiction)
@[simp] theorem poB_t {l l' : Ls} {d d' : D} : poB (.m true d :: l) (.m true d' :: l') = poB l l' := Eq.trans rfl rfl
@[simp] theorem poB_f {l l' : Ls} {d : D} {x : Sl} : poB (.m false d :: l) (x :: l') = poB l l' := Eq.trans rfl rfl
@[simp] theorem poB_v {l l' : Ls} {d : D} {x : Sl} : poB (.v d :: l) (x :: l') = poB l l' := Eq.trans rfl rfl
@[simp] theorem poB_r {l l' : Ls} {n : Nat} {x : Sl} : poB (.r n :: l) (x :: l') = poB l l' := Eq.trans rfl rfl
@[simp] theorem poB_e {l l' : Ls} {x : Sl} : poB (.e :: l) (x :: l') = poB l l' := Eq.trans rfl rfl
@[simp] theorem outs_n {l : Ls} : outs [] l = [] := by cases l <;> rfl
@[simp] theorem outs_t {as l : Ls} {d : D} {x : Sl} : outs (.m true d :: as) (x :: l) = x :: outs as l := Eq.trans rfl rfl
@[simp] theorem outs_f {as l : Ls} {d : D} {x : Sl} : outs (.m false d :: as) (x :: l) = .m false d :: outs as l := Eq.trans rfl rfl
@[simp] theorem outs_v {as l : Ls} {d : D} {x : Sl} : outs (.v d :: as) (x :: l) = .v d :: outs as l := Eq.trans rfl rfl
@[simp] theorem outs_r {as l : Ls} {n : Nat} {x : Sl} : outs (.r n :: as) (x :: l) = .r n :: outs as l := Eq.trans rfl rfl
@[simp] theorem outs_e {as l : Ls} {x : Sl} : outs (.e :: as) (x :: l) = .e :: outs as l := Eq.trans rfl rfl
@[simp] theorem wipeL_n {l : Ls} : wipeL l [] = l := Eq.trans rfl rfl
@[simp] theorem wipeL_c {l : Ls} {v : Nat} {vs : List Nat} : wipeL l (v :: vs) = (wipeL l vs).set v .e := Eq.trans rfl rfl
@[simp] theorem resL_n {l0 l : Ls} : resL l0 l [] = l := Eq.trans rfl rfl
@[simp] theorem resL_c {l0 l : Ls} {v : Nat} {vs : List Nat} : resL l0 l (v :: vs) = (resL l0 l vs).set v (keepS l0[v]?) := Eq.trans rfl rfl
@[simp] theorem keepS_v {d : D} : keepS (some (.v d)) = .v d := Eq.trans rfl rfl
@[simp] theorem keepS_r {n : Nat} : keepS (some (.r n)) = .r n := Eq.trans rfl rfl
@[simp] theorem keepS_e : keepS (some .e) = .e := Eq.trans rfl rfl
@[simp] theorem keepS_m {b : Bool} {d : D} : keepS (some (.m b d)) = .e := Eq.trans rfl rfl
@[simp] theorem noM_eq {l : Ls} {vs : List Nat} : noM l vs = vs.all fun v => match l[v]? with
  | some (.m _ _) => false
  | _ => true := Eq.trans rfl rfl
end
end VL
set_option maxRecDepth 100000
set_option maxHeartbeats 2000000
/-! loops of value functions; sizes; equality of data -/
namespace VL
open PySem PySem.Spec PyProof.Rows L2
theorem szN {n : Nat} (h : n ≤ 16777216) : sz n = true := by
  unfold sz
  rw [sizeLine_eq]
  exact decide_eq_true h
/-! ### for -/
/-- one turn -/
def stepL (g : FG) (fb : FS) (d : D) : FS := fun l h => match g d l h with
  | .ok .nx l h => fb l h
  | _ => .no
@[simp ↓] theorem ap_stepL {g : FG} {fb : FS} {d : D} {l : Ls} {h : Hs} : stepL g fb d l h = match g d l h with
  | .ok .nx l h => fb l h
  | _ => .no := rfl
section
variable {g : FG} {fb : FS} {d : D} {ds : List D} {l l' : Ls} {h h' : Hs} {α β : Type}
theorem forL_nil : forL g fb [] l h = .ok .nx l h := rfl
theorem forL_cons : forL g fb (d :: ds) l h = (stepL g fb d l h).bind fun fl l h => match fl with
      | .nx => forL g fb ds l h
      | .ct => forL g fb ds l h
      | .bk => .ok .nx l h
      | .rt w => .ok (.rt w) l h
      | .ro d => .ok (.ro d) l h := by
  show (match g d l h with
    | .ok .nx l h => (fb l h).bind fun fl l h => match fl with
      | .nx => forL g fb ds l h
      | .ct => forL g fb ds l h
      | .bk => .ok .nx l h
      | .rt w => .ok (.rt w) l h
      | .ro d => .ok (.ro d) l h
    | _ => .no) = _
  unfold stepL
  cases g d l h with
  | no => rfl
  | ex x l h => rfl
  | ok fl l h => cases fl <;> rfl
theorem forL_nx (e : stepL g fb d l h = .ok .nx l' h') : forL g fb (d :: ds) l h = forL g fb ds l' h' := by rw [forL_cons, e]; rfl
theorem forL_ct (e : stepL g fb d l h = .ok .ct l' h') : forL g fb (d :: ds) l h = forL g fb ds l' h' := by rw [forL_cons, e]; rfl
theorem forL_bk (e : stepL g fb d l h = .ok .bk l' h') : forL g fb (d :: ds) l h = .ok .nx l' h' := by rw [forL_cons, e]; rfl
theorem forL_rt {w : W} (e : stepL g fb d l h = .ok (.rt w) l' h') : forL g fb (d :: ds) l h = .ok (.rt w) l' h' := by rw [forL_cons, e]; rfl
/-- a fold: E says how a state lies in the slots -/
theorem forL_fold (E : α → Ls → Hs → Prop) (f : α → β → α) (toD : β → D) : ∀ (xs : List β) (s : α) (l : Ls) (h : Hs), (∀ s x l h, x ∈ xs → E s l h → ∃ l' h', stepL g fb (toD x) l h = .ok .nx l' h' ∧ E (f s x) l' h') → E s l h → ∃ l' h', forL g fb (xs.map toD) l h = .ok .nx l' h' ∧ E (xs.foldl f s) l' h'
  | [], s, l, h, _, e => ⟨l, h, rfl, e⟩
  | x :: xs, s, l, h, hs, e => by
    obtain ⟨l1, h1, e1, q1⟩ := hs s x l h List.mem_cons_self e
    obtain ⟨l2, h2, e2, q2⟩ := forL_fold E f toD xs (f s x) l1 h1 (fun s y l h m => hs s y l h (List.mem_cons_of_mem _ m)) q1
    exact ⟨l2, h2, by rw [List.map_cons, forL_nx e1]; exact e2, q2⟩
/-- a loop with an invariant over what is done; nothing breaks -/
theorem forL_inv (I : List D → Ls → Hs → Prop) : ∀ (ds done : List D) (l : Ls) (h : Hs), (∀ done d l h, I done l h → (∃ l' h', stepL g fb d l h = .ok .nx l' h' ∧ I (done ++ [d]) l' h')) → I done l h → ∃ l' h', forL g fb ds l h = .ok .nx l' h' ∧ I (done ++ ds) l' h'
  | [], done, l, h, _, e => ⟨l, h, rfl, by rw [List.append_nil]; exact e⟩
  | d :: ds, done, l, h, hs, e => by
    obtain ⟨l1, h1, e1, q1⟩ := hs done d l h e
    obtain ⟨l2, h2, e2, q2⟩ := forL_inv I ds (done ++ [d]) l1 h1 hs q1
    exact ⟨l2, h2, by rw [forL_nx e1]; exact e2, by rw [List.append_assoc] at q2; exact q2⟩
/-- a loop that may end early: f tells for a state and an item the next state or what is given back -/
def runFor (f : α → β → α ⊕ D) : List β → α → α ⊕ D
  | [], s => .inl s
  | x :: xs, s => match f s x with
    | .inl s => runFor f xs s
    | .inr d => .inr d
theorem forL_run (E : α → Ls → Hs → Prop) (f : α → β → α ⊕ D) (toD : β → D) : ∀ (xs : List β) (s : α) (l : Ls) (h : Hs), (∀ s x l h, x ∈ xs → E s l h → ∃ l' h', (match f s x with
      | .inl s' => stepL g fb (toD x) l h = .ok .nx l' h' ∧ E s' l' h'
      | .inr d => stepL g fb (toD x) l h = .ok (.rt (.v d)) l' h')) → E s l h → ∃ l' h', (match runFor f xs s with
      | .inl s' => forL g fb (xs.map toD) l h = .ok .nx l' h' ∧ E s' l' h'
      | .inr d => forL g fb (xs.map toD) l h = .ok (.rt (.v d)) l' h')
  | [], s, l, h, _, e => ⟨l, h, rfl, e⟩
  | x :: xs, s, l, h, hs, e => by
    obtain ⟨l1, h1, q1⟩ := hs s x l h List.mem_cons_self e
    unfold runFor
    cases hf : f s x with
    | inr d =>
      rw [hf] at q1
      exact ⟨l1, h1, by rw [List.map_cons, forL_rt q1]⟩
    | inl s' =>
      rw [hf] at q1
      obtain ⟨l2, h2, q2⟩ := forL_run E f toD xs s' l1 h1 (fun s y l h m => hs s y l h (List.mem_cons_of_mem _ m)) q1.2
      refine ⟨l2, h2, ?_⟩
      rw [List.map_cons, forL_nx q1.1]
      exact q2
end
section
variable {g : FG} {fb : FS} {l : Ls} {h : Hs} {β : Type}
theorem forL_from (I : Nat → Ls → Hs → Prop) (toD : β → D) : ∀ (xs : List β) (j : Nat) (l : Ls) (h : Hs), (∀ k (hk : k < xs.length) l h, I (j + k) l h → ∃ l' h', stepL g fb (toD xs[k]) l h = .ok .nx l' h' ∧ I (j + k + 1) l' h') → I j l h → ∃ l' h', forL g fb (xs.map toD) l h = .ok .nx l' h' ∧ I (j + xs.length) l' h'
  | [], j, l, h, _, e => ⟨l, h, rfl, e⟩
  | x :: xs, j, l, h, hs, e => by
    obtain ⟨l1, h1, e1, q1⟩ := hs 0 (by simp) l h e
    rw [List.getElem_cons_zero] at e1
    obtain ⟨l2, h2, e2, q2⟩ := forL_from I toD xs (j + 1) l1 h1 (fun k hk l h i => by
      have := hs (k + 1) (by simpa using hk) l h (by rw [show j + (k + 1) = j + 1 + k by omega]; exact i)
      rw [show j + (k + 1) + 1 = j + 1 + k + 1 by omega] at this
      simpa using this) q1
    refine ⟨l2, h2, by rw [List.map_cons, forL_nx e1]; exact e2, ?_⟩
    rw [show j + (x :: xs).length = j + 1 + xs.length by simp; omega]
    exact q2
/-- by the place of the item -/
theorem forL_idx (I : Nat → Ls → Hs → Prop) (toD : β → D) (xs : List β) (hs : ∀ k (hk : k < xs.length) l h, I k l h → ∃ l' h', stepL g fb (toD xs[k]) l h = .ok .nx l' h' ∧ I (k + 1) l' h') (e : I 0 l h) : ∃ l' h', forL g fb (xs.map toD) l h = .ok .nx l' h' ∧ I xs.length l' h' := by
  obtain ⟨l', h', a, b⟩ := forL_from I toD xs 0 l h (fun k hk l h i => by rw [Nat.zero_add] at i ⊢; exact hs k hk l h i) e
  exact ⟨l', h', a, by rw [Nat.zero_add] at b; exact b⟩
theorem forL_range (I : Nat → Ls → Hs → Prop) (toD : Nat → D) (n : Nat) (hs : ∀ k, k < n → ∀ l h, I k l h → ∃ l' h', stepL g fb (toD k) l h = .ok .nx l' h' ∧ I (k + 1) l' h') (e : I 0 l h) : ∃ l' h', forL g fb ((List.range n).map toD) l h = .ok .nx l' h' ∧ I n l' h' := by
  obtain ⟨l', h', a, b⟩ := forL_idx I toD (List.range n) (fun k hk l h i => by
    have e : (List.range n)[k] = k := by simp
    rw [e]
    exact hs k (by simpa using hk) l h i) e
  exact ⟨l', h', a, by rw [List.length_range] at b; exact b⟩
end
/-- a fold that counts its turns -/
theorem forL_foldI {g : FG} {fb : FS} {α β : Type} (E : Nat → α → Ls → Hs → Prop) (f : α → β → α) (toD : β → D) : ∀ (xs : List β) (j : Nat) (s : α) (l : Ls) (h : Hs), (∀ k s x l h, j ≤ k → k < j + xs.length → x ∈ xs → E k s l h → ∃ l' h', stepL g fb (toD x) l h = .ok .nx l' h' ∧ E (k + 1) (f s x) l' h') → E j s l h → ∃ l' h', forL g fb (xs.map toD) l h = .ok .nx l' h' ∧ E (j + xs.length) (xs.foldl f s) l' h'
  | [], j, s, l, h, _, e => ⟨l, h, rfl, e⟩
  | x :: xs, j, s, l, h, hs, e => by
    obtain ⟨l1, h1, e1, q1⟩ := hs j s x l h (Nat.le_refl _) (by simp) List.mem_cons_self e
    obtain ⟨l2, h2, e2, q2⟩ := forL_foldI E f toD xs (j + 1) (f s x) l1 h1 (fun k s y l h a b m => hs k s y l h (by omega) (by rw [List.length_cons]; omega) (List.mem_cons_of_mem _ m)) q1
    refine ⟨l2, h2, by rw [List.map_cons, forL_nx e1]; exact e2, ?_⟩
    rw [show j + (x :: xs).length = j + 1 + xs.length by rw [List.length_cons]; omega]
    exact q2
/-! ### comprehensions -/
/-- one item: what is taken, if it is -/
def elL (g : FG) (ft : FT) (fe : FE) (vs : List Nat) (d : D) : Ls → Hs → R (Option D) := fun l h => match g d l h with
    | .ok .nx l h => (match ft l h with
      | .ok true l h => (match fe l h with
        | .ok w l h => (match fz l h w with
          | some (d', l, h) => .ok (some d') (wipeL l vs) h
          | none => .no)
        | _ => .no)
      | .ok false l h => .ok none (wipeL l vs) h
      | _ => .no)
    | _ => .no
section
variable {g : FG} {ft : FT} {fe : FE} {vs : List Nat} {d : D} {ds acc : List D} {l l' : Ls} {h h' : Hs} {α β : Type}
@[simp ↓] theorem ap_elL : elL g ft fe vs d l h = match g d l h with
    | .ok .nx l h => (match ft l h with
      | .ok true l h => (match fe l h with
        | .ok w l h => (match fz l h w with
          | some (d', l, h) => .ok (some d') (wipeL l vs) h
          | none => .no)
        | _ => .no)
      | .ok false l h => .ok none (wipeL l vs) h
      | _ => .no)
    | _ => .no := rfl
theorem lcL_nil : lcL g ft fe vs [] acc l h = .ok acc l h := rfl
theorem lcL_cons : lcL g ft fe vs (d :: ds) acc l h = match elL g ft fe vs d l h with
    | .ok (some d') l h => lcL g ft fe vs ds (acc ++ [d']) l h
    | .ok none l h => lcL g ft fe vs ds acc l h
    | _ => .no := by
  show (match g d l h with
    | .ok .nx l h => (match ft l h with
      | .ok true l h => (match fe l h with
        | .ok w l h => (match fz l h w with
          | some (d', l, h) => lcL g ft fe vs ds (acc ++ [d']) (wipeL l vs) h
          | none => .no)
        | _ => .no)
      | .ok false l h => lcL g ft fe vs ds acc (wipeL l vs) h
      | _ => .no)
    | _ => .no) = _
  unfold elL
  cases g d l h with
  | no => rfl
  | ex x l h => rfl
  | ok fl l h =>
    cases fl with
    | nx =>
      dsimp only
      cases ft l h with
      | no => rfl
      | ex x l h => rfl
      | ok b l h =>
        cases b with
        | false => rfl
        | true =>
          dsimp only
          cases fe l h with
          | no => rfl
          | ex x l h => rfl
          | ok w l h =>
            dsimp only
            cases fz l h w with
            | none => rfl
            | some p => rfl
    | _ => rfl
/-- nothing around changes: a filtered map -/
theorem lcL_map (f : β → Option D) (toD : β → D) : ∀ (xs : List β) (acc : List D), (∀ x, x ∈ xs → elL g ft fe vs (toD x) l h = .ok (f x) l h) → lcL g ft fe vs (xs.map toD) acc l h = .ok (acc ++ xs.filterMap f) l h
  | [], acc, _ => by simp [lcL_nil]
  | x :: xs, acc, hs => by
    have ih := fun acc => lcL_map f toD xs acc fun y m => hs y (List.mem_cons_of_mem _ m)
    rw [List.map_cons, lcL_cons, hs x List.mem_cons_self]
    cases e : f x with
    | none => simp only [e, List.filterMap_cons]; exact ih acc
    | some d => simp only [e, List.filterMap_cons]; rw [ih]; simp
/-- the state moves on -/
theorem lcL_st (E : α → Ls → Hs → Prop) (f : α → β → α × Option D) (toD : β → D) : ∀ (xs : List β) (acc : List D) (s : α) (l : Ls) (h : Hs), (∀ s x l h, x ∈ xs → E s l h → ∃ l' h', elL g ft fe vs (toD x) l h = .ok (f s x).2 l' h' ∧ E (f s x).1 l' h') → E s l h →
    ∃ s' l' h' out, lcL g ft fe vs (xs.map toD) acc l h = .ok (acc ++ out) l' h' ∧ E s' l' h'
  | [], acc, s, l, h, _, e => ⟨s, l, h, [], by simp [lcL_nil], e⟩
  | x :: xs, acc, s, l, h, hs, e => by
    obtain ⟨l1, h1, e1, q1⟩ := hs s x l h List.mem_cons_self e
    rw [List.map_cons, lcL_cons, e1]
    have ih := fun acc => lcL_st E f toD xs acc (f s x).1 l1 h1 (fun s y l h m => hs s y l h (List.mem_cons_of_mem _ m)) q1
    cases e2 : (f s x).2 with
    | none =>
      obtain ⟨s', l', h', out, a, b⟩ := ih acc
      exact ⟨s', l', h', out, a, b⟩
    | some d =>
      obtain ⟨s', l', h', out, a, b⟩ := ih (acc ++ [d])
      exact ⟨s', l', h', d :: out, by simp only []; rw [a]; simp, b⟩
/-- item by item -/
inductive All2 {γ δ : Type} (P : γ → δ → Prop) : List γ → List δ → Prop
  | nil : All2 P [] []
  | cons {x : γ} {y : δ} {xs : List γ} {ys : List δ} : P x y → All2 P xs ys → All2 P (x :: xs) (y :: ys)
/-- .. by a relation: what comes out has P, item by item -/
theorem lcL_ex (E : Ls → Hs → Prop) (P : β → Option D → Prop) (toD : β → D) : ∀ (xs : List β) (acc : List D) (l : Ls) (h : Hs), (∀ x l h, x ∈ xs → E l h → ∃ o l' h', elL g ft fe vs (toD x) l h = .ok o l' h' ∧ E l' h' ∧ P x o) → E l h →
    ∃ (l' : Ls) (h' : Hs) (os : List (Option D)), lcL g ft fe vs (xs.map toD) acc l h = .ok (acc ++ os.filterMap id) l' h' ∧ E l' h' ∧ All2 P xs os
  | [], acc, l, h, _, e => ⟨l, h, [], by simp [lcL_nil], e, .nil⟩
  | x :: xs, acc, l, h, hs, e => by
    obtain ⟨o, l1, h1, e1, q1, p1⟩ := hs x l h List.mem_cons_self e
    rw [List.map_cons, lcL_cons, e1]
    have ih := fun acc => lcL_ex E P toD xs acc l1 h1 (fun y l h m => hs y l h (List.mem_cons_of_mem _ m)) q1
    cases o with
    | none =>
      obtain ⟨l', h', os, a, b, c⟩ := ih acc
      exact ⟨l', h', none :: os, by simp only []; rw [a]; simp, b, .cons p1 c⟩
    | some d =>
      obtain ⟨l', h', os, a, b, c⟩ := ih (acc ++ [d])
      exact ⟨l', h', some d :: os, by simp only []; rw [a]; simp, b, .cons p1 c⟩
end
/-- two sources -/
theorem lc2L_map {β : Type} {g : FG} {ft : FT} {fi1 : FI} {g1 : FG} {ft1 : FT} {fe : FE} {vs vs1 : List Nat} {l : Ls} {h : Hs} (f : β → List D) (toD : β → D) (n : Nat) : ∀ (xs : List β) (acc : List D), (∀ x, x ∈ xs → ∀ acc : List D, acc.length ≤ n → ∃ l1 l2 es, (match g (toD x) l h with
      | .ok .nx l h => (match ft l h with
        | .ok true l h => (match fi1 l h with
          | .ok es l h => .ok es l h
          | _ => .no)
        | _ => .no)
      | _ => .no) = R.ok es l1 h ∧ noM l1 vs1 = true ∧ sz (acc.length + es.length) = true ∧ lcL g1 ft1 fe vs1 es acc (wipeL l1 vs1) h = .ok (acc ++ f x) l2 h ∧ wipeL l2 vs = l) → (acc.length + (xs.flatMap f).length ≤ n) → lc2L g ft fi1 g1 ft1 fe vs vs1 (xs.map toD) acc l h = .ok (acc ++ xs.flatMap f) l h
  | [], acc, _, _ => by simp [lc2L]
  | x :: xs, acc, hs, hn => by
    rw [List.flatMap_cons, List.length_append] at hn
    obtain ⟨l1, l2, es, e1, e2, e3, e4, e5⟩ := hs x List.mem_cons_self acc (by omega)
    rw [List.map_cons]
    unfold lc2L
    have ih := lc2L_map f toD n xs (acc ++ f x) (fun y m => hs y (List.mem_cons_of_mem _ m)) (by rw [List.length_append]; omega)
    revert e1
    cases hg : g (toD x) l h with
    | no => intro z; cases z
    | ex y l h => intro z; cases z
    | ok fl la ha =>
      cases fl with
      | nx =>
        dsimp only
        cases ht : ft la ha with
        | no => intro z; cases z
        | ex y l h => intro z; cases z
        | ok b lb hb =>
          cases b with
          | false => intro z; cases z
          | true =>
            dsimp only
            cases hi : fi1 lb hb with
            | no => intro z; cases z
            | ex y l h => intro z; cases z
            | ok es' lc hc =>
              dsimp only
              intro z
              cases z
              rw [e2, e3]
              simp only [Bool.and_self, e4, e5]
              rw [ih, List.flatMap_cons, List.append_assoc]
      | _ => intro z; cases z
/-! ### numbered lists -/
theorem itN_lst {h : Hs} {n i : Nat} {ws : List W} (e : h[n]? = some (.lst ws)) : itN h n i = some ws[i]? := by unfold itN; rw [e]
theorem lenN_lst {h : Hs} {n : Nat} {ws : List W} (e : h[n]? = some (.lst ws)) : lenN h n = ws.length := by unfold lenN; rw [e]
/-- one item of a live list: nothing around changes -/
def elN (g : W → FS) (ft : FT) (fe : FE) (vs : List Nat) (w : W) : Ls → Hs → R (Option D) := fun l h => match g w l h with
    | .ok .nx l h => (match ft l h with
      | .ok true l h => (match fe l h with
        | .ok w l h => (match fz l h w with
          | some (d', l, h) => .ok (some d') (wipeL l vs) h
          | none => .no)
        | _ => .no)
      | .ok false l h => .ok none (wipeL l vs) h
      | _ => .no)
    | _ => .no
@[simp ↓] theorem ap_elN {g : W → FS} {ft : FT} {fe : FE} {vs : List Nat} {w : W} {l : Ls} {h : Hs} : elN g ft fe vs w l h = match g w l h with
    | .ok .nx l h => (match ft l h with
      | .ok true l h => (match fe l h with
        | .ok w l h => (match fz l h w with
          | some (d', l, h) => .ok (some d') (wipeL l vs) h
          | none => .no)
        | _ => .no)
      | .ok false l h => .ok none (wipeL l vs) h
      | _ => .no)
    | _ => .no := Eq.trans rfl rfl
theorem lcN_step {g : W → FS} {ft : FT} {fe : FE} {vs : List Nat} {n m i : Nat} {acc : List D} {l l' : Ls} {h h' : Hs} {w : W} {o : Option D} (e : itN h n i = some (some w)) (e2 : elN g ft fe vs w l h = .ok o l' h') (z : sz (acc.length + 1) = true) :
    lcN g ft fe vs n (m + 1) i acc l h = lcN g ft fe vs n m (i + 1) (acc ++ o.toList) l' h' := by
  conv => lhs; unfold lcN
  simp only [e]
  unfold elN at e2
  revert e2
  cases g w l h with
  | no => intro q; cases q
  | ex x l h => intro q; cases q
  | ok fl l1 h1 =>
    cases fl with
    | nx =>
      dsimp only
      cases ft l1 h1 with
      | no => intro q; cases q
      | ex x l h => intro q; cases q
      | ok b l2 h2 =>
        cases b with
        | false =>
          dsimp only
          intro q
          cases q
          simp
        | true =>
          dsimp only
          cases fe l2 h2 with
          | no => intro q; cases q
          | ex x l h => intro q; cases q
          | ok w2 l3 h3 =>
            dsimp only
            cases fz l3 h3 w2 with
            | none => intro q; cases q
            | some p =>
              obtain ⟨d, l4, h4⟩ := p
              dsimp only
              intro q
              cases q
              simp only [z, Option.toList]
    | _ => intro q; cases q
theorem lcN_map {β : Type} {g : W → FS} {ft : FT} {fe : FE} {vs : List Nat} {n : Nat} {l : Ls} {h : Hs} (f : β → Option D) (toW : β → W) (xs : List β) (eh : h[n]? = some (.lst (xs.map toW))) (hs : ∀ x, x ∈ xs → elN g ft fe vs (toW x) l h = .ok (f x) l h) (hz : xs.length ≤ 1000000) :
    ∀ (j m : Nat) (acc : List D), j ≤ xs.length → xs.length + 1 ≤ m + j → acc.length ≤ j → lcN g ft fe vs n m j acc l h = .ok (acc ++ (xs.drop j).filterMap f) l h := by
  intro j m
  induction m generalizing j with
  | zero => intro acc h1 h2; omega
  | succ m ih =>
    intro acc h1 h2 h3
    by_cases c : j < xs.length
    · have e : itN h n j = some (some (toW xs[j])) := by rw [itN_lst eh]; simp [c]
      rw [lcN_step e (hs _ (List.getElem_mem c)) (szN (by omega)), ih (j + 1) _ (by omega) (by omega) (by cases f xs[j] <;> simp <;> omega)]
      rw [List.drop_eq_getElem_cons c, List.filterMap_cons]
      cases f xs[j] <;> simp
    · have e : itN h n j = some none := by rw [itN_lst eh]; simp; omega
      unfold lcN
      simp only [e]
      rw [List.drop_eq_nil_of_le (by omega)]
      simp
/-! ### nothing lent -/
theorem mkA_F {l : Ls} {h : Hs} : ∀ (n : Nat) (ds : List D), ds.length ≤ n → mkA l h (List.replicate n false) (ds.map .v) = some (ds.map .v, l, h)
  | n, [], _ => by simp
  | 0, d :: ds, e => by simp at e
  | n + 1, d :: ds, e => by
    rw [List.replicate_succ, List.map_cons, mkA_fv, mkA_F n ds (by simpa using e)]
    rfl
theorem putB_F {lo l : Ls} : ∀ (n : Nat) (ws : List W) (as : Ls), putB lo (List.replicate n false) ws as l = l
  | 0, ws, as => by
    unfold putB
    cases ws <;> simp
  | n + 1, [], as => by simp
  | n + 1, w :: ws, [] => by
    rw [List.replicate_succ]
    unfold putB
    simp
  | n + 1, w :: ws, a :: as => by rw [List.replicate_succ, putB_f, putB_F n ws as]
theorem mkA_ioF {l : Ls} {h : Hs} {ds : List D} (e : ds.length ≤ 64) : mkA l h ioF (ds.map .v) = some (ds.map .v, l, h) := mkA_F 64 ds e
@[simp] theorem putB_ioF {lo l as : Ls} {ws : List W} : putB lo ioF ws as l = l := putB_F 64 ws as
@[simp] theorem poB_self : ∀ (l : Ls), poB l l = true
  | [] => by simp
  | x :: l => by
    have := poB_self l
    cases x with
    | m b d => cases b <;> simp [this]
    | _ => simp [this]
/-! ### equality of data -/
/-- data of ints and texts, None and nestings (no bools): to a depth -/
def pd : Nat → D → Bool
  | _, .non => true
  | _, .int _ => true
  | _, .str x => PyData.strOk x
  | k + 1, .lst xs => xs.all (pd k)
  | k + 1, .tup xs => xs.all (pd k)
  | _, _ => false
theorem pd_gd : ∀ (k : Nat) (d : D), pd k d = true → gd k d = true
  | k, .non, _ => by cases k <;> rfl
  | k, .int _, _ => by cases k <;> rfl
  | k, .str x, h => by cases k <;> exact h
  | k + 1, .lst xs, h => by
    simp only [pd, gd, List.all_eq_true] at h ⊢
    exact fun x m => pd_gd k x (h x m)
  | k + 1, .tup xs, h => by
    simp only [pd, gd, List.all_eq_true] at h ⊢
    exact fun x m => pd_gd k x (h x m)
  | 0, .lst _, h => by simp [pd] at h
  | 0, .tup _, h => by simp [pd] at h
  | k, .bl _, h => by cases k <;> simp [pd] at h
  | k, .rol _, h => by cases k <;> simp [pd] at h
  | k, .dK _ _, h => by cases k <;> simp [pd] at h
  | k, .dT _ _, h => by cases k <;> simp [pd] at h
  | k, .ins _ _ _, h => by cases k <;> simp [pd] at h
theorem gd_le : ∀ (j k : Nat) (d : D), j ≤ k → gd j d = true → gd k d = true
  | j, k, .non, _, _ => by cases k <;> rfl
  | j, k, .bl _, _, _ => by cases k <;> rfl
  | j, k, .int _, _, _ => by cases k <;> rfl
  | j, k, .str x, _, h => by cases j <;> cases k <;> exact h
  | j + 1, k + 1, .lst xs, l, h => by
    simp only [gd, List.all_eq_true] at h ⊢
    exact fun x m => gd_le j k x (by omega) (h x m)
  | j + 1, k + 1, .tup xs, l, h => by
    simp only [gd, List.all_eq_true] at h ⊢
    exact fun x m => gd_le j k x (by omega) (h x m)
  | 0, _, .lst _, _, h => by simp [gd] at h
  | 0, _, .tup _, _, h => by simp [gd] at h
  | j + 1, 0, .lst _, l, _ => absurd l (by omega)
  | j + 1, 0, .tup _, l, _ => absurd l (by omega)
  | j, k, .rol _, _, h => by cases j <;> simp [gd] at h
  | j, k, .dK _ _, _, h => by cases j <;> simp [gd] at h
  | j, k, .dT _ _, _, h => by cases j <;> simp [gd] at h
  | j, k, .ins _ _ _, _, h => by cases j <;> simp [gd] at h
theorem eqvAll_iff {k : Nat} (ih : ∀ x y : D, pd k x = true → pd k y = true → (deq x y = true ↔ x = y)) : ∀ (xs ys : List D), xs.all (pd k) = true → ys.all (pd k) = true → (PyData.eqvAll (pyL xs) (pyL ys) = true ↔ xs = ys)
  | [], [], _, _ => by simp [pyL, PyData.eqvAll]
  | [], _ :: _, _, _ => by simp [pyL, PyData.eqvAll]
  | _ :: _, [], _, _ => by simp [pyL, PyData.eqvAll]
  | x :: xs, y :: ys, hx, hy => by
    rw [List.all_cons, Bool.and_eq_true] at hx hy
    have e1 := ih x y hx.1 hy.1
    have e2 := eqvAll_iff ih xs ys hx.2 hy.2
    simp only [pyL, PyData.eqvAll, Bool.and_eq_true]
    rw [show PyData.eqv (py x) (py y) = deq x y from rfl, e1, e2]
    simp
theorem deq_iff : ∀ (k : Nat) (x y : D), pd k x = true → pd k y = true → (deq x y = true ↔ x = y) := by
  intro k
  induction k with
  | zero =>
    intro x y hx hy
    cases x <;> cases y <;> simp [pd] at hx hy <;> simp [deq, py, PyData.eqv]
  | succ k ih =>
    intro x y hx hy
    cases x <;> cases y <;> simp only [pd] at hx hy <;> first | (simp at hx; done) | (simp at hy; done) | (simp [deq, py, PyData.eqv]; done) | skip
    · rename_i xs ys
      show PyData.eqv (py (.lst xs)) (py (.lst ys)) = true ↔ _
      simp only [py, PyData.eqv]
      rw [eqvAll_iff ih xs ys hx hy]
      simp
    · rename_i xs ys
      show PyData.eqv (py (.tup xs)) (py (.tup ys)) = true ↔ _
      simp only [py, PyData.eqv]
      rw [eqvAll_iff ih xs ys hx hy]
      simp
/-- a coding into data, by which equality and membership are decided -/
structure Enc {β : Type} [DecidableEq β] (enc : β → D) : Prop where
  inj : ∀ x y, enc x = enc y → x = y
  pd : ∀ x, VL.pd 60 (enc x) = true
section
variable {β : Type} [DecidableEq β] {enc : β → D}
theorem Enc.gd (E : Enc enc) (x : β) : VL.gd 60 (enc x) = true := pd_gd _ _ (E.pd x)
theorem Enc.deq (E : Enc enc) (x y : β) : VL.deq (enc x) (enc y) = decide (x = y) := by
  have h := deq_iff 60 (enc x) (enc y) (E.pd x) (E.pd y)
  by_cases e : x = y
  · subst e
    rw [decide_eq_true rfl]
    exact h.mpr rfl
  · rw [decide_eq_false e]
    cases q : VL.deq (enc x) (enc y) with
    | false => rfl
    | true => exact absurd (E.inj x y (h.mp q)) e
theorem Enc.isIn (E : Enc enc) (x : β) (ys : List β) : VL.isIn (enc x) (ys.map enc) = decide (x ∈ ys) := by
  unfold VL.isIn
  rw [List.any_map]
  have e : ∀ ys : List β, (ys.any fun y => VL.deq (enc y) (enc x)) = decide (x ∈ ys) := fun ys => by
    induction ys with
    | nil => simp
    | cons y ys ih =>
      rw [List.any_cons, ih, E.deq]
      by_cases h : y = x
      · subst h; simp
      · have h' : ¬ x = y := fun z => h z.symm
        simp [h, h']
  exact e ys
theorem Enc.inQ (E : Enc enc) (x : β) (ys : List β) : gInQ (enc x) (ys.map enc) = some (decide (x ∈ ys)) := by
  unfold gInQ
  rw [E.gd, E.isIn, List.all_map, if_pos]
  rw [Bool.true_and, List.all_eq_true]
  exact fun y _ => E.gd y
theorem Enc.inL (E : Enc enc) (x : β) (ys : List β) : gIn (enc x) (.lst (ys.map enc)) = some (decide (x ∈ ys)) := by
  rw [← E.inQ x ys]
  cases enc x <;> rfl
theorem Enc.inT (E : Enc enc) (x : β) (ys : List β) : gIn (enc x) (.tup (ys.map enc)) = some (decide (x ∈ ys)) := by
  rw [← E.inQ x ys]
  cases enc x <;> rfl
end
/-- written texts differ as they are written -/
@[simp] theorem ofString_inj {a b : String} : (Str.ofString a = Str.ofString b) ↔ (a = b) := by
  refine ⟨fun h => ?_, fun h => by rw [h]⟩
  rw [Str.ofString_eq_toList, Str.ofString_eq_toList] at h
  have h2 : a.toList.map Char.toNat = b.toList.map Char.toNat := by
    have := congrArg (fun z : Str => z.cps.toList) h
    simpa using this
  have key : ∀ (xs ys : List Char), xs.map Char.toNat = ys.map Char.toNat → xs = ys := by
    intro xs
    induction xs with
    | nil => intro ys e; cases ys with
      | nil => rfl
      | cons y ys => simp at e
    | cons x xs ih =>
      intro ys e
      cases ys with
      | nil => simp at e
      | cons y ys =>
        simp only [List.map_cons, List.cons.injEq] at e
        rw [ih ys e.2, show x = y from Char.ext (UInt32.toNat_inj.mp e.1)]
  exact String.toList_inj.mp (key _ _ h2)
@[simp] theorem ofString_beq {a b : String} : ((Str.ofString a == Str.ofString b) = true) ↔ (a = b) := by
  rw [beq_iff_eq, ofString_inj]
@[simp] theorem lookup_str {β : Type} {a b : String} {v : β} {l : List (Str × β)} : List.lookup (Str.ofString a) ((Str.ofString b, v) :: l) = if a = b then some v else List.lookup (Str.ofString a) l := by
  rw [List.lookup_cons]
  by_cases c : a = b
  · subst c; simp
  · have e : (Str.ofString a == Str.ofString b) = false := by
      cases q : (Str.ofString a == Str.ofString b) with
      | false => rfl
      | true => exact absurd (ofString_beq.mp q) c
    rw [e, if_neg c]
/-! ### operators on what is plain -/
@[simp] theorem gEq_int {i j : Int} : gEq (.int i) (.int j) = some (.bl (decide (i = j))) := by simp [gEq, sv, scal]
@[simp] theorem gNe_int {i j : Int} : gNe (.int i) (.int j) = some (.bl (!decide (i = j))) := by simp [gNe, sv, scal]
@[simp] theorem gEq_str {i j : Str} : gEq (.str i) (.str j) = some (.bl (decide (i = j))) := by simp [gEq, sv, scal]
@[simp] theorem gNe_str {i j : Str} : gNe (.str i) (.str j) = some (.bl (!decide (i = j))) := by simp [gNe, sv, scal]
@[simp] theorem gAdd_int {i j : Int} : gAdd (.int i) (.int j) = some (.int (i + j)) := rfl
@[simp] theorem gSub_int {i j : Int} : gSub (.int i) (.int j) = some (.int (i - j)) := rfl
theorem gMul_int {i j : Int} (c : (-(2 ^ 64) < i ∧ i < 2 ^ 64) ∨ (-(2 ^ 64) < j ∧ j < 2 ^ 64)) : gMul (.int i) (.int j) = some (.int (i * j)) := if_pos (cMulOf c)
theorem gMod_int {i j : Int} (c : 0 < j) : gMod (.int i) (.int j) = some (.int (i % j)) := if_pos (decide_eq_true c)
theorem gDiv_int {i j : Int} (c : 0 < j) (c2 : j.natAbs.log2 < 9000) : gDiv (.int i) (.int j) = some (.int (i / j)) := if_pos (decide_eq_true ⟨c, c2⟩)
@[simp] theorem gLt_int {i j : Int} : gLt (.int i) (.int j) = some (.bl (decide (i < j))) := rfl
@[simp] theorem gLe_int {i j : Int} : gLe (.int i) (.int j) = some (.bl (decide (i ≤ j))) := rfl
@[simp] theorem gGt_int {i j : Int} : gGt (.int i) (.int j) = some (.bl (decide (j < i))) := rfl
@[simp] theorem gGe_int {i j : Int} : gGe (.int i) (.int j) = some (.bl (decide (j ≤ i))) := rfl
@[simp] theorem gIx_lst {ds : List D} {i : Int} : gIx (.lst ds) (.int i) = atI ds i := rfl
@[simp] theorem gIx_tup {ds : List D} {i : Int} : gIx (.tup ds) (.int i) = atI ds i := rfl
@[simp] theorem gIx_rol {ds : List D} {i : Int} : gIx (.rol ds) (.int i) = atI ds i := rfl
@[simp] theorem bLen_lst {ds : List D} : bLen [.lst ds] = some (.int ds.length) := rfl
@[simp] theorem bLen_tup {ds : List D} : bLen [.tup ds] = some (.int ds.length) := rfl
@[simp] theorem bLen_rol {ds : List D} : bLen [.rol ds] = some (.int ds.length) := rfl
@[simp] theorem bInt_int {i : Int} : bInt [.int i] = some (.int i) := rfl
@[simp] theorem bTup_lst {ds : List D} : bTup [.lst ds] = some (.tup ds) := rfl
@[simp] theorem bTup_tup {ds : List D} : bTup [.tup ds] = some (.tup ds) := rfl
@[simp] theorem seqD_lst {ds : List D} : seqD (.lst ds) = some ds := rfl
@[simp] theorem seqD_tup {ds : List D} : seqD (.tup ds) = some ds := rfl
@[simp] theorem seqR_lst {ds : List D} : seqR (.lst ds) = some ds := rfl
@[simp] theorem seqR_tup {ds : List D} : seqR (.tup ds) = some ds := rfl
@[simp] theorem seqR_rol {ds : List D} : seqR (.rol ds) = some ds := rfl
@[simp] theorem gIs_eq {x y : D} : gIs x y = (gIn x y).map .bl := rfl
@[simp] theorem gNi_eq {x y : D} : gNi x y = (gIn x y).map fun b => .bl (!b) := rfl
@[simp] theorem tru_bl {b : Bool} : tru (.bl b) = some b := rfl
theorem atI_at {α : Type} {xs : List α} {k : Nat} {x : α} (e : xs[k]? = some x) : atI xs (k : Int) = some x := by
  have hk : k < xs.length := (List.getElem?_eq_some_iff.mp e).1
  unfold atI ixN
  rw [if_pos (by omega), if_pos (by omega)]
  simpa using e
theorem atI_map {α β : Type} {f : α → β} {xs : List α} {i : Int} : atI (xs.map f) i = (atI xs i).map f := by
  unfold atI
  rw [List.length_map]
  cases ixN xs.length i with
  | none => rfl
  | some j => simp
@[simp] theorem atI_lit {α : Type} {xs : List α} {n : Nat} : atI xs (no_index (OfNat.ofNat n : Int)) = xs[n]? := by
  show atI xs ((n : Nat) : Int) = xs[n]?
  unfold atI ixN
  rw [if_pos (Int.natCast_nonneg n)]
  by_cases c : n < xs.length
  · rw [if_pos (Int.ofNat_lt.mpr c)]
    rfl
  · rw [if_neg (fun z => c (Int.ofNat_lt.mp z)), List.getElem?_eq_none (by omega)]
    rfl
theorem intsFrom_map {lo : Int} {n : Nat} : intsFrom lo n = (List.range n).map fun i => D.int (lo + (i : Nat)) := rfl
theorem ints0 {n : Nat} : intsFrom 0 n = (List.range n).map fun i => D.int (i : Nat) := by
  unfold intsFrom
  simp
/-- a slot that nobody wants -/
def Jk (x : Sl) : Prop := x = .e ∨ ∃ d, x = .v d
theorem Jk.e : Jk .e := .inl rfl
theorem Jk.v {d : D} : Jk (.v d) := .inr ⟨d, rfl⟩
/-! ### names: texts that equality knows -/
abbrev Nm := {x : Str // PyData.strOk x = true}
def Nm.d (x : Nm) : D := .str x.1
theorem Nm.enc : Enc Nm.d := ⟨fun x y e => Subtype.ext (by injection e), fun x => x.2⟩
theorem int_enc : Enc D.int := ⟨fun x y e => by injection e, fun _ => rfl⟩
end VL
set_option maxRecDepth 100000
set_option maxHeartbeats 4000000
namespace K94
open PySem PySem.Spec PyProof.Rows L2 VL
/-! ### the text -/
def top (i : Nat) : Stmt := PySem.Challenge.pw_takenorelse_k94_whole_fewest_guards.main.body.getD i (.Pass ⟨0, 0, 0, 0⟩)
def item (s : Stmt) (j : Nat) : Stmt := match s with
  | .ClassDef _ _ _ b _ _ _ _ _ _ _ => b.getD j (.Pass ⟨0, 0, 0, 0⟩)
  | _ => .Pass ⟨0, 0, 0, 0⟩
def file : Str := PySem.Challenge.pw_takenorelse_k94_whole_fewest_guards.main.file
def k_TooLarge___init__ : Kd := ⟨.meth "TooLarge" "__init__", "__init__", "TooLarge.__init__", defArgs (item (top 6) 0), defBody (item (top 6) 0), defScope (item (top 6) 0), [], some ("TooLarge", file)⟩
def k__law_state : Kd := ⟨.glo "_law_state", "_law_state", "_law_state", defArgs (top 63), defBody (top 63), defScope (top 63), [], none⟩
def k__law_draw : Kd := ⟨.glo "_law_draw", "_law_draw", "_law_draw", defArgs (top 64), defBody (top 64), defScope (top 64), [], none⟩
def k__law_names : Kd := ⟨.glo "_law_names", "_law_names", "_law_names", defArgs (top 65), defBody (top 65), defScope (top 65), [], none⟩
def k__law_many : Kd := ⟨.glo "_law_many", "_law_many", "_law_many", defArgs (top 66), defBody (top 66), defScope (top 66), [], none⟩
def k__law_pick : Kd := ⟨.glo "_law_pick", "_law_pick", "_law_pick", defArgs (top 67), defBody (top 67), defScope (top 67), [], none⟩
def k__law_constant : Kd := ⟨.glo "_law_constant", "_law_constant", "_law_constant", defArgs (top 68), defBody (top 68), defScope (top 68), [], none⟩
def k__law_job_steps : Kd := ⟨.glo "_law_job_steps", "_law_job_steps", "_law_job_steps", defArgs (top 69), defBody (top 69), defScope (top 69), [], none⟩
def k__law_job_rows : Kd := ⟨.glo "_law_job_rows", "_law_job_rows", "_law_job_rows", defArgs (top 70), defBody (top 70), defScope (top 70), [], none⟩
def k__law_jcells : Kd := ⟨.glo "_law_jcells", "_law_jcells", "_law_jcells", defArgs (top 53), defBody (top 53), defScope (top 53), [], none⟩
def k__law_open : Kd := ⟨.glo "_law_open", "_law_open", "_law_open", defArgs (top 54), defBody (top 54), defScope (top 54), [], none⟩
def k_JobBook_job_names : Kd := ⟨.prop "JobBook" "job_names", "job_names", "JobBook.job_names", defArgs (item (top 34) 5), defBody (item (top 34) 5), defScope (item (top 34) 5), [], none⟩
def k_JobBook_admit_job : Kd := ⟨.meth "JobBook" "admit_job", "admit_job", "JobBook.admit_job", defArgs (item (top 34) 3), defBody (item (top 34) 3), defScope (item (top 34) 3), [], none⟩
def k_JobBook___init__ : Kd := ⟨.meth "JobBook" "__init__", "__init__", "JobBook.__init__", defArgs (item (top 34) 1), defBody (item (top 34) 1), defScope (item (top 34) 1), [], none⟩
def k_is_name : Kd := ⟨.glo "is_name", "is_name", "is_name", defArgs (top 16), defBody (top 16), defScope (top 16), [], none⟩
def k_check_name : Kd := ⟨.glo "check_name", "check_name", "check_name", defArgs (top 17), defBody (top 17), defScope (top 17), [], none⟩
def k_check_number : Kd := ⟨.glo "check_number", "check_number", "check_number", defArgs (top 18), defBody (top 18), defScope (top 18), [], none⟩
def k_check_job_step : Kd := ⟨.glo "check_job_step", "check_job_step", "check_job_step", defArgs (top 28), defBody (top 28), defScope (top 28), [], none⟩
def k_Job___init__ : Kd := ⟨.meth "Job" "__init__", "__init__", "Job.__init__", defArgs (item (top 32) 1), defBody (item (top 32) 1), defScope (item (top 32) 1), [], none⟩
def k__law_job_book : Kd := ⟨.glo "_law_job_book", "_law_job_book", "_law_job_book", defArgs (top 71), defBody (top 71), defScope (top 71), [], none⟩
def k__law_is_int : Kd := ⟨.glo "_law_is_int", "_law_is_int", "_law_is_int", defArgs (top 72), defBody (top 72), defScope (top 72), [], none⟩
def k__law_same : Kd := ⟨.glo "_law_same", "_law_same", "_law_same", defArgs (top 73), defBody (top 73), defScope (top 73), [], none⟩
def k_Job_read_cells : Kd := ⟨.prop "Job" "read_cells", "read_cells", "Job.read_cells", defArgs (item (top 32) 3), defBody (item (top 32) 3), defScope (item (top 32) 3), [], none⟩
def k_distinct : Kd := ⟨.glo "distinct", "distinct", "distinct", defArgs (top 31), defBody (top 31), defScope (top 31), [], none⟩
def k_Job_written_cells : Kd := ⟨.prop "Job" "written_cells", "written_cells", "Job.written_cells", defArgs (item (top 32) 4), defBody (item (top 32) 4), defScope (item (top 32) 4), [], none⟩
def k_open_reads : Kd := ⟨.glo "open_reads", "open_reads", "open_reads", defArgs (top 49), defBody (top 49), defScope (top 49), [], none⟩
def k__law_some : Kd := ⟨.glo "_law_some", "_law_some", "_law_some", defArgs (top 74), defBody (top 74), defScope (top 74), [], none⟩
def k_guarded : Kd := ⟨.glo "guarded", "guarded", "guarded", defArgs (top 50), defBody (top 50), defScope (top 50), [], none⟩
def k__law_with : Kd := ⟨.glo "_law_with", "_law_with", "_law_with", defArgs (top 55), defBody (top 55), defScope (top 55), [], none⟩
def k_index_sets : Kd := ⟨.glo "index_sets", "index_sets", "index_sets", defArgs (top 46), defBody (top 46), defScope (top 46), [], none⟩
def k_shares : Kd := ⟨.glo "shares", "shares", "shares", defArgs (top 36), defBody (top 36), defScope (top 36), [], none⟩
def k_both_write : Kd := ⟨.glo "both_write", "both_write", "both_write", defArgs (top 38), defBody (top 38), defScope (top 38), [], none⟩
def k_misses_write : Kd := ⟨.glo "misses_write", "misses_write", "misses_write", defArgs (top 37), defBody (top 37), defScope (top 37), [], none⟩
def k_comes_back : Kd := ⟨.glo "comes_back", "comes_back", "comes_back", defArgs (top 40), defBody (top 40), defScope (top 40), [], none⟩
def k_jobs_conflict : Kd := ⟨.glo "jobs_conflict", "jobs_conflict", "jobs_conflict", defArgs (top 39), defBody (top 39), defScope (top 39), [], none⟩
def k_chain_for : Kd := ⟨.glo "chain_for", "chain_for", "chain_for", defArgs (top 42), defBody (top 42), defScope (top 42), [], none⟩
def k_Split___init__ : Kd := ⟨.meth "Split" "__init__", "__init__", "Split.__init__", defArgs (item (top 41) 0), defBody (item (top 41) 0), defScope (item (top 41) 0), [], none⟩
def k_find_split : Kd := ⟨.glo "find_split", "find_split", "find_split", defArgs (top 43), defBody (top 43), defScope (top 43), [], none⟩
def k_is_robust : Kd := ⟨.glo "is_robust", "is_robust", "is_robust", defArgs (top 44), defBody (top 44), defScope (top 44), [], none⟩
def k_fewest_guards : Kd := ⟨.glo "fewest_guards", "fewest_guards", "fewest_guards", defArgs (top 51), defBody (top 51), defScope (top 51), [], none⟩
def k__law_jmeet : Kd := ⟨.glo "_law_jmeet", "_law_jmeet", "_law_jmeet", defArgs (top 56), defBody (top 56), defScope (top 56), [], none⟩
def k__law_jclash : Kd := ⟨.glo "_law_jclash", "_law_jclash", "_law_jclash", defArgs (top 57), defBody (top 57), defScope (top 57), [], none⟩
def k__law_jchain : Kd := ⟨.glo "_law_jchain", "_law_jchain", "_law_jchain", defArgs (top 58), defBody (top 58), defScope (top 58), [], none⟩
def k__law_is_due : Kd := ⟨.glo "_law_is_due", "_law_is_due", "_law_is_due", defArgs (top 59), defBody (top 59), defScope (top 59), [], none⟩
def k__law_longer : Kd := ⟨.glo "_law_longer", "_law_longer", "_law_longer", defArgs (top 60), defBody (top 60), defScope (top 60), [], none⟩
def k__law_fewest : Kd := ⟨.glo "_law_fewest", "_law_fewest", "_law_fewest", defArgs (top 61), defBody (top 61), defScope (top 61), [], none⟩
def k__law_refused : Kd := ⟨.glo "_law_refused", "_law_refused", "_law_refused", defArgs (top 62), defBody (top 62), defScope (top 62), [], none⟩
def k_law : Kd := ⟨.glo "law", "law", "law", defArgs (top 75), defBody (top 75), defScope (top 75), [], none⟩
def k_JobBook___iter__ : Kd := ⟨.meth "JobBook" "__iter__", "__iter__", "JobBook.__iter__", defArgs (item (top 34) 10), defBody (item (top 34) 10), defScope (item (top 34) 10), [], none⟩
def k_JobBook___len__ : Kd := ⟨.meth "JobBook" "__len__", "__len__", "JobBook.__len__", defArgs (item (top 34) 11), defBody (item (top 34) 11), defScope (item (top 34) 11), [], none⟩
/-! ### what the defs do -/
noncomputable section
/-- _law_state -/
def b__law_state : FS :=
  (sRetL (fLst (fCons (fOfL (fListOf (fCons (fVar 0) fNil))) (fCons (fC (.int 0)) (fCons (fC (.int 0)) (fCons (fC (.int 0)) (fCons (fC (.int 0)) fNil)))))))
def g__law_state : G := run 1 1 b__law_state
/-- _law_draw -/
def b__law_draw : FS :=
  (sSeq (sIf (fTst (fBin gEq (fBin gIx (fVar 0) (fC (.int 3))) (fC (.int 0)))) (sSeq (sIf (fTst (fBin gGe (fBin gIx (fVar 0) (fC (.int 1))) (fCallB bLen (fCons (fBin gIx (fVar 0) (fC (.int 0))) fNil)))) (sRet (fC (.int 0)))
  sNx)
  (sSeq (sSetI (fVar 0) (fC (.int 2)) (fCallB bInt (fCons (fBin gIx (fBin gIx (fVar 0) (fC (.int 0))) (fBin gIx (fVar 0) (fC (.int 1)))) fNil)))
  (sSeq (sSetI (fVar 0) (fC (.int 1)) (fBin gAdd (fBin gIx (fVar 0) (fC (.int 1))) (fC (.int 1))))
  (sSeq (sSetI (fVar 0) (fC (.int 3)) (fC (.int 1)))
  (sSeq (sSetI (fVar 0) (fC (.int 4)) (fC (.int 0)))
  (sIf (fTst (fBin gLt (fBin gIx (fVar 0) (fC (.int 2))) (fBin gPow (fC (.int 10)) (fC (.int 18))))) (sSetI (fVar 0) (fC (.int 3)) (fC (.int 2)))
  sNx))))))
  sNx)
  (sSeq (sSetI (fVar 0) (fC (.int 4)) (fBin gAdd (fBin gIx (fVar 0) (fC (.int 4))) (fC (.int 1))))
  (sSeq (sIf (fTst (fBin gEq (fBin gIx (fVar 0) (fC (.int 3))) (fC (.int 1)))) (sSeq (sAsg 2 (fBin gMod (fCallB bInt (fCons (fBin gIx (fVar 0) (fC (.int 2))) fNil)) (fVar 1)))
  (sSeq (sSetI (fVar 0) (fC (.int 2)) (fBin gDiv (fCallB bInt (fCons (fBin gIx (fVar 0) (fC (.int 2))) fNil)) (fVar 1)))
  (sSeq (sIf (fOr (fTst (fBin gEq (fBin gIx (fVar 0) (fC (.int 2))) (fC (.int 0)))) (fTst (fBin gGe (fBin gIx (fVar 0) (fC (.int 4))) (fC (.int 60))))) (sSetI (fVar 0) (fC (.int 3)) (fC (.int 0)))
  sNx)
  (sRet (fVar 2)))))
  sNx)
  (sSeq (sAsg 3 (fBin gMod (fCallB bInt (fCons (fBin gAdd (fBin gMul (fBin gIx (fVar 0) (fC (.int 2))) (fC (.int 48271))) (fBin gMul (fBin gIx (fVar 0) (fC (.int 4))) (fC (.int 69621)))) fNil)) (fC (.int 2147483647))))
  (sSeq (sAsg 4 (fBin gMod (fCallB bInt (fCons (fBin gAdd (fBin gAdd (fBin gMul (fVar 3) (fVar 3)) (fBin gMul (fBin gIx (fVar 0) (fC (.int 4))) (fC (.int 40692)))) (fC (.int 3))) fNil)) (fC (.int 2147483399))))
  (sSeq (sIf (fTst (fBin gGe (fBin gIx (fVar 0) (fC (.int 4))) (fC (.int 8)))) (sSetI (fVar 0) (fC (.int 3)) (fC (.int 0)))
  sNx)
  (sSeq (sAsg 5 (fBin gMod (fCallB bInt (fCons (fBin gAdd (fBin gMul (fVar 4) (fC (.int 16807))) (fVar 3)) fNil)) (fC (.int 2147483029))))
  (sRet (fBin gMod (fCallB bInt (fCons (fVar 5) fNil)) (fVar 1))))))))))
def g__law_draw : G := run 2 6 b__law_draw
/-- _law_names -/
def lb__law_names_1 : FS :=
  (sDrop (fMet appW (fVar 5) (fCons (fBin gAdd (fBin gAdd (fSl (fC (.str "qz")) oNone (oSome (fVar 4))) (fBin gIx (fVar 2) (fBin gMod (fCallB bInt (fCons (fBin gAdd (fVar 3) (fBin gMul (fC (.int 7)) (fVar 6))) fNil)) (fC (.int 26))))) (fSl (fC (.str "zq")) (oSome (fVar 4)) oNone)) fNil)))
def b__law_names : FS :=
  (sSeq (sAsg 2 (fC (.str "abcdefghijklmnopqrstuvwxyz")))
  (sSeq (sAsg 3 (fCallW [true, false] g__law_draw (fCons (fVar 0) (fCons (fC (.int 26)) fNil))))
  (sSeq (sAsg 4 (fCallW [true, false] g__law_draw (fCons (fVar 0) (fCons (fC (.int 3)) fNil))))
  (sSeq (sAsgM 5 (fLst fNil))
  (sSeq (sFor (fRng1 (fCons (fVar 1) fNil)) (gNm 6) lb__law_names_1)
  (sRet (fVar 5)))))))
def g__law_names : G := run 2 7 b__law_names
/-- _law_many -/
def b__law_many : FS :=
  (sRet (fCallB bMax (fCons (fC (.int 1)) (fCons (fCallB bMin (fCons (fVar 1) (fCons (fBin gSub (fBin gAdd (fVar 1) (fC (.int 1))) (fCallW [true, false] g__law_draw (fCons (fVar 0) (fCons (fBin gAdd (fVar 1) (fC (.int 1))) fNil)))) fNil))) fNil))))
def g__law_many : G := run 2 2 b__law_many
/-- _law_pick -/
def b__law_pick : FS :=
  (sRet (fBin gIx (fVar 1) (fCallW [true, false] g__law_draw (fCons (fVar 0) (fCons (fCallB bLen (fCons (fVar 1) fNil)) fNil)))))
def g__law_pick : G := run 2 2 b__law_pick
/-- _law_constant -/
def b__law_constant : FS :=
  (sSeq (sIf (fTst (fBin gLt (fCallW [true, false] g__law_draw (fCons (fVar 0) (fCons (fC (.int 8)) fNil))) (fC (.int 7)))) (sRet (fBin gSub (fCallW [true, false] g__law_draw (fCons (fVar 0) (fCons (fC (.int 7)) fNil))) (fC (.int 2))))
  sNx)
  (sRet (fBin gSub (fCallW [true, false] g__law_draw (fCons (fVar 0) (fCons (fBin gAdd (fBin gMul (fC (.int 2)) (fBin gPow (fC (.int 10)) (fC (.int 30)))) (fC (.int 1))) fNil))) (fBin gPow (fC (.int 10)) (fC (.int 30))))))
def g__law_constant : G := run 1 1 b__law_constant
/-- _law_job_steps -/
def lb__law_job_steps_1 : FS :=
  (sSeq (sAsg 6 (fCallW [true, false] g__law_pick (fCons (fVar 0) (fCons (fOfL (fLst (fCons (fC (.str "read")) (fCons (fC (.str "add")) (fCons (fC (.str "set")) fNil))))) fNil))))
  (sSeq (sAsg 7 (fTup (fCons (fVar 6) (fCons (fCallW [true, false] g__law_pick (fCons (fVar 0) (fCons (fVar 1) fNil))) (fCons (fCallW [true, false] g__law_draw (fCons (fVar 0) (fCons (fVar 2) fNil))) fNil)))))
  (sSeq (sIf (fTst (fBin gNe (fVar 6) (fC (.str "read")))) (sAsg 7 (fBin gAdd (fVar 7) (fTup (fCons (fCallW [true] g__law_constant (fCons (fVar 0) fNil)) fNil))))
  sNx)
  (sDrop (fMet appW (fVar 4) (fCons (fVar 7) fNil))))))
def b__law_job_steps : FS :=
  (sSeq (sAsgM 4 (fLst fNil))
  (sSeq (sFor (fRng1 (fCons (fVar 3) fNil)) (gNm 5) lb__law_job_steps_1)
  (sRet (fVar 4))))
def g__law_job_steps : G := run 4 8 b__law_job_steps
/-- _law_job_rows -/
def ce__law_job_rows_1 : FE :=
  (fCallW [true, false, false, false] g__law_job_steps (fCons (fVar 0) (fCons (fVar 1) (fCons (fVar 2) (fCons (fBin gSub (fVar 4) (fCallW [true, false] g__law_draw (fCons (fVar 0) (fCons (fBin gAdd (fVar 4) (fC (.int 1))) fNil)))) fNil)))))
def b__law_job_rows : FS :=
  (sRet (fOfL (fLc (fRng1 (fCons (fVar 3) fNil)) (gNm 5) fYes ce__law_job_rows_1 [5])))
def g__law_job_rows : G := run 5 6 b__law_job_rows
/-- _law_jcells -/
def lb__law_jcells_1 : FS :=
  (sSeq (sAsg 5 (fTup (fCons (fBin gIx (fVar 4) (fC (.int 1))) (fCons (fBin gIx (fVar 4) (fC (.int 2))) fNil))))
  (sSeq (sIf (fAnd (fTru (fVar 1)) (fAnd (fTst (fBin gNe (fBin gIx (fVar 4) (fC (.int 0))) (fC (.str "set")))) (fTst (fBin gNi (fVar 5) (fVar 2))))) (sDrop (fMet appW (fVar 3) (fCons (fVar 5) fNil)))
  sNx)
  (sSeq (sIf (fAnd (fNot (fTru (fVar 1))) (fAnd (fTst (fBin gNe (fBin gIx (fVar 4) (fC (.int 0))) (fC (.str "read")))) (fTst (fBin gNi (fVar 5) (fVar 3))))) (sDrop (fMet appW (fVar 3) (fCons (fVar 5) fNil)))
  sNx)
  (sDrop (fMet appW (fVar 2) (fCons (fVar 5) fNil))))))
def b__law_jcells : FS :=
  (sSeq (sAsgM 2 (fLst fNil))
  (sSeq (sAsgM 3 (fLst fNil))
  (sSeq (sFor (fSeq (fVar 0)) (gNm 4) lb__law_jcells_1)
  (sRet (fVar 3)))))
def g__law_jcells : G := run 2 6 b__law_jcells
/-- _law_open -/
def ct__law_open_1 : FT :=
  (fTst (fBin gNi (fVar 5) (fVar 4)))
def ce__law_open_2 : FE :=
  (fTup (fCons (fBin gIx (fVar 0) (fVar 3)) (fCons (fVar 5) fNil)))
def lb__law_open_3 : FS :=
  (sSeq (sAsg 4 (fCallW [false, false] g__law_jcells (fCons (fBin gIx (fVar 1) (fVar 3)) (fCons (fC (.bl false)) fNil))))
  (sAsg 2 (fBin gAdd (fVar 2) (fOfL (fLc (fSeq (fCallW [false, false] g__law_jcells (fCons (fBin gIx (fVar 1) (fVar 3)) (fCons (fC (.bl true)) fNil)))) (gNm 5) ct__law_open_1 ce__law_open_2 [5])))))
def b__law_open : FS :=
  (sSeq (sAsg 2 (fOfL (fLst fNil)))
  (sSeq (sFor (fRng1 (fCons (fCallB bLen (fCons (fVar 1) fNil)) fNil)) (gNm 3) lb__law_open_3)
  (sRet (fVar 2))))
def g__law_open : G := run 2 6 b__law_open
/-- JobBook_job_names -/
def ce_JobBook_job_names_1 : FE :=
  (fAtt ["Job"] [] "name" (fVar 1))
def b_JobBook_job_names : FS :=
  (sRet (fCallB bTup (fCons (fOfL (fLcK (fAny (fAtt ["JobBook"] [] "listed" (fVar 0))) (gNmW 1) fYes ce_JobBook_job_names_1 [1])) fNil)))
def g_JobBook_job_names : G := run 1 2 b_JobBook_job_names
/-- JobBook_admit_job -/
def b_JobBook_admit_job : FS :=
  (sSeq (sIf (fTst (fBin gIs (fAtt ["Job"] [] "name" (fVar 1)) (fAtt [] [("JobBook", false, g_JobBook_job_names)] "job_names" (fVar 0)))) sNo
  sNx)
  (sSeq (sIf (fTst (fBin gEq (fCallB bLen (fCons (fAtt ["JobBook"] [] "listed" (fVar 0)) fNil)) (fC (.int 8)))) sNo
  sNx)
  (sDrop (fMet appW (fAtt ["JobBook"] [] "listed" (fVar 0)) (fCons (fVar 1) fNil)))))
def g_JobBook_admit_job : G := run 2 2 b_JobBook_admit_job
/-- JobBook___init__ -/
def lb_JobBook___init___1 : FS :=
  (sDrop (fMeth [(("JobBook" : Str), [false, false], g_JobBook_admit_job)] "admit_job" (fVar 0) (fCons (fVar 2) fNil)))
def b_JobBook___init__ : FS :=
  (sSeq (sFld ["JobBook"] "listed" (fVar 0) (fBorn (fLst fNil)))
  (sFor (fSeq (fVar 1)) (gNm 2) lb_JobBook___init___1))
def g_JobBook___init__ : G := gStar 1 (run 2 3 b_JobBook___init__)
/-- is_name -/
def lb_is_name_1 : FS :=
  (sIf (fTst (fBin gNi (fVar 1) (fC (.str "abcdefghijklmnopqrstuvwxyz")))) (sRet (fC (.bl false)))
  sNx)
def b_is_name : FS :=
  (sSeq (sIf (fOr (fTst (fBin gEq (fVar 0) (fC (.str "")))) (fOr (fTst (fBin gGt (fCallB bLen (fCons (fVar 0) fNil)) (fC (.int 12)))) (fTst (fBin gIs (fVar 0) (fC (.tup [(.str "always"), (.str "never"), (.str "and"), (.str "or"), (.str "not"), (.str "when"), (.str "add"), (.str "set"), (.str "change"), (.str "tell"), (.str "refuse"), (.str "take"), (.str "look"), (.str "free"), (.str "lock"), (.str "keep"), (.str "keys"), (.str "fields")])))))) (sRet (fC (.bl false)))
  sNx)
  (sSeq (sFor (fStr (fVar 0)) (gNm 1) lb_is_name_1)
  (sRet (fC (.bl true)))))
def g_is_name : G := run 1 2 b_is_name
/-- check_name -/
def b_check_name : FS :=
  (sSeq (sIf (fNot (fTru (fCallW [false] g_is_name (fCons (fVar 0) fNil)))) sNo
  sNx)
  (sRet (fVar 0)))
def g_check_name : G := run 1 1 b_check_name
/-- check_number -/
def b_check_number : FS :=
  (sSeq (sIf (fOr (fTst (fBin gLt (fVar 0) (fNeg (fC (.int (1000000000000000000000000000000)))))) (fTst (fBin gGt (fVar 0) (fC (.int (1000000000000000000000000000000)))))) sNo
  sNx)
  (sRet (fVar 0)))
def g_check_number : G := run 1 1 b_check_number
/-- check_job_step -/
def b_check_job_step : FS :=
  (sSeq (sIf (fTst (fBin gNi (fBin gIx (fVar 1) (fC (.int 0))) (fC (.tup [(.str "read"), (.str "add"), (.str "set")])))) sNo
  sNx)
  (sSeq (sDrop (fCallW [false] g_check_name (fCons (fBin gIx (fVar 1) (fC (.int 1))) fNil)))
  (sSeq (sIf (fOr (fTst (fBin gLt (fBin gIx (fVar 1) (fC (.int 2))) (fC (.int 0)))) (fTst (fBin gGt (fBin gIx (fVar 1) (fC (.int 2))) (fC (.int (1000000000000000000000000000000)))))) sNo
  sNx)
  (sIf (fTst (fBin gNe (fBin gIx (fVar 1) (fC (.int 0))) (fC (.str "read")))) (sDrop (fCallW [false] g_check_number (fCons (fBin gIx (fVar 1) (fC (.int 3))) fNil)))
  sNx))))
def g_check_job_step : G := run 2 2 b_check_job_step
/-- Job___init__ -/
def lb_Job___init___1 : FS :=
  (sDrop (fCallW [false, false] g_check_job_step (fCons (fVar 1) (fCons (fVar 3) fNil))))
def ce_Job___init___2 : FE :=
  (fCallB bTup (fCons (fVar 3) fNil))
def b_Job___init__ : FS :=
  (sSeq (sDrop (fCallW [false] g_check_name (fCons (fVar 1) fNil)))
  (sSeq (sIf (fTst (fBin gGt (fCallB bLen (fCons (fVar 2) fNil)) (fC (.int 12)))) sNo
  sNx)
  (sSeq (sFor (fSeq (fVar 2)) (gNm 3) lb_Job___init___1)
  (sSeq (sFld ["Job"] "name" (fVar 0) (fVar 1))
  (sFld ["Job"] "steps" (fVar 0) (fCallB bTup (fCons (fOfL (fLc (fSeq (fVar 2)) (gNm 3) fYes ce_Job___init___2 [3])) fNil)))))))
def g_Job___init__ : G := run 3 4 b_Job___init__
/-- _law_job_book -/
def lb__law_job_book_1 : FS :=
  (sDrop (fMeth [(("JobBook" : Str), [false, false], g_JobBook_admit_job)] "admit_job" (fVar 2) (fCons (fOfL (fMakeM [false, false] g_Job___init__ "Job" (fCons (fBin gIx (fVar 0) (fVar 3)) (fCons (fOfL (fListOf (fCons (fBin gIx (fVar 1) (fVar 3)) fNil))) fNil)))) fNil)))
def b__law_job_book : FS :=
  (sSeq (sAsg 2 (fMakeH [] g_JobBook___init__ "JobBook" fNil))
  (sSeq (sFor (fRng1 (fCons (fCallB bLen (fCons (fVar 1) fNil)) fNil)) (gNm 3) lb__law_job_book_1)
  (sRet (fVar 2))))
def g__law_job_book : G := run 2 4 b__law_job_book
/-- _law_is_int -/
def b__law_is_int : FS :=
  (sRet (fAndV (fIsi (ftT "int") (fun _ => none) (fVar 0)) (fNotV (fIsi (ftT "bool") (fun _ => none) (fVar 0)))))
def g__law_is_int : G := run 1 1 b__law_is_int
/-- _law_same -/
def lb__law_same_1 (gs : G) : FS :=
  (sIf (fOr (fTst (fBin gNi (fVar 2) (fVar 0))) (fNot (fTru (fCallW [false, false] gs (fCons (fBin gIx (fVar 0) (fVar 2)) (fCons (fBin gIx (fVar 1) (fVar 2)) fNil)))))) (sRet (fC (.bl false)))
  sNx)
def lb__law_same_2 (gs : G) : FS :=
  (sIf (fNot (fTru (fCallW [false, false] gs (fCons (fBin gIx (fVar 0) (fVar 3)) (fCons (fBin gIx (fVar 1) (fVar 3)) fNil))))) (sRet (fC (.bl false)))
  sNx)
def b__law_same (gs : G) : FS :=
  (sSeq (sIf (fTst (fBin gIsA (fVar 1) (fC .non))) (sRet (fBin gIsA (fVar 0) (fC .non)))
  sNx)
  (sSeq (sIf (fTst (fBin gIsA (fVar 1) (fC (.bl true)))) (sRet (fBin gIsA (fVar 0) (fC (.bl true))))
  sNx)
  (sSeq (sIf (fTst (fBin gIsA (fVar 1) (fC (.bl false)))) (sRet (fBin gIsA (fVar 0) (fC (.bl false))))
  sNx)
  (sSeq (sIf (fTru (fIsi (ftT "int") (fun _ => none) (fVar 1))) (sRet (fAndV (fCallW [false] g__law_is_int (fCons (fVar 0) fNil)) (fBin gEq (fVar 0) (fVar 1))))
  sNx)
  (sSeq (sIf (fTru (fIsi (ftT "str") (fun _ => none) (fVar 1))) (sRet (fAndV (fIsi (ftT "str") (fun _ => none) (fVar 0)) (fBin gEq (fVar 0) (fVar 1))))
  sNx)
  (sSeq (sIf (fTru (fIsi (ftT "dict") (fun _ => none) (fVar 1))) (sSeq (sIf (fOr (fNot (fTru (fIsi (ftT "dict") (fun _ => none) (fVar 0)))) (fTst (fBin gNe (fCallB bLen (fCons (fVar 0) fNil)) (fCallB bLen (fCons (fVar 1) fNil))))) (sRet (fC (.bl false)))
  sNx)
  (sSeq (sFor (fSeq (fVar 1)) (gNm 2) (lb__law_same_1 gs))
  (sRet (fC (.bl true)))))
  sNx)
  (sSeq (sIf (fAnd (fTru (fIsi (ftT "list") (fun _ => none) (fVar 1))) (fNot (fTru (fIsi (ftT "list") (fun _ => none) (fVar 0))))) (sRet (fC (.bl false)))
  sNx)
  (sSeq (sIf (fAnd (fTru (fIsi (ftT "tuple") (fun _ => none) (fVar 1))) (fNot (fTru (fIsi (ftT "tuple") (fun _ => none) (fVar 0))))) (sRet (fC (.bl false)))
  sNx)
  (sSeq (sIf (fTst (fBin gNe (fCallB bLen (fCons (fVar 0) fNil)) (fCallB bLen (fCons (fVar 1) fNil)))) (sRet (fC (.bl false)))
  sNx)
  (sSeq (sFor (fRng1 (fCons (fCallB bLen (fCons (fVar 1) fNil)) fNil)) (gNm 3) (lb__law_same_2 gs))
  (sRet (fC (.bl true)))))))))))))
def gr__law_same : Nat → G
  | 0 => fun _ _ => .no
  | j + 1 => run 2 4 (b__law_same (gr__law_same j))
def g__law_same : G := gr__law_same 8
/-- Job_read_cells -/
def lb_Job_read_cells_1 : FS :=
  (sSeq (sAsg 4 (fTup (fCons (fBin gIx (fVar 3) (fC (.int 1))) (fCons (fBin gIx (fVar 3) (fC (.int 2))) fNil))))
  (sSeq (sIf (fAnd (fTst (fBin gNi (fVar 4) (fVar 1))) (fTst (fBin gNe (fBin gIx (fVar 3) (fC (.int 0))) (fC (.str "set"))))) (sDrop (fMet appW (fVar 2) (fCons (fVar 4) fNil)))
  sNx)
  (sDrop (fMet appW (fVar 1) (fCons (fVar 4) fNil)))))
def b_Job_read_cells : FS :=
  (sSeq (sAsgM 1 (fLst fNil))
  (sSeq (sAsgM 2 (fLst fNil))
  (sSeq (sFor (fSeq (fAtt ["Job"] [] "steps" (fVar 0))) (gNm 3) lb_Job_read_cells_1)
  (sRet (fCallB bTup (fCons (fVar 2) fNil))))))
def g_Job_read_cells : G := run 1 5 b_Job_read_cells
/-- distinct -/
def lb_distinct_1 : FS :=
  (sIf (fTst (fBin gNi (fVar 2) (fVar 1))) (sDrop (fMet appW (fVar 1) (fCons (fVar 2) fNil)))
  sNx)
def b_distinct : FS :=
  (sSeq (sAsgM 1 (fLst fNil))
  (sSeq (sFor (fSeq (fVar 0)) (gNm 2) lb_distinct_1)
  (sRet (fCallB bTup (fCons (fVar 1) fNil)))))
def g_distinct : G := run 1 3 b_distinct
/-- Job_written_cells -/
def ct_Job_written_cells_1 : FT :=
  (fTst (fBin gNe (fBin gIx (fVar 1) (fC (.int 0))) (fC (.str "read"))))
def ce_Job_written_cells_2 : FE :=
  (fTup (fCons (fBin gIx (fVar 1) (fC (.int 1))) (fCons (fBin gIx (fVar 1) (fC (.int 2))) fNil)))
def b_Job_written_cells : FS :=
  (sRet (fCallW [false] g_distinct (fCons (fOfL (fLc (fSeq (fAtt ["Job"] [] "steps" (fVar 0))) (gNm 1) ct_Job_written_cells_1 ce_Job_written_cells_2 [1])) fNil)))
def g_Job_written_cells : G := run 1 2 b_Job_written_cells
/-- open_reads -/
def cu_open_reads_1 : FT :=
  (fTst (fBin gNi (fVar 2) (fAtt [] [("Job", false, g_Job_written_cells)] "written_cells" (fVar 1))))
def ci_open_reads_2 : FI :=
  (fSeq (fAtt [] [("Job", false, g_Job_read_cells)] "read_cells" (fVar 1)))
def ce_open_reads_3 : FE :=
  (fTup (fCons (fAtt ["Job"] [] "name" (fVar 1)) (fCons (fVar 2) fNil)))
def b_open_reads : FS :=
  (sRet (fOfL (fLc2 (fOwnI [("JobBook", "listed")] (fVar 0)) (gNm 1) fYes ci_open_reads_2 (gNm 2) cu_open_reads_1 ce_open_reads_3 [1, 2] [2])))
def g_open_reads : G := run 1 3 b_open_reads
/-- _law_some -/
def ct__law_some_1 : FT :=
  (fTst (fBin gGt (fCallW [true, false] g__law_draw (fCons (fVar 0) (fCons (fVar 2) fNil))) (fC (.int 0))))
def ce__law_some_2 : FE :=
  (fVar 3)
def b__law_some : FS :=
  (sRet (fOfL (fLc (fSeq (fVar 1)) (gNm 3) ct__law_some_1 ce__law_some_2 [3])))
def g__law_some : G := run 3 4 b__law_some
/-- guarded -/
def ct_guarded_1 : FT :=
  (fTst (fBin gEq (fVar 5) (fAtt ["Job"] [] "name" (fVar 3))))
def ce_guarded_2 : FE :=
  (fTup (fCons (fC (.str "add")) (fCons (fBin gIx (fVar 6) (fC (.int 0))) (fCons (fBin gIx (fVar 6) (fC (.int 1))) (fCons (fC (.int 0)) fNil)))))
def lb_guarded_3 : FS :=
  (sSeq (sAsgM 4 (fListOf (fCons (fAtt ["Job"] [] "steps" (fVar 3)) fNil)))
  (sSeq (sDrop (fMet extW (fVar 4) (fCons (fOfL (fLc (fSeq (fVar 1)) (gTupD 2 (gsCons (gNm 5) (gsCons (gNm 6) gsNil))) ct_guarded_1 ce_guarded_2 [5, 6])) fNil)))
  (sDrop (fMet appW (fVar 2) (fCons (fOfL (fMakeM [false, false] g_Job___init__ "Job" (fCons (fAtt ["Job"] [] "name" (fVar 3)) (fCons (fVar 4) fNil)))) fNil)))))
def b_guarded : FS :=
  (sSeq (sAsgM 2 (fLst fNil))
  (sSeq (sFor (fOwnI [("JobBook", "listed")] (fVar 0)) (gNm 3) lb_guarded_3)
  (sRet (fMakeH ioF g_JobBook___init__ "JobBook" (fStar (fVar 2) fNil)))))
def g_guarded : G := run 2 7 b_guarded
/-- _law_with -/
def ct__law_with_1 : FT :=
  (fTst (fBin gEq (fBin gIx (fVar 5) (fC (.int 0))) (fBin gIx (fVar 0) (fVar 4))))
def ce__law_with_2 : FE :=
  (fTup (fCons (fC (.str "add")) (fCons (fBin gIx (fBin gIx (fVar 5) (fC (.int 1))) (fC (.int 0))) (fCons (fBin gIx (fBin gIx (fVar 5) (fC (.int 1))) (fC (.int 1))) (fCons (fC (.int 0)) fNil)))))
def lb__law_with_3 : FS :=
  (sDrop (fMet appW (fVar 3) (fCons (fBin gAdd (fOfL (fListOf (fCons (fBin gIx (fVar 1) (fVar 4)) fNil))) (fOfL (fLc (fSeq (fVar 2)) (gNm 5) ct__law_with_1 ce__law_with_2 [5]))) fNil)))
def b__law_with : FS :=
  (sSeq (sAsgM 3 (fLst fNil))
  (sSeq (sFor (fRng1 (fCons (fCallB bLen (fCons (fVar 1) fNil)) fNil)) (gNm 4) lb__law_with_3)
  (sRet (fVar 3))))
def g__law_with : G := run 3 6 b__law_with
/-- index_sets -/
def ci_index_sets_1 : FI :=
  (fRng2 (fCons (fIf (fTst (fBin gGt (fCallB bLen (fCons (fVar 4) fNil)) (fC (.int 0)))) (fBin gAdd (fBin gIx (fVar 4) (fNeg (fC (.int 1)))) (fC (.int 1))) (fC (.int 0))) (fCons (fVar 0) fNil)))
def ce_index_sets_2 : FE :=
  (fBin gAdd (fVar 4) (fTup (fCons (fVar 5) fNil)))
def lb_index_sets_3 : FS :=
  (sSeq (sAsg 1 (fOfL (fLc2 (fSeq (fVar 1)) (gNm 4) fYes ci_index_sets_1 (gNm 5) fYes ce_index_sets_2 [4, 5] [5])))
  (sDrop (fMet extW (fVar 2) (fCons (fVar 1) fNil))))
def b_index_sets : FS :=
  (sSeq (sAsg 1 (fOfL (fLst (fCons (fTup fNil) fNil))))
  (sSeq (sAsgM 2 (fLst (fCons (fTup fNil) fNil)))
  (sSeq (sFor (fRng1 (fCons (fVar 0) fNil)) (gNm 3) lb_index_sets_3)
  (sRet (fVar 2)))))
def g_index_sets : G := run 1 6 b_index_sets
/-- shares -/
def ce_shares_1 : FE :=
  (fBin gIs (fVar 2) (fVar 1))
def b_shares : FS :=
  (sRet (fCallB bAny (fCons (fOfL (fLc (fSeq (fVar 0)) (gNm 2) fYes ce_shares_1 [2])) fNil)))
def g_shares : G := run 2 3 b_shares
/-- both_write -/
def b_both_write : FS :=
  (sRet (fCallW [false, false] g_shares (fCons (fAtt [] [("Job", false, g_Job_written_cells)] "written_cells" (fVar 0)) (fCons (fAtt [] [("Job", false, g_Job_written_cells)] "written_cells" (fVar 1)) fNil))))
def g_both_write : G := run 2 2 b_both_write
/-- misses_write -/
def b_misses_write : FS :=
  (sRet (fCallW [false, false] g_shares (fCons (fAtt [] [("Job", false, g_Job_read_cells)] "read_cells" (fVar 0)) (fCons (fAtt [] [("Job", false, g_Job_written_cells)] "written_cells" (fVar 1)) fNil))))
def g_misses_write : G := run 2 2 b_misses_write
/-- comes_back -/
def b_comes_back : FS :=
  (sRet (fOrV (fCallW [false, false] g_misses_write (fCons (fVar 1) (fCons (fVar 0) fNil))) (fAndV (fBin gEq (fVar 2) (fC (.str "blind"))) (fCallW [false, false] g_both_write (fCons (fVar 1) (fCons (fVar 0) fNil))))))
def g_comes_back : G := run 3 3 b_comes_back
/-- jobs_conflict -/
def b_jobs_conflict : FS :=
  (sRet (fOrV (fCallW [false, false] g_both_write (fCons (fVar 0) (fCons (fVar 1) fNil))) (fOrV (fCallW [false, false] g_misses_write (fCons (fVar 0) (fCons (fVar 1) fNil))) (fCallW [false, false] g_misses_write (fCons (fVar 1) (fCons (fVar 0) fNil))))))
def g_jobs_conflict : G := run 2 2 b_jobs_conflict
/-- chain_for -/
def ct_chain_for_1 : FT :=
  (fTst (fBin gNe (fVar 5) (fVar 1)))
def ce_chain_for_2 : FE :=
  (fVar 5)
def ct_chain_for_3 : FT :=
  (fNot (fTru (fCallW [false, false] g_both_write (fCons (fVar 3) (fCons (fBin gIx (fVar 0) (fVar 5)) fNil)))))
def ce_chain_for_4 : FE :=
  (fVar 5)
def ct_chain_for_5 : FT :=
  (fTru (fCallW [false, false] g_misses_write (fCons (fVar 3) (fCons (fBin gIx (fVar 0) (fVar 5)) fNil))))
def ce_chain_for_6 : FE :=
  (fOfL (fLst (fCons (fVar 5) fNil)))
def ce_chain_for_7 : FE :=
  (fBin gIx (fVar 8) (fC (.int 0)))
def lb_chain_for_8 : FS :=
  (sIf (fAnd (fTst (fBin gNi (fVar 5) (fVar 7))) (fTru (fCallW [false, false] g_jobs_conflict (fCons (fVar 10) (fCons (fBin gIx (fVar 0) (fVar 5)) fNil))))) (sSeq (sDrop (fMet appW (fVar 7) (fCons (fVar 5) fNil)))
  (sDrop (fMet appW (fVar 9) (fCons (fOfL (fLst (fStar (fVar 8) (fCons (fVar 5) fNil)))) fNil))))
  sNx)
def lb_chain_for_9 : FS :=
  (sSeq (sAsg 10 (fBin gIx (fVar 0) (fBin gIx (fVar 8) (fNeg (fC (.int 1))))))
  (sSeq (sIf (fTru (fCallW [false, false, false] g_comes_back (fCons (fVar 3) (fCons (fVar 10) (fCons (fVar 2) fNil))))) (sRet (fVar 8))
  sNx)
  (sFor (fSeq (fVar 4)) (gNm 5) lb_chain_for_8)))
def wc_chain_for_10 : FT :=
  (fTst (fBin gGt (fCallB bLen (fCons (fVar 6) fNil)) (fC (.int 0))))
def wb_chain_for_11 : FS :=
  (sSeq (sAsgM 9 (fLst fNil))
  (sSeq (sFor (fSeq (fOfL (fListOf (fCons (fVar 6) fNil)))) (gNm 8) lb_chain_for_9)
  (sAsg 6 (fVar 9))))
def b_chain_for : FS :=
  (sSeq (sAsg 3 (fBin gIx (fVar 0) (fVar 1)))
  (sSeq (sAsg 4 (fOfL (fLc (fRng1 (fCons (fCallB bLen (fCons (fVar 0) fNil)) fNil)) (gNm 5) ct_chain_for_1 ce_chain_for_2 [5])))
  (sSeq (sIf (fTst (fBin gNe (fVar 2) (fC (.str "blind")))) (sAsg 4 (fOfL (fLc (fSeq (fVar 4)) (gNm 5) ct_chain_for_3 ce_chain_for_4 [5])))
  sNx)
  (sSeq (sAsg 6 (fOfL (fLc (fSeq (fVar 4)) (gNm 5) ct_chain_for_5 ce_chain_for_6 [5])))
  (sSeq (sAsgM 7 (fLc (fSeq (fVar 6)) (gNm 8) fYes ce_chain_for_7 [8]))
  (sSeq (sWhile wc_chain_for_10 wb_chain_for_11)
  (sRet (fC .non))))))))
def g_chain_for : G := run 3 11 b_chain_for
/-- Split___init__ -/
def b_Split___init__ : FS :=
  (sSeq (sFld ["Split"] "jobs" (fVar 0) (fOfL (fListO [("JobBook", "listed")] (fCons (fVar 1) fNil))))
  (sSeq (sFld ["Split"] "outer" (fVar 0) (fVar 2))
  (sSeq (sFld ["Split"] "chain" (fVar 0) (fCallB bTup (fCons (fVar 3) fNil)))
  (sFld ["Split"] "policy" (fVar 0) (fVar 4)))))
def g_Split___init__ : G := run 5 5 b_Split___init__
/-- find_split -/
def lb_find_split_1 : FS :=
  (sSeq (sAsg 4 (fCallW [false, false, false] g_chain_for (fCons (fVar 2) (fCons (fVar 3) (fCons (fVar 1) fNil)))))
  (sIf (fTst (fBin gIsN (fVar 4) (fC .non))) (sRet (fOfL (fMakeM [false, false, false, false] g_Split___init__ "Split" (fCons (fVar 0) (fCons (fVar 3) (fCons (fVar 4) (fCons (fVar 1) fNil)))))))
  sNx))
def b_find_split : FS :=
  (sSeq (sAsg 2 (fOfL (fListO [("JobBook", "listed")] (fCons (fVar 0) fNil))))
  (sSeq (sFor (fRng1 (fCons (fCallB bLen (fCons (fVar 2) fNil)) fNil)) (gNm 3) lb_find_split_1)
  (sRet (fC .non))))
def g_find_split : G := run 2 5 b_find_split
/-- is_robust -/
def b_is_robust : FS :=
  (sRet (fBin gIsA (fCallW [false, false] g_find_split (fCons (fVar 0) (fCons (fVar 1) fNil))) (fC .non)))
def g_is_robust : G := run 2 2 b_is_robust
/-- fewest_guards -/
def ce_fewest_guards_1 : FE :=
  (fBin gIx (fVar 1) (fVar 4))
def lb_fewest_guards_2 : FS :=
  (sSeq (sAsg 3 (fOfL (fLc (fSeq (fVar 2)) (gNm 4) fYes ce_fewest_guards_1 [4])))
  (sIf (fTru (fCallW [false, false] g_is_robust (fCons (fCallW [false, false] g_guarded (fCons (fVar 0) (fCons (fVar 3) fNil))) (fCons (fC (.str "first")) fNil)))) (sRet (fVar 3))
  sNx))
def b_fewest_guards : FS :=
  (sSeq (sAsg 1 (fCallW [false] g_open_reads (fCons (fVar 0) fNil)))
  (sSeq (sIf (fTst (fBin gGt (fCallB bLen (fCons (fVar 1) fNil)) (fC (.int 8)))) (sRaise "TooLarge" ["most"] (fCons (fC (.int 8)) fNil))
  sNx)
  (sSeq (sFor (fSeq (fCallW [false] g_index_sets (fCons (fCallB bLen (fCons (fVar 1) fNil)) fNil))) (gNm 2) lb_fewest_guards_2)
  (sRet (fVar 1)))))
def g_fewest_guards : G := run 1 5 b_fewest_guards
/-- _law_jmeet -/
def ct__law_jmeet_1 : FT :=
  (fTst (fBin gIs (fVar 2) (fVar 1)))
def ce__law_jmeet_2 : FE :=
  (fVar 2)
def b__law_jmeet : FS :=
  (sRet (fBin gGt (fCallB bLen (fCons (fOfL (fLc (fSeq (fVar 0)) (gNm 2) ct__law_jmeet_1 ce__law_jmeet_2 [2])) fNil)) (fC (.int 0))))
def g__law_jmeet : G := run 2 3 b__law_jmeet
/-- _law_jclash -/
def b__law_jclash : FS :=
  (sSeq (sAsg 2 (fCallW [false, false] g__law_jcells (fCons (fVar 0) (fCons (fC (.bl false)) fNil))))
  (sSeq (sAsg 3 (fCallW [false, false] g__law_jcells (fCons (fVar 1) (fCons (fC (.bl false)) fNil))))
  (sSeq (sIf (fTru (fCallW [false, false] g__law_jmeet (fCons (fVar 2) (fCons (fVar 3) fNil)))) (sRet (fC (.bl true)))
  sNx)
  (sRet (fOrV (fCallW [false, false] g__law_jmeet (fCons (fCallW [false, false] g__law_jcells (fCons (fVar 0) (fCons (fC (.bl true)) fNil))) (fCons (fVar 3) fNil))) (fCallW [false, false] g__law_jmeet (fCons (fCallW [false, false] g__law_jcells (fCons (fVar 1) (fCons (fC (.bl true)) fNil))) (fCons (fVar 2) fNil))))))))
def g__law_jclash : G := run 2 4 b__law_jclash
/-- _law_jchain -/
def ct__law_jchain_1 : FT :=
  (fTst (fBin gNe (fVar 6) (fVar 1)))
def ce__law_jchain_2 : FE :=
  (fVar 6)
def ct__law_jchain_3 : FT :=
  (fNot (fTru (fCallW [false, false] g__law_jmeet (fCons (fVar 3) (fCons (fCallW [false, false] g__law_jcells (fCons (fBin gIx (fVar 0) (fVar 6)) (fCons (fC (.bl false)) fNil))) fNil)))))
def ce__law_jchain_4 : FE :=
  (fVar 6)
def ct__law_jchain_5 : FT :=
  (fTru (fCallW [false, false] g__law_jmeet (fCons (fVar 4) (fCons (fCallW [false, false] g__law_jcells (fCons (fBin gIx (fVar 0) (fVar 6)) (fCons (fC (.bl false)) fNil))) fNil))))
def ce__law_jchain_6 : FE :=
  (fVar 6)
def lb__law_jchain_7 : FS :=
  (sSeq (sIf (fTru (fCallW [false, false] g__law_jmeet (fCons (fCallW [false, false] g__law_jcells (fCons (fBin gIx (fVar 0) (fVar 6)) (fCons (fC (.bl true)) fNil))) (fCons (fVar 3) fNil)))) (sRet (fVar 9))
  sNx)
  (sIf (fAnd (fTst (fBin gEq (fVar 2) (fC (.str "blind")))) (fTru (fCallW [false, false] g__law_jmeet (fCons (fCallW [false, false] g__law_jcells (fCons (fBin gIx (fVar 0) (fVar 6)) (fCons (fC (.bl false)) fNil))) (fCons (fVar 3) fNil))))) (sRet (fVar 9))
  sNx))
def ct__law_jchain_8 : FT :=
  (fTru (fCallW [false, false] g__law_jclash (fCons (fBin gIx (fVar 0) (fVar 10)) (fCons (fBin gIx (fVar 0) (fVar 6)) fNil))))
def ce__law_jchain_9 : FE :=
  (fVar 10)
def ct__law_jchain_10 : FT :=
  (fAnd (fTst (fBin gNi (fVar 6) (fVar 8))) (fTst (fBin gGt (fCallB bLen (fCons (fOfL (fLc (fSeq (fVar 7)) (gNm 10) ct__law_jchain_8 ce__law_jchain_9 [10])) fNil)) (fC (.int 0)))))
def ce__law_jchain_11 : FE :=
  (fVar 6)
def lb__law_jchain_12 : FS :=
  (sSeq (sFor (fSeq (fVar 7)) (gNm 6) lb__law_jchain_7)
  (sSeq (sAsg 7 (fOfL (fLc (fSeq (fVar 5)) (gNm 6) ct__law_jchain_10 ce__law_jchain_11 [6])))
  (sAsg 8 (fBin gAdd (fVar 8) (fVar 7)))))
def b__law_jchain : FS :=
  (sSeq (sAsg 3 (fCallW [false, false] g__law_jcells (fCons (fBin gIx (fVar 0) (fVar 1)) (fCons (fC (.bl false)) fNil))))
  (sSeq (sAsg 4 (fCallW [false, false] g__law_jcells (fCons (fBin gIx (fVar 0) (fVar 1)) (fCons (fC (.bl true)) fNil))))
  (sSeq (sAsg 5 (fOfL (fLc (fRng1 (fCons (fCallB bLen (fCons (fVar 0) fNil)) fNil)) (gNm 6) ct__law_jchain_1 ce__law_jchain_2 [6])))
  (sSeq (sIf (fTst (fBin gNe (fVar 2) (fC (.str "blind")))) (sAsg 5 (fOfL (fLc (fSeq (fVar 5)) (gNm 6) ct__law_jchain_3 ce__law_jchain_4 [6])))
  sNx)
  (sSeq (sAsg 7 (fOfL (fLc (fSeq (fVar 5)) (gNm 6) ct__law_jchain_5 ce__law_jchain_6 [6])))
  (sSeq (sAsg 8 (fOfL (fListOf (fCons (fVar 7) fNil))))
  (sSeq (sFor (fRng2 (fCons (fC (.int 1)) (fCons (fBin gAdd (fCallB bLen (fCons (fVar 0) fNil)) (fC (.int 1))) fNil))) (gNm 9) lb__law_jchain_12)
  (sRet (fC (.int 0))))))))))
def g__law_jchain : G := run 3 11 b__law_jchain
/-- _law_is_due -/
def ct__law_is_due_1 : FT :=
  (fTst (fBin gGt (fCallW [false, false, false] g__law_jchain (fCons (fVar 0) (fCons (fVar 1) (fCons (fC (.str "first")) fNil)))) (fC (.int 0))))
def ce__law_is_due_2 : FE :=
  (fVar 1)
def b__law_is_due : FS :=
  (sRet (fBin gEq (fCallB bLen (fCons (fOfL (fLc (fRng1 (fCons (fCallB bLen (fCons (fVar 0) fNil)) fNil)) (gNm 1) ct__law_is_due_1 ce__law_is_due_2 [1])) fNil)) (fC (.int 0))))
def g__law_is_due : G := run 1 2 b__law_is_due
/-- _law_longer -/
def lb__law_longer_1 : FS :=
  (sDrop (fMet appW (fVar 2) (fCons (fBin gAdd (fVar 3) (fOfL (fLst (fCons (fVar 5) fNil)))) fNil)))
def lb__law_longer_2 : FS :=
  (sSeq (sAsg 4 (fC (.int 0)))
  (sSeq (sIf (fTst (fBin gGt (fCallB bLen (fCons (fVar 3) fNil)) (fC (.int 0)))) (sAsg 4 (fBin gAdd (fBin gIx (fVar 3) (fNeg (fC (.int 1)))) (fC (.int 1))))
  sNx)
  (sFor (fRng2 (fCons (fVar 4) (fCons (fVar 1) fNil))) (gNm 5) lb__law_longer_1)))
def b__law_longer : FS :=
  (sSeq (sAsgM 2 (fLst fNil))
  (sSeq (sFor (fSeq (fVar 0)) (gNm 3) lb__law_longer_2)
  (sRet (fVar 2))))
def g__law_longer : G := run 2 6 b__law_longer
/-- _law_fewest -/
def ce__law_fewest_1 : FE :=
  (fBin gIx (fVar 2) (fVar 6))
def ce__law_fewest_2 : FE :=
  (fBin gIx (fVar 2) (fVar 6))
def lb__law_fewest_3 : FS :=
  (sIf (fTru (fCallW [false] g__law_is_due (fCons (fCallW [false, false, false] g__law_with (fCons (fVar 0) (fCons (fVar 1) (fCons (fOfL (fLc (fSeq (fVar 5)) (gNm 6) fYes ce__law_fewest_1 [6])) fNil)))) fNil))) (sRet (fOfL (fLc (fSeq (fVar 5)) (gNm 6) fYes ce__law_fewest_2 [6])))
  sNx)
def lb__law_fewest_4 : FS :=
  (sSeq (sFor (fSeq (fVar 3)) (gNm 5) lb__law_fewest_3)
  (sAsg 3 (fCallW [false, false] g__law_longer (fCons (fVar 3) (fCons (fCallB bLen (fCons (fVar 2) fNil)) fNil)))))
def b__law_fewest : FS :=
  (sSeq (sAsg 3 (fOfL (fLst (fCons (fOfL (fLst fNil)) fNil))))
  (sSeq (sFor (fRng1 (fCons (fBin gAdd (fCallB bLen (fCons (fVar 2) fNil)) (fC (.int 1))) fNil)) (gNm 4) lb__law_fewest_4)
  (sRet (fOfL (fListOf (fCons (fVar 2) fNil))))))
def g__law_fewest : G := run 3 7 b__law_fewest
/-- _law_refused -/
def b__law_refused : FS :=
  (sSeq (sTryAs 1 (fun c => List.lookup c [(("TooLarge" : Str), true)]) (suRetF "most") (sDrop (fCallW [false] g_fewest_guards (fCons (fVar 0) fNil))))
  (sRet (fC .non)))
def g__law_refused : G := run 1 2 b__law_refused
/-- law -/
def ce_law_1 : FE :=
  (fAtt ["Job"] [] "name" (fVar 10))
def ce_law_2 : FE :=
  (fOfL (fListOf (fCons (fAtt ["Job"] [] "steps" (fVar 10)) fNil)))
def ce_law_3 : FE :=
  (fTup (fCons (fC (.str "read")) (fCons (fBin gIx (fVar 3) (fC (.int 0))) (fCons (fVar 12) fNil))))
def b_law : FS :=
  (sSeq (sAsgM 1 (fCallL [false] g__law_state (fCons (fVar 0) fNil)))
  (sSeq (sAsg 2 (fCallW [true, false] g__law_names (fCons (fVar 1) (fCons (fC (.int 12)) fNil))))
  (sSeq (sAsg 3 (fSl (fVar 2) (oSome (fC (.int 8))) (oSome (fBin gAdd (fC (.int 8)) (fCallW [true, false] g__law_many (fCons (fVar 1) (fCons (fC (.int 3)) fNil)))))))
  (sSeq (sAsg 4 (fBin gAdd (fC (.int 1)) (fCallW [true, false] g__law_draw (fCons (fVar 1) (fCons (fC (.int 2)) fNil)))))
  (sSeq (sAsg 5 (fCallW [true, false, false, false, false] g__law_job_rows (fCons (fVar 1) (fCons (fVar 3) (fCons (fVar 4) (fCons (fCallW [true, false] g__law_pick (fCons (fVar 1) (fCons (fOfL (fLst (fCons (fC (.int 3)) (fCons (fC (.int 4)) (fCons (fC (.int 2)) (fCons (fC (.int 0)) fNil)))))) fNil))) (fCons (fCallW [true, false] g__law_pick (fCons (fVar 1) (fCons (fOfL (fLst (fCons (fC (.int 2)) (fCons (fC (.int 3)) (fCons (fC (.int 4)) fNil))))) fNil))) fNil)))))))
  (sSeq (sAsg 6 (fCallW [false, false] g__law_open (fCons (fVar 2) (fCons (fVar 5) fNil))))
  (sSeq (sAsg 7 (fCallW [false, false] g__law_job_book (fCons (fVar 2) (fCons (fVar 5) fNil))))
  (sSeq (sIf (fNot (fTru (fCallW [false, false] g__law_same (fCons (fCallW [false] g_open_reads (fCons (fVar 7) fNil)) (fCons (fVar 6) fNil))))) (sRet (fC (.bl false)))
  sNx)
  (sSeq (sAsg 8 (fCallW [true, false, false] g__law_some (fCons (fVar 1) (fCons (fVar 6) (fCons (fC (.int 2)) fNil)))))
  (sSeq (sAsg 9 (fCallW [false, false] g_guarded (fCons (fVar 7) (fCons (fVar 8) fNil))))
  (sSeq (sIf (fOr (fNot (fTru (fIsi (fun _ => false) (fun c => List.lookup c [("JobBook", true)]) (fVar 9)))) (fNot (fTru (fCallW [false, false] g__law_same (fCons (fOfL (fLc (fOwnI [("JobBook", "listed")] (fVar 9)) (gNm 10) fYes ce_law_1 [10])) (fCons (fSl (fVar 2) oNone (oSome (fCallB bLen (fCons (fVar 5) fNil)))) fNil)))))) (sRet (fC (.bl false)))
  sNx)
  (sSeq (sIf (fNot (fTru (fCallW [false, false] g__law_same (fCons (fOfL (fLc (fOwnI [("JobBook", "listed")] (fVar 9)) (gNm 10) fYes ce_law_2 [10])) (fCons (fCallW [false, false, false] g__law_with (fCons (fVar 2) (fCons (fVar 5) (fCons (fVar 8) fNil)))) fNil))))) (sRet (fC (.bl false)))
  sNx)
  (sSeq (sAsg 11 (fOfL (fLc (fRng1 (fCons (fC (.int 9)) fNil)) (gNm 12) fYes ce_law_3 [12])))
  (sSeq (sAsg 13 (fC (.int 8)))
  (sSeq (sIf (fTst (fBin gLt (fCallB bLen (fCons (fVar 6) fNil)) (fC (.int 7)))) (sSeq (sAsg 14 (fCallW [false] g_fewest_guards (fCons (fVar 7) fNil)))
  (sIf (fOr (fNot (fTru (fCallW [false, false] g__law_same (fCons (fVar 14) (fCons (fCallW [false, false, false] g__law_fewest (fCons (fVar 2) (fCons (fVar 5) (fCons (fVar 6) fNil)))) fNil))))) (fTst (fBin gIsN (fCallW [false, false] g_is_robust (fCons (fCallW [false, false] g_guarded (fCons (fVar 7) (fCons (fVar 14) fNil))) (fCons (fC (.str "first")) fNil))) (fC (.bl true))))) (sRet (fC (.bl false)))
  sNx))
  sNx)
  (sSeq (sAsg 14 (fOfL (fLst (fCons (fCallW [false] g__law_refused (fCons (fFrz (fMakeH [false] g_JobBook___init__ "JobBook" (fCons (fOfL (fMakeM [false, false] g_Job___init__ "Job" (fCons (fBin gIx (fVar 2) (fC (.int 0))) (fCons (fVar 11) fNil)))) fNil))) fNil)) (fCons (fCallW [false] g__law_refused (fCons (fFrz (fMakeH [false] g_JobBook___init__ "JobBook" (fCons (fOfL (fMakeM [false, false] g_Job___init__ "Job" (fCons (fBin gIx (fVar 2) (fC (.int 0))) (fCons (fSl (fVar 11) oNone (oSome (fC (.int 8)))) fNil)))) fNil))) fNil)) fNil)))))
  (sRet (fAndV (fCallW [false, false] g__law_same (fCons (fVar 14) (fCons (fOfL (fLst (fCons (fVar 13) (fCons (fC .non) fNil)))) fNil))) (fCallW [false, false] g__law_same (fCons (fCallW [false] g_open_reads (fCons (fVar 7) fNil)) (fCons (fVar 6) fNil)))))))))))))))))))))
def g_law : G := run 1 15 b_law
end
/-! ### facts -/
def fa : List Kf := ([.fa (.free "list"), .fa (.free "len"), .fa (.free "int"), .fa (.free "range"), .fa (.free "min"), .fa (.free "max"), .fa (.cls "JobBook"), .fa (.noat "JobBook" "listed"), .fa (.cls "Job"), .fa (.noat "Job" "name"), .fa (.free "tuple"), .cval "JobBook" "MOST" (.int 8), .cread "JobBook", .fa (.glo "JobBook"), .gval "NAME_LENGTH" (.int 12), .gval "RESERVED" (.tup [(.str "always"), (.str "never"), (.str "and"), (.str "or"), (.str "not"), (.str "when"), (.str "add"), (.str "set"), (.str "change"), (.str "tell"), (.str "refuse"), (.str "take"), (.str "look"), (.str "free"), (.str "lock"), (.str "keep"), (.str "keys"), (.str "fields")]), .gval "LETTERS" (.str "abcdefghijklmnopqrstuvwxyz"), .cval "Job" "MOST" (.int 12), .cread "Job", .fa (.glo "Job"), .gval "JOB_DEEDS" (.tup [(.str "read"), (.str "add"), (.str "set")]), .gval "BOUND" (.int (1000000000000000000000000000000)), .fa (.noat "Job" "steps"), .fa (.free "isinstance"), .fa (.free "bool"), .fa (.free "str"), .fa (.free "dict"), .insc "JobBook", .kitcc "JobBook" "JobBook" true, .kitn "JobBook"] : List Kf) ++ ([.gval "MOST_READS" (.int 8), .fa (.free "any"), .fa (.cls "Split"), .fa (.noat "Split" "jobs"), .fa (.noat "Split" "outer"), .fa (.noat "Split" "chain"), .fa (.noat "Split" "policy"), .fa (.exm "TooLarge" "TooLarge" true), .fa (.noat "TooLarge" "most"), .fa (.glo "_law_state"), .fa (.glo "_law_draw"), .fa (.glo "_law_names"), .fa (.glo "_law_many"), .fa (.glo "_law_pick"), .fa (.glo "_law_constant"), .fa (.glo "_law_job_steps"), .fa (.glo "_law_job_rows"), .fa (.glo "_law_jcells"), .fa (.glo "_law_open"), .prop "JobBook" "job_names", .fa (.meth "JobBook" "admit_job"), .fa (.mkr "JobBook"), .fa (.glo "is_name"), .fa (.glo "check_name"), .fa (.glo "check_number"), .fa (.glo "check_job_step"), .fa (.mkr "Job"), .fa (.glo "_law_job_book"), .fa (.glo "_law_is_int"), .fa (.glo "_law_same")] : List Kf) ++ ([.fa (.keep "_law_same"), .prop "Job" "read_cells", .fa (.glo "distinct"), .prop "Job" "written_cells", .fa (.glo "open_reads"), .fa (.glo "_law_some"), .fa (.glo "guarded"), .fa (.glo "_law_with"), .fa (.glo "index_sets"), .fa (.glo "shares"), .fa (.glo "both_write"), .fa (.glo "misses_write"), .fa (.glo "comes_back"), .fa (.glo "jobs_conflict"), .fa (.glo "chain_for"), .fa (.mkr "Split"), .fa (.glo "Split"), .fa (.glo "find_split"), .fa (.glo "is_robust"), .fa (.glo "fewest_guards"), .fa (.glo "_law_jmeet"), .fa (.glo "_law_jclash"), .fa (.glo "_law_jchain"), .fa (.glo "_law_is_due"), .fa (.glo "_law_longer"), .fa (.glo "_law_fewest"), .fa (.glo "_law_refused"), .fa (.glo "law"), .fa (.glo "TooLarge"), .fa (.free "super")] : List Kf) ++ ([.fa (.meth "JobBook" "__iter__"), .fa (.free "iter"), .fa (.meth "JobBook" "__len__")] : List Kf)
def fn : List Kd := ([k_TooLarge___init__, k__law_state, k__law_draw, k__law_names, k__law_many, k__law_pick, k__law_constant, k__law_job_steps, k__law_job_rows, k__law_jcells, k__law_open, k_JobBook_job_names, k_JobBook_admit_job, k_JobBook___init__, k_is_name, k_check_name, k_check_number, k_check_job_step, k_Job___init__, k__law_job_book, k__law_is_int, k__law_same, k_Job_read_cells, k_distinct, k_Job_written_cells, k_open_reads, k__law_some, k_guarded, k__law_with, k_index_sets] : List Kd) ++ ([k_shares, k_both_write, k_misses_write, k_comes_back, k_jobs_conflict, k_chain_for, k_Split___init__, k_find_split, k_is_robust, k_fewest_guards, k__law_jmeet, k__law_jclash, k__law_jchain, k__law_is_due, k__law_longer, k__law_fewest, k__law_refused, k_law, k_JobBook___iter__, k_JobBook___len__] : List Kd)
/-! ### each def does it -/
theorem s__law_state : FnScope (["script"] : List Str) (["script"] : List Str) k__law_state.scope := ⟨rfl, rfl, rfl, by decide +kernel, rfl, by decide +kernel, by decide +kernel⟩
theorem s__law_draw : FnScope (["state", "many", "digit", "first", "second", "third"] : List Str) (["state", "many"] : List Str) k__law_draw.scope := ⟨rfl, rfl, rfl, by decide +kernel, rfl, by decide +kernel, by decide +kernel⟩
theorem s__law_names : FnScope (["state", "many", "letters", "shift", "spot", "result", "k"] : List Str) (["state", "many"] : List Str) k__law_names.scope := ⟨rfl, rfl, rfl, by decide +kernel, rfl, by decide +kernel, by decide +kernel⟩
theorem s__law_many : FnScope (["state", "most"] : List Str) (["state", "most"] : List Str) k__law_many.scope := ⟨rfl, rfl, rfl, by decide +kernel, rfl, by decide +kernel, by decide +kernel⟩
theorem s__law_pick : FnScope (["state", "row"] : List Str) (["state", "row"] : List Str) k__law_pick.scope := ⟨rfl, rfl, rfl, by decide +kernel, rfl, by decide +kernel, by decide +kernel⟩
theorem s__law_constant : FnScope (["state"] : List Str) (["state"] : List Str) k__law_constant.scope := ⟨rfl, rfl, rfl, by decide +kernel, rfl, by decide +kernel, by decide +kernel⟩
theorem s__law_job_steps : FnScope (["state", "fields", "many_rows", "many", "result", "k", "deed", "step"] : List Str) (["state", "fields", "many_rows", "many"] : List Str) k__law_job_steps.scope := ⟨rfl, rfl, rfl, by decide +kernel, rfl, by decide +kernel, by decide +kernel⟩
theorem s__law_job_rows : FnScope (["state", "fields", "many_rows", "many_jobs", "most", "k"] : List Str) (["state", "fields", "many_rows", "many_jobs", "most"] : List Str) k__law_job_rows.scope := ⟨rfl, rfl, rfl, by decide +kernel, rfl, by decide +kernel, by decide +kernel⟩
theorem s__law_jcells : FnScope (["steps", "reading", "known", "result", "step", "cell"] : List Str) (["steps", "reading"] : List Str) k__law_jcells.scope := ⟨rfl, rfl, rfl, by decide +kernel, rfl, by decide +kernel, by decide +kernel⟩
theorem s__law_open : FnScope (["names", "jobs", "result", "j", "written", "cell"] : List Str) (["names", "jobs"] : List Str) k__law_open.scope := ⟨rfl, rfl, rfl, by decide +kernel, rfl, by decide +kernel, by decide +kernel⟩
theorem s_JobBook_job_names : FnScope (["self", "job"] : List Str) (["self"] : List Str) k_JobBook_job_names.scope := ⟨rfl, rfl, rfl, by decide +kernel, rfl, by decide +kernel, by decide +kernel⟩
theorem s_JobBook_admit_job : FnScope (["self", "job"] : List Str) (["self", "job"] : List Str) k_JobBook_admit_job.scope := ⟨rfl, rfl, rfl, by decide +kernel, rfl, by decide +kernel, by decide +kernel⟩
theorem s_JobBook___init__ : FnScope (["self", "jobs", "job"] : List Str) (["self", "jobs"] : List Str) k_JobBook___init__.scope := ⟨rfl, rfl, rfl, by decide +kernel, rfl, by decide +kernel, by decide +kernel⟩
theorem s_is_name : FnScope (["text", "char"] : List Str) (["text"] : List Str) k_is_name.scope := ⟨rfl, rfl, rfl, by decide +kernel, rfl, by decide +kernel, by decide +kernel⟩
theorem s_check_name : FnScope (["text"] : List Str) (["text"] : List Str) k_check_name.scope := ⟨rfl, rfl, rfl, by decide +kernel, rfl, by decide +kernel, by decide +kernel⟩
theorem s_check_number : FnScope (["value"] : List Str) (["value"] : List Str) k_check_number.scope := ⟨rfl, rfl, rfl, by decide +kernel, rfl, by decide +kernel, by decide +kernel⟩
theorem s_check_job_step : FnScope (["name", "step"] : List Str) (["name", "step"] : List Str) k_check_job_step.scope := ⟨rfl, rfl, rfl, by decide +kernel, rfl, by decide +kernel, by decide +kernel⟩
theorem s_Job___init__ : FnScope (["self", "name", "steps", "step"] : List Str) (["self", "name", "steps"] : List Str) k_Job___init__.scope := ⟨rfl, rfl, rfl, by decide +kernel, rfl, by decide +kernel, by decide +kernel⟩
theorem s__law_job_book : FnScope (["names", "jobs", "result", "k"] : List Str) (["names", "jobs"] : List Str) k__law_job_book.scope := ⟨rfl, rfl, rfl, by decide +kernel, rfl, by decide +kernel, by decide +kernel⟩
theorem s__law_is_int : FnScope (["thing"] : List Str) (["thing"] : List Str) k__law_is_int.scope := ⟨rfl, rfl, rfl, by decide +kernel, rfl, by decide +kernel, by decide +kernel⟩
theorem s__law_same : FnScope (["actual", "due", "key", "k"] : List Str) (["actual", "due"] : List Str) k__law_same.scope := ⟨rfl, rfl, rfl, by decide +kernel, rfl, by decide +kernel, by decide +kernel⟩
theorem s_Job_read_cells : FnScope (["self", "known", "found", "step", "cell"] : List Str) (["self"] : List Str) k_Job_read_cells.scope := ⟨rfl, rfl, rfl, by decide +kernel, rfl, by decide +kernel, by decide +kernel⟩
theorem s_distinct : FnScope (["cells", "found", "cell"] : List Str) (["cells"] : List Str) k_distinct.scope := ⟨rfl, rfl, rfl, by decide +kernel, rfl, by decide +kernel, by decide +kernel⟩
theorem s_Job_written_cells : FnScope (["self", "step"] : List Str) (["self"] : List Str) k_Job_written_cells.scope := ⟨rfl, rfl, rfl, by decide +kernel, rfl, by decide +kernel, by decide +kernel⟩
theorem s_open_reads : FnScope (["jobs", "job", "cell"] : List Str) (["jobs"] : List Str) k_open_reads.scope := ⟨rfl, rfl, rfl, by decide +kernel, rfl, by decide +kernel, by decide +kernel⟩
theorem s__law_some : FnScope (["state", "row", "share", "item"] : List Str) (["state", "row", "share"] : List Str) k__law_some.scope := ⟨rfl, rfl, rfl, by decide +kernel, rfl, by decide +kernel, by decide +kernel⟩
theorem s_guarded : FnScope (["jobs", "reads", "result", "job", "steps", "name", "cell"] : List Str) (["jobs", "reads"] : List Str) k_guarded.scope := ⟨rfl, rfl, rfl, by decide +kernel, rfl, by decide +kernel, by decide +kernel⟩
theorem s__law_with : FnScope (["names", "jobs", "reads", "result", "j", "pair"] : List Str) (["names", "jobs", "reads"] : List Str) k__law_with.scope := ⟨rfl, rfl, rfl, by decide +kernel, rfl, by decide +kernel, by decide +kernel⟩
theorem s_index_sets : FnScope (["many", "last", "found", "_", "row", "at"] : List Str) (["many"] : List Str) k_index_sets.scope := ⟨rfl, rfl, rfl, by decide +kernel, rfl, by decide +kernel, by decide +kernel⟩
theorem s_shares : FnScope (["first", "second", "cell"] : List Str) (["first", "second"] : List Str) k_shares.scope := ⟨rfl, rfl, rfl, by decide +kernel, rfl, by decide +kernel, by decide +kernel⟩
theorem s_both_write : FnScope (["first", "second"] : List Str) (["first", "second"] : List Str) k_both_write.scope := ⟨rfl, rfl, rfl, by decide +kernel, rfl, by decide +kernel, by decide +kernel⟩
theorem s_misses_write : FnScope (["first", "second"] : List Str) (["first", "second"] : List Str) k_misses_write.scope := ⟨rfl, rfl, rfl, by decide +kernel, rfl, by decide +kernel, by decide +kernel⟩
theorem s_comes_back : FnScope (["first", "last", "policy"] : List Str) (["first", "last", "policy"] : List Str) k_comes_back.scope := ⟨rfl, rfl, rfl, by decide +kernel, rfl, by decide +kernel, by decide +kernel⟩
theorem s_jobs_conflict : FnScope (["first", "second"] : List Str) (["first", "second"] : List Str) k_jobs_conflict.scope := ⟨rfl, rfl, rfl, by decide +kernel, rfl, by decide +kernel, by decide +kernel⟩
theorem s_chain_for : FnScope (["listed", "outer", "policy", "first", "allowed", "number", "chains", "known", "chain", "longer", "last"] : List Str) (["listed", "outer", "policy"] : List Str) k_chain_for.scope := ⟨rfl, rfl, rfl, by decide +kernel, rfl, by decide +kernel, by decide +kernel⟩
theorem s_Split___init__ : FnScope (["self", "jobs", "outer", "chain", "policy"] : List Str) (["self", "jobs", "outer", "chain", "policy"] : List Str) k_Split___init__.scope := ⟨rfl, rfl, rfl, by decide +kernel, rfl, by decide +kernel, by decide +kernel⟩
theorem s_find_split : FnScope (["jobs", "policy", "listed", "outer", "chain"] : List Str) (["jobs", "policy"] : List Str) k_find_split.scope := ⟨rfl, rfl, rfl, by decide +kernel, rfl, by decide +kernel, by decide +kernel⟩
theorem s_is_robust : FnScope (["jobs", "policy"] : List Str) (["jobs", "policy"] : List Str) k_is_robust.scope := ⟨rfl, rfl, rfl, by decide +kernel, rfl, by decide +kernel, by decide +kernel⟩
theorem s_fewest_guards : FnScope (["jobs", "known", "places", "reads", "at"] : List Str) (["jobs"] : List Str) k_fewest_guards.scope := ⟨rfl, rfl, rfl, by decide +kernel, rfl, by decide +kernel, by decide +kernel⟩
theorem s__law_jmeet : FnScope (["first", "second", "cell"] : List Str) (["first", "second"] : List Str) k__law_jmeet.scope := ⟨rfl, rfl, rfl, by decide +kernel, rfl, by decide +kernel, by decide +kernel⟩
theorem s__law_jclash : FnScope (["one", "other", "mine", "yours"] : List Str) (["one", "other"] : List Str) k__law_jclash.scope := ⟨rfl, rfl, rfl, by decide +kernel, rfl, by decide +kernel, by decide +kernel⟩
theorem s__law_jchain : FnScope (["jobs", "outer", "policy", "mine", "reads", "let", "j", "last", "known", "many", "k"] : List Str) (["jobs", "outer", "policy"] : List Str) k__law_jchain.scope := ⟨rfl, rfl, rfl, by decide +kernel, rfl, by decide +kernel, by decide +kernel⟩
theorem s__law_is_due : FnScope (["jobs", "j"] : List Str) (["jobs"] : List Str) k__law_is_due.scope := ⟨rfl, rfl, rfl, by decide +kernel, rfl, by decide +kernel, by decide +kernel⟩
theorem s__law_longer : FnScope (["rows", "many", "result", "row", "start", "k"] : List Str) (["rows", "many"] : List Str) k__law_longer.scope := ⟨rfl, rfl, rfl, by decide +kernel, rfl, by decide +kernel, by decide +kernel⟩
theorem s__law_fewest : FnScope (["names", "jobs", "known", "rows", "many", "row", "k"] : List Str) (["names", "jobs", "known"] : List Str) k__law_fewest.scope := ⟨rfl, rfl, rfl, by decide +kernel, rfl, by decide +kernel, by decide +kernel⟩
theorem s__law_refused : FnScope (["book", "e"] : List Str) (["book"] : List Str) k__law_refused.scope := ⟨rfl, rfl, rfl, by decide +kernel, rfl, by decide +kernel, by decide +kernel⟩
theorem s_law : FnScope (["script", "state", "names", "fields", "many", "jobs", "known", "book", "some", "more", "job", "wide", "k", "due", "told"] : List Str) (["script"] : List Str) k_law.scope := ⟨rfl, rfl, rfl, by decide +kernel, rfl, by decide +kernel, by decide +kernel⟩
theorem s_JobBook___iter__ : FnScope (["self"] : List Str) (["self"] : List Str) k_JobBook___iter__.scope := ⟨rfl, rfl, rfl, by decide +kernel, rfl, by decide +kernel, by decide +kernel⟩
theorem s_JobBook___len__ : FnScope (["self"] : List Str) (["self"] : List Str) k_JobBook___len__.scope := ⟨rfl, rfl, rfl, by decide +kernel, rfl, by decide +kernel, by decide +kernel⟩
section
variable {P : Program} {w : World} {K : PySem.W.Frag} {mg : Str → Option Value} {base h : Heap}
variable (KX : K.In h) (G : h.Ns mainGlobals mg) (S : SaysP P file fa fn K)
include KX G S
theorem tx_TooLarge : XcE P K mg "TooLarge" ["most"] := Xc.e (Kd.errOk (d := k_TooLarge___init__) (fs := [("most", _, _, _, _)]) (S.see 0 (d := k_TooLarge___init__) rfl) rfl rfl (fun _ _ _ _ _ _ _ us hl => match us, hl with | [_, _], _ => rfl) ⟨_, rfl, rfl⟩ S.file ⟨rfl, rfl, by decide +kernel, by decide +kernel, rfl, rfl, rfl, rfl⟩ (He.glo_ok KX G (S.fact 88 (f := .fa (.glo "TooLarge")) rfl)) (all_cons (p := fun q : Sto => PySem.W.findIn K (.ref (He.ga K "TooLarge")) q.1 = some none) (a := ("most", _)) (He.noat_ok (S.fact 38 (f := .fa (.noat "TooLarge" "most")) rfl)) all_nil) (He.free_ok KX G (S.fact 89 (f := .fa (.free "super")) rfl)) S.top (by decide +kernel) (all_of (by decide +kernel)) (by decide))
theorem t_iter_JobBook : IterOk P w K mg base 1 "JobBook" "listed" := ⟨(He.cls_ok (S.fact 6 (f := .fa (.cls "JobBook")) rfl)), He.noat_ok (S.fact 7 (f := .fa (.noat "JobBook" "listed")) rfl), ⟨_, (He.meth_ok (S.fact 90 (f := .fa (.meth "JobBook" "__iter__")) rfl)).at_, (He.meth_ok (S.fact 90 (f := .fa (.meth "JobBook" "__iter__")) rfl)).fn, it_fn (k := 0) (d := k_JobBook___iter__) (S.def_ 48 (d := k_JobBook___iter__) rfl) rfl s_JobBook___iter__ rfl (fun _ _ _ _ _ _ _ => rfl) (He.free_ok KX G (S.fact 91 (f := .fa (.free "iter")) rfl)) (fun _ _ _ _ _ _ => rfl) (He.cls_ok (S.fact 6 (f := .fa (.cls "JobBook")) rfl)) (He.noat_ok (S.fact 7 (f := .fa (.noat "JobBook" "listed")) rfl))⟩, ⟨_, (He.meth_ok (S.fact 92 (f := .fa (.meth "JobBook" "__len__")) rfl)).at_, (He.meth_ok (S.fact 92 (f := .fa (.meth "JobBook" "__len__")) rfl)).fn, ln_fn (k := 0) (d := k_JobBook___len__) (S.def_ 49 (d := k_JobBook___len__) rfl) rfl s_JobBook___len__ rfl (fun _ _ _ _ _ _ us hl => match us, hl with | [_], _ => rfl) (He.free_ok KX G (S.fact 1 (f := .fa (.free "len")) rfl)) (fun _ _ _ _ _ _ => rfl) (He.cls_ok (S.fact 6 (f := .fa (.cls "JobBook")) rfl)) (He.noat_ok (S.fact 7 (f := .fa (.noat "JobBook" "listed")) rfl))⟩⟩
theorem t__law_state : CallOk P w K mg base "_law_state" 1 g__law_state := Kd.call (k := 0) (S.def_ 1 (d := k__law_state) rfl) rfl s__law_state (fun _ _ _ _ _ _ us hl => match us, hl with | [_], _ => rfl) (fun {_} {_} c hp hfr => (show VSs _ _ k__law_state.body b__law_state from
  (vss_one (vs_retL (vl_lst (va_cons (ve_ofL (VL.Ctx.list c (He.free_ok KX G (S.fact 0 (f := .fa (.free "list")) rfl)) (va_cons (VL.Ctx.var c 0) va_nil))) (va_cons ve_int (va_cons ve_int (va_cons ve_int (va_cons ve_int va_nil)))))))))) rfl (He.glo_ok KX G (S.fact 39 (f := .fa (.glo "_law_state")) rfl))
theorem t__law_draw : CallOk P w K mg base "_law_draw" 1 g__law_draw := Kd.call (k := 0) (S.def_ 2 (d := k__law_draw) rfl) rfl s__law_draw (fun _ _ _ _ _ _ us hl => match us, hl with | [_, _], _ => rfl) (fun {_} {_} c hp hfr => (show VSs _ _ k__law_draw.body b__law_draw from
  (vss_cons (vs_if (vt_cmp (VL.Ctx.oEq c) og_eq (ve_ix ix_seq og_ix (VL.Ctx.var c 0) ve_int (fun _ _ => rfl)) ve_int (nomark _)) (vss_cons (vs_if (vt_cmp op_ge og_ge (ve_ix ix_seq og_ix (VL.Ctx.var c 0) ve_int (fun _ _ => rfl)) (VL.Ctx.len c (He.free_ok KX G (S.fact 1 (f := .fa (.free "len")) rfl)) (va_cons (ve_ix ix_seq og_ix (VL.Ctx.var c 0) ve_int (fun _ _ => rfl)) va_nil)) (nomark _)) (vss_one (vs_ret ve_int))
  vss_nil)
  (vss_cons (vs_setI (VL.Ctx.var c 0) ve_int (VL.Ctx.int c (He.free_ok KX G (S.fact 2 (f := .fa (.free "int")) rfl)) (va_cons (ve_ix ix_seq og_ix (ve_ix ix_seq og_ix (VL.Ctx.var c 0) ve_int (fun _ _ => rfl)) (ve_ix ix_seq og_ix (VL.Ctx.var c 0) ve_int (fun _ _ => rfl)) (fun _ _ => rfl)) va_nil)))
  (vss_cons (vs_setI (VL.Ctx.var c 0) ve_int (ve_bin op_addAny og_add (ve_ix ix_seq og_ix (VL.Ctx.var c 0) ve_int (fun _ _ => rfl)) ve_int))
  (vss_cons (vs_setI (VL.Ctx.var c 0) ve_int ve_int)
  (vss_cons (vs_setI (VL.Ctx.var c 0) ve_int ve_int)
  (vss_one (vs_if (vt_cmp op_lt og_lt (ve_ix ix_seq og_ix (VL.Ctx.var c 0) ve_int (fun _ _ => rfl)) (ve_bin op_pow og_pow ve_int ve_int) (nomark _)) (vss_one (vs_setI (VL.Ctx.var c 0) ve_int ve_int))
  vss_nil)))))))
  vss_nil)
  (vss_cons (vs_setI (VL.Ctx.var c 0) ve_int (ve_bin op_addAny og_add (ve_ix ix_seq og_ix (VL.Ctx.var c 0) ve_int (fun _ _ => rfl)) ve_int))
  (vss_cons (vs_if (vt_cmp (VL.Ctx.oEq c) og_eq (ve_ix ix_seq og_ix (VL.Ctx.var c 0) ve_int (fun _ _ => rfl)) ve_int (nomark _)) (vss_cons (VL.Ctx.set c 2 (ve_bin op_mod og_mod (VL.Ctx.int c (He.free_ok KX G (S.fact 2 (f := .fa (.free "int")) rfl)) (va_cons (ve_ix ix_seq og_ix (VL.Ctx.var c 0) ve_int (fun _ _ => rfl)) va_nil)) (VL.Ctx.var c 1)))
  (vss_cons (vs_setI (VL.Ctx.var c 0) ve_int (ve_bin op_fdivW og_div (VL.Ctx.int c (He.free_ok KX G (S.fact 2 (f := .fa (.free "int")) rfl)) (va_cons (ve_ix ix_seq og_ix (VL.Ctx.var c 0) ve_int (fun _ _ => rfl)) va_nil)) (VL.Ctx.var c 1)))
  (vss_cons (vs_if (L2.PW.pt (vw_or (vt_cmp (VL.Ctx.oEq c) og_eq (ve_ix ix_seq og_ix (VL.Ctx.var c 0) ve_int (fun _ _ => rfl)) ve_int (nomark _)) (vw_or1 (vt_cmp op_ge og_ge (ve_ix ix_seq og_ix (VL.Ctx.var c 0) ve_int (fun _ _ => rfl)) ve_int (nomark _))))) (vss_one (vs_setI (VL.Ctx.var c 0) ve_int ve_int))
  vss_nil)
  (vss_one (vs_ret (VL.Ctx.var c 2))))))
  vss_nil)
  (vss_cons (VL.Ctx.set c 3 (ve_bin op_mod og_mod (VL.Ctx.int c (He.free_ok KX G (S.fact 2 (f := .fa (.free "int")) rfl)) (va_cons (ve_bin op_addAny og_add (ve_bin op_mul og_mul (ve_ix ix_seq og_ix (VL.Ctx.var c 0) ve_int (fun _ _ => rfl)) ve_int) (ve_bin op_mul og_mul (ve_ix ix_seq og_ix (VL.Ctx.var c 0) ve_int (fun _ _ => rfl)) ve_int)) va_nil)) ve_int))
  (vss_cons (VL.Ctx.set c 4 (ve_bin op_mod og_mod (VL.Ctx.int c (He.free_ok KX G (S.fact 2 (f := .fa (.free "int")) rfl)) (va_cons (ve_bin op_addAny og_add (ve_bin op_addAny og_add (ve_bin op_mul og_mul (VL.Ctx.var c 3) (VL.Ctx.var c 3)) (ve_bin op_mul og_mul (ve_ix ix_seq og_ix (VL.Ctx.var c 0) ve_int (fun _ _ => rfl)) ve_int)) ve_int) va_nil)) ve_int))
  (vss_cons (vs_if (vt_cmp op_ge og_ge (ve_ix ix_seq og_ix (VL.Ctx.var c 0) ve_int (fun _ _ => rfl)) ve_int (nomark _)) (vss_one (vs_setI (VL.Ctx.var c 0) ve_int ve_int))
  vss_nil)
  (vss_cons (VL.Ctx.set c 5 (ve_bin op_mod og_mod (VL.Ctx.int c (He.free_ok KX G (S.fact 2 (f := .fa (.free "int")) rfl)) (va_cons (ve_bin op_addAny og_add (ve_bin op_mul og_mul (VL.Ctx.var c 4) ve_int) (VL.Ctx.var c 3)) va_nil)) ve_int))
  (vss_one (vs_ret (ve_bin op_mod og_mod (VL.Ctx.int c (He.free_ok KX G (S.fact 2 (f := .fa (.free "int")) rfl)) (va_cons (VL.Ctx.var c 5) va_nil)) (VL.Ctx.var c 1))))))))))))) rfl (He.glo_ok KX G (S.fact 40 (f := .fa (.glo "_law_draw")) rfl))
theorem t__law_names : CallOk P w K mg base "_law_names" 2 g__law_names := Kd.call (k := 1) (S.def_ 3 (d := k__law_names) rfl) rfl s__law_names (fun _ _ _ _ _ _ us hl => match us, hl with | [_, _], _ => rfl) (fun {_} {_} c hp hfr => (show VSs _ _ k__law_names.body b__law_names from
  (vss_cons (VL.Ctx.set c 2 ve_str)
  (vss_cons (VL.Ctx.set c 3 (VL.Ctx.fn c (t__law_draw KX G S) (va_cons (VL.Ctx.var c 0) (va_cons ve_int va_nil))))
  (vss_cons (VL.Ctx.set c 4 (VL.Ctx.fn c (t__law_draw KX G S) (va_cons (VL.Ctx.var c 0) (va_cons ve_int va_nil))))
  (vss_cons (VL.Ctx.setM c 5 (vl_lst va_nil))
  (vss_cons (VL.Ctx.for_ c hp (VL.Ctx.rng1 c (He.free_ok KX G (S.fact 3 (f := .fa (.free "range")) rfl)) (va_cons (VL.Ctx.var c 1) va_nil)) (VL.Ctx.target c 6) (vss_one (vs_drop (ve_append (VL.Ctx.var c 5) (va_cons (ve_bin op_addAny og_add (ve_bin op_addAny og_add (ve_slice ve_str vo_none (vo_some (VL.Ctx.var c 4))) (ve_ix ix_seq og_ix (VL.Ctx.var c 2) (ve_bin op_mod og_mod (VL.Ctx.int c (He.free_ok KX G (S.fact 2 (f := .fa (.free "int")) rfl)) (va_cons (ve_bin op_addAny og_add (VL.Ctx.var c 3) (ve_bin op_mul og_mul ve_int (VL.Ctx.var c 6))) va_nil)) ve_int) (fun _ _ => rfl))) (ve_slice ve_str (vo_some (VL.Ctx.var c 4)) vo_none)) va_nil)))))
  (vss_one (vs_ret (VL.Ctx.var c 5)))))))))) rfl (He.glo_ok KX G (S.fact 41 (f := .fa (.glo "_law_names")) rfl))
theorem t__law_many : CallOk P w K mg base "_law_many" 2 g__law_many := Kd.call (k := 1) (S.def_ 4 (d := k__law_many) rfl) rfl s__law_many (fun _ _ _ _ _ _ us hl => match us, hl with | [_, _], _ => rfl) (fun {_} {_} c hp hfr => (show VSs _ _ k__law_many.body b__law_many from
  (vss_one (vs_ret (VL.Ctx.max c (He.free_ok KX G (S.fact 5 (f := .fa (.free "max")) rfl)) (va_cons ve_int (va_cons (VL.Ctx.min c (He.free_ok KX G (S.fact 4 (f := .fa (.free "min")) rfl)) (va_cons (VL.Ctx.var c 1) (va_cons (ve_bin op_sub og_sub (ve_bin op_addAny og_add (VL.Ctx.var c 1) ve_int) (VL.Ctx.fn c (t__law_draw KX G S) (va_cons (VL.Ctx.var c 0) (va_cons (ve_bin op_addAny og_add (VL.Ctx.var c 1) ve_int) va_nil)))) va_nil))) va_nil))))))) rfl (He.glo_ok KX G (S.fact 42 (f := .fa (.glo "_law_many")) rfl))
theorem t__law_pick : CallOk P w K mg base "_law_pick" 2 g__law_pick := Kd.call (k := 1) (S.def_ 5 (d := k__law_pick) rfl) rfl s__law_pick (fun _ _ _ _ _ _ us hl => match us, hl with | [_, _], _ => rfl) (fun {_} {_} c hp hfr => (show VSs _ _ k__law_pick.body b__law_pick from
  (vss_one (vs_ret (ve_ix ix_seq og_ix (VL.Ctx.var c 1) (VL.Ctx.fn c (t__law_draw KX G S) (va_cons (VL.Ctx.var c 0) (va_cons (VL.Ctx.len c (He.free_ok KX G (S.fact 1 (f := .fa (.free "len")) rfl)) (va_cons (VL.Ctx.var c 1) va_nil)) va_nil))) (fun _ _ => rfl)))))) rfl (He.glo_ok KX G (S.fact 43 (f := .fa (.glo "_law_pick")) rfl))
theorem t__law_constant : CallOk P w K mg base "_law_constant" 2 g__law_constant := Kd.call (k := 1) (S.def_ 6 (d := k__law_constant) rfl) rfl s__law_constant (fun _ _ _ _ _ _ us hl => match us, hl with | [_], _ => rfl) (fun {_} {_} c hp hfr => (show VSs _ _ k__law_constant.body b__law_constant from
  (vss_cons (vs_if (vt_cmp op_lt og_lt (VL.Ctx.fn c (t__law_draw KX G S) (va_cons (VL.Ctx.var c 0) (va_cons ve_int va_nil))) ve_int (nomark _)) (vss_one (vs_ret (ve_bin op_sub og_sub (VL.Ctx.fn c (t__law_draw KX G S) (va_cons (VL.Ctx.var c 0) (va_cons ve_int va_nil))) ve_int)))
  vss_nil)
  (vss_one (vs_ret (ve_bin op_sub og_sub (VL.Ctx.fn c (t__law_draw KX G S) (va_cons (VL.Ctx.var c 0) (va_cons (ve_bin op_addAny og_add (ve_bin op_mul og_mul ve_int (ve_bin op_pow og_pow ve_int ve_int)) ve_int) va_nil))) (ve_bin op_pow og_pow ve_int ve_int))))))) rfl (He.glo_ok KX G (S.fact 44 (f := .fa (.glo "_law_constant")) rfl))
theorem t__law_job_steps : CallOk P w K mg base "_law_job_steps" 3 g__law_job_steps := Kd.call (k := 2) (S.def_ 7 (d := k__law_job_steps) rfl) rfl s__law_job_steps (fun _ _ _ _ _ _ us hl => match us, hl with | [_, _, _, _], _ => rfl) (fun {_} {_} c hp hfr => (show VSs _ _ k__law_job_steps.body b__law_job_steps from
  (vss_cons (VL.Ctx.setM c 4 (vl_lst va_nil))
  (vss_cons (VL.Ctx.for_ c hp (VL.Ctx.rng1 c (He.free_ok KX G (S.fact 3 (f := .fa (.free "range")) rfl)) (va_cons (VL.Ctx.var c 3) va_nil)) (VL.Ctx.target c 5) (vss_cons (VL.Ctx.set c 6 (VL.Ctx.fn c (t__law_pick KX G S) (va_cons (VL.Ctx.var c 0) (va_cons (ve_ofL (vl_lst (va_cons ve_str (va_cons ve_str (va_cons ve_str va_nil))))) va_nil))))
  (vss_cons (VL.Ctx.set c 7 (ve_tup (va_cons (VL.Ctx.var c 6) (va_cons (VL.Ctx.fn c (t__law_pick KX G S) (va_cons (VL.Ctx.var c 0) (va_cons (VL.Ctx.var c 1) va_nil))) (va_cons (VL.Ctx.fn c (t__law_draw KX G S) (va_cons (VL.Ctx.var c 0) (va_cons (VL.Ctx.var c 2) va_nil))) va_nil)))))
  (vss_cons (vs_if (vt_cmp (VL.Ctx.oNe c) og_ne (VL.Ctx.var c 6) ve_str (nomark _)) (vss_one (VL.Ctx.set c 7 (ve_bin op_addAny og_add (VL.Ctx.var c 7) (ve_tup (va_cons (VL.Ctx.fn c (t__law_constant KX G S) (va_cons (VL.Ctx.var c 0) va_nil)) va_nil)))))
  vss_nil)
  (vss_one (vs_drop (ve_append (VL.Ctx.var c 4) (va_cons (VL.Ctx.var c 7) va_nil))))))))
  (vss_one (vs_ret (VL.Ctx.var c 4))))))) rfl (He.glo_ok KX G (S.fact 45 (f := .fa (.glo "_law_job_steps")) rfl))
theorem t__law_job_rows : CallOk P w K mg base "_law_job_rows" 4 g__law_job_rows := Kd.call (k := 3) (S.def_ 8 (d := k__law_job_rows) rfl) rfl s__law_job_rows (fun _ _ _ _ _ _ us hl => match us, hl with | [_, _, _, _, _], _ => rfl) (fun {_} {_} c hp hfr => (show VSs _ _ k__law_job_rows.body b__law_job_rows from
  (vss_one (vs_ret (ve_ofL (VL.Ctx.lc c [("k", 5)] (VL.Ctx.rng1 c (He.free_ok KX G (S.fact 3 (f := .fa (.free "range")) rfl)) (va_cons (VL.Ctx.var c 3) va_nil)) (fun c' => (VL.Ctx.target c' 5)) (fun c' => vts_nil) (fun c' => (VL.Ctx.fn c' (t__law_job_steps KX G S) (va_cons (VL.Ctx.var c' 0) (va_cons (VL.Ctx.var c' 1) (va_cons (VL.Ctx.var c' 2) (va_cons (ve_bin op_sub og_sub (VL.Ctx.var c' 4) (VL.Ctx.fn c' (t__law_draw KX G S) (va_cons (VL.Ctx.var c' 0) (va_cons (ve_bin op_addAny og_add (VL.Ctx.var c' 4) ve_int) va_nil)))) va_nil)))))))))))) rfl (He.glo_ok KX G (S.fact 46 (f := .fa (.glo "_law_job_rows")) rfl))
theorem t__law_jcells : CallOk P w K mg base "_law_jcells" 1 g__law_jcells := Kd.call (k := 0) (S.def_ 9 (d := k__law_jcells) rfl) rfl s__law_jcells (fun _ _ _ _ _ _ us hl => match us, hl with | [_, _], _ => rfl) (fun {_} {_} c hp hfr => (show VSs _ _ k__law_jcells.body b__law_jcells from
  (vss_cons (VL.Ctx.setM c 2 (vl_lst va_nil))
  (vss_cons (VL.Ctx.setM c 3 (vl_lst va_nil))
  (vss_cons (VL.Ctx.for_ c hp (vi_seq (VL.Ctx.var c 0)) (VL.Ctx.target c 4) (vss_cons (VL.Ctx.set c 5 (ve_tup (va_cons (ve_ix ix_seq og_ix (VL.Ctx.var c 4) ve_int (fun _ _ => rfl)) (va_cons (ve_ix ix_seq og_ix (VL.Ctx.var c 4) ve_int (fun _ _ => rfl)) va_nil))))
  (vss_cons (vs_if (L2.PW.pt (vw_and (vt_tru (VL.Ctx.var c 1)) (vw_and (vt_cmp (VL.Ctx.oNe c) og_ne (ve_ix ix_seq og_ix (VL.Ctx.var c 4) ve_int (fun _ _ => rfl)) ve_str (nomark _)) (vw_and1 (vt_cmp (VL.Ctx.oNi c) og_ni (VL.Ctx.var c 5) (VL.Ctx.var c 2) rfl))))) (vss_one (vs_drop (ve_append (VL.Ctx.var c 3) (va_cons (VL.Ctx.var c 5) va_nil))))
  vss_nil)
  (vss_cons (vs_if (L2.PW.pt (vw_and (vt_not (vt_tru (VL.Ctx.var c 1))) (vw_and (vt_cmp (VL.Ctx.oNe c) og_ne (ve_ix ix_seq og_ix (VL.Ctx.var c 4) ve_int (fun _ _ => rfl)) ve_str (nomark _)) (vw_and1 (vt_cmp (VL.Ctx.oNi c) og_ni (VL.Ctx.var c 5) (VL.Ctx.var c 3) rfl))))) (vss_one (vs_drop (ve_append (VL.Ctx.var c 3) (va_cons (VL.Ctx.var c 5) va_nil))))
  vss_nil)
  (vss_one (vs_drop (ve_append (VL.Ctx.var c 2) (va_cons (VL.Ctx.var c 5) va_nil))))))))
  (vss_one (vs_ret (VL.Ctx.var c 3)))))))) rfl (He.glo_ok KX G (S.fact 47 (f := .fa (.glo "_law_jcells")) rfl))
theorem t__law_open : CallOk P w K mg base "_law_open" 2 g__law_open := Kd.call (k := 1) (S.def_ 10 (d := k__law_open) rfl) rfl s__law_open (fun _ _ _ _ _ _ us hl => match us, hl with | [_, _], _ => rfl) (fun {_} {_} c hp hfr => (show VSs _ _ k__law_open.body b__law_open from
  (vss_cons (VL.Ctx.set c 2 (ve_ofL (vl_lst va_nil)))
  (vss_cons (VL.Ctx.for_ c hp (VL.Ctx.rng1 c (He.free_ok KX G (S.fact 3 (f := .fa (.free "range")) rfl)) (va_cons (VL.Ctx.len c (He.free_ok KX G (S.fact 1 (f := .fa (.free "len")) rfl)) (va_cons (VL.Ctx.var c 1) va_nil)) va_nil)) (VL.Ctx.target c 3) (vss_cons (VL.Ctx.set c 4 (VL.Ctx.fn c (t__law_jcells KX G S) (va_cons (ve_ix ix_seq og_ix (VL.Ctx.var c 1) (VL.Ctx.var c 3) (fun _ _ => rfl)) (va_cons ve_bl va_nil))))
  (vss_one (VL.Ctx.set c 2 (ve_bin op_addAny og_add (VL.Ctx.var c 2) (ve_ofL (VL.Ctx.lc c [("cell", 5)] (vi_seq (VL.Ctx.fn c (t__law_jcells KX G S) (va_cons (ve_ix ix_seq og_ix (VL.Ctx.var c 1) (VL.Ctx.var c 3) (fun _ _ => rfl)) (va_cons ve_bl va_nil)))) (fun c' => (VL.Ctx.target c' 5)) (fun c' => (vts_one (vt_cmp (VL.Ctx.oNi c') og_ni (VL.Ctx.var c' 5) (VL.Ctx.var c' 4) rfl))) (fun c' => (ve_tup (va_cons (ve_ix ix_seq og_ix (VL.Ctx.var c' 0) (VL.Ctx.var c' 3) (fun _ _ => rfl)) (va_cons (VL.Ctx.var c' 5) va_nil)))))))))))
  (vss_one (vs_ret (VL.Ctx.var c 2))))))) rfl (He.glo_ok KX G (S.fact 48 (f := .fa (.glo "_law_open")) rfl))
theorem t_JobBook_job_names : PropOk P w K mg base 2 "job_names" "JobBook" g_JobBook_job_names := Kd.prop (k := 1) (S.def_ 11 (d := k_JobBook_job_names) rfl) rfl s_JobBook_job_names (fun _ _ _ _ _ _ us hl => match us, hl with | [_], _ => rfl) (fun {_} {_} c hp hfr => (show VSs _ _ k_JobBook_job_names.body b_JobBook_job_names from
  (vss_one (vs_ret (VL.Ctx.tuple c (He.free_ok KX G (S.fact 10 (f := .fa (.free "tuple")) rfl)) (va_cons (ve_ofL (VL.Ctx.lcK c [("job", 1)] (vj_any (VL.Ctx.att c 0 (VL.Ctx.var c 0) (all_cons (p := fun c => FldOk K "listed" c) (a := "JobBook") ⟨He.cls_ok (S.fact 6 (f := .fa (.cls "JobBook")) rfl), He.noat_ok (S.fact 7 (f := .fa (.noat "JobBook" "listed")) rfl)⟩ all_nil) all_nil)) (fun c' => (VL.Ctx.targetW c' 1)) (fun c' => vts_nil) (fun c' => (VL.Ctx.att c' 0 (VL.Ctx.var c' 1) (all_cons (p := fun c => FldOk K "name" c) (a := "Job") ⟨He.cls_ok (S.fact 8 (f := .fa (.cls "Job")) rfl), He.noat_ok (S.fact 9 (f := .fa (.noat "Job" "name")) rfl)⟩ all_nil) all_nil)))) va_nil)))))) rfl (He.cls_ok (S.fact 6 (f := .fa (.cls "JobBook")) rfl)) (prop_ok (S.fact 49 (f := .prop "JobBook" "job_names") rfl))
theorem t_JobBook_admit_job : MethOk P w K mg base 4 "admit_job" "JobBook" g_JobBook_admit_job := Kd.meth (k := 3) (S.def_ 12 (d := k_JobBook_admit_job) rfl) rfl s_JobBook_admit_job (fun _ _ _ _ _ _ us hl => match us, hl with | [_, _], _ => rfl) (fun {_} {_} c hp hfr => (show VSs _ _ k_JobBook_admit_job.body b_JobBook_admit_job from
  (vss_cons (vs_if (vt_cmp (VL.Ctx.oIn c) og_in (VL.Ctx.att c 0 (VL.Ctx.var c 1) (all_cons (p := fun c => FldOk K "name" c) (a := "Job") ⟨He.cls_ok (S.fact 8 (f := .fa (.cls "Job")) rfl), He.noat_ok (S.fact 9 (f := .fa (.noat "Job" "name")) rfl)⟩ all_nil) all_nil) (VL.Ctx.att c 2 (VL.Ctx.var c 0) all_nil (all_cons (p := fun q => PropOk P w K mg base 2 "job_names" q.1 q.2.2) (a := (("JobBook" : Str), false, g_JobBook_job_names)) ((t_JobBook_job_names KX G S).mono (by decide)) all_nil)) rfl) (vss_one vs_no)
  vss_nil)
  (vss_cons (vs_if (vt_cmp (VL.Ctx.oEq c) og_eq (VL.Ctx.len c (He.free_ok KX G (S.fact 1 (f := .fa (.free "len")) rfl)) (va_cons (VL.Ctx.att c 0 (VL.Ctx.var c 0) (all_cons (p := fun c => FldOk K "listed" c) (a := "JobBook") ⟨He.cls_ok (S.fact 6 (f := .fa (.cls "JobBook")) rfl), He.noat_ok (S.fact 7 (f := .fa (.noat "JobBook" "listed")) rfl)⟩ all_nil) all_nil) va_nil)) (VL.Ctx.cc c (He.glo_ok KX G (S.fact 13 (f := .fa (.glo "JobBook")) rfl)) (cread_ok (S.fact 12 (f := .cread "JobBook") rfl)) (cval_ok (S.fact 11 (f := .cval "JobBook" "MOST" (.int 8)) rfl))) (nomark _)) (vss_one vs_no)
  vss_nil)
  (vss_one (vs_drop (ve_append (VL.Ctx.att c 0 (VL.Ctx.var c 0) (all_cons (p := fun c => FldOk K "listed" c) (a := "JobBook") ⟨He.cls_ok (S.fact 6 (f := .fa (.cls "JobBook")) rfl), He.noat_ok (S.fact 7 (f := .fa (.noat "JobBook" "listed")) rfl)⟩ all_nil) all_nil) (va_cons (VL.Ctx.var c 1) va_nil)))))))) rfl (He.cls_ok (S.fact 6 (f := .fa (.cls "JobBook")) rfl)) (He.meth_ok (S.fact 50 (f := .fa (.meth "JobBook" "admit_job")) rfl))
theorem t_JobBook___init__ : MakeOk P w K mg base "JobBook" 5 g_JobBook___init__ := Kd.makeS (k := 4) (ps := ["self"]) (pv := "jobs") (S.def_ 13 (d := k_JobBook___init__) rfl) rfl s_JobBook___init__ (fun _ _ _ _ _ _ us rest hl => match us, rest, hl with | [_], [], _ => rfl | [_], _ :: _, _ => rfl) (fun {_} {_} c hp hfr => (show VSs _ _ k_JobBook___init__.body b_JobBook___init__ from
  (vss_cons (VL.Ctx.fld c (VL.Ctx.var c 0) (ve_born (vl_lst va_nil)) (all_cons (p := fun c => FldOk K "listed" c) (a := "JobBook") ⟨He.cls_ok (S.fact 6 (f := .fa (.cls "JobBook")) rfl), He.noat_ok (S.fact 7 (f := .fa (.noat "JobBook" "listed")) rfl)⟩ all_nil))
  (vss_one (VL.Ctx.for_ c hp (vi_seq (VL.Ctx.var c 1)) (VL.Ctx.target c 2) (vss_one (vs_drop (VL.Ctx.meth c (VL.Ctx.var c 0) (all_cons (p := fun q => MethOk P w K mg base 4 "admit_job" q.1 q.2.2) (a := (("JobBook" : Str), [false, false], g_JobBook_admit_job)) ((t_JobBook_admit_job KX G S).mono (by decide)) all_nil) (va_cons (VL.Ctx.var c 2) va_nil))))))))) rfl (He.mkr_ok (S.fact 51 (f := .fa (.mkr "JobBook")) rfl)) (He.glo_ok KX G (S.fact 13 (f := .fa (.glo "JobBook")) rfl))
theorem t_is_name : CallOk P w K mg base "is_name" 1 g_is_name := Kd.call (k := 0) (S.def_ 14 (d := k_is_name) rfl) rfl s_is_name (fun _ _ _ _ _ _ us hl => match us, hl with | [_], _ => rfl) (fun {_} {_} c hp hfr => (show VSs _ _ k_is_name.body b_is_name from
  (vss_cons (vs_if (L2.PW.pt (vw_or (vt_cmp (VL.Ctx.oEq c) og_eq (VL.Ctx.var c 0) ve_str (nomark _)) (vw_or (vt_cmp op_gt og_gt (VL.Ctx.len c (He.free_ok KX G (S.fact 1 (f := .fa (.free "len")) rfl)) (va_cons (VL.Ctx.var c 0) va_nil)) (VL.Ctx.glob c (gval_ok KX G (S.fact 14 (f := .gval "NAME_LENGTH" (.int 12)) rfl))) (nomark _)) (vw_or1 (vt_cmp (VL.Ctx.oIn c) og_in (VL.Ctx.var c 0) (VL.Ctx.glob c (gval_ok KX G (S.fact 15 (f := .gval "RESERVED" (.tup [(.str "always"), (.str "never"), (.str "and"), (.str "or"), (.str "not"), (.str "when"), (.str "add"), (.str "set"), (.str "change"), (.str "tell"), (.str "refuse"), (.str "take"), (.str "look"), (.str "free"), (.str "lock"), (.str "keep"), (.str "keys"), (.str "fields")])) rfl))) rfl))))) (vss_one (vs_ret ve_bl))
  vss_nil)
  (vss_cons (VL.Ctx.for_ c hp (vi_str (VL.Ctx.var c 0)) (VL.Ctx.target c 1) (vss_one (vs_if (vt_cmp (VL.Ctx.oNi c) og_ni (VL.Ctx.var c 1) (VL.Ctx.glob c (gval_ok KX G (S.fact 16 (f := .gval "LETTERS" (.str "abcdefghijklmnopqrstuvwxyz")) rfl))) rfl) (vss_one (vs_ret ve_bl))
  vss_nil)))
  (vss_one (vs_ret ve_bl)))))) rfl (He.glo_ok KX G (S.fact 52 (f := .fa (.glo "is_name")) rfl))
theorem t_check_name : CallOk P w K mg base "check_name" 2 g_check_name := Kd.call (k := 1) (S.def_ 15 (d := k_check_name) rfl) rfl s_check_name (fun _ _ _ _ _ _ us hl => match us, hl with | [_], _ => rfl) (fun {_} {_} c hp hfr => (show VSs _ _ k_check_name.body b_check_name from
  (vss_cons (vs_if (vt_not (vt_tru (VL.Ctx.fn c (t_is_name KX G S) (va_cons (VL.Ctx.var c 0) va_nil)))) (vss_one vs_no)
  vss_nil)
  (vss_one (vs_ret (VL.Ctx.var c 0)))))) rfl (He.glo_ok KX G (S.fact 53 (f := .fa (.glo "check_name")) rfl))
theorem t_check_number : CallOk P w K mg base "check_number" 1 g_check_number := Kd.call (k := 0) (S.def_ 16 (d := k_check_number) rfl) rfl s_check_number (fun _ _ _ _ _ _ us hl => match us, hl with | [_], _ => rfl) (fun {_} {_} c hp hfr => (show VSs _ _ k_check_number.body b_check_number from
  (vss_cons (vs_if (L2.PW.pt (vw_or (vt_cmp op_lt og_lt (VL.Ctx.var c 0) (ve_neg (VL.Ctx.glob c (gval_ok KX G (S.fact 21 (f := .gval "BOUND" (.int (1000000000000000000000000000000))) rfl)))) (nomark _)) (vw_or1 (vt_cmp op_gt og_gt (VL.Ctx.var c 0) (VL.Ctx.glob c (gval_ok KX G (S.fact 21 (f := .gval "BOUND" (.int (1000000000000000000000000000000))) rfl))) (nomark _))))) (vss_one vs_no)
  vss_nil)
  (vss_one (vs_ret (VL.Ctx.var c 0)))))) rfl (He.glo_ok KX G (S.fact 54 (f := .fa (.glo "check_number")) rfl))
theorem t_check_job_step : CallOk P w K mg base "check_job_step" 3 g_check_job_step := Kd.call (k := 2) (S.def_ 17 (d := k_check_job_step) rfl) rfl s_check_job_step (fun _ _ _ _ _ _ us hl => match us, hl with | [_, _], _ => rfl) (fun {_} {_} c hp hfr => (show VSs _ _ k_check_job_step.body b_check_job_step from
  (vss_cons (vs_if (vt_cmp (VL.Ctx.oNi c) og_ni (ve_ix ix_seq og_ix (VL.Ctx.var c 1) ve_int (fun _ _ => rfl)) (VL.Ctx.glob c (gval_ok KX G (S.fact 20 (f := .gval "JOB_DEEDS" (.tup [(.str "read"), (.str "add"), (.str "set")])) rfl))) rfl) (vss_one vs_no)
  vss_nil)
  (vss_cons (vs_drop (VL.Ctx.fn c (t_check_name KX G S) (va_cons (ve_ix ix_seq og_ix (VL.Ctx.var c 1) ve_int (fun _ _ => rfl)) va_nil)))
  (vss_cons (vs_if (L2.PW.pt (vw_or (vt_cmp op_lt og_lt (ve_ix ix_seq og_ix (VL.Ctx.var c 1) ve_int (fun _ _ => rfl)) ve_int (nomark _)) (vw_or1 (vt_cmp op_gt og_gt (ve_ix ix_seq og_ix (VL.Ctx.var c 1) ve_int (fun _ _ => rfl)) (VL.Ctx.glob c (gval_ok KX G (S.fact 21 (f := .gval "BOUND" (.int (1000000000000000000000000000000))) rfl))) (nomark _))))) (vss_one vs_no)
  vss_nil)
  (vss_one (vs_if (vt_cmp (VL.Ctx.oNe c) og_ne (ve_ix ix_seq og_ix (VL.Ctx.var c 1) ve_int (fun _ _ => rfl)) ve_str (nomark _)) (vss_one (vs_drop (VL.Ctx.fn c (t_check_number KX G S) (va_cons (ve_ix ix_seq og_ix (VL.Ctx.var c 1) ve_int (fun _ _ => rfl)) va_nil))))
  vss_nil))))))) rfl (He.glo_ok KX G (S.fact 55 (f := .fa (.glo "check_job_step")) rfl))
theorem t_Job___init__ : MakeOk P w K mg base "Job" 4 g_Job___init__ := Kd.make (k := 3) (S.def_ 18 (d := k_Job___init__) rfl) rfl s_Job___init__ (fun _ _ _ _ _ _ us hl => match us, hl with | [_, _, _], _ => rfl) (fun {_} {_} c hp hfr => (show VSs _ _ k_Job___init__.body b_Job___init__ from
  (vss_cons (vs_drop (VL.Ctx.fn c (t_check_name KX G S) (va_cons (VL.Ctx.var c 1) va_nil)))
  (vss_cons (vs_if (vt_cmp op_gt og_gt (VL.Ctx.len c (He.free_ok KX G (S.fact 1 (f := .fa (.free "len")) rfl)) (va_cons (VL.Ctx.var c 2) va_nil)) (VL.Ctx.cc c (He.glo_ok KX G (S.fact 19 (f := .fa (.glo "Job")) rfl)) (cread_ok (S.fact 18 (f := .cread "Job") rfl)) (cval_ok (S.fact 17 (f := .cval "Job" "MOST" (.int 12)) rfl))) (nomark _)) (vss_one vs_no)
  vss_nil)
  (vss_cons (VL.Ctx.for_ c hp (vi_seq (VL.Ctx.var c 2)) (VL.Ctx.target c 3) (vss_one (vs_drop (VL.Ctx.fn c (t_check_job_step KX G S) (va_cons (VL.Ctx.var c 1) (va_cons (VL.Ctx.var c 3) va_nil))))))
  (vss_cons (VL.Ctx.fld c (VL.Ctx.var c 0) (VL.Ctx.var c 1) (all_cons (p := fun c => FldOk K "name" c) (a := "Job") ⟨He.cls_ok (S.fact 8 (f := .fa (.cls "Job")) rfl), He.noat_ok (S.fact 9 (f := .fa (.noat "Job" "name")) rfl)⟩ all_nil))
  (vss_one (VL.Ctx.fld c (VL.Ctx.var c 0) (VL.Ctx.tuple c (He.free_ok KX G (S.fact 10 (f := .fa (.free "tuple")) rfl)) (va_cons (ve_ofL (VL.Ctx.lc c [("step", 3)] (vi_seq (VL.Ctx.var c 2)) (fun c' => (VL.Ctx.target c' 3)) (fun c' => vts_nil) (fun c' => (VL.Ctx.tuple c' (He.free_ok KX G (S.fact 10 (f := .fa (.free "tuple")) rfl)) (va_cons (VL.Ctx.var c' 3) va_nil))))) va_nil)) (all_cons (p := fun c => FldOk K "steps" c) (a := "Job") ⟨He.cls_ok (S.fact 8 (f := .fa (.cls "Job")) rfl), He.noat_ok (S.fact 22 (f := .fa (.noat "Job" "steps")) rfl)⟩ all_nil))))))))) rfl (He.mkr_ok (S.fact 56 (f := .fa (.mkr "Job")) rfl)) (He.glo_ok KX G (S.fact 19 (f := .fa (.glo "Job")) rfl))
theorem t__law_job_book : CallOk P w K mg base "_law_job_book" 7 g__law_job_book := Kd.call (k := 6) (S.def_ 19 (d := k__law_job_book) rfl) rfl s__law_job_book (fun _ _ _ _ _ _ us hl => match us, hl with | [_, _], _ => rfl) (fun {_} {_} c hp hfr => (show VSs _ _ k__law_job_book.body b__law_job_book from
  (vss_cons (VL.Ctx.set c 2 (VL.Ctx.make0 c (t_JobBook___init__ KX G S)))
  (vss_cons (VL.Ctx.for_ c hp (VL.Ctx.rng1 c (He.free_ok KX G (S.fact 3 (f := .fa (.free "range")) rfl)) (va_cons (VL.Ctx.len c (He.free_ok KX G (S.fact 1 (f := .fa (.free "len")) rfl)) (va_cons (VL.Ctx.var c 1) va_nil)) va_nil)) (VL.Ctx.target c 3) (vss_one (vs_drop (VL.Ctx.meth c (VL.Ctx.var c 2) (all_cons (p := fun q => MethOk P w K mg base 4 "admit_job" q.1 q.2.2) (a := (("JobBook" : Str), [false, false], g_JobBook_admit_job)) ((t_JobBook_admit_job KX G S).mono (by decide)) all_nil) (va_cons (ve_ofL (VL.Ctx.makeM c (t_Job___init__ KX G S) (va_cons (ve_ix ix_seq og_ix (VL.Ctx.var c 0) (VL.Ctx.var c 3) (fun _ _ => rfl)) (va_cons (ve_ofL (VL.Ctx.list c (He.free_ok KX G (S.fact 0 (f := .fa (.free "list")) rfl)) (va_cons (ve_ix ix_seq og_ix (VL.Ctx.var c 1) (VL.Ctx.var c 3) (fun _ _ => rfl)) va_nil))) va_nil)))) va_nil)))))
  (vss_one (vs_ret (VL.Ctx.var c 2))))))) rfl (He.glo_ok KX G (S.fact 57 (f := .fa (.glo "_law_job_book")) rfl))
theorem t__law_is_int : CallOk P w K mg base "_law_is_int" 1 g__law_is_int := Kd.call (k := 0) (S.def_ 20 (d := k__law_is_int) rfl) rfl s__law_is_int (fun _ _ _ _ _ _ us hl => match us, hl with | [_], _ => rfl) (fun {_} {_} c hp hfr => (show VSs _ _ k__law_is_int.body b__law_is_int from
  (vss_one (vs_ret (ve_and (VL.Ctx.isi c (He.free_ok KX G (S.fact 23 (f := .fa (.free "isinstance")) rfl)) (VL.Ctx.var c 0) (VL.Ctx.ty (T := "int") c (He.free_ok KX G (S.fact 2 (f := .fa (.free "int")) rfl)) (by decide +kernel)) (.ty "int") (isi_ty (by decide +kernel) (fun _ _ z => by cases z))) (ve_one (ve_not (VL.Ctx.isi c (He.free_ok KX G (S.fact 23 (f := .fa (.free "isinstance")) rfl)) (VL.Ctx.var c 0) (VL.Ctx.ty (T := "bool") c (He.free_ok KX G (S.fact 24 (f := .fa (.free "bool")) rfl)) (by decide +kernel)) (.ty "bool") (isi_ty (by decide +kernel) (fun _ _ z => by cases z)))))))))) rfl (He.glo_ok KX G (S.fact 58 (f := .fa (.glo "_law_is_int")) rfl))
theorem tr__law_same : ∀ j : Nat, CallOk P w K mg base "_law_same" (2 + j) (gr__law_same j)
  | 0 => ⟨_, fun A outer s H us vs Q E hr e0 r ⟨_, _, _, _, _, _, _, _, z⟩ => z.elim, (He.glo_ok KX G (S.fact 59 (f := .fa (.glo "_law_same")) rfl)), He.keep_ok (S.fact 60 (f := .fa (.keep "_law_same")) rfl)⟩
  | j + 1 => by
    have hs := tr__law_same j
    exact Kd.call (k := 2 + j) (S.def_ 21 (d := k__law_same) rfl) rfl s__law_same (fun _ _ _ _ _ _ us hl => match us, hl with | [_, _], _ => rfl) (fun {_} {_} c hp hfr => (show VSs _ _ k__law_same.body (b__law_same (gr__law_same j)) from
  (vss_cons (vs_if (vt_cmp op_isV og_is (VL.Ctx.var c 1) ve_non (nomark _)) (vss_one (vs_ret (ve_cmp op_isV og_is (VL.Ctx.var c 0) ve_non (nomark _))))
  vss_nil)
  (vss_cons (vs_if (vt_cmp op_isV og_is (VL.Ctx.var c 1) ve_bl (nomark _)) (vss_one (vs_ret (ve_cmp op_isV og_is (VL.Ctx.var c 0) ve_bl (nomark _))))
  vss_nil)
  (vss_cons (vs_if (vt_cmp op_isV og_is (VL.Ctx.var c 1) ve_bl (nomark _)) (vss_one (vs_ret (ve_cmp op_isV og_is (VL.Ctx.var c 0) ve_bl (nomark _))))
  vss_nil)
  (vss_cons (vs_if (vt_tru (VL.Ctx.isi c (He.free_ok KX G (S.fact 23 (f := .fa (.free "isinstance")) rfl)) (VL.Ctx.var c 1) (VL.Ctx.ty (T := "int") c (He.free_ok KX G (S.fact 2 (f := .fa (.free "int")) rfl)) (by decide +kernel)) (.ty "int") (isi_ty (by decide +kernel) (fun _ _ z => by cases z)))) (vss_one (vs_ret (ve_and (VL.Ctx.fn c (t__law_is_int KX G S) (va_cons (VL.Ctx.var c 0) va_nil)) (ve_one (ve_cmp (VL.Ctx.oEq c) og_eq (VL.Ctx.var c 0) (VL.Ctx.var c 1) (nomark _))))))
  vss_nil)
  (vss_cons (vs_if (vt_tru (VL.Ctx.isi c (He.free_ok KX G (S.fact 23 (f := .fa (.free "isinstance")) rfl)) (VL.Ctx.var c 1) (VL.Ctx.ty (T := "str") c (He.free_ok KX G (S.fact 25 (f := .fa (.free "str")) rfl)) (by decide +kernel)) (.ty "str") (isi_ty (by decide +kernel) (fun _ _ z => by cases z)))) (vss_one (vs_ret (ve_and (VL.Ctx.isi c (He.free_ok KX G (S.fact 23 (f := .fa (.free "isinstance")) rfl)) (VL.Ctx.var c 0) (VL.Ctx.ty (T := "str") c (He.free_ok KX G (S.fact 25 (f := .fa (.free "str")) rfl)) (by decide +kernel)) (.ty "str") (isi_ty (by decide +kernel) (fun _ _ z => by cases z))) (ve_one (ve_cmp (VL.Ctx.oEq c) og_eq (VL.Ctx.var c 0) (VL.Ctx.var c 1) (nomark _))))))
  vss_nil)
  (vss_cons (vs_if (vt_tru (VL.Ctx.isi c (He.free_ok KX G (S.fact 23 (f := .fa (.free "isinstance")) rfl)) (VL.Ctx.var c 1) (VL.Ctx.ty (T := "dict") c (He.free_ok KX G (S.fact 26 (f := .fa (.free "dict")) rfl)) (by decide +kernel)) (.ty "dict") (isi_ty (by decide +kernel) (fun _ _ z => by cases z)))) (vss_cons (vs_if (L2.PW.pt (vw_or (vt_not (vt_tru (VL.Ctx.isi c (He.free_ok KX G (S.fact 23 (f := .fa (.free "isinstance")) rfl)) (VL.Ctx.var c 0) (VL.Ctx.ty (T := "dict") c (He.free_ok KX G (S.fact 26 (f := .fa (.free "dict")) rfl)) (by decide +kernel)) (.ty "dict") (isi_ty (by decide +kernel) (fun _ _ z => by cases z))))) (vw_or1 (vt_cmp (VL.Ctx.oNe c) og_ne (VL.Ctx.len c (He.free_ok KX G (S.fact 1 (f := .fa (.free "len")) rfl)) (va_cons (VL.Ctx.var c 0) va_nil)) (VL.Ctx.len c (He.free_ok KX G (S.fact 1 (f := .fa (.free "len")) rfl)) (va_cons (VL.Ctx.var c 1) va_nil)) (nomark _))))) (vss_one (vs_ret ve_bl))
  vss_nil)
  (vss_cons (VL.Ctx.for_ c hp (vi_seq (VL.Ctx.var c 1)) (VL.Ctx.target c 2) (vss_one (vs_if (L2.PW.pt (vw_or (vt_cmp (VL.Ctx.oNi c) og_ni (VL.Ctx.var c 2) (VL.Ctx.var c 0) rfl) (vw_or1 (vt_not (vt_tru (VL.Ctx.fn c hs (va_cons (ve_ix ix_seq og_ix (VL.Ctx.var c 0) (VL.Ctx.var c 2) (fun _ _ => rfl)) (va_cons (ve_ix ix_seq og_ix (VL.Ctx.var c 1) (VL.Ctx.var c 2) (fun _ _ => rfl)) va_nil)))))))) (vss_one (vs_ret ve_bl))
  vss_nil)))
  (vss_one (vs_ret ve_bl))))
  vss_nil)
  (vss_cons (vs_if (L2.PW.pt (vw_and (vt_tru (VL.Ctx.isi c (He.free_ok KX G (S.fact 23 (f := .fa (.free "isinstance")) rfl)) (VL.Ctx.var c 1) (VL.Ctx.ty (T := "list") c (He.free_ok KX G (S.fact 0 (f := .fa (.free "list")) rfl)) (by decide +kernel)) (.ty "list") (isi_ty (by decide +kernel) (fun _ _ z => by cases z)))) (vw_and1 (vt_not (vt_tru (VL.Ctx.isi c (He.free_ok KX G (S.fact 23 (f := .fa (.free "isinstance")) rfl)) (VL.Ctx.var c 0) (VL.Ctx.ty (T := "list") c (He.free_ok KX G (S.fact 0 (f := .fa (.free "list")) rfl)) (by decide +kernel)) (.ty "list") (isi_ty (by decide +kernel) (fun _ _ z => by cases z)))))))) (vss_one (vs_ret ve_bl))
  vss_nil)
  (vss_cons (vs_if (L2.PW.pt (vw_and (vt_tru (VL.Ctx.isi c (He.free_ok KX G (S.fact 23 (f := .fa (.free "isinstance")) rfl)) (VL.Ctx.var c 1) (VL.Ctx.ty (T := "tuple") c (He.free_ok KX G (S.fact 10 (f := .fa (.free "tuple")) rfl)) (by decide +kernel)) (.ty "tuple") (isi_ty (by decide +kernel) (fun _ _ z => by cases z)))) (vw_and1 (vt_not (vt_tru (VL.Ctx.isi c (He.free_ok KX G (S.fact 23 (f := .fa (.free "isinstance")) rfl)) (VL.Ctx.var c 0) (VL.Ctx.ty (T := "tuple") c (He.free_ok KX G (S.fact 10 (f := .fa (.free "tuple")) rfl)) (by decide +kernel)) (.ty "tuple") (isi_ty (by decide +kernel) (fun _ _ z => by cases z)))))))) (vss_one (vs_ret ve_bl))
  vss_nil)
  (vss_cons (vs_if (vt_cmp (VL.Ctx.oNe c) og_ne (VL.Ctx.len c (He.free_ok KX G (S.fact 1 (f := .fa (.free "len")) rfl)) (va_cons (VL.Ctx.var c 0) va_nil)) (VL.Ctx.len c (He.free_ok KX G (S.fact 1 (f := .fa (.free "len")) rfl)) (va_cons (VL.Ctx.var c 1) va_nil)) (nomark _)) (vss_one (vs_ret ve_bl))
  vss_nil)
  (vss_cons (VL.Ctx.for_ c hp (VL.Ctx.rng1 c (He.free_ok KX G (S.fact 3 (f := .fa (.free "range")) rfl)) (va_cons (VL.Ctx.len c (He.free_ok KX G (S.fact 1 (f := .fa (.free "len")) rfl)) (va_cons (VL.Ctx.var c 1) va_nil)) va_nil)) (VL.Ctx.target c 3) (vss_one (vs_if (vt_not (vt_tru (VL.Ctx.fn c hs (va_cons (ve_ix ix_seq og_ix (VL.Ctx.var c 0) (VL.Ctx.var c 3) (fun _ _ => rfl)) (va_cons (ve_ix ix_seq og_ix (VL.Ctx.var c 1) (VL.Ctx.var c 3) (fun _ _ => rfl)) va_nil))))) (vss_one (vs_ret ve_bl))
  vss_nil)))
  (vss_one (vs_ret ve_bl)))))))))))))) rfl (He.glo_ok KX G (S.fact 59 (f := .fa (.glo "_law_same")) rfl))
theorem t__law_same : CallOk P w K mg base "_law_same" 10 g__law_same := tr__law_same KX G S 8
theorem t_Job_read_cells : PropOk P w K mg base 2 "read_cells" "Job" g_Job_read_cells := Kd.prop (k := 1) (S.def_ 22 (d := k_Job_read_cells) rfl) rfl s_Job_read_cells (fun _ _ _ _ _ _ us hl => match us, hl with | [_], _ => rfl) (fun {_} {_} c hp hfr => (show VSs _ _ k_Job_read_cells.body b_Job_read_cells from
  (vss_cons (VL.Ctx.setM c 1 (vl_lst va_nil))
  (vss_cons (VL.Ctx.setM c 2 (vl_lst va_nil))
  (vss_cons (VL.Ctx.for_ c hp (vi_seq (VL.Ctx.att c 0 (VL.Ctx.var c 0) (all_cons (p := fun c => FldOk K "steps" c) (a := "Job") ⟨He.cls_ok (S.fact 8 (f := .fa (.cls "Job")) rfl), He.noat_ok (S.fact 22 (f := .fa (.noat "Job" "steps")) rfl)⟩ all_nil) all_nil)) (VL.Ctx.target c 3) (vss_cons (VL.Ctx.set c 4 (ve_tup (va_cons (ve_ix ix_seq og_ix (VL.Ctx.var c 3) ve_int (fun _ _ => rfl)) (va_cons (ve_ix ix_seq og_ix (VL.Ctx.var c 3) ve_int (fun _ _ => rfl)) va_nil))))
  (vss_cons (vs_if (L2.PW.pt (vw_and (vt_cmp (VL.Ctx.oNi c) og_ni (VL.Ctx.var c 4) (VL.Ctx.var c 1) rfl) (vw_and1 (vt_cmp (VL.Ctx.oNe c) og_ne (ve_ix ix_seq og_ix (VL.Ctx.var c 3) ve_int (fun _ _ => rfl)) ve_str (nomark _))))) (vss_one (vs_drop (ve_append (VL.Ctx.var c 2) (va_cons (VL.Ctx.var c 4) va_nil))))
  vss_nil)
  (vss_one (vs_drop (ve_append (VL.Ctx.var c 1) (va_cons (VL.Ctx.var c 4) va_nil)))))))
  (vss_one (vs_ret (VL.Ctx.tuple c (He.free_ok KX G (S.fact 10 (f := .fa (.free "tuple")) rfl)) (va_cons (VL.Ctx.var c 2) va_nil))))))))) rfl (He.cls_ok (S.fact 8 (f := .fa (.cls "Job")) rfl)) (prop_ok (S.fact 61 (f := .prop "Job" "read_cells") rfl))
theorem t_distinct : CallOk P w K mg base "distinct" 1 g_distinct := Kd.call (k := 0) (S.def_ 23 (d := k_distinct) rfl) rfl s_distinct (fun _ _ _ _ _ _ us hl => match us, hl with | [_], _ => rfl) (fun {_} {_} c hp hfr => (show VSs _ _ k_distinct.body b_distinct from
  (vss_cons (VL.Ctx.setM c 1 (vl_lst va_nil))
  (vss_cons (VL.Ctx.for_ c hp (vi_seq (VL.Ctx.var c 0)) (VL.Ctx.target c 2) (vss_one (vs_if (vt_cmp (VL.Ctx.oNi c) og_ni (VL.Ctx.var c 2) (VL.Ctx.var c 1) rfl) (vss_one (vs_drop (ve_append (VL.Ctx.var c 1) (va_cons (VL.Ctx.var c 2) va_nil))))
  vss_nil)))
  (vss_one (vs_ret (VL.Ctx.tuple c (He.free_ok KX G (S.fact 10 (f := .fa (.free "tuple")) rfl)) (va_cons (VL.Ctx.var c 1) va_nil)))))))) rfl (He.glo_ok KX G (S.fact 62 (f := .fa (.glo "distinct")) rfl))
theorem t_Job_written_cells : PropOk P w K mg base 2 "written_cells" "Job" g_Job_written_cells := Kd.prop (k := 1) (S.def_ 24 (d := k_Job_written_cells) rfl) rfl s_Job_written_cells (fun _ _ _ _ _ _ us hl => match us, hl with | [_], _ => rfl) (fun {_} {_} c hp hfr => (show VSs _ _ k_Job_written_cells.body b_Job_written_cells from
  (vss_one (vs_ret (VL.Ctx.fn c (t_distinct KX G S) (va_cons (ve_ofL (VL.Ctx.lc c [("step", 1)] (vi_seq (VL.Ctx.att c 0 (VL.Ctx.var c 0) (all_cons (p := fun c => FldOk K "steps" c) (a := "Job") ⟨He.cls_ok (S.fact 8 (f := .fa (.cls "Job")) rfl), He.noat_ok (S.fact 22 (f := .fa (.noat "Job" "steps")) rfl)⟩ all_nil) all_nil)) (fun c' => (VL.Ctx.target c' 1)) (fun c' => (vts_one (vt_cmp (VL.Ctx.oNe c') og_ne (ve_ix ix_seq og_ix (VL.Ctx.var c' 1) ve_int (fun _ _ => rfl)) ve_str (nomark _)))) (fun c' => (ve_tup (va_cons (ve_ix ix_seq og_ix (VL.Ctx.var c' 1) ve_int (fun _ _ => rfl)) (va_cons (ve_ix ix_seq og_ix (VL.Ctx.var c' 1) ve_int (fun _ _ => rfl)) va_nil)))))) va_nil)))))) rfl (He.cls_ok (S.fact 8 (f := .fa (.cls "Job")) rfl)) (prop_ok (S.fact 63 (f := .prop "Job" "written_cells") rfl))
theorem t_open_reads : CallOk P w K mg base "open_reads" 4 g_open_reads := Kd.call (k := 3) (S.def_ 25 (d := k_open_reads) rfl) rfl s_open_reads (fun _ _ _ _ _ _ us hl => match us, hl with | [_], _ => rfl) (fun {_} {_} c hp hfr => (show VSs _ _ k_open_reads.body b_open_reads from
  (vss_one (vs_ret (ve_ofL (VL.Ctx.lc2 c [("job", 1), ("cell", 2)] [2] (VL.Ctx.own (j := 1) c (VL.Ctx.var c 0) (all_cons (p := fun q => IterOk P w K mg base 1 q.1 q.2) (a := (("JobBook" : Str), ("listed" : Str))) (t_iter_JobBook KX G S) all_nil)) (fun c' => (VL.Ctx.target c' 1)) (fun c' => vts_nil) (fun c' => (vi_seq (VL.Ctx.att c' 2 (VL.Ctx.var c' 1) all_nil (all_cons (p := fun q => PropOk P w K mg base 2 "read_cells" q.1 q.2.2) (a := (("Job" : Str), false, g_Job_read_cells)) ((t_Job_read_cells KX G S).mono (by decide)) all_nil)))) (fun c' => (VL.Ctx.target c' 2)) (fun c' => (vts_one (vt_cmp (VL.Ctx.oNi c') og_ni (VL.Ctx.var c' 2) (VL.Ctx.att c' 2 (VL.Ctx.var c' 1) all_nil (all_cons (p := fun q => PropOk P w K mg base 2 "written_cells" q.1 q.2.2) (a := (("Job" : Str), false, g_Job_written_cells)) ((t_Job_written_cells KX G S).mono (by decide)) all_nil)) rfl))) (fun c' => (ve_tup (va_cons (VL.Ctx.att c' 0 (VL.Ctx.var c' 1) (all_cons (p := fun c => FldOk K "name" c) (a := "Job") ⟨He.cls_ok (S.fact 8 (f := .fa (.cls "Job")) rfl), He.noat_ok (S.fact 9 (f := .fa (.noat "Job" "name")) rfl)⟩ all_nil) all_nil) (va_cons (VL.Ctx.var c' 2) va_nil)))))))))) rfl (He.glo_ok KX G (S.fact 64 (f := .fa (.glo "open_reads")) rfl))
theorem t__law_some : CallOk P w K mg base "_law_some" 2 g__law_some := Kd.call (k := 1) (S.def_ 26 (d := k__law_some) rfl) rfl s__law_some (fun _ _ _ _ _ _ us hl => match us, hl with | [_, _, _], _ => rfl) (fun {_} {_} c hp hfr => (show VSs _ _ k__law_some.body b__law_some from
  (vss_one (vs_ret (ve_ofL (VL.Ctx.lc c [("item", 3)] (vi_seq (VL.Ctx.var c 1)) (fun c' => (VL.Ctx.target c' 3)) (fun c' => (vts_one (vt_cmp op_gt og_gt (VL.Ctx.fn c' (t__law_draw KX G S) (va_cons (VL.Ctx.var c' 0) (va_cons (VL.Ctx.var c' 2) va_nil))) ve_int (nomark _)))) (fun c' => (VL.Ctx.var c' 3)))))))) rfl (He.glo_ok KX G (S.fact 65 (f := .fa (.glo "_law_some")) rfl))
theorem t_guarded : CallOk P w K mg base "guarded" 7 g_guarded := Kd.call (k := 6) (S.def_ 27 (d := k_guarded) rfl) rfl s_guarded (fun _ _ _ _ _ _ us hl => match us, hl with | [_, _], _ => rfl) (fun {_} {_} c hp hfr => (show VSs _ _ k_guarded.body b_guarded from
  (vss_cons (VL.Ctx.setM c 2 (vl_lst va_nil))
  (vss_cons (VL.Ctx.for_ c hp (VL.Ctx.own (j := 1) c (VL.Ctx.var c 0) (all_cons (p := fun q => IterOk P w K mg base 1 q.1 q.2) (a := (("JobBook" : Str), ("listed" : Str))) (t_iter_JobBook KX G S) all_nil)) (VL.Ctx.target c 3) (vss_cons (VL.Ctx.setM c 4 (VL.Ctx.list c (He.free_ok KX G (S.fact 0 (f := .fa (.free "list")) rfl)) (va_cons (VL.Ctx.att c 0 (VL.Ctx.var c 3) (all_cons (p := fun c => FldOk K "steps" c) (a := "Job") ⟨He.cls_ok (S.fact 8 (f := .fa (.cls "Job")) rfl), He.noat_ok (S.fact 22 (f := .fa (.noat "Job" "steps")) rfl)⟩ all_nil) all_nil) va_nil)))
  (vss_cons (vs_drop (ve_extend (VL.Ctx.var c 4) (va_cons (ve_ofL (VL.Ctx.lc c [("name", 5), ("cell", 6)] (vi_seq (VL.Ctx.var c 1)) (fun c' => (VL.Ctx.tup c' (vgs_cons (VL.Ctx.target c' 5) (vgs_cons (VL.Ctx.target c' 6) (vgs_nil (vs := [])))))) (fun c' => (vts_one (vt_cmp (VL.Ctx.oEq c') og_eq (VL.Ctx.var c' 5) (VL.Ctx.att c' 0 (VL.Ctx.var c' 3) (all_cons (p := fun c => FldOk K "name" c) (a := "Job") ⟨He.cls_ok (S.fact 8 (f := .fa (.cls "Job")) rfl), He.noat_ok (S.fact 9 (f := .fa (.noat "Job" "name")) rfl)⟩ all_nil) all_nil) (nomark _)))) (fun c' => (ve_tup (va_cons ve_str (va_cons (ve_ix ix_seq og_ix (VL.Ctx.var c' 6) ve_int (fun _ _ => rfl)) (va_cons (ve_ix ix_seq og_ix (VL.Ctx.var c' 6) ve_int (fun _ _ => rfl)) (va_cons ve_int va_nil)))))))) va_nil)))
  (vss_one (vs_drop (ve_append (VL.Ctx.var c 2) (va_cons (ve_ofL (VL.Ctx.makeM c (t_Job___init__ KX G S) (va_cons (VL.Ctx.att c 0 (VL.Ctx.var c 3) (all_cons (p := fun c => FldOk K "name" c) (a := "Job") ⟨He.cls_ok (S.fact 8 (f := .fa (.cls "Job")) rfl), He.noat_ok (S.fact 9 (f := .fa (.noat "Job" "name")) rfl)⟩ all_nil) all_nil) (va_cons (VL.Ctx.var c 4) va_nil)))) va_nil)))))))
  (vss_one (vs_ret (VL.Ctx.makeS c (t_JobBook___init__ KX G S) (VL.Ctx.var c 2)))))))) rfl (He.glo_ok KX G (S.fact 66 (f := .fa (.glo "guarded")) rfl))
theorem t__law_with : CallOk P w K mg base "_law_with" 1 g__law_with := Kd.call (k := 0) (S.def_ 28 (d := k__law_with) rfl) rfl s__law_with (fun _ _ _ _ _ _ us hl => match us, hl with | [_, _, _], _ => rfl) (fun {_} {_} c hp hfr => (show VSs _ _ k__law_with.body b__law_with from
  (vss_cons (VL.Ctx.setM c 3 (vl_lst va_nil))
  (vss_cons (VL.Ctx.for_ c hp (VL.Ctx.rng1 c (He.free_ok KX G (S.fact 3 (f := .fa (.free "range")) rfl)) (va_cons (VL.Ctx.len c (He.free_ok KX G (S.fact 1 (f := .fa (.free "len")) rfl)) (va_cons (VL.Ctx.var c 1) va_nil)) va_nil)) (VL.Ctx.target c 4) (vss_one (vs_drop (ve_append (VL.Ctx.var c 3) (va_cons (ve_bin op_addAny og_add (ve_ofL (VL.Ctx.list c (He.free_ok KX G (S.fact 0 (f := .fa (.free "list")) rfl)) (va_cons (ve_ix ix_seq og_ix (VL.Ctx.var c 1) (VL.Ctx.var c 4) (fun _ _ => rfl)) va_nil))) (ve_ofL (VL.Ctx.lc c [("pair", 5)] (vi_seq (VL.Ctx.var c 2)) (fun c' => (VL.Ctx.target c' 5)) (fun c' => (vts_one (vt_cmp (VL.Ctx.oEq c') og_eq (ve_ix ix_seq og_ix (VL.Ctx.var c' 5) ve_int (fun _ _ => rfl)) (ve_ix ix_seq og_ix (VL.Ctx.var c' 0) (VL.Ctx.var c' 4) (fun _ _ => rfl)) (nomark _)))) (fun c' => (ve_tup (va_cons ve_str (va_cons (ve_ix ix_seq og_ix (ve_ix ix_seq og_ix (VL.Ctx.var c' 5) ve_int (fun _ _ => rfl)) ve_int (fun _ _ => rfl)) (va_cons (ve_ix ix_seq og_ix (ve_ix ix_seq og_ix (VL.Ctx.var c' 5) ve_int (fun _ _ => rfl)) ve_int (fun _ _ => rfl)) (va_cons ve_int va_nil))))))))) va_nil)))))
  (vss_one (vs_ret (VL.Ctx.var c 3))))))) rfl (He.glo_ok KX G (S.fact 67 (f := .fa (.glo "_law_with")) rfl))
theorem t_index_sets : CallOk P w K mg base "index_sets" 1 g_index_sets := Kd.call (k := 0) (S.def_ 29 (d := k_index_sets) rfl) rfl s_index_sets (fun _ _ _ _ _ _ us hl => match us, hl with | [_], _ => rfl) (fun {_} {_} c hp hfr => (show VSs _ _ k_index_sets.body b_index_sets from
  (vss_cons (VL.Ctx.set c 1 (ve_ofL (vl_lst (va_cons (ve_tup va_nil) va_nil))))
  (vss_cons (VL.Ctx.setM c 2 (vl_lst (va_cons (ve_tup va_nil) va_nil)))
  (vss_cons (VL.Ctx.for_ c hp (VL.Ctx.rng1 c (He.free_ok KX G (S.fact 3 (f := .fa (.free "range")) rfl)) (va_cons (VL.Ctx.var c 0) va_nil)) (VL.Ctx.target c 3) (vss_cons (VL.Ctx.setLc2V c 1 [("row", 4), ("at", 5)] [5] (vi_seq (VL.Ctx.var c 1)) (fun c' => (VL.Ctx.target c' 4)) (fun c' => vts_nil) (fun c' => (VL.Ctx.rng2 c' (He.free_ok KX G (S.fact 3 (f := .fa (.free "range")) rfl)) (va_cons (ve_if (vt_cmp op_gt og_gt (VL.Ctx.len c' (He.free_ok KX G (S.fact 1 (f := .fa (.free "len")) rfl)) (va_cons (VL.Ctx.var c' 4) va_nil)) ve_int (nomark _)) (ve_bin op_addAny og_add (ve_ix ix_seq og_ix (VL.Ctx.var c' 4) (ve_neg ve_int) (fun _ _ => rfl)) ve_int) ve_int) (va_cons (VL.Ctx.var c' 0) va_nil)))) (fun c' => (VL.Ctx.target c' 5)) (fun c' => vts_nil) (fun c' => (ve_bin op_addAny og_add (VL.Ctx.var c' 4) (ve_tup (va_cons (VL.Ctx.var c' 5) va_nil)))))
  (vss_one (vs_drop (ve_extend (VL.Ctx.var c 2) (va_cons (VL.Ctx.var c 1) va_nil))))))
  (vss_one (vs_ret (VL.Ctx.var c 2)))))))) rfl (He.glo_ok KX G (S.fact 68 (f := .fa (.glo "index_sets")) rfl))
theorem t_shares : CallOk P w K mg base "shares" 1 g_shares := Kd.call (k := 0) (S.def_ 30 (d := k_shares) rfl) rfl s_shares (fun _ _ _ _ _ _ us hl => match us, hl with | [_, _], _ => rfl) (fun {_} {_} c hp hfr => (show VSs _ _ k_shares.body b_shares from
  (vss_one (vs_ret (VL.Ctx.any c (He.free_ok KX G (S.fact 31 (f := .fa (.free "any")) rfl)) (va_cons (ve_ofL (VL.Ctx.lc c [("cell", 2)] (vi_seq (VL.Ctx.var c 0)) (fun c' => (VL.Ctx.target c' 2)) (fun c' => vts_nil) (fun c' => (ve_cmp (VL.Ctx.oIn c') og_in (VL.Ctx.var c' 2) (VL.Ctx.var c' 1) rfl)))) va_nil)))))) rfl (He.glo_ok KX G (S.fact 69 (f := .fa (.glo "shares")) rfl))
theorem t_both_write : CallOk P w K mg base "both_write" 4 g_both_write := Kd.call (k := 3) (S.def_ 31 (d := k_both_write) rfl) rfl s_both_write (fun _ _ _ _ _ _ us hl => match us, hl with | [_, _], _ => rfl) (fun {_} {_} c hp hfr => (show VSs _ _ k_both_write.body b_both_write from
  (vss_one (vs_ret (VL.Ctx.fn c (t_shares KX G S) (va_cons (VL.Ctx.att c 2 (VL.Ctx.var c 0) all_nil (all_cons (p := fun q => PropOk P w K mg base 2 "written_cells" q.1 q.2.2) (a := (("Job" : Str), false, g_Job_written_cells)) ((t_Job_written_cells KX G S).mono (by decide)) all_nil)) (va_cons (VL.Ctx.att c 2 (VL.Ctx.var c 1) all_nil (all_cons (p := fun q => PropOk P w K mg base 2 "written_cells" q.1 q.2.2) (a := (("Job" : Str), false, g_Job_written_cells)) ((t_Job_written_cells KX G S).mono (by decide)) all_nil)) va_nil))))))) rfl (He.glo_ok KX G (S.fact 70 (f := .fa (.glo "both_write")) rfl))
theorem t_misses_write : CallOk P w K mg base "misses_write" 4 g_misses_write := Kd.call (k := 3) (S.def_ 32 (d := k_misses_write) rfl) rfl s_misses_write (fun _ _ _ _ _ _ us hl => match us, hl with | [_, _], _ => rfl) (fun {_} {_} c hp hfr => (show VSs _ _ k_misses_write.body b_misses_write from
  (vss_one (vs_ret (VL.Ctx.fn c (t_shares KX G S) (va_cons (VL.Ctx.att c 2 (VL.Ctx.var c 0) all_nil (all_cons (p := fun q => PropOk P w K mg base 2 "read_cells" q.1 q.2.2) (a := (("Job" : Str), false, g_Job_read_cells)) ((t_Job_read_cells KX G S).mono (by decide)) all_nil)) (va_cons (VL.Ctx.att c 2 (VL.Ctx.var c 1) all_nil (all_cons (p := fun q => PropOk P w K mg base 2 "written_cells" q.1 q.2.2) (a := (("Job" : Str), false, g_Job_written_cells)) ((t_Job_written_cells KX G S).mono (by decide)) all_nil)) va_nil))))))) rfl (He.glo_ok KX G (S.fact 71 (f := .fa (.glo "misses_write")) rfl))
theorem t_comes_back : CallOk P w K mg base "comes_back" 5 g_comes_back := Kd.call (k := 4) (S.def_ 33 (d := k_comes_back) rfl) rfl s_comes_back (fun _ _ _ _ _ _ us hl => match us, hl with | [_, _, _], _ => rfl) (fun {_} {_} c hp hfr => (show VSs _ _ k_comes_back.body b_comes_back from
  (vss_one (vs_ret (ve_or (VL.Ctx.fn c (t_misses_write KX G S) (va_cons (VL.Ctx.var c 1) (va_cons (VL.Ctx.var c 0) va_nil))) (ve_one (ve_and (ve_cmp (VL.Ctx.oEq c) og_eq (VL.Ctx.var c 2) ve_str (nomark _)) (ve_one (VL.Ctx.fn c (t_both_write KX G S) (va_cons (VL.Ctx.var c 1) (va_cons (VL.Ctx.var c 0) va_nil))))))))))) rfl (He.glo_ok KX G (S.fact 72 (f := .fa (.glo "comes_back")) rfl))
theorem t_jobs_conflict : CallOk P w K mg base "jobs_conflict" 5 g_jobs_conflict := Kd.call (k := 4) (S.def_ 34 (d := k_jobs_conflict) rfl) rfl s_jobs_conflict (fun _ _ _ _ _ _ us hl => match us, hl with | [_, _], _ => rfl) (fun {_} {_} c hp hfr => (show VSs _ _ k_jobs_conflict.body b_jobs_conflict from
  (vss_one (vs_ret (ve_or (VL.Ctx.fn c (t_both_write KX G S) (va_cons (VL.Ctx.var c 0) (va_cons (VL.Ctx.var c 1) va_nil))) (ve_or (VL.Ctx.fn c (t_misses_write KX G S) (va_cons (VL.Ctx.var c 0) (va_cons (VL.Ctx.var c 1) va_nil))) (ve_one (VL.Ctx.fn c (t_misses_write KX G S) (va_cons (VL.Ctx.var c 1) (va_cons (VL.Ctx.var c 0) va_nil)))))))))) rfl (He.glo_ok KX G (S.fact 73 (f := .fa (.glo "jobs_conflict")) rfl))
theorem t_chain_for : CallOk P w K mg base "chain_for" 6 g_chain_for := Kd.call (k := 5) (S.def_ 35 (d := k_chain_for) rfl) rfl s_chain_for (fun _ _ _ _ _ _ us hl => match us, hl with | [_, _, _], _ => rfl) (fun {_} {_} c hp hfr => (show VSs _ _ k_chain_for.body b_chain_for from
  (vss_cons (VL.Ctx.set c 3 (ve_ix ix_seq og_ix (VL.Ctx.var c 0) (VL.Ctx.var c 1) (fun _ _ => rfl)))
  (vss_cons (VL.Ctx.setLcV c 4 [("number", 5)] (VL.Ctx.rng1 c (He.free_ok KX G (S.fact 3 (f := .fa (.free "range")) rfl)) (va_cons (VL.Ctx.len c (He.free_ok KX G (S.fact 1 (f := .fa (.free "len")) rfl)) (va_cons (VL.Ctx.var c 0) va_nil)) va_nil)) (fun c' => (VL.Ctx.target c' 5)) (fun c' => (vts_one (vt_cmp (VL.Ctx.oNe c') og_ne (VL.Ctx.var c' 5) (VL.Ctx.var c' 1) (nomark _)))) (fun c' => (VL.Ctx.var c' 5)))
  (vss_cons (vs_if (vt_cmp (VL.Ctx.oNe c) og_ne (VL.Ctx.var c 2) ve_str (nomark _)) (vss_one (VL.Ctx.setLcV c 4 [("number", 5)] (vi_seq (VL.Ctx.var c 4)) (fun c' => (VL.Ctx.target c' 5)) (fun c' => (vts_one (vt_not (vt_tru (VL.Ctx.fn c' (t_both_write KX G S) (va_cons (VL.Ctx.var c' 3) (va_cons (ve_ix ix_seq og_ix (VL.Ctx.var c' 0) (VL.Ctx.var c' 5) (fun _ _ => rfl)) va_nil))))))) (fun c' => (VL.Ctx.var c' 5))))
  vss_nil)
  (vss_cons (VL.Ctx.setLcV c 6 [("number", 5)] (vi_seq (VL.Ctx.var c 4)) (fun c' => (VL.Ctx.target c' 5)) (fun c' => (vts_one (vt_tru (VL.Ctx.fn c' (t_misses_write KX G S) (va_cons (VL.Ctx.var c' 3) (va_cons (ve_ix ix_seq og_ix (VL.Ctx.var c' 0) (VL.Ctx.var c' 5) (fun _ _ => rfl)) va_nil)))))) (fun c' => (ve_ofL (vl_lst (va_cons (VL.Ctx.var c' 5) va_nil)))))
  (vss_cons (VL.Ctx.setLc c 7 [("chain", 8)] (vi_seq (VL.Ctx.var c 6)) (fun c' => (VL.Ctx.target c' 8)) (fun c' => vts_nil) (fun c' => (ve_ix ix_seq og_ix (VL.Ctx.var c' 8) ve_int (fun _ _ => rfl))))
  (vss_cons (vs_while hp (vt_cmp op_gt og_gt (VL.Ctx.len c (He.free_ok KX G (S.fact 1 (f := .fa (.free "len")) rfl)) (va_cons (VL.Ctx.var c 6) va_nil)) ve_int (nomark _)) (vss_cons (VL.Ctx.setM c 9 (vl_lst va_nil))
  (vss_cons (VL.Ctx.for_ c hp (vi_seq (ve_ofL (VL.Ctx.list c (He.free_ok KX G (S.fact 0 (f := .fa (.free "list")) rfl)) (va_cons (VL.Ctx.var c 6) va_nil)))) (VL.Ctx.target c 8) (vss_cons (VL.Ctx.set c 10 (ve_ix ix_seq og_ix (VL.Ctx.var c 0) (ve_ix ix_seq og_ix (VL.Ctx.var c 8) (ve_neg ve_int) (fun _ _ => rfl)) (fun _ _ => rfl)))
  (vss_cons (vs_if (vt_tru (VL.Ctx.fn c (t_comes_back KX G S) (va_cons (VL.Ctx.var c 3) (va_cons (VL.Ctx.var c 10) (va_cons (VL.Ctx.var c 2) va_nil))))) (vss_one (vs_ret (VL.Ctx.var c 8)))
  vss_nil)
  (vss_one (VL.Ctx.for_ c hp (vi_seq (VL.Ctx.var c 4)) (VL.Ctx.target c 5) (vss_one (vs_if (L2.PW.pt (vw_and (vt_cmp (VL.Ctx.oNi c) og_ni (VL.Ctx.var c 5) (VL.Ctx.var c 7) rfl) (vw_and1 (vt_tru (VL.Ctx.fn c (t_jobs_conflict KX G S) (va_cons (VL.Ctx.var c 10) (va_cons (ve_ix ix_seq og_ix (VL.Ctx.var c 0) (VL.Ctx.var c 5) (fun _ _ => rfl)) va_nil))))))) (vss_cons (vs_drop (ve_append (VL.Ctx.var c 7) (va_cons (VL.Ctx.var c 5) va_nil)))
  (vss_one (vs_drop (ve_append (VL.Ctx.var c 9) (va_cons (ve_ofL (vl_lst (va_star (VL.Ctx.var c 8) (va_cons (VL.Ctx.var c 5) va_nil)))) va_nil)))))
  vss_nil)))))))
  (vss_one (VL.Ctx.set c 6 (VL.Ctx.var c 9))))))
  (vss_one (vs_ret ve_non)))))))))) rfl (He.glo_ok KX G (S.fact 74 (f := .fa (.glo "chain_for")) rfl))
theorem t_Split___init__ : MakeOk P w K mg base "Split" 5 g_Split___init__ := Kd.make (k := 4) (S.def_ 36 (d := k_Split___init__) rfl) rfl s_Split___init__ (fun _ _ _ _ _ _ us hl => match us, hl with | [_, _, _, _, _], _ => rfl) (fun {_} {_} c hp hfr => (show VSs _ _ k_Split___init__.body b_Split___init__ from
  (vss_cons (VL.Ctx.fld c (VL.Ctx.var c 0) (ve_ofL (VL.Ctx.listO (j := 1) c (He.free_ok KX G (S.fact 0 (f := .fa (.free "list")) rfl)) (all_cons (p := fun q => IterOk P w K mg base 1 q.1 q.2) (a := (("JobBook" : Str), ("listed" : Str))) (t_iter_JobBook KX G S) all_nil) (va_cons (VL.Ctx.var c 1) va_nil))) (all_cons (p := fun c => FldOk K "jobs" c) (a := "Split") ⟨He.cls_ok (S.fact 32 (f := .fa (.cls "Split")) rfl), He.noat_ok (S.fact 33 (f := .fa (.noat "Split" "jobs")) rfl)⟩ all_nil))
  (vss_cons (VL.Ctx.fld c (VL.Ctx.var c 0) (VL.Ctx.var c 2) (all_cons (p := fun c => FldOk K "outer" c) (a := "Split") ⟨He.cls_ok (S.fact 32 (f := .fa (.cls "Split")) rfl), He.noat_ok (S.fact 34 (f := .fa (.noat "Split" "outer")) rfl)⟩ all_nil))
  (vss_cons (VL.Ctx.fld c (VL.Ctx.var c 0) (VL.Ctx.tuple c (He.free_ok KX G (S.fact 10 (f := .fa (.free "tuple")) rfl)) (va_cons (VL.Ctx.var c 3) va_nil)) (all_cons (p := fun c => FldOk K "chain" c) (a := "Split") ⟨He.cls_ok (S.fact 32 (f := .fa (.cls "Split")) rfl), He.noat_ok (S.fact 35 (f := .fa (.noat "Split" "chain")) rfl)⟩ all_nil))
  (vss_one (VL.Ctx.fld c (VL.Ctx.var c 0) (VL.Ctx.var c 4) (all_cons (p := fun c => FldOk K "policy" c) (a := "Split") ⟨He.cls_ok (S.fact 32 (f := .fa (.cls "Split")) rfl), He.noat_ok (S.fact 36 (f := .fa (.noat "Split" "policy")) rfl)⟩ all_nil)))))))) rfl (He.mkr_ok (S.fact 75 (f := .fa (.mkr "Split")) rfl)) (He.glo_ok KX G (S.fact 76 (f := .fa (.glo "Split")) rfl))
theorem t_find_split : CallOk P w K mg base "find_split" 7 g_find_split := Kd.call (k := 6) (S.def_ 37 (d := k_find_split) rfl) rfl s_find_split (fun _ _ _ _ _ _ us hl => match us, hl with | [_, _], _ => rfl) (fun {_} {_} c hp hfr => (show VSs _ _ k_find_split.body b_find_split from
  (vss_cons (VL.Ctx.set c 2 (ve_ofL (VL.Ctx.listO (j := 1) c (He.free_ok KX G (S.fact 0 (f := .fa (.free "list")) rfl)) (all_cons (p := fun q => IterOk P w K mg base 1 q.1 q.2) (a := (("JobBook" : Str), ("listed" : Str))) (t_iter_JobBook KX G S) all_nil) (va_cons (VL.Ctx.var c 0) va_nil))))
  (vss_cons (VL.Ctx.for_ c hp (VL.Ctx.rng1 c (He.free_ok KX G (S.fact 3 (f := .fa (.free "range")) rfl)) (va_cons (VL.Ctx.len c (He.free_ok KX G (S.fact 1 (f := .fa (.free "len")) rfl)) (va_cons (VL.Ctx.var c 2) va_nil)) va_nil)) (VL.Ctx.target c 3) (vss_cons (VL.Ctx.set c 4 (VL.Ctx.fn c (t_chain_for KX G S) (va_cons (VL.Ctx.var c 2) (va_cons (VL.Ctx.var c 3) (va_cons (VL.Ctx.var c 1) va_nil)))))
  (vss_one (vs_if (vt_cmp op_isNV og_isN (VL.Ctx.var c 4) ve_non (nomark _)) (vss_one (vs_ret (ve_ofL (VL.Ctx.makeM c (t_Split___init__ KX G S) (va_cons (VL.Ctx.var c 0) (va_cons (VL.Ctx.var c 3) (va_cons (VL.Ctx.var c 4) (va_cons (VL.Ctx.var c 1) va_nil))))))))
  vss_nil))))
  (vss_one (vs_ret ve_non)))))) rfl (He.glo_ok KX G (S.fact 77 (f := .fa (.glo "find_split")) rfl))
theorem t_is_robust : CallOk P w K mg base "is_robust" 8 g_is_robust := Kd.call (k := 7) (S.def_ 38 (d := k_is_robust) rfl) rfl s_is_robust (fun _ _ _ _ _ _ us hl => match us, hl with | [_, _], _ => rfl) (fun {_} {_} c hp hfr => (show VSs _ _ k_is_robust.body b_is_robust from
  (vss_one (vs_ret (ve_cmp op_isV og_is (VL.Ctx.fn c (t_find_split KX G S) (va_cons (VL.Ctx.var c 0) (va_cons (VL.Ctx.var c 1) va_nil))) ve_non (nomark _)))))) rfl (He.glo_ok KX G (S.fact 78 (f := .fa (.glo "is_robust")) rfl))
theorem t_fewest_guards : CallOk P w K mg base "fewest_guards" 9 g_fewest_guards := Kd.call (k := 8) (S.def_ 39 (d := k_fewest_guards) rfl) rfl s_fewest_guards (fun _ _ _ _ _ _ us hl => match us, hl with | [_], _ => rfl) (fun {_} {_} c hp hfr => (show VSs _ _ k_fewest_guards.body b_fewest_guards from
  (vss_cons (VL.Ctx.set c 1 (VL.Ctx.fn c (t_open_reads KX G S) (va_cons (VL.Ctx.var c 0) va_nil)))
  (vss_cons (vs_if (vt_cmp op_gt og_gt (VL.Ctx.len c (He.free_ok KX G (S.fact 1 (f := .fa (.free "len")) rfl)) (va_cons (VL.Ctx.var c 1) va_nil)) (VL.Ctx.glob c (gval_ok KX G (S.fact 30 (f := .gval "MOST_READS" (.int 8)) rfl))) (nomark _)) (vss_one (VL.Ctx.raise c (tx_TooLarge KX G S) (va_cons (VL.Ctx.glob c (gval_ok KX G (S.fact 30 (f := .gval "MOST_READS" (.int 8)) rfl))) va_nil)))
  vss_nil)
  (vss_cons (VL.Ctx.for_ c hp (vi_seq (VL.Ctx.fn c (t_index_sets KX G S) (va_cons (VL.Ctx.len c (He.free_ok KX G (S.fact 1 (f := .fa (.free "len")) rfl)) (va_cons (VL.Ctx.var c 1) va_nil)) va_nil))) (VL.Ctx.target c 2) (vss_cons (VL.Ctx.setLcV c 3 [("at", 4)] (vi_seq (VL.Ctx.var c 2)) (fun c' => (VL.Ctx.target c' 4)) (fun c' => vts_nil) (fun c' => (ve_ix ix_seq og_ix (VL.Ctx.var c' 1) (VL.Ctx.var c' 4) (fun _ _ => rfl))))
  (vss_one (vs_if (vt_tru (VL.Ctx.fn c (t_is_robust KX G S) (va_cons (VL.Ctx.fn c (t_guarded KX G S) (va_cons (VL.Ctx.var c 0) (va_cons (VL.Ctx.var c 3) va_nil))) (va_cons ve_str va_nil)))) (vss_one (vs_ret (VL.Ctx.var c 3)))
  vss_nil))))
  (vss_one (vs_ret (VL.Ctx.var c 1)))))))) rfl (He.glo_ok KX G (S.fact 79 (f := .fa (.glo "fewest_guards")) rfl))
theorem t__law_jmeet : CallOk P w K mg base "_law_jmeet" 1 g__law_jmeet := Kd.call (k := 0) (S.def_ 40 (d := k__law_jmeet) rfl) rfl s__law_jmeet (fun _ _ _ _ _ _ us hl => match us, hl with | [_, _], _ => rfl) (fun {_} {_} c hp hfr => (show VSs _ _ k__law_jmeet.body b__law_jmeet from
  (vss_one (vs_ret (ve_cmp op_gt og_gt (VL.Ctx.len c (He.free_ok KX G (S.fact 1 (f := .fa (.free "len")) rfl)) (va_cons (ve_ofL (VL.Ctx.lc c [("cell", 2)] (vi_seq (VL.Ctx.var c 0)) (fun c' => (VL.Ctx.target c' 2)) (fun c' => (vts_one (vt_cmp (VL.Ctx.oIn c') og_in (VL.Ctx.var c' 2) (VL.Ctx.var c' 1) rfl))) (fun c' => (VL.Ctx.var c' 2)))) va_nil)) ve_int (nomark _)))))) rfl (He.glo_ok KX G (S.fact 80 (f := .fa (.glo "_law_jmeet")) rfl))
theorem t__law_jclash : CallOk P w K mg base "_law_jclash" 2 g__law_jclash := Kd.call (k := 1) (S.def_ 41 (d := k__law_jclash) rfl) rfl s__law_jclash (fun _ _ _ _ _ _ us hl => match us, hl with | [_, _], _ => rfl) (fun {_} {_} c hp hfr => (show VSs _ _ k__law_jclash.body b__law_jclash from
  (vss_cons (VL.Ctx.set c 2 (VL.Ctx.fn c (t__law_jcells KX G S) (va_cons (VL.Ctx.var c 0) (va_cons ve_bl va_nil))))
  (vss_cons (VL.Ctx.set c 3 (VL.Ctx.fn c (t__law_jcells KX G S) (va_cons (VL.Ctx.var c 1) (va_cons ve_bl va_nil))))
  (vss_cons (vs_if (vt_tru (VL.Ctx.fn c (t__law_jmeet KX G S) (va_cons (VL.Ctx.var c 2) (va_cons (VL.Ctx.var c 3) va_nil)))) (vss_one (vs_ret ve_bl))
  vss_nil)
  (vss_one (vs_ret (ve_or (VL.Ctx.fn c (t__law_jmeet KX G S) (va_cons (VL.Ctx.fn c (t__law_jcells KX G S) (va_cons (VL.Ctx.var c 0) (va_cons ve_bl va_nil))) (va_cons (VL.Ctx.var c 3) va_nil))) (ve_one (VL.Ctx.fn c (t__law_jmeet KX G S) (va_cons (VL.Ctx.fn c (t__law_jcells KX G S) (va_cons (VL.Ctx.var c 1) (va_cons ve_bl va_nil))) (va_cons (VL.Ctx.var c 2) va_nil)))))))))))) rfl (He.glo_ok KX G (S.fact 81 (f := .fa (.glo "_law_jclash")) rfl))
theorem t__law_jchain : CallOk P w K mg base "_law_jchain" 3 g__law_jchain := Kd.call (k := 2) (S.def_ 42 (d := k__law_jchain) rfl) rfl s__law_jchain (fun _ _ _ _ _ _ us hl => match us, hl with | [_, _, _], _ => rfl) (fun {_} {_} c hp hfr => (show VSs _ _ k__law_jchain.body b__law_jchain from
  (vss_cons (VL.Ctx.set c 3 (VL.Ctx.fn c (t__law_jcells KX G S) (va_cons (ve_ix ix_seq og_ix (VL.Ctx.var c 0) (VL.Ctx.var c 1) (fun _ _ => rfl)) (va_cons ve_bl va_nil))))
  (vss_cons (VL.Ctx.set c 4 (VL.Ctx.fn c (t__law_jcells KX G S) (va_cons (ve_ix ix_seq og_ix (VL.Ctx.var c 0) (VL.Ctx.var c 1) (fun _ _ => rfl)) (va_cons ve_bl va_nil))))
  (vss_cons (VL.Ctx.setLcV c 5 [("j", 6)] (VL.Ctx.rng1 c (He.free_ok KX G (S.fact 3 (f := .fa (.free "range")) rfl)) (va_cons (VL.Ctx.len c (He.free_ok KX G (S.fact 1 (f := .fa (.free "len")) rfl)) (va_cons (VL.Ctx.var c 0) va_nil)) va_nil)) (fun c' => (VL.Ctx.target c' 6)) (fun c' => (vts_one (vt_cmp (VL.Ctx.oNe c') og_ne (VL.Ctx.var c' 6) (VL.Ctx.var c' 1) (nomark _)))) (fun c' => (VL.Ctx.var c' 6)))
  (vss_cons (vs_if (vt_cmp (VL.Ctx.oNe c) og_ne (VL.Ctx.var c 2) ve_str (nomark _)) (vss_one (VL.Ctx.setLcV c 5 [("j", 6)] (vi_seq (VL.Ctx.var c 5)) (fun c' => (VL.Ctx.target c' 6)) (fun c' => (vts_one (vt_not (vt_tru (VL.Ctx.fn c' (t__law_jmeet KX G S) (va_cons (VL.Ctx.var c' 3) (va_cons (VL.Ctx.fn c' (t__law_jcells KX G S) (va_cons (ve_ix ix_seq og_ix (VL.Ctx.var c' 0) (VL.Ctx.var c' 6) (fun _ _ => rfl)) (va_cons ve_bl va_nil))) va_nil))))))) (fun c' => (VL.Ctx.var c' 6))))
  vss_nil)
  (vss_cons (VL.Ctx.set c 7 (ve_ofL (VL.Ctx.lc c [("j", 6)] (vi_seq (VL.Ctx.var c 5)) (fun c' => (VL.Ctx.target c' 6)) (fun c' => (vts_one (vt_tru (VL.Ctx.fn c' (t__law_jmeet KX G S) (va_cons (VL.Ctx.var c' 4) (va_cons (VL.Ctx.fn c' (t__law_jcells KX G S) (va_cons (ve_ix ix_seq og_ix (VL.Ctx.var c' 0) (VL.Ctx.var c' 6) (fun _ _ => rfl)) (va_cons ve_bl va_nil))) va_nil)))))) (fun c' => (VL.Ctx.var c' 6)))) (hs := VL.Ctx.swF c))
  (vss_cons (VL.Ctx.set c 8 (ve_ofL (VL.Ctx.list c (He.free_ok KX G (S.fact 0 (f := .fa (.free "list")) rfl)) (va_cons (VL.Ctx.var c 7) va_nil))))
  (vss_cons (VL.Ctx.for_ c hp (VL.Ctx.rng2 c (He.free_ok KX G (S.fact 3 (f := .fa (.free "range")) rfl)) (va_cons ve_int (va_cons (ve_bin op_addAny og_add (VL.Ctx.len c (He.free_ok KX G (S.fact 1 (f := .fa (.free "len")) rfl)) (va_cons (VL.Ctx.var c 0) va_nil)) ve_int) va_nil))) (VL.Ctx.target c 9) (vss_cons (VL.Ctx.for_ c hp (vi_seq (VL.Ctx.var c 7)) (VL.Ctx.target c 6) (vss_cons (vs_if (vt_tru (VL.Ctx.fn c (t__law_jmeet KX G S) (va_cons (VL.Ctx.fn c (t__law_jcells KX G S) (va_cons (ve_ix ix_seq og_ix (VL.Ctx.var c 0) (VL.Ctx.var c 6) (fun _ _ => rfl)) (va_cons ve_bl va_nil))) (va_cons (VL.Ctx.var c 3) va_nil)))) (vss_one (vs_ret (VL.Ctx.var c 9)))
  vss_nil)
  (vss_one (vs_if (L2.PW.pt (vw_and (vt_cmp (VL.Ctx.oEq c) og_eq (VL.Ctx.var c 2) ve_str (nomark _)) (vw_and1 (vt_tru (VL.Ctx.fn c (t__law_jmeet KX G S) (va_cons (VL.Ctx.fn c (t__law_jcells KX G S) (va_cons (ve_ix ix_seq og_ix (VL.Ctx.var c 0) (VL.Ctx.var c 6) (fun _ _ => rfl)) (va_cons ve_bl va_nil))) (va_cons (VL.Ctx.var c 3) va_nil))))))) (vss_one (vs_ret (VL.Ctx.var c 9)))
  vss_nil))))
  (vss_cons (VL.Ctx.set c 7 (ve_ofL (VL.Ctx.lc c [("j", 6)] (vi_seq (VL.Ctx.var c 5)) (fun c' => (VL.Ctx.target c' 6)) (fun c' => (vts_one (L2.PW.pt (vw_and (vt_cmp (VL.Ctx.oNi c') og_ni (VL.Ctx.var c' 6) (VL.Ctx.var c' 8) rfl) (vw_and1 (vt_cmp op_gt og_gt (VL.Ctx.len c' (He.free_ok KX G (S.fact 1 (f := .fa (.free "len")) rfl)) (va_cons (ve_ofL (VL.Ctx.lc c' [("k", 10)] (vi_seq (VL.Ctx.var c' 7)) (fun c'' => (VL.Ctx.target c'' 10)) (fun c'' => (vts_one (vt_tru (VL.Ctx.fn c'' (t__law_jclash KX G S) (va_cons (ve_ix ix_seq og_ix (VL.Ctx.var c'' 0) (VL.Ctx.var c'' 10) (fun _ _ => rfl)) (va_cons (ve_ix ix_seq og_ix (VL.Ctx.var c'' 0) (VL.Ctx.var c'' 6) (fun _ _ => rfl)) va_nil)))))) (fun c'' => (VL.Ctx.var c'' 10)))) va_nil)) ve_int (nomark _))))))) (fun c' => (VL.Ctx.var c' 6)))) (hs := VL.Ctx.swF c))
  (vss_one (VL.Ctx.set c 8 (ve_bin op_addAny og_add (VL.Ctx.var c 8) (VL.Ctx.var c 7)))))))
  (vss_one (vs_ret ve_int))))))))))) rfl (He.glo_ok KX G (S.fact 82 (f := .fa (.glo "_law_jchain")) rfl))
theorem t__law_is_due : CallOk P w K mg base "_law_is_due" 4 g__law_is_due := Kd.call (k := 3) (S.def_ 43 (d := k__law_is_due) rfl) rfl s__law_is_due (fun _ _ _ _ _ _ us hl => match us, hl with | [_], _ => rfl) (fun {_} {_} c hp hfr => (show VSs _ _ k__law_is_due.body b__law_is_due from
  (vss_one (vs_ret (ve_cmp (VL.Ctx.oEq c) og_eq (VL.Ctx.len c (He.free_ok KX G (S.fact 1 (f := .fa (.free "len")) rfl)) (va_cons (ve_ofL (VL.Ctx.lc c [("j", 1)] (VL.Ctx.rng1 c (He.free_ok KX G (S.fact 3 (f := .fa (.free "range")) rfl)) (va_cons (VL.Ctx.len c (He.free_ok KX G (S.fact 1 (f := .fa (.free "len")) rfl)) (va_cons (VL.Ctx.var c 0) va_nil)) va_nil)) (fun c' => (VL.Ctx.target c' 1)) (fun c' => (vts_one (vt_cmp op_gt og_gt (VL.Ctx.fn c' (t__law_jchain KX G S) (va_cons (VL.Ctx.var c' 0) (va_cons (VL.Ctx.var c' 1) (va_cons ve_str va_nil)))) ve_int (nomark _)))) (fun c' => (VL.Ctx.var c' 1)))) va_nil)) ve_int (nomark _)))))) rfl (He.glo_ok KX G (S.fact 83 (f := .fa (.glo "_law_is_due")) rfl))
theorem t__law_longer : CallOk P w K mg base "_law_longer" 1 g__law_longer := Kd.call (k := 0) (S.def_ 44 (d := k__law_longer) rfl) rfl s__law_longer (fun _ _ _ _ _ _ us hl => match us, hl with | [_, _], _ => rfl) (fun {_} {_} c hp hfr => (show VSs _ _ k__law_longer.body b__law_longer from
  (vss_cons (VL.Ctx.setM c 2 (vl_lst va_nil))
  (vss_cons (VL.Ctx.for_ c hp (vi_seq (VL.Ctx.var c 0)) (VL.Ctx.target c 3) (vss_cons (VL.Ctx.set c 4 ve_int)
  (vss_cons (vs_if (vt_cmp op_gt og_gt (VL.Ctx.len c (He.free_ok KX G (S.fact 1 (f := .fa (.free "len")) rfl)) (va_cons (VL.Ctx.var c 3) va_nil)) ve_int (nomark _)) (vss_one (VL.Ctx.set c 4 (ve_bin op_addAny og_add (ve_ix ix_seq og_ix (VL.Ctx.var c 3) (ve_neg ve_int) (fun _ _ => rfl)) ve_int)))
  vss_nil)
  (vss_one (VL.Ctx.for_ c hp (VL.Ctx.rng2 c (He.free_ok KX G (S.fact 3 (f := .fa (.free "range")) rfl)) (va_cons (VL.Ctx.var c 4) (va_cons (VL.Ctx.var c 1) va_nil))) (VL.Ctx.target c 5) (vss_one (vs_drop (ve_append (VL.Ctx.var c 2) (va_cons (ve_bin op_addAny og_add (VL.Ctx.var c 3) (ve_ofL (vl_lst (va_cons (VL.Ctx.var c 5) va_nil)))) va_nil)))))))))
  (vss_one (vs_ret (VL.Ctx.var c 2))))))) rfl (He.glo_ok KX G (S.fact 84 (f := .fa (.glo "_law_longer")) rfl))
theorem t__law_fewest : CallOk P w K mg base "_law_fewest" 5 g__law_fewest := Kd.call (k := 4) (S.def_ 45 (d := k__law_fewest) rfl) rfl s__law_fewest (fun _ _ _ _ _ _ us hl => match us, hl with | [_, _, _], _ => rfl) (fun {_} {_} c hp hfr => (show VSs _ _ k__law_fewest.body b__law_fewest from
  (vss_cons (VL.Ctx.set c 3 (ve_ofL (vl_lst (va_cons (ve_ofL (vl_lst va_nil)) va_nil))))
  (vss_cons (VL.Ctx.for_ c hp (VL.Ctx.rng1 c (He.free_ok KX G (S.fact 3 (f := .fa (.free "range")) rfl)) (va_cons (ve_bin op_addAny og_add (VL.Ctx.len c (He.free_ok KX G (S.fact 1 (f := .fa (.free "len")) rfl)) (va_cons (VL.Ctx.var c 2) va_nil)) ve_int) va_nil)) (VL.Ctx.target c 4) (vss_cons (VL.Ctx.for_ c hp (vi_seq (VL.Ctx.var c 3)) (VL.Ctx.target c 5) (vss_one (vs_if (vt_tru (VL.Ctx.fn c (t__law_is_due KX G S) (va_cons (VL.Ctx.fn c (t__law_with KX G S) (va_cons (VL.Ctx.var c 0) (va_cons (VL.Ctx.var c 1) (va_cons (ve_ofL (VL.Ctx.lc c [("k", 6)] (vi_seq (VL.Ctx.var c 5)) (fun c' => (VL.Ctx.target c' 6)) (fun c' => vts_nil) (fun c' => (ve_ix ix_seq og_ix (VL.Ctx.var c' 2) (VL.Ctx.var c' 6) (fun _ _ => rfl))))) va_nil)))) va_nil))) (vss_one (vs_ret (ve_ofL (VL.Ctx.lc c [("k", 6)] (vi_seq (VL.Ctx.var c 5)) (fun c' => (VL.Ctx.target c' 6)) (fun c' => vts_nil) (fun c' => (ve_ix ix_seq og_ix (VL.Ctx.var c' 2) (VL.Ctx.var c' 6) (fun _ _ => rfl)))))))
  vss_nil)))
  (vss_one (VL.Ctx.set c 3 (VL.Ctx.fn c (t__law_longer KX G S) (va_cons (VL.Ctx.var c 3) (va_cons (VL.Ctx.len c (He.free_ok KX G (S.fact 1 (f := .fa (.free "len")) rfl)) (va_cons (VL.Ctx.var c 2) va_nil)) va_nil)))))))
  (vss_one (vs_ret (ve_ofL (VL.Ctx.list c (He.free_ok KX G (S.fact 0 (f := .fa (.free "list")) rfl)) (va_cons (VL.Ctx.var c 2) va_nil))))))))) rfl (He.glo_ok KX G (S.fact 85 (f := .fa (.glo "_law_fewest")) rfl))
theorem t__law_refused : CallOk P w K mg base "_law_refused" 10 g__law_refused := Kd.call (k := 9) (S.def_ 46 (d := k__law_refused) rfl) rfl s__law_refused (fun _ _ _ _ _ _ us hl => match us, hl with | [_], _ => rfl) (fun {_} {_} c hp hfr => (show VSs _ _ k__law_refused.body b__law_refused from
  (vss_cons (VL.Ctx.tryRetF (i := 1) c hfr rfl (tx_TooLarge KX G S).gC (tx_TooLarge KX G S).xf (He.noat_ok (S.fact 38 (f := .fa (.noat "TooLarge" "most")) rfl)) (sub_of (l := [(("TooLarge" : Str), true)]) (all_cons (p := fun q => PySem.W.exmOne K (.ref (He.ga K q.1)) (.ref (He.ga K "TooLarge")) = some q.2) (a := (("TooLarge" : Str), true)) (He.exm_ok (x := "TooLarge") (y := "TooLarge") (b := true) (S.fact 37 (f := .fa (.exm "TooLarge" "TooLarge" true)) rfl)) all_nil)) (only_of (by decide +kernel)) (fun {_} {_} c hp hfr =>
    (vss_one (vs_drop (VL.Ctx.fn c (t_fewest_guards KX G S) (va_cons (VL.Ctx.var c 0) va_nil))))))
  (vss_one (vs_ret ve_non))))) rfl (He.glo_ok KX G (S.fact 86 (f := .fa (.glo "_law_refused")) rfl))
end
section
variable {P : Program} {w : World} {K : PySem.W.Frag} {h : Heap}
variable (KX : K.In h) (S : SaysP P file fa fn K)
include KX S
theorem t_law {mg : Str → Option Value} {f : Addr} (G : h.Ns mainGlobals mg) (hfa : mg "law" = some (.ref f)) : ∃ fd, (∀ base : Heap, FnOk P w K mg base (L2.CX P w) 11 f fd ["script"] (spV K 1 g_law)) ∧ ∀ (s : Shared) (us : List Value), us.length = 1 → BindsTo s fd ⟨us, []⟩ ((["script"] : List Str).zip us) := by
  have e := hfa.symm.trans (He.glo_ok KX G (S.fact 87 (f := .fa (.glo "law")) rfl))
  cases e
  exact Kd.runsA (k := 10) (S.def_ 47 (d := k_law) rfl) rfl s_law (fun _ _ _ _ _ _ us hl => match us, hl with | [_], _ => rfl) (fun base => (fun {_} {_} c hp hfr => (show VSs _ _ k_law.body b_law from
  (vss_cons (VL.Ctx.setM c 1 (VL.Ctx.fnL c (t__law_state KX G S) (va_cons (VL.Ctx.var c 0) va_nil)))
  (vss_cons (VL.Ctx.set c 2 (VL.Ctx.fn c (t__law_names KX G S) (va_cons (VL.Ctx.var c 1) (va_cons ve_int va_nil))))
  (vss_cons (VL.Ctx.set c 3 (ve_slice (VL.Ctx.var c 2) (vo_some ve_int) (vo_some (ve_bin op_addAny og_add ve_int (VL.Ctx.fn c (t__law_many KX G S) (va_cons (VL.Ctx.var c 1) (va_cons ve_int va_nil)))))))
  (vss_cons (VL.Ctx.set c 4 (ve_bin op_addAny og_add ve_int (VL.Ctx.fn c (t__law_draw KX G S) (va_cons (VL.Ctx.var c 1) (va_cons ve_int va_nil)))))
  (vss_cons (VL.Ctx.set c 5 (VL.Ctx.fn c (t__law_job_rows KX G S) (va_cons (VL.Ctx.var c 1) (va_cons (VL.Ctx.var c 3) (va_cons (VL.Ctx.var c 4) (va_cons (VL.Ctx.fn c (t__law_pick KX G S) (va_cons (VL.Ctx.var c 1) (va_cons (ve_ofL (vl_lst (va_cons ve_int (va_cons ve_int (va_cons ve_int (va_cons ve_int va_nil)))))) va_nil))) (va_cons (VL.Ctx.fn c (t__law_pick KX G S) (va_cons (VL.Ctx.var c 1) (va_cons (ve_ofL (vl_lst (va_cons ve_int (va_cons ve_int (va_cons ve_int va_nil))))) va_nil))) va_nil)))))))
  (vss_cons (VL.Ctx.set c 6 (VL.Ctx.fn c (t__law_open KX G S) (va_cons (VL.Ctx.var c 2) (va_cons (VL.Ctx.var c 5) va_nil))))
  (vss_cons (VL.Ctx.set c 7 (VL.Ctx.fn c (t__law_job_book KX G S) (va_cons (VL.Ctx.var c 2) (va_cons (VL.Ctx.var c 5) va_nil))))
  (vss_cons (vs_if (vt_not (vt_tru (VL.Ctx.fn c (t__law_same KX G S) (va_cons (VL.Ctx.fn c (t_open_reads KX G S) (va_cons (VL.Ctx.var c 7) va_nil)) (va_cons (VL.Ctx.var c 6) va_nil))))) (vss_one (vs_ret ve_bl))
  vss_nil)
  (vss_cons (VL.Ctx.set c 8 (VL.Ctx.fn c (t__law_some KX G S) (va_cons (VL.Ctx.var c 1) (va_cons (VL.Ctx.var c 6) (va_cons ve_int va_nil)))))
  (vss_cons (VL.Ctx.set c 9 (VL.Ctx.fn c (t_guarded KX G S) (va_cons (VL.Ctx.var c 7) (va_cons (VL.Ctx.var c 8) va_nil))))
  (vss_cons (vs_if (L2.PW.pt (vw_or (vt_not (vt_tru (VL.Ctx.isi c (He.free_ok KX G (S.fact 23 (f := .fa (.free "isinstance")) rfl)) (VL.Ctx.var c 9) (VL.Ctx.cls c (He.glo_ok KX G (S.fact 13 (f := .fa (.glo "JobBook")) rfl))) (.own _) (isi_cls (kitn_ok (S.fact 29 (f := .kitn "JobBook") rfl)) (all_cons (p := fun q => C8.InsC K (He.ga K q.1) ∧ PySem.W.kitOne K (.ref (He.ga K q.1)) (.ref (He.ga K "JobBook")) = some q.2) (a := (("JobBook" : Str), true)) ⟨insc_ok (S.fact 27 (f := .insc "JobBook") rfl), kitcc_ok (S.fact 28 (f := .kitcc "JobBook" "JobBook" true) rfl)⟩ all_nil))))) (vw_or1 (vt_not (vt_tru (VL.Ctx.fn c (t__law_same KX G S) (va_cons (ve_ofL (VL.Ctx.lc c [("job", 10)] (VL.Ctx.own (j := 1) c (VL.Ctx.var c 9) (all_cons (p := fun q => IterOk P w K mg base 1 q.1 q.2) (a := (("JobBook" : Str), ("listed" : Str))) (t_iter_JobBook KX G S) all_nil)) (fun c' => (VL.Ctx.target c' 10)) (fun c' => vts_nil) (fun c' => (VL.Ctx.att c' 0 (VL.Ctx.var c' 10) (all_cons (p := fun c => FldOk K "name" c) (a := "Job") ⟨He.cls_ok (S.fact 8 (f := .fa (.cls "Job")) rfl), He.noat_ok (S.fact 9 (f := .fa (.noat "Job" "name")) rfl)⟩ all_nil) all_nil)))) (va_cons (ve_slice (VL.Ctx.var c 2) vo_none (vo_some (VL.Ctx.len c (He.free_ok KX G (S.fact 1 (f := .fa (.free "len")) rfl)) (va_cons (VL.Ctx.var c 5) va_nil)))) va_nil)))))))) (vss_one (vs_ret ve_bl))
  vss_nil)
  (vss_cons (vs_if (vt_not (vt_tru (VL.Ctx.fn c (t__law_same KX G S) (va_cons (ve_ofL (VL.Ctx.lc c [("job", 10)] (VL.Ctx.own (j := 1) c (VL.Ctx.var c 9) (all_cons (p := fun q => IterOk P w K mg base 1 q.1 q.2) (a := (("JobBook" : Str), ("listed" : Str))) (t_iter_JobBook KX G S) all_nil)) (fun c' => (VL.Ctx.target c' 10)) (fun c' => vts_nil) (fun c' => (ve_ofL (VL.Ctx.list c' (He.free_ok KX G (S.fact 0 (f := .fa (.free "list")) rfl)) (va_cons (VL.Ctx.att c' 0 (VL.Ctx.var c' 10) (all_cons (p := fun c => FldOk K "steps" c) (a := "Job") ⟨He.cls_ok (S.fact 8 (f := .fa (.cls "Job")) rfl), He.noat_ok (S.fact 22 (f := .fa (.noat "Job" "steps")) rfl)⟩ all_nil) all_nil) va_nil)))))) (va_cons (VL.Ctx.fn c (t__law_with KX G S) (va_cons (VL.Ctx.var c 2) (va_cons (VL.Ctx.var c 5) (va_cons (VL.Ctx.var c 8) va_nil)))) va_nil))))) (vss_one (vs_ret ve_bl))
  vss_nil)
  (vss_cons (VL.Ctx.setLcV c 11 [("k", 12)] (VL.Ctx.rng1 c (He.free_ok KX G (S.fact 3 (f := .fa (.free "range")) rfl)) (va_cons ve_int va_nil)) (fun c' => (VL.Ctx.target c' 12)) (fun c' => vts_nil) (fun c' => (ve_tup (va_cons ve_str (va_cons (ve_ix ix_seq og_ix (VL.Ctx.var c' 3) ve_int (fun _ _ => rfl)) (va_cons (VL.Ctx.var c' 12) va_nil))))))
  (vss_cons (VL.Ctx.set c 13 ve_int)
  (vss_cons (vs_if (vt_cmp op_lt og_lt (VL.Ctx.len c (He.free_ok KX G (S.fact 1 (f := .fa (.free "len")) rfl)) (va_cons (VL.Ctx.var c 6) va_nil)) ve_int (nomark _)) (vss_cons (VL.Ctx.set c 14 (VL.Ctx.fn c (t_fewest_guards KX G S) (va_cons (VL.Ctx.var c 7) va_nil)))
  (vss_one (vs_if (L2.PW.pt (vw_or (vt_not (vt_tru (VL.Ctx.fn c (t__law_same KX G S) (va_cons (VL.Ctx.var c 14) (va_cons (VL.Ctx.fn c (t__law_fewest KX G S) (va_cons (VL.Ctx.var c 2) (va_cons (VL.Ctx.var c 5) (va_cons (VL.Ctx.var c 6) va_nil)))) va_nil))))) (vw_or1 (vt_cmp op_isNV og_isN (VL.Ctx.fn c (t_is_robust KX G S) (va_cons (VL.Ctx.fn c (t_guarded KX G S) (va_cons (VL.Ctx.var c 7) (va_cons (VL.Ctx.var c 14) va_nil))) (va_cons ve_str va_nil))) ve_bl (nomark _))))) (vss_one (vs_ret ve_bl))
  vss_nil)))
  vss_nil)
  (vss_cons (VL.Ctx.set c 14 (ve_ofL (vl_lst (va_cons (VL.Ctx.fn c (t__law_refused KX G S) (va_cons (ve_frz (VL.Ctx.make c (t_JobBook___init__ KX G S) (va_cons (ve_ofL (VL.Ctx.makeM c (t_Job___init__ KX G S) (va_cons (ve_ix ix_seq og_ix (VL.Ctx.var c 2) ve_int (fun _ _ => rfl)) (va_cons (VL.Ctx.var c 11) va_nil)))) va_nil))) va_nil)) (va_cons (VL.Ctx.fn c (t__law_refused KX G S) (va_cons (ve_frz (VL.Ctx.make c (t_JobBook___init__ KX G S) (va_cons (ve_ofL (VL.Ctx.makeM c (t_Job___init__ KX G S) (va_cons (ve_ix ix_seq og_ix (VL.Ctx.var c 2) ve_int (fun _ _ => rfl)) (va_cons (ve_slice (VL.Ctx.var c 11) vo_none (vo_some ve_int)) va_nil)))) va_nil))) va_nil)) va_nil)))))
  (vss_one (vs_ret (ve_and (VL.Ctx.fn c (t__law_same KX G S) (va_cons (VL.Ctx.var c 14) (va_cons (ve_ofL (vl_lst (va_cons (VL.Ctx.var c 13) (va_cons ve_non va_nil)))) va_nil))) (ve_one (VL.Ctx.fn c (t__law_same KX G S) (va_cons (VL.Ctx.fn c (t_open_reads KX G S) (va_cons (VL.Ctx.var c 7) va_nil)) (va_cons (VL.Ctx.var c 6) va_nil))))))))))))))))))))))))))
theorem facts {mg : Str → Option Value} {f : Addr} (G : h.Ns mainGlobals mg) (hfa : mg "law" = some (.ref f)) : ∃ fd : FuncData, (∀ (s : Shared) (u : Value), BindsTo s fd ⟨[u], []⟩ [(("script" : Str), u)]) ∧ ∀ base : Heap, K.In base → base.Ns mainGlobals mg → FnOk P w K mg base (L2.CX P w) 11 f fd ["script"] (spV K 1 g_law) := by
  obtain ⟨fd, h1, h2⟩ := t_law KX S G hfa
  exact ⟨fd, fun s u => h2 s [u] rfl, fun base _ _ => h1 base⟩
end
end K94
set_option maxRecDepth 100000
set_option maxHeartbeats 2000000

namespace K94
open PySem PySem.Spec PyProof.Rows L2 VL
structure St where
  sc : List Int
  pos : Nat
  v : Int
  m : Int
  c : Int
def St.d (s : St) : D := .lst [.lst (s.sc.map .int), .int s.pos, .int s.v, .int s.m, .int s.c]
theorem pow18 : gPow (.int 10) (.int 18) = some (.int (10 ^ 18)) := by rfl
theorem mod_le (a n : Int) (hn : 0 < n) : 0 ≤ a % n ∧ a % n < n := ⟨Int.emod_nonneg _ (by omega), Int.emod_lt_of_pos _ hn⟩
theorem atI_int {sc : List Int} {k : Nat} (h : k < sc.length) : atI (sc.map D.int) (k : Int) = some (.int sc[k]) := atI_at (by simp [h])
def mixF (v c : Int) : Int :=
  let first := (v * 48271 + c * 69621) % 2147483647
  let second := (first * first + c * 40692 + 3) % 2147483399
  (second * 16807 + first) % 2147483029
def drawT (s : St) (n : Int) : Int × St :=
  if s.m = 1 then (s.v % n, ⟨s.sc, s.pos, s.v / n, if s.v / n = 0 ∨ 60 ≤ s.c + 1 then 0 else 1, s.c + 1⟩)
  else (mixF s.v (s.c + 1) % n, ⟨s.sc, s.pos, s.v, if 8 ≤ s.c + 1 then 0 else s.m, s.c + 1⟩)
def drawF (s : St) (n : Int) : Int × St :=
  if s.m = 0 then (if h : s.pos < s.sc.length then drawT ⟨s.sc, s.pos + 1, s.sc[s.pos], if s.sc[s.pos] < 10 ^ 18 then 2 else 1, 0⟩ n else (0, s))
  else drawT s n
theorem drawT_le (s : St) (n : Int) (hn : 0 < n) : 0 ≤ (drawT s n).1 ∧ (drawT s n).1 < n := by
  unfold drawT
  split <;> exact mod_le _ _ hn
theorem drawF_le (s : St) (n : Int) (hn : 0 < n) : 0 ≤ (drawF s n).1 ∧ (drawF s n).1 < n := by
  unfold drawF
  split
  · split
    · exact drawT_le _ _ hn
    · exact ⟨Int.le_refl _, hn⟩
  · exact drawT_le _ _ hn
theorem draw (s : St) (n : Int) (hn : 0 < n) (h2 : n.natAbs.log2 < 9000) (h : Hs) : g__law_draw [.m true s.d, .v (.int n)] h = .ok (.v (.int (drawF s n).1)) [.m true (drawF s n).2.d, .v (.int n)] h := by
  obtain ⟨sc, pos, v, m, c⟩ := s
  have m1 : ∀ a : Int, gMul (.int a) (.int 48271) = some (.int (a * 48271)) := fun a => gMul_int (.inr (by decide))
  have m2 : ∀ a : Int, gMul (.int a) (.int 69621) = some (.int (a * 69621)) := fun a => gMul_int (.inr (by decide))
  have m3 : ∀ a : Int, gMul (.int a) (.int 40692) = some (.int (a * 40692)) := fun a => gMul_int (.inr (by decide))
  have m4 : ∀ a : Int, gMul (.int a) (.int 16807) = some (.int (a * 16807)) := fun a => gMul_int (.inr (by decide))
  have r1 : ∀ a : Int, gMod (.int a) (.int 2147483647) = some (.int (a % 2147483647)) := fun a => gMod_int (by decide)
  have r2 : ∀ a : Int, gMod (.int a) (.int 2147483399) = some (.int (a % 2147483399)) := fun a => gMod_int (by decide)
  have r3 : ∀ a : Int, gMod (.int a) (.int 2147483029) = some (.int (a % 2147483029)) := fun a => gMod_int (by decide)
  have sq : ∀ a : Int, gMul (.int (a % 2147483647)) (.int (a % 2147483647)) = some (.int ((a % 2147483647) * (a % 2147483647))) := fun a => gMul_int (.inl (by have := mod_le a 2147483647 (by decide); omega))
  have pw : gPow (.int 10) (.int 18) = some (.int (10 ^ 18)) := by rfl
  have rn : ∀ a : Int, gMod (.int a) (.int n) = some (.int (a % n)) := fun a => gMod_int hn
  have dn : ∀ a : Int, gDiv (.int a) (.int n) = some (.int (a / n)) := fun a => gDiv_int hn h2
  unfold g__law_draw
  rw [ap_run]
  unfold b__law_draw St.d drawF drawT
  by_cases e0 : m = 0
  · subst e0
    by_cases e1 : pos < sc.length
    · have e1' : ¬ ((sc.length : Int) ≤ pos) := by omega
      by_cases e2 : sc[pos] < 1000000000000000000
      · by_cases e3 : 8 ≤ (0 : Int) + 1 <;>
        simp [ixN, e1, e1', e2, e3, atI_int e1, m1, m2, m3, m4, r1, r2, r3, sq, pw, rn, dn, outs, mixF]
      · by_cases e3 : sc[pos] / n = 0 <;> by_cases e4 : 60 ≤ (0 : Int) + 1 <;>
        simp [ixN, e1, e1', e2, e3, e4, atI_int e1, m1, m2, m3, m4, r1, r2, r3, sq, pw, rn, dn, outs, mixF]
    · have e1' : ((sc.length : Int) ≤ pos) := by omega
      simp [ixN, e1, e1', outs]
  · by_cases e1 : m = 1
    · subst e1
      by_cases e3 : v / n = 0 <;> by_cases e4 : 60 ≤ c + 1 <;>
        simp [ixN, e3, e4, m1, m2, m3, m4, r1, r2, r3, sq, pw, rn, dn, outs, mixF]
    · by_cases e4 : 8 ≤ c + 1 <;>
        simp [ixN, e0, e1, e4, m1, m2, m3, m4, r1, r2, r3, sq, pw, rn, dn, outs, mixF]

/-! ### names -/
def chr (sh k : Nat) : Nat := 97 + (sh + 7 * k) % 26
def nmS (sh sp k : Nat) : Str := match sp with
  | 0 => ⟨#[chr sh k, 122, 113]⟩
  | 1 => ⟨#[113, chr sh k, 113]⟩
  | _ => ⟨#[113, 122, chr sh k]⟩
theorem chr_lt (sh k : Nat) : chr sh k < 123 := by unfold chr; omega
theorem nmS_ok (sh sp k : Nat) : PyData.strOk (nmS sh sp k) = true := by
  have h := chr_lt sh k
  unfold nmS
  split <;> simp [PyData.strOk] <;> omega
def nmN (sh sp k : Nat) : Nm := ⟨nmS sh sp k, nmS_ok sh sp k⟩
def nms (sh sp n : Nat) : List Nm := (List.range n).map (nmN sh sp)
abbrev letS : Str := "abcdefghijklmnopqrstuvwxyz"
theorem let_at (k : Nat) (h : k < 26) : gIx (.str letS) (.int (k : Int)) = some (.str ⟨#[97 + k]⟩) := by
  have key : ∀ k : Nat, k < 26 → gIx (.str letS) (.int (k : Int)) = some (.str ⟨#[97 + k]⟩) := by
    intro k hk
    have : ∀ j : Fin 26, (atI letS.cps.toList (j.1 : Int)).map (fun c => (⟨#[c]⟩ : Str)) = some ⟨#[97 + j.1]⟩ := by decide +kernel
    have e := this ⟨k, hk⟩
    show (if letS.length ≤ sizeLine then (atI letS.cps.toList (k : Int)).map fun c => D.str ⟨#[c]⟩ else none) = _
    rw [if_pos (by rw [sizeLine_eq]; decide +kernel)]
    cases q : atI letS.cps.toList (k : Int) with
    | none => rw [q] at e; cases e
    | some c => rw [q] at e; simp at e ⊢; exact e
  exact key k h
theorem qz_cut : ∀ sp : Fin 3, ∀ c : Fin 26, gAdd (.str (L2.cutS "qz" none (some (sp.1 : Int)))) (.str ⟨#[97 + c.1]⟩) = some (.str (L2.cutS "qz" none (some (sp.1 : Int)) ++ (⟨#[97 + c.1]⟩ : Str))) ∧ gAdd (.str (L2.cutS "qz" none (some (sp.1 : Int)) ++ (⟨#[97 + c.1]⟩ : Str))) (.str (L2.cutS "zq" (some (sp.1 : Int)) none)) = some (.str (match sp.1 with
  | 0 => ⟨#[97 + c.1, 122, 113]⟩
  | 1 => ⟨#[113, 97 + c.1, 113]⟩
  | _ => ⟨#[113, 122, 97 + c.1]⟩)) := by
  intro sp c
  have h1 : (L2.cutS "qz" none (some (sp.1 : Int))).length + (⟨#[97 + c.1]⟩ : Str).length ≤ sizeLine := by
    rw [sizeLine_eq]; revert sp c; decide +kernel
  have h2 : (L2.cutS "qz" none (some (sp.1 : Int)) ++ (⟨#[97 + c.1]⟩ : Str)).length + (L2.cutS "zq" (some (sp.1 : Int)) none).length ≤ sizeLine := by
    rw [sizeLine_eq]; revert sp c; decide +kernel
  have h3 : (L2.cutS "qz" none (some (sp.1 : Int)) ++ (⟨#[97 + c.1]⟩ : Str)) ++ (L2.cutS "zq" (some (sp.1 : Int)) none) = (match sp.1 with
  | 0 => ⟨#[97 + c.1, 122, 113]⟩
  | 1 => ⟨#[113, 97 + c.1, 113]⟩
  | _ => ⟨#[113, 122, 97 + c.1]⟩) := by revert sp c; decide +kernel
  refine ⟨if_pos h1, ?_⟩
  rw [← h3]
  exact if_pos h2
theorem sz2 : sz (("qz" : Str).length) = true ∧ sz (("zq" : Str).length) = true := by constructor <;> exact szN (by decide +kernel)
theorem nms_s (sh sp k : Nat) : (nms sh sp (k + 1)).map Nm.d = (nms sh sp k).map Nm.d ++ [(nmN sh sp k).d] := by simp [nms, List.range_succ]
theorem names_ok (s : St) (n : Nat) (hn : n ≤ 1000) (h : Hs) : ∃ sh sp s', sh < 26 ∧ sp < 3 ∧ g__law_names [.m true s.d, .v (.int n)] h = .ok (.v (.lst ((nms sh sp n).map Nm.d))) [.m true (St.d s'), .v (.int n)] h := by
  have d26 := fun s h => draw s 26 (by decide) (by decide +kernel) h
  have d3 := fun s h => draw s 3 (by decide) (by decide +kernel) h
  have q1 := drawF_le s 26 (by decide)
  obtain ⟨sh, e1⟩ : ∃ sh : Nat, (drawF s 26).1 = sh := ⟨(drawF s 26).1.toNat, by omega⟩
  generalize hs1 : (drawF s 26).2 = s1 at *
  have q2 := drawF_le s1 3 (by decide)
  obtain ⟨sp, e2⟩ : ∃ sp : Nat, (drawF s1 3).1 = sp := ⟨(drawF s1 3).1.toNat, by omega⟩
  generalize hs2 : (drawF s1 3).2 = s2 at *
  rw [e1] at q1
  rw [e2] at q2
  have hsh : sh < 26 := by omega
  have hsp : sp < 3 := by omega
  refine ⟨sh, sp, s2, hsh, hsp, ?_⟩
  obtain ⟨l', h', e, x6, el, eh, ex⟩ := forL_range (g := gNm 6) (fb := lb__law_names_1) (l := [.m true s2.d, .v (.int n), .v (.str letS), .v (.int sh), .v (.int sp), .m false (.lst []), .e]) (h := h) (fun k l h' => ∃ x6, l = [.m true s2.d, .v (.int n), .v (.str letS), .v (.int sh), .v (.int sp), .m false (.lst ((nms sh sp k).map Nm.d)), x6] ∧ h' = h ∧ Jk x6) (fun k => D.int (k : Int)) n (fun k hk l h' ⟨x6, el, eh, ex⟩ => by
    subst el eh
    have hc : (sh + 7 * k) % 26 < 26 := by omega
    have q := qz_cut ⟨sp, hsp⟩ ⟨_, hc⟩
    have w : gIx (.str letS) (.int (((sh : Int) + 7 * k) % 26)) = some (.str ⟨#[97 + (sh + 7 * k) % 26]⟩) := by have := let_at _ hc; simpa using this
    have hm : gMul (.int 7) (.int (k : Int)) = some (.int (7 * k)) := gMul_int (.inl (by decide))
    have hr : gMod (.int ((sh : Int) + 7 * k)) (.int 26) = some (.int (((sh + 7 * k) % 26 : Nat) : Int)) := by rw [gMod_int (by decide)]; simp
    refine ⟨_, _, ?_, .v (.int k), rfl, rfl, Jk.v⟩
    have z := szN (n := k + 1) (by omega)
    have hl : (nms sh sp k).length = k := by simp [nms]
    rw [nms_s]
    rcases ex with rfl | ⟨d, rfl⟩ <;> simp [lb__law_names_1, slD, sz2, hm, hr, w, q, hl, z] <;> rfl) ⟨.e, rfl, rfl, Jk.e⟩
  subst el eh
  unfold g__law_names
  rw [ap_run]
  have z0 := szN (n := 0) (by omega)
  simp [b__law_names, d26, d3, e1, e2, hs1, hs2, z0, rng1_nat (show n ≤ 1000000 by omega), e]

theorem log_le {i : Int} (h : i.natAbs < 2 ^ 200) : i.natAbs.log2 < 9000 := by
  by_cases h0 : i.natAbs = 0
  · rw [h0]; decide
  · exact (Nat.log2_lt h0).mpr (Nat.lt_of_lt_of_le h (Nat.pow_le_pow_right (by decide) (by decide)))
/-- a draw below a whole number -/
theorem drawN (s : St) (m : Nat) (h1 : 0 < m) (hm : m < 2 ^ 200) : ∃ (k : Nat) (s' : St), k < m ∧ ∀ h, g__law_draw [.m true s.d, .v (.int (m : Int))] h = .ok (.v (.int (k : Int))) [.m true (St.d s'), .v (.int (m : Int))] h := by
  have q := drawF_le s (m : Int) (by omega)
  refine ⟨(drawF s m).1.toNat, (drawF s m).2, by omega, fun h => ?_⟩
  rw [draw s m (by omega) (log_le (by omega)) h, Int.toNat_of_nonneg q.1]
theorem many_ok (s : St) (m : Nat) (h1 : 1 ≤ m) (hm : m ≤ 100) (h : Hs) : ∃ (r : Nat) (s' : St), (1 ≤ r ∧ r ≤ m) ∧ g__law_many [.m true s.d, .v (.int (m : Int))] h = .ok (.v (.int (r : Int))) [.m true (St.d s'), .v (.int (m : Int))] h := by
  obtain ⟨k, s', hk, d⟩ := drawN s (m + 1) (by omega) (by omega)
  have d := d h
  rw [show ((m + 1 : Nat) : Int) = (m : Int) + 1 by omega] at d
  refine ⟨if k = 0 then m else m + 1 - k, s', ?_, ?_⟩
  · split <;> omega
  · by_cases hk : k = 0
    · subst hk
      simp [g__law_many, ap_run, b__law_many, d, bMax, bMin]
      (repeat' split) <;> omega
    · simp [g__law_many, ap_run, b__law_many, d, bMax, bMin, hk]
      (repeat' split) <;> omega
theorem pick_ok (s : St) (ds : List D) (h1 : 0 < ds.length) (hm : ds.length ≤ 1000000) : ∃ (k : Nat) (s' : St) (hk : k < ds.length), ∀ h, g__law_pick [.m true s.d, .v (.lst ds)] h = .ok (.v ds[k]) [.m true (St.d s'), .v (.lst ds)] h := by
  obtain ⟨k, s', hk, d⟩ := drawN s ds.length h1 (by omega)
  refine ⟨k, s', hk, fun h => ?_⟩
  have e : atI ds (k : Int) = some ds[k] := atI_at (by simp [hk])
  simp [g__law_pick, ap_run, b__law_pick, d, e]
theorem const_ok (s : St) : ∃ (c : Int) (s' : St), (-(10 ^ 30) ≤ c ∧ c ≤ 10 ^ 30) ∧ ∀ h, g__law_constant [.m true s.d] h = .ok (.v (.int c)) [.m true (St.d s')] h := by
  obtain ⟨k, s1, hk, d8⟩ := drawN s 8 (by omega) (by omega)
  obtain ⟨k7, s2, hk7, d7⟩ := drawN s1 7 (by omega) (by omega)
  obtain ⟨kb, s3, hkb, db⟩ := drawN s1 2000000000000000000000000000001 (by omega) (by decide)
  have p : gPow (.int 10) (.int 30) = some (.int 1000000000000000000000000000000) := by rfl
  have m : gMul (.int 2) (.int 1000000000000000000000000000000) = some (.int 2000000000000000000000000000000) := by rfl
  by_cases c : k < 7
  · refine ⟨(k7 : Int) - 2, s2, by omega, fun h => ?_⟩
    have d8 := d8 h
    have d7 := d7 h
    simp at d8 d7
    have c' : (k : Int) < 7 := by omega
    simp [g__law_constant, ap_run, b__law_constant, d8, d7, c']
  · refine ⟨(kb : Int) - 1000000000000000000000000000000, s3, by omega, fun h => ?_⟩
    have d8 := d8 h
    have db := db h
    simp at d8 db
    have c' : ¬ (k : Int) < 7 := by omega
    simp [g__law_constant, ap_run, b__law_constant, d8, db, c', p, m]
/-! ### steps -/
inductive Deed where
  | rd | ad | st
  deriving DecidableEq
def Deed.s : Deed → Str
  | .rd => "read"
  | .ad => "add"
  | .st => "set"
structure Stp where
  a : Deed
  f : Nm
  r : Int
  c : Int
def Stp.d (s : Stp) : D := .tup ([.str s.a.s, s.f.d, .int s.r] ++ if s.a = .rd then [] else [.int s.c])
def deeds : List D := [.str "read", .str "add", .str "set"]
theorem deed_at (k : Nat) (hk : k < deeds.length) : ∃ a : Deed, deeds[k] = .str a.s := by
  match k, hk with
  | 0, _ => exact ⟨.rd, rfl⟩
  | 1, _ => exact ⟨.ad, rfl⟩
  | 2, _ => exact ⟨.st, rfl⟩
structure StpOk (fields : List Nm) (rows : Nat) (s : Stp) : Prop where
  f : s.f ∈ fields
  r : 0 ≤ s.r ∧ s.r < rows
  c : -(10 ^ 30) ≤ s.c ∧ s.c ≤ 10 ^ 30
theorem deed_rd {a : Deed} : (a.s = "read") ↔ a = .rd := by cases a <;> simp [Deed.s] <;> decide +kernel
theorem steps_ok (s : St) (fields : List Nm) (rows many : Nat) (hf : 0 < fields.length) (hf2 : fields.length ≤ 1000) (hr : 0 < rows) (hr2 : rows ≤ 1000) (hm : many ≤ 1000) (h : Hs) : ∃ (s' : St) (ts : List Stp), ts.length = many ∧ (∀ t ∈ ts, StpOk fields rows t) ∧
    g__law_job_steps [.m true s.d, .v (.lst (fields.map Nm.d)), .v (.int (rows : Int)), .v (.int (many : Int))] h = .ok (.v (.lst (ts.map Stp.d))) [.m true (St.d s'), .v (.lst (fields.map Nm.d)), .v (.int (rows : Int)), .v (.int (many : Int))] h := by
  obtain ⟨l', h', e, s', ts, x5, x6, x7, el, eh, e5, e6, e7, hl, ht⟩ := forL_range (g := gNm 5) (fb := lb__law_job_steps_1) (l := [.m true s.d, .v (.lst (fields.map Nm.d)), .v (.int (rows : Int)), .v (.int (many : Int)), .m false (.lst []), .e, .e, .e]) (h := h)
    (fun k l h' => ∃ s' ts x5 x6 x7, l = [.m true (St.d s'), .v (.lst (fields.map Nm.d)), .v (.int (rows : Int)), .v (.int (many : Int)), .m false (.lst (ts.map Stp.d)), x5, x6, x7] ∧ h' = h ∧ Jk x5 ∧ Jk x6 ∧ Jk x7 ∧ ts.length = k ∧ ∀ t ∈ ts, StpOk fields rows t) (fun k => D.int (k : Int)) many
    (fun k hk l h' ⟨s', ts, x5, x6, x7, el, eh, e5, e6, e7, hl, ht⟩ => by
      subst el eh
      obtain ⟨i, s1, hi, p1⟩ := pick_ok s' deeds (by decide) (by decide)
      obtain ⟨a, ha⟩ := deed_at i hi
      obtain ⟨j, s2, hj, p2⟩ := pick_ok s1 (fields.map Nm.d) (by simpa using hf) (by simp; omega)
      obtain ⟨r, s3, hr1, p3⟩ := drawN s2 rows hr (by omega)
      obtain ⟨c, s4, hc, p4⟩ := const_ok s3
      rw [ha] at p1
      have hj2 : j < fields.length := by simpa using hj
      rw [show (fields.map Nm.d)[j] = (fields[j]).d by simp] at p2
      have z3 := szN (n := 3) (by omega)
      have z4 : 3 + 1 ≤ sizeLine := by rw [sizeLine_eq]; omega
      have z1 := szN (n := 1) (by omega)
      have zk := szN (n := ts.length + 1) (by omega)
      unfold deeds at p1
      by_cases ca : a = .rd
      · refine ⟨_, _, ?_, s3, ts ++ [⟨a, fields[j], r, 0⟩], .v (.int k), .v (.str a.s), .v (Stp.d ⟨a, fields[j], r, 0⟩), rfl, rfl, Jk.v, Jk.v, Jk.v, by simp [hl], fun t m => ?_⟩
        · subst ca
          rcases e5 with rfl | ⟨_, rfl⟩ <;> rcases e6 with rfl | ⟨_, rfl⟩ <;> rcases e7 with rfl | ⟨_, rfl⟩ <;>
          simp [lb__law_job_steps_1, p1, p2, p3, z3, zk, Stp.d, Deed.s]
        · rcases List.mem_append.mp m with m | m
          · exact ht t m
          · simp at m; subst m
            exact ⟨by simp, by dsimp only; omega, by dsimp only; omega⟩
      · refine ⟨_, _, ?_, s4, ts ++ [⟨a, fields[j], r, c⟩], .v (.int k), .v (.str a.s), .v (Stp.d ⟨a, fields[j], r, c⟩), rfl, rfl, Jk.v, Jk.v, Jk.v, by simp [hl], fun t m => ?_⟩
        · have cb : ¬ a.s = "read" := fun z => ca (deed_rd.mp z)
          rcases e5 with rfl | ⟨_, rfl⟩ <;> rcases e6 with rfl | ⟨_, rfl⟩ <;> rcases e7 with rfl | ⟨_, rfl⟩ <;>
          simp [lb__law_job_steps_1, p1, p2, p3, p4, z1, z3, z4, zk, Stp.d, ca, cb, gAdd]
        · rcases List.mem_append.mp m with m | m
          · exact ht t m
          · simp at m; subst m
            exact ⟨by simp, by dsimp only; omega, hc⟩) ⟨s, [], .e, .e, .e, rfl, rfl, Jk.e, Jk.e, Jk.e, rfl, fun t m => by cases m⟩
  subst el eh
  refine ⟨s', ts, hl, ht, ?_⟩
  have z0 := szN (n := 0) (by omega)
  simp [g__law_job_steps, ap_run, b__law_job_steps, z0, rng1_nat (show many ≤ 1000000 by omega), e]
end K94
set_option maxRecDepth 100000
set_option maxHeartbeats 2000000
namespace K94
open PySem PySem.Spec PyProof.Rows L2 VL
/-! ### names that is_name takes -/
abbrev RES : D := .tup [(.str "always"), (.str "never"), (.str "and"), (.str "or"), (.str "not"), (.str "when"), (.str "add"), (.str "set"), (.str "change"), (.str "tell"), (.str "refuse"), (.str "take"), (.str "look"), (.str "free"), (.str "lock"), (.str "keep"), (.str "keys"), (.str "fields")]
structure GNm (x : Str) : Prop where
  ne : ¬ x = ""
  len : x.length ≤ 12
  res : gIn (.str x) RES = some false
  let_ : ∀ c ∈ x.cps.toList, gIn (.str ⟨#[c]⟩) (.str "abcdefghijklmnopqrstuvwxyz") = some true
theorem is_name_ok {x : Str} (g : GNm x) (h : Hs) : g_is_name [.v (.str x)] h = .ok (.v (.bl true)) [.v (.str x)] h := by
  have ne := g.ne
  have z := szN (n := x.length) (by have := g.len; omega)
  have ln : ¬ (12 : Int) < (x.length : Int) := by have := g.len; omega
  obtain ⟨l', h', e, x1, el, eh, e1⟩ := forL_fold (g := gNm 1) (fb := lb_is_name_1) (fun (_ : Unit) l h' => ∃ x1, l = [.v (.str x), x1] ∧ h' = h ∧ Jk x1) (fun _ _ => ()) (fun c : Nat => D.str ⟨#[c]⟩) x.cps.toList () [.v (.str x), .e] h
    (fun _ c l h' m ⟨x1, el, eh, e1⟩ => by
      subst el eh
      refine ⟨_, _, ?_, .v (.str ⟨#[c]⟩), rfl, rfl, Jk.v⟩
      rcases e1 with rfl | ⟨_, rfl⟩ <;> simp [lb_is_name_1, g.let_ c m]) ⟨.e, rfl, rfl, Jk.e⟩
  subst el eh
  simp [g_is_name, ap_run, b_is_name, ne, bLen, z, ln, g.res, VL.signs, e]
theorem check_name_ok {x : Str} (g : GNm x) (h : Hs) : g_check_name [.v (.str x)] h = .ok (.v (.str x)) [.v (.str x)] h := by
  simp [g_check_name, ap_run, b_check_name, is_name_ok g]
theorem check_number_ok {i : Int} (g : -(10 ^ 30) ≤ i ∧ i ≤ 10 ^ 30) (h : Hs) : g_check_number [.v (.int i)] h = .ok (.v (.int i)) [.v (.int i)] h := by
  have h1 : ¬ (i < -1000000000000000000000000000000) := by omega
  have h2 : ¬ (1000000000000000000000000000000 < i) := by omega
  simp [g_check_number, ap_run, b_check_number, h1, h2]
/-- a step that Job takes -/
structure GStp (t : Stp) : Prop where
  f : GNm t.f.1
  r : 0 ≤ t.r ∧ t.r ≤ 10 ^ 30
  c : -(10 ^ 30) ≤ t.c ∧ t.c ≤ 10 ^ 30
theorem deed_in (a : Deed) : gIn (.str a.s) (.tup [(.str "read"), (.str "add"), (.str "set")]) = some true := by cases a <;> decide +kernel
theorem Stp.d_rd {f : Nm} {r c : Int} : Stp.d ⟨.rd, f, r, c⟩ = .tup [.str "read", f.d, .int r] := by simp [Stp.d, Deed.s]
theorem Stp.d_nr {a : Deed} {f : Nm} {r c : Int} (h : a ≠ .rd) : Stp.d ⟨a, f, r, c⟩ = .tup [.str a.s, f.d, .int r, .int c] := by simp [Stp.d, h]
theorem check_step_ok {t : Stp} (g : GStp t) (n : D) (h : Hs) : g_check_job_step [.v n, .v t.d] h = .ok (.v .non) [.v n, .v t.d] h := by
  obtain ⟨a, f, r, c⟩ := t
  have h1 : ¬ (r < 0) := by have := g.r; dsimp only at this; omega
  have h2 : ¬ (1000000000000000000000000000000 < r) := by have := g.r; dsimp only at this; omega
  have di := deed_in a
  have cn := fun h => check_name_ok g.f h
  have cm := fun h => check_number_ok g.c h
  dsimp only at cn cm
  by_cases e : a = .rd
  · subst e
    rw [Stp.d_rd]
    simp only [Deed.s] at di
    simp [g_check_job_step, ap_run, b_check_job_step, Nm.d, di, cn, h1, h2]
  · rw [Stp.d_nr e]
    have e2 : ¬ a.s = "read" := fun z => e (deed_rd.mp z)
    simp [g_check_job_step, ap_run, b_check_job_step, Nm.d, di, cn, cm, h1, h2, e2]
/-! ### jobs -/
abbrev Jb := Nm × List Stp
def Jb.d (j : Jb) : D := .ins "Job" ["name", "steps"] [j.1.d, .tup (j.2.map Stp.d)]
structure GJb (j : Jb) : Prop where
  n : GNm j.1.1
  len : j.2.length ≤ 12
  s : ∀ t ∈ j.2, GStp t
theorem bTup_d (t : Stp) : bTup [t.d] = some t.d := by unfold Stp.d; rfl
theorem job_init {j : Jb} (g : GJb j) (h : Hs) : g_Job___init__ [.m true (.ins "Job" [] []), .v j.1.d, .v (.lst (j.2.map Stp.d))] h = .ok (.v .non) [.m true j.d, .v j.1.d, .v (.lst (j.2.map Stp.d))] h := by
  obtain ⟨n, ts⟩ := j
  have ln : ¬ (12 : Int) < (ts.length : Int) := by have := g.len; dsimp only at this; omega
  have z := szN (n := ts.length) (by have := g.len; dsimp only at this; omega)
  obtain ⟨l', h', e, x1, el, eh, e1⟩ := forL_fold (g := gNm 3) (fb := lb_Job___init___1) (fun (_ : Unit) l h' => ∃ x1, l = [.m true (.ins "Job" [] []), .v n.d, .v (.lst (ts.map Stp.d)), x1] ∧ h' = h ∧ Jk x1) (fun _ _ => ()) Stp.d ts () [.m true (.ins "Job" [] []), .v n.d, .v (.lst (ts.map Stp.d)), .e] h
    (fun _ t l h' m ⟨x1, el, eh, e1⟩ => by
      subst el eh
      refine ⟨_, _, ?_, .v t.d, rfl, rfl, Jk.v⟩
      have c := fun h => check_step_ok (g.s t m) n.d h
      rcases e1 with rfl | ⟨_, rfl⟩ <;> simp [lb_Job___init___1, c]) ⟨.e, rfl, rfl, Jk.e⟩
  subst el eh
  have e3 : lcL (gNm 3) fYes ce_Job___init___2 [3] (ts.map Stp.d) [] [.m true (.ins "Job" ["name"] [n.d]), .v n.d, .v (.lst (ts.map Stp.d)), .e] h' = .ok ([] ++ ts.filterMap fun t => some t.d) [.m true (.ins "Job" ["name"] [n.d]), .v n.d, .v (.lst (ts.map Stp.d)), .e] h' :=
    lcL_map (fun t => some (Stp.d t)) Stp.d ts [] fun t m => by simp [ce_Job___init___2, bTup_d]
  have cn := fun h => check_name_ok g.n h
  dsimp only at cn
  simp only [Nm.d] at e e3
  rcases e1 with rfl | ⟨_, rfl⟩ <;>
  simp [g_Job___init__, ap_run, b_Job___init__, Nm.d, cn, ln, z, e, e3, Jb.d]
end K94
set_option maxRecDepth 100000
set_option maxHeartbeats 2000000
namespace K94
open PySem PySem.Spec PyProof.Rows L2 VL
/-! ### cells -/
abbrev Cl := Nm × Int
def Cl.d (c : Cl) : D := .tup [c.1.d, .int c.2]
theorem Cl.enc : Enc Cl.d := ⟨fun x y e => by
  obtain ⟨x1, x2⟩ := x
  obtain ⟨y1, y2⟩ := y
  simp only [Cl.d, D.tup.injEq, List.cons.injEq, and_true] at e
  rw [Nm.enc.inj _ _ e.1, D.int.inj e.2], fun x => by
  simp [Cl.d, VL.pd, Nm.d, x.1.2]⟩
def Stp.x (t : Stp) : List D := if t.a = .rd then [] else [.int t.c]
theorem Stp.d_c (t : Stp) : t.d = .tup (.str t.a.s :: t.f.d :: .int t.r :: t.x) := by simp [Stp.d, Stp.x]
def Stp.cl (t : Stp) : Cl := (t.f, t.r)
theorem deed_st {a : Deed} : (a.s = "set") ↔ a = .st := by cases a <;> simp [Deed.s]
def rdF (s : List Cl × List Cl) (t : Stp) : List Cl × List Cl := (s.1 ++ [t.cl], if t.a ≠ .st ∧ t.cl ∉ s.1 then s.2 ++ [t.cl] else s.2)
def wrF (s : List Cl) (t : Stp) : List Cl := if t.a ≠ .rd ∧ t.cl ∉ s then s ++ [t.cl] else s
/-- the cells read, written -/
def rc (ts : List Stp) : List Cl := (ts.foldl rdF ([], [])).2
def wc (ts : List Stp) : List Cl := ts.foldl wrF []
theorem rdF_len : ∀ (ts : List Stp) (s : List Cl × List Cl), (ts.foldl rdF s).1.length = s.1.length + ts.length ∧ (ts.foldl rdF s).2.length ≤ s.2.length + ts.length
  | [], s => by simp
  | t :: ts, s => by
    have := rdF_len ts (rdF s t)
    have e1 : (rdF s t).1.length = s.1.length + 1 := by simp [rdF]
    have e2 : (rdF s t).2.length ≤ s.2.length + 1 := by unfold rdF; dsimp only; split <;> simp
    simp only [List.foldl_cons, List.length_cons]
    omega
theorem wrF_len : ∀ (ts : List Stp) (s : List Cl), (ts.foldl wrF s).length ≤ s.length + ts.length
  | [], s => by simp
  | t :: ts, s => by
    have := wrF_len ts (wrF s t)
    have e2 : (wrF s t).length ≤ s.length + 1 := by unfold wrF; split <;> simp
    simp only [List.foldl_cons, List.length_cons]
    omega
theorem jcells_ok (ts : List Stp) (hl : ts.length ≤ 1000) (rd : Bool) (h : Hs) : g__law_jcells [.v (.lst (ts.map Stp.d)), .v (.bl rd)] h = .ok (.v (.lst ((if rd then rc ts else wc ts).map Cl.d))) [.v (.lst (ts.map Stp.d)), .v (.bl rd)] h := by
  have z0 := szN (n := 0) (by omega)
  have z2 := szN (n := 2) (by omega)
  cases rd with
  | true =>
    obtain ⟨l', h', e, x4, x5, el, eh, e4, e5, hk, hr⟩ := forL_foldI (g := gNm 4) (fb := lb__law_jcells_1) (fun k (s : List Cl × List Cl) l h' => ∃ x4 x5, l = [.v (.lst (ts.map Stp.d)), .v (.bl true), .m false (.lst (s.1.map Cl.d)), .m false (.lst (s.2.map Cl.d)), x4, x5] ∧ h' = h ∧ Jk x4 ∧ Jk x5 ∧ s.1.length = k ∧ s.2.length ≤ k) rdF Stp.d ts 0 ([], []) [.v (.lst (ts.map Stp.d)), .v (.bl true), .m false (.lst []), .m false (.lst []), .e, .e] h
      (fun k s t l h' _ hk m ⟨x4, x5, el, eh, e4, e5, hk1, hk2⟩ => by
        subst el eh
        have z1 := szN (n := s.1.length + 1) (by omega)
        have z3 := szN (n := s.2.length + 1) (by omega)
        have ci := Cl.enc.inL t.cl s.1
        have cd : Cl.d t.cl = .tup [t.f.d, .int t.r] := rfl
        rw [cd] at ci
        refine ⟨_, _, ?_, .v t.d, .v t.cl.d, rfl, rfl, Jk.v, Jk.v, ?_, ?_⟩
        · rcases e4 with rfl | ⟨_, rfl⟩ <;> rcases e5 with rfl | ⟨_, rfl⟩ <;>
          (by_cases c1 : t.a = .st <;> by_cases c2 : t.cl ∈ s.1 <;>
          simp [lb__law_jcells_1, Stp.d_c, z1, z2, z3, ci, cd, rdF, c1, c2, deed_st])
        · simp [rdF, hk1]
        · unfold rdF; dsimp only; split <;> (try simp) <;> omega) ⟨.e, .e, rfl, rfl, Jk.e, Jk.e, by simp, by simp⟩
    subst el eh
    simp [g__law_jcells, ap_run, b__law_jcells, z0, e, rc]
  | false =>
    obtain ⟨l', h', e, kn, x4, x5, el, eh, e4, e5, hk, hr⟩ := forL_foldI (g := gNm 4) (fb := lb__law_jcells_1) (fun k (s : List Cl) l h' => ∃ (kn : List Cl) (x4 x5 : Sl), l = [.v (.lst (ts.map Stp.d)), .v (.bl false), .m false (.lst (kn.map Cl.d)), .m false (.lst (s.map Cl.d)), x4, x5] ∧ h' = h ∧ Jk x4 ∧ Jk x5 ∧ kn.length = k ∧ s.length ≤ k) wrF Stp.d ts 0 [] [.v (.lst (ts.map Stp.d)), .v (.bl false), .m false (.lst []), .m false (.lst []), .e, .e] h
      (fun k s t l h' _ hk m ⟨kn, x4, x5, el, eh, e4, e5, hk1, hk2⟩ => by
        subst el eh
        have z1 := szN (n := kn.length + 1) (by omega)
        have z3 := szN (n := s.length + 1) (by omega)
        have ci := Cl.enc.inL t.cl s
        have cd : Cl.d t.cl = .tup [t.f.d, .int t.r] := rfl
        rw [cd] at ci
        refine ⟨_, _, ?_, kn ++ [t.cl], .v t.d, .v t.cl.d, rfl, rfl, Jk.v, Jk.v, ?_, ?_⟩
        · rcases e4 with rfl | ⟨_, rfl⟩ <;> rcases e5 with rfl | ⟨_, rfl⟩ <;>
          (by_cases c1 : t.a = .rd <;> by_cases c2 : t.cl ∈ s <;>
          simp [lb__law_jcells_1, Stp.d_c, z1, z2, z3, ci, cd, wrF, c1, c2, deed_rd])
        · simp [hk1]
        · unfold wrF; split <;> (try simp) <;> omega) ⟨[], .e, .e, rfl, rfl, Jk.e, Jk.e, by simp, by simp⟩
    subst el eh
    simp [g__law_jcells, ap_run, b__law_jcells, z0, e, wc]
theorem read_cells_ok (j : Jb) (hl : j.2.length ≤ 1000) (h : Hs) : g_Job_read_cells [.v j.d] h = .ok (.v (.tup ((rc j.2).map Cl.d))) [.v j.d] h := by
  obtain ⟨n, ts⟩ := j
  dsimp only at hl ⊢
  have z0 := szN (n := 0) (by omega)
  have z2 := szN (n := 2) (by omega)
  obtain ⟨l', h', e, x4, x5, el, eh, e4, e5, hk, hr⟩ := forL_foldI (g := gNm 3) (fb := lb_Job_read_cells_1) (fun k (s : List Cl × List Cl) l h' => ∃ x4 x5, l = [.v (Jb.d (n, ts)), .m false (.lst (s.1.map Cl.d)), .m false (.lst (s.2.map Cl.d)), x4, x5] ∧ h' = h ∧ Jk x4 ∧ Jk x5 ∧ s.1.length = k ∧ s.2.length ≤ k) rdF Stp.d ts 0 ([], []) [.v (Jb.d (n, ts)), .m false (.lst []), .m false (.lst []), .e, .e] h
      (fun k s t l h' _ hk m ⟨x4, x5, el, eh, e4, e5, hk1, hk2⟩ => by
        subst el eh
        have z1 := szN (n := s.1.length + 1) (by omega)
        have z3 := szN (n := s.2.length + 1) (by omega)
        have ci := Cl.enc.inL t.cl s.1
        have cd : Cl.d t.cl = .tup [t.f.d, .int t.r] := rfl
        rw [cd] at ci
        refine ⟨_, _, ?_, .v t.d, .v t.cl.d, rfl, rfl, Jk.v, Jk.v, ?_, ?_⟩
        · rcases e4 with rfl | ⟨_, rfl⟩ <;> rcases e5 with rfl | ⟨_, rfl⟩ <;>
          (by_cases c1 : t.a = .st <;> by_cases c2 : t.cl ∈ s.1 <;>
          simp [lb_Job_read_cells_1, Stp.d_c, z1, z2, z3, ci, cd, rdF, c1, c2, deed_st])
        · simp [rdF, hk1]
        · unfold rdF; dsimp only; split <;> (try simp) <;> omega) ⟨.e, .e, rfl, rfl, Jk.e, Jk.e, by simp, by simp⟩
  subst el eh
  simp only [Jb.d] at e
  simp [g_Job_read_cells, ap_run, b_Job_read_cells, z0, e, rc, Jb.d]
/-- each cell once -/
def dsF (s : List Cl) (c : Cl) : List Cl := if c ∉ s then s ++ [c] else s
theorem distinct_ok (cs : List Cl) (hl : cs.length ≤ 1000) (h : Hs) : g_distinct [.v (.lst (cs.map Cl.d))] h = .ok (.v (.tup ((cs.foldl dsF []).map Cl.d))) [.v (.lst (cs.map Cl.d))] h := by
  have z0 := szN (n := 0) (by omega)
  obtain ⟨l', h', e, x4, el, eh, e4, hk⟩ := forL_foldI (g := gNm 2) (fb := lb_distinct_1) (fun k (s : List Cl) l h' => ∃ x4, l = [.v (.lst (cs.map Cl.d)), .m false (.lst (s.map Cl.d)), x4] ∧ h' = h ∧ Jk x4 ∧ s.length ≤ k) dsF Cl.d cs 0 [] [.v (.lst (cs.map Cl.d)), .m false (.lst []), .e] h
      (fun k s c l h' _ hk m ⟨x4, el, eh, e4, hk1⟩ => by
        subst el eh
        have z1 := szN (n := s.length + 1) (by omega)
        have ci := Cl.enc.inL c s
        refine ⟨_, _, ?_, .v c.d, rfl, rfl, Jk.v, ?_⟩
        · rcases e4 with rfl | ⟨_, rfl⟩ <;>
          (by_cases c2 : c ∈ s <;> simp [lb_distinct_1, z1, ci, dsF, c2])
        · unfold dsF; split <;> (try simp) <;> omega) ⟨.e, rfl, rfl, Jk.e, by simp⟩
  subst el eh
  simp [g_distinct, ap_run, b_distinct, z0, e]
theorem wc_ds : ∀ (ts : List Stp) (s : List Cl), ts.foldl wrF s = (ts.filterMap fun t => if t.a ≠ .rd then some t.cl else none).foldl dsF s
  | [], s => rfl
  | t :: ts, s => by
    rw [List.foldl_cons, List.filterMap_cons, wc_ds ts]
    by_cases c : t.a = .rd
    · simp [wrF, c]
    · simp [wrF, dsF, c]
theorem written_cells_ok (j : Jb) (hl : j.2.length ≤ 1000) (h : Hs) : g_Job_written_cells [.v j.d] h = .ok (.v (.tup ((wc j.2).map Cl.d))) [.v j.d] h := by
  obtain ⟨n, ts⟩ := j
  dsimp only at hl ⊢
  have z := szN (n := ts.length) (by omega)
  have z2 := szN (n := 2) (by omega)
  have e3 : lcL (gNm 1) ct_Job_written_cells_1 ce_Job_written_cells_2 [1] (ts.map Stp.d) [] [.v (Jb.d (n, ts)), .e] h = .ok ([] ++ ts.filterMap fun t => (if t.a ≠ .rd then some t.cl else none).map Cl.d) [.v (Jb.d (n, ts)), .e] h :=
    lcL_map (fun t : Stp => (if t.a ≠ .rd then some t.cl else none).map Cl.d) Stp.d ts [] fun t m => by
      by_cases c : t.a = .rd <;> simp [ct_Job_written_cells_1, ce_Job_written_cells_2, Stp.d_c, deed_rd, c, z2, Stp.cl, Cl.d]
  have e4 : (ts.filterMap fun t : Stp => (if t.a ≠ .rd then some t.cl else none).map Cl.d) = (ts.filterMap fun t : Stp => if t.a ≠ .rd then some t.cl else none).map Cl.d := by rw [List.map_filterMap]
  have e5 := fun h => distinct_ok (ts.filterMap fun t : Stp => if t.a ≠ .rd then some t.cl else none) (Nat.le_trans (List.length_filterMap_le _ _) hl) h
  rw [← wc_ds] at e5
  rw [e4] at e3
  simp only [Jb.d] at e3
  simp [g_Job_written_cells, ap_run, b_Job_written_cells, Jb.d, z] at e3 e5 ⊢
  simp [e3, e5, wc]
end K94
set_option maxRecDepth 100000
set_option maxHeartbeats 2000000
namespace K94
open PySem PySem.Spec PyProof.Rows L2 VL
/-! ### open reads -/
abbrev Rd := Nm × Cl
def Rd.d (r : Rd) : D := .tup [r.1.d, r.2.d]
theorem Rd.enc : Enc Rd.d := ⟨fun x y e => by
  obtain ⟨x1, x2⟩ := x
  obtain ⟨y1, y2⟩ := y
  simp only [Rd.d, D.tup.injEq, List.cons.injEq, and_true] at e
  rw [Nm.enc.inj _ _ e.1, Cl.enc.inj _ _ e.2], fun x => by
  have h1 := Nm.enc.pd x.1
  have h2 : VL.pd 59 x.2.d = true := by simp [Cl.d, VL.pd, Nm.d, x.2.1.2]
  simp [Rd.d, VL.pd, Nm.d, x.1.2, h2]⟩
def openOf (j : Jb) : List Rd := (rc j.2).filterMap fun c => if c ∉ wc j.2 then some (j.1, c) else none
def openJ (js : List Jb) : List Rd := js.flatMap openOf
theorem rc_len (ts : List Stp) : (rc ts).length ≤ ts.length := by have := (rdF_len ts ([], [])).2; simpa [rc] using this
theorem wc_len (ts : List Stp) : (wc ts).length ≤ ts.length := by have := wrF_len ts []; simpa [wc] using this
theorem openOf_len (j : Jb) : (openOf j).length ≤ j.2.length := Nat.le_trans (List.length_filterMap_le _ _) (rc_len _)
theorem openJ_len (js : List Jb) (m : Nat) (h : ∀ j ∈ js, j.2.length ≤ m) : (openJ js).length ≤ m * js.length := by
  induction js with
  | nil => simp [openJ]
  | cons j js ih =>
    have h1 := openOf_len j
    have h2 := h j List.mem_cons_self
    have h3 := ih fun k m => h k (List.mem_cons_of_mem _ m)
    simp only [openJ, List.flatMap_cons, List.length_append, List.length_cons] at h3 ⊢
    rw [Nat.mul_succ]
    omega
def rowsD (js : List Jb) : D := .lst (js.map fun j => .lst (j.2.map Stp.d))
theorem rows_at {js : List Jb} {k : Nat} (hk : k < js.length) : atI (js.map fun j => D.lst (j.2.map Stp.d)) (k : Int) = some (.lst (js[k].2.map Stp.d)) := atI_at (by simp [hk])
theorem names_at {names : List Nm} {k : Nat} {n : Nm} (e : names[k]? = some n) : atI (names.map Nm.d) (k : Int) = some n.d := atI_at (by simp [e])
theorem law_open_ok (names : List Nm) (js : List Jb) (hj : js.length ≤ 100) (hs : ∀ j ∈ js, j.2.length ≤ 100) (hn : ∀ k (hk : k < js.length), names[k]? = some js[k].1) (h : Hs) :
    g__law_open [.v (.lst (names.map Nm.d)), .v (rowsD js)] h = .ok (.v (.lst ((openJ js).map Rd.d))) [.v (.lst (names.map Nm.d)), .v (rowsD js)] h := by
  have z0 := szN (n := 0) (by omega)
  have z2 := szN (n := 2) (by omega)
  obtain ⟨l', h', e, x3, x4, x5, el, eh, e3, e4, e5⟩ := forL_range (g := gNm 3) (fb := lb__law_open_3) (l := [.v (.lst (names.map Nm.d)), .v (rowsD js), .v (.lst []), .e, .e, .e]) (h := h)
    (fun k l h' => ∃ x3 x4 x5, l = [.v (.lst (names.map Nm.d)), .v (rowsD js), .v (.lst ((openJ (js.take k)).map Rd.d)), x3, x4, x5] ∧ h' = h ∧ Jk x3 ∧ Jk x4 ∧ x5 = .e) (fun k => D.int (k : Int)) js.length
    (fun k hk l h' ⟨x3, x4, x5, el, eh, e3, e4, e5⟩ => by
      subst el eh e5
      have hm : js[k] ∈ js := List.getElem_mem hk
      have hl := hs _ hm
      have j1 := fun h => jcells_ok js[k].2 (by omega) true h
      have j2 := fun h => jcells_ok js[k].2 (by omega) false h
      have zr := szN (n := (rc js[k].2).length) (by have := rc_len js[k].2; omega)
      have et : js.take (k + 1) = js.take k ++ [js[k]] := by rw [List.take_succ]; simp [hk]
      have eo : openJ (js.take (k + 1)) = openJ (js.take k) ++ openOf js[k] := by rw [openJ, et, List.flatMap_append]; simp [openJ]
      have lo := openJ_len (js.take k) 100 fun j m => hs j (List.mem_of_mem_take m)
      have lo2 := openOf_len js[k]
      have lt : (js.take k).length = k := by rw [List.length_take]; omega
      rw [lt] at lo
      have ga : gAdd (.lst ((openJ (js.take k)).map Rd.d)) (.lst ((openOf js[k]).map Rd.d)) = some (.lst ((openJ (js.take (k + 1))).map Rd.d)) := by
        rw [eo, List.map_append]
        exact if_pos (by rw [sizeLine_eq, List.length_map, List.length_map]; omega)
      have lc : ∀ l5 : Sl, lcL (gNm 5) ct__law_open_1 ce__law_open_2 [5] ((rc js[k].2).map Cl.d) [] [.v (.lst (names.map Nm.d)), .v (rowsD js), .v (.lst ((openJ (js.take k)).map Rd.d)), .v (.int k), .v (.lst ((wc js[k].2).map Cl.d)), .e] h' = .ok ((openOf js[k]).map Rd.d) [.v (.lst (names.map Nm.d)), .v (rowsD js), .v (.lst ((openJ (js.take k)).map Rd.d)), .v (.int k), .v (.lst ((wc js[k].2).map Cl.d)), .e] h' := fun _ => by
        have := lcL_map (g := gNm 5) (ft := ct__law_open_1) (fe := ce__law_open_2) (vs := [5]) (l := [.v (.lst (names.map Nm.d)), .v (rowsD js), .v (.lst ((openJ (js.take k)).map Rd.d)), .v (.int k), .v (.lst ((wc js[k].2).map Cl.d)), .e]) (h := h') (fun c => (if c ∉ wc js[k].2 then some (js[k].1, c) else none).map Rd.d) Cl.d (rc js[k].2) [] fun c m => by
          have ci := Cl.enc.inL c (wc js[k].2)
          by_cases q : c ∈ wc js[k].2 <;> simp [ct__law_open_1, ce__law_open_2, ci, q, names_at (hn k hk), z2, Rd.d]
        rw [this, List.nil_append]
        unfold openOf
        rw [List.map_filterMap]
      simp only [rowsD] at lc
      refine ⟨_, _, ?_, .v (.int k), .v (.lst ((wc js[k].2).map Cl.d)), .e, rfl, rfl, Jk.v, Jk.v, rfl⟩
      have lc := lc .e
      rcases e3 with rfl | ⟨_, rfl⟩ <;> rcases e4 with rfl | ⟨_, rfl⟩ <;>
      simp [lb__law_open_3, rowsD, rows_at hk, j1, j2, zr, lc, ga]) ⟨.e, .e, .e, by simp [openJ], rfl, Jk.e, Jk.e, rfl⟩
  subst el eh
  rw [List.take_length] at e
  simp only [rowsD] at e
  simp [g__law_open, ap_run, b__law_open, rowsD, z0, rng1_nat (show js.length ≤ 1000000 by omega), e]
/-! ### books -/
def bookD (js : List Jb) : D := .ins "JobBook" ["listed"] [.lst (js.map Jb.d)]
theorem open_reads_ok (js : List Jb) (hj : js.length ≤ 100) (hs : ∀ j ∈ js, j.2.length ≤ 100) (h : Hs) : g_open_reads [.v (bookD js)] h = .ok (.v (.lst ((openJ js).map Rd.d))) [.v (bookD js)] h := by
  have z2 := szN (n := 2) (by omega)
  have lo := openJ_len js 100 hs
  have key := lc2L_map (g := gNm 1) (ft := fYes) (fi1 := ci_open_reads_2) (g1 := gNm 2) (ft1 := cu_open_reads_1) (fe := ce_open_reads_3) (vs := [1, 2]) (vs1 := [2]) (l := [.v (bookD js), .e, .e]) (h := h) (fun j => (openOf j).map Rd.d) Jb.d 20000 js []
    (fun j m acc ha => by
      have hl := hs j m
      have r1 := fun h => read_cells_ok j (by omega) h
      have w1 := fun h => written_cells_ok j (by omega) h
      have lr := rc_len j.2
      have lc := lcL_map (g := gNm 2) (ft := cu_open_reads_1) (fe := ce_open_reads_3) (vs := [2]) (l := [.v (bookD js), .v j.d, .e]) (h := h) (fun c => (if c ∉ wc j.2 then some (j.1, c) else none).map Rd.d) Cl.d (rc j.2) acc fun c m => by
        have ci := Cl.enc.inT c (wc j.2)
        simp only [Jb.d] at w1
        by_cases q : c ∈ wc j.2 <;> simp [cu_open_reads_1, ce_open_reads_3, Jb.d, ci, q, w1, z2, Rd.d]
      have eo : ((rc j.2).filterMap fun c => (if c ∉ wc j.2 then some (j.1, c) else none).map Rd.d) = (openOf j).map Rd.d := by
        unfold openOf
        rw [List.map_filterMap]
      rw [eo] at lc
      refine ⟨[.v (bookD js), .v j.d, .e], [.v (bookD js), .v j.d, .e], (rc j.2).map Cl.d, ?_, by simp, szN (by rw [List.length_map]; omega), by simpa using lc, by simp⟩
      simp only [Jb.d] at r1
      simp [ci_open_reads_2, Jb.d, r1])
    (by
      have : (js.flatMap fun j => (openOf j).map Rd.d).length = (openJ js).length := by
        rw [openJ]
        induction js with
        | nil => rfl
        | cons j js ih => simp
      rw [this, List.length_nil]
      omega)
  have ef : (js.flatMap fun j => (openOf j).map Rd.d) = (openJ js).map Rd.d := by rw [openJ, List.map_flatMap]
  rw [ef] at key
  simp only [bookD] at key
  simp [g_open_reads, ap_run, b_open_reads, bookD, ownD, key]
end K94
set_option maxRecDepth 100000
set_option maxHeartbeats 2000000
namespace K94
open PySem PySem.Spec PyProof.Rows L2 VL
/-! ### a book at work -/
def liveH (h : Hs) (js : List Jb) : Hs := h ++ [.ins "JobBook" ["listed"] [.r (h.length + 1)], .lst (js.map fun j => .v j.d)]
theorem live0 {h : Hs} {js : List Jb} : (liveH h js)[h.length]? = some (.ins "JobBook" ["listed"] [.r (h.length + 1)]) := by simp [liveH]
theorem live1 {h : Hs} {js : List Jb} : (liveH h js)[h.length + 1]? = some (.lst (js.map fun j => .v j.d)) := by simp [liveH]
theorem live_set {h : Hs} {js : List Jb} {j : Jb} : (liveH h js).set (h.length + 1) (.lst ((js.map fun j => W.v j.d) ++ [.v j.d])) = liveH h (js ++ [j]) := by
  simp [liveH, List.set_append]
def frzH (h : Hs) (js : List Jb) : Hs := h ++ [.frz (bookD js), .frz (.lst (js.map Jb.d))]
theorem fold_vs (k : Nat) (h : Hs) : ∀ (ds : List D), (ds.map W.v).foldlM (fun h w => (fzH k h w).map (·.2)) h = some h
  | [] => rfl
  | d :: ds => by
    have e : fzH k h (.v d) = some (d, h) := by unfold fzH; cases k <;> rfl
    rw [List.map_cons, List.foldlM_cons, e]
    exact fold_vs k h ds
theorem wsK_vs (h : Hs) : ∀ (ds : List D), wsK h (ds.map W.v) = some ds
  | [] => rfl
  | d :: ds => by
    rw [List.map_cons]
    unfold wsK
    simp only [wK, wsK_vs h ds, Option.map_some]
theorem fz_live {l : Ls} {h : Hs} {js : List Jb} : fz l (liveH h js) (.r h.length) = some (bookD js, l, frzH h js) := by
  have ej : (js.map fun j => W.v j.d) = (js.map Jb.d).map W.v := by rw [List.map_map]; rfl
  have e1 : fzH 3 (liveH h js) (.r (h.length + 1)) = some (.lst (js.map Jb.d), (liveH h js).set (h.length + 1) (.frz (.lst (js.map Jb.d)))) := by
    unfold fzH
    simp only [live1, kids]
    rw [ej, fold_vs]
    simp only [live1, rdO]
    rw [ej, wsK_vs]
    rfl
  have e2 : (liveH h js).set (h.length + 1) (.frz (.lst (js.map Jb.d))) = h ++ [.ins "JobBook" ["listed"] [.r (h.length + 1)], .frz (.lst (js.map Jb.d))] := by simp [liveH, List.set_append]
  have e3 : fzH 4 (liveH h js) (.r h.length) = some (bookD js, frzH h js) := by
    unfold fzH
    simp only [live0, kids, List.foldlM_cons, e1, e2, Option.map_some, List.foldlM_nil]
    simp [rdO, wsK, wK, bookD, frzH, List.set_append]
  show (fzH 4 (liveH h js) (.r h.length)).map _ = _
  rw [e3]
  rfl
theorem job_names_ok (h : Hs) (js : List Jb) (hl : js.length ≤ 1000) : g_JobBook_job_names [.r h.length] (liveH h js) = .ok (.v (.tup ((js.map (·.1)).map Nm.d))) [.r h.length] (liveH h js) := by
  have e := lcN_map (g := gNmW 1) (ft := fYes) (fe := ce_JobBook_job_names_1) (vs := [1]) (n := h.length + 1) (l := [.r h.length, .e]) (h := liveH h js) (fun j => some j.1.d) (fun j => W.v j.d) js live1
    (fun j m => by simp [ce_JobBook_job_names_1, Jb.d]) (by omega) 0 (js.length + 1) [] (by omega) (by omega) (by simp)
  have ei : itN (liveH h js) (h.length + 1) 0 = some (js.map fun j => W.v j.d)[0]? := itN_lst live1
  have el : lenN (liveH h js) (h.length + 1) = js.length := by rw [lenN_lst live1, List.length_map]
  simp at e
  simp [g_JobBook_job_names, ap_run, b_JobBook_job_names, live0, ei, el, e]
theorem dOf_live {l : Ls} {h : Hs} {js : List Jb} : dOf l (liveH h js) (.r (h.length + 1)) = some (.lst (js.map Jb.d)) := by
  have ej : (js.map fun j => W.v j.d) = (js.map Jb.d).map W.v := by rw [List.map_map]; rfl
  show (match (liveH h js)[h.length + 1]? with
    | some o => rdO (liveH h js) o
    | none => none) = _
  rw [live1]
  show (wsK _ _).map _ = _
  rw [ej, wsK_vs]
  rfl
theorem admit_ok (h : Hs) (js : List Jb) (j : Jb) (hl : js.length < 8) (hn : j.1 ∉ js.map (·.1)) : g_JobBook_admit_job [.r h.length, .v j.d] (liveH h js) = .ok (.v .non) [.r h.length, .v j.d] (liveH h (js ++ [j])) := by
  have jn := job_names_ok h js (by omega)
  have ci : gIn j.1.d (.tup ((js.map (·.1)).map Nm.d)) = some false := by
    rw [Nm.enc.inT]
    simpa using hn
  have z := szN (n := js.length + 1) (by omega)
  have l8 : ¬ (js.length : Int) = 8 := by omega
  have ls := live_set (h := h) (js := js) (j := j)
  simp only [List.map_map] at jn ci
  simp only [Jb.d] at ls
  simp [g_JobBook_admit_job, ap_run, b_JobBook_admit_job, live0, live1, dOf_live, jn, ci, l8, z, ls, Jb.d]
/-- .. made of jobs -/
theorem vsSl_map : ∀ (js : List Jb), vsSl (js.map fun j => Sl.v j.d) = some (js.map Jb.d)
  | [] => rfl
  | j :: js => by
    rw [List.map_cons]
    show (vsSl _).map _ = _
    rw [vsSl_map js]
    rfl
theorem init_ok (h : Hs) (js : List Jb) (hl : js.length ≤ 8) (hn : (js.map (·.1)).Nodup) : g_JobBook___init__ (.r h.length :: js.map fun j => .v j.d) (h ++ [.ins "JobBook" [] []]) = .ok (.v .non) (.r h.length :: js.map fun j => .v j.d) (liveH h js) := by
  have z0 := szN (n := 0) (by omega)
  have zj := szN (n := js.length) (by omega)
  obtain ⟨l', h', e, x2, el, e2, eh⟩ := forL_idx (g := gNm 2) (fb := lb_JobBook___init___1) (l := [.r h.length, .v (.tup (js.map Jb.d)), .e]) (h := liveH h []) (fun k l h' => ∃ x2, l = [.r h.length, .v (.tup (js.map Jb.d)), x2] ∧ Jk x2 ∧ h' = liveH h (js.take k)) Jb.d js
    (fun k hk l h' ⟨x2, el, e2, eh⟩ => by
      subst el eh
      have et : js.take (k + 1) = js.take k ++ [js[k]] := by rw [List.take_succ]; simp [hk]
      have nn : js[k].1 ∉ (js.take k).map (·.1) := fun m => by
        have hn2 : ((js.take (k + 1)).map (·.1)).Nodup := List.Nodup.sublist (List.Sublist.map _ (List.take_sublist _ _)) hn
        rw [et, List.map_append, List.nodup_append] at hn2
        exact hn2.2.2 _ m _ (by simp) rfl
      have a := admit_ok h (js.take k) js[k] (by rw [List.length_take]; omega) nn
      rw [← et] at a
      refine ⟨[.r h.length, .v (.tup (js.map Jb.d)), .v js[k].d], _, ?_, _, rfl, Jk.v, rfl⟩
      rcases e2 with rfl | ⟨_, rfl⟩ <;> simp [lb_JobBook___init___1, live0, a]) ⟨.e, rfl, Jk.e, by simp⟩
  rw [List.take_length] at eh
  subst el eh
  have set0 : ((h ++ [O.ins "JobBook" [] []]) ++ [O.lst []]).set h.length (.ins "JobBook" ["listed"] [.r (h.length + 1)]) = liveH h [] := by simp [liveH, List.set_append]
  have b : run 2 3 b_JobBook___init__ [.r h.length, .v (.tup (js.map Jb.d))] (h ++ [.ins "JobBook" [] []]) = .ok (.v .non) [.r h.length, .v (.tup (js.map Jb.d))] (liveH h js) := by
    simp at set0
    simp [ap_run, b_JobBook___init__, z0, oOf, set0, e]
  unfold g_JobBook___init__ gStar
  simp only [List.drop_succ_cons, List.drop_zero, vsSl_map, List.length_cons, List.length_map, zj, List.take_succ_cons, List.take_zero, List.singleton_append, b]
  simp
/-- made, and frozen: the law's book -/
theorem job_book_ok (names : List Nm) (js : List Jb) (hl : js.length ≤ 8) (hn : (js.map (·.1)).Nodup) (hg : ∀ j ∈ js, GJb j) (hk : ∀ k (hk : k < js.length), names[k]? = some js[k].1) (h : Hs) :
    g__law_job_book [.v (.lst (names.map Nm.d)), .v (rowsD js)] h = .ok (.v (bookD js)) [.v (.lst (names.map Nm.d)), .v (rowsD js)] (frzH h js) := by
  have i0 := init_ok h [] (by simp) (by simp)
  obtain ⟨l', h', e, x3, el, e3, eh⟩ := forL_range (g := gNm 3) (fb := lb__law_job_book_1) (l := [.v (.lst (names.map Nm.d)), .v (rowsD js), .r h.length, .e]) (h := liveH h []) (fun k l h' => ∃ x3, l = [.v (.lst (names.map Nm.d)), .v (rowsD js), .r h.length, x3] ∧ Jk x3 ∧ h' = liveH h (js.take k)) (fun k => D.int (k : Int)) js.length
    (fun k hk' l h' ⟨x3, el, e3, eh⟩ => by
      subst el eh
      have et : js.take (k + 1) = js.take k ++ [js[k]] := by rw [List.take_succ]; simp [hk']
      have nn : js[k].1 ∉ (js.take k).map (·.1) := fun m => by
        have hn2 : ((js.take (k + 1)).map (·.1)).Nodup := List.Nodup.sublist (List.Sublist.map _ (List.take_sublist _ _)) hn
        rw [et, List.map_append, List.nodup_append] at hn2
        exact hn2.2.2 _ m _ (by simp) rfl
      have a := admit_ok h (js.take k) js[k] (by rw [List.length_take]; omega) nn
      rw [← et] at a
      have ji := fun h => job_init (hg js[k] (List.getElem_mem hk')) h
      refine ⟨[.v (.lst (names.map Nm.d)), .v (rowsD js), .r h.length, .v (.int k)], _, ?_, _, rfl, Jk.v, rfl⟩
      rcases e3 with rfl | ⟨_, rfl⟩ <;> simp [lb__law_job_book_1, rowsD, live0, a, names_at (hk k hk'), rows_at hk', ji]) ⟨.e, rfl, Jk.e, by simp⟩
  rw [List.take_length] at eh
  subst el eh
  simp only [rowsD] at e
  simp only [List.map_nil] at i0
  simp [g__law_job_book, ap_run, b__law_job_book, rowsD, i0, rng1_nat (show js.length ≤ 1000000 by omega), e, fz_live]
end K94
set_option maxRecDepth 100000
set_option maxHeartbeats 2000000
namespace K94
open PySem PySem.Spec PyProof.Rows L2 VL
/-! ### guards -/
def gst (r : Rd) : Stp := ⟨.ad, r.2.1, r.2.2, 0⟩
def grd (rs : List Rd) (n : Nm) : List Stp := rs.filterMap fun r => if r.1 = n then some (gst r) else none
def guardJ (rs : List Rd) (j : Jb) : Jb := (j.1, j.2 ++ grd rs j.1)
theorem gst_d (r : Rd) : (gst r).d = .tup [.str "add", r.2.1.d, .int r.2.2, .int 0] := by simp [gst, Stp.d, Deed.s]
theorem nm_eq {a b : Nm} : (a.1 = b.1) ↔ (a = b) := ⟨fun h => Subtype.ext h, fun h => by rw [h]⟩
theorem guarded_ok (js : List Jb) (rs : List Rd) (hl : js.length ≤ 8) (hr : rs.length ≤ 1000) (hn : (js.map (·.1)).Nodup) (hg : ∀ j ∈ js, GJb (guardJ rs j)) (h : Hs) :
    g_guarded [.v (bookD js), .v (.lst (rs.map Rd.d))] h = .ok (.v (bookD (js.map (guardJ rs)))) [.v (bookD js), .v (.lst (rs.map Rd.d))] (frzH h (js.map (guardJ rs))) := by
  have z0 := szN (n := 0) (by omega)
  have z4 := szN (n := 4) (by omega)
  have zr := szN (n := rs.length) (by omega)
  obtain ⟨l', h', e, x3, x4, x5, x6, el, e3, e4, e5, e6, eh⟩ := forL_idx (g := gNm 3) (fb := lb_guarded_3) (l := [.v (bookD js), .v (.lst (rs.map Rd.d)), .m false (.lst []), .e, .e, .e, .e]) (h := h)
    (fun k l h' => ∃ x3 x4 x5 x6, l = [.v (bookD js), .v (.lst (rs.map Rd.d)), .m false (.lst (((js.take k).map (guardJ rs)).map Jb.d)), x3, x4, x5, x6] ∧ Jk x3 ∧ Jk x4 ∧ x5 = .e ∧ x6 = .e ∧ h' = h) Jb.d js
    (fun k hk l h' ⟨x3, x4, x5, x6, el, e3, e4, e5, e6, eh⟩ => by
      subst el eh e5 e6
      have et : js.take (k + 1) = js.take k ++ [js[k]] := by rw [List.take_succ]; simp [hk]
      have hj := hg js[k] (List.getElem_mem hk)
      generalize hjk : js[k] = j at *
      obtain ⟨n, ts⟩ := j
      have ji := fun h => job_init hj h
      have hl12 := hj.len
      simp only [guardJ] at ji hl12
      have zk := szN (n := k + 1) (by omega)
      have lk : (js.take k).length = k := by rw [List.length_take]; omega
      have ze := szN (n := ts.length + (grd rs n).length) (by rw [List.length_append] at hl12; omega)
      have lc : ∀ l4 : Sl, lcL (gTupD 2 (gsCons (gNm 5) (gsCons (gNm 6) gsNil))) ct_guarded_1 ce_guarded_2 [5, 6] (rs.map Rd.d) [] [.v (bookD js), .v (.lst (rs.map Rd.d)), .m false (.lst (((js.take k).map (guardJ rs)).map Jb.d)), .v (Jb.d (n, ts)), .m false (.lst (ts.map Stp.d)), .e, .e] h' = .ok ((grd rs n).map Stp.d) [.v (bookD js), .v (.lst (rs.map Rd.d)), .m false (.lst (((js.take k).map (guardJ rs)).map Jb.d)), .v (Jb.d (n, ts)), .m false (.lst (ts.map Stp.d)), .e, .e] h' := fun _ => by
        have := lcL_map (g := gTupD 2 (gsCons (gNm 5) (gsCons (gNm 6) gsNil))) (ft := ct_guarded_1) (fe := ce_guarded_2) (vs := [5, 6]) (l := [.v (bookD js), .v (.lst (rs.map Rd.d)), .m false (.lst (((js.take k).map (guardJ rs)).map Jb.d)), .v (Jb.d (n, ts)), .m false (.lst (ts.map Stp.d)), .e, .e]) (h := h') (fun r => (if r.1 = n then some (gst r) else none).map Stp.d) Rd.d rs [] fun r m => by
          by_cases q : r.1 = n
          · have q' : r.1.1 = n.1 := by rw [q]
            simp [ct_guarded_1, ce_guarded_2, Rd.d, Jb.d, Nm.d, Cl.d, q, z4, gst_d]
          · have q' : ¬ r.1.1 = n.1 := fun z => q (nm_eq.mp z)
            simp [ct_guarded_1, ce_guarded_2, Rd.d, Jb.d, Nm.d, Cl.d, q, q']
        rw [this, List.nil_append]
        unfold grd
        rw [List.map_filterMap]
      have lc := lc .e
      simp only [Jb.d] at lc
      refine ⟨[.v (bookD js), .v (.lst (rs.map Rd.d)), .m false (.lst (((js.take (k + 1)).map (guardJ rs)).map Jb.d)), .v (Jb.d (n, ts)), .v (.lst ((guardJ rs (n, ts)).2.map Stp.d)), .e, .e], _, ?_, _, _, _, _, rfl, Jk.v, Jk.v, rfl, rfl, rfl⟩
      rw [et]
      simp only [List.map_append, List.map_cons, List.map_nil] at ji ⊢
      have hRl : (((js.take k).map (guardJ rs)).map Jb.d).length = k := by rw [List.length_map, List.length_map]; exact lk
      generalize ((js.take k).map (guardJ rs)).map Jb.d = R at *
      rcases e3 with rfl | ⟨_, rfl⟩ <;> rcases e4 with rfl | ⟨_, rfl⟩ <;>
      simp [lb_guarded_3, Jb.d, zr, lc, ze, hRl, zk, ji, guardJ]) ⟨.e, .e, .e, .e, by simp, Jk.e, Jk.e, rfl, rfl, rfl⟩
  rw [List.take_length] at el
  subst el eh e5 e6
  have nd2 : ((js.map (guardJ rs)).map (·.1)).Nodup := by rw [List.map_map]; exact hn
  have i0 := init_ok h' (js.map (guardJ rs)) (by simpa using hl) nd2
  have mk := fun l h => mkA_ioF (l := l) (h := h) (ds := (js.map (guardJ rs)).map Jb.d) (by simp; omega)
  simp only [bookD] at e
  have f0 := fun l => fz_live (l := l) (h := h') (js := js.map (guardJ rs))
  have ew : ∀ ys : List Jb, (ys.map fun j => Sl.v j.d) = (ys.map Jb.d).map Sl.v := fun ys => by rw [List.map_map]; rfl
  rw [ew] at i0
  generalize hq : (js.map (guardJ rs)).map Jb.d = q at *
  simp [g_guarded, ap_run, b_guarded, bookD, ownD, z0, e, mk, i0, poB_self, f0]
end K94
set_option maxRecDepth 100000
set_option maxHeartbeats 2000000
namespace K94
open PySem PySem.Spec PyProof.Rows L2 VL
theorem law_with_ok (names : List Nm) (js : List Jb) (rs : List Rd) (hj : js.length ≤ 100) (hs : ∀ j ∈ js, j.2.length ≤ 100) (hr : rs.length ≤ 1000) (hn : ∀ k (hk : k < js.length), names[k]? = some js[k].1) (h : Hs) :
    g__law_with [.v (.lst (names.map Nm.d)), .v (rowsD js), .v (.lst (rs.map Rd.d))] h = .ok (.v (rowsD (js.map (guardJ rs)))) [.v (.lst (names.map Nm.d)), .v (rowsD js), .v (.lst (rs.map Rd.d))] h := by
  have z0 := szN (n := 0) (by omega)
  have z4 := szN (n := 4) (by omega)
  have zr := szN (n := rs.length) (by omega)
  obtain ⟨l', h', e, x4, x5, el, e4, e5, eh⟩ := forL_range (g := gNm 4) (fb := lb__law_with_3) (l := [.v (.lst (names.map Nm.d)), .v (rowsD js), .v (.lst (rs.map Rd.d)), .m false (.lst []), .e, .e]) (h := h)
    (fun k l h' => ∃ x4 x5, l = [.v (.lst (names.map Nm.d)), .v (rowsD js), .v (.lst (rs.map Rd.d)), .m false (.lst (((js.take k).map (guardJ rs)).map fun j => .lst (j.2.map Stp.d))), x4, x5] ∧ Jk x4 ∧ x5 = .e ∧ h' = h) (fun k => D.int (k : Int)) js.length
    (fun k hk l h' ⟨x4, x5, el, e4, e5, eh⟩ => by
      subst el eh e5
      have et : js.take (k + 1) = js.take k ++ [js[k]] := by rw [List.take_succ]; simp [hk]
      have hl := hs js[k] (List.getElem_mem hk)
      have ra := rows_at hk
      have na := names_at (hn k hk)
      generalize hjk : js[k] = j at *
      obtain ⟨n, ts⟩ := j
      have zk := szN (n := k + 1) (by omega)
      have lk : (js.take k).length = k := by rw [List.length_take]; omega
      have lc := lcL_map (g := gNm 5) (ft := ct__law_with_1) (fe := ce__law_with_2) (vs := [5]) (l := [.v (.lst (names.map Nm.d)), .v (rowsD js), .v (.lst (rs.map Rd.d)), .m false (.lst (((js.take k).map (guardJ rs)).map fun j => .lst (j.2.map Stp.d))), .v (.int k), .e]) (h := h') (fun r => (if r.1 = n then some (gst r) else none).map Stp.d) Rd.d rs [] fun r m => by
          generalize names.map Nm.d = NS at *
          simp only [Nm.d] at na
          by_cases q : r.1 = n
          · have q' : r.1.1 = n.1 := by rw [q]
            simp [ct__law_with_1, ce__law_with_2, Rd.d, Nm.d, Cl.d, q, z4, gst_d, na]
          · have q' : ¬ r.1.1 = n.1 := fun z => q (nm_eq.mp z)
            simp [ct__law_with_1, ce__law_with_2, Rd.d, Nm.d, Cl.d, q, q', na]
      have eg : (rs.filterMap fun r => (if r.1 = n then some (gst r) else none).map Stp.d) = (grd rs n).map Stp.d := by
        unfold grd
        rw [List.map_filterMap]
      rw [eg, List.nil_append] at lc
      have gl : (grd rs n).length ≤ rs.length := List.length_filterMap_le _ _
      have ga : gAdd (.lst (ts.map Stp.d)) (.lst ((grd rs n).map Stp.d)) = some (.lst ((guardJ rs (n, ts)).2.map Stp.d)) := by
        rw [guardJ, List.map_append]
        dsimp only at hl
        exact if_pos (by rw [sizeLine_eq, List.length_map, List.length_map]; omega)
      refine ⟨[.v (.lst (names.map Nm.d)), .v (rowsD js), .v (.lst (rs.map Rd.d)), .m false (.lst (((js.take (k + 1)).map (guardJ rs)).map fun j => .lst (j.2.map Stp.d))), .v (.int k), .e], _, ?_, _, _, rfl, Jk.v, rfl, rfl⟩
      rw [et]
      simp only [List.map_append, List.map_cons, List.map_nil]
      have hRl : (((js.take k).map (guardJ rs)).map fun j => D.lst (j.2.map Stp.d)).length = k := by rw [List.length_map, List.length_map]; exact lk
      simp only [rowsD] at *
      generalize (((js.take k).map (guardJ rs)).map fun j => D.lst (j.2.map Stp.d)) = R at *
      rcases e4 with rfl | ⟨_, rfl⟩ <;>
      simp [lb__law_with_3, ra, zr, lc, hRl, zk, ga]) ⟨.e, .e, by simp, Jk.e, rfl, rfl⟩
  rw [List.take_length] at el
  subst el eh e5
  simp only [rowsD] at e ⊢
  have hQ : ((js.map (guardJ rs)).map fun j => D.lst (j.2.map Stp.d)).length = js.length := by simp
  generalize ((js.map (guardJ rs)).map fun j => D.lst (j.2.map Stp.d)) = Q at *
  simp [g__law_with, ap_run, b__law_with, z0, rng1_nat (show js.length ≤ 1000000 by omega), e]
/-- what is drawn of a list -/
theorem law_some_ok (s : St) (rs : List Rd) (hr : rs.length ≤ 1000) (h : Hs) : ∃ (s' : St) (qs : List Rd), qs.Sublist rs ∧ g__law_some [.m true s.d, .v (.lst (rs.map Rd.d)), .v (.int 2)] h = .ok (.v (.lst (qs.map Rd.d))) [.m true (St.d s'), .v (.lst (rs.map Rd.d)), .v (.int 2)] h := by
  have zr := szN (n := rs.length) (by omega)
  have key : ∀ (xs : List Rd) (acc : List D) (s : St), ∃ (s' : St) (qs : List Rd), qs.Sublist xs ∧ lcL (gNm 3) ct__law_some_1 ce__law_some_2 [3] (xs.map Rd.d) acc [.m true s.d, .v (.lst (rs.map Rd.d)), .v (.int 2), .e] h = .ok (acc ++ qs.map Rd.d) [.m true (St.d s'), .v (.lst (rs.map Rd.d)), .v (.int 2), .e] h := by
    intro xs
    induction xs with
    | nil => exact fun acc s => ⟨s, [], .slnil, by simp [lcL_nil]⟩
    | cons r xs ih =>
      intro acc s
      obtain ⟨k, s1, hk, d⟩ := drawN s 2 (by omega) (by omega)
      have d := d h
      simp at d
      by_cases c : 0 < k
      · have c' : (0 : Int) < k := by omega
        obtain ⟨s', qs, q1, q2⟩ := ih (acc ++ [r.d]) s1
        refine ⟨s', r :: qs, .cons₂ _ q1, ?_⟩
        have el : elL (gNm 3) ct__law_some_1 ce__law_some_2 [3] r.d [.m true s.d, .v (.lst (rs.map Rd.d)), .v (.int 2), .e] h = .ok (some r.d) [.m true s1.d, .v (.lst (rs.map Rd.d)), .v (.int 2), .e] h := by
          simp [ct__law_some_1, ce__law_some_2, d, c', c]
        rw [List.map_cons, lcL_cons, el]
        simp only []
        rw [q2]
        simp
      · have c' : ¬ (0 : Int) < k := by omega
        obtain ⟨s', qs, q1, q2⟩ := ih acc s1
        refine ⟨s', qs, .cons _ q1, ?_⟩
        have el : elL (gNm 3) ct__law_some_1 ce__law_some_2 [3] r.d [.m true s.d, .v (.lst (rs.map Rd.d)), .v (.int 2), .e] h = .ok none [.m true s1.d, .v (.lst (rs.map Rd.d)), .v (.int 2), .e] h := by
          simp [ct__law_some_1, ce__law_some_2, d, c', c]
        rw [List.map_cons, lcL_cons, el]
        simp only []
        rw [q2]
  obtain ⟨s', qs, q1, q2⟩ := key rs [] s
  refine ⟨s', qs, q1, ?_⟩
  simp only [List.nil_append] at q2
  simp [g__law_some, ap_run, b__law_some, zr, q2]
/-! ### conflicts -/
def meet (xs ys : List Cl) : Bool := xs.any fun c => decide (c ∈ ys)
def bw (a b : List Stp) : Bool := meet (wc a) (wc b)
def mw (a b : List Stp) : Bool := meet (rc a) (wc b)
def cf (a b : List Stp) : Bool := bw a b || (mw a b || mw b a)
theorem blsV_map : ∀ (bs : List Bool), blsV (bs.map .bl) = some bs
  | [] => rfl
  | b :: bs => by
    show (blsV (bs.map .bl)).map _ = _
    rw [blsV_map bs]
    rfl
theorem shares_ok (xs ys : List Cl) (hx : xs.length ≤ 1000) (h : Hs) : g_shares [.v (.tup (xs.map Cl.d)), .v (.tup (ys.map Cl.d))] h = .ok (.v (.bl (meet xs ys))) [.v (.tup (xs.map Cl.d)), .v (.tup (ys.map Cl.d))] h := by
  have z := szN (n := xs.length) (by omega)
  have lc := lcL_map (g := gNm 2) (ft := fYes) (fe := ce_shares_1) (vs := [2]) (l := [.v (.tup (xs.map Cl.d)), .v (.tup (ys.map Cl.d)), .e]) (h := h) (fun c => some (.bl (decide (c ∈ ys)))) Cl.d xs [] fun c m => by
    have ci := Cl.enc.inT c ys
    simp [ce_shares_1, ci]
  have e1 : (xs.filterMap fun c => some (D.bl (decide (c ∈ ys)))) = (xs.map fun c => decide (c ∈ ys)).map D.bl := by rw [List.map_map, List.filterMap_eq_map']; rfl
  rw [e1, List.nil_append] at lc
  have ba : bAny [.lst ((xs.map fun c => decide (c ∈ ys)).map D.bl)] = some (.bl (meet xs ys)) := by
    show (blsV _).map _ = _
    rw [blsV_map]
    simp [meet, List.any_map, Function.comp_def]
  generalize (xs.map fun c => decide (c ∈ ys)).map D.bl = B at *
  simp [g_shares, ap_run, b_shares, z, lc, ba]
theorem both_write_ok (a b : Jb) (ha : a.2.length ≤ 1000) (hb : b.2.length ≤ 1000) (h : Hs) : g_both_write [.v a.d, .v b.d] h = .ok (.v (.bl (bw a.2 b.2))) [.v a.d, .v b.d] h := by
  have w1 := fun h => written_cells_ok a ha h
  have w2 := fun h => written_cells_ok b hb h
  have s := fun h => shares_ok (wc a.2) (wc b.2) (Nat.le_trans (wc_len _) ha) h
  simp only [Jb.d] at *
  simp [g_both_write, ap_run, b_both_write, w1, w2, s, bw]
theorem misses_write_ok (a b : Jb) (ha : a.2.length ≤ 1000) (hb : b.2.length ≤ 1000) (h : Hs) : g_misses_write [.v a.d, .v b.d] h = .ok (.v (.bl (mw a.2 b.2))) [.v a.d, .v b.d] h := by
  have w1 := fun h => read_cells_ok a ha h
  have w2 := fun h => written_cells_ok b hb h
  have s := fun h => shares_ok (rc a.2) (wc b.2) (Nat.le_trans (rc_len _) ha) h
  simp only [Jb.d] at *
  simp [g_misses_write, ap_run, b_misses_write, w1, w2, s, mw]
theorem conflict_ok (a b : Jb) (ha : a.2.length ≤ 1000) (hb : b.2.length ≤ 1000) (h : Hs) : g_jobs_conflict [.v a.d, .v b.d] h = .ok (.v (.bl (cf a.2 b.2))) [.v a.d, .v b.d] h := by
  have w1 := fun h => both_write_ok a b ha hb h
  have w2 := fun h => misses_write_ok a b ha hb h
  have w3 := fun h => misses_write_ok b a hb ha h
  generalize a.d = A at *
  generalize b.d = B at *
  cases c1 : bw a.2 b.2 <;> cases c2 : mw a.2 b.2 <;> cases c3 : mw b.2 a.2 <;> simp [g_jobs_conflict, ap_run, b_jobs_conflict, w1, w2, w3, cf, c1, c2, c3]
theorem comes_back_ok (a b : Jb) (ha : a.2.length ≤ 1000) (hb : b.2.length ≤ 1000) (h : Hs) : g_comes_back [.v a.d, .v b.d, .v (.str "first")] h = .ok (.v (.bl (mw b.2 a.2))) [.v a.d, .v b.d, .v (.str "first")] h := by
  have w3 := fun h => misses_write_ok b a hb ha h
  generalize a.d = A at *
  generalize b.d = B at *
  cases c3 : mw b.2 a.2 <;> simp [g_comes_back, ap_run, b_comes_back, w3, c3]
end K94
set_option maxRecDepth 100000
set_option maxHeartbeats 2000000
namespace K94
open PySem PySem.Spec PyProof.Rows L2 VL
/-! ### what is reached, plainly -/
section
variable (al st : List Nat) (bk : Nat → Bool) (cfn : Nat → Nat → Bool)
inductive Reach : Nat → Prop
  | st {k : Nat} : k ∈ st → Reach k
  | go {j k : Nat} : Reach j → k ∈ al → cfn j k = true → Reach k
def Found : Prop := ∃ k, Reach al st cfn k ∧ bk k = true
/-- nothing is left to be looked at -/
theorem closed {known : List Nat} (h2 : ∀ k ∈ st, k ∈ known) (h3 : ∀ k ∈ known, bk k = false ∧ ∀ j ∈ al, cfn k j = true → j ∈ known) : ¬ Found al st bk cfn := by
  rintro ⟨k, r, b⟩
  have : ∀ k, Reach al st cfn k → k ∈ known := by
    intro k r
    induction r with
    | st m => exact h2 _ m
    | go _ m c ih => exact (h3 _ ih).2 _ m c
  have := (h3 k (this k r)).1
  rw [this] at b
  cases b
/-! the program's way -/
def lastN (c : List Nat) : Nat := c.getLast?.getD 0
def growF (c : List Nat) (s : List Nat × List (List Nat)) (k : Nat) : List Nat × List (List Nat) := if k ∉ s.1 ∧ cfn (lastN c) k = true then (s.1 ++ [k], s.2 ++ [c ++ [k]]) else s
theorem lastN_app (c : List Nat) (k : Nat) : lastN (c ++ [k]) = k := by simp [lastN]
/-- what one chain's growing does -/
structure Gr (xs : List Nat) (c : List Nat) (s s' : List Nat × List (List Nat)) : Prop where
  sub : ∀ k ∈ s.1, k ∈ s'.1
  new : ∀ k ∈ s'.1, k ∈ s.1 ∨ (k ∈ xs ∧ cfn (lastN c) k = true ∧ ∃ c' ∈ s'.2, lastN c' = k)
  sub2 : ∀ c' ∈ s.2, c' ∈ s'.2
  new2 : ∀ c' ∈ s'.2, c' ∈ s.2 ∨ ∃ k ∈ xs, c' = c ++ [k] ∧ k ∈ s'.1 ∧ s.1.length + 1 ≤ s'.1.length
  all : ∀ j ∈ xs, cfn (lastN c) j = true → j ∈ s'.1
  len : s'.1.length + s.2.length = s.1.length + s'.2.length
  nd : s.1.Nodup → s'.1.Nodup
theorem grow_one (c : List Nat) (s : List Nat × List (List Nat)) (k : Nat) : Gr cfn [k] c s (growF cfn c s k) := by
  unfold growF
  split
  · rename_i h
    refine ⟨fun x m => List.mem_append_left _ m, fun x m => ?_, fun x m => List.mem_append_left _ m, fun x m => ?_, fun j m e => ?_, ?_, fun nd => ?_⟩
    · rcases List.mem_append.mp m with m | m
      · exact .inl m
      · simp at m
        subst m
        exact .inr ⟨by simp, h.2, c ++ [x], by simp, lastN_app _ _⟩
    · rcases List.mem_append.mp m with m | m
      · exact .inl m
      · simp at m
        exact .inr ⟨k, by simp, m, by simp, by simp⟩
    · simp at m; subst m; simp
    · simp; omega
    · rw [List.nodup_append]
      refine ⟨nd, by simp, fun a ha b hb => ?_⟩
      simp at hb
      subst hb
      intro e
      exact h.1 (e ▸ ha)
  · rename_i h
    refine ⟨fun x m => m, fun x m => .inl m, fun x m => m, fun x m => .inl m, fun j m e => ?_, rfl, fun nd => nd⟩
    simp at m
    subst m
    exact Classical.byContradiction fun q => h ⟨q, e⟩
theorem grow_all (c : List Nat) : ∀ (xs : List Nat) (s : List Nat × List (List Nat)), Gr cfn xs c s (xs.foldl (growF cfn c) s)
  | [], s => ⟨fun x m => m, fun x m => .inl m, fun x m => m, fun x m => .inl m, fun j m => by simp at m, rfl, fun nd => nd⟩
  | x :: xs, s => by
    have a := grow_one cfn c s x
    have b := grow_all c xs (growF cfn c s x)
    have la : s.1.length ≤ (growF cfn c s x).1.length := by unfold growF; split <;> simp
    have lb : (growF cfn c s x).1.length ≤ (xs.foldl (growF cfn c) (growF cfn c s x)).1.length := by
      have : ∀ (ys : List Nat) (s : List Nat × List (List Nat)), s.1.length ≤ (ys.foldl (growF cfn c) s).1.length := by
        intro ys
        induction ys with
        | nil => exact fun s => Nat.le_refl _
        | cons y ys ih =>
          intro s
          refine Nat.le_trans ?_ (ih (growF cfn c s y))
          unfold growF
          split <;> simp
      exact this xs _
    refine ⟨fun k m => b.sub k (a.sub k m), fun k m => ?_, fun c' m => b.sub2 c' (a.sub2 c' m), fun c' m => ?_, fun j m e => ?_, ?_, fun nd => b.nd (a.nd nd)⟩
    · rcases b.new k m with m | ⟨m, e, c', m', q⟩
      · rcases a.new k m with m | ⟨m, e, c', m', q⟩
        · exact .inl m
        · simp at m
          exact .inr ⟨by simp [m], e, c', b.sub2 c' m', q⟩
      · exact .inr ⟨by simp [m], e, c', m', q⟩
    · rcases b.new2 c' m with m | ⟨k, m, e, q, q2⟩
      · rcases a.new2 c' m with m | ⟨k, m, e, q, q2⟩
        · exact .inl m
        · simp at m
          exact .inr ⟨k, by simp [m], e, b.sub k q, by simp only [List.foldl_cons]; omega⟩
      · exact .inr ⟨k, by simp [m], e, q, by simp only [List.foldl_cons]; omega⟩
    · rcases List.mem_cons.mp m with m | m
      · subst m
        exact b.sub _ (a.all _ (by simp) e)
      · exact b.all j m e
    · have := a.len
      have := b.len
      simp only [List.foldl_cons]
      omega
/-- a level -/
def levF (s : List Nat × List (List Nat)) (c : List Nat) : List Nat × List (List Nat) := al.foldl (growF cfn c) s
/-- at the loop's head -/
structure Hd (chains : List (List Nat)) (known : List Nat) : Prop where
  nd : known.Nodup
  sub : ∀ k ∈ known, k ∈ al
  r : ∀ k ∈ known, Reach al st cfn k
  st_ : ∀ k ∈ st, k ∈ known
  ch : ∀ c ∈ chains, c ≠ [] ∧ (∀ k ∈ c, k ∈ al) ∧ lastN c ∈ known ∧ c.length ≤ known.length
  open_ : ∀ k ∈ known, (∃ c ∈ chains, lastN c = k) ∨ (bk k = false ∧ ∀ j ∈ al, cfn k j = true → j ∈ known)
/-- within a level: done the chains seen, rest the others -/
structure Md (known : List Nat) (done rest : List (List Nat)) (s : List Nat × List (List Nat)) : Prop where
  nd : s.1.Nodup
  sub : ∀ k ∈ s.1, k ∈ al
  r : ∀ k ∈ s.1, Reach al st cfn k
  old : ∀ k ∈ known, k ∈ s.1
  new : ∀ k ∈ s.1, k ∈ known ∨ ∃ c ∈ s.2, lastN c = k
  ch : ∀ c ∈ s.2, c ≠ [] ∧ (∀ k ∈ c, k ∈ al) ∧ lastN c ∈ s.1 ∧ c.length ≤ s.1.length
  dn : ∀ c ∈ done, bk (lastN c) = false ∧ ∀ j ∈ al, cfn (lastN c) j = true → j ∈ s.1
  len : s.1.length = known.length + s.2.length
variable {al st bk cfn}
theorem Md.step {chains : List (List Nat)} {known : List Nat} {done rest : List (List Nat)} {c : List Nat} {s : List Nat × List (List Nat)} (H : Hd al st bk cfn chains known) (M : Md al st bk cfn known done (c :: rest) s) (hc : c ∈ chains) (hb : bk (lastN c) = false) :
    Md al st bk cfn known (done ++ [c]) rest (levF al cfn s c) := by
  have g := grow_all cfn c al s
  obtain ⟨c1, c2, c3, c4⟩ := H.ch c hc
  have rl : Reach al st cfn (lastN c) := H.r _ c3
  have kl : known.length ≤ s.1.length := by have := M.len; omega
  have ll : s.1.length ≤ (levF al cfn s c).1.length := by
    have h1 := g.len
    have : s.2.length ≤ (al.foldl (growF cfn c) s).2.length := by
      have : ∀ (ys : List Nat) (s : List Nat × List (List Nat)), s.2.length ≤ (ys.foldl (growF cfn c) s).2.length := by
        intro ys
        induction ys with
        | nil => exact fun s => Nat.le_refl _
        | cons y ys ih =>
          intro s
          refine Nat.le_trans ?_ (ih (growF cfn c s y))
          unfold growF
          split <;> simp
      exact this al s
    show s.1.length ≤ (al.foldl (growF cfn c) s).1.length
    omega
  refine ⟨g.nd M.nd, fun k m => ?_, fun k m => ?_, fun k m => g.sub k (M.old k m), fun k m => ?_, fun c' m => ?_, fun c' m => ?_, ?_⟩
  · rcases g.new k m with m | ⟨m, _⟩
    · exact M.sub k m
    · exact m
  · rcases g.new k m with m | ⟨m, e, _⟩
    · exact M.r k m
    · exact .go rl m e
  · rcases g.new k m with m | ⟨m, e, c', m', q⟩
    · rcases M.new k m with m | ⟨c', m', q⟩
      · exact .inl m
      · exact .inr ⟨c', g.sub2 c' m', q⟩
    · exact .inr ⟨c', m', q⟩
  · rcases g.new2 c' m with m | ⟨k, mk, e, q, q2⟩
    · obtain ⟨a1, a2, a3, a4⟩ := M.ch c' m
      exact ⟨a1, a2, g.sub _ a3, by omega⟩
    · rw [e]
      refine ⟨by simp, fun x mx => ?_, by rw [lastN_app]; exact q, ?_⟩
      · rcases List.mem_append.mp mx with mx | mx
        · exact c2 x mx
        · have : x = k := by simpa using mx
          rw [this]
          exact mk
      · rw [List.length_append, List.length_singleton]
        show _ ≤ (al.foldl (growF cfn c) s).1.length
        omega
  · rcases List.mem_append.mp m with m | m
    · obtain ⟨a1, a2⟩ := M.dn c' m
      exact ⟨a1, fun j mj e => g.sub _ (a2 j mj e)⟩
    · simp at m
      subst m
      exact ⟨hb, fun j mj e => g.all j mj e⟩
  · have h1 := g.len
    have h2 := M.len
    show (al.foldl (growF cfn c) s).1.length = known.length + (al.foldl (growF cfn c) s).2.length
    omega
theorem Hd.start {chains : List (List Nat)} {known : List Nat} (H : Hd al st bk cfn chains known) : Md al st bk cfn known [] chains (known, []) :=
  ⟨H.nd, H.sub, H.r, fun k m => m, fun k m => .inl m, fun c m => by simp at m, fun c m => by simp at m, by simp⟩
theorem Hd.next {chains : List (List Nat)} {known : List Nat} {s : List Nat × List (List Nat)} (H : Hd al st bk cfn chains known) (M : Md al st bk cfn known chains [] s) : Hd al st bk cfn s.2 s.1 :=
  ⟨M.nd, M.sub, M.r, fun k m => M.old k (H.st_ k m), M.ch, fun k m => by
    rcases M.new k m with m | m
    · rcases H.open_ k m with ⟨c, mc, e⟩ | ⟨e1, e2⟩
      · subst e
        exact .inr (M.dn c mc)
      · exact .inr ⟨e1, fun j mj e => M.old j (e2 j mj e)⟩
    · exact .inl m⟩
theorem Hd.done {known : List Nat} (H : Hd al st bk cfn [] known) : ¬ Found al st bk cfn :=
  closed al st bk cfn H.st_ fun k m => by
    rcases H.open_ k m with ⟨c, mc, _⟩ | q
    · simp at mc
    · exact q
theorem nodup_le : ∀ {xs ys : List Nat}, xs.Nodup → (∀ k ∈ xs, k ∈ ys) → xs.length ≤ ys.length := by
  intro xs
  induction xs with
  | nil => intro ys _ _; simp
  | cons x xs ih =>
    intro ys nd sub
    obtain ⟨n1, n2⟩ := List.nodup_cons.mp nd
    have mx : x ∈ ys := sub x (by simp)
    have := ih (ys := ys.erase x) n2 fun k m => (List.mem_erase_of_ne (fun e => n1 (by rw [← e]; exact m))).mpr (sub k (by simp [m]))
    rw [List.length_erase_of_mem mx] at this
    have : 0 < ys.length := List.length_pos_of_mem mx
    simp only [List.length_cons]
    omega
/-! the law's way: levels -/
structure Lw (t : Nat) (last known : List Nat) : Prop where
  nd : known.Nodup
  sub : ∀ k ∈ known, k ∈ al
  r : ∀ k ∈ known, Reach al st cfn k
  st_ : ∀ k ∈ st, k ∈ known
  la : ∀ k ∈ last, k ∈ known
  open_ : ∀ k ∈ known, k ∈ last ∨ (bk k = false ∧ ∀ j ∈ al, cfn k j = true → j ∈ known)
  len : last ≠ [] → t + 1 ≤ known.length
  ln : last.Nodup
def nextL (al : List Nat) (cfn : Nat → Nat → Bool) (last known : List Nat) : List Nat := al.filter fun j => decide (j ∉ known) && last.any fun k => cfn k j
theorem Lw.next {t : Nat} {last known : List Nat} (nda : al.Nodup) (L : Lw (al := al) (st := st) (bk := bk) (cfn := cfn) t last known) (hb : ∀ k ∈ last, bk k = false) : Lw (al := al) (st := st) (bk := bk) (cfn := cfn) (t + 1) (nextL al cfn last known) (known ++ nextL al cfn last known) := by
  have mem : ∀ k, k ∈ nextL al cfn last known ↔ k ∈ al ∧ k ∉ known ∧ ∃ j ∈ last, cfn j k = true := fun k => by simp [nextL]
  refine ⟨?_, fun k m => ?_, fun k m => ?_, fun k m => List.mem_append_left _ (L.st_ k m), fun k m => List.mem_append_right _ m, fun k m => ?_, fun ne => ?_, ?_⟩
  · rw [List.nodup_append]
    refine ⟨L.nd, nda.sublist List.filter_sublist, fun a ha b hb e => ?_⟩
    subst e
    exact ((mem a).mp hb).2.1 ha
  · rcases List.mem_append.mp m with m | m
    · exact L.sub k m
    · exact ((mem k).mp m).1
  · rcases List.mem_append.mp m with m | m
    · exact L.r k m
    · obtain ⟨m1, m2, j, mj, e⟩ := (mem k).mp m
      exact .go (L.r j (L.la j mj)) m1 e
  · rcases List.mem_append.mp m with m | m
    · rcases L.open_ k m with q | ⟨q1, q2⟩
      · refine .inr ⟨hb k q, fun j mj e => ?_⟩
        by_cases c : j ∈ known
        · exact List.mem_append_left _ c
        · exact List.mem_append_right _ ((mem j).mpr ⟨mj, c, k, q, e⟩)
      · exact .inr ⟨q1, fun j mj e => List.mem_append_left _ (q2 j mj e)⟩
    · exact .inl m
  · have : last ≠ [] := fun e => by
      subst e
      apply ne
      simp [nextL]
    have h1 := L.len this
    have h2 : 0 < (nextL al cfn last known).length := List.length_pos_iff.mpr ne
    rw [List.length_append]
    omega
  · exact nda.sublist List.filter_sublist
theorem Lw.done {t : Nat} {last known : List Nat} (L : Lw (al := al) (st := st) (bk := bk) (cfn := cfn) t last known) (ht : al.length ≤ t) : ¬ Found al st bk cfn := by
  have e : last = [] := Classical.byContradiction fun ne => by
    have h1 := L.len ne
    have h2 := nodup_le L.nd L.sub
    omega
  subst e
  exact closed al st bk cfn L.st_ fun k m => by
    rcases L.open_ k m with q | q
    · simp at q
    · exact q
end
end K94
set_option maxRecDepth 100000
set_option maxHeartbeats 2000000
namespace K94
open PySem PySem.Spec PyProof.Rows L2 VL
def natD (k : Nat) : D := .int (k : Int)
theorem natD.enc : Enc natD := ⟨fun x y e => by simp only [natD, D.int.injEq] at e; omega, fun x => rfl⟩
def chD (c : List Nat) : D := .lst (c.map natD)
def dJ : Jb := (nmN 0 0 0, [])
def jget (js : List Jb) (k : Nat) : Jb := js.getD k dJ
theorem jget_at {js : List Jb} {k : Nat} (hk : k < js.length) : atI (js.map Jb.d) (k : Int) = some (jget js k).d := atI_at (by simp [jget, hk])
theorem jget_le {js : List Jb} (hs : ∀ j ∈ js, j.2.length ≤ 1000) (k : Nat) : (jget js k).2.length ≤ 1000 := by
  unfold jget
  rw [List.getD_eq_getElem?_getD]
  cases e : js[k]? with
  | none => simp [dJ]
  | some j => exact hs j (List.mem_of_getElem? e)
theorem atI_last {c : List Nat} (h : c ≠ []) : atI (c.map natD) (-1) = some (natD (lastN c)) := by
  have hl : 0 < c.length := List.length_pos_iff.mpr h
  unfold atI ixN
  rw [if_neg (by omega), if_pos (by rw [List.length_map]; omega)]
  have : ((-1 : Int) + ((c.map natD).length : Nat)).toNat = c.length - 1 := by rw [List.length_map]; omega
  rw [this]
  simp only [Option.bind_some, List.getElem?_map, lastN, List.getLast?_eq_getElem?]
  cases e : c[c.length - 1]? with
  | none => rw [List.getElem?_eq_none_iff] at e; omega
  | some x => rfl
theorem fzs_vs {l : Ls} {h : Hs} : ∀ (ds : List D), fzs l h (ds.map .v) = some (ds, l, h)
  | [] => fzs_nil
  | d :: ds => by rw [List.map_cons, fzs_cons, fz_v]; simp only []; rw [fzs_vs ds]; rfl
theorem fzs_mapc {β : Type} {f : β → D} {l : Ls} {h : Hs} {xs : List β} {d : D} : fzs l h (xs.map (W.v ∘ f) ++ [.v d]) = some (xs.map f ++ [d], l, h) := by
  have := fzs_vs (l := l) (h := h) (xs.map f ++ [d])
  rw [List.map_append, List.map_map] at this
  exact this
/-! ### the chain -/
section
variable (js : List Jb) (o : Nat)
def alJ : List Nat := ((List.range js.length).filter fun k => decide (k ≠ o)).filter fun k => !bw (jget js o).2 (jget js k).2
def stJ : List Nat := (alJ js o).filter fun k => mw (jget js o).2 (jget js k).2
def bkJ (k : Nat) : Bool := mw (jget js k).2 (jget js o).2
def cfJ (a b : Nat) : Bool := cf (jget js a).2 (jget js b).2
abbrev FoundJ : Prop := Found (alJ js o) (stJ js o) (bkJ js o) (cfJ js)
theorem alJ_lt {k : Nat} (m : k ∈ alJ js o) : k < js.length := List.mem_range.mp (List.mem_filter.mp (List.mem_filter.mp m).1).1
theorem alJ_nd : (alJ js o).Nodup := (List.nodup_range.sublist List.filter_sublist).sublist List.filter_sublist
theorem alJ_len : (alJ js o).length ≤ js.length := by
  have := nodup_le (alJ_nd js o) (ys := List.range js.length) fun k m => List.mem_range.mpr (alJ_lt js o m)
  simpa using this
abbrev sl0 (x5 : Sl) (chains : D) (kn : List Nat) (x8 x9 x10 : Sl) : Ls := [.v (.lst (js.map Jb.d)), .v (natD o), .v (.str "first"), .v (jget js o).d, .v (chD (alJ js o)), x5, .v chains, .m false (chD kn), x8, x9, x10]
variable {js o}
theorem lb8 (hs : ∀ j ∈ js, j.2.length ≤ 1000) {x5 : Sl} (e5 : Jk x5) {cd : D} {s : List Nat × List (List Nat)} {c : List Nat} {k : Nat} (hk : k < js.length) (z1 : s.1.length ≤ 2000) (z2 : s.2.length ≤ 2000) (zc : c.length ≤ 2000) (h : Hs) :
    stepL (gNm 5) lb_chain_for_8 (natD k) (sl0 js o x5 cd s.1 (.v (chD c)) (.m false (.lst (s.2.map chD))) (.v (jget js (lastN c)).d)) h = .ok .nx (sl0 js o (.v (natD k)) cd (growF (cfJ js) c s k).1 (.v (chD c)) (.m false (.lst ((growF (cfJ js) c s k).2.map chD))) (.v (jget js (lastN c)).d)) h := by
  have ci := natD.enc.inL k s.1
  have ja := jget_at hk
  have cc := fun h => conflict_ok (jget js (lastN c)) (jget js k) (jget_le hs _) (jget_le hs _) h
  have w1 := szN (n := s.1.length + 1) (by omega)
  have w2 := szN (n := s.2.length + 1) (by omega)
  have w3 := szN (n := c.length + 1) (by omega)
  have ecf : cfJ js (lastN c) k = cf (jget js (lastN c)).2 (jget js k).2 := rfl
  rw [← ecf] at cc
  simp only [natD] at ci
  unfold sl0
  generalize (jget js (lastN c)).d = A at *
  generalize (jget js k).d = B at *
  generalize hG : js.map Jb.d = G at *
  rcases e5 with rfl | ⟨_, rfl⟩ <;> by_cases c1 : k ∈ s.1 <;> cases c2 : cfJ js (lastN c) k <;>
  simp [lb_chain_for_8, chD, natD, ci, ja, cc, w1, w2, w3, growF, c1, c2, fzs_mapc]

/-- one chain of a level -/
theorem lb9 (hj : js.length ≤ 1000) (hs : ∀ j ∈ js, j.2.length ≤ 1000) (ho : o < js.length) {x5 x8 x10 : Sl} (e5 : Jk x5) (e8 : Jk x8) (e10 : Jk x10) {cd : D} {chains : List (List Nat)} {known : List Nat} {done rest : List (List Nat)} {s : List Nat × List (List Nat)} {c : List Nat}
    (H : Hd (alJ js o) (stJ js o) (bkJ js o) (cfJ js) chains known) (M : Md (alJ js o) (stJ js o) (bkJ js o) (cfJ js) known done (c :: rest) s) (hc : c ∈ chains) (h : Hs) :
    ∃ x5' x8' x10', Jk x5' ∧ Jk x8' ∧ Jk x10' ∧ stepL (gNm 8) lb_chain_for_9 (chD c) (sl0 js o x5 cd s.1 x8 (.m false (.lst (s.2.map chD))) x10) h =
      (if bkJ js o (lastN c) = true then .ok (.rt (.v (chD c))) (sl0 js o x5' cd s.1 x8' (.m false (.lst (s.2.map chD))) x10') h
      else .ok .nx (sl0 js o x5' cd (levF (alJ js o) (cfJ js) s c).1 x8' (.m false (.lst ((levF (alJ js o) (cfJ js) s c).2.map chD))) x10') h) := by
  have al := alJ_len js o
  obtain ⟨c1, c2, c3, c4⟩ := H.ch c hc
  have kal := nodup_le H.nd H.sub
  have lk : lastN c < js.length := alJ_lt js o (H.sub _ c3)
  have jl := jget_at lk
  have la := atI_last c1
  have cb := fun h => comes_back_ok (jget js o) (jget js (lastN c)) (jget_le hs _) (jget_le hs _) h
  have eb : bkJ js o (lastN c) = mw (jget js (lastN c)).2 (jget js o).2 := rfl
  rw [← eb] at cb
  -- the inner loop
  have inner : ∀ (xs : List Nat) (x5 : Sl) (s : List Nat × List (List Nat)), Jk x5 → s.1.length + xs.length ≤ 2000 → s.2.length + xs.length ≤ 2000 → (∀ k ∈ xs, k < js.length) → ∃ x5', Jk x5' ∧ forL (gNm 5) lb_chain_for_8 (xs.map natD) (sl0 js o x5 cd s.1 (.v (chD c)) (.m false (.lst (s.2.map chD))) (.v (jget js (lastN c)).d)) h =
      .ok .nx (sl0 js o x5' cd (xs.foldl (growF (cfJ js) c) s).1 (.v (chD c)) (.m false (.lst ((xs.foldl (growF (cfJ js) c) s).2.map chD))) (.v (jget js (lastN c)).d)) h := by
    intro xs
    induction xs with
    | nil => exact fun x5 s e5 _ _ _ => ⟨x5, e5, rfl⟩
    | cons k xs ih =>
      intro x5 s e5 z1 z2 hk
      simp only [List.length_cons] at z1 z2
      have st := lb8 (o := o) (x5 := x5) hs e5 (cd := cd) (s := s) (c := c) (k := k) (hk k (by simp)) (by omega) (by omega) (by omega) h
      have g1 : (growF (cfJ js) c s k).1.length ≤ s.1.length + 1 := by unfold growF; split <;> simp
      have g2 : (growF (cfJ js) c s k).2.length ≤ s.2.length + 1 := by unfold growF; split <;> simp
      obtain ⟨x5', e5', q⟩ := ih (.v (natD k)) (growF (cfJ js) c s k) Jk.v (by omega) (by omega) fun j m => hk j (by simp [m])
      exact ⟨x5', e5', by rw [List.map_cons, forL_nx st]; exact q⟩
  have sl := nodup_le M.nd M.sub
  have sl2 := M.len
  obtain ⟨x5', e5', q⟩ := inner (alJ js o) x5 s e5 (by omega) (by omega) fun k m => alJ_lt js o m
  unfold levF
  generalize (List.foldl (growF (cfJ js) c) s (alJ js o)) = s' at *
  simp only [natD] at la
  unfold sl0 at q ⊢
  simp only [chD] at q
  generalize hA : (jget js (lastN c)).d = A at *
  generalize hB : (jget js o).d = B at *
  generalize hG : js.map Jb.d = G at *
  by_cases cbk : bkJ js o (lastN c) = true
  · rw [cbk] at cb
    refine ⟨x5, .v (chD c), .v A, e5, Jk.v, Jk.v, ?_⟩
    rw [if_pos cbk]
    rcases e8 with rfl | ⟨_, rfl⟩ <;> rcases e10 with rfl | ⟨_, rfl⟩ <;>
    simp [lb_chain_for_9, chD, natD, la, jl, cb]
  · have cbk' : bkJ js o (lastN c) = false := by simpa using cbk
    rw [cbk'] at cb
    refine ⟨x5', .v (chD c), .v A, e5', Jk.v, Jk.v, ?_⟩
    rw [if_neg cbk]
    rw [show natD o = D.int (o : Int) from rfl] at q
    rcases e8 with rfl | ⟨_, rfl⟩ <;> rcases e10 with rfl | ⟨_, rfl⟩ <;>
    simp [lb_chain_for_9, chD, natD, la, jl, cb, q]
/-- a level -/
theorem level (hj : js.length ≤ 1000) (hs : ∀ j ∈ js, j.2.length ≤ 1000) (ho : o < js.length) {cd : D} {chains : List (List Nat)} {known : List Nat} (H : Hd (alJ js o) (stJ js o) (bkJ js o) (cfJ js) chains known) (h : Hs) :
    ∀ (rest done : List (List Nat)) (s : List Nat × List (List Nat)) (x5 x8 x10 : Sl), Jk x5 → Jk x8 → Jk x10 → Md (alJ js o) (stJ js o) (bkJ js o) (cfJ js) known done rest s → (∀ c ∈ rest, c ∈ chains) →
      ∃ x5' x8' x10', Jk x5' ∧ Jk x8' ∧ Jk x10' ∧
        ((∃ (s' : List Nat × List (List Nat)), Md (alJ js o) (stJ js o) (bkJ js o) (cfJ js) known (done ++ rest) [] s' ∧ forL (gNm 8) lb_chain_for_9 (rest.map chD) (sl0 js o x5 cd s.1 x8 (.m false (.lst (s.2.map chD))) x10) h = .ok .nx (sl0 js o x5' cd s'.1 x8' (.m false (.lst (s'.2.map chD))) x10') h) ∨
        (∃ (c : List Nat) (s' : List Nat × List (List Nat)), c ∈ chains ∧ bkJ js o (lastN c) = true ∧ forL (gNm 8) lb_chain_for_9 (rest.map chD) (sl0 js o x5 cd s.1 x8 (.m false (.lst (s.2.map chD))) x10) h = .ok (.rt (.v (chD c))) (sl0 js o x5' cd s'.1 x8' (.m false (.lst (s'.2.map chD))) x10') h)) := by
  intro rest
  induction rest with
  | nil => exact fun done s x5 x8 x10 e5 e8 e10 M _ => ⟨x5, x8, x10, e5, e8, e10, .inl ⟨s, by rw [List.append_nil]; exact M, rfl⟩⟩
  | cons c rest ih =>
    intro done s x5 x8 x10 e5 e8 e10 M sub
    obtain ⟨y5, y8, y10, f5, f8, f10, q⟩ := lb9 hj hs ho e5 e8 e10 (cd := cd) H M (sub c (by simp)) h
    by_cases cb : bkJ js o (lastN c) = true
    · rw [if_pos cb] at q
      exact ⟨y5, y8, y10, f5, f8, f10, .inr ⟨c, s, sub c (by simp), cb, by rw [List.map_cons, forL_rt q]⟩⟩
    · rw [if_neg cb] at q
      have M' := M.step H (sub c (by simp)) (by simpa using cb)
      obtain ⟨z5, z8, z10, g5, g8, g10, r⟩ := ih (done ++ [c]) _ y5 y8 y10 f5 f8 f10 M' fun c' m => sub c' (by simp [m])
      refine ⟨z5, z8, z10, g5, g8, g10, ?_⟩
      rw [List.map_cons, forL_nx q]
      rw [List.append_assoc, List.singleton_append] at r
      exact r
/-- the loop -/
theorem chain_loop (hj : js.length ≤ 1000) (hs : ∀ j ∈ js, j.2.length ≤ 1000) (ho : o < js.length) (h : Hs) : ∀ (m : Nat) (chains : List (List Nat)) (known : List Nat) (x5 x8 x9 x10 : Sl), 2 * ((alJ js o).length - known.length) + (if chains = [] then 0 else 1) ≤ m → Hd (alJ js o) (stJ js o) (bkJ js o) (cfJ js) chains known → Jk x5 → Jk x8 → Jk x9 → Jk x10 →
    ∃ n cd' known' x5' x8' x9' x10', ((¬ FoundJ js o ∧ whL wc_chain_for_10 wb_chain_for_11 n (sl0 js o x5 (.lst (chains.map chD)) known x8 x9 x10) h = .ok .nx (sl0 js o x5' cd' known' x8' x9' x10') h) ∨
      (∃ c, FoundJ js o ∧ whL wc_chain_for_10 wb_chain_for_11 n (sl0 js o x5 (.lst (chains.map chD)) known x8 x9 x10) h = .ok (.rt (.v (chD c))) (sl0 js o x5' cd' known' x8' x9' x10') h)) := by
  intro m
  induction m with
  | zero =>
    intro chains known x5 x8 x9 x10 hm H e5 e8 e9 e10
    have hc : chains = [] := by
      by_cases c : chains = []
      · exact c
      · rw [if_neg c] at hm; omega
    subst hc
    refine ⟨1, .lst [], known, x5, x8, x9, x10, .inl ⟨H.done, ?_⟩⟩
    unfold sl0 whL
    simp [wc_chain_for_10]
  | succ m ih =>
    intro chains known x5 x8 x9 x10 hm H e5 e8 e9 e10
    by_cases hc : chains = []
    · subst hc
      refine ⟨1, .lst [], known, x5, x8, x9, x10, .inl ⟨H.done, ?_⟩⟩
      unfold sl0 whL
      simp [wc_chain_for_10]
    · rw [if_neg hc] at hm
      have z0 := szN (n := 0) (by omega)
      have hpos : 0 < chains.length := List.length_pos_iff.mpr hc
      have kal := nodup_le H.nd H.sub
      obtain ⟨y5, y8, y10, f5, f8, f10, q⟩ := level hj hs ho (cd := .lst (chains.map chD)) H h chains [] (known, []) x5 x8 x10 e5 e8 e10 H.start (fun c m => m)
      rcases q with ⟨s', M, q⟩ | ⟨c, s', mc, cb, q⟩
      · have H' := H.next M
        have sl := nodup_le M.nd M.sub
        have ml := M.len
        have dec : 2 * ((alJ js o).length - s'.1.length) + (if s'.2 = [] then 0 else 1) ≤ m := by
          by_cases c2 : s'.2 = []
          · rw [if_pos c2]; omega
          · rw [if_neg c2]
            have : 0 < s'.2.length := List.length_pos_iff.mpr c2
            omega
        obtain ⟨n, cd', known', w5, w8, w9, w10, r⟩ := ih s'.2 s'.1 y5 y8 (.v (.lst (s'.2.map chD))) y10 dec H' f5 f8 Jk.v f10
        refine ⟨n + 1, cd', known', w5, w8, w9, w10, ?_⟩
        have e : whL wc_chain_for_10 wb_chain_for_11 (n + 1) (sl0 js o x5 (.lst (chains.map chD)) known x8 x9 x10) h = whL wc_chain_for_10 wb_chain_for_11 n (sl0 js o y5 (.lst (s'.2.map chD)) s'.1 y8 (.v (.lst (s'.2.map chD))) y10) h := by
          conv => lhs; unfold whL
          unfold sl0 at q ⊢
          simp only [List.map_nil] at q
          have hl : 0 < (chains.map chD).length := by rw [List.length_map]; exact hpos
          generalize chains.map chD = C at *
          generalize s'.2.map chD = C' at *
          rcases e9 with rfl | ⟨_, rfl⟩ <;> simp [wc_chain_for_10, wb_chain_for_11, hl, z0, q]
        rw [e]
        exact r
      · have fd : FoundJ js o := ⟨lastN c, H.r _ (H.ch c mc).2.2.1, cb⟩
        refine ⟨1, .lst (chains.map chD), s'.1, y5, y8, .m false (.lst (s'.2.map chD)), y10, .inr ⟨c, fd, ?_⟩⟩
        unfold whL
        unfold sl0 at q ⊢
        simp only [List.map_nil] at q
        have hl : 0 < (chains.map chD).length := by rw [List.length_map]; exact hpos
        generalize chains.map chD = C at *
        generalize s'.2.map chD = C' at *
        rcases e9 with rfl | ⟨_, rfl⟩ <;> simp [wc_chain_for_10, wb_chain_for_11, hl, z0, q]
end
end K94
set_option maxRecDepth 100000
set_option maxHeartbeats 2000000
namespace K94
open PySem PySem.Spec PyProof.Rows L2 VL
theorem fm_if {β γ : Type} (p : β → Bool) (f : β → γ) : ∀ xs : List β, (xs.filterMap fun k => if p k = true then some (f k) else none) = (xs.filter p).map f
  | [] => rfl
  | x :: xs => by
    rw [List.filterMap_cons, fm_if p f xs, List.filter_cons]
    cases p x <;> simp
section
variable {js : List Jb} {o : Nat}
theorem start_hd : Hd (alJ js o) (stJ js o) (bkJ js o) (cfJ js) ((stJ js o).map fun k => [k]) (stJ js o) := by
  refine ⟨(alJ_nd js o).sublist List.filter_sublist, fun k m => (List.mem_filter.mp m).1, fun k m => .st m, fun k m => m, fun c m => ?_, fun k m => .inl ⟨[k], List.mem_map.mpr ⟨k, m, rfl⟩, rfl⟩⟩
  obtain ⟨k, mk, rfl⟩ := List.mem_map.mp m
  refine ⟨by simp, fun x mx => ?_, mk, List.length_pos_of_mem mk⟩
  have : x = k := by simpa using mx
  rw [this]
  exact (List.mem_filter.mp mk).1
theorem chain_for_ok (hj : js.length ≤ 1000) (hs : ∀ j ∈ js, j.2.length ≤ 1000) (ho : o < js.length) (h : Hs) :
    (¬ FoundJ js o ∧ g_chain_for [.v (.lst (js.map Jb.d)), .v (natD o), .v (.str "first")] h = .ok (.v .non) [.v (.lst (js.map Jb.d)), .v (natD o), .v (.str "first")] h) ∨
    (∃ c, FoundJ js o ∧ g_chain_for [.v (.lst (js.map Jb.d)), .v (natD o), .v (.str "first")] h = .ok (.v (chD c)) [.v (.lst (js.map Jb.d)), .v (natD o), .v (.str "first")] h) := by
  obtain ⟨n, cd', known', x5', x8', x9', x10', L⟩ := chain_loop hj hs ho h _ ((stJ js o).map fun k => [k]) (stJ js o) .e .e .e .e (Nat.le_refl _) start_hd Jk.e Jk.e Jk.e Jk.e
  have al := alJ_len js o
  have jo := jget_at ho
  have zn := szN (n := js.length) (by omega)
  have z1 := szN (n := 1) (by omega)
  have za : ∀ xs : List Nat, xs.length ≤ js.length → sz xs.length = true := fun xs q => szN (by omega)
  -- the comprehensions
  have a1 : ∀ L0 : List D, L0 = js.map Jb.d → lcL (gNm 5) ct_chain_for_1 ce_chain_for_2 [5] ((List.range js.length).map natD) [] [.v (.lst L0), .v (.int o), .v (.str "first"), .v (jget js o).d, .e, .e, .e, .e, .e, .e, .e] h = .ok (((List.range js.length).filter fun k => decide (k ≠ o)).map natD) [.v (.lst L0), .v (.int o), .v (.str "first"), .v (jget js o).d, .e, .e, .e, .e, .e, .e, .e] h := fun L0 _ => by
    have := lcL_map (g := gNm 5) (ft := ct_chain_for_1) (fe := ce_chain_for_2) (vs := [5]) (l := [.v (.lst L0), .v (.int o), .v (.str "first"), .v (jget js o).d, .e, .e, .e, .e, .e, .e, .e]) (h := h) (fun k => if k ≠ o then some (natD k) else none) natD (List.range js.length) [] fun k m => by
      by_cases c : k = o
      · subst c
        simp [ct_chain_for_1, ce_chain_for_2, natD]
      · have c' : ¬ (k : Int) = o := by omega
        simp [ct_chain_for_1, ce_chain_for_2, natD, c, c']
    rw [this, List.nil_append, ← fm_if]
    congr 2
    funext k
    by_cases c : k = o <;> simp [c]
  have a2 : ∀ (x4 : Sl) (L0 : List D), L0 = js.map Jb.d → lcL (gNm 5) ct_chain_for_3 ce_chain_for_4 [5] (((List.range js.length).filter fun k => decide (k ≠ o)).map natD) [] [.v (.lst L0), .v (.int o), .v (.str "first"), .v (jget js o).d, x4, .e, .e, .e, .e, .e, .e] h = .ok ((alJ js o).map natD) [.v (.lst L0), .v (.int o), .v (.str "first"), .v (jget js o).d, x4, .e, .e, .e, .e, .e, .e] h := fun x4 L0 e0 => by
    have := lcL_map (g := gNm 5) (ft := ct_chain_for_3) (fe := ce_chain_for_4) (vs := [5]) (l := [.v (.lst L0), .v (.int o), .v (.str "first"), .v (jget js o).d, x4, .e, .e, .e, .e, .e, .e]) (h := h) (fun k => if !bw (jget js o).2 (jget js k).2 then some (natD k) else none) natD ((List.range js.length).filter fun k => decide (k ≠ o)) [] fun k m => by
      have hk : k < js.length := List.mem_range.mp (List.mem_filter.mp m).1
      have jk := jget_at hk
      have bwk := fun h => both_write_ok (jget js o) (jget js k) (jget_le hs _) (jget_le hs _) h
      rw [← e0] at jk
      generalize (jget js k).d = B at *
      generalize (jget js o).d = A at *
      cases c : bw (jget js o).2 (jget js k).2 <;> simp [ct_chain_for_3, ce_chain_for_4, natD, jk, bwk, c]
    rw [this, List.nil_append, fm_if]
    rfl
  have a3 : ∀ (L0 : List D), L0 = js.map Jb.d → lcL (gNm 5) ct_chain_for_5 ce_chain_for_6 [5] ((alJ js o).map natD) [] [.v (.lst L0), .v (.int o), .v (.str "first"), .v (jget js o).d, .v (.lst ((alJ js o).map natD)), .e, .e, .e, .e, .e, .e] h = .ok (((stJ js o).map fun k => [k]).map chD) [.v (.lst L0), .v (.int o), .v (.str "first"), .v (jget js o).d, .v (.lst ((alJ js o).map natD)), .e, .e, .e, .e, .e, .e] h := fun L0 e0 => by
    have := lcL_map (g := gNm 5) (ft := ct_chain_for_5) (fe := ce_chain_for_6) (vs := [5]) (l := [.v (.lst L0), .v (.int o), .v (.str "first"), .v (jget js o).d, .v (.lst ((alJ js o).map natD)), .e, .e, .e, .e, .e, .e]) (h := h) (fun k => if mw (jget js o).2 (jget js k).2 then some (chD [k]) else none) natD (alJ js o) [] fun k m => by
      have hk := alJ_lt js o m
      have jk := jget_at hk
      have mwk := fun h => misses_write_ok (jget js o) (jget js k) (jget_le hs _) (jget_le hs _) h
      rw [← e0] at jk
      generalize (jget js k).d = B at *
      generalize (jget js o).d = A at *
      cases c : mw (jget js o).2 (jget js k).2 <;> simp [ct_chain_for_5, ce_chain_for_6, natD, chD, jk, mwk, c, z1]
    rw [this, List.nil_append, fm_if, List.map_map]
    rfl
  have a4 : ∀ (L0 : List D), lcL (gNm 8) fYes ce_chain_for_7 [8] (((stJ js o).map fun k => [k]).map chD) [] [.v (.lst L0), .v (.int o), .v (.str "first"), .v (jget js o).d, .v (.lst ((alJ js o).map natD)), .e, .v (.lst (((stJ js o).map fun k => [k]).map chD)), .e, .e, .e, .e] h = .ok ((stJ js o).map natD) [.v (.lst L0), .v (.int o), .v (.str "first"), .v (jget js o).d, .v (.lst ((alJ js o).map natD)), .e, .v (.lst (((stJ js o).map fun k => [k]).map chD)), .e, .e, .e, .e] h := fun L0 => by
    have := lcL_map (g := gNm 8) (ft := fYes) (fe := ce_chain_for_7) (vs := [8]) (l := [.v (.lst L0), .v (.int o), .v (.str "first"), .v (jget js o).d, .v (.lst ((alJ js o).map natD)), .e, .v (.lst (((stJ js o).map fun k => [k]).map chD)), .e, .e, .e, .e]) (h := h) (fun k => some (natD k)) (fun k : Nat => chD [k]) (stJ js o) [] fun k m => by
      simp [ce_chain_for_7, chD]
    rw [List.map_map]
    rw [show (chD ∘ fun k => [k]) = (fun k : Nat => chD [k]) from rfl]
    rw [List.map_map] at this
    rw [show (chD ∘ fun k => [k]) = (fun k : Nat => chD [k]) from rfl] at this
    rw [this, List.nil_append, List.filterMap_eq_map']
  have st_len : (stJ js o).length ≤ js.length := Nat.le_trans (List.length_filter_le _ _) al
  have f_len : ((List.range js.length).filter fun k => decide (k ≠ o)).length ≤ js.length := by have := List.length_filter_le (fun k => decide (k ≠ o)) (List.range js.length); simpa using this
  have zf : sz (((List.range js.length).filter fun k => decide (k ≠ o)).map natD).length = true := by rw [List.length_map]; exact za _ f_len
  have zal := za _ al
  have zst := za _ st_len
  have r1 : ∀ l, rng1 l h [.v (.int (js.length : Int))] = .ok ((List.range js.length).map natD) l h := fun l => rng1_nat (by omega)
  have hLl : (js.map Jb.d).length = js.length := List.length_map _
  have hCl : (((stJ js o).map fun k => [k]).map chD).length = (stJ js o).length := by simp
  have hRg : ((List.range js.length).map natD).length = js.length := by simp
  have a1 := a1 _ rfl
  have a2 := fun x4 => a2 x4 _ rfl
  have a3 := a3 _ rfl
  have a4 := a4 (js.map Jb.d)
  unfold sl0 at L
  simp only [chD] at L
  rw [show natD o = D.int (o : Int) from rfl] at L ⊢
  generalize hA : (jget js o).d = A at *
  generalize hG : js.map Jb.d = G at *
  generalize (List.range js.length).map natD = Rg at *
  generalize (((List.range js.length).filter fun k => decide (k ≠ o)).map natD) = Fi at *
  generalize (((stJ js o).map fun k => [k]).map chD) = Cs at *
  rcases L with ⟨nf, L⟩ | ⟨c, fd, L⟩
  · refine .inl ⟨nf, ?_⟩
    have w := sWhile_eq n L (by intro z; cases z)
    simp [g_chain_for, ap_run, b_chain_for, jo, hLl, r1, hRg, zn, a1, zf, a2, zal, a3, hCl, zst, a4, w]
  · refine .inr ⟨c, fd, ?_⟩
    have w := sWhile_eq n L (by intro z; cases z)
    simp [g_chain_for, ap_run, b_chain_for, jo, hLl, r1, hRg, zn, a1, zf, a2, zal, a3, hCl, zst, a4, w, chD]
end
end K94
set_option maxRecDepth 100000
set_option maxHeartbeats 2000000
namespace K94
open PySem PySem.Spec PyProof.Rows L2 VL
section
variable {js : List Jb}
theorem split_init (o : Nat) (c : List Nat) (h : Hs) : ∃ d : D, VL.isNon d = false ∧ g_Split___init__ [.m true (.ins "Split" [] []), .v (bookD js), .v (.int (o : Int)), .v (chD c), .v (.str "first")] h = .ok (.v .non) [.m true d, .v (bookD js), .v (.int (o : Int)), .v (chD c), .v (.str "first")] h := by
  refine ⟨.ins "Split" ["jobs", "outer", "chain", "policy"] [.lst (js.map Jb.d), .int o, .tup (c.map natD), .str "first"], rfl, ?_⟩
  simp [g_Split___init__, ap_run, b_Split___init__, bookD, ownD, chD]
theorem split_loop (hj : js.length ≤ 1000) (hs : ∀ j ∈ js, j.2.length ≤ 1000) (h : Hs) : ∀ (ks : List Nat) (x3 x4 : Sl), Jk x3 → Jk x4 → (∀ k ∈ ks, k < js.length) →
    ((∀ k ∈ ks, ¬ FoundJ js k) ∧ ∃ x3' x4', forL (gNm 3) lb_find_split_1 (ks.map natD) [.v (bookD js), .v (.str "first"), .v (.lst (js.map Jb.d)), x3, x4] h = .ok .nx [.v (bookD js), .v (.str "first"), .v (.lst (js.map Jb.d)), x3', x4'] h) ∨
    ((∃ k ∈ ks, FoundJ js k) ∧ ∃ (d : D) (x3' x4' : Sl), VL.isNon d = false ∧ forL (gNm 3) lb_find_split_1 (ks.map natD) [.v (bookD js), .v (.str "first"), .v (.lst (js.map Jb.d)), x3, x4] h = .ok (.rt (.v d)) [.v (bookD js), .v (.str "first"), .v (.lst (js.map Jb.d)), x3', x4'] h) := by
  intro ks
  induction ks with
  | nil => exact fun x3 x4 e3 e4 _ => .inl ⟨by simp, x3, x4, rfl⟩
  | cons k ks ih =>
    intro x3 x4 e3 e4 hk
    have kl := hk k (by simp)
    rcases chain_for_ok hj hs kl h with ⟨nf, e⟩ | ⟨c, fd, e⟩
    · have st : stepL (gNm 3) lb_find_split_1 (natD k) [.v (bookD js), .v (.str "first"), .v (.lst (js.map Jb.d)), x3, x4] h = .ok .nx [.v (bookD js), .v (.str "first"), .v (.lst (js.map Jb.d)), .v (natD k), .v .non] h := by
        generalize js.map Jb.d = G at *
        rw [show natD k = D.int (k : Int) from rfl] at *
        rcases e3 with rfl | ⟨_, rfl⟩ <;> rcases e4 with rfl | ⟨_, rfl⟩ <;> simp [lb_find_split_1, e, gIsN, gIsQ, VL.isNon]
      rw [List.map_cons, forL_nx st]
      rcases ih (.v (natD k)) (.v .non) Jk.v Jk.v (fun j m => hk j (by simp [m])) with ⟨a, b⟩ | ⟨⟨j, mj, fj⟩, b⟩
      · refine .inl ⟨fun j m => ?_, b⟩
        rcases List.mem_cons.mp m with m | m
        · rw [m]; exact nf
        · exact a j m
      · exact .inr ⟨⟨j, by simp [mj], fj⟩, b⟩
    · obtain ⟨d, dn, si⟩ := split_init (js := js) k c h
      have st : stepL (gNm 3) lb_find_split_1 (natD k) [.v (bookD js), .v (.str "first"), .v (.lst (js.map Jb.d)), x3, x4] h = .ok (.rt (.v d)) [.v (bookD js), .v (.str "first"), .v (.lst (js.map Jb.d)), .v (natD k), .v (chD c)] h := by
        generalize js.map Jb.d = G at *
        rw [show natD k = D.int (k : Int) from rfl] at *
        have nn : VL.isNon (chD c) = false := rfl
        generalize chD c = C at *
        rcases e3 with rfl | ⟨_, rfl⟩ <;> rcases e4 with rfl | ⟨_, rfl⟩ <;> simp [lb_find_split_1, e, gIsN, gIsQ, nn, si]
      refine .inr ⟨⟨k, by simp, fd⟩, d, .v (natD k), .v (chD c), dn, ?_⟩
      rw [List.map_cons, forL_rt st]
theorem robust_ok (hj : js.length ≤ 1000) (hs : ∀ j ∈ js, j.2.length ≤ 1000) (h : Hs) : ∃ b : Bool, (b = true ↔ ∀ o, o < js.length → ¬ FoundJ js o) ∧ g_is_robust [.v (bookD js), .v (.str "first")] h = .ok (.v (.bl b)) [.v (bookD js), .v (.str "first")] h := by
  have r1 : ∀ l, rng1 l h [.v (.int (js.length : Int))] = .ok ((List.range js.length).map natD) l h := fun l => rng1_nat (by omega)
  have hLl : (js.map Jb.d).length = js.length := List.length_map _
  rcases split_loop hj hs h (List.range js.length) .e .e Jk.e Jk.e (fun k m => List.mem_range.mp m) with ⟨nf, x3, x4, e⟩ | ⟨⟨k, mk, fd⟩, d, x3, x4, dn, e⟩
  · refine ⟨true, by simp; exact fun o ho => nf o (List.mem_range.mpr ho), ?_⟩
    unfold bookD at *
    generalize js.map Jb.d = G at *
    simp [g_is_robust, ap_run, b_is_robust, g_find_split, b_find_split, ownD, hLl, r1, e, gIsA, gIsQ, VL.isNon]
  · refine ⟨false, by simp; exact ⟨k, List.mem_range.mp mk, fd⟩, ?_⟩
    unfold bookD at *
    generalize js.map Jb.d = G at *
    simp [g_is_robust, ap_run, b_is_robust, g_find_split, b_find_split, ownD, hLl, r1, e, gIsA, gIsQ, dn]
end
/-! ### the law's own way -/
theorem filter_len {β : Type} (p : β → Bool) (xs : List β) : (0 < (xs.filter p).length) ↔ xs.any p = true := by
  rw [List.length_pos_iff, Ne, List.filter_eq_nil_iff]
  simp
theorem jmeet_ok (xs ys : List Cl) (hx : xs.length ≤ 1000) (h : Hs) : g__law_jmeet [.v (.lst (xs.map Cl.d)), .v (.lst (ys.map Cl.d))] h = .ok (.v (.bl (meet xs ys))) [.v (.lst (xs.map Cl.d)), .v (.lst (ys.map Cl.d))] h := by
  have z := szN (n := xs.length) (by omega)
  have lc := lcL_map (g := gNm 2) (ft := ct__law_jmeet_1) (fe := ce__law_jmeet_2) (vs := [2]) (l := [.v (.lst (xs.map Cl.d)), .v (.lst (ys.map Cl.d)), .e]) (h := h) (fun c => if decide (c ∈ ys) = true then some (Cl.d c) else none) Cl.d xs [] fun c m => by
    have ci := Cl.enc.inL c ys
    by_cases q : c ∈ ys <;> simp [ct__law_jmeet_1, ce__law_jmeet_2, ci, q]
  rw [fm_if, List.nil_append] at lc
  have fl := filter_len (fun c => decide (c ∈ ys)) xs
  have hx' : (xs.map Cl.d).length = xs.length := List.length_map _
  have hm : decide ((0 : Int) < (((xs.filter fun c => decide (c ∈ ys)).map Cl.d).length : Int)) = meet xs ys := by
    rw [List.length_map]
    unfold meet
    cases q : xs.any fun c => decide (c ∈ ys) with
    | true => simp only [decide_eq_true_eq]; have := fl.mpr q; omega
    | false =>
      simp only [decide_eq_false_iff_not]
      intro z
      rw [fl.mp (by omega)] at q
      cases q
  generalize ((xs.filter fun c => decide (c ∈ ys)).map Cl.d) = F at *
  generalize xs.map Cl.d = X at *
  rw [← hm]
  simp [g__law_jmeet, ap_run, b__law_jmeet, hx', z, lc]
theorem jclash_ok (a b : List Stp) (ha : a.length ≤ 1000) (hb : b.length ≤ 1000) (h : Hs) : g__law_jclash [.v (.lst (a.map Stp.d)), .v (.lst (b.map Stp.d))] h = .ok (.v (.bl (cf a b))) [.v (.lst (a.map Stp.d)), .v (.lst (b.map Stp.d))] h := by
  have j1 := fun h => jcells_ok a ha true h
  have j2 := fun h => jcells_ok a ha false h
  have j3 := fun h => jcells_ok b hb true h
  have j4 := fun h => jcells_ok b hb false h
  have m1 := fun h => jmeet_ok (wc a) (wc b) (Nat.le_trans (wc_len _) ha) h
  have m2 := fun h => jmeet_ok (rc a) (wc b) (Nat.le_trans (rc_len _) ha) h
  have m3 := fun h => jmeet_ok (rc b) (wc a) (Nat.le_trans (rc_len _) hb) h
  simp only [if_true, Bool.false_eq_true, if_false] at j1 j2 j3 j4
  generalize a.map Stp.d = A at *
  generalize b.map Stp.d = B at *
  unfold cf bw mw
  cases c1 : meet (wc a) (wc b) <;> cases c2 : meet (rc a) (wc b) <;> cases c3 : meet (rc b) (wc a) <;>
    simp [g__law_jclash, ap_run, b__law_jclash, j1, j2, j3, j4, m1, m2, m3, c1, c2, c3]
end K94
set_option maxRecDepth 100000
set_option maxHeartbeats 2000000
namespace K94
open PySem PySem.Spec PyProof.Rows L2 VL
section
variable {js : List Jb} {o : Nat}
abbrev rowL (js : List Jb) : List D := js.map fun j => .lst (j.2.map Stp.d)
theorem jrow_at {k : Nat} (hk : k < js.length) : atI (rowL js) (k : Int) = some (.lst ((jget js k).2.map Stp.d)) := atI_at (by simp [jget, hk])
abbrev sl1 (js : List Jb) (o : Nat) (x6 : Sl) (last known : List Nat) (x9 x10 : Sl) : Ls := [.v (.lst (rowL js)), .v (.int (o : Int)), .v (.str "first"), .v (.lst ((wc (jget js o).2).map Cl.d)), .v (.lst ((rc (jget js o).2).map Cl.d)), .v (.lst ((alJ js o).map natD)), x6, .v (.lst (last.map natD)), .v (.lst (known.map natD)), x9, x10]
theorem jback (hs : ∀ j ∈ js, j.2.length ≤ 1000) (m : Nat) (last known : List Nat) (x10 : Sl) (h : Hs) : ∀ (ks : List Nat) (x6 : Sl), Jk x6 → (∀ k ∈ ks, k < js.length) → ∃ x6', Jk x6' ∧
    forL (gNm 6) lb__law_jchain_7 (ks.map natD) (sl1 js o x6 last known (.v (.int (m : Int))) x10) h = (if ks.any (bkJ js o) = true then .ok (.rt (.v (.int (m : Int)))) (sl1 js o x6' last known (.v (.int (m : Int))) x10) h else .ok .nx (sl1 js o x6' last known (.v (.int (m : Int))) x10) h) := by
  intro ks
  induction ks with
  | nil => exact fun x6 e6 _ => ⟨x6, e6, rfl⟩
  | cons k ks ih =>
    intro x6 e6 hk
    have kl := hk k (by simp)
    have jr := jrow_at kl
    have j1 := fun h => jcells_ok (jget js k).2 (jget_le hs _) true h
    have m1 := fun h => jmeet_ok (rc (jget js k).2) (wc (jget js o).2) (Nat.le_trans (rc_len _) (jget_le hs _)) h
    simp only [if_true] at j1
    have eb : meet (rc (jget js k).2) (wc (jget js o).2) = bkJ js o k := rfl
    rw [eb] at m1
    have st : stepL (gNm 6) lb__law_jchain_7 (natD k) (sl1 js o x6 last known (.v (.int (m : Int))) x10) h = (if bkJ js o k = true then .ok (.rt (.v (.int (m : Int)))) (sl1 js o (.v (natD k)) last known (.v (.int (m : Int))) x10) h else .ok .nx (sl1 js o (.v (natD k)) last known (.v (.int (m : Int))) x10) h) := by
      unfold sl1
      generalize (jget js k).2.map Stp.d = A at *
      generalize (rc (jget js k).2).map Cl.d = B at *
      generalize (wc (jget js o).2).map Cl.d = C at *
      generalize rowL js = R at *
      rw [show natD k = D.int (k : Int) from rfl]
      cases c : bkJ js o k <;> rw [c] at m1 <;> rcases e6 with rfl | ⟨_, rfl⟩ <;>
      simp [lb__law_jchain_7, jr, j1, m1]
    cases c : bkJ js o k with
    | true =>
      rw [c] at st
      exact ⟨.v (natD k), Jk.v, by rw [List.map_cons, forL_rt st]; simp [c]⟩
    | false =>
      rw [c] at st
      obtain ⟨x6', e6', q⟩ := ih (.v (natD k)) Jk.v fun j m => hk j (by simp [m])
      refine ⟨x6', e6', ?_⟩
      rw [List.map_cons, forL_nx st, q]
      simp [c]
theorem jnext (hj : js.length ≤ 1000) (hs : ∀ j ∈ js, j.2.length ≤ 1000) (last known : List Nat) (x9 x10 : Sl) (e10 : x10 = .e) (hl : ∀ k ∈ last, k < js.length) (ll : last.length ≤ 1000) (h : Hs) :
    lcL (gNm 6) ct__law_jchain_10 ce__law_jchain_11 [6] ((alJ js o).map natD) [] (sl1 js o .e last known x9 x10) h = .ok ((nextL (alJ js o) (cfJ js) last known).map natD) (sl1 js o .e last known x9 x10) h := by
  subst e10
  have zl := szN (n := last.length) (by omega)
  have := lcL_map (g := gNm 6) (ft := ct__law_jchain_10) (fe := ce__law_jchain_11) (vs := [6]) (l := sl1 js o .e last known x9 .e) (h := h) (fun j => if (decide (j ∉ known) && last.any fun k => cfJ js k j) = true then some (natD j) else none) natD (alJ js o) [] fun j m => by
    have jl := alJ_lt js o m
    have jr := jrow_at jl
    have ci := natD.enc.inL j known
    have lc := lcL_map (g := gNm 10) (ft := ct__law_jchain_8) (fe := ce__law_jchain_9) (vs := [10]) (l := sl1 js o (.v (natD j)) last known x9 .e) (h := h) (fun k => if cfJ js k j = true then some (natD k) else none) natD last [] fun k mk => by
      have kr := jrow_at (hl k mk)
      have cc := fun h => jclash_ok (jget js k).2 (jget js j).2 (jget_le hs _) (jget_le hs _) h
      have ec : cf (jget js k).2 (jget js j).2 = cfJ js k j := rfl
      rw [ec] at cc
      unfold sl1
      generalize (jget js k).2.map Stp.d = A at *
      generalize (jget js j).2.map Stp.d = B at *
      generalize rowL js = R at *
      rw [show natD k = D.int (k : Int) from rfl, show natD j = D.int (j : Int) from rfl]
      cases c : cfJ js k j <;> rw [c] at cc <;> simp [ct__law_jchain_8, ce__law_jchain_9, kr, jr, cc]
    rw [fm_if, List.nil_append] at lc
    have fl := filter_len (fun k => cfJ js k j) last
    have hm : decide ((0 : Int) < (((last.filter fun k => cfJ js k j).map natD).length : Int)) = last.any fun k => cfJ js k j := by
      rw [List.length_map]
      cases q : last.any fun k => cfJ js k j with
      | true => simp only [decide_eq_true_eq]; have := fl.mpr q; omega
      | false =>
        simp only [decide_eq_false_iff_not]
        intro z
        rw [fl.mp (by omega)] at q
        cases q
    have hll : (last.map natD).length = last.length := List.length_map _
    unfold sl1 at lc ⊢
    generalize (last.filter fun k => cfJ js k j).map natD = F at *
    generalize last.map natD = LL at *
    generalize rowL js = R at *
    rw [show natD j = D.int (j : Int) from rfl] at *
    by_cases c1 : j ∈ known
    · simp [ct__law_jchain_10, ce__law_jchain_11, ci, c1]
    · cases c2 : last.any fun k => cfJ js k j
      · rw [c2] at hm
        have hm' : ¬ (0 : Int) < (F.length : Int) := of_decide_eq_false hm
        have hm2 : F.length = 0 := by omega
        simp [ct__law_jchain_10, ce__law_jchain_11, ci, c1, hll, zl, lc, hm', hm2]
      · rw [c2] at hm
        have hm' : (0 : Int) < (F.length : Int) := of_decide_eq_true hm
        have hm2 : 0 < F.length := by omega
        simp [ct__law_jchain_10, ce__law_jchain_11, ci, c1, hll, zl, lc, hm', hm2]
  rw [this, fm_if, List.nil_append]
  rfl
end
end K94
set_option maxRecDepth 100000
set_option maxHeartbeats 2000000
namespace K94
open PySem PySem.Spec PyProof.Rows L2 VL
section
variable {js : List Jb} {o : Nat}
abbrev LwJ (js : List Jb) (o : Nat) := @Lw (alJ js o) (stJ js o) (bkJ js o) (cfJ js)
theorem jturns (hj : js.length ≤ 1000) (hs : ∀ j ∈ js, j.2.length ≤ 1000) (h : Hs) : ∀ (ms : List Nat) (t : Nat) (last known : List Nat) (x6 x9 : Sl), (∀ m ∈ ms, 0 < m) → LwJ js o t last known → Jk x6 → Jk x9 →
    (∃ (la kn : List Nat) (y6 y9 : Sl) (m : Nat), 0 < m ∧ FoundJ js o ∧ forL (gNm 9) lb__law_jchain_12 (ms.map natD) (sl1 js o x6 last known x9 .e) h = .ok (.rt (.v (.int (m : Nat)))) (sl1 js o y6 la kn y9 .e) h) ∨
    (∃ last' known' x6' x9', LwJ js o (t + ms.length) last' known' ∧ forL (gNm 9) lb__law_jchain_12 (ms.map natD) (sl1 js o x6 last known x9 .e) h = .ok .nx (sl1 js o x6' last' known' x9' .e) h) := by
  intro ms
  induction ms with
  | nil => exact fun t last known x6 x9 _ L e6 e9 => .inr ⟨last, known, x6, x9, L, rfl⟩
  | cons m ms ih =>
    intro t last known x6 x9 hm L e6 e9
    have al := alJ_len js o
    have ln := nodup_le L.nd L.sub
    have hlast : ∀ k ∈ last, k < js.length := fun k mk => alJ_lt js o (L.sub k (L.la k mk))
    have zal := szN (n := (alJ js o).length) (by omega)
    obtain ⟨y6, f6, bq⟩ := jback hs m last known .e h last x6 e6 hlast
    by_cases cb : last.any (bkJ js o) = true
    · rw [if_pos cb] at bq
      obtain ⟨k, mk, bk⟩ := List.any_eq_true.mp cb
      refine .inl ⟨last, known, y6, .v (.int (m : Int)), m, hm m (by simp), ⟨k, L.r k (L.la k mk), bk⟩, ?_⟩
      have st : stepL (gNm 9) lb__law_jchain_12 (natD m) (sl1 js o x6 last known x9 .e) h = .ok (.rt (.v (.int (m : Int)))) (sl1 js o y6 last known (.v (.int (m : Int))) .e) h := by
        unfold sl1 at bq ⊢
        generalize last.map natD = LL at *
        generalize rowL js = R at *
        rw [show natD m = D.int (m : Int) from rfl]
        rcases e9 with rfl | ⟨_, rfl⟩ <;> simp [lb__law_jchain_12, bq]
      rw [List.map_cons, forL_rt st]
    · rw [if_neg cb] at bq
      have hb : ∀ k ∈ last, bkJ js o k = false := fun k mk => by
        cases c : bkJ js o k with
        | false => rfl
        | true => exact absurd (List.any_eq_true.mpr ⟨k, mk, c⟩) cb
      have L' := L.next (alJ_nd js o) hb
      have ln' := nodup_le L'.nd L'.sub
      rw [List.length_append] at ln'
      have ll : last.length ≤ 1000 := by
        have := nodup_le L.ln fun k mk => L.sub k (L.la k mk)
        omega
      have jn := jnext hj hs last known (.v (.int (m : Int))) .e rfl hlast ll h (o := o)
      have ga : gAdd (.lst (known.map natD)) (.lst ((nextL (alJ js o) (cfJ js) last known).map natD)) = some (.lst ((known ++ nextL (alJ js o) (cfJ js) last known).map natD)) := by
        rw [List.map_append]
        exact if_pos (by rw [sizeLine_eq, List.length_map, List.length_map]; omega)
      have st : stepL (gNm 9) lb__law_jchain_12 (natD m) (sl1 js o x6 last known x9 .e) h = .ok .nx (sl1 js o y6 (nextL (alJ js o) (cfJ js) last known) (known ++ nextL (alJ js o) (cfJ js) last known) (.v (.int (m : Int))) .e) h := by
        have hal : ((alJ js o).map natD).length = (alJ js o).length := List.length_map _
        unfold sl1 at bq jn ⊢
        generalize (known ++ nextL (alJ js o) (cfJ js) last known).map natD = KN at *
        generalize (nextL (alJ js o) (cfJ js) last known).map natD = NL at *
        generalize (alJ js o).map natD = AL at *
        generalize last.map natD = LL at *
        generalize known.map natD = KK at *
        generalize rowL js = R at *
        rw [show natD m = D.int (m : Int) from rfl]
        rcases e9 with rfl | ⟨_, rfl⟩ <;> rcases f6 with rfl | ⟨_, rfl⟩ <;> simp [lb__law_jchain_12, bq, hal, zal, jn, ga]
      rcases ih (t + 1) _ _ y6 (.v (.int (m : Int))) (fun k mk => hm k (by simp [mk])) L' f6 Jk.v with ⟨la, kn, w6, w9, m', p, f, q⟩ | ⟨la', kn', z6, z9, L'', q⟩
      · exact .inl ⟨la, kn, w6, w9, m', p, f, by rw [List.map_cons, forL_nx st]; exact q⟩
      · exact .inr ⟨la', kn', z6, z9, by rw [List.length_cons, show t + (ms.length + 1) = t + 1 + ms.length by omega]; exact L'', by rw [List.map_cons, forL_nx st]; exact q⟩

theorem start_lw : LwJ js o 0 (stJ js o) (stJ js o) :=
  ⟨(alJ_nd js o).sublist List.filter_sublist, fun k m => (List.mem_filter.mp m).1, fun k m => .st m, fun k m => m, fun k m => m, fun k m => .inl m, fun ne => by have := List.length_pos_iff.mpr ne; omega, (alJ_nd js o).sublist List.filter_sublist⟩
theorem jchain_ok (hj : js.length ≤ 1000) (hs : ∀ j ∈ js, j.2.length ≤ 1000) (ho : o < js.length) (h : Hs) :
    ∃ m : Nat, (0 < m ↔ FoundJ js o) ∧ g__law_jchain [.v (.lst (rowL js)), .v (.int (o : Int)), .v (.str "first")] h = .ok (.v (.int (m : Int))) [.v (.lst (rowL js)), .v (.int (o : Int)), .v (.str "first")] h := by
  have al := alJ_len js o
  have jo := jrow_at ho
  have j1 := fun h => jcells_ok (jget js o).2 (jget_le hs _) true h
  have j2 := fun h => jcells_ok (jget js o).2 (jget_le hs _) false h
  simp only [if_true, Bool.false_eq_true, if_false] at j1 j2
  have zn := szN (n := js.length) (by omega)
  have za : ∀ xs : List Nat, xs.length ≤ js.length → sz xs.length = true := fun xs q => szN (by omega)
  have wl := wc_len (jget js o).2
  have rl := rc_len (jget js o).2
  have jl := jget_le hs o
  have T := jturns (o := o) hj hs h ((List.range js.length).map fun k => 1 + k) 0 (stJ js o) (stJ js o) .e .e (fun m mm => by obtain ⟨k, _, rfl⟩ := List.mem_map.mp mm; omega) start_lw Jk.e Jk.e
  rw [List.length_map, List.length_range, Nat.zero_add] at T
  have a1 : lcL (gNm 6) ct__law_jchain_1 ce__law_jchain_2 [6] ((List.range js.length).map natD) [] [.v (.lst (rowL js)), .v (.int (o : Int)), .v (.str "first"), .v (.lst ((wc (jget js o).2).map Cl.d)), .v (.lst ((rc (jget js o).2).map Cl.d)), .e, .e, .e, .e, .e, .e] h = .ok (((List.range js.length).filter fun k => decide (k ≠ o)).map natD) [.v (.lst (rowL js)), .v (.int (o : Int)), .v (.str "first"), .v (.lst ((wc (jget js o).2).map Cl.d)), .v (.lst ((rc (jget js o).2).map Cl.d)), .e, .e, .e, .e, .e, .e] h := by
    have := lcL_map (g := gNm 6) (ft := ct__law_jchain_1) (fe := ce__law_jchain_2) (vs := [6]) (l := [.v (.lst (rowL js)), .v (.int (o : Int)), .v (.str "first"), .v (.lst ((wc (jget js o).2).map Cl.d)), .v (.lst ((rc (jget js o).2).map Cl.d)), .e, .e, .e, .e, .e, .e]) (h := h) (fun k => if k ≠ o then some (natD k) else none) natD (List.range js.length) [] fun k m => by
      generalize rowL js = R
      by_cases c : k = o
      · subst c
        simp [ct__law_jchain_1, ce__law_jchain_2, natD]
      · have c' : ¬ (k : Int) = o := by omega
        simp [ct__law_jchain_1, ce__law_jchain_2, natD, c, c']
    rw [this, List.nil_append, ← fm_if]
    congr 2
    funext k
    by_cases c : k = o <;> simp [c]
  have a2 : ∀ x5 : Sl, lcL (gNm 6) ct__law_jchain_3 ce__law_jchain_4 [6] (((List.range js.length).filter fun k => decide (k ≠ o)).map natD) [] [.v (.lst (rowL js)), .v (.int (o : Int)), .v (.str "first"), .v (.lst ((wc (jget js o).2).map Cl.d)), .v (.lst ((rc (jget js o).2).map Cl.d)), x5, .e, .e, .e, .e, .e] h = .ok ((alJ js o).map natD) [.v (.lst (rowL js)), .v (.int (o : Int)), .v (.str "first"), .v (.lst ((wc (jget js o).2).map Cl.d)), .v (.lst ((rc (jget js o).2).map Cl.d)), x5, .e, .e, .e, .e, .e] h := fun x5 => by
    have := lcL_map (g := gNm 6) (ft := ct__law_jchain_3) (fe := ce__law_jchain_4) (vs := [6]) (l := [.v (.lst (rowL js)), .v (.int (o : Int)), .v (.str "first"), .v (.lst ((wc (jget js o).2).map Cl.d)), .v (.lst ((rc (jget js o).2).map Cl.d)), x5, .e, .e, .e, .e, .e]) (h := h) (fun k => if !bw (jget js o).2 (jget js k).2 then some (natD k) else none) natD ((List.range js.length).filter fun k => decide (k ≠ o)) [] fun k m => by
      have hk : k < js.length := List.mem_range.mp (List.mem_filter.mp m).1
      have jk := jrow_at hk
      have jw := fun h => jcells_ok (jget js k).2 (jget_le hs _) false h
      simp only [Bool.false_eq_true, if_false] at jw
      have mm := fun h => jmeet_ok (wc (jget js o).2) (wc (jget js k).2) (by omega) h
      rw [show meet (wc (jget js o).2) (wc (jget js k).2) = bw (jget js o).2 (jget js k).2 from rfl] at mm
      generalize (jget js k).2.map Stp.d = A at *
      generalize (wc (jget js k).2).map Cl.d = B at *
      generalize (wc (jget js o).2).map Cl.d = C at *
      generalize rowL js = R at *
      cases c : bw (jget js o).2 (jget js k).2 <;> rw [c] at mm <;> simp [ct__law_jchain_3, ce__law_jchain_4, natD, jk, jw, mm]
    rw [this, List.nil_append, fm_if]
    rfl
  have a3 : lcL (gNm 6) ct__law_jchain_5 ce__law_jchain_6 [6] ((alJ js o).map natD) [] [.v (.lst (rowL js)), .v (.int (o : Int)), .v (.str "first"), .v (.lst ((wc (jget js o).2).map Cl.d)), .v (.lst ((rc (jget js o).2).map Cl.d)), .v (.lst ((alJ js o).map natD)), .e, .e, .e, .e, .e] h = .ok ((stJ js o).map natD) [.v (.lst (rowL js)), .v (.int (o : Int)), .v (.str "first"), .v (.lst ((wc (jget js o).2).map Cl.d)), .v (.lst ((rc (jget js o).2).map Cl.d)), .v (.lst ((alJ js o).map natD)), .e, .e, .e, .e, .e] h := by
    have := lcL_map (g := gNm 6) (ft := ct__law_jchain_5) (fe := ce__law_jchain_6) (vs := [6]) (l := [.v (.lst (rowL js)), .v (.int (o : Int)), .v (.str "first"), .v (.lst ((wc (jget js o).2).map Cl.d)), .v (.lst ((rc (jget js o).2).map Cl.d)), .v (.lst ((alJ js o).map natD)), .e, .e, .e, .e, .e]) (h := h) (fun k => if mw (jget js o).2 (jget js k).2 then some (natD k) else none) natD (alJ js o) [] fun k m => by
      have hk := alJ_lt js o m
      have jk := jrow_at hk
      have jw := fun h => jcells_ok (jget js k).2 (jget_le hs _) false h
      simp only [Bool.false_eq_true, if_false] at jw
      have mm := fun h => jmeet_ok (rc (jget js o).2) (wc (jget js k).2) (by omega) h
      rw [show meet (rc (jget js o).2) (wc (jget js k).2) = mw (jget js o).2 (jget js k).2 from rfl] at mm
      generalize (jget js k).2.map Stp.d = A at *
      generalize (wc (jget js k).2).map Cl.d = B at *
      generalize (rc (jget js o).2).map Cl.d = C at *
      generalize (wc (jget js o).2).map Cl.d = C2 at *
      generalize rowL js = R at *
      cases c : mw (jget js o).2 (jget js k).2 <;> rw [c] at mm <;> simp [ct__law_jchain_5, ce__law_jchain_6, natD, jk, jw, mm]
    rw [this, List.nil_append, fm_if]
    rfl
  have f_len : ((List.range js.length).filter fun k => decide (k ≠ o)).length ≤ js.length := by have := List.length_filter_le (fun k => decide (k ≠ o)) (List.range js.length); simpa using this
  have zf : sz (((List.range js.length).filter fun k => decide (k ≠ o)).map natD).length = true := by rw [List.length_map]; exact za _ f_len
  have zal := za _ al
  have r1 : ∀ l, rng1 l h [.v (.int (js.length : Int))] = .ok ((List.range js.length).map natD) l h := fun l => rng1_nat (by omega)
  have r2 : ∀ l, rng2 l h [.v (.int 1), .v (.int ((js.length : Int) + 1))] = .ok (((List.range js.length).map fun k => 1 + k).map natD) l h := fun l => by
    have := rng2_nat (l := l) (h := h) (m := 1) (n := js.length + 1) (by omega) (by omega)
    rw [show js.length + 1 - 1 = js.length by omega] at this
    rw [List.map_map]
    exact this
  have hRl : (rowL js).length = js.length := List.length_map _
  have hRg : ((List.range js.length).map natD).length = js.length := by simp
  have hAl : ((alJ js o).map natD).length = (alJ js o).length := List.length_map _
  unfold sl1 at T
  generalize (jget js o).2.map Stp.d = A at *
  generalize (wc (jget js o).2).map Cl.d = B at *
  generalize (rc (jget js o).2).map Cl.d = C at *
  generalize ((List.range js.length).map fun k => 1 + k).map natD = Ms at *
  generalize (List.range js.length).map natD = Rg at *
  generalize (((List.range js.length).filter fun k => decide (k ≠ o)).map natD) = Fi at *
  generalize (stJ js o).map natD = S at *
  generalize hAL : (alJ js o).map natD = AL at *
  generalize rowL js = R at *
  rcases T with ⟨la, kn, y6, y9, m, hm, fd, e⟩ | ⟨la, kn, y6, y9, L, e⟩
  · refine ⟨m, ⟨fun _ => fd, fun _ => hm⟩, ?_⟩
    simp [g__law_jchain, ap_run, b__law_jchain, jo, j1, j2, hRl, r1, hRg, zn, a1, zf, a2, hAl, zal, a3, r2, e]
  · refine ⟨0, ⟨fun q => by omega, fun f => absurd f (L.done al)⟩, ?_⟩
    simp [g__law_jchain, ap_run, b__law_jchain, jo, j1, j2, hRl, r1, hRg, zn, a1, zf, a2, hAl, zal, a3, r2, e]
theorem is_due_ok (hj : js.length ≤ 1000) (hs : ∀ j ∈ js, j.2.length ≤ 1000) (h : Hs) : ∃ b : Bool, (b = true ↔ ∀ o, o < js.length → ¬ FoundJ js o) ∧ g__law_is_due [.v (.lst (rowL js))] h = .ok (.v (.bl b)) [.v (.lst (rowL js))] h := by
  have r1 : ∀ l, rng1 l h [.v (.int (js.length : Int))] = .ok ((List.range js.length).map natD) l h := fun l => rng1_nat (by omega)
  have zn := szN (n := js.length) (by omega)
  have key : ∀ (ks : List Nat) (acc : List D), (∀ k ∈ ks, k < js.length) → ∃ out : List D, (out = [] ↔ ∀ k ∈ ks, ¬ FoundJ js k) ∧ lcL (gNm 1) ct__law_is_due_1 ce__law_is_due_2 [1] (ks.map natD) acc [.v (.lst (rowL js)), .e] h = .ok (acc ++ out) [.v (.lst (rowL js)), .e] h := by
    intro ks
    induction ks with
    | nil => exact fun acc _ => ⟨[], by simp, by simp [lcL_nil]⟩
    | cons k ks ih =>
      intro acc hk
      obtain ⟨m, hm, e⟩ := jchain_ok (o := k) hj hs (hk k (by simp)) h
      by_cases f : FoundJ js k
      · have hp : (0 : Int) < m := by have := hm.mpr f; omega
        have hp2 := hm.mpr f
        obtain ⟨out, _, q⟩ := ih (acc ++ [natD k]) fun j mj => hk j (by simp [mj])
        refine ⟨natD k :: out, by simp [f], ?_⟩
        have el : elL (gNm 1) ct__law_is_due_1 ce__law_is_due_2 [1] (natD k) [.v (.lst (rowL js)), .e] h = .ok (some (natD k)) [.v (.lst (rowL js)), .e] h := by
          generalize rowL js = R at *
          rw [show natD k = D.int (k : Int) from rfl]
          simp [ct__law_is_due_1, ce__law_is_due_2, e, hp, hp2]
        rw [List.map_cons, lcL_cons, el]
        simp only []
        rw [q]
        simp
      · have hp2 : ¬ 0 < m := fun z => f (hm.mp z)
        have hp : ¬ (0 : Int) < m := by omega
        have hp3 : m = 0 := by omega
        obtain ⟨out, ho, q⟩ := ih acc fun j mj => hk j (by simp [mj])
        refine ⟨out, by rw [ho]; simp [f], ?_⟩
        have el : elL (gNm 1) ct__law_is_due_1 ce__law_is_due_2 [1] (natD k) [.v (.lst (rowL js)), .e] h = .ok none [.v (.lst (rowL js)), .e] h := by
          generalize rowL js = R at *
          rw [show natD k = D.int (k : Int) from rfl]
          simp [ct__law_is_due_1, ce__law_is_due_2, e, hp, hp2, hp3]
        rw [List.map_cons, lcL_cons, el]
        simp only []
        rw [q]
  obtain ⟨out, ho, q⟩ := key (List.range js.length) [] fun k m => List.mem_range.mp m
  rw [List.nil_append] at q
  have hRl : (rowL js).length = js.length := List.length_map _
  have hRg : ((List.range js.length).map natD).length = js.length := by simp
  refine ⟨decide (out = []), by rw [decide_eq_true_eq, ho]; simp, ?_⟩
  have hl : decide ((out.length : Int) = 0) = decide (out = []) := by
    cases out with
    | nil => rfl
    | cons x xs => simp; omega
  rw [← hl]
  generalize (List.range js.length).map natD = Rg at *
  generalize rowL js = R at *
  simp [g__law_is_due, ap_run, b__law_is_due, hRl, r1, hRg, zn, q]
end
end K94
set_option maxRecDepth 100000
set_option maxHeartbeats 2000000
namespace K94
open PySem PySem.Spec PyProof.Rows L2 VL
/-! ### rows of places -/
def startN (row : List Nat) : Nat := match row.getLast? with
  | none => 0
  | some x => x + 1
def moreR (n : Nat) (row : List Nat) : List (List Nat) := (List.range (n - startN row)).map fun k => row ++ [startN row + k]
def nextR (n : Nat) (rows : List (List Nat)) : List (List Nat) := rows.flatMap (moreR n)
def lev (n : Nat) : Nat → List (List Nat)
  | 0 => [[]]
  | i + 1 => nextR n (lev n i)
def upto (n i : Nat) : List (List Nat) := (List.range (i + 1)).flatMap (lev n)
theorem lev_ok : ∀ n : Fin 9, ∀ i : Fin 9, ((lev n.1 i.1).length ≤ 100 ∧ (upto n.1 i.1).length ≤ 1000 ∧ ∀ row ∈ lev n.1 i.1, row.length ≤ 8 ∧ row.Nodup ∧ ∀ k ∈ row, k < n.1) := by decide +kernel
theorem upto_ok : ∀ n : Fin 9, ∀ i : Fin 9, ∀ row ∈ upto n.1 i.1, row.length ≤ 8 ∧ row.Nodup ∧ ∀ k ∈ row, k < n.1 := by decide +kernel
theorem upto_full : ∀ n : Fin 9, List.range n.1 ∈ upto n.1 n.1 := by decide +kernel
theorem upto_s (n i : Nat) : upto n (i + 1) = upto n i ++ lev n (i + 1) := by
  unfold upto
  rw [List.range_succ, List.flatMap_append]
  simp
def tD (c : List Nat) : D := .tup (c.map natD)
theorem index_sets_ok (n : Nat) (hn : n ≤ 8) (h : Hs) : g_index_sets [.v (natD n)] h = .ok (.v (.lst ((upto n n).map tD))) [.v (natD n)] h := by
  have z0 := szN (n := 0) (by omega)
  have z1 := szN (n := 1) (by omega)
  obtain ⟨l', h', e, x3, el, e3, eh⟩ := forL_range (g := gNm 3) (fb := lb_index_sets_3) (l := [.v (natD n), .v (.lst ((lev n 0).map tD)), .m false (.lst ((upto n 0).map tD)), .e, .e, .e]) (h := h)
    (fun k l h' => ∃ x3, l = [.v (natD n), .v (.lst ((lev n k).map tD)), .m false (.lst ((upto n k).map tD)), x3, .e, .e] ∧ Jk x3 ∧ h' = h) natD n
    (fun k hk l h' ⟨x3, el, e3, eh⟩ => by
      subst el eh
      have b1 := lev_ok ⟨n, by omega⟩ ⟨k, by omega⟩
      have b2 := lev_ok ⟨n, by omega⟩ ⟨k + 1, by omega⟩
      dsimp only at b1 b2
      have zz := szN (n := (upto n k).length + (lev n (k + 1)).length) (by omega)
      have lenE : (lev n (k + 1)).length = ((lev n k).flatMap fun row => (moreR n row).map tD).length := by
        rw [lev, nextR, List.length_flatMap, List.length_flatMap]
        congr 1
        simp
      have l2 := lc2L_map (g := gNm 4) (ft := fYes) (fi1 := ci_index_sets_1) (g1 := gNm 5) (ft1 := fYes) (fe := ce_index_sets_2) (vs := [4, 5]) (vs1 := [5]) (l := [.v (natD n), .v (.lst ((lev n k).map tD)), .m false (.lst ((upto n k).map tD)), .v (natD k), .e, .e]) (h := h') (fun row => (moreR n row).map tD) tD 1000 (lev n k) []
        (fun row m acc ha => by
          obtain ⟨r1, r2, r3⟩ := b1.2.2 row m
          have hs : startN row ≤ 1000 := by
            unfold startN
            cases q : row.getLast? with
            | none => simp
            | some x =>
              have := r3 x (List.mem_of_getLast? q)
              simp only []
              omega
          refine ⟨[.v (natD n), .v (.lst ((lev n k).map tD)), .m false (.lst ((upto n k).map tD)), .v (natD k), .v (tD row), .e], [.v (natD n), .v (.lst ((lev n k).map tD)), .m false (.lst ((upto n k).map tD)), .v (natD k), .v (tD row), .e], (List.range (n - startN row)).map fun j : Nat => D.int ((startN row + j : Nat) : Int), ?_, by simp, szN (by simp; omega), ?_, by simp⟩
          · have rg := fun l => rng2_nat (l := l) (h := h') (m := startN row) (n := n) (by omega) (by omega)
            generalize (lev n k).map tD = LV
            generalize (upto n k).map tD = UP
            rw [show natD n = D.int (n : Int) from rfl]
            by_cases q : row = []
            · subst q
              have rg0 : ∀ l, rng2 l h' [.v (.int 0), .v (.int (n : Int))] = .ok ((List.range n).map fun j : Nat => D.int (j : Int)) l h' := fun l => by
                have := rng2_nat (l := l) (h := h') (m := 0) (n := n) (by omega) (by omega)
                simpa using this
              simp [ci_index_sets_1, tD, rg0, startN]
            · have al := atI_last q
              have hp : 0 < row.length := List.length_pos_iff.mpr q
              have sl : startN row = lastN row + 1 := by
                unfold startN lastN
                cases q2 : row.getLast? with
                | none => rw [List.getLast?_eq_none_iff] at q2; exact absurd q2 q
                | some x => rfl
              rw [sl] at rg ⊢
              simp only [natD] at al
              have rg2 : ∀ l, rng2 l h' [.v (.int ((lastN row : Int) + 1)), .v (.int (n : Int))] = .ok ((List.range (n - (lastN row + 1))).map fun j => D.int ((lastN row + 1 + j : Nat) : Int)) l h' := fun l => by
                have := rg l
                rw [show ((lastN row + 1 : Nat) : Int) = (lastN row : Int) + 1 by omega] at this
                exact this
              simp [ci_index_sets_1, tD, al, hp, rg2]
          · have lc := lcL_map (g := gNm 5) (ft := fYes) (fe := ce_index_sets_2) (vs := [5]) (l := [.v (natD n), .v (.lst ((lev n k).map tD)), .m false (.lst ((upto n k).map tD)), .v (natD k), .v (tD row), .e]) (h := h') (fun j => some (tD (row ++ [startN row + j]))) (fun j => D.int ((startN row + j : Nat) : Int)) (List.range (n - startN row)) acc fun j mj => by
              have z1 := szN (n := 1) (by omega)
              have ga : gAdd (.tup (row.map natD)) (.tup [.int ((startN row : Int) + (j : Int))]) = some (.tup ((row ++ [startN row + j]).map natD)) := by
                rw [List.map_append]
                exact if_pos (by rw [sizeLine_eq, List.length_map]; simp; omega)
              generalize (lev n k).map tD = LV
              generalize (upto n k).map tD = UP
              simp [ce_index_sets_2, tD, z1, ga]
            rw [List.filterMap_eq_map'] at lc
            have e1 : (moreR n row).map tD = (List.range (n - startN row)).map fun j => tD (row ++ [startN row + j]) := by unfold moreR; rw [List.map_map]; rfl
            rw [e1]
            simpa using lc)
        (by rw [← lenE, List.length_nil]; omega)
      have ef : ((lev n k).flatMap fun row => (moreR n row).map tD) = (lev n (k + 1)).map tD := by rw [lev, nextR, List.map_flatMap]
      rw [ef, List.nil_append] at l2
      refine ⟨[.v (natD n), .v (.lst ((lev n (k + 1)).map tD)), .m false (.lst ((upto n (k + 1)).map tD)), .v (natD k), .e, .e], _, ?_, _, rfl, Jk.v, rfl⟩
      rw [upto_s, List.map_append]
      have hU : ((upto n k).map tD).length = (upto n k).length := List.length_map _
      have hL : ((lev n (k + 1)).map tD).length = (lev n (k + 1)).length := List.length_map _
      generalize (lev n k).map tD = LV at *
      generalize (lev n (k + 1)).map tD = LW at *
      generalize (upto n k).map tD = UP at *
      rw [show natD n = D.int (n : Int) from rfl, show natD k = D.int (k : Int) from rfl] at *
      rcases e3 with rfl | ⟨_, rfl⟩ <;> simp [lb_index_sets_3, l2, hU, hL, zz]) ⟨.e, rfl, Jk.e, rfl⟩
  subst el eh
  have h0 : (lev n 0).map tD = [.tup []] := rfl
  have h1 : (upto n 0).map tD = [.tup []] := rfl
  rw [h0, h1] at e
  have r1 := fun l => rng1_nat (l := l) (h := h') (n := n) (by omega)
  generalize (upto n n).map tD = UP at *
  generalize (lev n n).map tD = LV at *
  rw [show natD n = D.int (n : Int) from rfl] at *
  rw [show natD = fun k : Nat => D.int (k : Int) from rfl] at e
  simp [g_index_sets, ap_run, b_index_sets, z0, z1, r1, e]
end K94
set_option maxRecDepth 100000
set_option maxHeartbeats 2000000
namespace K94
open PySem PySem.Spec PyProof.Rows L2 VL
theorem longer_in (n : Nat) (hn : n ≤ 8) (RD : D) (h : Hs) (row : List Nat) (hr : row.length ≤ 100) : ∀ (ks : List Nat) (acc : List (List Nat)) (x5 : Sl), Jk x5 → acc.length + ks.length ≤ 2000 → ∃ x5', Jk x5' ∧ ∀ x4 : Sl,
    forL (gNm 5) lb__law_longer_1 (ks.map natD) [.v RD, .v (.int (n : Int)), .m false (.lst (acc.map chD)), .v (chD row), x4, x5] h = .ok .nx [.v RD, .v (.int (n : Int)), .m false (.lst ((acc ++ ks.map fun k => row ++ [k]).map chD)), .v (chD row), x4, x5'] h := by
  intro ks
  induction ks with
  | nil => exact fun acc x5 e5 _ => ⟨x5, e5, fun x4 => by simp [forL_nil]⟩
  | cons k ks ih =>
    intro acc x5 e5 hl
    simp only [List.length_cons] at hl
    have z1 := szN (n := 1) (by omega)
    have za := szN (n := acc.length + 1) (by omega)
    obtain ⟨x5', e5', q⟩ := ih (acc ++ [row ++ [k]]) (.v (natD k)) Jk.v (by simp; omega)
    refine ⟨x5', e5', fun x4 => ?_⟩
    have ga : gAdd (.lst (row.map natD)) (.lst [.int (k : Int)]) = some (chD (row ++ [k])) := by
      rw [chD, List.map_append]
      exact if_pos (by rw [sizeLine_eq, List.length_map]; simp; omega)
    have st : stepL (gNm 5) lb__law_longer_1 (natD k) [.v RD, .v (.int (n : Int)), .m false (.lst (acc.map chD)), .v (chD row), x4, x5] h = .ok .nx [.v RD, .v (.int (n : Int)), .m false (.lst ((acc ++ [row ++ [k]]).map chD)), .v (chD row), x4, .v (natD k)] h := by
      have ca : ((acc ++ [row ++ [k]]).map chD) = acc.map chD ++ [chD (row ++ [k])] := by simp
      rw [ca]
      have hA : (acc.map chD).length = acc.length := List.length_map _
      generalize acc.map chD = A at *
      generalize chD (row ++ [k]) = C at *
      rw [show natD k = D.int (k : Int) from rfl]
      rcases e5 with rfl | ⟨_, rfl⟩ <;> simp [lb__law_longer_1, chD, z1, ga, hA, za]
    rw [List.map_cons, forL_nx st, q x4]
    simp
theorem longer_ok (n : Nat) (hn : n ≤ 8) (rows : List (List Nat)) (hr : ∀ row ∈ rows, row.length ≤ 100 ∧ ∀ k ∈ row, k < n) (hl : (nextR n rows).length ≤ 1000) (h : Hs) : g__law_longer [.v (.lst (rows.map chD)), .v (.int (n : Int))] h = .ok (.v (.lst ((nextR n rows).map chD))) [.v (.lst (rows.map chD)), .v (.int (n : Int))] h := by
  have z0 := szN (n := 0) (by omega)
  have key : ∀ (rest done : List (List Nat)) (x3 x4 x5 : Sl), Jk x3 → Jk x4 → Jk x5 → done ++ rest = rows → ∃ x3' x4' x5', forL (gNm 3) lb__law_longer_2 (rest.map chD) [.v (.lst (rows.map chD)), .v (.int (n : Int)), .m false (.lst ((nextR n done).map chD)), x3, x4, x5] h = .ok .nx [.v (.lst (rows.map chD)), .v (.int (n : Int)), .m false (.lst ((nextR n rows).map chD)), x3', x4', x5'] h := by
    intro rest
    induction rest with
    | nil => exact fun done x3 x4 x5 _ _ _ e => ⟨x3, x4, x5, by rw [List.append_nil] at e; rw [e]; rfl⟩
    | cons row rest ih =>
      intro done x3 x4 x5 e3 e4 e5 e
      obtain ⟨r1, r2⟩ := hr row (by rw [← e]; simp)
      have ln : (nextR n done).length + (moreR n row).length ≤ 1000 := by
        have : nextR n rows = nextR n done ++ (moreR n row ++ nextR n rest) := by rw [← e]; simp [nextR]
        rw [this, List.length_append, List.length_append] at hl
        omega
      have lm : (moreR n row).length = n - startN row := by simp [moreR]
      obtain ⟨x5', e5', q⟩ := longer_in n hn (.lst (rows.map chD)) h row r1 ((List.range (n - startN row)).map fun k => startN row + k) (nextR n done) x5 e5 (by simp; omega)
      have em : (nextR n done ++ (((List.range (n - startN row)).map fun k => startN row + k).map fun k => row ++ [k])) = nextR n (done ++ [row]) := by
        simp [nextR, moreR]
      rw [em] at q
      have q := q (.v (.int (startN row : Int)))
      have rg : ∀ l, rng2 l h [.v (.int (startN row : Int)), .v (.int (n : Int))] = .ok (((List.range (n - startN row)).map fun k => startN row + k).map natD) l h := fun l => by
        have hs : startN row ≤ 1000 := by
          unfold startN
          cases q : row.getLast? with
          | none => simp
          | some x =>
            have := r2 x (List.mem_of_getLast? q)
            simp only []
            omega
        rw [List.map_map]
        exact rng2_nat (by omega) (by omega)
      have st : stepL (gNm 3) lb__law_longer_2 (chD row) [.v (.lst (rows.map chD)), .v (.int (n : Int)), .m false (.lst ((nextR n done).map chD)), x3, x4, x5] h = .ok .nx [.v (.lst (rows.map chD)), .v (.int (n : Int)), .m false (.lst ((nextR n (done ++ [row])).map chD)), .v (chD row), .v (.int (startN row : Int)), x5'] h := by
        generalize (nextR n (done ++ [row])).map chD = C1 at *
        generalize (nextR n done).map chD = C0 at *
        generalize rows.map chD = R at *
        generalize (((List.range (n - startN row)).map fun k => startN row + k).map natD) = K at *
        by_cases q0 : row = []
        · subst q0
          have s0 : startN [] = 0 := rfl
          rw [s0] at rg q ⊢
          simp only [chD, List.map_nil, Int.natCast_zero] at q rg ⊢
          rcases e3 with rfl | ⟨_, rfl⟩ <;> rcases e4 with rfl | ⟨_, rfl⟩ <;>
          simp [lb__law_longer_2, rg, q]
        · have al := atI_last q0
          have hp : 0 < row.length := List.length_pos_iff.mpr q0
          have sl : startN row = lastN row + 1 := by
            unfold startN lastN
            cases q2 : row.getLast? with
            | none => rw [List.getLast?_eq_none_iff] at q2; exact absurd q2 q0
            | some x => rfl
          rw [sl] at rg q ⊢
          simp only [natD] at al
          rw [show ((lastN row + 1 : Nat) : Int) = (lastN row : Int) + 1 by omega] at rg q ⊢
          simp only [chD] at q ⊢
          rcases e3 with rfl | ⟨_, rfl⟩ <;> rcases e4 with rfl | ⟨_, rfl⟩ <;>
          simp [lb__law_longer_2, al, hp, rg, q]
      obtain ⟨y3, y4, y5, w⟩ := ih (done ++ [row]) (.v (chD row)) (.v (.int (startN row : Int))) x5' Jk.v Jk.v e5' (by rw [List.append_assoc]; exact e)
      exact ⟨y3, y4, y5, by rw [List.map_cons, forL_nx st]; exact w⟩
  obtain ⟨y3, y4, y5, w⟩ := key rows [] .e .e .e Jk.e Jk.e Jk.e rfl
  have e0 : (nextR n []).map chD = [] := rfl
  rw [e0] at w
  generalize (nextR n rows).map chD = C at *
  generalize rows.map chD = R at *
  simp [g__law_longer, ap_run, b__law_longer, z0, w]
end K94
set_option maxRecDepth 100000
set_option maxHeartbeats 2000000
namespace K94
open PySem PySem.Spec PyProof.Rows L2 VL
def Due (js : List Jb) (rs : List Rd) : Prop := ∀ o, o < (js.map (guardJ rs)).length → ¬ FoundJ (js.map (guardJ rs)) o
open Classical in
noncomputable def dueB (js : List Jb) (rs : List Rd) : Bool := decide (Due js rs)
theorem dueB_iff {js : List Jb} {rs : List Rd} {b : Bool} (h : b = true ↔ Due js rs) : b = dueB js rs := by
  by_cases c : Due js rs
  · have : dueB js rs = true := by simp [dueB, c]
    rw [this]; exact h.mpr c
  · have : dueB js rs = false := by simp [dueB, c]
    rw [this]
    cases b with
    | false => rfl
    | true => exact absurd (h.mp rfl) c
def dR : Rd := (nmN 0 0 0, (nmN 0 0 0, 0))
def rsOf (known : List Rd) (row : List Nat) : List Rd := row.map fun k => known.getD k dR
noncomputable def told (js : List Jb) (known : List Rd) : List Rd := match (upto known.length known.length).find? (fun row => dueB js (rsOf known row)) with
  | some row => rsOf known row
  | none => known
theorem known_at {known : List Rd} {k : Nat} (hk : k < known.length) : atI (known.map Rd.d) (k : Int) = some (known.getD k dR).d := atI_at (by simp [hk])
/-- what a row of places makes of the guards -/
structure GR (js : List Jb) (known : List Rd) (row : List Nat) : Prop where
  len : row.length ≤ 8
  lt : ∀ k ∈ row, k < known.length
  g : ∀ j ∈ js, GJb (guardJ (rsOf known row) j)
theorem pick_row {known : List Rd} {row : List Nat} (lt : ∀ k ∈ row, k < known.length) : (row.map fun k => known.getD k dR).map Rd.d = row.filterMap fun k => some (known.getD k dR).d := by
  rw [List.map_map, List.filterMap_eq_map']
  rfl
section
variable {js : List Jb} {known : List Rd}
theorem guard_len {rs : List Rd} (hg : ∀ j ∈ js, GJb (guardJ rs j)) : ∀ j ∈ js.map (guardJ rs), j.2.length ≤ 1000 := fun j m => by
  obtain ⟨i, mi, rfl⟩ := List.mem_map.mp m
  have := (hg i mi).len
  omega
theorem prog_rows (hj : js.length ≤ 8) (hn : (js.map (·.1)).Nodup) (hk : known.length ≤ 1000) : ∀ (rows : List (List Nat)) (x2 x3 x4 : Sl) (h : Hs), (∀ row ∈ rows, GR js known row) → Jk x2 → Jk x3 → x4 = .e →
    ∃ x2' x3' h', forL (gNm 2) lb_fewest_guards_2 (rows.map tD) [.v (bookD js), .v (.lst (known.map Rd.d)), x2, x3, x4] h =
      (match rows.find? (fun row => dueB js (rsOf known row)) with
      | some row => .ok (.rt (.v (.lst ((rsOf known row).map Rd.d)))) [.v (bookD js), .v (.lst (known.map Rd.d)), x2', x3', .e] h'
      | none => .ok .nx [.v (bookD js), .v (.lst (known.map Rd.d)), x2', x3', .e] h') := by
  intro rows
  induction rows with
  | nil => exact fun x2 x3 x4 h _ e2 e3 e4 => ⟨x2, x3, h, by subst e4; rfl⟩
  | cons row rows ih =>
    intro x2 x3 x4 h hg e2 e3 e4
    subst e4
    have G := hg row (by simp)
    have gd := guarded_ok js (rsOf known row) hj (by have := G.len; simp [rsOf]; omega) hn G.g h
    obtain ⟨b, hb, rb⟩ := robust_ok (js := js.map (guardJ (rsOf known row))) (by simp; omega) (guard_len G.g) (frzH h (js.map (guardJ (rsOf known row))))
    have eb := dueB_iff hb
    have zr := szN (n := row.length) (by have := G.len; omega)
    have lc := lcL_map (g := gNm 4) (ft := fYes) (fe := ce_fewest_guards_1) (vs := [4]) (l := [.v (bookD js), .v (.lst (known.map Rd.d)), .v (tD row), x3, .e]) (h := h) (fun k => some (known.getD k dR).d) natD row [] fun k m => by
      have ka := known_at (G.lt k m)
      generalize (known.getD k dR).d = A at *
      generalize known.map Rd.d = K at *
      generalize bookD js = B at *
      rw [show natD k = D.int (k : Int) from rfl]
      rcases e3 with rfl | ⟨_, rfl⟩ <;> simp [ce_fewest_guards_1, ka]
    rw [List.nil_append, ← pick_row G.lt] at lc
    have hR : (row.map natD).length = row.length := List.length_map _
    have st : stepL (gNm 2) lb_fewest_guards_2 (tD row) [.v (bookD js), .v (.lst (known.map Rd.d)), x2, x3, .e] h = (if dueB js (rsOf known row) = true then .ok (.rt (.v (.lst ((rsOf known row).map Rd.d)))) [.v (bookD js), .v (.lst (known.map Rd.d)), .v (tD row), .v (.lst ((rsOf known row).map Rd.d)), .e] (frzH h (js.map (guardJ (rsOf known row)))) else .ok .nx [.v (bookD js), .v (.lst (known.map Rd.d)), .v (tD row), .v (.lst ((rsOf known row).map Rd.d)), .e] (frzH h (js.map (guardJ (rsOf known row))))) := by
      rw [← eb]
      rw [show (row.map fun k => known.getD k dR) = rsOf known row from rfl] at lc
      simp only [tD] at lc ⊢
      generalize frzH h (js.map (guardJ (rsOf known row))) = H2 at *
      generalize bookD (js.map (guardJ (rsOf known row))) = B2 at *
      generalize (rsOf known row).map Rd.d = RS at *
      generalize row.map natD = RW at *
      generalize known.map Rd.d = K at *
      generalize bookD js = B at *
      cases b <;> rcases e2 with rfl | ⟨_, rfl⟩ <;> rcases e3 with rfl | ⟨_, rfl⟩ <;>
      simp [lb_fewest_guards_2, hR, zr, lc, gd, rb]
    by_cases c : dueB js (rsOf known row) = true
    · rw [if_pos c] at st
      refine ⟨.v (tD row), .v (.lst ((rsOf known row).map Rd.d)), frzH h (js.map (guardJ (rsOf known row))), ?_⟩
      rw [List.map_cons, forL_rt st]
      simp only [List.find?_cons, c]
    · rw [if_neg c] at st
      obtain ⟨y2, y3, h', q⟩ := ih (.v (tD row)) (.v (.lst ((rsOf known row).map Rd.d))) .e _ (fun r m => hg r (by simp [m])) Jk.v Jk.v rfl
      refine ⟨y2, y3, h', ?_⟩
      rw [List.map_cons, forL_nx st, q]
      simp only [List.find?_cons, c]
theorem fewest_guards_ok (hj : js.length ≤ 8) (hs : ∀ j ∈ js, j.2.length ≤ 100) (hn : (js.map (·.1)).Nodup) (hk : (openJ js).length ≤ 8) (hg : ∀ row ∈ upto (openJ js).length (openJ js).length, GR js (openJ js) row) (h : Hs) :
    ∃ h', g_fewest_guards [.v (bookD js)] h = .ok (.v (.lst ((told js (openJ js)).map Rd.d))) [.v (bookD js)] h' := by
  have or_ := open_reads_ok js (by omega) hs h
  have is := index_sets_ok (openJ js).length hk h
  obtain ⟨y2, y3, h', q⟩ := prog_rows hj hn (known := openJ js) (by omega) (upto (openJ js).length (openJ js).length) .e .e .e h hg Jk.e Jk.e rfl
  refine ⟨h', ?_⟩
  have hK : ((openJ js).map Rd.d).length = (openJ js).length := List.length_map _
  have l8 : ¬ (8 : Int) < ((openJ js).length : Int) := by omega
  have l8' : ¬ 8 < (openJ js).length := by omega
  unfold told
  rw [show natD (openJ js).length = D.int ((openJ js).length : Int) from rfl] at is
  generalize (upto (openJ js).length (openJ js).length).map tD = U at *
  generalize bookD js = B at *
  cases c : (upto (openJ js).length (openJ js).length).find? (fun row => dueB js (rsOf (openJ js) row)) with
  | some row =>
    rw [c] at q
    simp only [] at q ⊢
    generalize (rsOf (openJ js) row).map Rd.d = RS at *
    generalize (openJ js).map Rd.d = K at *
    simp [g_fewest_guards, ap_run, b_fewest_guards, or_, hK, l8, l8', is, q]
  | none =>
    rw [c] at q
    simp only [] at q ⊢
    generalize (openJ js).map Rd.d = K at *
    simp [g_fewest_guards, ap_run, b_fewest_guards, or_, hK, l8, l8', is, q]
end
end K94
set_option maxRecDepth 100000
set_option maxHeartbeats 2000000
namespace K94
open PySem PySem.Spec PyProof.Rows L2 VL
section
variable {js : List Jb} {known : List Rd} {names : List Nm}
theorem law_rows (hj : js.length ≤ 8) (hs : ∀ j ∈ js, j.2.length ≤ 100) (hn : ∀ k (hk : k < js.length), names[k]? = some js[k].1) (hk : known.length ≤ 1000) (RD : D) (x4 : Sl) (h : Hs) : ∀ (rows : List (List Nat)) (x5 : Sl), (∀ row ∈ rows, GR js known row) → Jk x5 →
    ∃ x5', Jk x5' ∧ forL (gNm 5) lb__law_fewest_3 (rows.map chD) [.v (.lst (names.map Nm.d)), .v (rowsD js), .v (.lst (known.map Rd.d)), .v RD, x4, x5, .e] h =
      (match rows.find? (fun row => dueB js (rsOf known row)) with
      | some row => .ok (.rt (.v (.lst ((rsOf known row).map Rd.d)))) [.v (.lst (names.map Nm.d)), .v (rowsD js), .v (.lst (known.map Rd.d)), .v RD, x4, x5', .e] h
      | none => .ok .nx [.v (.lst (names.map Nm.d)), .v (rowsD js), .v (.lst (known.map Rd.d)), .v RD, x4, x5', .e] h) := by
  intro rows
  induction rows with
  | nil => exact fun x5 _ e5 => ⟨x5, e5, rfl⟩
  | cons row rows ih =>
    intro x5 hg e5
    have G := hg row (by simp)
    have rl : (rsOf known row).length ≤ 8 := by have := G.len; simp [rsOf]; omega
    have lw := law_with_ok names js (rsOf known row) (by omega) hs (by omega) hn h
    obtain ⟨b, hb, db⟩ := is_due_ok (js := js.map (guardJ (rsOf known row))) (by simp; omega) (guard_len G.g) h
    have eb := dueB_iff hb
    have zr := szN (n := row.length) (by have := G.len; omega)
    have lc : ∀ ce : FE, ce = ce__law_fewest_1 ∨ ce = ce__law_fewest_2 → lcL (gNm 6) fYes ce [6] (row.map natD) [] [.v (.lst (names.map Nm.d)), .v (rowsD js), .v (.lst (known.map Rd.d)), .v RD, x4, .v (chD row), .e] h = .ok ((rsOf known row).map Rd.d) [.v (.lst (names.map Nm.d)), .v (rowsD js), .v (.lst (known.map Rd.d)), .v RD, x4, .v (chD row), .e] h := fun ce hce => by
      have := lcL_map (g := gNm 6) (ft := fYes) (fe := ce) (vs := [6]) (l := [.v (.lst (names.map Nm.d)), .v (rowsD js), .v (.lst (known.map Rd.d)), .v RD, x4, .v (chD row), .e]) (h := h) (fun k => some (known.getD k dR).d) natD row [] fun k m => by
        have ka := known_at (G.lt k m)
        generalize (known.getD k dR).d = A at *
        generalize known.map Rd.d = K at *
        generalize names.map Nm.d = NS at *
        generalize rowsD js = B at *
        rw [show natD k = D.int (k : Int) from rfl]
        rcases hce with rfl | rfl <;> simp [ce__law_fewest_1, ce__law_fewest_2, ka]
      rw [this, List.nil_append, ← pick_row G.lt]
      rfl
    have lc1 := lc _ (.inl rfl)
    have lc2 := lc _ (.inr rfl)
    have hR : (row.map natD).length = row.length := List.length_map _
    have st : stepL (gNm 5) lb__law_fewest_3 (chD row) [.v (.lst (names.map Nm.d)), .v (rowsD js), .v (.lst (known.map Rd.d)), .v RD, x4, x5, .e] h = (if dueB js (rsOf known row) = true then .ok (.rt (.v (.lst ((rsOf known row).map Rd.d)))) [.v (.lst (names.map Nm.d)), .v (rowsD js), .v (.lst (known.map Rd.d)), .v RD, x4, .v (chD row), .e] h else .ok .nx [.v (.lst (names.map Nm.d)), .v (rowsD js), .v (.lst (known.map Rd.d)), .v RD, x4, .v (chD row), .e] h) := by
      rw [← eb]
      simp only [chD] at lc1 lc2 ⊢
      rw [show D.lst (rowL (js.map (guardJ (rsOf known row)))) = rowsD (js.map (guardJ (rsOf known row))) from rfl] at db
      generalize rowsD (js.map (guardJ (rsOf known row))) = B2 at *
      generalize (rsOf known row).map Rd.d = RS at *
      generalize row.map natD = RW at *
      generalize known.map Rd.d = K at *
      generalize names.map Nm.d = NS at *
      generalize rowsD js = B at *
      cases b <;> rcases e5 with rfl | ⟨_, rfl⟩ <;>
      simp [lb__law_fewest_3, hR, zr, lc1, lc2, lw, db]
    by_cases c : dueB js (rsOf known row) = true
    · rw [if_pos c] at st
      refine ⟨.v (chD row), Jk.v, ?_⟩
      rw [List.map_cons, forL_rt st]
      simp only [List.find?_cons, c]
    · rw [if_neg c] at st
      obtain ⟨y5, f5, q⟩ := ih (.v (chD row)) (fun r m => hg r (by simp [m])) Jk.v
      refine ⟨y5, f5, ?_⟩
      rw [List.map_cons, forL_nx st, q]
      simp only [List.find?_cons, c]
theorem law_levels (hj : js.length ≤ 8) (hs : ∀ j ∈ js, j.2.length ≤ 100) (hn : ∀ k (hk : k < js.length), names[k]? = some js[k].1) (hk : known.length ≤ 7) (hg : ∀ row ∈ upto known.length known.length, GR js known row) (h : Hs) : ∀ (r i : Nat) (x4 x5 : Sl), i + r = known.length + 1 → Jk x4 → Jk x5 →
    ∃ l', forL (gNm 4) lb__law_fewest_4 ((List.range' i r).map natD) [.v (.lst (names.map Nm.d)), .v (rowsD js), .v (.lst (known.map Rd.d)), .v (.lst ((lev known.length i).map chD)), x4, x5, .e] h =
      (match ((List.range' i r).flatMap (lev known.length)).find? (fun row => dueB js (rsOf known row)) with
      | some row => .ok (.rt (.v (.lst ((rsOf known row).map Rd.d)))) (.v (.lst (names.map Nm.d)) :: .v (rowsD js) :: .v (.lst (known.map Rd.d)) :: l') h
      | none => .ok .nx (.v (.lst (names.map Nm.d)) :: .v (rowsD js) :: .v (.lst (known.map Rd.d)) :: l') h) := by
  intro r
  induction r with
  | zero => exact fun i x4 x5 _ e4 e5 => ⟨_, rfl⟩
  | succ r ih =>
    intro i x4 x5 hi e4 e5
    have hg' : ∀ row ∈ lev known.length i, GR js known row := fun row m => hg row (by
      unfold upto
      exact List.mem_flatMap.mpr ⟨i, List.mem_range.mpr (by omega), m⟩)
    have b1 := lev_ok ⟨known.length, by omega⟩ ⟨i, by omega⟩
    have b2 := lev_ok ⟨known.length, by omega⟩ ⟨i + 1, by omega⟩
    dsimp only at b1 b2
    obtain ⟨y5, f5, q⟩ := law_rows hj hs hn (by omega) (.lst ((lev known.length i).map chD)) (.v (natD i)) h (lev known.length i) x5 hg' e5
    have lo := longer_ok known.length (by omega) (lev known.length i) (fun row m => ⟨by have := (b1.2.2 row m).1; omega, (b1.2.2 row m).2.2⟩) (by show (lev known.length (i + 1)).length ≤ 1000; omega) h
    have hK : (known.map Rd.d).length = known.length := List.length_map _
    rw [List.range'_succ, List.map_cons, List.flatMap_cons, List.find?_append]
    cases c : (lev known.length i).find? (fun row => dueB js (rsOf known row)) with
    | some row =>
      rw [c] at q
      simp only [] at q
      refine ⟨[.v (.lst ((lev known.length i).map chD)), .v (natD i), y5, .e], ?_⟩
      have st : stepL (gNm 4) lb__law_fewest_4 (natD i) [.v (.lst (names.map Nm.d)), .v (rowsD js), .v (.lst (known.map Rd.d)), .v (.lst ((lev known.length i).map chD)), x4, x5, .e] h = .ok (.rt (.v (.lst ((rsOf known row).map Rd.d)))) [.v (.lst (names.map Nm.d)), .v (rowsD js), .v (.lst (known.map Rd.d)), .v (.lst ((lev known.length i).map chD)), .v (natD i), y5, .e] h := by
        rw [show natD i = D.int (i : Int) from rfl] at *
        generalize (lev known.length i).map chD = LV at *
        generalize (rsOf known row).map Rd.d = RS at *
        generalize known.map Rd.d = K at *
        generalize names.map Nm.d = NS at *
        generalize rowsD js = B at *
        rcases e4 with rfl | ⟨_, rfl⟩ <;> simp [lb__law_fewest_4, q]
      rw [forL_rt st]
      rfl
    | none =>
      rw [c] at q
      simp only [] at q
      have st : stepL (gNm 4) lb__law_fewest_4 (natD i) [.v (.lst (names.map Nm.d)), .v (rowsD js), .v (.lst (known.map Rd.d)), .v (.lst ((lev known.length i).map chD)), x4, x5, .e] h = .ok .nx [.v (.lst (names.map Nm.d)), .v (rowsD js), .v (.lst (known.map Rd.d)), .v (.lst ((lev known.length (i + 1)).map chD)), .v (natD i), y5, .e] h := by
        rw [show nextR known.length (lev known.length i) = lev known.length (i + 1) from rfl] at lo
        rw [show natD i = D.int (i : Int) from rfl] at *
        generalize (lev known.length i).map chD = LV at *
        generalize (lev known.length (i + 1)).map chD = LW at *
        generalize known.map Rd.d = K at *
        generalize names.map Nm.d = NS at *
        generalize rowsD js = B at *
        rcases e4 with rfl | ⟨_, rfl⟩ <;> simp [lb__law_fewest_4, q, hK, lo]
      obtain ⟨l', w⟩ := ih (i + 1) (.v (natD i)) y5 (by omega) Jk.v f5
      exact ⟨l', by rw [forL_nx st, w]; rfl⟩
theorem law_fewest_ok (hj : js.length ≤ 8) (hs : ∀ j ∈ js, j.2.length ≤ 100) (hn : ∀ k (hk : k < js.length), names[k]? = some js[k].1) (hk : known.length ≤ 7) (hg : ∀ row ∈ upto known.length known.length, GR js known row) (h : Hs) :
    g__law_fewest [.v (.lst (names.map Nm.d)), .v (rowsD js), .v (.lst (known.map Rd.d))] h = .ok (.v (.lst ((told js known).map Rd.d))) [.v (.lst (names.map Nm.d)), .v (rowsD js), .v (.lst (known.map Rd.d))] h := by
  obtain ⟨l', q⟩ := law_levels hj hs hn hk hg h (known.length + 1) 0 .e .e (by omega) Jk.e Jk.e
  rw [← List.range_eq_range'] at q
  have e0 : (lev known.length 0).map chD = [.lst []] := rfl
  rw [e0] at q
  have hK : (known.map Rd.d).length = known.length := List.length_map _
  have z0 := szN (n := 0) (by omega)
  have z1 := szN (n := 1) (by omega)
  have r1 : ∀ l, rng1 l h [.v (.int ((known.length : Int) + 1))] = .ok ((List.range (known.length + 1)).map natD) l h := fun l => by
    have := rng1_nat (l := l) (h := h) (n := known.length + 1) (by omega)
    exact this
  unfold told
  rw [show (List.range (known.length + 1)).flatMap (lev known.length) = upto known.length known.length from rfl] at q
  generalize (List.range (known.length + 1)).map natD = Rg at *
  cases c : (upto known.length known.length).find? (fun row => dueB js (rsOf known row)) with
  | some row =>
    rw [c] at q
    simp only [] at q ⊢
    generalize (rsOf known row).map Rd.d = RS at *
    generalize known.map Rd.d = K at *
    generalize names.map Nm.d = NS at *
    generalize rowsD js = B at *
    simp [g__law_fewest, ap_run, b__law_fewest, z0, z1, hK, r1, q]
  | none =>
    rw [c] at q
    simp only [] at q ⊢
    generalize known.map Rd.d = K at *
    generalize names.map Nm.d = NS at *
    generalize rowsD js = B at *
    simp [g__law_fewest, ap_run, b__law_fewest, z0, z1, hK, r1, q]
end
end K94
set_option maxRecDepth 100000
set_option maxHeartbeats 2000000
namespace K94
open PySem PySem.Spec PyProof.Rows L2 VL
/-- what _law_same takes: None, ints, texts, lists and tuples of such, to a depth -/
def sd : Nat → D → Bool
  | _, .non => true
  | _, .int _ => true
  | _, .str _ => true
  | k + 1, .lst xs => xs.all (sd k) && decide (xs.length ≤ 1000)
  | k + 1, .tup xs => xs.all (sd k) && decide (xs.length ≤ 1000)
  | _, _ => false
theorem is_int_ok (i : Int) (h : Hs) : g__law_is_int [.v (.int i)] h = .ok (.v (.bl true)) [.v (.int i)] h := by
  simp [g__law_is_int, ap_run, b__law_is_int, isiD, tyN, ftT]
theorem same_loop (gs : G) (a : List D) (mk : List D → D) (hm : ∀ xs i, gIx (mk xs) (.int i) = atI xs i) (hgs : ∀ x ∈ a, ∀ h, gs [.v x, .v x] h = .ok (.v (.bl true)) [.v x, .v x] h) (x2 : Sl) (h : Hs) : ∀ (ks : List Nat) (x3 : Sl), Jk x3 → (∀ k ∈ ks, k < a.length) →
    ∃ x3', forL (gNm 3) (lb__law_same_2 gs) (ks.map natD) [.v (mk a), .v (mk a), x2, x3] h = .ok .nx [.v (mk a), .v (mk a), x2, x3'] h := by
  intro ks
  induction ks with
  | nil => exact fun x3 e3 _ => ⟨x3, rfl⟩
  | cons k ks ih =>
    intro x3 e3 hk
    have kl := hk k (by simp)
    have ka : atI a (k : Int) = some a[k] := atI_at (by simp [kl])
    have g1 := hgs a[k] (List.getElem_mem kl)
    have i1 := hm a
    have st : stepL (gNm 3) (lb__law_same_2 gs) (natD k) [.v (mk a), .v (mk a), x2, x3] h = .ok .nx [.v (mk a), .v (mk a), x2, .v (natD k)] h := by
      generalize mk a = A at *
      generalize a[k] = E at *
      rw [show natD k = D.int (k : Int) from rfl]
      rcases e3 with rfl | ⟨_, rfl⟩ <;> simp [lb__law_same_2, i1, ka, g1]
    obtain ⟨y3, q⟩ := ih (.v (natD k)) Jk.v fun j m => hk j (by simp [m])
    exact ⟨y3, by rw [List.map_cons, forL_nx st]; exact q⟩
theorem same_ok : ∀ (k : Nat) (d : D), sd k d = true → ∀ h, gr__law_same (k + 1) [.v d, .v d] h = .ok (.v (.bl true)) [.v d, .v d] h := by
  intro k
  induction k with
  | zero =>
    intro d hd h
    show run 2 4 (b__law_same _) [.v d, .v d] h = _
    cases d with
    | non => simp [ap_run, b__law_same, gIsA, gIsQ, VL.isNon]
    | int i => simp [ap_run, b__law_same, gIsA, gIsQ, VL.isNon, isBl, isiD, tyN, ftT, is_int_ok]
    | str x => simp [ap_run, b__law_same, gIsA, gIsQ, VL.isNon, isBl, isiD, tyN, ftT]
    | _ => simp [sd] at hd
  | succ k ih =>
    intro d hd h
    show run 2 4 (b__law_same (gr__law_same (k + 1))) [.v d, .v d] h = _
    cases d with
    | non => simp [ap_run, b__law_same, gIsA, gIsQ, VL.isNon]
    | int i => simp [ap_run, b__law_same, gIsA, gIsQ, VL.isNon, isBl, isiD, tyN, ftT, is_int_ok]
    | str x => simp [ap_run, b__law_same, gIsA, gIsQ, VL.isNon, isBl, isiD, tyN, ftT]
    | lst xs =>
      simp only [sd, Bool.and_eq_true, List.all_eq_true, decide_eq_true_eq] at hd
      obtain ⟨y3, q⟩ := same_loop (gr__law_same (k + 1)) xs .lst (fun xs i => rfl) (fun x m h => ih x (hd.1 x m) h) .e h (List.range xs.length) .e Jk.e (fun j m => List.mem_range.mp m)
      have r1 := fun l => rng1_nat (l := l) (h := h) (n := xs.length) (by omega)
      have e : (fun k : Nat => D.int (k : Int)) = natD := rfl
      rw [e] at r1
      generalize gr__law_same (k + 1) = gs at *
      generalize (List.range xs.length).map natD = R at *
      simp [ap_run, b__law_same, gIsA, gIsQ, VL.isNon, isBl, isiD, tyN, ftT, r1, q]
    | tup xs =>
      simp only [sd, Bool.and_eq_true, List.all_eq_true, decide_eq_true_eq] at hd
      obtain ⟨y3, q⟩ := same_loop (gr__law_same (k + 1)) xs .tup (fun xs i => rfl) (fun x m h => ih x (hd.1 x m) h) .e h (List.range xs.length) .e Jk.e (fun j m => List.mem_range.mp m)
      have r1 := fun l => rng1_nat (l := l) (h := h) (n := xs.length) (by omega)
      have e : (fun k : Nat => D.int (k : Int)) = natD := rfl
      rw [e] at r1
      generalize gr__law_same (k + 1) = gs at *
      generalize (List.range xs.length).map natD = R at *
      simp [ap_run, b__law_same, gIsA, gIsQ, VL.isNon, isBl, isiD, tyN, ftT, r1, q]
    | _ => simp [sd] at hd
theorem same (d : D) (hd : sd 7 d = true) (h : Hs) : g__law_same [.v d, .v d] h = .ok (.v (.bl true)) [.v d, .v d] h := same_ok 7 d hd h
end K94
set_option maxRecDepth 100000
set_option maxHeartbeats 2000000
namespace K94
open PySem PySem.Spec PyProof.Rows L2 VL
/-! ### cells by membership -/
theorem wc_mem' (c : Cl) : ∀ (ts : List Stp) (s : List Cl), c ∈ ts.foldl wrF s ↔ c ∈ s ∨ ∃ t ∈ ts, t.a ≠ .rd ∧ t.cl = c
  | [], s => by simp
  | t :: ts, s => by
    rw [List.foldl_cons, wc_mem' c ts]
    unfold wrF
    by_cases h1 : t.a ≠ .rd ∧ t.cl ∉ s
    · rw [if_pos h1]
      simp only [List.mem_append, List.mem_cons, List.not_mem_nil, or_false, exists_eq_or_imp]
      constructor
      · rintro ((h | h) | h)
        · exact .inl h
        · exact .inr (.inl ⟨h1.1, h.symm⟩)
        · exact .inr (.inr h)
      · rintro (h | ⟨_, h⟩ | h)
        · exact .inl (.inl h)
        · exact .inl (.inr h.symm)
        · exact .inr h
    · rw [if_neg h1]
      simp only [List.mem_cons, exists_eq_or_imp]
      constructor
      · rintro (h | h)
        · exact .inl h
        · exact .inr (.inr h)
      · rintro (h | ⟨h2, h3⟩ | h)
        · exact .inl h
        · by_cases q : t.cl ∈ s
          · exact .inl (h3 ▸ q)
          · exact absurd ⟨h2, q⟩ h1
        · exact .inr h
theorem wc_mem {c : Cl} {ts : List Stp} : c ∈ wc ts ↔ ∃ t ∈ ts, t.a ≠ .rd ∧ t.cl = c := by
  have := wc_mem' c ts []
  simpa [wc] using this
theorem rc_sub' (c : Cl) : ∀ (ts : List Stp) (s : List Cl × List Cl), c ∈ (ts.foldl rdF s).2 → c ∈ s.2 ∨ ∃ t ∈ ts, t.cl = c
  | [], s, h => .inl h
  | t :: ts, s, h => by
    rcases rc_sub' c ts _ h with q | ⟨u, m, e⟩
    · unfold rdF at q
      dsimp only at q
      split at q
      · rcases List.mem_append.mp q with q | q
        · exact .inl q
        · exact .inr ⟨t, by simp, (List.mem_singleton.mp q).symm⟩
      · exact .inl q
    · exact .inr ⟨u, by simp [m], e⟩
theorem rc_sub {c : Cl} {ts : List Stp} (h : c ∈ rc ts) : ∃ t ∈ ts, t.cl = c := by
  rcases rc_sub' c ts ([], []) h with q | q
  · simp at q
  · exact q
theorem rc_keep (c : Cl) : ∀ (ts : List Stp) (s : List Cl × List Cl), c ∈ s.2 → c ∈ (ts.foldl rdF s).2
  | [], s, h => h
  | t :: ts, s, h => by
    refine rc_keep c ts _ ?_
    unfold rdF
    dsimp only
    split
    · exact List.mem_append_left _ h
    · exact h
theorem rc_of' (c : Cl) : ∀ (ts : List Stp) (s : List Cl × List Cl), c ∉ s.1 → (∀ t ∈ ts, t.cl = c → t.a = .rd) → (∃ t ∈ ts, t.cl = c) → c ∈ (ts.foldl rdF s).2
  | [], s, _, _, ⟨t, m, _⟩ => by simp at m
  | t :: ts, s, h, hr, ⟨u, m, e⟩ => by
    rw [List.foldl_cons]
    by_cases q : t.cl = c
    · refine rc_keep c ts _ ?_
      have := hr t (by simp) q
      unfold rdF
      dsimp only
      rw [if_pos ⟨by rw [this]; exact fun z => (nomatch z), by rw [q]; exact h⟩]
      simp [q]
    · have m' : u ∈ ts := by
        rcases List.mem_cons.mp m with z | z
        · exact absurd (z ▸ e) q
        · exact z
      refine rc_of' c ts _ ?_ (fun v mv => hr v (by simp [mv])) ⟨u, m', e⟩
      unfold rdF
      dsimp only
      intro z
      rcases List.mem_append.mp z with z | z
      · exact h z
      · exact q (List.mem_singleton.mp z).symm
theorem rc_of {c : Cl} {ts : List Stp} (h : c ∉ wc ts) (e : ∃ t ∈ ts, t.cl = c) : c ∈ rc ts :=
  rc_of' c ts ([], []) (by simp) (fun t m q => Classical.byContradiction fun z => h (wc_mem.mpr ⟨t, m, z, q⟩)) e
theorem open_mem {j : Jb} {r : Rd} : r ∈ openOf j ↔ r.1 = j.1 ∧ r.2 ∈ rc j.2 ∧ r.2 ∉ wc j.2 := by
  unfold openOf
  rw [List.mem_filterMap]
  constructor
  · rintro ⟨c, m, e⟩
    by_cases q : c ∈ wc j.2
    · simp [q] at e
    · simp [q] at e
      rw [← e]
      exact ⟨rfl, m, q⟩
  · rintro ⟨h1, h2, h3⟩
    exact ⟨r.2, h2, by simp [h3, ← h1]⟩
theorem openJ_mem {js : List Jb} {r : Rd} : r ∈ openJ js ↔ ∃ j ∈ js, r ∈ openOf j := List.mem_flatMap
/-- with all of them nothing is missed -/
theorem guard_all {js : List Jb} {j : Jb} (m : j ∈ js) {c : Cl} (h : c ∈ rc (guardJ (openJ js) j).2) : c ∈ wc (guardJ (openJ js) j).2 := by
  refine Classical.byContradiction fun nw => ?_
  have all : ∀ t ∈ (guardJ (openJ js) j).2, t.cl = c → t.a = .rd := fun t mt e => Classical.byContradiction fun z => nw (wc_mem.mpr ⟨t, mt, z, e⟩)
  obtain ⟨t, mt, e⟩ := rc_sub h
  have mj : t ∈ j.2 := by
    rcases List.mem_append.mp mt with q | q
    · exact q
    · obtain ⟨r, _, e2⟩ := List.mem_filterMap.mp q
      have ad : t.a = .ad := by
        split at e2
        · cases e2; rfl
        · cases e2
      have := all t mt e
      rw [ad] at this
      cases this
  have nw1 : c ∉ wc j.2 := fun z => by
    obtain ⟨u, mu, a, b⟩ := wc_mem.mp z
    exact nw (wc_mem.mpr ⟨u, List.mem_append_left _ mu, a, b⟩)
  have ro := rc_of nw1 ⟨t, mj, e⟩
  have om : (j.1, c) ∈ openJ js := openJ_mem.mpr ⟨j, m, open_mem.mpr ⟨rfl, ro, nw1⟩⟩
  refine nw (wc_mem.mpr ⟨gst (j.1, c), List.mem_append_right _ (List.mem_filterMap.mpr ⟨(j.1, c), om, by simp⟩), fun z => (nomatch z), rfl⟩)
theorem jget_mem {js : List Jb} {o : Nat} (ho : o < js.length) : jget js o ∈ js := by
  unfold jget
  rw [List.getD_eq_getElem?_getD, List.getElem?_eq_getElem ho]
  exact List.getElem_mem ho
theorem due_all (js : List Jb) : Due js (openJ js) := fun o ho f => by
  have : stJ (js.map (guardJ (openJ js))) o = [] := by
    unfold stJ
    rw [List.filter_eq_nil_iff]
    intro k mk hm
    have nb : bw (jget (js.map (guardJ (openJ js))) o).2 (jget (js.map (guardJ (openJ js))) k).2 = false := by
      have := (List.mem_filter.mp mk).2
      simpa using this
    obtain ⟨c, m1, m2⟩ := List.any_eq_true.mp hm
    obtain ⟨j, mj, ej⟩ := List.mem_map.mp (jget_mem ho)
    rw [← ej] at m1 nb
    have m3 := guard_all mj m1
    have : bw (guardJ (openJ js) j).2 (jget (js.map (guardJ (openJ js))) k).2 = true := List.any_eq_true.mpr ⟨c, m3, m2⟩
    rw [this] at nb
    cases nb
  obtain ⟨k, r, _⟩ := f
  have no : ∀ k, ¬ Reach (alJ (js.map (guardJ (openJ js))) o) (stJ (js.map (guardJ (openJ js))) o) (cfJ (js.map (guardJ (openJ js)))) k := fun k r => by
    induction r with
    | st m => rw [this] at m; simp at m
    | go _ _ _ ih => exact ih
  exact no k r
theorem rsOf_all (known : List Rd) : rsOf known (List.range known.length) = known := by
  unfold rsOf
  refine List.ext_getElem (by simp) fun i h1 h2 => ?_
  simp [h2]
theorem told_due {js : List Jb} (hk : (openJ js).length ≤ 8) : Due js (told js (openJ js)) := by
  unfold told
  cases c : (upto (openJ js).length (openJ js).length).find? (fun row => dueB js (rsOf (openJ js) row)) with
  | some row =>
    have := List.find?_some c
    simpa [dueB] using this
  | none => exact due_all js
theorem grd_len {js : List Jb} {m : Nat} (hs : ∀ j ∈ js, j.2.length ≤ m) (hn : (js.map (·.1)).Nodup) (n : Nm) : (grd (openJ js) n).length ≤ m := by
  induction js with
  | nil => simp [openJ, grd]
  | cons j js ih =>
    have h0 := hs j (by simp)
    have nd := List.nodup_cons.mp (show (j.1 :: js.map (·.1)).Nodup from hn)
    have ih := ih (fun i mi => hs i (by simp [mi])) nd.2
    have ap : grd (openJ (j :: js)) n = grd (openOf j) n ++ grd (openJ js) n := by
      unfold grd openJ
      rw [List.flatMap_cons, List.filterMap_append]
    rw [ap, List.length_append]
    by_cases q : j.1 = n
    · have z : grd (openJ js) n = [] := by
        unfold grd
        rw [List.filterMap_eq_nil_iff]
        intro r mr
        obtain ⟨i, mi, ri⟩ := openJ_mem.mp mr
        have e := (open_mem.mp ri).1
        have : ¬ r.1 = n := fun z => nd.1 (by rw [q, ← z, e]; exact List.mem_map.mpr ⟨i, mi, rfl⟩)
        simp [this]
      rw [z]
      have : (grd (openOf j) n).length ≤ (openOf j).length := List.length_filterMap_le _ _
      have := openOf_len j
      simp only [List.length_nil]
      omega
    · have z : grd (openOf j) n = [] := by
        unfold grd
        rw [List.filterMap_eq_nil_iff]
        intro r mr
        have e := (open_mem.mp mr).1
        have : ¬ r.1 = n := fun z => q (by rw [← e]; exact z)
        simp [this]
      rw [z]
      simpa using ih
/-- the number of guards, of rows of places -/
theorem grd_rows {known : List Rd} {row : List Nat} (nd : row.Nodup) (lt : ∀ k ∈ row, k < known.length) (n : Nm) : (grd (rsOf known row) n).length ≤ (grd known n).length := by
  have gf : ∀ rs : List Rd, (grd rs n).length = (rs.filter fun r => decide (r.1 = n)).length := fun rs => by
    unfold grd
    have := fm_if (fun r : Rd => decide (r.1 = n)) gst rs
    simp only [decide_eq_true_eq] at this
    rw [this, List.length_map]
  rw [gf, gf]
  have e1 : ((rsOf known row).filter fun r => decide (r.1 = n)).length = (row.filter fun k => decide ((known.getD k dR).1 = n)).length := by
    unfold rsOf
    rw [List.filter_map, List.length_map]
    rfl
  have e2 : (known.filter fun r => decide (r.1 = n)).length = ((List.range known.length).filter fun k => decide ((known.getD k dR).1 = n)).length := by
    conv => lhs; rw [← rsOf_all known]
    unfold rsOf
    rw [List.filter_map, List.length_map]
    rfl
  rw [e1, e2]
  refine nodup_le (nd.sublist List.filter_sublist) fun k m => ?_
  obtain ⟨m1, m2⟩ := List.mem_filter.mp m
  exact List.mem_filter.mpr ⟨List.mem_range.mpr (lt k m1), m2⟩
/-- jobs as the law makes them -/
structure GL (js : List Jb) : Prop where
  len : js.length ≤ 8
  nd : (js.map (·.1)).Nodup
  n : ∀ j ∈ js, GNm j.1.1
  l : ∀ j ∈ js, j.2.length ≤ 4
  s : ∀ j ∈ js, ∀ t ∈ j.2, GStp t
theorem GL.jb {js : List Jb} (g : GL js) {rs : List Rd} (hr : ∀ r ∈ rs, r ∈ openJ js) (hl : ∀ n, (grd rs n).length ≤ (grd (openJ js) n).length) : ∀ j ∈ js, GJb (guardJ rs j) := fun j m => by
  refine ⟨g.n j m, ?_, fun t mt => ?_⟩
  · have := g.l j m
    have := hl j.1
    have := grd_len g.l g.nd j.1
    simp only [guardJ, List.length_append]
    omega
  · rcases List.mem_append.mp mt with q | q
    · exact g.s j m t q
    · obtain ⟨r, mr, e⟩ := List.mem_filterMap.mp q
      have et : t = gst r := by
        split at e
        · cases e; rfl
        · cases e
      obtain ⟨i, mi, ri⟩ := openJ_mem.mp (hr r mr)
      obtain ⟨u, mu, eu⟩ := rc_sub (open_mem.mp ri).2.1
      have gu := g.s i mi u mu
      have e1 : u.f = r.2.1 := congrArg Prod.fst eu
      have e2 : u.r = r.2.2 := congrArg Prod.snd eu
      rw [et]
      exact ⟨by show GNm r.2.1.1; rw [← e1]; exact gu.f, by show 0 ≤ r.2.2 ∧ r.2.2 ≤ 10 ^ 30; rw [← e2]; exact gu.r, by show -(10 ^ 30) ≤ (0 : Int) ∧ (0 : Int) ≤ 10 ^ 30; decide⟩
theorem GL.gr {js : List Jb} (g : GL js) (hk : (openJ js).length ≤ 8) : ∀ row ∈ upto (openJ js).length (openJ js).length, GR js (openJ js) row := fun row m => by
  obtain ⟨r1, r2, r3⟩ := upto_ok ⟨(openJ js).length, by omega⟩ ⟨(openJ js).length, by omega⟩ row m
  refine ⟨r1, r3, g.jb (fun r mr => ?_) fun n => grd_rows r2 r3 n⟩
  obtain ⟨k, mk, e⟩ := List.mem_map.mp mr
  have := r3 k mk
  rw [← e, List.getD_eq_getElem?_getD, List.getElem?_eq_getElem this]
  exact List.getElem_mem this
theorem GL.told {js : List Jb} (g : GL js) (hk : (openJ js).length ≤ 8) : ∀ j ∈ js, GJb (guardJ (K94.told js (openJ js)) j) := by
  unfold K94.told
  cases c : (upto (openJ js).length (openJ js).length).find? (fun row => dueB js (rsOf (openJ js) row)) with
  | some row => exact (g.gr hk row (List.mem_of_find?_eq_some c)).g
  | none => exact g.jb (fun r m => m) fun n => Nat.le_refl _
theorem told_len {js : List Jb} (hk : (openJ js).length ≤ 8) : (told js (openJ js)).length ≤ 8 := by
  unfold told
  cases c : (upto (openJ js).length (openJ js).length).find? (fun row => dueB js (rsOf (openJ js) row)) with
  | some row =>
    have := (upto_ok ⟨(openJ js).length, by omega⟩ ⟨(openJ js).length, by omega⟩ row (List.mem_of_find?_eq_some c)).1
    simpa [rsOf] using this
  | none => exact hk
end K94
set_option maxRecDepth 100000
set_option maxHeartbeats 2000000
namespace K94
open PySem PySem.Spec PyProof.Rows L2 VL
theorem job_rows_ok (s : St) (fields : List Nm) (rows many most : Nat) (hf : 0 < fields.length) (hf2 : fields.length ≤ 1000) (hr : 0 < rows) (hr2 : rows ≤ 1000) (hm : many ≤ 100) (hm2 : most ≤ 100) (h : Hs) : ∃ (s' : St) (rs : List (List Stp)), rs.length = many ∧ (∀ ts ∈ rs, ts.length ≤ most ∧ ∀ t ∈ ts, StpOk fields rows t) ∧
    g__law_job_rows [.m true s.d, .v (.lst (fields.map Nm.d)), .v (.int (rows : Int)), .v (.int (many : Int)), .v (.int (most : Int))] h = .ok (.v (.lst (rs.map fun ts => .lst (ts.map Stp.d)))) [.m true (St.d s'), .v (.lst (fields.map Nm.d)), .v (.int (rows : Int)), .v (.int (many : Int)), .v (.int (most : Int))] h := by
  have key : ∀ (ks : List Nat) (acc : List D) (s : St), ∃ (s' : St) (rs : List (List Stp)), rs.length = ks.length ∧ (∀ ts ∈ rs, ts.length ≤ most ∧ ∀ t ∈ ts, StpOk fields rows t) ∧
      lcL (gNm 5) fYes ce__law_job_rows_1 [5] (ks.map natD) acc [.m true s.d, .v (.lst (fields.map Nm.d)), .v (.int (rows : Int)), .v (.int (many : Int)), .v (.int (most : Int)), .e] h = .ok (acc ++ rs.map fun ts => .lst (ts.map Stp.d)) [.m true (St.d s'), .v (.lst (fields.map Nm.d)), .v (.int (rows : Int)), .v (.int (many : Int)), .v (.int (most : Int)), .e] h := by
    intro ks
    induction ks with
    | nil => exact fun acc s => ⟨s, [], rfl, by simp, by simp [lcL_nil]⟩
    | cons k ks ih =>
      intro acc s
      obtain ⟨d, s1, hd, dr⟩ := drawN s (most + 1) (by omega) (by omega)
      obtain ⟨s2, ts, tl, tg, st⟩ := steps_ok s1 fields rows (most - d) hf hf2 hr hr2 (by omega) h
      obtain ⟨s3, rs, rl, rg, q⟩ := ih (acc ++ [.lst (ts.map Stp.d)]) s2
      have dr := dr h
      rw [show ((most + 1 : Nat) : Int) = (most : Int) + 1 by omega] at dr
      rw [show ((most - d : Nat) : Int) = (most : Int) - d by omega] at st
      have el : elL (gNm 5) fYes ce__law_job_rows_1 [5] (natD k) [.m true s.d, .v (.lst (fields.map Nm.d)), .v (.int (rows : Int)), .v (.int (many : Int)), .v (.int (most : Int)), .e] h = .ok (some (.lst (ts.map Stp.d))) [.m true (St.d s2), .v (.lst (fields.map Nm.d)), .v (.int (rows : Int)), .v (.int (many : Int)), .v (.int (most : Int)), .e] h := by
        generalize fields.map Nm.d = F at *
        generalize ts.map Stp.d = T at *
        simp [ce__law_job_rows_1, natD, dr, st]
      refine ⟨s3, ts :: rs, by simp [rl], fun us m => ?_, ?_⟩
      · rcases List.mem_cons.mp m with m | m
        · subst m; exact ⟨by omega, tg⟩
        · exact rg us m
      · rw [List.map_cons, lcL_cons, el]
        simp only []
        rw [q]
        simp
  obtain ⟨s', rs, rl, rg, q⟩ := key (List.range many) [] s
  refine ⟨s', rs, by simpa using rl, rg, ?_⟩
  rw [List.nil_append] at q
  have zm := szN (n := many) (by omega)
  have hR : ((List.range many).map natD).length = many := by simp
  have r1 := fun l => rng1_nat (l := l) (h := h) (n := many) (by omega)
  rw [show (fun k : Nat => D.int (k : Int)) = natD from rfl] at r1
  generalize (List.range many).map natD = R at *
  generalize fields.map Nm.d = F at *
  generalize (rs.map fun ts => D.lst (ts.map Stp.d)) = T at *
  simp [g__law_job_rows, ap_run, b__law_job_rows, r1, hR, zm, q]
/-! ### wide jobs -/
def wideS (f : Nm) (m : Nat) : List Stp := (List.range m).map fun k : Nat => ⟨.rd, f, (k : Int), 0⟩
theorem wide_wc (f : Nm) (m : Nat) : wc (wideS f m) = [] := by
  refine List.eq_nil_iff_forall_not_mem.mpr fun c mc => ?_
  obtain ⟨t, mt, a, _⟩ := wc_mem.mp mc
  obtain ⟨k, _, e⟩ := List.mem_map.mp mt
  exact a (by rw [← e])
theorem wide_rc (f : Nm) : ∀ (ks : List Nat) (s : List Cl × List Cl), ks.Nodup → (∀ k ∈ ks, (f, (k : Int)) ∉ s.1) → ((ks.map fun k : Nat => (⟨.rd, f, (k : Int), 0⟩ : Stp)).foldl rdF s).2.length = s.2.length + ks.length
  | [], s, _, _ => by simp
  | k :: ks, s, nd, ni => by
    obtain ⟨n1, n2⟩ := List.nodup_cons.mp nd
    rw [List.map_cons, List.foldl_cons]
    have e : rdF s ⟨.rd, f, (k : Int), 0⟩ = (s.1 ++ [(f, (k : Int))], s.2 ++ [(f, (k : Int))]) := by
      unfold rdF
      rw [if_pos ⟨fun z => (nomatch z), ni k (by simp)⟩]
      rfl
    rw [e, wide_rc f ks _ n2 fun j mj z => by
      rcases List.mem_append.mp z with z | z
      · exact ni j (by simp [mj]) z
      · have := List.mem_singleton.mp z
        have : (j : Int) = k := congrArg Prod.snd this
        have : j = k := by omega
        exact n1 (this ▸ mj)]
    simp
    omega
theorem wide_open (n f : Nm) (m : Nat) : (openJ [(n, wideS f m)]).length = m := by
  have h1 : (rc (wideS f m)).length = m := by
    have := wide_rc f (List.range m) ([], []) List.nodup_range (by simp)
    simpa [rc, wideS] using this
  have h2 : openOf (n, wideS f m) = (rc (wideS f m)).map fun c => (n, c) := by
    unfold openOf
    rw [wide_wc]
    simp only [List.not_mem_nil, not_false_eq_true, if_true]
    rw [List.filterMap_eq_map']
  simp [openJ, h2, h1]
theorem forL_one_rt {g : FG} {fb : FS} {d : D} {ds : List D} {l l' : Ls} {h h' : Hs} {w : W} (e : forL g fb [d] l h = .ok (.rt w) l' h') : forL g fb (d :: ds) l h = .ok (.rt w) l' h' := by
  rw [forL_cons] at e ⊢
  cases q : stepL g fb d l h with
  | no => rw [q] at e; cases e
  | ex x l1 h1 => rw [q] at e; cases e
  | ok fl l1 h1 =>
    rw [q] at e
    cases fl with
    | rt w1 => exact e
    | nx => rw [R.bind_eq] at e; simp [forL_nil] at e
    | ct => rw [R.bind_eq] at e; simp [forL_nil] at e
    | bk => rw [R.bind_eq] at e; simp at e
    | ro d => rw [R.bind_eq] at e; simp at e
theorem wide_gs {f : Nm} (gf : GNm f.1) (m : Nat) (hm : m ≤ 9) : ∀ t ∈ wideS f m, GStp t := fun t mt => by
  obtain ⟨k, mk, e⟩ := List.mem_map.mp mt
  have := List.mem_range.mp mk
  rw [← e]
  exact ⟨gf, by dsimp only; omega, by dsimp only; omega⟩
theorem one_due (j : Jb) : Due [j] [] := fun o ho f => by
  have : alJ ([j].map (guardJ [])) o = [] := by
    have h1 : o = 0 := by simp at ho; exact ho
    subst h1
    simp [alJ]
  obtain ⟨k, r, _⟩ := f
  have no : ∀ k, ¬ Reach (alJ ([j].map (guardJ [])) o) (stJ ([j].map (guardJ [])) o) (cfJ ([j].map (guardJ []))) k := fun k r => by
    induction r with
    | st m =>
      have := (List.mem_filter.mp m).1
      simp_all
    | go _ _ _ ih => exact ih
  exact no k r
theorem refused8 {n f : Nm} (gn : GNm n.1) (gf : GNm f.1) (h : Hs) : ∃ h', g__law_refused [.v (bookD [(n, wideS f 8)])] h = .ok (.v .non) [.v (bookD [(n, wideS f 8)])] h' := by
  have wl : (wideS f 8).length = 8 := by simp [wideS]
  have ol := wide_open n f 8
  have or_ := open_reads_ok [(n, wideS f 8)] (by simp) (by simp [wl]) h
  have is := index_sets_ok 8 (by omega) h
  have gr : GR [(n, wideS f 8)] (openJ [(n, wideS f 8)]) [] := ⟨by simp, by simp, fun j m => by
    have e : j = (n, wideS f 8) := by simpa using m
    rw [e]
    exact ⟨gn, by simp [guardJ, grd, rsOf, wl], fun t mt => wide_gs gf 8 (by omega) t (by simpa [guardJ, grd, rsOf] using mt)⟩⟩
  obtain ⟨y2, y3, h', q⟩ := prog_rows (js := [(n, wideS f 8)]) (known := openJ [(n, wideS f 8)]) (by simp) (by simp) (by omega) [[]] .e .e .e h (by simpa using gr) Jk.e Jk.e rfl
  have du : dueB [(n, wideS f 8)] (rsOf (openJ [(n, wideS f 8)]) []) = true := by
    have := one_due (n, wideS f 8)
    rw [show rsOf (openJ [(n, wideS f 8)]) [] = [] from rfl]
    simp [dueB, this]
  have fd : ([[]] : List (List Nat)).find? (fun row => dueB [(n, wideS f 8)] (rsOf (openJ [(n, wideS f 8)]) row)) = some [] := by simp [du]
  rw [fd] at q
  simp only [] at q
  obtain ⟨rest, er⟩ : ∃ rest, upto 8 8 = [] :: rest := ⟨(upto 8 8).tail, by decide +kernel⟩
  refine ⟨h', ?_⟩
  have q2 := forL_one_rt (ds := rest.map tD) q
  have eu : (upto 8 8).map tD = tD [] :: rest.map tD := by rw [er]; rfl
  rw [← eu] at q2
  have hK : ((openJ [(n, wideS f 8)]).map Rd.d).length = 8 := by rw [List.length_map, ol]
  rw [show natD 8 = D.int 8 from rfl] at is
  generalize (upto 8 8).map tD = U at *
  generalize bookD [(n, wideS f 8)] = B at *
  generalize (openJ [(n, wideS f 8)]).map Rd.d = K at *
  simp [g__law_refused, ap_run, b__law_refused, g_fewest_guards, b_fewest_guards, or_, hK, is, q2]
theorem refused9 {n f : Nm} (h : Hs) : g__law_refused [.v (bookD [(n, wideS f 9)])] h = .ok (.v (.int 8)) [.v (bookD [(n, wideS f 9)])] h := by
  have wl : (wideS f 9).length = 9 := by simp [wideS]
  have ol := wide_open n f 9
  have or_ := open_reads_ok [(n, wideS f 9)] (by simp) (by simp [wl]) h
  have hK : ((openJ [(n, wideS f 9)]).map Rd.d).length = 9 := by rw [List.length_map, ol]
  generalize bookD [(n, wideS f 9)] = B at *
  generalize (openJ [(n, wideS f 9)]).map Rd.d = K at *
  simp [g__law_refused, ap_run, b__law_refused, g_fewest_guards, b_fewest_guards, or_, hK, xfld, goneR]
end K94
set_option maxRecDepth 100000
set_option maxHeartbeats 4000000
namespace K94
open PySem PySem.Spec PyProof.Rows L2 VL
def nmX (c sp : Nat) : Str := match sp with
  | 0 => ⟨#[97 + c, 122, 113]⟩
  | 1 => ⟨#[113, 97 + c, 113]⟩
  | _ => ⟨#[113, 122, 97 + c]⟩
theorem nmX_ok : ∀ sp : Fin 3, ∀ c : Fin 26, (¬ nmX c.1 sp.1 = "") ∧ (nmX c.1 sp.1).length ≤ 12 ∧ gIn (.str (nmX c.1 sp.1)) RES = some false ∧ ∀ x ∈ (nmX c.1 sp.1).cps.toList, gIn (.str ⟨#[x]⟩) (.str "abcdefghijklmnopqrstuvwxyz") = some true := by decide +kernel
theorem nmX_nd : ∀ sp : Fin 3, ∀ sh : Fin 26, ((List.range 12).map fun k => nmX ((sh.1 + 7 * k) % 26) sp.1).Nodup := by decide +kernel
theorem nm_good {sh sp k : Nat} (h1 : sp < 3) : GNm (nmN sh sp k).1 := by
  obtain ⟨a, b, c, d⟩ := nmX_ok ⟨sp, h1⟩ ⟨(sh + 7 * k) % 26, by omega⟩
  exact ⟨a, b, c, d⟩
theorem nms_nd {sh sp : Nat} (h1 : sp < 3) (h2 : sh < 26) : (nms sh sp 12).Nodup := by
  have := nmX_nd ⟨sp, h1⟩ ⟨sh, h2⟩
  have e : ((nms sh sp 12).map (·.1)) = (List.range 12).map fun k => nmX ((sh + 7 * k) % 26) sp := by unfold nms; rw [List.map_map]; rfl
  rw [show (List.range 12).map (fun k => nmX ((sh + 7 * k) % 26) sp) = (nms sh sp 12).map (·.1) from e.symm] at this
  exact (List.pairwise_map.mp this).imp fun q z => q (congrArg Subtype.val z)
theorem state_ok (ns : List Int) (h : Hs) : g__law_state [.v (.rol (ns.map .int))] h = .ok (.m false (St.d ⟨ns, 0, 0, 0, 0⟩)) [.v (.rol (ns.map .int))] h := by
  have z := szN (n := 5) (by omega)
  simp [g__law_state, ap_run, b__law_state, St.d, z]
theorem sd_reads (rs : List Rd) (hl : rs.length ≤ 1000) : sd 7 (.lst (rs.map Rd.d)) = true := by
  simp [sd, Rd.d, Nm.d, Cl.d, hl]
theorem sd_names (ns : List Nm) (hl : ns.length ≤ 1000) : sd 7 (.lst (ns.map Nm.d)) = true := by
  simp [sd, Nm.d, hl]
theorem sd_rows (js : List Jb) (hl : js.length ≤ 1000) (hs : ∀ j ∈ js, j.2.length ≤ 1000) : sd 7 (rowsD js) = true := by
  unfold rowsD
  simp only [sd, List.all_map, List.length_map, Bool.and_eq_true, List.all_eq_true, decide_eq_true_eq, Function.comp_apply]
  refine ⟨fun j m => ⟨fun t mt => ?_, hs j m⟩, hl⟩
  rw [Stp.d_c]
  by_cases c : t.a = .rd <;> simp [sd, Nm.d, Stp.x, c]
end K94
set_option maxRecDepth 100000
set_option maxHeartbeats 4000000
namespace K94
open PySem PySem.Spec PyProof.Rows L2 VL
theorem pick_nat (s : St) (xs : List Nat) (m : Nat) (h1 : 0 < xs.length) (hm : xs.length ≤ 100) (hx : ∀ x ∈ xs, x ≤ m) : ∃ (v : Nat) (s' : St), v ≤ m ∧ ∀ h, g__law_pick [.m true s.d, .v (.lst (xs.map natD))] h = .ok (.v (.int (v : Int))) [.m true (St.d s'), .v (.lst (xs.map natD))] h := by
  obtain ⟨k, s', hk, e⟩ := pick_ok s (xs.map natD) (by simpa using h1) (by simp; omega)
  have hk2 : k < xs.length := by simpa using hk
  rw [show (xs.map natD)[k] = natD xs[k] by simp] at e
  exact ⟨xs[k], s', hx _ (List.getElem_mem hk2), e⟩
/-- what the law's draws make -/
theorem law_made (ns : List Int) : ∃ (names fields : List Nm) (js : List Jb) (r n rows : Nat) (n0 f0 : Nm) (s1 s2 s3 s4 s5 s6 : St) (mj most : Nat), GL js ∧ js.length = n ∧ n ≤ 4 ∧ js.map (·.1) = names.take n ∧ (∀ k (hk : k < js.length), names[k]? = some js[k].1) ∧ names[0]? = some n0 ∧ fields[0]? = some f0 ∧ GNm n0.1 ∧ GNm f0.1 ∧ names.length ≤ 12 ∧
    g__law_names [.m true (St.d ⟨ns, 0, 0, 0, 0⟩), .v (.int 12)] [] = .ok (.v (.lst (names.map Nm.d))) [.m true (St.d s1), .v (.int 12)] [] ∧
    g__law_many [.m true (St.d s1), .v (.int 3)] [] = .ok (.v (.int (r : Int))) [.m true (St.d s2), .v (.int 3)] [] ∧
    cutA (names.map Nm.d) (some 8) (some (8 + (r : Int))) = fields.map Nm.d ∧
    g__law_draw [.m true (St.d s2), .v (.int 2)] [] = .ok (.v (.int (rows : Int))) [.m true (St.d s3), .v (.int 2)] [] ∧
    g__law_pick [.m true (St.d s3), .v (.lst [.int 3, .int 4, .int 2, .int 0])] [] = .ok (.v (.int (mj : Int))) [.m true (St.d s4), .v (.lst [.int 3, .int 4, .int 2, .int 0])] [] ∧
    g__law_pick [.m true (St.d s4), .v (.lst [.int 2, .int 3, .int 4])] [] = .ok (.v (.int (most : Int))) [.m true (St.d s5), .v (.lst [.int 2, .int 3, .int 4])] [] ∧
    g__law_job_rows [.m true (St.d s5), .v (.lst (fields.map Nm.d)), .v (.int (1 + (rows : Int))), .v (.int (mj : Int)), .v (.int (most : Int))] [] = .ok (.v (rowsD js)) [.m true (St.d s6), .v (.lst (fields.map Nm.d)), .v (.int (1 + (rows : Int))), .v (.int (mj : Int)), .v (.int (most : Int))] [] := by
  obtain ⟨sh, sp, s1, h1, h2, e1⟩ := names_ok ⟨ns, 0, 0, 0, 0⟩ 12 (by omega) []
  obtain ⟨r, s2, hr, e2⟩ := many_ok s1 3 (by omega) (by omega) []
  obtain ⟨rows, s3, hrows, e3⟩ := drawN s2 2 (by omega) (by omega)
  obtain ⟨mj, s4, hmj, e4⟩ := pick_nat s3 [3, 4, 2, 0] 4 (by simp) (by simp) (by simp)
  obtain ⟨most, s5, hmost, e5⟩ := pick_nat s4 [2, 3, 4] 4 (by simp) (by simp) (by simp)
  have nl : (nms sh sp 12).length = 12 := by simp [nms]
  have fl : (((nms sh sp 12).drop 8).take r).length = r := by rw [List.length_take, List.length_drop, nl]; omega
  obtain ⟨s6, rs, rl, rg, e6⟩ := job_rows_ok s5 (((nms sh sp 12).drop 8).take r) (1 + rows) mj most (by omega) (by omega) (by omega) (by omega) (by omega) (by omega) []
  have tl : ((nms sh sp 12).take mj).length = mj := by rw [List.length_take, nl]; omega
  have sub : ∀ x ∈ ((nms sh sp 12).drop 8).take r, GNm x.1 := fun x m => by
    obtain ⟨k, _, e⟩ := List.mem_map.mp (List.mem_of_mem_drop (List.mem_of_mem_take m))
    rw [← e]
    exact nm_good h2
  have m1 : (((nms sh sp 12).take mj).zip rs).map (·.1) = (nms sh sp 12).take mj := List.map_fst_zip (by omega)
  have m2 : (((nms sh sp 12).take mj).zip rs).map (·.2) = rs := List.map_snd_zip (by omega)
  have zl : (((nms sh sp 12).take mj).zip rs).length = mj := by rw [List.length_zip]; omega
  have memr : ∀ j ∈ ((nms sh sp 12).take mj).zip rs, j.2 ∈ rs := fun j m => by
    rw [← m2]
    exact List.mem_map.mpr ⟨j, m, rfl⟩
  refine ⟨nms sh sp 12, ((nms sh sp 12).drop 8).take r, ((nms sh sp 12).take mj).zip rs, r, mj, rows, nmN sh sp 0, nmN sh sp 8, s1, s2, s3, s4, s5, s6, mj, most, ?_, zl, hmj, m1, ?_, rfl, ?_, nm_good h2, nm_good h2, by omega, e1, e2, ?_, e3 [], e4 [], e5 [], ?_⟩
  · refine ⟨by omega, by rw [m1]; exact (nms_nd h2 h1).sublist (List.take_sublist _ _), fun j m => ?_, fun j m => ?_, fun j m t mt => ?_⟩
    · have : j.1 ∈ (nms sh sp 12).take mj := by rw [← m1]; exact List.mem_map.mpr ⟨j, m, rfl⟩
      obtain ⟨k, _, e⟩ := List.mem_map.mp (List.mem_of_mem_take this)
      rw [← e]
      exact nm_good h2
    · have := (rg _ (memr j m)).1
      omega
    · have g := (rg _ (memr j m)).2 t mt
      have := g.r
      exact ⟨sub _ g.f, by omega, g.c⟩
  · intro k hk
    have hk2 : k < mj := by omega
    simp [nl, hk2]
  · have : 0 < r := hr.1
    match r, this with
    | r + 1, _ => rfl
  · unfold cutA
    rw [List.length_map, nl]
    have a1 : HT.sIx 12 0 (some 8) = 8 := rfl
    have a2 : HT.sIx 12 12 (some (8 + (r : Int))) = 8 + r := by
      have := HT.sIx_nat 12 12 (8 + r)
      rw [show ((8 + r : Nat) : Int) = 8 + (r : Int) by omega] at this
      rw [this]
      omega
    rw [a1, a2, ← List.map_drop, ← List.map_take, show 8 + r - 8 = r by omega]
  · rw [show ((1 + rows : Nat) : Int) = 1 + (rows : Int) by omega] at e6
    have er : rowsD (((nms sh sp 12).take mj).zip rs) = .lst (rs.map fun ts => .lst (ts.map Stp.d)) := by
      unfold rowsD
      conv => rhs; rw [← m2]
      rw [List.map_map]
      rfl
    rw [er]
    exact e6
end K94
set_option maxRecDepth 100000
set_option maxHeartbeats 8000000
namespace K94
open PySem PySem.Spec PyProof.Rows L2 VL
noncomputable def lawTail : FS :=
  (sSeq (sAsg 14 (fOfL (fLst (fCons (fCallW [false] g__law_refused (fCons (fFrz (fMakeH [false] g_JobBook___init__ "JobBook" (fCons (fOfL (fMakeM [false, false] g_Job___init__ "Job" (fCons (fBin gIx (fVar 2) (fC (.int 0))) (fCons (fVar 11) fNil)))) fNil))) fNil)) (fCons (fCallW [false] g__law_refused (fCons (fFrz (fMakeH [false] g_JobBook___init__ "JobBook" (fCons (fOfL (fMakeM [false, false] g_Job___init__ "Job" (fCons (fBin gIx (fVar 2) (fC (.int 0))) (fCons (fSl (fVar 11) oNone (oSome (fC (.int 8)))) fNil)))) fNil))) fNil)) fNil)))))
  (sRet (fAndV (fCallW [false, false] g__law_same (fCons (fVar 14) (fCons (fOfL (fLst (fCons (fVar 13) (fCons (fC .non) fNil)))) fNil))) (fCallW [false, false] g__law_same (fCons (fCallW [false] g_open_reads (fCons (fVar 7) fNil)) (fCons (fVar 6) fNil))))))
theorem law_tail : (sSeq (sAsg 14 (fOfL (fLst (fCons (fCallW [false] g__law_refused (fCons (fFrz (fMakeH [false] g_JobBook___init__ "JobBook" (fCons (fOfL (fMakeM [false, false] g_Job___init__ "Job" (fCons (fBin gIx (fVar 2) (fC (.int 0))) (fCons (fVar 11) fNil)))) fNil))) fNil)) (fCons (fCallW [false] g__law_refused (fCons (fFrz (fMakeH [false] g_JobBook___init__ "JobBook" (fCons (fOfL (fMakeM [false, false] g_Job___init__ "Job" (fCons (fBin gIx (fVar 2) (fC (.int 0))) (fCons (fSl (fVar 11) oNone (oSome (fC (.int 8)))) fNil)))) fNil))) fNil)) fNil)))))
  (sRet (fAndV (fCallW [false, false] g__law_same (fCons (fVar 14) (fCons (fOfL (fLst (fCons (fVar 13) (fCons (fC .non) fNil)))) fNil))) (fCallW [false, false] g__law_same (fCons (fCallW [false] g_open_reads (fCons (fVar 7) fNil)) (fCons (fVar 6) fNil)))))) = lawTail := rfl
theorem law_ok (ns : List Int) : ∃ as' h', g_law [.v (.rol (ns.map .int))] [] = .ok (.v (.bl true)) as' h' := by
  obtain ⟨names, fields, js, r, n, rows, n0, f0, s1, s2, s3, s4, s5, s6, mj, most, gl, jl, hn4, hjn, hnk, hn0, hf0, gn0, gf0, hnl, e1, e2, cut1, e3, e4, e5, e6⟩ := law_made ns
  have st := state_ok ns []
  have l4 : ∀ j ∈ js, j.2.length ≤ 100 := fun j m => by have := gl.l j m; omega
  have l1000 : ∀ j ∈ js, j.2.length ≤ 1000 := fun j m => by have := gl.l j m; omega
  have ko := openJ_len js 4 gl.l
  have kl : (openJ js).length ≤ 16 := by omega
  have lo := law_open_ok names js (by omega) l4 hnk []
  have gj : ∀ j ∈ js, GJb j := fun j m => ⟨gl.n j m, by have := gl.l j m; omega, gl.s j m⟩
  have jb := job_book_ok names js (by omega) gl.nd gj hnk []
  have or1 := fun h => open_reads_ok js (by omega) l4 h
  have sr := fun h => same _ (sd_reads (openJ js) (by omega)) h
  have so := fun h => same _ (sd_reads (openJ js) (by omega)) h
  obtain ⟨s7, some_, ssub, e7⟩ := law_some_ok s6 (openJ js) (by omega) (frzH [] js)
  have sl := ssub.length_le
  have gd2j : ∀ j ∈ js, GJb (guardJ some_ j) := gl.jb (fun r m => ssub.subset m) fun m => (ssub.filterMap _).length_le
  have gd2 := guarded_ok js some_ (by omega) (by omega) gl.nd gd2j (frzH [] js)
  have lw := fun h => law_with_ok names js some_ (by omega) l4 (by omega) hnk h
  generalize hh2 : frzH (frzH [] js) (js.map (guardJ some_)) = h2 at *
  generalize frzH [] js = h1 at *
  -- the guarded jobs
  have nm2 : (js.map (guardJ some_)).map (·.1) = names.take n := by rw [List.map_map, ← hjn]; rfl
  have sn := fun h => same _ (sd_names (names.take n) (by rw [List.length_take]; omega)) h
  have srw := fun h => same _ (sd_rows (js.map (guardJ some_)) (by simp; omega) (guard_len gd2j)) h
  have c1 : ∀ l : Ls, l = [Sl.v (.rol (ns.map D.int)), .m false s7.d, .v (.lst (names.map Nm.d)), .v (.lst (fields.map Nm.d)), .v (.int (1 + (rows : Int))), .v (rowsD js), .v (.lst ((openJ js).map Rd.d)), .v (bookD js), .v (.lst (some_.map Rd.d)), .v (bookD (js.map (guardJ some_))), .e, .e, .e, .e, .e] → lcL (gNm 10) fYes ce_law_1 [10] ((js.map (guardJ some_)).map Jb.d) [] l h2 = .ok ((names.take n).map Nm.d) l h2 := fun l hl => by
    have := lcL_map (g := gNm 10) (ft := fYes) (fe := ce_law_1) (vs := [10]) (l := l) (h := h2) (fun j => some j.1.d) Jb.d (js.map (guardJ some_)) [] fun j m => by
      subst hl
      simp [ce_law_1, Jb.d]
    rw [this, List.nil_append, List.filterMap_eq_map', ← nm2, List.map_map (f := fun j : Jb => j.1)]
    rfl
  have c2 : ∀ l : Ls, l = [Sl.v (.rol (ns.map D.int)), .m false s7.d, .v (.lst (names.map Nm.d)), .v (.lst (fields.map Nm.d)), .v (.int (1 + (rows : Int))), .v (rowsD js), .v (.lst ((openJ js).map Rd.d)), .v (bookD js), .v (.lst (some_.map Rd.d)), .v (bookD (js.map (guardJ some_))), .e, .e, .e, .e, .e] → lcL (gNm 10) fYes ce_law_2 [10] ((js.map (guardJ some_)).map Jb.d) [] l h2 = .ok ((js.map (guardJ some_)).map fun j => D.lst (j.2.map Stp.d)) l h2 := fun l hl => by
    have := lcL_map (g := gNm 10) (ft := fYes) (fe := ce_law_2) (vs := [10]) (l := l) (h := h2) (fun j => some (D.lst (j.2.map Stp.d))) Jb.d (js.map (guardJ some_)) [] fun j m => by
      subst hl
      simp [ce_law_2, Jb.d]
    rw [this, List.nil_append, List.filterMap_eq_map']
  have c3 : ∀ l : Ls, l = [Sl.v (.rol (ns.map D.int)), .m false s7.d, .v (.lst (names.map Nm.d)), .v (.lst (fields.map Nm.d)), .v (.int (1 + (rows : Int))), .v (rowsD js), .v (.lst ((openJ js).map Rd.d)), .v (bookD js), .v (.lst (some_.map Rd.d)), .v (bookD (js.map (guardJ some_))), .e, .e, .e, .e, .e] → lcL (gNm 12) fYes ce_law_3 [12] ((List.range 9).map natD) [] l h2 = .ok ((wideS f0 9).map Stp.d) l h2 := fun l hl => by
    have z3 := szN (n := 3) (by omega)
    have fa : (fields.map Nm.d)[0]? = some f0.d := by simp [hf0]
    have := lcL_map (g := gNm 12) (ft := fYes) (fe := ce_law_3) (vs := [12]) (l := l) (h := h2) (fun k : Nat => some (Stp.d ⟨.rd, f0, (k : Int), 0⟩)) natD (List.range 9) [] fun k m => by
      subst hl
      generalize fields.map Nm.d = F at *
      simp [ce_law_3, Stp.d_rd, fa, z3, natD]
    rw [this, List.nil_append, List.filterMap_eq_map']
    unfold wideS
    rw [List.map_map]
    rfl
  have cut2 : cutA (names.map Nm.d) none (some (n : Int)) = (names.take n).map Nm.d := by
    unfold cutA
    rw [HT.sIx_nat, List.map_take]
    show List.take (min n _ - HT.sIx _ 0 none) (List.drop (HT.sIx _ 0 none) _) = _
    rw [HT.sIx_none, List.drop_zero, Nat.sub_zero, List.length_map]
    by_cases c : n ≤ names.length
    · rw [Nat.min_eq_left c]
    · rw [Nat.min_eq_right (by omega), List.take_of_length_le (by simp), List.take_of_length_le (by simp; omega)]
  have cut3 : cutA ((wideS f0 9).map Stp.d) none (some 8) = (wideS f0 8).map Stp.d := by
    have : (wideS f0 9).length = 9 := by simp [wideS]
    unfold cutA
    rw [List.length_map, this]
    rfl
  have w9 : GJb (n0, wideS f0 9) := ⟨gn0, by simp [wideS], wide_gs gf0 9 (by omega)⟩
  have w8 : GJb (n0, wideS f0 8) := ⟨gn0, by simp [wideS], wide_gs gf0 8 (by omega)⟩
  have ji9 := fun h => job_init w9 h
  have ji8 := fun h => job_init w8 h
  have i9 := fun h => init_ok h [(n0, wideS f0 9)] (by simp) (by simp)
  have i8 := fun h => init_ok h [(n0, wideS f0 8)] (by simp) (by simp)
  have f9 := fun l h => fz_live (l := l) (h := h) (js := [(n0, wideS f0 9)])
  have f8 := fun l h => fz_live (l := l) (h := h) (js := [(n0, wideS f0 8)])
  have r9 := fun h => refused9 (n := n0) (f := f0) h
  have sm : ∀ h, g__law_same [.v (.lst [.int 8, .non]), .v (.lst [.int 8, .non])] h = .ok (.v (.bl true)) [.v (.lst [.int 8, .non]), .v (.lst [.int 8, .non])] h := fun h => same _ (by decide) h
  simp only [List.map_cons, List.map_nil] at i9 i8
  have hQ2 : ((names.take n).map Nm.d).length = n := by rw [List.length_map, List.length_take, ← jl]; have := congrArg List.length hjn; rw [List.length_map, List.length_take] at this; omega
  have hRw : (js.map fun j => D.lst (j.2.map Stp.d)).length = n := by rw [List.length_map]; exact jl
  have hJ2 : ((js.map (guardJ some_)).map Jb.d).length = n := by rw [List.length_map, List.length_map]; exact jl
  have zn := szN (n := n) (by omega)
  have z2 := szN (n := 2) (by omega)
  have z3 := szN (n := 3) (by omega)
  have z4 := szN (n := 4) (by omega)
  have z9 := szN (n := 9) (by omega)
  have NSa : (names.map Nm.d)[0]? = some n0.d := by simp [hn0]
  have eW : ∀ x11 x13 x14 : Sl, True := fun _ _ _ => trivial
  have tail : ∀ (hE : Hs) (x14 : Sl), Jk x14 → ∃ l' h', lawTail [Sl.v (.rol (ns.map D.int)), .m false s7.d, .v (.lst (names.map Nm.d)), .v (.lst (fields.map Nm.d)), .v (.int (1 + (rows : Int))), .v (rowsD js), .v (.lst ((openJ js).map Rd.d)), .v (bookD js), .v (.lst (some_.map Rd.d)), .v (bookD (js.map (guardJ some_))), .e, .v (.lst ((wideS f0 9).map Stp.d)), .e, .v (.int 8), x14] hE = .ok (.rt (.v (.bl true))) l' h' := fun hE x14 e14 => by
    obtain ⟨h', r8⟩ := refused8 gn0 gf0 (frzH (frzH hE [(n0, wideS f0 9)]) [(n0, wideS f0 8)])
    have ji9 := ji9 hE
    have i9 := i9 hE
    have f9 := fun l => f9 l hE
    have r9 := r9 (frzH hE [(n0, wideS f0 9)])
    generalize frzH hE [(n0, wideS f0 9)] = hF at *
    have ji8 := ji8 hF
    have i8 := i8 hF
    have f8 := fun l => f8 l hF
    generalize frzH hF [(n0, wideS f0 8)] = hG at *
    have sm := sm h'
    have or1 := or1 h'
    have so := so h'
    dsimp only at ji9 ji8
    simp only [Jb.d] at ji9 ji8 i9 i8
    generalize bookD [(n0, wideS f0 9)] = B9 at *
    generalize bookD [(n0, wideS f0 8)] = B8 at *
    generalize liveH hE [(n0, wideS f0 9)] = L9 at *
    generalize liveH hF [(n0, wideS f0 8)] = L8 at *
    generalize (wideS f0 9).map Stp.d = W9 at *
    generalize (wideS f0 8).map Stp.d = W8 at *
    generalize rowsD js = RW at *
    generalize bookD js = BK at *
    generalize bookD (js.map (guardJ some_)) = BK2 at *
    generalize (openJ js).map Rd.d = OP at *
    generalize names.map Nm.d = NS at *
    generalize fields.map Nm.d = FS_ at *
    generalize some_.map Rd.d = SO at *
    rcases e14 with rfl | ⟨_, rfl⟩ <;>
    simp [lawTail, NSa, ji9, i9, f9, r9, slD, cut3, ji8, i8, f8, r8, z2, sm, or1, so]
  have c1 := c1 _ rfl
  have c2 := c2 _ rfl
  have c3 := c3 _ rfl
  have r9' : ∀ l, rng1 l h2 [.v (.int 9)] = .ok ((List.range 9).map natD) l h2 := fun l => rng1_nat (n := 9) (by omega)
  have hR9 : ((List.range 9).map natD).length = 9 := rfl
  have hOP : ((openJ js).map Rd.d).length = (openJ js).length := List.length_map _
  have lw := lw h2
  have so1 := so h1
  have sn := sn h2
  have srw := srw h2
  have or1' := or1 h1
  have hB2 : bookD (js.map (guardJ some_)) = .ins "JobBook" ["listed"] [.lst ((js.map (guardJ some_)).map Jb.d)] := rfl
  have hRW : rowsD js = .lst (js.map fun j => .lst (j.2.map Stp.d)) := rfl
  have hRW2 : rowsD (js.map (guardJ some_)) = .lst ((js.map (guardJ some_)).map fun j => .lst (j.2.map Stp.d)) := rfl
  by_cases hk : (openJ js).length < 7
  · obtain ⟨h3, fg⟩ := fewest_guards_ok (by omega) l4 gl.nd (by omega) (gl.gr (by omega)) h2
    have lf := law_fewest_ok (by omega) l4 hnk (by omega) (gl.gr (by omega)) h3
    have stt := same _ (sd_reads (told js (openJ js)) (by have := told_len (js := js) (by omega); omega)) h3
    have gdt := guarded_ok js (told js (openJ js)) (by omega) (by have := told_len (js := js) (by omega); omega) gl.nd (gl.told (by omega)) h3
    obtain ⟨b, hb, rb⟩ := robust_ok (js := js.map (guardJ (told js (openJ js)))) (by simp; omega) (guard_len (gl.told (by omega))) (frzH h3 (js.map (guardJ (told js (openJ js)))))
    have bt : b = true := hb.mpr (told_due (by omega))
    subst bt
    obtain ⟨l', h', tl⟩ := tail (frzH h3 (js.map (guardJ (told js (openJ js))))) (.v (.lst ((told js (openJ js)).map Rd.d))) Jk.v
    have hk' : ((openJ js).length : Int) < 7 := by omega
    generalize frzH h3 (js.map (guardJ (told js (openJ js)))) = h4 at *
    generalize bookD (js.map (guardJ (told js (openJ js)))) = BT at *
    generalize (told js (openJ js)).map Rd.d = TD at *
    rw [hRW2] at lw srw
    rw [hB2] at gd2 c1 c2 c3 tl
    rw [hRW] at e6 lo jb lw c1 c2 c3 tl lf
    generalize (js.map fun j => D.lst (j.2.map Stp.d)) = RW at *
    generalize ((js.map (guardJ some_)).map fun j => D.lst (j.2.map Stp.d)) = RW2 at *
    generalize ((js.map (guardJ some_)).map Jb.d) = J2 at *
    generalize (List.range 9).map natD = N9 at *
    generalize (wideS f0 9).map Stp.d = W9 at *
    generalize bookD js = BK at *
    generalize (openJ js).map Rd.d = OP at *
    generalize ((names.take n).map Nm.d) = Q2 at *
    generalize names.map Nm.d = NS at *
    generalize fields.map Nm.d = FS_ at *
    generalize some_.map Rd.d = SO at *
    refine ⟨outs [.v (.rol (ns.map .int))] l', h', ?_⟩
    unfold g_law
    rw [ap_run]
    unfold b_law
    rw [law_tail]
    simp [st, e1, e2, slD, cut1, e3, z4, e4, z3, e5, e6, lo, jb, or1', so1, e7, gd2, isiD, ownD, hJ2, zn, c1, hRw, cut2, sn, c2, lw, srw, r9', hR9, z9, c3, hOP, hk, hk', fg, lf, stt, gdt, rb, gIsN, gIsQ, isBl, tl]
  · obtain ⟨l', h', tl⟩ := tail h2 .e Jk.e
    have hk' : ¬ ((openJ js).length : Int) < 7 := by omega
    rw [hRW2] at lw srw
    rw [hB2] at gd2 c1 c2 c3 tl
    rw [hRW] at e6 lo jb lw c1 c2 c3 tl
    generalize (js.map fun j => D.lst (j.2.map Stp.d)) = RW at *
    generalize ((js.map (guardJ some_)).map fun j => D.lst (j.2.map Stp.d)) = RW2 at *
    generalize ((js.map (guardJ some_)).map Jb.d) = J2 at *
    generalize (List.range 9).map natD = N9 at *
    generalize (wideS f0 9).map Stp.d = W9 at *
    generalize bookD js = BK at *
    generalize (openJ js).map Rd.d = OP at *
    generalize ((names.take n).map Nm.d) = Q2 at *
    generalize names.map Nm.d = NS at *
    generalize fields.map Nm.d = FS_ at *
    generalize some_.map Rd.d = SO at *
    refine ⟨outs [.v (.rol (ns.map .int))] l', h', ?_⟩
    unfold g_law
    rw [ap_run]
    unfold b_law
    rw [law_tail]
    simp [st, e1, e2, slD, cut1, e3, z4, e4, z3, e5, e6, lo, jb, or1', so1, e7, gd2, isiD, ownD, hJ2, zn, c1, hRw, cut2, sn, c2, lw, srw, r9', hR9, z9, c3, hOP, hk, hk', tl]
end K94
set_option maxRecDepth 100000
set_option maxHeartbeats 0
namespace K94
open PySem PySem.Spec PyProof.Rows L2 VL
/-! ### the head -/
abbrev R : PySem.W.OpenRow := PySem.W.OpenLaw.row PySem.Challenge.rw_takenorelse_k94_whole_fewest_guards
def loose : List PySem.Str := (["_wall", "ElseputError", "BadName", "BadNumber", "BadText", "TooLarge", "UnknownName", "BadJob", "LETTERS", "DIGITS", "RESERVED", "SIGNS", "NAME_LENGTH", "BOUND", "is_name", "check_name", "check_number", "run_end", "token_end", "tokens", "line_tokens", "is_integer", "Reader", "JOB_DEEDS", "check_job_step", "job_step_forms", "job_form", "distinct", "Job", "JobBook"] : List PySem.Str) ++ (["shares", "misses_write", "both_write", "jobs_conflict", "comes_back", "Split", "chain_for", "find_split", "is_robust", "index_sets", "MOST_READS", "open_reads", "guarded", "fewest_guards", "_law_jcells", "_law_open", "_law_with", "_law_jmeet", "_law_jclash", "_law_jchain", "_law_is_due", "_law_longer", "_law_fewest", "_law_refused", "_law_state", "_law_draw", "_law_names", "_law_many", "_law_pick", "_law_constant"] : List PySem.Str) ++ (["_law_job_steps", "_law_job_rows", "_law_job_book", "_law_is_int", "_law_same", "_law_some"] : List PySem.Str)
abbrev hk : PySem.W.Hook := hookV 0 fa fn
def ob (s : PySem.W.SharedT) : AlV := obsVG 0 fa fn (HandSHeadRun.getT s)
theorem ob_eq (s : PySem.W.SharedT) : ob s = hk.obs s.abs := obsVG_eq (HandSHeadRun.getT_eq s)
theorem hrun (w : World) : HandSHeadRun.RunEq R (PySem.W.view R.prog [75]) hk ob 20000 loose w := by
  intro os
  kernel_rfl
theorem plain {K : PySem.W.Frag} {H : Hp} {a : Addr} {ns : List Int} (hS : SqL K H a (ns.map V.int)) (hl : ns.length ≤ 63) : spV K 1 g_law [.ref a] H (fun v _ => v = .bl true) (fun _ _ _ => False) := by
  obtain ⟨as', h', e⟩ := law_ok ns
  exact law_sp hS e
end K94

open PySem PySem.W PySem.Calls PyProof.Rows
theorem PySem.Challenge.cw_takenorelse_k94_whole_fewest_guards_holds : PySem.Challenge.rw_takenorelse_k94_whole_fewest_guards.Holds := by
  w_on; o_law
  refine HandSHeadRun.head_any (r := OpenLaw.row PySem.Challenge.rw_takenorelse_k94_whole_fewest_guards) (q := view (OpenLaw.row PySem.Challenge.rw_takenorelse_k94_whole_fewest_guards).prog [75]) (H := K94.hk) (ob := K94.ob) (M := 20000) (loose := K94.loose) (d := HandSHeadRun.topDef (OpenLaw.row PySem.Challenge.rw_takenorelse_k94_whole_fewest_guards).prog 75) (kwd := []) K94.ob_eq
    (by kernel_rfl) (fun s => by kernel_rfl) K94.hrun (by kernel_rfl) (by kernel_rfl) (by kernel_rfl) (by rfl) (by first | assumption | decide +kernel) (by decide +kernel) ⟨rfl, rfl, rfl, rfl, rfl, by decide +kernel⟩ ?hw ?hc
  case hw => w_witness2
  case hc =>
    refine L2.walk_ofE (l := PySem.Challenge.rw_takenorelse_k94_whole_fewest_guards) (n := 63) (k := 11) (x := "script") (CX := L2.CX0) rfl (by decide) (by kernel_rfl) ⟨rfl, by decide, by decide⟩ ?F (fun _ _ _ _ z => z)
    intro w mg fa h Y G hmg0
    obtain ⟨K, KX, c⟩ := Y
    have hmg : mg ("law" : PySem.Str) = some (.ref fa) := by
      have e : (HandSHeadRun.topDef (OpenLaw.row PySem.Challenge.rw_takenorelse_k94_whole_fewest_guards).prog 75).name = ("law" : PySem.Str) := by kernel_rfl
      rw [← e]
      exact hmg0
    obtain ⟨fd, hb, hF⟩ := K94.facts (P := (PySem.Challenge.rw_takenorelse_k94_whole_fewest_guards).prog) (w := w) KX ⟨c, by rfl, by rfl⟩ G hmg
    exact ⟨K, fd, fun vs H Q _ => VL.spV K 1 K94.g_law vs H Q fun _ _ _ => False, KX, hb, fun H a ns hl _ hS => K94.plain hS hl, fun base k1 k2 => VL.FnOk.nox (hF base k1 k2)⟩
