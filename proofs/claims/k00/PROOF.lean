import PyProof.Rows.All
import Wide.All
import OpenK.AllK
import Wide.FinOn
import HandS.ForMost
import HandS.Exc
import HandS.ExcOwn
import HandS.TryOnly
import HandS.Lambda
import HandS.Wide
import HandS.TupAny
import HandS.TupMul
import HandS.Deep
import HandS.Style
import PyProof.P3In
import HandS.Gcd
import HandS.Conv
import KE.SortData
import PyProof.ListStr
import HandS.IsInst
import HandS.ExcIs
import HandS.CallSlots
import KE.GoesZip
import KE.GoesEnum
import KE.GoesMore
import HandS.More
import HandS.Small
import HandS.Defaults
import HandS.CallLocal
import HandS.HeadHook1
import HandS.Words
import HandS.Dict
import KE.KSuper
import KE.KExcSuper
import HandS.ExcInit
import HandS.ExcSuper
import HandS.HeadWalk
import HandS.ExcField
import KE.KStateDown
import HandS.HeadHook4
import HandS.Codes
import KE.KNest
import KE.KNestM
import HandS.Base
import HandS.Call
import HandS.Ends
import HandS.EndTab
import HandS.Head0
import HandS.Head1
import HandS.Head2
import HandS.Head3
import HandS.HeadEnd
import HandS.HeadHook2
import HandS.HeadHook3
import HandS.NestedK
import PySem.Challenge.RW_chancebounds_k00_ratios_and_vectors
set_option Elab.async false
set_option linter.all false
set_option maxRecDepth 100000
set_option maxHeartbeats 4000000
/-! DI0: data as trees, a memory of what may change, and how both stand in the hand layer's abstract heap. -/
namespace DI
open PySem PySem.Spec PyProof.Rows L2

/-- data: trees, but for what may change (ref), functions and closures -/
inductive D where
  | non
  | bl (b : Bool)
  | int (i : Int)
  | str (x : Str)
  | tup (xs : List D)
  | lst (xs : List D)
  | exc (c : Str) (ns : List Str) (vs : List D)
  | fn (x : Str)
  | ty (n : String)
  | ref (i : Nat)
  | cl (k : Nat)
  | scr (ns : List Int)
/-- what may change -/
inductive Ob where
  | lst (xs : List D)
  | dct (kvs : List (Key × D))
abbrev Mem := List Ob

/-- a lambda of the text: its maker's name, its parts, the names it reads of the maker's -/
structure LamI where
  qual : Str
  params : Arguments
  body : Expr
  scope : Scope
/-- what is fixed of a law -/
structure Gb where
  K : PySem.W.Frag
  mg : Str → Option Value
  T : List (Addr × Str)
  lam : Nat → Option LamI
/-- the hidden part: Z stands for ever, P stands while it is told, r: where the memory's objects stand -/
structure Wd where
  Z : Hp
  P : Hp
  n : Nat
  r : Nat → Addr
  own : Option (List (Str × Addr))
def Wd.cut (w : Wd) (i : Nat) : Wd := { w with n := i, own := none }
def Wd.addZ (w : Wd) (a : Addr) (o : HO) : Wd := { w with Z := upd w.Z a o }
def Hp0 : Hp := fun _ => none
def ZT (K : PySem.W.Frag) (Z : Hp) (a : Addr) (vs : List V) : Prop := Z a = some (.tup vs) ∨ SqT K Hp0 a vs
/-- the script: a list that stands, or one of the law's own -/
def ZS (K : PySem.W.Frag) (Z : Hp) (a : Addr) (vs : List V) : Prop := Z a = some (.lst vs) ∨ SqL K Hp0 a vs
def ZL (Z : Hp) (a : Addr) (vs : List V) : Prop := Z a = some (.lst vs)
/-- an exception's object -/
def ExcO (a C : Addr) (d : Option Addr) : HO := .ext fun h => ∃ oe, h.get? a = some oe ∧ Zc (.ref C) d oe ∧ ∃ vs, oe.data = .fields vs
def ExcAt (Z : Hp) (a C : Addr) (ns : List Str) (fvs : List V) : Prop :=
  ∃ d, Z a = some (ExcO a C d) ∧ ((ns = [] ∧ d = none) ∨ ∃ dx, d = some dx ∧ Z dx = some (.xd (ns.zip fvs)))
/-- an object, to the letter -/
def ObjO (a : Addr) (o : Obj) : HO := .ext fun h => h.get? a = some o
/-- a lambda's function object -/
def CloAt (Z : Hp) (L : LamI) (f : Addr) (cl : List (Str × Addr)) : Prop :=
  ∃ (c' : Addr) (pm ctv : Value), Z f = some (ObjO f (PySem.W.kla_obj "<lambda>" (L.qual ++ "<lambda>") L.params L.body L.scope cl pm c' ctv)) ∧ Z c' = some (LamX.CodeO c' (L.qual ++ "<lambda>"))
mutual
inductive Rep (G : Gb) (w : Wd) : D → V → Prop
  | non : Rep G w .non .non
  | bl (b : Bool) : Rep G w (.bl b) (.bl b)
  | int (i : Int) : Rep G w (.int i) (.int i)
  | str (x : Str) : Rep G w (.str x) (.str x)
  | tup {ds : List D} {a : Addr} {vs : List V} : ZT G.K w.Z a vs → Reps G w ds vs → Rep G w (.tup ds) (.ref a)
  | lst {ds : List D} {a : Addr} {vs : List V} : ZL w.Z a vs → Reps G w ds vs → Rep G w (.lst ds) (.ref a)
  | exc {c : Str} {ns : List Str} {ds : List D} {a C : Addr} {fvs : List V} : G.mg c = some (.ref C) → ExcAt w.Z a C ns fvs → Reps G w ds fvs → ns.length = ds.length → Rep G w (.exc c ns ds) (.ref a)
  | fn {x : Str} {v : V} {u : Value} : G.mg x = some u → RelV v u → Rep G w (.fn x) v
  | ty (n : String) : Rep G w (.ty n) (.ty n)
  | ref {i : Nat} : i < w.n → Rep G w (.ref i) (.ref (w.r i))
  | cl {k : Nat} {f : Addr} {L : LamI} {o : List (Str × Addr)} : G.lam k = some L → w.own = some o → CloAt w.Z L f (cloFrom o L.scope.names []) → Rep G w (.cl k) (.ref f)
  | scr {ns : List Int} {a : Addr} : ZS G.K w.Z a (ns.map V.int) → Rep G w (.scr ns) (.ref a)
inductive Reps (G : Gb) (w : Wd) : List D → List V → Prop
  | nil : Reps G w [] []
  | cons {d : D} {ds : List D} {v : V} {vs : List V} : Rep G w d v → Reps G w ds vs → Reps G w (d :: ds) (v :: vs)
end

structure Le (w w' : Wd) : Prop where
  z : ∀ a u, w.Z a = some u → w'.Z a = some u
  p : w'.P = w.P
  n : w.n ≤ w'.n
  r : ∀ i, i < w.n → w'.r i = w.r i
  o : w'.own = w.own
theorem Le.refl (w : Wd) : Le w w := ⟨fun _ _ h => h, rfl, Nat.le_refl _, fun _ _ => rfl, rfl⟩
theorem Le.trans {a b c : Wd} (h : Le a b) (k : Le b c) : Le a c :=
  ⟨fun x u e => k.z x u (h.z x u e), k.p.trans h.p, Nat.le_trans h.n k.n, fun i hi => (k.r i (Nat.lt_of_lt_of_le hi h.n)).trans (h.r i hi), k.o.trans h.o⟩
/-- what a value's standing hangs on -/
structure LeR (w w' : Wd) : Prop where
  z : ∀ a u, w.Z a = some u → w'.Z a = some u
  n : w.n ≤ w'.n
  r : ∀ i, i < w.n → w'.r i = w.r i
  o : ∀ x, w.own = some x → w'.own = some x
theorem LeR.refl (w : Wd) : LeR w w := ⟨fun _ _ h => h, Nat.le_refl _, fun _ _ => rfl, fun _ h => h⟩
theorem Le.toR {w w' : Wd} (h : Le w w') : LeR w w' := ⟨h.z, h.n, h.r, fun _ e => h.o.trans e⟩
theorem LeR.cut {w w' : Wd} (h : LeR w w') {i : Nat} (hi : i ≤ w.n) : LeR (w.cut i) (w'.cut i) := ⟨h.z, Nat.le_refl _, fun j hj => h.r j (Nat.lt_of_lt_of_le hj hi), fun _ e => by cases e⟩
theorem LeR.ofCut (w : Wd) {i : Nat} (hi : i ≤ w.n) : LeR (w.cut i) w := ⟨fun _ _ h => h, hi, fun _ _ => rfl, fun _ e => by cases e⟩
/-- of two cuts only what is below counts -/
theorem LeR.cuts {w w' : Wd} {i : Nat} (z : ∀ a u, w.Z a = some u → w'.Z a = some u) (r : ∀ j, j < i → w'.r j = w.r j) : LeR (w.cut i) (w'.cut i) := ⟨z, Nat.le_refl _, r, fun _ e => by cases e⟩
section
variable {G : Gb} {w w' : Wd}
theorem ZT.mono {K : PySem.W.Frag} {Z Z' : Hp} {a : Addr} {vs : List V} (h : ∀ a u, Z a = some u → Z' a = some u) (z : ZT K Z a vs) : ZT K Z' a vs := z.imp (h _ _) id
theorem ZL.mono {Z Z' : Hp} {a : Addr} {vs : List V} (h : ∀ a u, Z a = some u → Z' a = some u) (z : ZL Z a vs) : ZL Z' a vs := h _ _ z
theorem ExcAt.mono {Z Z' : Hp} {a C : Addr} {ns : List Str} {fvs : List V} (h : ∀ a u, Z a = some u → Z' a = some u) (z : ExcAt Z a C ns fvs) : ExcAt Z' a C ns fvs := by
  obtain ⟨d, e, q⟩ := z
  exact ⟨d, h _ _ e, q.imp id fun ⟨dx, e1, e2⟩ => ⟨dx, e1, h _ _ e2⟩⟩
theorem CloAt.mono {Z Z' : Hp} {L : LamI} {f : Addr} {cl : List (Str × Addr)} (h : ∀ a u, Z a = some u → Z' a = some u) (z : CloAt Z L f cl) : CloAt Z' L f cl := by
  obtain ⟨c, p, t, e1, e2⟩ := z
  exact ⟨c, p, t, h _ _ e1, h _ _ e2⟩
mutual
theorem Rep.mono (h : LeR w w') : ∀ {d : D} {v : V}, Rep G w d v → Rep G w' d v
  | _, _, .non => .non
  | _, _, .bl b => .bl b
  | _, _, .int i => .int i
  | _, _, .str x => .str x
  | _, _, .tup z r => .tup (z.mono h.z) (Reps.mono h r)
  | _, _, .lst z r => .lst (z.mono h.z) (Reps.mono h r)
  | _, _, .exc m e r l => .exc m (e.mono h.z) (Reps.mono h r) l
  | _, _, .fn m r => .fn m r
  | _, _, .ty n => .ty n
  | _, _, .ref (i := i) hi => h.r i hi ▸ .ref (Nat.lt_of_lt_of_le hi h.n)
  | _, _, .cl m o c => .cl m (h.o _ o) (c.mono h.z)
  | _, _, .scr z => .scr (z.imp (h.z _ _) id)
theorem Reps.mono (h : LeR w w') : ∀ {ds : List D} {vs : List V}, Reps G w ds vs → Reps G w' ds vs
  | _, _, .nil => .nil
  | _, _, .cons a b => .cons (Rep.mono h a) (Reps.mono h b)
end
theorem Reps.length : ∀ {ds : List D} {vs : List V}, Reps G w ds vs → ds.length = vs.length
  | _, _, .nil => rfl
  | _, _, .cons _ b => by rw [List.length_cons, List.length_cons, Reps.length b]
theorem Reps.append : ∀ {ds es : List D} {vs us : List V}, Reps G w ds vs → Reps G w es us → Reps G w (ds ++ es) (vs ++ us)
  | _, _, _, _, .nil, h => h
  | _, _, _, _, .cons a b, h => .cons a (Reps.append b h)
theorem Reps.get : ∀ {ds : List D} {vs : List V} {i : Nat} {d : D}, Reps G w ds vs → ds[i]? = some d → ∃ v, vs[i]? = some v ∧ Rep G w d v
  | _, _, _, _, .nil, e => by simp at e
  | _, _, 0, _, .cons a _, e => by simp at e; subst e; exact ⟨_, rfl, a⟩
  | _, _, i + 1, d, .cons _ b, e => by
    obtain ⟨v, h1, h2⟩ := Reps.get (i := i) (d := d) b (by simpa using e)
    exact ⟨v, by simpa using h1, h2⟩
theorem Reps.getV : ∀ {ds : List D} {vs : List V} {i : Nat} {v : V}, Reps G w ds vs → vs[i]? = some v → ∃ d, ds[i]? = some d ∧ Rep G w d v
  | _, _, _, _, .nil, e => by simp at e
  | _, _, 0, _, .cons a _, e => by simp at e; subst e; exact ⟨_, rfl, a⟩
  | _, _, i + 1, v, .cons _ b, e => by
    obtain ⟨d, h1, h2⟩ := Reps.getV (i := i) (v := v) b (by simpa using e)
    exact ⟨d, by simpa using h1, h2⟩
theorem Reps.take : ∀ {ds : List D} {vs : List V} (n : Nat), Reps G w ds vs → Reps G w (ds.take n) (vs.take n)
  | _, _, 0, _ => by simpa using Reps.nil
  | _, _, _ + 1, .nil => by simpa using Reps.nil
  | _, _, n + 1, .cons a b => .cons a (Reps.take n b)
theorem Reps.drop : ∀ {ds : List D} {vs : List V} (n : Nat), Reps G w ds vs → Reps G w (ds.drop n) (vs.drop n)
  | _, _, 0, r => r
  | _, _, _ + 1, .nil => by simpa using Reps.nil
  | _, _, n + 1, .cons _ b => Reps.drop n b
theorem Reps.reverse : ∀ {ds : List D} {vs : List V}, Reps G w ds vs → Reps G w ds.reverse vs.reverse
  | _, _, .nil => .nil
  | _, _, .cons a b => by
    rw [List.reverse_cons, List.reverse_cons]
    exact (Reps.reverse b).append (.cons a .nil)
theorem Reps.set {d : D} {v : V} (a : Rep G w d v) : ∀ {ds : List D} {vs : List V} (i : Nat), Reps G w ds vs → Reps G w (ds.set i d) (vs.set i v)
  | _, _, _, .nil => .nil
  | _, _, 0, .cons _ t => .cons a t
  | _, _, i + 1, .cons q t => .cons q (Reps.set a i t)
theorem Reps.eraseIdx : ∀ {ds : List D} {vs : List V} (i : Nat), Reps G w ds vs → Reps G w (ds.eraseIdx i) (vs.eraseIdx i)
  | _, _, _, .nil => by simpa using Reps.nil
  | _, _, 0, .cons _ t => by simpa using t
  | _, _, i + 1, .cons q t => by simpa using Reps.cons q (Reps.eraseIdx i t)
theorem Reps.replicate {d : D} {v : V} (a : Rep G w d v) : ∀ n : Nat, Reps G w (List.replicate n d) (List.replicate n v)
  | 0 => .nil
  | n + 1 => .cons a (Reps.replicate a n)
theorem Reps.flat {ds : List D} {vs : List V} (a : Reps G w ds vs) : ∀ n : Nat, Reps G w (List.replicate n ds).flatten (List.replicate n vs).flatten
  | 0 => .nil
  | n + 1 => by simpa [List.replicate_succ] using a.append (Reps.flat a n)
end

/-- keys and values of a dict -/
inductive RepK (G : Gb) (w : Wd) : List (Key × D) → List (Key × V) → Prop
  | nil : RepK G w [] []
  | cons {k : Key} {d : D} {kvs : List (Key × D)} {v : V} {vs : List (Key × V)} : Rep G w d v → RepK G w kvs vs → RepK G w ((k, d) :: kvs) ((k, v) :: vs)
theorem RepK.mono {G : Gb} {w w' : Wd} (h : LeR w w') : ∀ {a : List (Key × D)} {b : List (Key × V)}, RepK G w a b → RepK G w' a b
  | _, _, .nil => .nil
  | _, _, .cons x y => .cons (x.mono h) (RepK.mono h y)
/-- an object of the memory, at a -/
def ObR (G : Gb) (w : Wd) (P H : Hp) (a : Addr) : Ob → Prop
  | .lst ds => P a = none ∧ ∃ vs, H a = some (.lst vs) ∧ Reps G w ds vs
  | .dct kvs => P a = none ∧ ∃ vs, H a = some (.dK vs) ∧ RepK G w kvs vs
structure Sim0 (G : Gb) (w : Wd) (H : Hp) (M : Mem) : Prop where
  z : ∀ a u, w.Z a = some u → Rd H a u
  p : ∀ a u, w.P a = some u → H a = some u
  zp : ∀ a u, w.P a = some u → w.Z a = none
  pl : ∀ a u, w.P a = some u → (∃ xs, u = .lst xs) ∨ ∃ kvs, u = .dK kvs
  len : M.length = w.n
  inj : ∀ i j, i < w.n → j < w.n → w.r i = w.r j → i = j
  zr : ∀ i, i < w.n → w.Z (w.r i) = none
  m : ∀ i o, M[i]? = some o → ObR G (w.cut i) w.P H (w.r i) o
  tabs : LamX.Tabs G.T H
  tz : ∀ p ∈ G.T, w.Z p.1 = none ∧ w.P p.1 = none ∧ ∀ i, i < w.n → w.r i ≠ p.1
section
variable {G : Gb} {w w' : Wd} {H H' : Hp} {M : Mem} {a p : Addr} {o : HO}
theorem ObR.mono {P' : Hp} {P : Hp} {x : Ob} (h : LeR w w') (hp : P' a = P a) (hh : H' a = H a) (r : ObR G w P H a x) : ObR G w' P' H' a x := by
  cases x with
  | lst ds => obtain ⟨h0, vs, h1, h2⟩ := r; exact ⟨hp.trans h0, vs, hh.trans h1, h2.mono h⟩
  | dct kvs => obtain ⟨h0, vs, h1, h2⟩ := r; exact ⟨hp.trans h0, vs, hh.trans h1, h2.mono h⟩
theorem Sim0.mem (S : Sim0 G w H M) {i : Nat} (hi : i < w.n) : ∃ o, M[i]? = some o := ⟨_, List.getElem?_eq_getElem (S.len ▸ hi)⟩
theorem Sim0.there (S : Sim0 G w H M) {i : Nat} (hi : i < w.n) : ∃ u, H (w.r i) = some u := by
  obtain ⟨o, ho⟩ := S.mem hi
  have r := S.m i o ho
  cases o with
  | lst ds => obtain ⟨_, vs, h1, _⟩ := r; exact ⟨_, h1⟩
  | dct kvs => obtain ⟨_, vs, h1, _⟩ := r; exact ⟨_, h1⟩
theorem rd_not_none {H : Hp} {a : Addr} {u : HO} (r : Rd H a u) (e : H a = none) : False := by
  rcases r with r | ⟨o, r⟩ <;> rw [e] at r <;> cases r
theorem Sim0.zfree (S : Sim0 G w H M) (e : H p = none) : w.Z p = none := by
  cases q : w.Z p with
  | none => rfl
  | some u => exact (rd_not_none (S.z _ _ q) e).elim
theorem Sim0.pfree (S : Sim0 G w H M) (e : H p = none) : w.P p = none := by
  cases q : w.P p with
  | none => rfl
  | some u => have := S.p _ _ q; rw [e] at this; cases this
theorem Sim0.rfree (S : Sim0 G w H M) (e : H p = none) : ∀ i, i < w.n → w.r i ≠ p := fun i hi z => by
  obtain ⟨u, q⟩ := S.there hi
  rw [z, e] at q; cases q
theorem Sim0.tfree (S : Sim0 G w H M) (e : H p = none) : ∀ q ∈ G.T, q.1 ≠ p := fun q hq z => by
  obtain ⟨ps, h1, _⟩ := S.tabs q hq
  rw [z, e] at h1; cases h1
theorem rd_upd_ne {H : Hp} {a b : Addr} {o u : HO} (h : b ≠ a) (r : Rd H b u) : Rd (upd H a o) b u := by
  unfold Rd at *
  rw [L2.upd_ne h]
  exact r
theorem tabs_upd {T : List (Addr × Str)} (t : LamX.Tabs T H) (e : H p = none) : LamX.Tabs T (upd H p o) :=
  t.ext fun b u hb => by rw [L2.upd_ne (ne_of_none hb e)]; exact hb
/-- a new thing that stands for ever -/
theorem Le.addZ (e : w.Z p = none) : Le w (w.addZ p o) := ⟨fun a u h => by
  show upd w.Z p o a = some u
  rw [upd_ne (fun z => by rw [z, e] at h; cases h)]
  exact h, rfl, Nat.le_refl _, fun _ _ => rfl, rfl⟩
theorem Sim0.addZ (S : Sim0 G w H M) (e : H p = none) : Sim0 G (w.addZ p o) (upd H p o) M where
  z := fun a u h => by
    by_cases q : a = p
    · subst q
      have h' : upd w.Z a o a = some u := h
      rw [upd_same] at h'
      exact .inl (by rw [upd_same]; exact h')
    · have h' : upd w.Z p o a = some u := h
      rw [upd_ne q] at h'
      exact rd_upd_ne q (S.z _ _ h')
  p := fun a u h => by rw [upd_ne (fun z => by have := S.p _ _ h; rw [z, e] at this; cases this)]; exact S.p _ _ h
  zp := fun a u h => by
    show upd w.Z p o a = none
    rw [upd_ne (fun z => by have := S.p _ _ h; rw [z, e] at this; cases this)]
    exact S.zp _ _ h
  pl := S.pl
  len := S.len
  inj := S.inj
  zr := fun i hi => by
    show upd w.Z p o (w.r i) = none
    rw [upd_ne (S.rfree e i hi)]
    exact S.zr i hi
  m := fun i x hx => by
    have hi : i < w.n := S.len ▸ (List.getElem?_eq_some_iff.mp hx).1
    exact (S.m i x hx).mono ((Le.addZ (o := o) (S.zfree e)).toR.cut (Nat.le_of_lt hi)) rfl (upd_ne (S.rfree e i hi))
  tabs := tabs_upd S.tabs e
  tz := fun q hq => by
    obtain ⟨h1, h2, h3⟩ := S.tz q hq
    refine ⟨?_, h2, h3⟩
    show upd w.Z p o q.1 = none
    rw [upd_ne (S.tfree e q hq)]
    exact h1
/-- a new object of the memory -/
def Wd.push (w : Wd) (a : Addr) : Wd := { w with n := w.n + 1, r := fun i => if i = w.n then a else w.r i }
theorem push_old {i : Nat} (hi : i < w.n) : (w.push a).r i = w.r i := if_neg (Nat.ne_of_lt hi)
theorem push_new : (w.push a).r w.n = a := if_pos rfl
theorem Le.push : Le w (w.push a) := ⟨fun _ _ h => h, rfl, Nat.le_succ _, fun _ hi => push_old hi, rfl⟩
theorem Sim0.push {x : Ob} (S : Sim0 G w H M) (e : H p = none) (hx : ObR G (w.cut w.n) w.P (upd H p o) p x) : Sim0 G (w.push p) (upd H p o) (M ++ [x]) where
  z := fun a u h => rd_upd_ne (fun z => by have := S.z a u h; rw [z] at this; exact rd_not_none this e) (S.z a u h)
  p := fun a u h => by rw [upd_ne (fun z => by have := S.p _ _ h; rw [z, e] at this; cases this)]; exact S.p _ _ h
  zp := S.zp
  pl := S.pl
  len := by rw [List.length_append, S.len]; rfl
  inj := fun i j hi hj q => by
    have hi : i < w.n + 1 := hi
    have hj : j < w.n + 1 := hj
    by_cases h1 : i = w.n
    · by_cases h2 : j = w.n
      · omega
      · have hj' : j < w.n := by omega
        rw [h1, push_new, push_old hj'] at q
        exact absurd q.symm (S.rfree e j hj')
    · have hi' : i < w.n := by omega
      by_cases h2 : j = w.n
      · rw [h2, push_new, push_old hi'] at q
        exact absurd q (S.rfree e i hi')
      · have hj' : j < w.n := by omega
        rw [push_old hi', push_old hj'] at q
        exact S.inj i j hi' hj' q
  zr := fun i hi => by
    have hi : i < w.n + 1 := hi
    by_cases h1 : i = w.n
    · rw [h1, push_new]; exact S.zfree e
    · rw [push_old (by omega)]; exact S.zr i (by omega)
  m := fun i y hy => by
    by_cases h1 : i < w.n
    · rw [List.getElem?_append_left (by rw [S.len]; exact h1)] at hy
      rw [push_old h1]
      refine ObR.mono (w := w.cut i) (w' := (w.push p).cut i) (LeR.cuts (fun _ _ h => h) fun j hj => push_old (Nat.lt_trans hj h1)) rfl (upd_ne (S.rfree e i h1)) (S.m i y hy)
    · have hl := (List.getElem?_eq_some_iff.mp hy).1
      rw [List.length_append, S.len] at hl
      have hl' : i < w.n + 1 := hl
      have h2 : i = w.n := by omega
      subst h2
      rw [List.getElem?_append_right (by rw [S.len]; exact Nat.le_refl _), S.len, Nat.sub_self] at hy
      have e1 : x = y := Option.some.inj hy
      subst e1
      rw [push_new]
      exact ObR.mono (w := w.cut w.n) (w' := (w.push p).cut w.n) (LeR.cuts (fun _ _ h => h) fun j hj => push_old hj) rfl rfl hx
  tabs := tabs_upd S.tabs e
  tz := fun q hq => by
    obtain ⟨h1, h2, h3⟩ := S.tz q hq
    refine ⟨h1, h2, fun i hi => ?_⟩
    have hi : i < w.n + 1 := hi
    by_cases h4 : i = w.n
    · rw [h4, push_new]; exact fun z => S.tfree e q hq z.symm
    · rw [push_old (by omega)]; exact h3 i (by omega)
theorem ZT.sq {K : PySem.W.Frag} {Z : Hp} {vs : List V} (hz : ∀ a u, Z a = some u → Rd H a u) (z : ZT K Z a vs) : SqT K H a vs := by
  rcases z with z | z
  · exact .inl (hz _ _ z)
  · rcases z with z | z
    · rcases z with z | ⟨_, z⟩ <;> cases z
    · exact .inr z
theorem ZS.sq {K : PySem.W.Frag} {Z : Hp} {vs : List V} (hz : ∀ a u, Z a = some u → Rd H a u) (z : ZS K Z a vs) : SqL K H a vs := by
  rcases z with z | z
  · exact .inl (hz _ _ z)
  · rcases z with z | z
    · rcases z with z | ⟨_, z⟩ <;> cases z
    · exact .inr z
theorem ZL.rd {Z : Hp} {vs : List V} (hz : ∀ a u, Z a = some u → Rd H a u) (z : ZL Z a vs) : Rd H a (.lst vs) := hz _ _ z
end
end DI

set_option Elab.async false
set_option linter.all false
set_option maxRecDepth 100000
set_option maxHeartbeats 4000000
/-! DI1: what an evaluation comes to; expressions' readings made of functions. -/
namespace DI
open PySem PySem.Spec PyProof.Rows L2

inductive Sl where
  | none
  | val (d : D)
abbrev En := List Sl
inductive Res (α : Type) where
  | ok (a : α) (M : Mem)
  | err (c : Str) (ns : List Str) (vs : List D) (M : Mem)
  | stuck
def Res.bind {α β : Type} (r : Res α) (f : α → Mem → Res β) : Res β :=
  match r with
  | .ok a M => f a M
  | .err c ns vs M => .err c ns vs M
  | .stuck => .stuck
@[simp] theorem Res.bind_ok {α β : Type} (a : α) (M : Mem) (f : α → Mem → Res β) : (Res.ok a M).bind f = f a M := rfl
@[simp] theorem Res.bind_err {α β : Type} (c ns vs M) (f : α → Mem → Res β) : (Res.err c ns vs M : Res α).bind f = .err c ns vs M := rfl
@[simp] theorem Res.bind_stuck {α β : Type} (f : α → Mem → Res β) : (Res.stuck : Res α).bind f = .stuck := rfl
/-- a value, or nothing that we know of -/
def opt {α : Type} (o : Option α) (M : Mem) : Res α := match o with
  | some a => .ok a M
  | none => .stuck
@[simp] theorem opt_some {α : Type} (a : α) (M : Mem) : opt (some a) M = .ok a M := rfl
@[simp] theorem opt_none {α : Type} (M : Mem) : opt (none : Option α) M = .stuck := rfl
abbrev EvE := En → Mem → Res D
abbrev EvL := En → Mem → Res (List D)

def ExcV (G : Gb) (w : Wd) (c : Str) (ns : List Str) (vs : List D) (C : Addr) (d : Option Addr) : Prop :=
  G.mg c = some (.ref C) ∧ ns.length = vs.length ∧ ((ns = [] ∧ d = none) ∨ ∃ dx fvs, d = some dx ∧ w.Z dx = some (.xd (ns.zip fvs)) ∧ Reps G w vs fvs)
def SltR (G : Gb) (w : Wd) (σ : L2.St) (i : Nat) : Sl → Prop
  | .none => True
  | .val d => ∃ v, σ[i]? = some (some v) ∧ Rep G w d v
structure SimE (G : Gb) (w : Wd) (own : Option (List (Str × Addr))) (σ : L2.St) (env : En) : Prop where
  ow : w.own = own
  len : env.length = σ.length
  sl : ∀ i s, env[i]? = some s → SltR G w σ i s
section
variable {G : Gb} {w w' w1 : Wd} {own : Option (List (Str × Addr))} {σ : L2.St} {env : En} {H H1 : Hp} {M M1 : Mem}
theorem SltR.mono (h : LeR w w') {i : Nat} {s : Sl} (r : SltR G w σ i s) : SltR G w' σ i s := by
  cases s with
  | none => trivial
  | val d => obtain ⟨v, e, q⟩ := r; exact ⟨v, e, q.mono h⟩
theorem SimE.mono (h : Le w w') (E : SimE G w own σ env) : SimE G w' own σ env := ⟨h.o.trans E.ow, E.len, fun i s e => (E.sl i s e).mono h.toR⟩
theorem ExcV.mono (h : LeR w w') {c ns vs C d} (x : ExcV G w c ns vs C d) : ExcV G w' c ns vs C d :=
  ⟨x.1, x.2.1, x.2.2.imp id fun ⟨dx, fvs, e1, e2, e3⟩ => ⟨dx, fvs, e1, h.z _ _ e2, e3.mono h⟩⟩

/-- what a result must meet -/
def OkG {α β : Type} (G : Gb) (W : WX) (σ : L2.St) (R : Wd → α → β → Prop) (w : Wd) (r : Res α) (Q : β → Hp → Prop) : Prop :=
  match r with
  | .ok d M' => ∀ w' H' v, Le w w' → Sim0 G w' H' M' → R w' d v → Q v H'
  | .err c ns vs M' => ∀ w' H' C d, Le w w' → Sim0 G w' H' M' → ExcV G w' c ns vs C d → W (.ref C) d σ H'
  | .stuck => False
abbrev OkE (G : Gb) (W : WX) (σ : L2.St) (w : Wd) (r : Res D) (Q : VK) : Prop := OkG G W σ (Rep G) w r Q
abbrev OkL (G : Gb) (W : WX) (σ : L2.St) (w : Wd) (r : Res (List D)) (Q : List V → Hp → Prop) : Prop := OkG G W σ (Reps G) w r Q
theorem OkG.mono {α β : Type} {W : WX} {R : Wd → α → β → Prop} {r : Res α} {Q : β → Hp → Prop} (l : Le w w1) (h : OkG G W σ R w r Q) : OkG G W σ R w1 r Q := by
  cases r with
  | ok d M => exact fun w' H' v l' S r => h w' H' v (l.trans l') S r
  | err c ns vs M => exact fun w' H' C d l' S r => h w' H' C d (l.trans l') S r
  | stuck => exact h
theorem OkG.imp {α β : Type} {W : WX} {R : Wd → α → β → Prop} {r : Res α} {Q Q' : β → Hp → Prop} (h : OkG G W σ R w r Q) (k : ∀ v H, Q v H → Q' v H) : OkG G W σ R w r Q' := by
  cases r with
  | ok d M => exact fun w' H' v l' S r => k _ _ (h w' H' v l' S r)
  | err c ns vs M => exact h
  | stuck => exact h
/-- the reading made of a function -/
def tG {α β : Type} (G : Gb) (W : WX) (own : Option (List (Str × Addr))) (R : Wd → α → β → Prop) (f : En → Mem → Res α) : L2.St → Hp → (β → Hp → Prop) → Prop := fun σ H Q =>
  ∃ w env M, Sim0 G w H M ∧ SimE G w own σ env ∧ OkG G W σ R w (f env M) Q
abbrev tE (G : Gb) (W : WX) (own : Option (List (Str × Addr))) (f : EvE) : TE := tG G W own (Rep G) f
abbrev tL (G : Gb) (W : WX) (own : Option (List (Str × Addr))) (f : EvL) : TA := tG G W own (Reps G) f
/-- the first part of a bind -/
theorem tG_bind {α β γ δ : Type} {W : WX} {R : Wd → α → β → Prop} {R' : Wd → γ → δ → Prop} {f : En → Mem → Res α} {g : α → Mem → Res γ} {Q : δ → Hp → Prop} {K : β → Hp → Prop}
    (S : Sim0 G w H M) (E : SimE G w own σ env) (h : OkG G W σ R' w ((f env M).bind g) Q)
    (hk : ∀ d M1 w1 H1 v, Le w w1 → Sim0 G w1 H1 M1 → SimE G w1 own σ env → R w1 d v → OkG G W σ R' w1 (g d M1) Q → K v H1) : tG G W own R f σ H K := by
  refine ⟨w, env, M, S, E, ?_⟩
  cases e : f env M with
  | ok d M1 =>
    rw [e] at h
    exact fun w1 H1 v l S1 r => hk d M1 w1 H1 v l S1 (E.mono l) r (h.mono l)
  | err c ns vs M1 =>
    rw [e] at h
    exact h
  | stuck =>
    rw [e] at h
    exact h
theorem PE_imp {X : Cx} {e : Expr} {t t' : TE} (h : PE X e t) (k : ∀ σ H Q, t' σ H Q → t σ H Q) : PE X e t' := ⟨fun pins s σ H Q I q => h.run pins s σ H Q I (k σ H Q q)⟩
theorem PT_imp {X : Cx} {e : Expr} {t t' : TT} (h : PT X e t) (k : ∀ σ H Q, t' σ H Q → t σ H Q) : PT X e t' := ⟨fun pins s σ H Q I q => h.run pins s σ H Q I (k σ H Q q)⟩
theorem PW_imp {X : Cx} {e : Expr} {t t' : TT} (h : PW X e t) (k : ∀ σ H Q, t' σ H Q → t σ H Q) : PW X e t' := ⟨fun wh pins s σ H Q I q => h.run wh pins s σ H Q I (k σ H Q q)⟩
theorem PA_imp {X : Cx} {e : List Expr} {t t' : TA} (h : PA X e t) (k : ∀ σ H Q, t' σ H Q → t σ H Q) : PA X e t' := ⟨fun pos pins s σ H Q I q => h.run pos pins s σ H Q I (k σ H Q q)⟩
theorem PS_imp {X : Cx} {e : Stmt} {t t' : TS} (h : PS X e t) (k : ∀ σ H D, t' D σ H → t D σ H) : PS X e t' := ⟨fun pins s σ H D I q => h.run pins s σ H D I (k σ H D q)⟩
theorem PSs_imp {X : Cx} {e : List Stmt} {t t' : TS} (h : PSs X e t) (k : ∀ σ H D, t' D σ H → t D σ H) : PSs X e t' := ⟨fun pins s σ H D I q => h.run pins s σ H D I (k σ H D q)⟩
theorem PG_imp {X : Cx} {e : Expr} {t t' : TG} (h : PG X e t) (k : ∀ v σ H Q, t' v σ H Q → t v σ H Q) : PG X e t' := ⟨fun pins s σ H v u Q I r q => h.run pins s σ H v u Q I r (k v σ H Q q)⟩
end

/-! ### combinators, values -/
def cC (d : D) : EvE := fun _ M => .ok d M
def cVar (i : Nat) : EvE := fun env M => match env[i]? with
  | some (.val d) => .ok d M
  | _ => .stuck
def cBin (f : Mem → D → D → Option D) (a b : EvE) : EvE := fun env M => (a env M).bind fun x M1 => (b env M1).bind fun y M2 => opt (f M2 x y) M2
def cUn (f : Mem → D → Option D) (a : EvE) : EvE := fun env M => (a env M).bind fun x M1 => opt (f M1 x) M1
def cNil : EvL := fun _ M => .ok [] M
def cCons (a : EvE) (b : EvL) : EvL := fun env M => (a env M).bind fun x M1 => (b env M1).bind fun xs M2 => .ok (x :: xs) M2
def cFn (f : Mem → List D → Option D) (a : EvL) : EvE := fun env M => (a env M).bind fun xs M1 => opt (f M1 xs) M1
def isB : D → Option Bool
  | .bl b => some b
  | _ => none
def cTst (a : EvE) : En → Mem → Res Bool := fun env M => (a env M).bind fun x M1 => opt (isB x) M1
def cIf (c a b : EvE) : EvE := fun env M => (cTst c env M).bind fun t M1 => if t = true then a env M1 else b env M1
def cAnd (a b : EvE) : EvE := fun env M => (cTst a env M).bind fun t M1 => if t = true then b env M1 else .ok (.bl false) M1
def cOr (a b : EvE) : EvE := fun env M => (cTst a env M).bind fun t M1 => if t = true then .ok (.bl true) M1 else b env M1
def cNot (a : EvE) : EvE := fun env M => (cTst a env M).bind fun t M1 => .ok (.bl (!t)) M1

section
variable {G : Gb} {W : WX} {own : Option (List (Str × Addr))} {X : Cx} {pos : Pos}
/-- an operation upon values: its answer stands -/
def OpD (G : Gb) (X : Cx) (sem : Value → Value → Sem Value) (f : Mem → D → D → Option D) : Prop :=
  ∀ (w : Wd) (M : Mem) (H : Hp) (dx dy d : D) (x y : V) (Q : VK), Sim0 G w H M → Rep G w dx x → Rep G w dy y → f M dx dy = some d →
    (∀ w' H' v, Le w w' → Sim0 G w' H' M → Rep G w' d v → Q v H') →
    ∀ (pins : List (Addr × Obj)) (s : Shared) (σ : L2.St) (v u : Value), Inv X pins σ H s → RelV x v → RelV y u → wpAny (model X.prog X.w) X.A (sem v u) (EP X pins σ Q) X.xe s
def rOf (G : Gb) (f : Mem → D → D → Option D) : R2 := fun x y H Q => ∃ w M dx dy d, Sim0 G w H M ∧ Rep G w dx x ∧ Rep G w dy y ∧ f M dx dy = some d ∧ ∀ w' H' v, Le w w' → Sim0 G w' H' M → Rep G w' d v → Q v H'
theorem OpD.opR {sem : Value → Value → Sem Value} {f : Mem → D → D → Option D} (h : OpD G X sem f) : OpR X sem (rOf G f) := by
  intro pins s σ H x y v u Q I rx ry q
  obtain ⟨w, M, dx, dy, d, S, r1, r2, e, hQ⟩ := q
  exact h w M H dx dy d x y Q S r1 r2 e hQ pins s σ v u I rx ry
theorem tOp_of {f : Mem → D → D → Option D} {a b : EvE} {σ : L2.St} {H : Hp} {Q : VK} (h : tE G W own (cBin f a b) σ H Q) : tOp (rOf G f) (tE G W own a) (tE G W own b) σ H Q := by
  obtain ⟨w, env, M, S, E, h⟩ := h
  refine tG_bind (g := fun x M1 => (b env M1).bind fun y M2 => opt (f M2 x y) M2) S E h fun dx M1 w1 H1 x l1 S1 E1 r1 h1 => ?_
  refine tG_bind (g := fun y M2 => opt (f M2 dx y) M2) S1 E1 h1 fun dy M2 w2 H2 y l2 S2 E2 r2 h2 => ?_
  cases e : f M2 dx dy with
  | none => rw [e] at h2; exact h2.elim
  | some d =>
    rw [e] at h2
    exact ⟨w2, M2, dx, dy, d, S2, r1.mono l2.toR, r2, e, h2⟩
theorem pd_bin {op : Operator} {f : Mem → D → D → Option D} {ea eb : Expr} {a b : EvE} (ho : OpD G X (binaryOp op) f) (ha : PE X ea (tE G W own a)) (hb : PE X eb (tE G W own b)) : PE X (.BinOp ea op eb pos) (tE G W own (cBin f a b)) :=
  PE_imp (pe_op ho.opR ha hb) fun _ _ _ => tOp_of
theorem pd_cmp {op : CmpOp} {f : Mem → D → D → Option D} {ea eb : Expr} {a b : EvE} (ho : OpD G X (compareOp op) f) (ha : PE X ea (tE G W own a)) (hb : PE X eb (tE G W own b)) (hm : behindInMarks op eb = false) : PE X (.Compare ea [op] [eb] pos) (tE G W own (cBin f a b)) :=
  PE_imp (pe_cmpR ho.opR ha hb hm) fun _ _ _ => tOp_of
end
end DI

set_option Elab.async false
set_option linter.all false
set_option maxRecDepth 100000
set_option maxHeartbeats 4000000
/-! DI2: names, constants, tests, arguments, displays. -/
namespace DI
open PySem PySem.Spec PyProof.Rows L2
section
variable {G : Gb} {W : WX} {own : Option (List (Str × Addr))} {X : Cx} {pos : Pos}
theorem tC_of {d : D} {v : V} {σ : L2.St} {H : Hp} {Q : VK} (hr : ∀ w, Rep G w d v) (h : tE G W own (cC d) σ H Q) : tC v σ H Q := by
  obtain ⟨w, env, M, S, E, h⟩ := h
  exact h w H v (Le.refl w) S (hr w)
theorem pd_int {i : Int} {j pos} : PE X (.Constant (.int i) j pos) (tE G W own (cC (.int i))) := PE_imp pe_int fun _ _ _ => tC_of fun _ => .int i
theorem pd_bl {b : Bool} {j pos} : PE X (.Constant (.bool b) j pos) (tE G W own (cC (.bl b))) := PE_imp pe_bl fun _ _ _ => tC_of fun _ => .bl b
theorem pd_non {j pos} : PE X (.Constant .none j pos) (tE G W own (cC .non)) := PE_imp pe_non fun _ _ _ => tC_of fun _ => .non
theorem pd_str {x : Str} {j pos} : PE X (.Constant (.str x) j pos) (tE G W own (cC (.str x))) := PE_imp pe_str fun _ _ _ => tC_of fun _ => .str x
theorem pd_var {i : Nat} {x : Str} (hN : X.N[i]? = some x) (hv : Vis X.env.scope x) (hd : (x == ("__debug__" : Str)) = false) (hcd : (x == ("__classdict__" : Str)) = false) : PE X (.Name x pos) (tE G W own (cVar i)) :=
  PE_imp (pe_var hN hv hd hcd) fun σ H Q h => by
    obtain ⟨w, env, M, S, E, h⟩ := h
    unfold cVar at h
    cases e : env[i]? with
    | none => rw [e] at h; exact h.elim
    | some s =>
      rw [e] at h
      cases s with
      | none => exact h.elim
      | val d =>
        obtain ⟨v, e1, r⟩ := E.sl i _ e
        exact ⟨v, e1, h w H v (Le.refl w) S r⟩
/-- a constant, a class, a def of the module -/
theorem pd_glob {x : Str} {d : D} {v : V} {u : Value} (hg : Gl X x) (hm : X.mg x = some u) (r : RelV v u) (hr : ∀ w, Rep G w d v) (hd : (x == ("__debug__" : Str)) = false) : PE X (.Name x pos) (tE G W own (cC d)) :=
  PE_imp (pe_glob hg hm r hd) fun _ _ _ => tC_of hr
theorem pd_bltn {x : Str} {d : D} {v : V} {u : Value} (hg : Gl X x) (hm : X.mg x = none) (hv : bootBuiltins x = some u) (r : RelV v u) (hr : ∀ w, Rep G w d v) (hn : x ≠ "__name__") (hd : (x == ("__debug__" : Str)) = false) : PE X (.Name x pos) (tE G W own (cC d)) :=
  PE_imp (pe_bltn hg hm hv r hn hd) fun _ _ _ => tC_of hr
/-- what is never come to -/
def cStuck : EvE := fun _ _ => .stuck
theorem pd_stuck {e : Expr} : PE X e (tE G W own cStuck) := ⟨fun _ _ _ _ _ _ h => by obtain ⟨w, env, M, S, E, h⟩ := h; exact h.elim⟩

/-! ### tests -/
/-- a test's reading -/
abbrev tTs (G : Gb) (W : WX) (own : Option (List (Str × Addr))) (a : EvE) : TT := tG G W own (fun _ (b : Bool) (c : Bool) => b = c) (cTst a)
theorem tTs_tB {a : EvE} {σ : L2.St} {H : Hp} {Q : Bool → Hp → Prop} (h : tTs G W own a σ H Q) : tB (tE G W own a) σ H Q := by
  obtain ⟨w, env, M, S, E, h⟩ := h
  refine tG_bind (g := fun x M1 => opt (isB x) M1) S E h fun d M1 w1 H1 v l1 S1 E1 r1 h1 => ?_
  cases d with
  | bl b => cases r1; exact ⟨b, rfl, h1 w1 H1 b (Le.refl _) S1 rfl⟩
  | _ => exact h1.elim
/-- a plain expression as a test -/
theorem pt_plain {e : Expr} {a : EvE} (h : PE X e (tE G W own a)) (he : ∀ whole, isTrue e X.env whole = (do let v ← whole; standAt e.pos; holding [v] (truthy v))) : PT X e (tTs G W own a) :=
  PT_imp (pt_val h he) fun _ _ _ => tTs_tB
theorem tTs_tTest {r : TE} {a : EvE} {σ : L2.St} {H : Hp} {Q : Bool → Hp → Prop} (hr : ∀ Q', tE G W own a σ H Q' → r σ H Q') (h : tTs G W own a σ H Q) : tTest r σ H Q := hr _ (tTs_tB h)
theorem ptd_cmp {op : CmpOp} {f : Mem → D → D → Option D} {ea eb : Expr} {a b : EvE} (ho : OpD G X (compareOp op) f) (ha : PE X ea (tE G W own a)) (hb : PE X eb (tE G W own b)) (hm : behindInMarks op eb = false) : PT X (.Compare ea [op] [eb] pos) (tTs G W own (cBin f a b)) :=
  PT_imp (pt_cmpR ho.opR ha hb hm) fun _ _ _ h => tTs_tTest (fun _ => tOp_of) h
theorem ptd_not {e : Expr} {a : EvE} (h : PT X e (tTs G W own a)) : PT X (.UnaryOp .Not e pos) (tTs G W own (cNot a)) :=
  PT_imp (pt_not h) fun σ H Q h => by
    obtain ⟨w, env, M, S, E, h⟩ := h
    refine ⟨w, env, M, S, E, ?_⟩
    unfold cTst cNot at h
    revert h
    cases cTst a env M with
    | ok b M' => exact fun h w' H' c l S' e => by subst e; exact h w' H' _ l S' rfl
    | err => exact id
    | stuck => exact id
theorem pd_not {e : Expr} {a : EvE} (h : PT X e (tTs G W own a)) (he : PE X e (tE G W own a)) : PE X (.UnaryOp .Not e pos) (tE G W own (cNot a)) :=
  PE_imp (pe_not he) fun σ H Q h => by
    obtain ⟨w, env, M, S, E, h⟩ := h
    have h' : OkE G W σ w ((a env M).bind fun x M1 => (opt (isB x) M1).bind fun t M1 => .ok (.bl (!t)) M1) Q := by
      unfold cNot cTst at h
      revert h
      cases a env M with
      | ok d M1 => exact id
      | err => exact id
      | stuck => exact id
    refine tG_bind (g := fun x M1 => (opt (isB x) M1).bind fun t M1 => Res.ok (D.bl (!t)) M1) S E h' fun d M1 w1 H1 v l1 S1 E1 r1 h1 => ?_
    cases d with
    | bl b => cases r1; exact ⟨b, rfl, h1 w1 H1 _ (Le.refl _) S1 (.bl _)⟩
    | _ => exact h1.elim
theorem bind_assoc {α β γ : Type} (r : Res α) (f : α → Mem → Res β) (g : β → Mem → Res γ) : (r.bind f).bind g = r.bind fun a M => (f a M).bind g := by
  cases r <;> rfl
theorem ptd_if {ec ea eb : Expr} {c a b : EvE} (hc : PT X ec (tTs G W own c)) (ha : PE X ea (tE G W own a)) (hb : PE X eb (tE G W own b)) : PE X (.IfExp ec ea eb pos) (tE G W own (cIf c a b)) :=
  PE_imp (pe_ifExp hc ha hb) fun σ H Q h => by
    obtain ⟨w, env, M, S, E, h⟩ := h
    refine tG_bind (g := fun t M1 => if t = true then a env M1 else b env M1) S E h fun t M1 w1 H1 v l1 S1 E1 r1 h1 => ?_
    subst r1
    cases t with
    | true => exact ⟨w1, env, M1, S1, E1, h1⟩
    | false => exact ⟨w1, env, M1, S1, E1, h1⟩
theorem cTst_and (a b : EvE) (env M) : cTst (cAnd a b) env M = (cTst a env M).bind fun t M1 => if t = true then cTst b env M1 else .ok false M1 := by
  unfold cAnd
  show (Res.bind _ _).bind _ = _
  rw [bind_assoc]
  congr 1
  funext t M1
  cases t <;> rfl
theorem cTst_or (a b : EvE) (env M) : cTst (cOr a b) env M = (cTst a env M).bind fun t M1 => if t = true then .ok true M1 else cTst b env M1 := by
  unfold cOr
  show (Res.bind _ _).bind _ = _
  rw [bind_assoc]
  congr 1
  funext t M1
  cases t <;> rfl
theorem pwd_one {e : Expr} {isAnd : Bool} {a : EvE} (h : PT X e (tTs G W own a)) : PW X (.BoolOp (if isAnd then .And else .Or) [e] pos) (tTs G W own a) := by
  cases isAnd with
  | true => exact pw_and1 h
  | false => exact pw_or1 h
theorem pwd_and {e e' : Expr} {es : List Expr} {a b : EvE} (h : PT X e (tTs G W own a)) (hr : PW X (.BoolOp .And (e' :: es) pos) (tTs G W own b)) : PW X (.BoolOp .And (e :: e' :: es) pos) (tTs G W own (cAnd a b)) :=
  PW_imp (pw_and h hr) fun σ H Q h => by
    obtain ⟨w, env, M, S, E, h⟩ := h
    rw [cTst_and] at h
    refine tG_bind (g := fun t M1 => if t = true then cTst b env M1 else .ok false M1) S E h fun t M1 w1 H1 v l1 S1 E1 r1 h1 => ?_
    subst r1
    cases t with
    | true => exact ⟨w1, env, M1, S1, E1, h1⟩
    | false => exact h1 w1 H1 false (Le.refl _) S1 rfl
theorem pwd_or {e e' : Expr} {es : List Expr} {a b : EvE} (h : PT X e (tTs G W own a)) (hr : PW X (.BoolOp .Or (e' :: es) pos) (tTs G W own b)) : PW X (.BoolOp .Or (e :: e' :: es) pos) (tTs G W own (cOr a b)) :=
  PW_imp (pw_or h hr) fun σ H Q h => by
    obtain ⟨w, env, M, S, E, h⟩ := h
    rw [cTst_or] at h
    refine tG_bind (g := fun t M1 => if t = true then .ok true M1 else cTst b env M1) S E h fun t M1 w1 H1 v l1 S1 E1 r1 h1 => ?_
    subst r1
    cases t with
    | true => exact h1 w1 H1 true (Le.refl _) S1 rfl
    | false => exact ⟨w1, env, M1, S1, E1, h1⟩
theorem pd_one {e : Expr} {op : BoolOp} {a : EvE} (h : PE X e (tE G W own a)) : PE X (.BoolOp op [e] pos) (tE G W own a) := pe_one h
theorem pd_and {e e' : Expr} {es : List Expr} {a b : EvE} (h : PE X e (tE G W own a)) (hr : PE X (.BoolOp .And (e' :: es) pos) (tE G W own b)) : PE X (.BoolOp .And (e :: e' :: es) pos) (tE G W own (cAnd a b)) :=
  PE_imp (pe_and h hr) fun σ H Q h => by
    obtain ⟨w, env, M, S, E, h⟩ := h
    unfold cAnd cTst at h
    rw [bind_assoc] at h
    refine tG_bind (g := fun x M1 => (opt (isB x) M1).bind fun t M1 => if t = true then b env M1 else .ok (.bl false) M1) S E h fun d M1 w1 H1 v l1 S1 E1 r1 h1 => ?_
    cases d with
    | bl c =>
      cases r1
      refine ⟨c, rfl, ?_⟩
      cases c with
      | true => exact ⟨w1, env, M1, S1, E1, h1⟩
      | false => exact h1 w1 H1 _ (Le.refl _) S1 (.bl _)
    | _ => exact h1.elim
theorem pd_or {e e' : Expr} {es : List Expr} {a b : EvE} (h : PE X e (tE G W own a)) (hr : PE X (.BoolOp .Or (e' :: es) pos) (tE G W own b)) : PE X (.BoolOp .Or (e :: e' :: es) pos) (tE G W own (cOr a b)) :=
  PE_imp (pe_or h hr) fun σ H Q h => by
    obtain ⟨w, env, M, S, E, h⟩ := h
    unfold cOr cTst at h
    rw [bind_assoc] at h
    refine tG_bind (g := fun x M1 => (opt (isB x) M1).bind fun t M1 => if t = true then .ok (.bl true) M1 else b env M1) S E h fun d M1 w1 H1 v l1 S1 E1 r1 h1 => ?_
    cases d with
    | bl c =>
      cases r1
      refine ⟨c, rfl, ?_⟩
      cases c with
      | true => exact h1 w1 H1 _ (Le.refl _) S1 (.bl _)
      | false => exact ⟨w1, env, M1, S1, E1, h1⟩
    | _ => exact h1.elim

/-! ### a < b < c -/
def cChain (f g : Mem → D → D → Option D) (a b c : EvE) : EvE := fun env M => (a env M).bind fun x M1 => (b env M1).bind fun y M2 => (opt (f M2 x y) M2).bind fun t M3 => (opt (isB t) M3).bind fun k M4 =>
  if k = true then (c env M4).bind fun z M5 => opt (g M5 y z) M5 else .ok (.bl false) M4
theorem tChain_of {f g : Mem → D → D → Option D} {a b c : EvE} {σ : L2.St} {H : Hp} {Q : VK} (h : tE G W own (cChain f g a b c) σ H Q) : tChain (rOf G f) (rOf G g) (tE G W own a) (tE G W own b) (tE G W own c) σ H Q := by
  obtain ⟨w, env, M, S, E, h⟩ := h
  refine tG_bind (g := fun x M1 => (b env M1).bind fun y M2 => (opt (f M2 x y) M2).bind fun t M3 => (opt (isB t) M3).bind fun k M4 => if k = true then (c env M4).bind fun z M5 => opt (g M5 y z) M5 else .ok (.bl false) M4) S E h fun dx M1 w1 H1 x l1 S1 E1 r1 h1 => ?_
  refine tG_bind (g := fun y M2 => (opt (f M2 dx y) M2).bind fun t M3 => (opt (isB t) M3).bind fun k M4 => if k = true then (c env M4).bind fun z M5 => opt (g M5 y z) M5 else .ok (.bl false) M4) S1 E1 h1 fun dy M2 w2 H2 y l2 S2 E2 r2 h2 => ?_
  cases e : f M2 dx dy with
  | none => rw [e] at h2; exact h2.elim
  | some d =>
    rw [e] at h2
    cases d with
    | bl k =>
      refine ⟨w2, M2, dx, dy, .bl k, S2, r1.mono l2.toR, r2, e, fun w3 H3 v l3 S3 r3 => ?_⟩
      cases r3
      refine ⟨k, rfl, ?_⟩
      cases k with
      | true =>
        rw [if_pos rfl]
        refine tG_bind (g := fun z M5 => opt (g M5 dy z) M5) S3 (E2.mono l3) (OkG.mono l3 h2) fun dz M4 w4 H4 z l4 S4 E4 r4 h4 => ?_
        cases e4 : g M4 dy dz with
        | none => rw [e4] at h4; exact h4.elim
        | some d4 =>
          rw [e4] at h4
          exact ⟨w4, M4, dy, dz, d4, S4, r2.mono (l3.trans l4).toR, r4, e4, h4⟩
      | false =>
        rw [if_neg Bool.false_ne_true]
        exact h2 w3 H3 _ l3 S3 (.bl _)
    | _ => exact h2.elim
theorem pd_chain {op op' : CmpOp} {f g : Mem → D → D → Option D} {ea eb ec : Expr} {a b c : EvE} (ho : OpD G X (compareOp op) f) (ho' : OpD G X (compareOp op') g) (ha : PE X ea (tE G W own a)) (hb : PE X eb (tE G W own b)) (hc : PE X ec (tE G W own c))
    (hm : lastMarks [op, op'] [eb, ec] = false) : PE X (.Compare ea [op, op'] [eb, ec] pos) (tE G W own (cChain f g a b c)) :=
  PE_imp (pe_chain ho.opR ho'.opR ha hb hc hm) fun _ _ _ => tChain_of
theorem ptd_chain {op op' : CmpOp} {f g : Mem → D → D → Option D} {ea eb ec : Expr} {a b c : EvE} (ho : OpD G X (compareOp op) f) (ho' : OpD G X (compareOp op') g) (ha : PE X ea (tE G W own a)) (hb : PE X eb (tE G W own b)) (hc : PE X ec (tE G W own c))
    (hm : lastMarks [op, op'] [eb, ec] = false) : PT X (.Compare ea [op, op'] [eb, ec] pos) (tTs G W own (cChain f g a b c)) :=
  PT_imp (pt_chain ho.opR ho'.opR ha hb hc hm) fun _ _ _ h => tTs_tTest (fun _ => tChain_of) h

/-! ### arguments, displays -/
theorem pda_nil : PA X [] (tL G W own cNil) := PA_imp pa_nil fun σ H Q h => by
  obtain ⟨w, env, M, S, E, h⟩ := h
  exact h w H [] (Le.refl w) S .nil
theorem pda_cons {e : Expr} {es : List Expr} {a : EvE} {b : EvL} (ha : PE X e (tE G W own a)) (hb : PA X es (tL G W own b)) (hs : starEach (e :: es) X.env = (false, eval e X.env) :: starEach es X.env) : PA X (e :: es) (tL G W own (cCons a b)) :=
  PA_imp (pa_cons ha hb hs) fun σ H Q h => by
    obtain ⟨w, env, M, S, E, h⟩ := h
    refine tG_bind (g := fun x M1 => (b env M1).bind fun xs M2 => .ok (x :: xs) M2) S E h fun dx M1 w1 H1 x l1 S1 E1 r1 h1 => ?_
    refine tG_bind (g := fun xs M2 => .ok (dx :: xs) M2) S1 E1 h1 fun ds M2 w2 H2 xs l2 S2 E2 r2 h2 => ?_
    exact h2 w2 H2 _ (Le.refl _) S2 (.cons (r1.mono l2.toR) r2)
/-- (a, b, ..) -/
noncomputable def fTup (M : Mem) (ds : List D) : Option D := if ds.length ≤ sizeLine then some (.tup ds) else none
noncomputable def fLst (M : Mem) (ds : List D) : Option D := if ds.length ≤ sizeLine then some (.lst ds) else none
theorem pd_tup {es : List Expr} {b : EvL} {x1} (h : PA X es (tL G W own b)) : PE X (.Tuple es x1 pos) (tE G W own (cFn fTup b)) :=
  PE_imp (pe_tup h) fun σ H Q h => by
    obtain ⟨w, env, M, S, E, h⟩ := h
    refine tG_bind (g := fun xs M2 => opt (fTup M2 xs) M2) S E h fun ds M1 w1 H1 vs l1 S1 E1 r1 h1 => ?_
    unfold fTup at h1
    split at h1
    · rename_i hz
      refine ⟨by rw [← r1.length]; exact hz, fun p hp => ?_⟩
      exact h1 _ _ _ (Le.addZ (S1.zfree hp)) (S1.addZ hp) (.tup (.inl upd_same) (r1.mono (Le.addZ (S1.zfree hp)).toR))
    · exact h1.elim
theorem pd_lst {es : List Expr} {b : EvL} (h : PA X es (tL G W own b)) : PE X (.List es pos) (tE G W own (cFn fLst b)) :=
  PE_imp (pe_lst h) fun σ H Q h => by
    obtain ⟨w, env, M, S, E, h⟩ := h
    refine tG_bind (g := fun xs M2 => opt (fLst M2 xs) M2) S E h fun ds M1 w1 H1 vs l1 S1 E1 r1 h1 => ?_
    unfold fLst at h1
    split at h1
    · rename_i hz
      refine ⟨by rw [← r1.length]; exact hz, fun p hp => ?_⟩
      exact h1 _ _ _ (Le.addZ (S1.zfree hp)) (S1.addZ hp) (.lst upd_same (r1.mono (Le.addZ (S1.zfree hp)).toR))
    · exact h1.elim
mutual
/-- nothing that may change in it, but what is older than i; no closure -/
def below (i : Nat) : D → Bool
  | .ref j => decide (j < i)
  | .tup ds => belows i ds
  | .lst ds => belows i ds
  | .exc _ _ ds => belows i ds
  | .cl _ => false
  | _ => true
def belows (i : Nat) : List D → Bool
  | [] => true
  | d :: ds => below i d && belows i ds
end
section
variable {G : Gb} {w : Wd}
mutual
theorem below_rep {i : Nat} : ∀ {d : D} {v : V}, Rep G w d v → below i d = true → Rep G (w.cut i) d v
  | _, _, .non, _ => .non
  | _, _, .bl b, _ => .bl b
  | _, _, .int i, _ => .int i
  | _, _, .str x, _ => .str x
  | _, _, .tup z r, h => .tup z (belows_rep r h)
  | _, _, .lst z r, h => .lst z (belows_rep r h)
  | _, _, .exc m e r l, h => .exc m e (belows_rep r h) l
  | _, _, .fn m r, _ => .fn m r
  | _, _, .ty n, _ => .ty n
  | _, _, .ref (i := j) hj, h => by
    have h' : j < i := by simpa [below] using h
    exact .ref (w := w.cut i) h'
  | _, _, .cl _ _ _, h => by cases h
  | _, _, .scr z, _ => .scr z
theorem belows_rep {i : Nat} : ∀ {ds : List D} {vs : List V}, Reps G w ds vs → belows i ds = true → Reps G (w.cut i) ds vs
  | _, _, .nil, _ => .nil
  | _, _, .cons a b, h => by
    rw [belows, Bool.and_eq_true] at h
    exact .cons (below_rep a h.1) (belows_rep b h.2)
end
end
/-- a list that may change -/
noncomputable def cLstM (b : EvL) : EvE := fun env M => (b env M).bind fun ds M1 => if ds.length ≤ sizeLine ∧ belows M1.length ds = true then .ok (.ref M1.length) (M1 ++ [.lst ds]) else .stuck
theorem pd_lstM {es : List Expr} {b : EvL} (h : PA X es (tL G W own b)) : PE X (.List es pos) (tE G W own (cLstM b)) :=
  PE_imp (pe_lst h) fun σ H Q h => by
    obtain ⟨w, env, M, S, E, h⟩ := h
    refine tG_bind (g := fun (ds : List D) M1 => if ds.length ≤ sizeLine ∧ belows M1.length ds = true then Res.ok (D.ref M1.length) (M1 ++ [Ob.lst ds]) else .stuck) S E h fun ds M1 w1 H1 vs l1 S1 E1 r1 h1 => ?_
    split at h1
    · rename_i hz
      refine ⟨by rw [← r1.length]; exact hz.1, fun p hp => ?_⟩
      have S2 := S1.push (o := .lst vs) hp (x := .lst ds) ⟨S1.pfree hp, vs, upd_same, belows_rep r1 (S1.len ▸ hz.2)⟩
      refine h1 _ _ _ Le.push S2 ?_
      have := Rep.ref (G := G) (w := w1.push p) (i := w1.n) (Nat.lt_succ_self _)
      rw [push_new] at this
      rw [S1.len]
      exact this
    · exact h1.elim
end
end DI

set_option Elab.async false
set_option linter.all false
set_option maxRecDepth 100000
set_option maxHeartbeats 4000000
/-! DI3: operators upon values. -/
namespace DI
open PySem PySem.Spec PyProof.Rows L2
/-- what an operation asks of where it stands -/
structure XG (G : Gb) (X : Cx) : Prop where
  K : X.K = G.K
  mg : X.mg = G.mg
  calm : X.calm = true
  un : X.A.units + 65 < cLine
/-- a list that may change, read -/
def der (M : Mem) : D → D
  | .ref i => match M[i]? with
    | some (.lst xs) => .lst xs
    | _ => .ref i
  | d => d
section
variable {G : Gb} {X : Cx} {w : Wd} {M : Mem} {H : Hp} {d : D} {v : V}
theorem der_ref {i : Nat} : der M (.ref i) = .ref i ∨ ∃ xs, M[i]? = some (.lst xs) ∧ der M (.ref i) = .lst xs := by
  cases e : M[i]? with
  | none => exact .inl (by simp only [der, e])
  | some o =>
    cases o with
    | lst xs => exact .inr ⟨xs, rfl, by simp only [der, e]⟩
    | dct kvs => exact .inl (by simp only [der, e])
theorem der_int (r : Rep G w d v) {i : Int} (e : der M d = .int i) : v = .int i := by
  cases r <;> first
    | (rcases der_ref (M := M) with q | ⟨xs, _, q⟩ <;> rw [q] at e <;> cases e)
    | (cases e; rfl)
    | cases e
theorem der_str (r : Rep G w d v) {i : Str} (e : der M d = .str i) : v = .str i := by
  cases r <;> first
    | (rcases der_ref (M := M) with q | ⟨xs, _, q⟩ <;> rw [q] at e <;> cases e)
    | (cases e; rfl)
    | cases e
theorem der_bl (r : Rep G w d v) {i : Bool} (e : der M d = .bl i) : v = .bl i := by
  cases r <;> first
    | (rcases der_ref (M := M) with q | ⟨xs, _, q⟩ <;> rw [q] at e <;> cases e)
    | (cases e; rfl)
    | cases e
theorem der_non (r : Rep G w d v) (e : der M d = .non) : v = .non := by
  cases r <;> first
    | (rcases der_ref (M := M) with q | ⟨xs, _, q⟩ <;> rw [q] at e <;> cases e)
    | (cases e; rfl)
    | cases e
theorem der_tup (S : Sim0 G w H M) (r : Rep G w d v) {ds : List D} (e : der M d = .tup ds) : ∃ a vs, v = .ref a ∧ SqT G.K H a vs ∧ Reps G w ds vs := by
  cases r with
  | tup z q => cases e; exact ⟨_, _, rfl, z.sq S.z, q⟩
  | ref hi => rcases der_ref (M := M) with q | ⟨xs, _, q⟩ <;> rw [q] at e <;> cases e
  | _ => cases e
theorem der_lst (S : Sim0 G w H M) (r : Rep G w d v) {ds : List D} (e : der M d = .lst ds) : ∃ a vs, v = .ref a ∧ Rd H a (.lst vs) ∧ Reps G w ds vs := by
  cases r with
  | lst z q => cases e; exact ⟨_, _, rfl, z.rd S.z, q⟩
  | @ref i hi =>
    rcases der_ref (M := M) (i := i) with q | ⟨xs, q1, q⟩
    · rw [q] at e; cases e
    · rw [q] at e
      cases e
      obtain ⟨_, vs, h1, h2⟩ := S.m i _ q1
      exact ⟨_, vs, rfl, .inl h1, h2.mono (.ofCut w (Nat.le_of_lt hi))⟩
  | _ => cases e
theorem int_of (r : Rep G w (.int i) v) : v = .int i := by cases r; rfl
theorem str_of (r : Rep G w (.str i) v) : v = .str i := by cases r; rfl
end

/-! ### + -/
noncomputable def fAdd (M : Mem) (x y : D) : Option D := match der M x, der M y with
  | .int i, .int j => some (.int (i + j))
  | .str a, .str b => if a.length + b.length ≤ sizeLine then some (.str (a ++ b)) else none
  | .tup a, .tup b => if a.length + b.length ≤ sizeLine then some (.tup (a ++ b)) else none
  | .lst a, .lst b => if a.length + b.length ≤ sizeLine then some (.lst (a ++ b)) else none
  | _, _ => none
def fSub (M : Mem) (x y : D) : Option D := match x, y with
  | .int i, .int j => some (.int (i - j))
  | _, _ => none
/-- text times a small int -/
def strRep (a : Str) (n : Nat) : Str := ⟨(List.replicate n a.cps).foldl (· ++ ·) #[]⟩
open Classical in
noncomputable def fMul (M : Mem) (x y : D) : Option D := match der M x, der M y with
  | .int i, .int j => if IntMulOk i j then some (.int (i * j)) else none
  | .tup a, .int k => if 0 ≤ k ∧ k ≤ 1000 ∧ 1 ≤ a.length ∧ a.length ≤ 1000 then some (.tup (List.replicate k.toNat a).flatten) else none
  | .lst a, .int k => if 0 ≤ k ∧ k ≤ 1000 ∧ a.length ≤ 1000 then some (.lst (List.replicate k.toNat a).flatten) else none
  | .str a, .int k => if 1 ≤ k ∧ k ≤ 1000 ∧ a.length ≤ 1000 then some (.str (strRep a k.toNat)) else none
  | _, _ => none
open Classical in
noncomputable def fDiv (M : Mem) (x y : D) : Option D := match x, y with
  | .int i, .int j => if j ≠ 0 ∧ Builtin.divisionGoesByPylong i j = false then some (.int (i.fdiv j)) else none
  | _, _ => none
def fMod (M : Mem) (x y : D) : Option D := match x, y with
  | .int i, .int j => if j ≠ 0 then some (.int (i.fmod j)) else none
  | _, _ => none
def fPow (M : Mem) (x y : D) : Option D := match x, y with
  | .int i, .int j => if 0 ≤ j ∧ j ≤ 1000000 ∧ i.natAbs < 2 ^ 64 then some (.int (i ^ j.toNat)) else none
  | _, _ => none
def fNeg (M : Mem) (x : D) : Option D := match x with
  | .int i => some (.int (-i))
  | _ => none

/-- list + list, both read -/
theorem rd_lst {X : Cx} {H : Hp} {l : Addr} {xs : List V} {pins : List (Addr × Obj)} {s : Shared} {σ : L2.St} (I : Inv X pins σ H s) (h : Rd H l (.lst xs)) :
    xs.length ≤ sizeLine ∧ ∃ (its : List Value) (n : Nat), Vals xs its ∧ xs.length = its.length ∧ s.heap.get? l = some { cls := .type "list", data := .seq its.toArray n } := by
  obtain ⟨z, its, n, r, e⟩ := h.ok I.hok
  exact ⟨z, its, n, r, r.length, e⟩
theorem cat_rd {X : Cx} {H : Hp} {l b : Addr} {xs zs : List V} {Q : VK} (hH : Rd H l (.lst xs)) (hB : Rd H b (.lst zs)) (hz : xs.length + zs.length ≤ sizeLine) (q : ∀ p, H p = none → Q (.ref p) (upd H p (.lst (xs ++ zs))))
    {pins : List (Addr × Obj)} {s : Shared} {σ : L2.St} (I : Inv X pins σ H s) : wpAny (model X.prog X.w) X.A (binaryOp .Add (.ref l) (.ref b)) (EP X pins σ Q) X.xe s := by
  obtain ⟨_, its, n1, r, hl, e1⟩ := rd_lst I hH
  obtain ⟨_, its2, n2, r2, hl2, e2⟩ := rd_lst I hB
  have ea : its.toArray ++ its2.toArray = (its ++ its2).toArray := by simp
  refine PySem.P.add_list e1 e2 ?_ (by rw [List.size_toArray, List.size_toArray]; omega)
  rw [ea]
  exact ⟨.ref _, _, I.lnew (t' := s.toks) (r.append r2) (by rw [List.length_append]; omega), rfl, q _ I.fresh⟩
section
variable {G : Gb} {X : Cx}
theorem opD_add (hX : XG G X) : OpD G X (binaryOp .Add) fAdd := by
  intro w M H dx dy d x y Q S r1 r2 e hQ pins s σ v u I rx ry
  unfold fAdd at e
  cases ex : der M dx <;> cases ey : der M dy <;> rw [ex, ey] at e <;> simp only [reduceCtorEq] at e
  · cases e
    have := der_int r1 ex; subst this
    have := der_int r2 ey; subst this
    exact op_add pins s σ H _ _ v u Q I rx ry ⟨_, _, rfl, rfl, hQ w H _ (Le.refl w) S (.int _)⟩
  · split at e
    · cases e
      have := der_str r1 ex; subst this
      have := der_str r2 ey; subst this
      exact op_add_str pins s σ H _ _ v u Q I rx ry ⟨_, _, rfl, rfl, by assumption, hQ w H _ (Le.refl w) S (.str _)⟩
    · cases e
  · split at e
    · rename_i hz
      cases e
      obtain ⟨a, vs, rfl, ha, qa⟩ := der_tup S r1 ex
      obtain ⟨b, us, rfl, hb, qb⟩ := der_tup S r2 ey
      refine op_catA pins s σ H _ _ v u Q I rx ry ⟨a, b, vs, us, rfl, rfl, by rw [hX.K]; exact ha, by rw [hX.K]; exact hb, by rw [← qa.length, ← qb.length]; exact hz, fun h0 => ?_, fun h0 h1 => ?_, fun h0 h1 p hp => ?_⟩
      · subst h0
        cases qa
        cases r2 with
        | tup z q => cases ey; exact hQ w H _ (Le.refl w) S (.tup z q)
        | ref hi => rcases der_ref (M := M) with q | ⟨xs, _, q⟩ <;> rw [q] at ey <;> cases ey
        | _ => cases ey
      · subst h1
        cases qb
        rw [List.append_nil] at hQ
        cases r1 with
        | tup z q => cases ex; exact hQ w H _ (Le.refl w) S (.tup z q)
        | ref hi => rcases der_ref (M := M) with q | ⟨xs, _, q⟩ <;> rw [q] at ex <;> cases ex
        | _ => cases ex
      · exact hQ _ _ _ (Le.addZ (S.zfree hp)) (S.addZ hp) (.tup (.inl upd_same) ((qa.append qb).mono (Le.addZ (S.zfree hp)).toR))
    · cases e
  · split at e
    · rename_i hz
      cases e
      obtain ⟨a, vs, rfl, ha, qa⟩ := der_lst S r1 ex
      obtain ⟨b, us, rfl, hb, qb⟩ := der_lst S r2 ey
      cases rx
      cases ry
      refine cat_rd ha hb (by rw [← qa.length, ← qb.length]; exact hz) (fun p hp => ?_) I
      exact hQ _ _ _ (Le.addZ (S.zfree hp)) (S.addZ hp) (.lst upd_same ((qa.append qb).mono (Le.addZ (S.zfree hp)).toR))
    · cases e
theorem opD_sub : OpD G X (binaryOp .Sub) fSub := by
  intro w M H dx dy d x y Q S r1 r2 e hQ pins s σ v u I rx ry
  unfold fSub at e
  cases dx <;> cases dy <;> simp only [reduceCtorEq] at e
  cases e
  have := int_of r1; subst this
  have := int_of r2; subst this
  exact op_sub pins s σ H _ _ v u Q I rx ry ⟨_, _, rfl, rfl, hQ w H _ (Le.refl w) S (.int _)⟩
theorem opD_div : OpD G X (binaryOp .FloorDiv) fDiv := by
  intro w M H dx dy d x y Q S r1 r2 e hQ pins s σ v u I rx ry
  unfold fDiv at e
  cases dx <;> cases dy <;> simp only [reduceCtorEq] at e
  split at e
  · rename_i hc
    cases e
    have := int_of r1; subst this
    have := int_of r2; subst this
    obtain ⟨t, rfl⟩ := rx
    obtain ⟨t', rfl⟩ := ry
    exact floordiv_int hc.1 ⟨.int _, H, I.tok _, ⟨_, rfl⟩, hQ w H _ (Le.refl w) S (.int _)⟩ (.inl hc.2)
  · cases e
theorem opD_mod : OpD G X (binaryOp .Mod) fMod := by
  intro w M H dx dy d x y Q S r1 r2 e hQ pins s σ v u I rx ry
  unfold fMod at e
  cases dx <;> cases dy <;> simp only [reduceCtorEq] at e
  split at e
  · rename_i hc
    cases e
    have := int_of r1; subst this
    have := int_of r2; subst this
    exact op_modN pins s σ H _ _ v u Q I rx ry ⟨_, _, rfl, rfl, hc, hQ w H _ (Le.refl w) S (.int _)⟩
  · cases e
theorem opD_pow : OpD G X (binaryOp .Pow) fPow := by
  intro w M H dx dy d x y Q S r1 r2 e hQ pins s σ v u I rx ry
  unfold fPow at e
  cases dx <;> cases dy <;> simp only [reduceCtorEq] at e
  split at e
  · rename_i hc
    cases e
    have := int_of r1; subst this
    have := int_of r2; subst this
    exact op_pow pins s σ H _ _ v u Q I rx ry ⟨_, _, rfl, rfl, hc, hQ w H _ (Le.refl w) S (.int _)⟩
  · cases e

theorem tuple_mul1 (l : Addr) (items : Array Value) (n : Nat) (dd : Option Addr) (sl : Array (Option Value)) (u : Tok) :
    Meets (Builtin.«tuple.__mul__» ⟨[.ref l, .int 1 u], []⟩) (fun _ R s => s.heap.get? l = some { cls := .type "tuple", dict := dd, data := .seq items n, slots := sl } ∧ R (.ok (.ret (Value.ref l))) s) :=
  .of_wp fun prog w A R s h => by
    obtain ⟨hp, g, d, tk, os⟩ := s
    obtain ⟨hl, h⟩ := h
    have f1 := AutoSeq1.idx_int
    have c1 : (items.isEmpty || (1 : Int) == 1) = true := by simp
    wp_walk using wpAny_loadPart' hl
    repeat (first
      | (refine wpAny_ite_false (by decide) ?_; wp_walk using wpAny_loadPart' hl)
      | (refine wpAny_ite_true (decide_eq_true c1) ?_; wp_walk using wpAny_loadPart' hl)
      | (rw [if_pos (by simp)]; wp_walk using wpAny_loadPart' hl))
    exact ⟨_, rfl, h⟩
theorem rep_tup1 {H : Hp} {l : Addr} {xs : List V} {t : Tok} {Q : VK} (hT : SqT X.K H l xs) (q : Q (.ref l) H) {pins : List (Addr × Obj)} {s : Shared} {σ : L2.St} (I : Inv X pins σ H s) :
    wpAny (model X.prog X.w) X.A (binaryOp .Mult (.ref l) (.int 1 t)) (EP X pins σ Q) X.xe s := by
  obtain ⟨its, r, ⟨⟨cls, dd, data, sl⟩, ho, hc, n, hd⟩, hs⟩ := I.tuple hT
  simp only at hc hd
  subst hc hd
  exact wpAny_binaryOp_repeat_ref (T := "tuple") (U := "int") (by decide) ⟨_, ho, rfl⟩ (fun s' => typeIs_int s' 1 t) noFill_tuple_mul F.fills_int_mul F.slot_int_rmul repeat_tuple F.slot_int_index.lookup
    (call_meets F.slot_int_rmul (typeIs_int s 1 t) F.entry_int_rmul (F.args_int_rmul_2 _ _) (int_rmul_tuple 1 t l its.toArray n dd sl)
      ⟨ho, rfl, ⟨_, ho, rfl⟩, call_meets F.slot_tuple_mul ⟨_, ho, rfl⟩ F.entry_tuple_mul (F.args_tuple_mul_2 _ _) (tuple_mul1 l its.toArray n dd sl t) ⟨ho, ⟨.ref l, H, I, rfl, q⟩⟩⟩)
theorem tuple_mul0 (l : Addr) (items : Array Value) (n : Nat) (dd : Option Addr) (sl : Array (Option Value)) (u : Tok) (hne : items.isEmpty = false) :
    Meets (Builtin.«tuple.__mul__» ⟨[.ref l, .int 0 u], []⟩) (fun _ R s => s.heap.get? l = some { cls := .type "tuple", dict := dd, data := .seq items n, slots := sl } ∧
      R (.ok (.ret (Value.ref s.heap.objs.size))) { s with heap := s.heap.push { cls := Value.type "tuple", data := Data.seq #[] }, toks := s.toks }) :=
  .of_wp fun prog w A R s h => by
    obtain ⟨hp, g, d, tk, os⟩ := s
    obtain ⟨hl, h⟩ := h
    have f1 := AutoSeq1.idx_int
    have z1 : (items.isEmpty || (0 : Int) == 1) = false := by rw [hne]; rfl
    have z2 : (decide ((0 : Int) ≤ 0) || items.isEmpty) = true := rfl
    wp_walk using wpAny_loadPart' hl
    repeat (first
      | (refine wpAny_ite_false (by decide) ?_; wp_walk using wpAny_loadPart' hl)
      | (refine wpAny_ite_false (decide_eq_false (by rw [z1]; exact Bool.false_ne_true)) ?_; wp_walk using wpAny_loadPart' hl)
      | (refine wpAny_ite_true (decide_eq_true z2) ?_; wp_walk using wpAny_loadPart' hl)
      | (rw [if_neg (by rw [z1]; exact Bool.false_ne_true)]; wp_walk using wpAny_loadPart' hl)
      | (rw [if_pos z2]; wp_walk using wpAny_loadPart' hl))
    exact ⟨_, rfl, h⟩
theorem rep_tup0 {H : Hp} {l : Addr} {xs : List V} {t : Tok} {Q : VK} (hT : SqT X.K H l xs) (hne : xs ≠ []) (q : ∀ p, H p = none → Q (.ref p) (upd H p (.tup []))) {pins : List (Addr × Obj)} {s : Shared} {σ : L2.St} (I : Inv X pins σ H s) :
    wpAny (model X.prog X.w) X.A (binaryOp .Mult (.ref l) (.int 0 t)) (EP X pins σ Q) X.xe s := by
  obtain ⟨its, r, ⟨⟨cls, dd, data, sl⟩, ho, hc, n, hd⟩, hs⟩ := I.tuple hT
  simp only at hc hd
  subst hc hd
  have hi : its.toArray.isEmpty = false := by
    cases its with
    | nil =>
      have := r.length
      exact absurd (List.eq_nil_of_length_eq_zero this) hne
    | cons a b => rfl
  refine wpAny_binaryOp_repeat_ref (T := "tuple") (U := "int") (by decide) ⟨_, ho, rfl⟩ (fun s' => typeIs_int s' 0 t) noFill_tuple_mul F.fills_int_mul F.slot_int_rmul repeat_tuple F.slot_int_index.lookup
    (call_meets F.slot_int_rmul (typeIs_int s 0 t) F.entry_int_rmul (F.args_int_rmul_2 _ _) (int_rmul_tuple 0 t l its.toArray n dd sl)
      ⟨ho, rfl, ⟨_, ho, rfl⟩, call_meets F.slot_tuple_mul ⟨_, ho, rfl⟩ F.entry_tuple_mul (F.args_tuple_mul_2 _ _) (tuple_mul0 l its.toArray n dd sl t hi) ⟨ho, ?_⟩⟩)
  refine ⟨.ref s.heap.objs.size, _, I.laid (t' := s.toks) (o := .tup []) (fun b ob w => Heap.get?_push_of_some _ w) (Nat.le_refl _) ?_, rfl, q _ (I.hok.fresh (Nat.le_refl _))⟩
  exact ⟨Nat.zero_le _, [], .nil, IsTup.new _ _⟩
end
end DI

set_option Elab.async false
set_option linter.all false
set_option maxRecDepth 100000
set_option maxHeartbeats 4000000
/-! DI4: products, comparisons, is, in. -/
namespace DI
open PySem PySem.Spec PyProof.Rows L2
section
variable {G : Gb} {X : Cx}
theorem rep_rd {H : Hp} {l : Addr} {k : Int} {t : Tok} {xs : List V} {Q : VK} (hH : Rd H l (.lst xs)) (h1 : -(2 ^ 63) ≤ k) (h2 : k < 2 ^ 63) (hz : xs.length * k.toNat ≤ sizeLine)
    (q : ∀ p, H p = none → Q (.ref p) (upd H p (.lst (List.replicate k.toNat xs).flatten))) {pins : List (Addr × Obj)} {s : Shared} {σ : L2.St} (I : Inv X pins σ H s) :
    wpAny (model X.prog X.w) X.A (binaryOp .Mult (.ref l) (.int k t)) (EP X pins σ Q) X.xe s := by
  obtain ⟨_, its, n, r, hl, e⟩ := rd_lst I hH
  have hlen : its.toArray.size * k.toNat ≤ sizeLine := by rw [List.size_toArray, ← hl]; exact hz
  have hcap : ¬ its.toArray.size * k.toNat > (2 ^ 63 - 1) / 8 := by
    have : (sizeLine : Nat) ≤ (2 ^ 63 - 1) / 8 := by decide
    omega
  have hfit : ¬ (!Builtin.List.listFitsIndex k) = true := by
    rw [fitsIndex_both h1 h2]
    exact Bool.false_ne_true
  have hlong : ¬ Builtin.List.listTooLong (its.toArray.size * k.toNat) = true := by
    rw [notLongL hlen]
    exact Bool.false_ne_true
  have hnew : List.foldl (fun x1 x2 => x1 ++ x2) #[] (List.replicate (if its.toArray.isEmpty = true then 0 else k.toNat) its.toArray) = (List.replicate k.toNat its).flatten.toArray := by
    have f0 : ∀ m : Nat, List.foldl (fun x1 x2 => x1 ++ x2) #[] (List.replicate m its.toArray) = (List.replicate m its).flatten.toArray := fun m => by
      have := foldl_rep its m []
      rw [List.nil_append] at this
      exact this
    rw [f0]
    cases its with
    | nil => simp
    | cons a r' => rw [if_neg (by simp)]
  refine wpAny_binaryOp_repeat_ref (T := "list") (U := "int") (by decide) ⟨_, e, rfl⟩ (fun s' => typeIs_int s' k t) noFill_list_mul F.fills_int_mul F.slot_int_rmul repeat_list F.slot_int_index.lookup
    (call_meets F.slot_int_rmul (typeIs_int s k t) F.entry_int_rmul (F.args_int_rmul_2 _ _) (int___rmul___int_list k t l its.toArray n)
      ⟨e, rfl, ⟨_, e, rfl⟩, call_meets F.slot_list_mul ⟨_, e, rfl⟩ F.entry_list_mul (F.args_list_mul_2 _ _) (AutoListH.list___mul___list_int_3 l its.toArray n k t hfit hcap hlong) ⟨e, ?_⟩⟩)
  rw [hnew]
  exact ⟨.ref _, _, I.lnew (t' := s.toks) (r.rep k.toNat) (by rw [PyProof.Rows.lm_len_rep_flat, Nat.mul_comm]; exact hz), rfl, q _ I.fresh⟩
theorem strRep_one (a : Str) : strRep a 1 = a := by
  unfold strRep
  simp [List.replicate]
theorem foldl_app {α : Type} : ∀ (n : Nat) (xs : Array α) (acc : List α), (List.replicate n xs).foldl (· ++ ·) acc.toArray = (acc ++ (List.replicate n xs.toList).flatten).toArray
  | 0, xs, acc => by simp
  | n + 1, xs, acc => by
    rw [List.replicate_succ, List.foldl_cons, show acc.toArray ++ xs = (acc ++ xs.toList).toArray by simp, foldl_app n xs, List.replicate_succ, List.flatten_cons, List.append_assoc]
theorem strRep_cps (a : Str) (n : Nat) : (strRep a n).cps.toList = (List.replicate n a.cps.toList).flatten := by
  unfold strRep
  have h := foldl_app n a.cps []
  simp only [List.nil_append] at h
  show (List.foldl _ #[] _).toList = _
  rw [h]
theorem strRep_length (a : Str) (n : Nat) : (strRep a n).length = n * a.length := by
  show (strRep a n).cps.size = n * a.cps.size
  rw [← Array.length_toList, strRep_cps, PyProof.Rows.lm_len_rep_flat, Array.length_toList]
theorem strRep_len {a : Str} {n : Nat} (h1 : a.length ≤ 1000) (h2 : n ≤ 1000) : (strRep a n).length ≤ sizeLine := by
  rw [strRep_length, sizeLine_eq]
  have := Nat.mul_le_mul h2 h1
  omega
theorem strRep_nil (n : Nat) : strRep ⟨#[]⟩ n = ⟨#[]⟩ := by
  unfold strRep
  congr 1
  induction n with
  | zero => rfl
  | succ n ih => simpa [List.replicate_succ] using ih
theorem opD_mul (hX : XG G X) : OpD G X (binaryOp .Mult) fMul := by
  intro w M H dx dy d x y Q S r1 r2 e hQ pins s σ v u I rx ry
  unfold fMul at e
  cases ex : der M dx <;> cases ey : der M dy <;> rw [ex, ey] at e <;> simp only [reduceCtorEq] at e
  · split at e
    · rename_i hc
      cases e
      have := der_int r1 ex; subst this
      have := der_int r2 ey; subst this
      obtain ⟨t, rfl⟩ := rx
      obtain ⟨t', rfl⟩ := ry
      exact mul_int ⟨.int _, H, I.tok _, ⟨_, rfl⟩, hQ w H _ (Le.refl w) S (.int _)⟩ hc
    · cases e
  · rename_i a i
    split at e
    · rename_i hc
      cases e
      have := der_str r1 ex; subst this
      have := der_int r2 ey; subst this
      obtain ⟨t, rfl⟩ := rx
      obtain ⟨t', rfl⟩ := ry
      refine PySem.P.mul_str (by rw [decide_eq_false (by omega), decide_eq_false (by omega)]; rfl) (fun _ h2 => ?_) (fun _ h2 => ?_) ?_
      · rw [Int.not_lt]
        have h3 : (1000 : Int) ≤ (2 ^ 63 - 1) / i := by
          rw [Int.le_ediv_iff_mul_le (by omega)]
          omega
        omega
      · show decide _ = false
        refine decide_eq_false ?_
        have a1 := Nat.mul_le_mul hc.2.2 (show i.toNat ≤ 1000 by omega)
        rw [Nat.not_lt]
        refine Nat.le_trans a1 ?_
        decide
      · rw [if_neg (by omega)]
        by_cases h1 : (i == 1 || a.length == 0) = true
        · rw [if_pos h1]
          have ea : strRep a i.toNat = a := by
            rcases Bool.or_eq_true_iff.mp h1 with q | q
            · have : i = 1 := by simpa using q
              subst this
              exact strRep_one a
            · have : a.cps = #[] := by
                have q' : a.cps.size = 0 := (show a.length = 0 by simpa using q)
                exact Array.eq_empty_of_size_eq_zero q'
              obtain ⟨c⟩ := a
              simp only at this
              subst this
              exact strRep_nil _
          rw [ea] at hQ
          exact ⟨.str a, H, I, ⟨_, rfl⟩, hQ w H _ (Le.refl w) S (.str _)⟩
        · rw [if_neg h1]
          exact ⟨strRep_len hc.2.2 (by omega), ⟨.str _, H, I.tok _, ⟨_, rfl⟩, hQ w H _ (Le.refl w) S (.str _)⟩⟩
    · cases e
  · split at e
    · rename_i k hc
      cases e
      obtain ⟨a, vs, rfl, ha, qa⟩ := der_tup S r1 ex
      have := der_int r2 ey; subst this
      by_cases h0 : k = 0
      · subst h0
        obtain ⟨t', rfl⟩ := ry
        cases rx
        refine rep_tup0 (by rw [hX.K]; exact ha) (fun z => ?_) (fun p hp => ?_) I
        · subst z; cases qa; simp at hc
        · have e0 : ∀ l : List D, (List.replicate (Int.toNat 0) l).flatten = [] := fun l => by simp
          rw [e0] at hQ
          exact hQ _ _ _ (Le.addZ (S.zfree hp)) (S.addZ hp) (.tup (.inl upd_same) .nil)
      by_cases hk : k = 1
      · subst hk
        obtain ⟨t', rfl⟩ := ry
        cases rx
        refine rep_tup1 (by rw [hX.K]; exact ha) ?_ I
        have e1 : ∀ l : List D, (List.replicate (Int.toNat 1) l).flatten = l := fun l => by simp
        rw [e1] at hQ
        cases r1 with
        | tup z q => cases ex; exact hQ w H _ (Le.refl w) S (.tup z q)
        | ref hi => rcases der_ref (M := M) with q | ⟨xs, _, q⟩ <;> rw [q] at ex <;> cases ex
        | _ => cases ex
      · refine op_repT pins s σ H _ _ v u Q I rx ry ⟨a, _, vs, rfl, rfl, by rw [hX.K]; exact ha, fun z => ?_, by omega, hc.2.1, by rw [← qa.length]; exact hc.2.2.2, fun p hp => ?_⟩
        · subst z; cases qa; simp at hc
        · exact hQ _ _ _ (Le.addZ (S.zfree hp)) (S.addZ hp) (.tup (.inl upd_same) ((qa.flat _).mono (Le.addZ (S.zfree hp)).toR))
    · cases e
  · split at e
    · rename_i k hc
      cases e
      obtain ⟨a, vs, rfl, ha, qa⟩ := der_lst S r1 ex
      have := der_int r2 ey; subst this
      obtain ⟨t', rfl⟩ := ry
      cases rx
      refine rep_rd ha (by omega) (by omega) ?_ (fun p hp => ?_) I
      · rw [← qa.length, sizeLine_eq]
        have a1 := Nat.mul_le_mul hc.2.2 (show k.toNat ≤ 1000 by omega)
        omega
      · exact hQ _ _ _ (Le.addZ (S.zfree hp)) (S.addZ hp) (.lst upd_same ((qa.flat _).mono (Le.addZ (S.zfree hp)).toR))
    · cases e
end
end DI

set_option Elab.async false
set_option linter.all false
set_option maxRecDepth 100000
set_option maxHeartbeats 4000000
/-! DI5: comparisons. -/
namespace DI
open PySem PySem.Spec PyProof.Rows L2
mutual
def toPy : D → Option PyData
  | .non => some .none
  | .bl b => some (.bool b)
  | .int i => some (.int i)
  | .str x => some (.str x)
  | .tup xs => (toPys xs).map .tuple
  | .lst xs => (toPys xs).map .list
  | .exc _ _ _ => none
  | .fn _ => none
  | .ty _ => none
  | .ref _ => none
  | .cl _ => none
  | .scr _ => none
def toPys : List D → Option (List PyData)
  | [] => some []
  | x :: xs => match toPy x, toPys xs with
    | some a, some b => some (a :: b)
    | _, _ => none
end
section
variable {G : Gb} {X : Cx} {w : Wd} {H : Hp} {M : Mem}
mutual
theorem dp_of (S : Sim0 G w H M) : ∀ {d : D} {v : V} {p : PyData}, Rep G w d v → toPy d = some p → Dp G.K H v p
  | _, _, _, .non, e => by simp only [toPy, Option.some.injEq] at e; subst e; exact .non
  | _, _, _, .bl b, e => by simp only [toPy, Option.some.injEq] at e; subst e; exact .bl b
  | _, _, _, .int b, e => by simp only [toPy, Option.some.injEq] at e; subst e; exact .int b
  | _, _, _, .str b, e => by simp only [toPy, Option.some.injEq] at e; subst e; exact .str b
  | _, _, _, .tup z r, e => by
    simp only [toPy, Option.map_eq_some_iff] at e
    obtain ⟨ps, e1, e2⟩ := e
    subst e2
    exact .tup (z.sq S.z) (dps_of S r e1)
  | _, _, _, .lst z r, e => by
    simp only [toPy, Option.map_eq_some_iff] at e
    obtain ⟨ps, e1, e2⟩ := e
    subst e2
    exact .lst (.inl (z.rd S.z)) (dps_of S r e1)
  | _, _, _, .exc _ _ _ _, e => by simp only [toPy, reduceCtorEq] at e
  | _, _, _, .fn _ _, e => by simp only [toPy, reduceCtorEq] at e
  | _, _, _, .ty _, e => by simp only [toPy, reduceCtorEq] at e
  | _, _, _, .ref _, e => by simp only [toPy, reduceCtorEq] at e
  | _, _, _, .cl _ _ _, e => by simp only [toPy, reduceCtorEq] at e
  | _, _, _, .scr _, e => by simp only [toPy, reduceCtorEq] at e
theorem dps_of (S : Sim0 G w H M) : ∀ {ds : List D} {vs : List V} {ps : List PyData}, Reps G w ds vs → toPys ds = some ps → DpAll G.K H vs ps
  | _, _, _, .nil, e => by simp only [toPys, Option.some.injEq] at e; subst e; exact .nil
  | _, _, _, .cons (d := d) (ds := ds) a b, e => by
    cases e1 : toPy d with
    | none => simp only [toPys, e1, reduceCtorEq] at e
    | some p =>
      cases e2 : toPys ds with
      | none => simp only [toPys, e1, e2, reduceCtorEq] at e
      | some ps' =>
        simp only [toPys, e1, e2, Option.some.injEq] at e
        subst e
        exact .cons (dp_of S a e1) (dps_of S b e2)
end
/-- a value read as data, at the top a list that may change, too -/
theorem dp_der (S : Sim0 G w H M) {d : D} {v : V} {p : PyData} (r : Rep G w d v) (e : toPy (der M d) = some p) : Dp G.K H v p := by
  have h0 : ∀ {d : D}, Rep G w d v → (∀ i, d ≠ .ref i) → toPy (der M d) = some p → Dp G.K H v p := fun {d} r hn e => by
    have : der M d = d := by cases d <;> first | rfl | exact absurd rfl (hn _)
    rw [this] at e
    exact dp_of S r e
  by_cases hd : ∀ i, d ≠ .ref i
  · exact h0 r hd e
  · obtain ⟨i, hi⟩ := Classical.not_forall.mp hd
    have hi := Classical.not_not.mp hi
    subst hi
    rcases der_ref (M := M) (i := i) with q | ⟨xs, _, q⟩
    · rw [q] at e
      simp only [toPy, reduceCtorEq] at e
    · obtain ⟨a, vs, rfl, h1, h2⟩ := der_lst S r q
      rw [q] at e
      simp only [toPy, Option.map_eq_some_iff] at e
      obtain ⟨ps, e2, e3⟩ := e
      subst e3
      exact .lst (.inl h1) (dps_of S h2 e2)
end
/-! ### == -/
def eqD (M : Mem) (x y : D) : Option Bool := match toPy (der M x), toPy (der M y) with
  | some a, some b => if SeqAt.shaped a = true ∧ SeqAt.shaped b = true then some (PyData.eqv a b) else none
  | _, _ => none
def fEq (M : Mem) (x y : D) : Option D := (eqD M x y).map .bl
def fNe (M : Mem) (x y : D) : Option D := (eqD M x y).map fun b => .bl (!b)
def cmpD (f : Int → Int → Bool) (g : List Nat → List Nat → Bool) (x y : D) : Option D := match x, y with
  | .int i, .int j => some (.bl (f i j))
  | .str a, .str b => some (.bl (g a.cps.toList b.cps.toList))
  | _, _ => none
def fLt (_ : Mem) : D → D → Option D := cmpD (fun i j => decide (i < j)) fun a b => decide (a < b)
def fLe (_ : Mem) : D → D → Option D := cmpD (fun i j => decide (i ≤ j)) fun a b => !decide (b < a)
def fGt (_ : Mem) : D → D → Option D := cmpD (fun i j => decide (j < i)) fun a b => decide (b < a)
def fGe (_ : Mem) : D → D → Option D := cmpD (fun i j => decide (j ≤ i)) fun a b => !decide (a < b)
/-- x in y -/
def inD (M : Mem) (x y : D) : Option Bool := match der M y with
  | .lst ys => match toPy x, toPys ys with
    | some a, some bs => if SeqAt.shaped a = true ∧ SeqAt.shaped (.list bs) = true then some (bs.any fun z => PyData.eqv z a) else none
    | _, _ => none
  | .tup ys => match toPy x, toPys ys with
    | some a, some bs => if SeqAt.shaped a = true ∧ SeqAt.shaped (.list bs) = true then some (bs.any fun z => PyData.eqv z a) else none
    | _, _ => none
  | .str z => match x with
    | .str ⟨⟨[c]⟩⟩ => some (decide (c ∈ z.cps.toList))
    | _ => none
  | _ => none
def fIn (M : Mem) (x y : D) : Option D := (inD M x y).map .bl
def fNotIn (M : Mem) (x y : D) : Option D := (inD M x y).map fun b => .bl (!b)
def isD (x y : D) : Option Bool := match y with
  | .non => match x with
    | .non => some true
    | .fn _ => none
    | _ => some false
  | .bl b => match x with
    | .bl a => some (decide (a = b))
    | _ => none
  | _ => none
def fIs (_ : Mem) (x y : D) : Option D := (isD x y).map .bl
def fIsNot (_ : Mem) (x y : D) : Option D := (isD x y).map fun b => .bl (!b)
section
variable {G : Gb} {X : Cx}
theorem eqD_of {M : Mem} {dx dy : D} {b : Bool} (e : eqD M dx dy = some b) : ∃ p q, toPy (der M dx) = some p ∧ toPy (der M dy) = some q ∧ SeqAt.shaped p = true ∧ SeqAt.shaped q = true ∧ PyData.eqv p q = b := by
  unfold eqD at e
  split at e
  · rename_i p q e1 e2
    split at e
    · rename_i hs
      cases e
      exact ⟨p, q, e1, e2, hs.1, hs.2, rfl⟩
    · cases e
  · cases e
theorem opD_eq (hX : XG G X) : OpD G X (compareOp .Eq) fEq := by
  intro w M H dx dy d x y Q S r1 r2 e hQ pins s σ v u I rx ry
  obtain ⟨b, e1, e2⟩ := Option.map_eq_some_iff.mp e
  subst e2
  obtain ⟨p, q, h1, h2, h3, h4, h5⟩ := eqD_of e1
  subst h5
  exact op_eqD (by have := hX.un; omega) pins s σ H x y v u Q I rx ry ⟨p, q, by rw [hX.K]; exact dp_der S r1 h1, by rw [hX.K]; exact dp_der S r2 h2, h3, h4, hQ w H _ (Le.refl w) S (.bl _)⟩
theorem opD_ne (hX : XG G X) : OpD G X (compareOp .NotEq) fNe := by
  intro w M H dx dy d x y Q S r1 r2 e hQ pins s σ v u I rx ry
  obtain ⟨b, e1, e2⟩ := Option.map_eq_some_iff.mp e
  subst e2
  obtain ⟨p, q, h1, h2, h3, h4, h5⟩ := eqD_of e1
  subst h5
  exact op_neD (by have := hX.un; omega) pins s σ H x y v u Q I rx ry ⟨p, q, by rw [hX.K]; exact dp_der S r1 h1, by rw [hX.K]; exact dp_der S r2 h2, h3, h4, hQ w H _ (Le.refl w) S (.bl _)⟩
theorem opD_cmp {op : CmpOp} {f : Int → Int → Bool} {g : List Nat → List Nat → Bool} (h1 : OpR X (compareOp op) (rI0 fun i j => .bl (f i j))) (h2 : OpR X (compareOp op) (fun x y H Q => ∃ i j, x = .str i ∧ y = .str j ∧ Q (.bl (g i.cps.toList j.cps.toList)) H)) :
    OpD G X (compareOp op) (fun _ => cmpD f g) := by
  intro w M H dx dy d x y Q S r1 r2 e hQ pins s σ v u I rx ry
  unfold cmpD at e
  cases dx <;> cases dy <;> simp only [reduceCtorEq] at e
  · cases e
    have := int_of r1; subst this
    have := int_of r2; subst this
    exact h1 pins s σ H _ _ v u Q I rx ry ⟨_, _, rfl, rfl, hQ w H _ (Le.refl w) S (.bl _)⟩
  · cases e
    have := str_of r1; subst this
    have := str_of r2; subst this
    exact h2 pins s σ H _ _ v u Q I rx ry ⟨_, _, rfl, rfl, hQ w H _ (Le.refl w) S (.bl _)⟩
theorem opD_lt : OpD G X (compareOp .Lt) fLt := opD_cmp op_lt op_lt_str
theorem opD_le : OpD G X (compareOp .LtE) fLe := opD_cmp op_le op_le_str
theorem opD_gt : OpD G X (compareOp .Gt) fGt := opD_cmp op_gt op_gt_str
theorem opD_ge : OpD G X (compareOp .GtE) fGe := opD_cmp op_ge op_ge_str
theorem isD_non {x : D} {v : V} {w : Wd} {b : Bool} (r : Rep G w x v) (e : isD x .non = some b) : decide (v = .non) = b := by
  unfold isD at e
  cases r with
  | fn h1 h2 => cases e
  | _ => cases e; simp
theorem opD_is : OpD G X (compareOp .Is) fIs := by
  intro w M H dx dy d x y Q S r1 r2 e hQ pins s σ v u I rx ry
  obtain ⟨b, e1, e2⟩ := Option.map_eq_some_iff.mp e
  subst e2
  cases r2 with
  | non =>
    have h := isD_non r1 e1
    exact op_isN pins s σ H x _ v u Q I rx ry ⟨rfl, by rw [h]; exact hQ w H _ (Le.refl w) S (.bl _)⟩
  | bl c =>
    unfold isD at e1
    cases r1 <;> simp only [reduceCtorEq] at e1
    cases e1
    exact op_isBl pins s σ H _ _ v u Q I rx ry ⟨_, _, rfl, rfl, hQ w H _ (Le.refl w) S (.bl _)⟩
  | _ => cases e1
theorem opD_isNot : OpD G X (compareOp .IsNot) fIsNot := by
  intro w M H dx dy d x y Q S r1 r2 e hQ pins s σ v u I rx ry
  obtain ⟨b, e1, e2⟩ := Option.map_eq_some_iff.mp e
  subst e2
  cases r2 with
  | non =>
    have h := isD_non r1 e1
    exact op_notN pins s σ H x _ v u Q I rx ry ⟨rfl, by rw [h]; exact hQ w H _ (Le.refl w) S (.bl _)⟩
  | bl c =>
    unfold isD at e1
    cases r1 <;> simp only [reduceCtorEq] at e1
    cases e1
    exact op_notBl pins s σ H _ _ v u Q I rx ry ⟨_, _, rfl, rfl, hQ w H _ (Le.refl w) S (.bl _)⟩
  | _ => cases e1
theorem inD_of {M : Mem} {dx dy : D} {b : Bool} (e : inD M dx dy = some b) :
    (∃ ys p ps, (der M dy = .lst ys ∨ der M dy = .tup ys) ∧ toPy dx = some p ∧ toPys ys = some ps ∧ SeqAt.shaped p = true ∧ SeqAt.shaped (.list ps) = true ∧ (ps.any fun z => PyData.eqv z p) = b) ∨
    ∃ z c, der M dy = .str z ∧ dx = .str ⟨⟨[c]⟩⟩ ∧ decide (c ∈ z.cps.toList) = b := by
  unfold inD at e
  split at e
  · rename_i ys ey
    split at e
    · rename_i p ps e1 e2
      split at e
      · rename_i hs
        cases e
        exact .inl ⟨ys, p, ps, .inl ey, e1, e2, hs.1, hs.2, rfl⟩
      · cases e
    · cases e
  · rename_i ys ey
    split at e
    · rename_i p ps e1 e2
      split at e
      · rename_i hs
        cases e
        exact .inl ⟨ys, p, ps, .inr ey, e1, e2, hs.1, hs.2, rfl⟩
      · cases e
    · cases e
  · rename_i z ey
    split at e
    · cases e
      exact .inr ⟨z, _, ey, rfl, rfl⟩
    · cases e
  · cases e
theorem opD_in (hX : XG G X) : OpD G X (compareOp .In) fIn := by
  intro w M H dx dy d x y Q S r1 r2 e hQ pins s σ v u I rx ry
  obtain ⟨b, e1, e2⟩ := Option.map_eq_some_iff.mp e
  subst e2
  have q := hQ w H _ (Le.refl w) S (.bl _)
  rcases inD_of e1 with ⟨ys, p, ps, hy, h1, h2, h3, h4, h5⟩ | ⟨z, c, hy, h1, h2⟩
  · subst h5
    obtain ⟨as, q1⟩ := Dp.reads I p x v (by rw [hX.K]; exact dp_of S r1 h1) rx
    rcases hy with hy | hy
    · obtain ⟨a, vs, rfl, k1, k2⟩ := der_lst S r2 hy
      exact op_inD hX.un pins s σ H x _ v u Q I rx ry ⟨p, ps, by rw [hX.K]; exact dp_of S r1 h1, .lst (.inl k1) (by rw [hX.K]; exact dps_of S k2 h2), h3, h4, q⟩
    · obtain ⟨a, vs, rfl, k1, k2⟩ := der_tup S r2 hy
      obtain ⟨bs, q2⟩ := Dp.reads I (.tuple ps) _ u (.tup (by rw [hX.K]; exact k1) (by rw [hX.K]; exact dps_of S k2 h2)) ry
      have h4' : PyData.canLayAll0 ps = true := SeqAt.canLay_of_shaped h4
      exact SeqAt.in_tuple_reads q2 q1 h4' (SeqAt.canLay_of_shaped h3) (room_in_shaped h3 hX.un) ⟨.bl _, H, I, rfl, q⟩
  · subst h1 h2
    have := der_str r2 hy; subst this
    have := str_of r1; subst this
    exact op_in_sign pins s σ H _ _ v u Q I rx ry ⟨c, z, rfl, rfl, q⟩
theorem opD_notIn (hX : XG G X) : OpD G X (compareOp .NotIn) fNotIn := by
  intro w M H dx dy d x y Q S r1 r2 e hQ pins s σ v u I rx ry
  obtain ⟨b, e1, e2⟩ := Option.map_eq_some_iff.mp e
  subst e2
  have q := hQ w H _ (Le.refl w) S (.bl _)
  rcases inD_of e1 with ⟨ys, p, ps, hy, h1, h2, h3, h4, h5⟩ | ⟨z, c, hy, h1, h2⟩
  · subst h5
    obtain ⟨as, q1⟩ := Dp.reads I p x v (by rw [hX.K]; exact dp_of S r1 h1) rx
    rcases hy with hy | hy
    · obtain ⟨a, vs, rfl, k1, k2⟩ := der_lst S r2 hy
      exact op_notInD hX.un pins s σ H x _ v u Q I rx ry ⟨p, ps, by rw [hX.K]; exact dp_of S r1 h1, .lst (.inl k1) (by rw [hX.K]; exact dps_of S k2 h2), h3, h4, q⟩
    · obtain ⟨a, vs, rfl, k1, k2⟩ := der_tup S r2 hy
      obtain ⟨bs, q2⟩ := Dp.reads I (.tuple ps) _ u (.tup (by rw [hX.K]; exact k1) (by rw [hX.K]; exact dps_of S k2 h2)) ry
      have h4' : PyData.canLayAll0 ps = true := SeqAt.canLay_of_shaped h4
      exact SeqAt.notIn_tuple_reads q2 q1 h4' (SeqAt.canLay_of_shaped h3) (room_in_shaped h3 hX.un) ⟨.bl _, H, I, rfl, q⟩
  · subst h1 h2
    have := der_str r2 hy; subst this
    have := str_of r1; subst this
    exact op_notIn_sign pins s σ H _ _ v u Q I rx ry ⟨c, z, rfl, rfl, q⟩
/-- -x -/
theorem pd_neg {W : WX} {own : Option (List (Str × Addr))} {e : Expr} {pos : Pos} {a : EvE} (h : PE X e (tE G W own a)) : PE X (.UnaryOp .USub e pos) (tE G W own (cUn fNeg a)) :=
  PE_imp (pe_un un_neg h) fun σ H Q h => by
    obtain ⟨w, env, M, S, E, h⟩ := h
    refine tG_bind (g := fun x M1 => opt (fNeg M1 x) M1) S E h fun d M1 w1 H1 v l1 S1 E1 r1 h1 => ?_
    cases r1 with
    | int i => exact ⟨i, rfl, h1 w1 H1 _ (Le.refl _) S1 (.int _)⟩
    | _ => exact h1.elim
end
end DI

set_option Elab.async false
set_option linter.all false
set_option maxRecDepth 100000
set_option maxHeartbeats 4000000
/-! DI6: places, cuts. -/
namespace DI
open PySem PySem.Spec PyProof.Rows L2
/-- what a dict holds at a key -/
def atK (kvs : List (Key × D)) (k : Key) : Option D := (kvs.find? fun kv => decide (kv.1 = k)).map (·.2)
def keyD : D → Option Key
  | .int i => some (.inl i)
  | .str x => some (.inr x)
  | _ => none
def dctOf (M : Mem) : D → Option (List (Key × D))
  | .ref i => match M[i]? with
    | some (.dct kvs) => some kvs
    | _ => none
  | _ => none
noncomputable def fIx (M : Mem) (x y : D) : Option D := match der M x, y with
  | .lst ds, .int i => atI ds i
  | .tup ds, .int i => atI ds i
  | .str z, .int i => if z.length ≤ sizeLine then (atI z.cps.toList i).map fun c => .str ⟨#[c]⟩ else none
  | .ref i, y => match dctOf M (.ref i), keyD y with
    | some kvs, some k => atK kvs k
    | _, _ => none
  | _, _ => none
section
variable {G : Gb} {X : Cx} {w : Wd} {M : Mem} {H : Hp}
theorem key_of_rep {y : D} {k : Key} {v : V} (r : Rep G w y v) (e : keyD y = some k) : v = kV k := by
  cases r <;> simp only [keyD, Option.some.injEq, reduceCtorEq] at e <;> subst e <;> rfl
theorem repK_at : ∀ {kvs : List (Key × D)} {vs : List (Key × V)} {k : Key} {d : D}, RepK G w kvs vs → atK kvs k = some d → ∃ v, valV vs k = some v ∧ Rep G w d v
  | _, _, _, _, .nil, e => by simp [atK] at e
  | _, _, k, d, .cons (k := k0) (d := d0) (kvs := kvs) (v := v0) (vs := vs) a b, e => by
    by_cases h : k0 = k
    · have e' : some d0 = some d := by
        rw [← e]
        simp [atK, List.find?_cons, h]
      cases e'
      exact ⟨v0, valV_pos h, a⟩
    · have e' : atK kvs k = some d := by
        rw [← e]
        simp [atK, List.find?_cons, h]
      obtain ⟨v, h1, h2⟩ := repK_at b e'
      exact ⟨v, by rw [valV_neg h]; exact h1, h2⟩
theorem dct_of (S : Sim0 G w H M) {d : D} {v : V} {kvs : List (Key × D)} (r : Rep G w d v) (e : dctOf M d = some kvs) : ∃ i vs, d = .ref i ∧ i < w.n ∧ M[i]? = some (.dct kvs) ∧ v = .ref (w.r i) ∧ w.P (w.r i) = none ∧ H (w.r i) = some (.dK vs) ∧ RepK G (w.cut i) kvs vs := by
  cases r <;> simp only [dctOf, reduceCtorEq] at e
  rename_i i hi
  cases e1 : M[i]? with
  | none => rw [e1] at e; cases e
  | some o =>
    rw [e1] at e
    cases o with
    | dct k2 =>
      cases e
      obtain ⟨h0, vs, h1, h2⟩ := S.m i _ e1
      exact ⟨i, vs, rfl, hi, e1, rfl, h0, h1, h2⟩
    | _ => cases e
theorem atI_rep {ds : List D} {vs : List V} {i : Int} {d : D} (r : Reps G w ds vs) (e : atI ds i = some d) : ∃ v, atI vs i = some v ∧ Rep G w d v := by
  unfold atI at e ⊢
  rw [← r.length]
  cases h : ixN ds.length i with
  | none => rw [h] at e; cases e
  | some j =>
    rw [h] at e
    exact r.get e
/-- d[y] -/
theorem ix_dict (hu : X.A.units + 1 < cLine) : IxR X (fun x y H Q => ∃ a v, x = .ref a ∧ DGet H a y (some v) ∧ Q v H) := by
  intro value slice pins s σ H x y v u Q I rx ry h hs
  obtain ⟨a, z, rfl, g, q⟩ := h
  cases rx
  have hT := dict_typeIs I g
  unfold subscriptTail
  refine wpAny_bind ?_
  rw [getitemInPython_of_ne hT.not_modules]
  refine wpAny_bind (wpAny_specialOf hT PySem.F.slot_dict_getitem.lookup ?_)
  have fin : wpAny (model X.prog X.w) X.A (subscripted slice false (.ref a) u) (fun r s₃ => wpAny (model X.prog X.w) X.A (letTemporaryGo value (.ref a) r >>= fun _ => pure r) (EP X pins σ Q) X.xe s₃) X.xe s := by
    rw [hs]
    exact wpAny_operating (wpAny_mono (d_getItem hu I g ry fun w' s3 I3 rw' => (⟨z, H, I3, rw', q⟩ : EP X pins σ Q w' s3)) (fun r s₃ h₃ => wpAny_bind (wpAny_letTemporaryGo (wpAny_pure h₃))) fun _ _ x => x)
  first
    | exact wpAny_pure (wpAny_bind fin)
    | exact wpAny_bind (wpAny_pure (wpAny_bind fin))
    | exact wpAny_bind fin
theorem ixD (hX : XG G X) : IxR X (rOf G fIx) := by
  intro value slice pins s σ H x y v u Q I rx ry h hs
  obtain ⟨w, M, dx, dy, d, S, r1, r2, e, hQ⟩ := h
  unfold fIx at e
  split at e
  · rename_i ds i ex
    have := int_of r2; subst this
    obtain ⟨a, vs, rfl, h1, h2⟩ := der_lst S r1 ex
    obtain ⟨z, k1, k2⟩ := atI_rep h2 e
    exact ix_list value slice pins s σ H _ _ v u Q I rx ry ⟨a, vs, i, z, rfl, rfl, .inl h1, k1, hQ w H _ (Le.refl w) S k2⟩ hs
  · rename_i ds i ex
    have := int_of r2; subst this
    obtain ⟨a, vs, rfl, h1, h2⟩ := der_tup S r1 ex
    obtain ⟨z, k1, k2⟩ := atI_rep h2 e
    exact ix_tup value slice pins s σ H _ _ v u Q I rx ry ⟨a, vs, i, z, rfl, rfl, by rw [hX.K]; exact h1, k1, hQ w H _ (Le.refl w) S k2⟩ hs
  · rename_i z i ex
    have := int_of r2; subst this
    split at e
    · rename_i hz
      obtain ⟨c, e1, e2⟩ := Option.map_eq_some_iff.mp e
      subst e2
      have := der_str r1 ex; subst this
      exact ix_str value slice pins s σ H _ _ v u Q I rx ry ⟨z, i, c, rfl, rfl, hz, e1, hQ w H _ (Le.refl w) S (.str _)⟩ hs
    · cases e
  · rename_i i ex
    split at e
    · rename_i kvs k e1 e2
      have hd : dx = .ref i := by
        cases dx <;> first
          | (rcases der_ref (M := M) with q | ⟨xs, _, q⟩ <;> rw [q] at ex <;> cases ex <;> rfl)
          | cases ex
      rw [← hd] at e1
      obtain ⟨j, vs, h1, h2, h3, rfl, h4, h5, h6⟩ := dct_of S r1 e1
      have := key_of_rep r2 e2; subst this
      obtain ⟨z, k1, k2⟩ := repK_at h6 e
      exact ix_dict (by have := hX.un; omega) value slice pins s σ H _ _ v u Q I rx ry ⟨_, z, rfl, by rw [← k1]; exact DGet.k h5, hQ w H _ (Le.refl w) S (k2.mono (.ofCut w (Nat.le_of_lt h2)))⟩ hs
    · cases e
  · cases e
theorem pd_ix {W : WX} {own : Option (List (Str × Addr))} {ea eb : Expr} {pos : Pos} {a b : EvE} (hX : XG G X) (ha : PE X ea (tE G W own a)) (hb : PE X eb (tE G W own b)) (hs : PlainIx eb) : PE X (.Subscript ea eb pos) (tE G W own (cBin fIx a b)) :=
  PE_imp (pe_ix (ixD hX) ha hb hs) fun _ _ _ => tOp_of

/-! ### cuts -/
def cutD {α : Type} (xs : List α) (lo hi : Option Int) : List α := (xs.drop (HT.sIx xs.length 0 lo)).take (HT.sIx xs.length xs.length hi - HT.sIx xs.length 0 lo)
noncomputable def fSl (M : Mem) (x : D) (lo hi : Option Int) : Option D := match der M x with
  | .lst ds => some (.lst (cutD ds lo hi))
  | .tup ds => some (.tup (cutD ds lo hi))
  | .str z => if z.length ≤ sizeLine then some (.str (cutS z lo hi)) else none
  | _ => none
theorem cut_rep {ds : List D} {vs : List V} (r : Reps G w ds vs) (lo hi : Option Int) : Reps G w (cutD ds lo hi) (cutV vs lo hi) := by
  unfold cutD cutV
  rw [← r.length]
  exact (r.drop _).take _
def rSlOf (G : Gb) : V → Option Int → Option Int → Hp → VK → Prop := fun x lo hi H Q => ∃ w M dx d, Sim0 G w H M ∧ Rep G w dx x ∧ fSl M dx lo hi = some d ∧ ∀ w' H' v, Le w w' → Sim0 G w' H' M → Rep G w' d v → Q v H'
theorem slD (hX : XG G X) : SlR X (rSlOf G) := by
  intro pins s σ H x v vl vu lo hi sl Q I rx hs pl pu h
  obtain ⟨w, M, dx, d, S, r1, e, hQ⟩ := h
  unfold fSl at e
  split at e
  · rename_i ds ex
    cases e
    obtain ⟨a, vs, rfl, h1, h2⟩ := der_lst S r1 ex
    exact sl_list pins s σ H _ v vl vu lo hi sl Q I rx hs pl pu ⟨a, vs, rfl, .inl h1, fun p hp => hQ _ _ _ (Le.addZ (S.zfree hp)) (S.addZ hp) (.lst upd_same ((cut_rep h2 lo hi).mono (Le.addZ (S.zfree hp)).toR))⟩
  · rename_i ds ex
    cases e
    obtain ⟨a, vs, rfl, h1, h2⟩ := der_tup S r1 ex
    refine sl_tupA pins s σ H _ v vl vu lo hi sl Q I rx hs pl pu ⟨a, vs, rfl, by rw [hX.K]; exact h1, fun hw => ?_, fun _ p hp => hQ _ _ _ (Le.addZ (S.zfree hp)) (S.addZ hp) (.tup (.inl upd_same) ((cut_rep h2 lo hi).mono (Le.addZ (S.zfree hp)).toR))⟩
    have e1 : cutD ds lo hi = ds := by
      unfold cutD
      rw [h2.length, hw.1, hw.2, ← h2.length]
      simp
    rw [e1] at hQ
    cases r1 with
    | tup z q => cases ex; exact hQ w H _ (Le.refl w) S (.tup z q)
    | ref hi => rcases der_ref (M := M) with q | ⟨xs, _, q⟩ <;> rw [q] at ex <;> cases ex
    | _ => cases ex
  · rename_i z ex
    split at e
    · rename_i hz
      cases e
      have := der_str r1 ex; subst this
      exact sl_str pins s σ H _ v vl vu lo hi sl Q I rx hs pl pu ⟨z, rfl, hz, hQ w H _ (Le.refl w) S (.str _)⟩
    · cases e
  · cases e
/-- a part of a cut -/
abbrev EvO := En → Mem → Res (Option Int)
def cNo : EvO := fun _ M => .ok none M
def isI : D → Option Int
  | .int i => some i
  | _ => none
def cPart (a : EvE) : EvO := fun env M => (a env M).bind fun x M1 => (opt (isI x) M1).bind fun i M2 => .ok (some i) M2
abbrev tO (G : Gb) (W : WX) (own : Option (List (Str × Addr))) (f : EvO) : TO := tG G W own (fun _ (a b : Option Int) => a = b) f
theorem pod_none {W : WX} {own : Option (List (Str × Addr))} : PO X none (tO G W own cNo) := ⟨fun pins s σ H Q I h => po_none.run pins s σ H Q I (by
  obtain ⟨w, env, M, S, E, h⟩ := h
  exact h w H _ (Le.refl w) S rfl)⟩
theorem pod_some {W : WX} {own : Option (List (Str × Addr))} {e : Expr} {a : EvE} (h : PE X e (tE G W own a)) : PO X (some e) (tO G W own (cPart a)) := ⟨fun pins s σ H Q I q => (po_some h).run pins s σ H Q I (by
  obtain ⟨w, env, M, S, E, q⟩ := q
  refine tG_bind (g := fun x M1 => (opt (isI x) M1).bind fun i M2 => .ok (some i) M2) S E q fun d M1 w1 H1 v l1 S1 E1 r1 h1 => ?_
  cases r1 with
  | int i => exact ⟨i, rfl, h1 w1 H1 _ (Le.refl _) S1 rfl⟩
  | _ => exact h1.elim)⟩
noncomputable def cSl (a : EvE) (lo hi : EvO) : EvE := fun env M => (a env M).bind fun x M1 => (lo env M1).bind fun l M2 => (hi env M2).bind fun h M3 => opt (fSl M3 x l h) M3
theorem pd_slice {W : WX} {own : Option (List (Str × Addr))} {e : Expr} {el eh : Option Expr} {p2 pos : Pos} {a : EvE} {lo hi : EvO} (hX : XG G X) (he : PE X e (tE G W own a)) (hl : PO X el (tO G W own lo)) (hu : PO X eh (tO G W own hi)) :
    PE X (.Subscript e (.Slice el eh none p2) pos) (tE G W own (cSl a lo hi)) :=
  PE_imp (pe_slice (slD hX) he hl hu) fun σ H Q h => by
    obtain ⟨w, env, M, S, E, h⟩ := h
    refine tG_bind (g := fun x M1 => (lo env M1).bind fun l M2 => (hi env M2).bind fun h M3 => opt (fSl M3 x l h) M3) S E h fun dx M1 w1 H1 x l1 S1 E1 r1 h1 => ?_
    refine tG_bind (g := fun l M2 => (hi env M2).bind fun h M3 => opt (fSl M3 dx l h) M3) S1 E1 h1 fun l M2 w2 H2 l' l2 S2 E2 r2 h2 => ?_
    subst r2
    refine tG_bind (g := fun h M3 => opt (fSl M3 dx l h) M3) S2 E2 h2 fun hh M3 w3 H3 h' l3 S3 E3 r3 h3 => ?_
    subst r3
    cases e : fSl M3 dx l hh with
    | none => rw [e] at h3; exact h3.elim
    | some d =>
      rw [e] at h3
      exact ⟨w3, M3, dx, d, S3, r1.mono (l2.trans l3).toR, e, h3⟩
end
end DI

set_option Elab.async false
set_option linter.all false
set_option maxRecDepth 100000
set_option maxHeartbeats 4000000
/-! DI7: built-in functions upon values. -/
namespace DI
open PySem PySem.Spec PyProof.Rows L2
def CallD (G : Gb) (X : Cx) (f : Value) (g : Mem → List D → Option D) : Prop :=
  ∀ (w : Wd) (M : Mem) (H : Hp) (ds : List D) (d : D) (vs : List V) (Q : VK), Sim0 G w H M → Reps G w ds vs → g M ds = some d → (∀ w' H' v, Le w w' → Sim0 G w' H' M → Rep G w' d v → Q v H') →
    ∀ (pins : List (Addr × Obj)) (s : Shared) (σ : L2.St) (us : List Value), Inv X pins σ H s → Vals vs us → wpAny (model X.prog X.w) X.A (call f us) (EP X pins σ Q) X.xe s
def rCd (G : Gb) (g : Mem → List D → Option D) : List V → Hp → VK → Prop := fun vs H Q => ∃ w M ds d, Sim0 G w H M ∧ Reps G w ds vs ∧ g M ds = some d ∧ ∀ w' H' v, Le w w' → Sim0 G w' H' M → Rep G w' d v → Q v H'
theorem CallD.callR {G : Gb} {X : Cx} {f : Value} {g : Mem → List D → Option D} (h : CallD G X f g) : CallR X f (rCd G g) := by
  intro pins s σ H vs us Q I r q
  obtain ⟨w, M, ds, d, S, r1, e, hQ⟩ := q
  exact h w M H ds d vs Q S r1 e hQ pins s σ us I r
section
variable {G : Gb} {X : Cx} {W : WX} {own : Option (List (Str × Addr))} {pos p : Pos}
theorem tCB_of {g : Mem → List D → Option D} {b : EvL} {σ : L2.St} {H : Hp} {Q : VK} (h : tE G W own (cFn g b) σ H Q) : tCB (rCd G g) (tL G W own b) σ H Q := by
  obtain ⟨w, env, M, S, E, h⟩ := h
  refine tG_bind (g := fun xs M2 => opt (g M2 xs) M2) S E h fun ds M1 w1 H1 vs l1 S1 E1 r1 h1 => ?_
  cases e : g M1 ds with
  | none => rw [e] at h1; exact h1.elim
  | some d =>
    rw [e] at h1
    exact ⟨w1, M1, ds, d, S1, r1, e, h1⟩
theorem pd_callB {id : String} {x : Str} {g : Mem → List D → Option D} {e : Expr} {es : List Expr} {b : EvL} (hc : CallD G X (.builtin id) g) (hg : Gl X x) (hm : X.mg x = none) (hv : bootBuiltins x = some (.builtin id)) (ha : PA X (e :: es) (tL G W own b))
    (hn : x ≠ "__name__") (hdb : (x == ("__debug__" : Str)) = false) (he : starEach (e :: es) X.env = (false, eval e X.env) :: starEach es X.env) (hpl : (backTo pos (starEach es X.env)).any (·.1) = false) : PE X (.Call (.Name x p) (e :: es) [] pos) (tE G W own (cFn g b)) :=
  PE_imp (pe_callB hc.callR hg hm hv ha hn hdb he hpl) fun _ _ _ => tCB_of
theorem pd_callTy {T : String} {x : Str} {g : Mem → List D → Option D} {e : Expr} {es : List Expr} {b : EvL} (hc : CallD G X (.type T) g) (hg : Gl X x) (hm : X.mg x = none) (hv : bootBuiltins x = some (.type T)) (ha : PA X (e :: es) (tL G W own b))
    (hn : x ≠ "__name__") (hdb : (x == ("__debug__" : Str)) = false) (he : starEach (e :: es) X.env = (false, eval e X.env) :: starEach es X.env) (hpl : (backTo pos (starEach es X.env)).any (·.1) = false) : PE X (.Call (.Name x p) (e :: es) [] pos) (tE G W own (cFn g b)) :=
  PE_imp (pe_callTy hc.callR hg hm hv ha hn hdb he hpl) fun _ _ _ => tCB_of
theorem pd_callBfun {id : String} {x : Str} {g : Mem → List D → Option D} {e : Expr} {es : List Expr} {b : EvL} (hc : CallD G X (.builtin id) g) (hg : Gl X x) (hm : X.mg x = some (.builtin id)) (ha : PA X (e :: es) (tL G W own b))
    (hdb : (x == ("__debug__" : Str)) = false) (he : starEach (e :: es) X.env = (false, eval e X.env) :: starEach es X.env) (hpl : (backTo pos (starEach es X.env)).any (·.1) = false) : PE X (.Call (.Name x p) (e :: es) [] pos) (tE G W own (cFn g b)) :=
  PE_imp (pe_callBfun hc.callR hg hm ha hdb he hpl) fun _ _ _ => tCB_of
end

/-! ### what they come to -/
noncomputable def gLen (M : Mem) : List D → Option D
  | [x] => match der M x with
    | .lst ds => some (.int ds.length)
    | .tup ds => some (.int ds.length)
    | .str z => if z.length ≤ sizeLine then some (.int z.length) else none
    | .ref i => (dctOf M (.ref i)).map fun kvs => .int kvs.length
    | .scr ns => some (.int ns.length)
    | _ => none
  | _ => none
def gAbs (_ : Mem) : List D → Option D
  | [.int i] => some (.int (if i < 0 then -i else i))
  | _ => none
def isBs : List D → Option (List Bool)
  | [] => some []
  | .bl b :: r => (isBs r).map (b :: ·)
  | _ => none
def isIs : List D → Option (List Int)
  | [] => some []
  | .int b :: r => (isIs r).map (b :: ·)
  | _ => none
def gAll (M : Mem) : List D → Option D
  | [x] => match der M x with
    | .lst ds => (isBs ds).map fun bs => .bl (bs.all id)
    | _ => none
  | _ => none
def gAny (M : Mem) : List D → Option D
  | [x] => match der M x with
    | .lst ds => (isBs ds).map fun bs => .bl (bs.any id)
    | _ => none
  | _ => none
def gSum (M : Mem) : List D → Option D
  | [x] => match der M x with
    | .lst ds => (isIs ds).map fun ns => .int ns.sum
    | _ => none
  | _ => none
def gInt (_ : Mem) : List D → Option D
  | [.int i] => some (.int i)
  | [.bl b] => some (.int (if b then 1 else 0))
  | _ => none
def signs (z : Str) : List D := z.cps.toList.map fun c => .str ⟨#[c]⟩
noncomputable def gList (M : Mem) : List D → Option D
  | [x] => match der M x with
    | .lst ds => some (.lst ds)
    | .tup ds => some (.lst ds)
    | .str z => if z.cps.size ≤ sizeLine then some (.lst (signs z)) else none
    | _ => none
  | _ => none
def gTuple (M : Mem) : List D → Option D
  | [x] => match der M x with
    | .lst ds => some (.tup ds)
    | .tup ds => some (.tup ds)
    | _ => none
  | _ => none
def gMin (_ : Mem) : List D → Option D
  | [.int i, .int j] => some (.int (if j < i then j else i))
  | _ => none
def gMax (_ : Mem) : List D → Option D
  | [.int i, .int j] => some (.int (if j > i then j else i))
  | _ => none
def gGcd (_ : Mem) : List D → Option D
  | [.int i, .int j] => some (.int ((Nat.gcd i.natAbs j.natAbs : Nat) : Int))
  | _ => none
def gStr (_ : Mem) : List D → Option D
  | [.int i] => if i.natAbs.log2 < 1920 then some (.str (toString i)) else none
  | _ => none
def pyOf (d : D) : PyData := (toPy d).getD .none
open Classical in
noncomputable def gSorted (M : Mem) : List D → Option D
  | [x] => match der M x with
    | .lst ds => if (∀ d ∈ ds, (toPy d).isSome = true ∧ (pyOf d).depth ≤ 60) ∧ PySem.W.AllAlike (ds.map pyOf) ∧ PySem.W.Sortable (ds.map pyOf) then some (.lst (ds.mergeSort (PySem.W.dataLe false pyOf))) else none
    | _ => none
  | _ => none
section
variable {G : Gb} {X : Cx} {w : Wd} {M : Mem} {H : Hp}
theorem reps1 {d : D} {vs : List V} (r : Reps G w [d] vs) : ∃ v, vs = [v] ∧ Rep G w d v := by
  cases r with
  | cons a b => cases b; exact ⟨_, rfl, a⟩
theorem reps2 {d e : D} {vs : List V} (r : Reps G w [d, e] vs) : ∃ v u, vs = [v, u] ∧ Rep G w d v ∧ Rep G w e u := by
  cases r with
  | cons a b =>
    obtain ⟨u, rfl, c⟩ := reps1 b
    exact ⟨_, u, rfl, a, c⟩
theorem isBs_rep : ∀ {ds : List D} {vs : List V} {bs : List Bool}, Reps G w ds vs → isBs ds = some bs → vs = bs.map V.bl
  | _, _, _, .nil, e => by simp only [isBs, Option.some.injEq] at e; subst e; rfl
  | _, _, bs, .cons (d := d) (ds := ds) a b, e => by
    cases d <;> simp only [isBs, reduceCtorEq, Option.map_eq_some_iff] at e
    obtain ⟨bs', e1, e2⟩ := e
    subst e2
    cases a
    rw [isBs_rep b e1]
    rfl
theorem isIs_rep : ∀ {ds : List D} {vs : List V} {bs : List Int}, Reps G w ds vs → isIs ds = some bs → vs = bs.map V.int
  | _, _, _, .nil, e => by simp only [isIs, Option.some.injEq] at e; subst e; rfl
  | _, _, bs, .cons (d := d) (ds := ds) a b, e => by
    cases d <;> simp only [isIs, reduceCtorEq, Option.map_eq_some_iff] at e
    obtain ⟨bs', e1, e2⟩ := e
    subst e2
    cases a
    rw [isIs_rep b e1]
    rfl
theorem dct_of_der (S : Sim0 G w H M) {d : D} {v : V} {i : Nat} {kvs : List (Key × D)} (r : Rep G w d v) (ex : der M d = .ref i) (e : dctOf M (.ref i) = some kvs) : ∃ vs, i < w.n ∧ M[i]? = some (.dct kvs) ∧ v = .ref (w.r i) ∧ w.P (w.r i) = none ∧ H (w.r i) = some (.dK vs) ∧ RepK G (w.cut i) kvs vs := by
  have hd : d = .ref i := by
    cases d <;> first
      | (rcases der_ref (M := M) with q | ⟨xs, _, q⟩ <;> rw [q] at ex <;> cases ex <;> rfl)
      | cases ex
  subst hd
  obtain ⟨j, vs, h1, h2, h3, h4, h5, h6, h7⟩ := dct_of S r e
  cases h1
  exact ⟨vs, h2, h3, h4, h5, h6, h7⟩
theorem repK_len : ∀ {kvs : List (Key × D)} {vs : List (Key × V)}, RepK G w kvs vs → kvs.length = vs.length
  | _, _, .nil => rfl
  | _, _, .cons _ b => by rw [List.length_cons, List.length_cons, repK_len b]
theorem der_scr {x : D} {v : V} {ns : List Int} (r : Rep G w x v) (e : der M x = .scr ns) : ∃ a, v = .ref a ∧ ZS G.K w.Z a (ns.map V.int) := by
  cases r <;> simp only [der, reduceCtorEq, D.scr.injEq] at e
  · split at e <;> cases e
  · rename_i z
    subst e
    exact ⟨_, rfl, z⟩
theorem callD_len (hX : XG G X) : CallD G X (.builtin "len") gLen := by
  intro w M H ds d vs Q S r e hQ pins s σ us I rv
  unfold gLen at e
  split at e
  · rename_i x
    obtain ⟨v, rfl, r1⟩ := reps1 r
    split at e
    · rename_i xs ex
      cases e
      obtain ⟨a, ws, rfl, h1, h2⟩ := der_lst S r1 ex
      exact call_len_seq pins s σ H _ us Q I rv ⟨a, ws, rfl, .inl (.inl h1), by rw [← h2.length]; exact hQ w H _ (Le.refl w) S (.int _)⟩
    · rename_i xs ex
      cases e
      obtain ⟨a, ws, rfl, h1, h2⟩ := der_tup S r1 ex
      exact call_len_seq pins s σ H _ us Q I rv ⟨a, ws, rfl, .inr (by rw [hX.K]; exact h1), by rw [← h2.length]; exact hQ w H _ (Le.refl w) S (.int _)⟩
    · rename_i z ex
      split at e
      · rename_i hz
        cases e
        have := der_str r1 ex; subst this
        exact call_len_str pins s σ H _ us Q I rv ⟨z, rfl, hz, hQ w H _ (Le.refl w) S (.int _)⟩
      · cases e
    · rename_i i ex
      obtain ⟨kvs, e1, e2⟩ := Option.map_eq_some_iff.mp e
      subst e2
      obtain ⟨ws, h1, h2, rfl, h3, h4, h5⟩ := dct_of_der S r1 ex e1
      obtain ⟨u, rfl, rx⟩ := vals1 rv
      cases rx
      refine d_len I (.inl h4) fun t s' I' => ⟨.int _, H, I', ⟨t, rfl⟩, ?_⟩
      rw [← repK_len h5]
      exact hQ w H _ (Le.refl w) S (.int _)
    · rename_i ns ex
      cases e
      obtain ⟨a, rfl, h1⟩ := der_scr r1 ex
      exact call_len_seq pins s σ H _ us Q I rv ⟨a, ns.map V.int, rfl, .inl (by rw [hX.K]; exact h1.sq S.z), by rw [List.length_map]; exact hQ w H _ (Le.refl w) S (.int _)⟩
    · cases e
  · cases e
theorem callD_abs : CallD G X (.builtin "abs") gAbs := by
  intro w M H ds d vs Q S r e hQ pins s σ us I rv
  unfold gAbs at e
  split at e
  · cases e
    obtain ⟨v, rfl, r1⟩ := reps1 r
    have := int_of r1; subst this
    exact call_abs pins s σ H _ us Q I rv ⟨_, rfl, hQ w H _ (Le.refl w) S (.int _)⟩
  · cases e
theorem callD_all (hX : XG G X) : CallD G X (.builtin "all") gAll := by
  intro w M H ds d vs Q S r e hQ pins s σ us I rv
  unfold gAll at e
  split at e
  · obtain ⟨v, rfl, r1⟩ := reps1 r
    split at e
    · rename_i xs ex
      obtain ⟨bs, e1, e2⟩ := Option.map_eq_some_iff.mp e
      subst e2
      obtain ⟨a, ws, rfl, h1, h2⟩ := der_lst S r1 ex
      have := isBs_rep h2 e1; subst this
      exact cr_all hX.calm pins s σ H _ us Q I rv ⟨a, bs, rfl, .inl h1, hQ w H _ (Le.refl w) S (.bl _)⟩
    · cases e
  · cases e
theorem callD_any (hX : XG G X) : CallD G X (.builtin "any") gAny := by
  intro w M H ds d vs Q S r e hQ pins s σ us I rv
  unfold gAny at e
  split at e
  · obtain ⟨v, rfl, r1⟩ := reps1 r
    split at e
    · rename_i xs ex
      obtain ⟨bs, e1, e2⟩ := Option.map_eq_some_iff.mp e
      subst e2
      obtain ⟨a, ws, rfl, h1, h2⟩ := der_lst S r1 ex
      have := isBs_rep h2 e1; subst this
      exact cr_any hX.calm pins s σ H _ us Q I rv ⟨a, bs, rfl, .inl h1, hQ w H _ (Le.refl w) S (.bl _)⟩
    · cases e
  · cases e
theorem callD_sum (hX : XG G X) : CallD G X (.builtin "sum") gSum := by
  intro w M H ds d vs Q S r e hQ pins s σ us I rv
  unfold gSum at e
  split at e
  · obtain ⟨v, rfl, r1⟩ := reps1 r
    split at e
    · rename_i xs ex
      obtain ⟨bs, e1, e2⟩ := Option.map_eq_some_iff.mp e
      subst e2
      obtain ⟨a, ws, rfl, h1, h2⟩ := der_lst S r1 ex
      have := isIs_rep h2 e1; subst this
      exact cr_sum hX.calm pins s σ H _ us Q I rv ⟨a, bs, rfl, .inl h1, hQ w H _ (Le.refl w) S (.int _)⟩
    · cases e
  · cases e
theorem callD_int : CallD G X (.type "int") gInt := by
  intro w M H ds d vs Q S r e hQ pins s σ us I rv
  unfold gInt at e
  split at e
  · cases e
    obtain ⟨v, rfl, r1⟩ := reps1 r
    have := int_of r1; subst this
    exact call_int1 pins s σ H _ us Q I rv (.inl ⟨_, rfl, hQ w H _ (Le.refl w) S (.int _)⟩)
  · cases e
    obtain ⟨v, rfl, r1⟩ := reps1 r
    cases r1
    exact call_int1 pins s σ H _ us Q I rv (.inr ⟨_, rfl, hQ w H _ (Le.refl w) S (.int _)⟩)
  · cases e
theorem callD_min (hX : XG G X) : CallD G X (.builtin "min") gMin := by
  intro w M H ds d vs Q S r e hQ pins s σ us I rv
  unfold gMin at e
  split at e
  · cases e
    obtain ⟨v, u, rfl, r1, r2⟩ := reps2 r
    have := int_of r1; subst this
    have := int_of r2; subst this
    exact call_min2 hX.calm pins s σ H _ us Q I rv ⟨_, _, rfl, hQ w H _ (Le.refl w) S (.int _)⟩
  · cases e
theorem callD_max (hX : XG G X) : CallD G X (.builtin "max") gMax := by
  intro w M H ds d vs Q S r e hQ pins s σ us I rv
  unfold gMax at e
  split at e
  · cases e
    obtain ⟨v, u, rfl, r1, r2⟩ := reps2 r
    have := int_of r1; subst this
    have := int_of r2; subst this
    exact call_max2 hX.calm pins s σ H _ us Q I rv ⟨_, _, rfl, hQ w H _ (Le.refl w) S (.int _)⟩
  · cases e
theorem callD_gcd : CallD G X (.builtin "math.gcd") gGcd := by
  intro w M H ds d vs Q S r e hQ pins s σ us I rv
  unfold gGcd at e
  split at e
  · cases e
    obtain ⟨v, u, rfl, r1, r2⟩ := reps2 r
    have := int_of r1; subst this
    have := int_of r2; subst this
    exact cr_gcd pins s σ H _ us Q I rv ⟨_, _, rfl, hQ w H _ (Le.refl w) S (.int _)⟩
  · cases e
theorem callD_str : CallD G X (.type "str") gStr := by
  intro w M H ds d vs Q S r e hQ pins s σ us I rv
  unfold gStr at e
  split at e
  · split at e
    · rename_i hz
      cases e
      obtain ⟨v, rfl, r1⟩ := reps1 r
      have := int_of r1; subst this
      exact call_str_int pins s σ H _ us Q I rv ⟨_, rfl, hz, hQ w H _ (Le.refl w) S (.str _)⟩
    · cases e
  · cases e
theorem callD_tuple (hX : XG G X) : CallD G X (.type "tuple") gTuple := by
  intro w M H ds d vs Q S r e hQ pins s σ us I rv
  unfold gTuple at e
  split at e
  · obtain ⟨v, rfl, r1⟩ := reps1 r
    split at e
    · rename_i xs ex
      cases e
      obtain ⟨a, ws, rfl, h1, h2⟩ := der_lst S r1 ex
      exact call_tuple_of pins s σ H _ us Q I rv ⟨a, ws, rfl, .inl ⟨.inl h1, fun p hp => hQ _ _ _ (Le.addZ (S.zfree hp)) (S.addZ hp) (.tup (.inl upd_same) (h2.mono (Le.addZ (S.zfree hp)).toR))⟩⟩
    · rename_i xs ex
      cases e
      obtain ⟨a, ws, rfl, h1, h2⟩ := der_tup S r1 ex
      refine call_tuple_of pins s σ H _ us Q I rv ⟨a, ws, rfl, .inr ⟨by rw [hX.K]; exact h1, ?_⟩⟩
      cases r1 with
      | tup z q => cases ex; exact hQ w H _ (Le.refl w) S (.tup z q)
      | ref hi => rcases der_ref (M := M) with q | ⟨xs, _, q⟩ <;> rw [q] at ex <;> cases ex
      | _ => cases ex
    · cases e
  · cases e
theorem signs_rep (w : Wd) : ∀ l : List Nat, Reps G w (l.map fun c => .str ⟨#[c]⟩) (l.map fun c => V.str ⟨#[c]⟩)
  | [] => .nil
  | _ :: b => .cons (.str _) (signs_rep w b)
theorem callD_list (hX : XG G X) : CallD G X (.type "list") gList := by
  intro w M H ds d vs Q S r e hQ pins s σ us I rv
  unfold gList at e
  split at e
  · obtain ⟨v, rfl, r1⟩ := reps1 r
    split at e
    · rename_i xs ex
      cases e
      obtain ⟨a, ws, rfl, h1, h2⟩ := der_lst S r1 ex
      exact call_list_of pins s σ H _ us Q I rv ⟨a, ws, rfl, .inl (.inl h1), fun p hp => hQ _ _ _ (Le.addZ (S.zfree hp)) (S.addZ hp) (.lst upd_same (h2.mono (Le.addZ (S.zfree hp)).toR))⟩
    · rename_i xs ex
      cases e
      obtain ⟨a, ws, rfl, h1, h2⟩ := der_tup S r1 ex
      exact call_list_of pins s σ H _ us Q I rv ⟨a, ws, rfl, .inr (by rw [hX.K]; exact h1), fun p hp => hQ _ _ _ (Le.addZ (S.zfree hp)) (S.addZ hp) (.lst upd_same (h2.mono (Le.addZ (S.zfree hp)).toR))⟩
    · rename_i z ex
      split at e
      · rename_i hz
        cases e
        have := der_str r1 ex; subst this
        obtain ⟨u, rfl, t, rfl⟩ := vals1 rv
        refine PySem.call_list_str (I.ok.hd hX.calm) z t (fun h' tk acc' c' hk hS hacc => ?_) hz
        have hv : Vals (z.cps.toList.map fun c => V.str ⟨#[c]⟩) acc'.toList := by
          refine vals_of_at (by rw [List.length_map, Array.length_toList, Array.length_toList, hacc.1]) fun j x u h1 h2 => ?_
          rw [List.getElem?_map, Option.map_eq_some_iff] at h1
          obtain ⟨c, e1, e2⟩ := h1
          subst e2
          obtain ⟨c2, t2, e3, e4⟩ := hacc.2 j u (by rw [← Array.getElem?_toList]; exact h2)
          rw [← Array.getElem?_toList, e1] at e3
          cases e3
          subst e4
          exact ⟨t2, rfl⟩
        have hl : (z.cps.toList.map fun c => V.str ⟨#[c]⟩).length ≤ sizeLine := by simpa using hz
        have hp : H s.heap.objs.size = none := I.hok.fresh (Nat.le_refl _)
        refine ⟨.ref _, upd H s.heap.objs.size (.lst (z.cps.toList.map fun c => V.str ⟨#[c]⟩)), I.laid (t' := tk) hk (Nat.le_refl _) ⟨hl, acc'.toList, c', hv, by simpa using hS⟩, rfl, ?_⟩
        refine hQ _ _ _ (Le.addZ (S.zfree hp)) (S.addZ hp) (.lst upd_same ?_)
        exact signs_rep _ _
      · cases e
    · cases e
  · cases e
theorem each_of : ∀ {ds : List D} {vs : List V} {us : List Value}, Reps G w ds vs → Vals vs us → PySem.W.EachIs (fun u d => ∃ v, Rep G w d v ∧ RelV v u) us ds
  | _, _, _, .nil, .nil => .nil
  | _, _, _, .cons a b, .cons c d => .cons ⟨_, a, c⟩ (each_of b d)
theorem of_each : ∀ {ds : List D} {us : List Value}, PySem.W.EachIs (fun u d => ∃ v, Rep G w d v ∧ RelV v u) us ds → ∃ vs, Reps G w ds vs ∧ Vals vs us
  | _, _, .nil => ⟨[], .nil, .nil⟩
  | _, _, .cons ⟨v, a, c⟩ t => by
    obtain ⟨vs, h1, h2⟩ := of_each t
    exact ⟨v :: vs, .cons a h1, .cons c h2⟩
theorem each_imp {α β : Type} {R R' : α → β → Prop} : ∀ {as : List α} {bs : List β}, PySem.W.EachIs R as bs → (∀ a b, b ∈ bs → R a b → R' a b) → PySem.W.EachIs R' as bs
  | _, _, .nil, _ => .nil
  | _, _, .cons a t, k => .cons (k _ _ List.mem_cons_self a) (each_imp t fun x y hy => k x y (List.mem_cons_of_mem _ hy))
theorem callD_sorted (hX : XG G X) : CallD G X (.builtin "sorted") gSorted := by
  intro w M H ds d vs Q S r e hQ pins s σ us I rv
  unfold gSorted at e
  split at e
  · obtain ⟨v, rfl, r1⟩ := reps1 r
    split at e
    · rename_i xs ex
      split at e
      · rename_i hc
        cases e
        obtain ⟨h0, hal, hk⟩ := hc
        obtain ⟨a, ws, rfl, h1, h2⟩ := der_lst S r1 ex
        obtain ⟨hz, its, n, rv', hl, ho⟩ := rd_lst I h1
        rw [Vals.ref1 rv]
        have e1 := each_of h2 rv'
        have e2 : PySem.W.EachIs (fun v b => ∃ as, Reads s.heap v (pyOf b) as) its xs := each_imp e1 fun u d hd ⟨v, r3, r4⟩ => by
          obtain ⟨p, hp⟩ := Option.isSome_iff_exists.mp (h0 d hd).1
          have : pyOf d = p := by unfold pyOf; rw [hp]; rfl
          rw [this]
          exact Dp.reads I p v u (by rw [hX.K]; exact dp_of S r3 hp) r4
        have hle : xs.length ≤ sizeLine := by rw [h2.length]; exact hz
        refine PySem.W.sorted_data (vs := its) (bs := xs) (enc := pyOf) (R := fun u d => ∃ v, Rep G w d v ∧ RelV v u) ⟨_, ho, rfl, _, rfl⟩ e1 e2 hal hk hle (fun b hb => by have := (h0 b hb).2; have := hX.un; omega) fun out ho2 e3 => ?_
        obtain ⟨vs', h3, h4⟩ := of_each e3
        obtain ⟨ep, he'⟩ := PyProof.Rows.sortedAll_at s.heap its out.toArray
        have hlen : vs'.length ≤ sizeLine := by rw [← h3.length, List.length_mergeSort]; exact hle
        have hp : H (s.heap.objs.size + 1) = none := I.hok.fresh (Nat.le_succ _)
        refine ⟨.ref _, upd H (s.heap.objs.size + 1) (.lst vs'), I.laid (t' := s.toks) (fun _ _ => PyProof.Rows.sortedAll_old) (Nat.le_succ _) ⟨hlen, out, ep, h4, he'⟩, rfl, ?_⟩
        exact hQ _ _ _ (Le.addZ (S.zfree hp)) (S.addZ hp) (.lst upd_same (h3.mono (Le.addZ (S.zfree hp)).toR))
      · cases e
    · cases e
  · cases e
end
end DI

set_option Elab.async false
set_option linter.all false
set_option maxRecDepth 100000
set_option maxHeartbeats 4000000
/-! DI8: isinstance. -/
namespace PySem.W
open PySem PySem.Spec PySem.Calls PyProof.Rows
section
variable {prog : Program} {w : World} {A : Around} {E : Value → Shared → Prop} {s : Shared} {K : Frag} {x D : Addr} {ox : Obj}
theorem di_findObj {C : Addr} {od : Option Obj} {name : Str} {a g : Value} (hc : (clsIn K C).isSome = true) (ha : findIn K (.ref C) name = some (some a)) (hg : specialIn K a "__get__" = some (some g)) (ht : takesIn K a = some true) : findObj K C od name = some (.bind g a) := by
  obtain ⟨cd, hc⟩ := Option.isSome_iff_exists.mp hc
  unfold findObj
  rw [hc, Option.bind_some, ha, Option.bind_some]
  simp [hg, ht]
theorem di_classE {Q : Option Value → Shared → Prop} {od : Option Obj} (hga : findIn K (.ref D) "__getattribute__" = some (some (.builtin "BaseException.__getattribute__"))) (hgt : findIn K (.ref D) "__getattr__" = some none) (hsub : subIn K (.ref D) (.type "BaseException") = some true)
    (hdct : hasDictIn K D = true) (ha : findIn K (.ref D) "__class__" = some (some (.builtin "object.__class__")))
    (hn : specialIn K (.builtin "object.__class__") "__get__" = some (some (.builtin "getset_descriptor.__get__"))) (htk : takesIn K (.builtin "object.__class__") = some true) (hm : mroIn K D (.type "object") = some true)
    (X : K.In s.heap) (I : InstAt s.heap x ox D od) (h : Q (some (.ref D)) { s with toks := s.toks + 1 }) : wpAny (model prog w) A (getAttr? (.ref x) "__class__") Q E s := by
  have hf : findObj K D od "__class__" = some (.bind (.builtin "getset_descriptor.__get__") (.builtin "object.__class__")) := di_findObj (by obtain ⟨cd, hc, _⟩ := any_some hdct; rw [hc]; rfl) ha hn htk
  obtain ⟨hp, g, d, t, os⟩ := s
  have L0 := I.type (M := model prog w)
  have L1 := looks_findIn (M := model prog w) X hga
  have L2 := looks_findIn (M := model prog w) X hgt
  have L3 := looks_find (M := model prog w) X I hf
  have sub : Looks (model prog w) hp (isInstance (.ref x) (.type "BaseException")) true := L0.andThen (looks_subIn X hsub)
  have hx0 : (false && onTheHeap (Value.builtin "BaseException.__getattribute__")) = false := rfl
  have hx2 : (Value.builtin "BaseException.__getattribute__" == Value.builtin "object.__getattribute__") = false := by decide +kernel
  have hx1 : (onTheHeap (Value.ref D) && Value.builtin "BaseException.__getattribute__" == Value.builtin "object.__getattribute__") = false := by rw [hx2]; rfl
  unfold getAttr? getAttrBy? getAttrBy
  refine wpAny_bind (wpAny_mkText (wpAny_bind (wpAny_attempt (wpAny_holding (wpAny_bind (L0.at (wpAny_bind (L1.at ?_))))))))
  show wpAny _ _ (if (onTheHeap (Value.ref D) && Value.builtin "BaseException.__getattribute__" == Value.builtin "object.__getattribute__") = true then _ else _) _ _ _
  rw [hx1, if_neg Bool.false_ne_true]
  unfold getAttrByItsOwn hookBefore
  refine wpAny_bind ?_
  rw [if_pos (show onTheHeap (Value.ref D) = true from rfl)]
  refine L2.at ?_
  refine wpAny_bind (wpAny_attempt (wpAny_holding ?_))
  unfold callGetattribute
  rw [hx0, if_neg Bool.false_ne_true]
  unfold boundAndCalled
  rw [PySem.F.excAttr_ValueError.ga.bind (.ref x)]
  refine wpAny_bind (wpAny_pure ?_)
  show wpAny _ _ (call (.builtin "BaseException.__getattribute__") [.ref x, .str "__class__" t]) _ _ _
  refine wpAny_call (codeAny_call_builtin PySem.F.excAttr_ValueError.ga.plain PySem.F.entry_bexc_ga ?_)
  refine @check_slot (model prog w) _ _ ⟨hp, g, d, t + 1, os⟩ "BaseException.__getattribute__" "BaseException" "__getattribute__" (.ref x) [.str "__class__" t] [] _ (by decide +kernel) (by decide +kernel) sub (PySem.F.args_bexc_ga (.ref x) (.str "__class__" t)) ?_
  unfold Builtin.«object.__getattribute__»
  refine wpAny_bind (wpAny_of_eq (a := ((Value.ref x : Value), [Value.str "__class__" t])) (by first | rfl | (simp only [slotArgs]; rfl)) ?_)
  refine wpAny_bind (wpAny_pure (wpAny_bind (L0.at (wpAny_bind (L3.at ?_)))))
  show wpAny _ _ (holding [Value.builtin "object.__class__"] (call (.builtin "getset_descriptor.__get__") [.builtin "object.__class__", .ref x, .ref D]) >>= ret) _ _ _
  refine wpAny_bind (wpAny_holding (wpAny_call (class_get (s := ⟨hp, g, d, t + 1, os⟩) (ox := ox) (od := od) X I hm ?_)))
  refine wpAny_pure ?_
  show wpAny _ _ (handedOut (.ref D)) _ _ _
  rw [handedOut_of (v := .ref D) rfl]
  first
    | exact wpAny_pure (wpAny_pure h)
    | exact wpAny_pure h
    | exact wpAny_pure (wpAny_bind (wpAny_pure (wpAny_pure h)))
theorem di_kitx_exc {od : Option Obj} (hga : findIn K (.ref D) "__getattribute__" = some (some (.builtin "BaseException.__getattribute__"))) (hgt : findIn K (.ref D) "__getattr__" = some none) (hsub : subIn K (.ref D) (.type "BaseException") = some true) (hdct : hasDictIn K D = true) (ha : findIn K (.ref D) "__class__" = some (some (.builtin "object.__class__")))
    (hn : specialIn K (.builtin "object.__class__") "__get__" = some (some (.builtin "getset_descriptor.__get__"))) (htk : takesIn K (.builtin "object.__class__") = some true) (hm : mroIn K D (.type "object") = some true) :
    KitX K (.ref x) (.ref D) (fun h => InstAt h x ox D od) where
  ty := fun _ _ _ I => I.type
  it := fun _ _ X _ => by
    obtain ⟨cdD, hcD, _⟩ := any_some hdct
    unfold clsIn at hcD
    split at hcD
    · rename_i c' d' cd' sl' ho
      intro A' Q' E' s' k q
      unfold isType loadHead
      exact wpAny_bind (wpAny_loadPart (k _ _ (X _ _ ho)) (wpAny_pure q))
    · cases hcD
  ne := fun h tp dd its n sl X htp => by
    obtain ⟨cdD, hcD, _⟩ := any_some hdct
    refine Bool.eq_false_iff.mpr fun q => ?_
    have e : D = tp := Value.ref.inj (beq_iff_eq.mp q)
    subst e
    unfold clsIn at hcD
    split at hcD
    · rename_i c' d' cd' sl' ho
      have z := (X _ _ ho).symm.trans htp
      cases z
    · cases hcD
  ca := fun X I k => di_classE hga hgt hsub hdct ha hn htk hm X I k
end
end PySem.W
namespace DI
open PySem PySem.Spec PyProof.Rows L2
/-- the class's name of a value of a built-in class -/
def kindD (M : Mem) : D → Option String
  | .non => some "NoneType"
  | .bl _ => some "bool"
  | .int _ => some "int"
  | .str _ => some "str"
  | .tup _ => some "tuple"
  | .lst _ => some "list"
  | .ref i => match M[i]? with
    | some (.lst _) => some "list"
    | some (.dct _) => some "dict"
    | _ => none
  | _ => none
def kinds0 : List String := ["NoneType", "bool", "int", "str", "tuple", "list", "dict"]
def isiB (a b : String) : Bool := a == b || (a == "bool" && b == "int")
abbrev Anc := Str → Option (List Str)
/-- isinstance(x, t), t one class -/
def isi1 (anc : Anc) (M : Mem) (x t : D) : Option Bool := match t with
  | .ty T => if kinds0.contains T then (kindD M x).map fun a => isiB a T else none
  | .fn d => match anc d with
    | none => none
    | some _ => match x with
      | .exc c _ _ => (anc c).map fun l => l.contains d
      | x => (kindD M x).map fun _ => false
  | _ => none
def isiAny (anc : Anc) (M : Mem) (x : D) : List D → Option Bool
  | [] => some false
  | t :: ts => match isi1 anc M x t with
    | some true => some true
    | some false => isiAny anc M x ts
    | none => none
def gIsi (anc : Anc) (M : Mem) : List D → Option D
  | [x, .tup (t :: ts)] => (isiAny anc M x (t :: ts)).map .bl
  | [x, t] => (isi1 anc M x t).map .bl
  | _ => none
/-- what the written part says of the own classes of errors -/
structure AncOk (G : Gb) (anc : Anc) : Prop where
  own : ∀ c l d l', anc c = some l → anc d = some l' → ∃ C Dd, G.mg c = some (.ref C) ∧ G.mg d = some (.ref Dd) ∧ PySem.W.kitOne G.K (.ref C) (.ref Dd) = some (l.contains d)
  base : ∀ a d l, a ∈ kinds0 → anc d = some l → ∃ Dd, G.mg d = some (.ref Dd) ∧ PySem.W.kitOne G.K (.type a) (.ref Dd) = some false
  exc : ∀ c l C, anc c = some l → G.mg c = some (.ref C) → ExcC G.K C
theorem kit0 : ∀ a ∈ kinds0, ∀ b ∈ kinds0, kitB a b = some (isiB a b) := by decide +kernel
theorem kindD_in {M : Mem} {x : D} {a : String} (e : kindD M x = some a) : a ∈ kinds0 := by
  unfold kindD at e
  split at e <;> first
    | (cases e; decide)
    | (split at e <;> first | (cases e; decide) | cases e)
    | cases e
section
variable {G : Gb} {X : Cx} {w : Wd} {M : Mem} {H : Hp}
theorem kind_ty (S : Sim0 G w H M) {x : D} {v : V} {a : String} (r : Rep G w x v) (e : kindD M x = some a) : TyX G.K H v (.type a) := by
  cases r with
  | non => cases e; exact .base .non
  | bl b => cases e; exact .base (.bl b)
  | int b => cases e; exact .base (.int b)
  | str b => cases e; exact .base (.str b)
  | tup z q =>
    cases e
    rcases z with z | z
    · rcases S.z _ _ z with h | ⟨o, h⟩
      · exact .base (.tup h)
      · exact .fTuple h
    · rcases z with z | ⟨o, its, n, h1, h2, _⟩
      · rcases z with z | ⟨_, z⟩ <;> cases z
      · exact .kTuple h1 h2
  | lst z q =>
    cases e
    rcases S.z _ _ z with h | ⟨o, h⟩
    · exact .base (.lst h)
    · exact .base (.frz h)
  | @ref i hi =>
    unfold kindD at e
    cases e1 : M[i]? with
    | none => simp only [e1, reduceCtorEq] at e
    | some o =>
      have hm := S.m i o e1
      cases o with
      | lst ds => simp only [e1, Option.some.injEq] at e; subst e; obtain ⟨_, vs, h1, _⟩ := hm; exact .base (.lst h1)
      | dct ds => simp only [e1, Option.some.injEq] at e; subst e; obtain ⟨_, vs, h1, _⟩ := hm; exact .base (.dK h1)
  | _ => cases e
/-- what a value's class says of isinstance -/
theorem kit_of_rep (S : Sim0 G w H M) {anc : Anc} (hA : AncOk G anc) (hK : X.K = G.K) {pins : List (Addr × Obj)} {s : Shared} {σ : L2.St} (I : Inv X pins σ H s) {x : D} {v : V} {u : Value} (r : Rep G w x v) (ru : RelV v u)
    (hx : (∃ a, kindD M x = some a) ∨ ∃ c ns vs l, x = .exc c ns vs ∧ anc c = some l) :
    ∃ t P, PySem.W.KitX X.K u t P ∧ P s.heap ∧ u ≠ .builtin "__main__.__loader__#opaque" ∧ ((∃ a, kindD M x = some a ∧ t = .type a) ∨ ∃ c ns vs l C, x = .exc c ns vs ∧ anc c = some l ∧ G.mg c = some (.ref C) ∧ t = .ref C) := by
  rcases hx with ⟨a, ha⟩ | ⟨c, ns, vs, l, rfl, hl⟩
  · obtain ⟨P, h1, h2, h3⟩ := kit_of I ru (by rw [hK]; exact kind_ty S r ha)
    exact ⟨_, P, h1, h2, h3, .inl ⟨a, ha, rfl⟩⟩
  · cases r with
    | @exc _ _ _ ad C fvs hm he hv hlen =>
      obtain ⟨d, hz, hd⟩ := he
      have hEx := hA.exc c l C hl hm
      cases (show u = Value.ref ad from ru)
      obtain ⟨⟨oe, h1, ⟨h2, h3⟩, fv, h4⟩, _, _⟩ := (S.z _ _ hz).ok I.hok
      rcases hd with ⟨_, rfl⟩ | ⟨dx, rfl, hzd⟩
      · have J : PySem.W.InstAt s.heap ad oe C none := by
          obtain ⟨oc, od, oda, osl⟩ := oe
          dsimp only at h2 h3 h4
          subst h2 h3 h4
          exact ⟨h1, rfl, rfl, trivial⟩
        exact ⟨.ref C, fun h => PySem.W.InstAt h ad oe C none, by rw [hK]; exact PySem.W.di_kitx_exc hEx.hg hEx.hk hEx.hs hEx.hd hEx.ha hEx.hn hEx.ht hEx.hm, J, (fun z => nomatch z), .inr ⟨c, ns, vs, l, C, rfl, hl, hm, rfl⟩⟩
      · obtain ⟨mA, hns, _⟩ := (S.z _ _ hzd).ok I.hok
        obtain ⟨od, ho, _⟩ := lookIn_ns hns
        have J : PySem.W.InstAt s.heap ad oe C (some od) := by
          obtain ⟨oc, odd, oda, osl⟩ := oe
          dsimp only at h2 h3 h4
          subst h2 h3 h4
          exact ⟨h1, rfl, rfl, ho⟩
        exact ⟨.ref C, fun h => PySem.W.InstAt h ad oe C (some od), by rw [hK]; exact PySem.W.di_kitx_exc hEx.hg hEx.hk hEx.hs hEx.hd hEx.ha hEx.hn hEx.ht hEx.hm, J, (fun z => nomatch z), .inr ⟨c, ns, vs, l, C, rfl, hl, hm, rfl⟩⟩
/-- one class's answer -/
theorem isi1_kit {anc : Anc} (hA : AncOk G anc) {x t : D} {b : Bool} {c : V} {ty u : Value} (rt : Rep G w t c) (rc : RelV c u) (e : isi1 anc M x t = some b)
    (hx : (∃ a, kindD M x = some a ∧ ty = .type a) ∨ ∃ c ns vs l C, x = .exc c ns vs ∧ anc c = some l ∧ G.mg c = some (.ref C) ∧ ty = .ref C) : ClsV c u ∧ PySem.W.kitOne G.K ty u = some b := by
  unfold isi1 at e
  cases rt with
  | ty T =>
    obtain rfl : u = Value.type T := rc
    refine ⟨.ty T, ?_⟩
    simp only at e
    split at e
    · rename_i hT
      obtain ⟨a, h1, h2⟩ := Option.map_eq_some_iff.mp e
      subst h2
      rcases hx with ⟨a', h3, h4⟩ | ⟨cc, ns, vs, l, C, h3, _⟩
      · rw [h1] at h3
        cases h3
        subst h4
        exact kit_ty (kit0 a (kindD_in h1) T (by simpa using hT))
      · subst h3
        cases h1
    · cases e
  | @fn dn v' u' hm hr =>
    simp only at e
    split at e
    · cases e
    · rename_i l' hd
      rcases hx with ⟨a', h3, h4⟩ | ⟨cc, ns, vs, l, C, h3, h4, h5, h6⟩
      · obtain ⟨Dd, k1, k2⟩ := hA.base a' dn l' (kindD_in h3) hd
        rw [hm] at k1
        cases k1
        have hc : c = .ref Dd := by
          have := hr.abs
          cases c <;> first
            | (obtain ⟨t, ht⟩ := hr; cases ht)
            | (cases (show Value.ref Dd = _ from hr) <;> rfl)
            | cases (show Value.ref Dd = _ from hr)
        subst hc
        obtain rfl : u = Value.ref Dd := rc
        refine ⟨.own Dd, ?_⟩
        subst h4
        have : b = false := by
          cases x <;> simp only [kindD, reduceCtorEq, Option.map_some, Option.some.injEq] at e h3 <;> first
            | exact e.symm
            | (rw [h3] at e; simp only [Option.map_some, Option.some.injEq] at e; exact e.symm)
            | skip
        rw [this]
        exact k2
      · subst h3
        obtain ⟨C', Dd, k0, k1, k2⟩ := hA.own cc l dn l' h4 hd
        rw [h5] at k0
        cases k0
        rw [hm] at k1
        cases k1
        have hc : c = .ref Dd := by
          cases c <;> first
            | (obtain ⟨t, ht⟩ := hr; cases ht)
            | (cases (show Value.ref Dd = _ from hr) <;> rfl)
            | cases (show Value.ref Dd = _ from hr)
        subst hc
        obtain rfl : u = Value.ref Dd := rc
        refine ⟨.own Dd, ?_⟩
        subst h6
        simp only [h4, Option.map_some, Option.some.injEq] at e
        rw [← e]
        exact k2
  | _ => cases e
theorem isi_known {anc : Anc} {x t : D} {b : Bool} (e : isi1 anc M x t = some b) : (∃ a, kindD M x = some a) ∨ ∃ c ns vs l, x = .exc c ns vs ∧ anc c = some l := by
  unfold isi1 at e
  cases t with
  | ty T =>
    simp only at e
    split at e
    · obtain ⟨a, h1, _⟩ := Option.map_eq_some_iff.mp e
      exact .inl ⟨a, h1⟩
    · cases e
  | fn d =>
    simp only at e
    split at e
    · cases e
    · split at e
      · rename_i c ns vs
        obtain ⟨l, h1, _⟩ := Option.map_eq_some_iff.mp e
        exact .inr ⟨c, ns, vs, l, rfl, h1⟩
      · obtain ⟨a, h1, _⟩ := Option.map_eq_some_iff.mp e
        exact .inl ⟨a, h1⟩
  | _ => cases e
theorem isiAny_kit {anc : Anc} (hA : AncOk G anc) {x : D} {ty : Value} (hx : (∃ a, kindD M x = some a ∧ ty = .type a) ∨ ∃ c ns vs l C, x = .exc c ns vs ∧ anc c = some l ∧ G.mg c = some (.ref C) ∧ ty = .ref C) :
    ∀ {ts : List D} {vs : List V} {us : List Value} {b : Bool}, Reps G w ts vs → Vals vs us → isiAny anc M x ts = some b → PySem.W.kitAny G.K ty us = some b
  | _, _, _, b, .nil, .nil, e => by simp only [isiAny, Option.some.injEq] at e; subst e; rfl
  | _, _, _, b, .cons (d := t) (ds := ts) r rs, .cons c cs, e => by
    simp only [isiAny] at e
    split at e
    · rename_i h
      cases e
      exact kitAny_cons (isi1_kit hA r c h hx).2 (fun z => by cases z) fun _ => rfl
    · rename_i h
      exact kitAny_cons (isi1_kit hA r c h hx).2 (fun _ => isiAny_kit hA hx rs cs e) fun z => by cases z
    · cases e
theorem callD_isi (hX : XG G X) {anc : Anc} (hA : AncOk G anc) : CallD G X (.builtin "isinstance") (gIsi anc) := by
  intro w M H ds d vs Q S r e hQ pins s σ us I rv
  unfold gIsi at e
  split at e
  · rename_i x t ts'
    obtain ⟨b, e1, e2⟩ := Option.map_eq_some_iff.mp e
    subst e2
    obtain ⟨v, tv, rfl, r1, r2⟩ := reps2 r
    obtain ⟨u1, u2, rfl, q1, q2⟩ := vals2 rv
    cases r2 with
    | @tup _ a cs z q =>
      cases (show u2 = Value.ref a from q2)
      obtain ⟨its, rvs, ⟨o, h1, h2, n, h3⟩, _⟩ := I.tuple (by rw [hX.K]; exact z.sq S.z)
      obtain ⟨oc, od, dt, sl⟩ := o
      simp only at h2 h3
      subst h2 h3
      · have hk : ∃ b', isi1 anc M x t = some b' := by
          simp only [isiAny] at e1
          split at e1 <;> first
            | exact ⟨_, by assumption⟩
            | cases e1
        obtain ⟨b', hk⟩ := hk
        obtain ⟨ty, P, Z, p, hx, hty⟩ := kit_of_rep S hA hX.K I r1 q1 (isi_known hk)
        have e3 := isiAny_kit hA hty q rvs e1
        rw [← hX.K] at e3
        exact PySem.W.kia_tup Z I.kIn p h1 e3 hx fun tk => ⟨.bl b, H, I.tok tk, rfl, hQ w H _ (Le.refl w) S (.bl _)⟩
  · rename_i x t hnt
    obtain ⟨b, e1, e2⟩ := Option.map_eq_some_iff.mp e
    subst e2
    obtain ⟨v, c, rfl, r1, r2⟩ := reps2 r
    obtain ⟨u1, u2, rfl, q1, q2⟩ := vals2 rv
    obtain ⟨ty, P, Z, p, hx, hty⟩ := kit_of_rep S hA hX.K I r1 q1 (isi_known e1)
    obtain ⟨hc, e3⟩ := isi1_kit hA r2 q2 e1 hty
    rw [← hX.K] at e3
    exact PySem.W.kia_one Z I.kIn p e3 hx fun tk => ⟨.bl b, H, I.tok tk, rfl, hQ w H _ (Le.refl w) S (.bl _)⟩
  · cases e
end
end DI

set_option Elab.async false
set_option linter.all false
set_option maxRecDepth 100000
set_option maxHeartbeats 4000000
/-! DI9: calls of the text's own defs. -/
namespace DI
open PySem PySem.Spec PyProof.Rows L2
abbrev FnD := List D → Mem → Res D
/-- what a caller wants of a def's result -/
def OkC (G : Gb) (w : Wd) (r : Res D) (Q : VK) (E : XK) : Prop := match r with
  | .ok d M' => ∀ w' H' v, Le w w' → Sim0 G w' H' M' → Rep G w' d v → Q v H'
  | .err c ns vs M' => ∀ w' H' C d, Le w w' → Sim0 G w' H' M' → ExcV G w' c ns vs C d → E (.ref C) d H'
  | .stuck => False
/-- the promise made of a function -/
def spOf (G : Gb) (n : Nat) (F : FnD) : Sp := fun vs H Q E => vs.length = n ∧ ∃ w ds M, w.own = none ∧ Sim0 G w H M ∧ Reps G w ds vs ∧ OkC G w (F ds M) Q E
section
variable {G : Gb} {W : WX} {own : Option (List (Str × Addr))} {X : Cx} {pos p : Pos}
def Wd.shut (w : Wd) : Wd := { w with own := none }
theorem Sim0.shut {G : Gb} {w : Wd} {H : Hp} {M : Mem} (S : Sim0 G w H M) : Sim0 G w.shut H M := ⟨S.z, S.p, S.zp, S.pl, S.len, S.inj, S.zr, S.m, S.tabs, S.tz⟩
theorem Sim0.reown {G : Gb} {w : Wd} {H : Hp} {M : Mem} {o : Option (List (Str × Addr))} (S : Sim0 G w H M) : Sim0 G { w with own := o } H M := ⟨S.z, S.p, S.zp, S.pl, S.len, S.inj, S.zr, S.m, S.tabs, S.tz⟩
theorem OkC.open {G : Gb} {w : Wd} {r : Res D} {Q : VK} {E : XK} (h : OkC G w r Q E) : OkC G w.shut r Q E := by
  have up : ∀ {w' : Wd}, Le w.shut w' → Le w { w' with own := w.own } ∧ LeR w' { w' with own := w.own } := fun {w'} l => by
    refine ⟨⟨l.z, l.p, l.n, l.r, rfl⟩, ⟨fun _ _ h => h, Nat.le_refl _, fun _ _ => rfl, fun x e => ?_⟩⟩
    have : w'.own = none := l.o
    rw [this] at e
    cases e
  cases r with
  | ok d M => exact fun w' H' v l S r => h _ H' v (up l).1 S.reown (r.mono (up l).2)
  | err c ns vs M => exact fun w' H' C d l S x => h _ H' C d (up l).1 S.reown (x.mono (up l).2)
  | stuck => exact h
def cCall (F : FnD) (b : EvL) : EvE := fun env M => (b env M).bind fun ds M1 => F ds M1
/-- .. in a def that makes closures: none goes to the callee -/
def cCallC (F : FnD) (b : EvL) : EvE := fun env M => (b env M).bind fun ds M1 => if belows M1.length ds = true then F ds M1 else .stuck
theorem okC_of {w : Wd} {r : Res D} {Q : VK} {σ : L2.St} (h : OkE G W σ w r Q) : OkC G w r Q (WE W σ) := by
  cases r with
  | ok d M => exact h
  | err c ns vs M => exact h
  | stuck => exact h
theorem pd_call {x : Str} {F : FnD} {e : Expr} {es : List Expr} {b : EvL} {k : Nat} {f : Addr} {fd : FuncData} {ps : List Str} (hF : FnOk X.prog X.w X.K X.mg X.base (L2.CX X.prog X.w) k f fd ps (spOf G (es.length + 1) F)) (hr : Room k X.A) (tk : Takes X W)
    (hg : Gl X x) (hm : X.mg x = some (.ref f)) (hk : PySem.W.keepIn X.K (.ref f) = true) (hb : Binds X.K fd ps []) (ha : PA X (e :: es) (tL G W none b)) (hl : ∀ env M ds M', b env M = .ok ds M' → ds.length = es.length + 1)
    (hdb : (x == ("__debug__" : Str)) = false) (he : starEach (e :: es) X.env = (false, eval e X.env) :: starEach es X.env) (hpl : (backTo pos (starEach es X.env)).any (·.1) = false) : PE X (.Call (.Name x p) (e :: es) [] pos) (tE G W none (cCall F b)) :=
  PE_imp (pe_callSD hF hr hg hm hk hb .nil (passAt tk) ha hdb he hpl) fun σ H Q h => by
    obtain ⟨w, env, M, S, E, h⟩ := h
    unfold tCallSD
    refine ⟨w, env, M, S, E, ?_⟩
    unfold cCall at h
    cases e1 : b env M with
    | ok ds M1 =>
      rw [e1] at h
      intro w1 H1 vs l1 S1 r1
      rw [List.append_nil]
      refine ⟨by rw [← r1.length]; exact hl _ _ _ _ e1, w1, ds, M1, l1.o.trans E.ow, S1, r1, okC_of (h.mono l1)⟩
    | err c ns vs M1 =>
      rw [e1] at h
      exact h
    | stuck =>
      rw [e1] at h
      exact h
theorem pd_callC {x : Str} {F : FnD} {e : Expr} {es : List Expr} {b : EvL} {k : Nat} {f : Addr} {fd : FuncData} {ps : List Str} (hF : FnOk X.prog X.w X.K X.mg X.base (L2.CX X.prog X.w) k f fd ps (spOf G (es.length + 1) F)) (hr : Room k X.A) (tk : Takes X W)
    (hg : Gl X x) (hm : X.mg x = some (.ref f)) (hk : PySem.W.keepIn X.K (.ref f) = true) (hb : Binds X.K fd ps []) (ha : PA X (e :: es) (tL G W own b)) (hl : ∀ env M ds M', b env M = .ok ds M' → ds.length = es.length + 1)
    (hdb : (x == ("__debug__" : Str)) = false) (he : starEach (e :: es) X.env = (false, eval e X.env) :: starEach es X.env) (hpl : (backTo pos (starEach es X.env)).any (·.1) = false) : PE X (.Call (.Name x p) (e :: es) [] pos) (tE G W own (cCallC F b)) :=
  PE_imp (pe_callSD hF hr hg hm hk hb .nil (passAt tk) ha hdb he hpl) fun σ H Q h => by
    obtain ⟨w, env, M, S, E, h⟩ := h
    unfold tCallSD
    refine ⟨w, env, M, S, E, ?_⟩
    unfold cCallC at h
    cases e1 : b env M with
    | ok ds M1 =>
      rw [e1] at h
      intro w1 H1 vs l1 S1 r1
      rw [List.append_nil]
      have h2 := h.mono l1
      simp only [Res.bind_ok] at h2
      split at h2
      · rename_i hb
        exact ⟨by rw [← r1.length]; exact hl _ _ _ _ e1, w1.shut, ds, M1, rfl, S1.shut, (belows_rep r1 (S1.len ▸ hb)).mono ⟨fun _ _ h => h, Nat.le_refl _, fun _ _ => rfl, fun _ e => by cases e⟩, (okC_of h2).open⟩
      · exact h2.elim
    | err c ns vs M1 =>
      rw [e1] at h
      exact h
    | stuck =>
      rw [e1] at h
      exact h
/-! ### keywords -/
theorem run_fnkS {CX : CXT} {k : Nat} {f : Addr} {fd : FuncData} {ps ks : List Str} {sp : Sp} {E : L2.St → XK} {g : List Value → List Value → List Value} {gV : List V → List V → List V} {pins : List (Addr × Obj)} {σ : L2.St} {H : Hp} {s : Shared} {Q : VK} {us ws : List Value} {vs zs : List V}
    (F : FnOk X.prog X.w X.K X.mg X.base CX k f fd ps sp) (hr : Room k X.A) (hb : KBinds X.K fd ps ks g gV) (hx : PassesAt CX X σ (E σ)) (I : Inv X pins σ H s) (r : Vals vs us) (rz : Vals zs ws) (h : sp (gV vs zs) H Q (E σ)) : wpAny (model X.prog X.w) X.A (call (.ref f) us (ks.zip ws)) (EP X pins σ Q) X.xe s := by
  have r2 := hb.rel r rz
  have hl : (g us ws).length = ps.length := by rw [← r2.length]; exact F.len _ _ _ _ h
  refine wpAny_call (codeAny_mono (F.run X.A X.stack s H ⟨us, ks.zip ws⟩ (g us ws) (gV vs zs) Q (E σ) hr I.env0 (hb.to s us ws I.kIn hl) r2 h) fun r s' hq => ?_)
  cases r with
  | error e => exact hx pins H s e s' I hq
  | ok fl =>
    cases fl with
    | ret u => exact I.after hq
    | next => exact False.elim hq
    | brk => exact False.elim hq
    | cont => exact False.elim hq
def tCallKS (sp : Sp) (gV : List V → List V → List V) (E : L2.St → XK) (t tk : TA) : TE := fun σ H Q => t σ H fun vs H1 => tk σ H1 fun zs H2 => sp (gV vs zs) H2 Q (E σ)
section
variable {CX : CXT} {k : Nat} {f : Addr} {fd : FuncData} {ps ks : List Str} {sp : Sp} {E : L2.St → XK} {g : List Value → List Value → List Value} {gV : List V → List V → List V} {x : Str} {e : Expr} {es : List Expr} {kws : List Keyword} {t tk : TA}
theorem pe_callKS (F : FnOk X.prog X.w X.K X.mg X.base CX k f fd ps sp) (hr : Room k X.A) (hg : Gl X x) (hm : X.mg x = some (.ref f)) (hk : PySem.W.keepIn X.K (.ref f) = true) (hb : KBinds X.K fd ps ks g gV) (hx : ∀ σ, PassesAt CX X σ (E σ))
    (ha : PA X (e :: es) t) (hkw : PK X kws tk) (hall : (backToKw pos (keywordEach kws X.env)).all (·.1.isSome) = true) (hks : (backToKw pos (keywordEach kws X.env)).filterMap (·.1) = ks)
    (hdb : (x == ("__debug__" : Str)) = false) (he : starEach (e :: es) X.env = (false, eval e X.env) :: starEach es X.env)
    (hpl : ((backTo pos (starEach (e :: es) X.env)).any (·.1) || (backToKw pos (keywordEach kws X.env)).any (·.1.isNone)) = false) :
    PE X (.Call (.Name x p) (e :: es) kws pos) (tCallKS sp gV E t tk) := by
  refine ⟨fun pins s σ H Q I h => ?_⟩
  refine wpAny_Call_Name_kw (ld_glob I hg hm ?_ hdb)
  refine PySem.W.callWith_KW (h₀ := X.base) I.ok.mod.kin hk hall (thn (ha.run pos pins s σ H _ I h) fun us s1 ⟨vs, H1, I1, r, q⟩ => ?_) hpl he
  refine thn (hkw.run pos pins s1 σ H1 _ I1 q) fun ws s2 ⟨zs, H2, I2, rz, q2⟩ => ⟨I2.kIn, ?_⟩
  rw [hks]
  exact run_fnkS F hr hb (hx σ) I2 r rz q2
theorem pe_callKS0 (F : FnOk X.prog X.w X.K X.mg X.base CX k f fd ps sp) (hr : Room k X.A) (hg : Gl X x) (hm : X.mg x = some (.ref f)) (hk : PySem.W.keepIn X.K (.ref f) = true) (hb : KBinds X.K fd ps ks g gV) (hx : ∀ σ, PassesAt CX X σ (E σ))
    (hkw : PK X kws tk) (hall : (backToKw pos (keywordEach kws X.env)).all (·.1.isSome) = true) (hks : (backToKw pos (keywordEach kws X.env)).filterMap (·.1) = ks)
    (hdb : (x == ("__debug__" : Str)) = false) (hpl : ((backTo pos (starEach [] X.env)).any (·.1) || (backToKw pos (keywordEach kws X.env)).any (·.1.isNone)) = false) :
    PE X (.Call (.Name x p) [] kws pos) (tCallKS sp gV E tNil tk) := by
  refine ⟨fun pins s σ H Q I h => ?_⟩
  refine wpAny_Call_Name_kw (ld_glob I hg hm ?_ hdb)
  refine PySem.W.callWith_KW0 (h₀ := X.base) I.ok.mod.kin hk hall ?_ hpl
  refine thn (hkw.run pos pins s σ H _ I h) fun ws s2 ⟨zs, H2, I2, rz, q2⟩ => ⟨I2.kIn, ?_⟩
  rw [hks]
  exact run_fnkS F hr hb (hx σ) I2 .nil rz q2
end
theorem pdk_nil : PK X [] (tL G W own cNil) := ⟨fun pos pins s σ H Q I h => pk_nil.run pos pins s σ H Q I (by
  obtain ⟨w, env, M, S, E, h⟩ := h
  exact h w H [] (Le.refl w) S .nil)⟩
theorem pdk_cons {e : Expr} {nm : Option Str} {kpos : Pos} {kws : List Keyword} {a : EvE} {b : EvL} (ha : PE X e (tE G W own a)) (hb : PK X kws (tL G W own b)) : PK X (⟨nm, e, kpos⟩ :: kws) (tL G W own (cCons a b)) :=
  ⟨fun pos pins s σ H Q I h => (pk_cons ha hb).run pos pins s σ H Q I (by
    obtain ⟨w, env, M, S, E, h⟩ := h
    refine tG_bind (g := fun x M1 => (b env M1).bind fun xs M2 => .ok (x :: xs) M2) S E h fun dx M1 w1 H1 x l1 S1 E1 r1 h1 => ?_
    refine tG_bind (g := fun xs M2 => .ok (dx :: xs) M2) S1 E1 h1 fun ds M2 w2 H2 xs l2 S2 E2 r2 h2 => ?_
    exact h2 w2 H2 _ (Le.refl _) S2 (.cons (r1.mono l2.toR) r2))⟩
/-- the arguments in the parameters' order: the positional ones, then the keywords' by their places -/
def pick {α : Type} (pm : List Nat) (zs : List α) : List α := pm.filterMap fun i => zs[i]?
def cCallK (F : FnD) (pm : List Nat) (b c : EvL) : EvE := fun env M => (b env M).bind fun ds M1 => (c env M1).bind fun es M2 => F (ds ++ pick pm es) M2
def cCallKC (F : FnD) (pm : List Nat) (b c : EvL) : EvE := fun env M => (b env M).bind fun ds M1 => (c env M1).bind fun es M2 => if belows M2.length (ds ++ pick pm es) = true then F (ds ++ pick pm es) M2 else .stuck
theorem pick_rep {w : Wd} {ds : List D} {vs : List V} (r : Reps G w ds vs) : ∀ pm : List Nat, Reps G w (pick pm ds) (pick pm vs)
  | [] => .nil
  | i :: pm => by
    unfold pick
    rw [List.filterMap_cons, List.filterMap_cons]
    cases e : ds[i]? with
    | none =>
      have : vs[i]? = none := by rw [List.getElem?_eq_none_iff] at e ⊢; rw [← r.length]; exact e
      rw [this]
      exact pick_rep r pm
    | some d =>
      obtain ⟨v, e1, r1⟩ := r.get e
      rw [e1]
      exact .cons r1 (pick_rep r pm)
theorem tCallKS_of {F : FnD} {pm : List Nat} {b c : EvL} {n : Nat} {σ : L2.St} {H : Hp} {Q : VK} (hl : ∀ env M ds M1 es M2, b env M = .ok ds M1 → c env M1 = .ok es M2 → (ds ++ pick pm es).length = n) (h : tE G W none (cCallK F pm b c) σ H Q) :
    tCallKS (spOf G n F) (fun vs zs => vs ++ pick pm zs) (WE W) (tL G W none b) (tL G W none c) σ H Q := by
  obtain ⟨w, env, M, S, E, h⟩ := h
  unfold tCallKS
  refine ⟨w, env, M, S, E, ?_⟩
  unfold cCallK at h
  cases e1 : b env M with
  | err c ns vs M1 => rw [e1] at h; exact h
  | stuck => rw [e1] at h; exact h
  | ok ds M1 =>
    rw [e1] at h
    intro w1 H1 vs l1 S1 r1
    have h1 := h.mono l1
    refine ⟨w1, env, M1, S1, E.mono l1, ?_⟩
    simp only [Res.bind_ok] at h1
    cases e2 : c env M1 with
    | err c ns vs M1 => rw [e2] at h1; exact h1
    | stuck => rw [e2] at h1; exact h1
    | ok es M2 =>
      rw [e2] at h1
      intro w2 H2 zs l2 S2 r2
      have r3 := (r1.mono l2.toR).append (pick_rep r2 pm)
      exact ⟨by rw [← r3.length]; exact hl _ _ _ _ _ _ e1 e2, w2, _, M2, (l1.trans l2).o.trans E.ow, S2, r3, okC_of (h1.mono l2)⟩
theorem tCallKSC_of {F : FnD} {pm : List Nat} {b c : EvL} {n : Nat} {σ : L2.St} {H : Hp} {Q : VK} (hl : ∀ env M ds M1 es M2, b env M = .ok ds M1 → c env M1 = .ok es M2 → (ds ++ pick pm es).length = n) (h : tE G W own (cCallKC F pm b c) σ H Q) :
    tCallKS (spOf G n F) (fun vs zs => vs ++ pick pm zs) (WE W) (tL G W own b) (tL G W own c) σ H Q := by
  obtain ⟨w, env, M, S, E, h⟩ := h
  unfold tCallKS
  refine ⟨w, env, M, S, E, ?_⟩
  unfold cCallKC at h
  cases e1 : b env M with
  | err c ns vs M1 => rw [e1] at h; exact h
  | stuck => rw [e1] at h; exact h
  | ok ds M1 =>
    rw [e1] at h
    intro w1 H1 vs l1 S1 r1
    have h1 := h.mono l1
    refine ⟨w1, env, M1, S1, E.mono l1, ?_⟩
    simp only [Res.bind_ok] at h1
    cases e2 : c env M1 with
    | err c ns vs M1 => rw [e2] at h1; exact h1
    | stuck => rw [e2] at h1; exact h1
    | ok es M2 =>
      rw [e2] at h1
      intro w2 H2 zs l2 S2 r2
      have r3 := (r1.mono l2.toR).append (pick_rep r2 pm)
      have h2 := h1.mono l2
      simp only [Res.bind_ok] at h2
      split at h2
      · rename_i hb
        exact ⟨by rw [← r3.length]; exact hl _ _ _ _ _ _ e1 e2, w2.shut, _, M2, rfl, S2.shut, (belows_rep r3 (S2.len ▸ hb)).mono ⟨fun _ _ h => h, Nat.le_refl _, fun _ _ => rfl, fun _ e => by cases e⟩, (okC_of h2).open⟩
      · exact h2.elim
end
end DI

set_option Elab.async false
set_option linter.all false
set_option maxRecDepth 100000
set_option maxHeartbeats 4000000
/-! DI10: statements. -/
namespace DI
open PySem PySem.Spec PyProof.Rows L2
inductive RS where
  | nx (env : En) (M : Mem)
  | rt (d : D) (M : Mem)
  | bk (env : En) (M : Mem)
  | ct (env : En) (M : Mem)
  | err (c : Str) (ns : List Str) (vs : List D) (env : En) (M : Mem)
  | stuck
abbrev EvS := En → Mem → RS
/-- go on with a value -/
def Res.thenS {α : Type} (r : Res α) (env : En) (k : α → Mem → RS) : RS := match r with
  | .ok a M => k a M
  | .err c ns vs M => .err c ns vs env M
  | .stuck => .stuck
def RS.seq (r : RS) (k : EvS) : RS := match r with
  | .nx env M => k env M
  | r => r
@[simp] theorem thenS_ok {α : Type} (a : α) (M : Mem) (env : En) (k : α → Mem → RS) : (Res.ok a M).thenS env k = k a M := rfl
@[simp] theorem thenS_err {α : Type} (c ns vs M) (env : En) (k : α → Mem → RS) : (Res.err c ns vs M : Res α).thenS env k = .err c ns vs env M := rfl
@[simp] theorem thenS_stuck {α : Type} (env : En) (k : α → Mem → RS) : (Res.stuck : Res α).thenS env k = .stuck := rfl
@[simp] theorem seq_nx (env M k) : (RS.nx env M).seq k = k env M := rfl
@[simp] theorem seq_rt (d M k) : (RS.rt d M).seq k = .rt d M := rfl
@[simp] theorem seq_bk (d M k) : (RS.bk d M).seq k = .bk d M := rfl
@[simp] theorem seq_ct (d M k) : (RS.ct d M).seq k = .ct d M := rfl
@[simp] theorem seq_err (c ns vs env M k) : (RS.err c ns vs env M).seq k = .err c ns vs env M := rfl
@[simp] theorem seq_stuck (k) : RS.stuck.seq k = .stuck := rfl
def OkS (G : Gb) (W : WX) (own : Option (List (Str × Addr))) (w : Wd) (r : RS) (D : Ends) : Prop := match r with
  | .nx env M => ∀ w' H' σ', Le w w' → Sim0 G w' H' M → SimE G w' own σ' env → D.nx σ' H'
  | .rt d M => ∀ w' H' v, Le w w' → Sim0 G w' H' M → Rep G w' d v → D.rt v H'
  | .bk env M => ∀ w' H' σ', Le w w' → Sim0 G w' H' M → SimE G w' own σ' env → D.bk σ' H'
  | .ct env M => ∀ w' H' σ', Le w w' → Sim0 G w' H' M → SimE G w' own σ' env → D.ct σ' H'
  | .err c ns vs env M => ∀ w' H' C d σ', Le w w' → Sim0 G w' H' M → SimE G w' own σ' env → ExcV G w' c ns vs C d → W (.ref C) d σ' H'
  | .stuck => False
def tS (G : Gb) (W : WX) (own : Option (List (Str × Addr))) (f : EvS) : TS := fun D σ H => ∃ w env M, Sim0 G w H M ∧ SimE G w own σ env ∧ OkS G W own w (f env M) D
section
variable {G : Gb} {W : WX} {own : Option (List (Str × Addr))} {X : Cx} {pos : Pos} {w w1 : Wd} {H : Hp} {M : Mem} {σ : L2.St} {env : En}
theorem OkS.mono {r : RS} {D : Ends} (l : Le w w1) (h : OkS G W own w r D) : OkS G W own w1 r D := by
  cases r with
  | nx env M => exact fun w' H' σ' l' => h w' H' σ' (l.trans l')
  | rt d M => exact fun w' H' σ' l' => h w' H' σ' (l.trans l')
  | bk env M => exact fun w' H' σ' l' => h w' H' σ' (l.trans l')
  | ct env M => exact fun w' H' σ' l' => h w' H' σ' (l.trans l')
  | err c ns vs env M => exact fun w' H' C d σ' l' => h w' H' C d σ' (l.trans l')
  | stuck => exact h
theorem tG_thenS {α β : Type} {R : Wd → α → β → Prop} {f : En → Mem → Res α} {g : α → Mem → RS} {D : Ends} {K : β → Hp → Prop}
    (S : Sim0 G w H M) (E : SimE G w own σ env) (h : OkS G W own w ((f env M).thenS env g) D)
    (hk : ∀ d M1 w1 H1 v, Le w w1 → Sim0 G w1 H1 M1 → SimE G w1 own σ env → R w1 d v → OkS G W own w1 (g d M1) D → K v H1) : tG G W own R f σ H K := by
  refine ⟨w, env, M, S, E, ?_⟩
  cases e : f env M with
  | ok d M1 =>
    rw [e] at h
    exact fun w1 H1 v l S1 r => hk d M1 w1 H1 v l S1 (E.mono l) r (h.mono l)
  | err c ns vs M1 =>
    rw [e] at h
    exact fun w' H' C d l S' x => h w' H' C d σ l S' (E.mono l) x
  | stuck =>
    rw [e] at h
    exact h
/-! ### blocks -/
def sNil : EvS := fun env M => .nx env M
def sSeq (a b : EvS) : EvS := fun env M => (a env M).seq b
def sBrk : EvS := fun env M => .bk env M
def sCnt : EvS := fun env M => .ct env M
def sDrop (a : EvE) : EvS := fun env M => (a env M).thenS env fun _ M1 => .nx env M1
def sRet (a : EvE) : EvS := fun env M => (a env M).thenS env fun d M1 => .rt d M1
def sRetN : EvS := fun _ M => .rt .non M
def sIf (c : EvE) (a b : EvS) : EvS := fun env M => (cTst c env M).thenS env fun t M1 => if t = true then a env M1 else b env M1
def sStuck : EvS := fun _ _ => .stuck
theorem psd_nil : PSs X [] (tS G W own sNil) := PSs_imp pss_nil fun σ H D h => by
  obtain ⟨w, env, M, S, E, h⟩ := h
  exact h w H σ (Le.refl w) S E
theorem tS_seq {a b : EvS} {t : TS} {D : Ends} {σ : L2.St} {H : Hp} (h : tS G W own (sSeq a b) D σ H) : tSeq (tS G W own a) (tS G W own b) D σ H := by
  obtain ⟨w, env, M, S, E, h⟩ := h
  refine ⟨w, env, M, S, E, ?_⟩
  unfold sSeq at h
  revert h
  cases a env M with
  | nx env' M' => exact fun h w' H' σ' l S' E' => ⟨w', env', M', S', E', h.mono l⟩
  | rt d M => exact id
  | bk env M => exact id
  | ct env M => exact id
  | err c ns vs env M => exact id
  | stuck => exact id
theorem psd_cons {st : Stmt} {rest : List Stmt} {a b : EvS} (ha : PS X st (tS G W own a)) (hb : PSs X rest (tS G W own b)) : PSs X (st :: rest) (tS G W own (sSeq a b)) :=
  PSs_imp (pss_cons ha hb) fun _ _ _ h => tS_seq (t := tNext) h
theorem psd_one {st : Stmt} {a : EvS} (ha : PS X st (tS G W own a)) : PSs X [st] (tS G W own a) := pss_one ha
theorem psd_pass : PS X (.Pass pos) (tS G W own sNil) := PS_imp ps_pass fun σ H D h => by
  obtain ⟨w, env, M, S, E, h⟩ := h
  exact h w H σ (Le.refl w) S E
theorem psd_brk : PS X (.Break pos) (tS G W own sBrk) := PS_imp ps_break fun σ H D h => by
  obtain ⟨w, env, M, S, E, h⟩ := h
  exact h w H σ (Le.refl w) S E
theorem psd_cnt : PS X (.Continue pos) (tS G W own sCnt) := PS_imp ps_continue fun σ H D h => by
  obtain ⟨w, env, M, S, E, h⟩ := h
  exact h w H σ (Le.refl w) S E
theorem psd_expr {e : Expr} {a : EvE} (he : PE X e (tE G W own a)) (hs : swapsWith e none pos.line X.env = pure false := by rfl) : PS X (.Expr e pos) (tS G W own (sDrop a)) := PS_imp (ps_expr he hs) fun σ H D h => by
  obtain ⟨w, env, M, S, E, h⟩ := h
  exact tG_thenS (g := fun _ M1 => .nx env M1) S E h fun d M1 w1 H1 v l S1 E1 r h1 => h1 w1 H1 σ (Le.refl _) S1 E1
theorem psd_ret {e : Expr} {a : EvE} (he : PE X e (tE G W own a)) : PS X (.Return (some e) pos) (tS G W own (sRet a)) := PS_imp (ps_ret he) fun σ H D h => by
  obtain ⟨w, env, M, S, E, h⟩ := h
  exact tG_thenS (g := fun d M1 => .rt d M1) S E h fun d M1 w1 H1 v l S1 E1 r h1 => h1 w1 H1 v (Le.refl _) S1 r
theorem psd_retN : PS X (.Return none pos) (tS G W own sRetN) := PS_imp ps_retN fun σ H D h => by
  obtain ⟨w, env, M, S, E, h⟩ := h
  exact h w H _ (Le.refl w) S .non
theorem psd_if {c : Expr} {p q : List Stmt} {t : EvE} {a b : EvS} (hc : PT X c (tTs G W own t)) (ha : PSs X p (tS G W own a)) (hb : PSs X q (tS G W own b)) : PS X (.If c p q pos) (tS G W own (sIf t a b)) := PS_imp (ps_if hc ha hb) fun σ H D h => by
  obtain ⟨w, env, M, S, E, h⟩ := h
  refine tG_thenS (g := fun t M1 => if t = true then a env M1 else b env M1) S E h fun t M1 w1 H1 v l S1 E1 r h1 => ?_
  subst r
  cases t with
  | true => exact ⟨w1, env, M1, S1, E1, h1⟩
  | false => exact ⟨w1, env, M1, S1, E1, h1⟩
theorem psd_never {st : Stmt} : PS X st (tS G W own sStuck) := ⟨fun _ _ _ _ _ _ h => by obtain ⟨w, env, M, S, E, h⟩ := h; exact h.elim⟩
theorem pssd_never {st : List Stmt} : PSs X st (tS G W own sStuck) := ⟨fun _ _ _ _ _ _ h => by obtain ⟨w, env, M, S, E, h⟩ := h; exact h.elim⟩

/-! ### targets of names -/
inductive Tgt where
  | nm (i : Nat)
  | tp (ts : List Tgt)
mutual
def setT (M : Mem) : Tgt → D → En → Option En
  | .nm i, d, env => some (env.set i (.val d))
  | .tp ts, d, env => match der M d with
    | .tup ds => setTs M ts ds env
    | _ => none
def setTs (M : Mem) : List Tgt → List D → En → Option En
  | [], [], env => some env
  | t :: ts, d :: ds, env => (setT M t d env).bind (setTs M ts ds)
  | _, _, _ => none
end
mutual
def gT (K : PySem.W.Frag) : Tgt → TG
  | .nm i => gName i
  | .tp ts => gTup K ts.length (gTs K ts)
def gTs (K : PySem.W.Frag) : List Tgt → TGs
  | [] => gNil
  | t :: ts => gCons (gT K t) (gTs K ts)
end
mutual
def Tgt.ix : Tgt → List Nat
  | .nm i => [i]
  | .tp ts => Tgt.ixs ts
def Tgt.ixs : List Tgt → List Nat
  | [] => []
  | t :: ts => t.ix ++ Tgt.ixs ts
end
theorem SimE.set {d : D} {v : V} (E : SimE G w own σ env) (r : Rep G w d v) (i : Nat) : SimE G w own (σ.set i (some v)) (env.set i (.val d)) := by
  refine ⟨E.ow, by rw [List.length_set, List.length_set]; exact E.len, fun j s e => ?_⟩
  by_cases h : i = j
  · subst h
    have hl : i < env.length := by
      have := (List.getElem?_eq_some_iff.mp e).1
      rwa [List.length_set] at this
    rw [List.getElem?_set_self hl] at e
    cases e
    exact ⟨v, List.getElem?_set_self (by rw [← E.len]; exact hl), r⟩
  · rw [List.getElem?_set_ne h] at e
    have q := E.sl j s e
    cases s with
    | none => trivial
    | val d => obtain ⟨v, e1, r1⟩ := q; exact ⟨v, by rw [List.getElem?_set_ne h]; exact e1, r1⟩
/-- the slots outside of some places -/
def OffOf (is : List Nat) (σ σ' : L2.St) : Prop := σ.length = σ'.length ∧ ∀ j, j ∉ is → σ'[j]? = σ[j]?
theorem reps_len {ds : List D} {vs : List V} (r : Reps G w ds vs) : ds.length = vs.length := r.length
mutual
theorem setT_len {M : Mem} : ∀ {t : Tgt} {d : D} {env env' : En}, setT M t d env = some env' → env'.length = env.length
  | .nm i, d, env, env', e => by cases e; rw [List.length_set]
  | .tp ts, d, env, env', e => by
    unfold setT at e
    split at e
    · exact setTs_len e
    · cases e
theorem setTs_len {M : Mem} : ∀ {ts : List Tgt} {ds : List D} {env env' : En}, setTs M ts ds env = some env' → env'.length = env.length
  | [], [], env, env', e => by cases e; rfl
  | t :: ts, d :: ds, env, env', e => by
    unfold setTs at e
    obtain ⟨e1, h1, h2⟩ := Option.bind_eq_some_iff.mp e
    rw [setTs_len h2, setT_len h1]
  | [], d :: ds, env, env', e => by cases e
  | t :: ts, [], env, env', e => by cases e
end
theorem setTs_ln {M : Mem} : ∀ {ts : List Tgt} {ds : List D} {env env' : En}, setTs M ts ds env = some env' → ds.length = ts.length
  | [], [], env, env', e => rfl
  | t :: ts, d :: ds, env, env', e => by
    unfold setTs at e
    obtain ⟨e1, h1, h2⟩ := Option.bind_eq_some_iff.mp e
    rw [List.length_cons, List.length_cons, setTs_ln h2]
  | [], d :: ds, env, env', e => by cases e
  | t :: ts, [], env, env', e => by cases e
mutual
theorem gT_of (S : Sim0 G w H M) : ∀ {t : Tgt} {d : D} {v : V} {σ : L2.St} {env env' : En} {Q : L2.St → Hp → Prop}, setT M t d env = some env' → Rep G w d v → SimE G w own σ env → (∀ σ', SimE G w own σ' env' → OffOf t.ix σ σ' → Q σ' H) → gT G.K t v σ H Q
  | .nm i, d, v, σ, env, env', Q, e, r, E, hq => by
    cases e
    exact hq _ (E.set r i) ⟨by rw [List.length_set], fun j hj => List.getElem?_set_ne (fun z => hj (by simp [Tgt.ix, z]))⟩
  | .tp ts, d, v, σ, env, env', Q, e, r, E, hq => by
    unfold setT at e
    split at e
    · rename_i ds ed
      obtain ⟨a, vs, rfl, h1, h2⟩ := der_tup S r ed
      exact ⟨a, vs, rfl, h1, by rw [← h2.length]; exact setTs_ln e, gTs_of S e h2 E hq⟩
    · cases e
theorem gTs_of (S : Sim0 G w H M) : ∀ {ts : List Tgt} {ds : List D} {vs : List V} {σ : L2.St} {env env' : En} {Q : L2.St → Hp → Prop}, setTs M ts ds env = some env' → Reps G w ds vs → SimE G w own σ env → (∀ σ', SimE G w own σ' env' → OffOf (Tgt.ixs ts) σ σ' → Q σ' H) → gTs G.K ts vs σ H Q
  | [], [], vs, σ, env, env', Q, e, r, E, hq => by
    cases e
    cases r
    exact ⟨rfl, hq σ E ⟨rfl, fun _ _ => rfl⟩⟩
  | t :: ts, d :: ds, vs, σ, env, env', Q, e, r, E, hq => by
    unfold setTs at e
    obtain ⟨e1, h1, h2⟩ := Option.bind_eq_some_iff.mp e
    cases r with
    | cons r rr =>
      refine ⟨_, _, rfl, gT_of S h1 r E fun σ1 E1 o1 => gTs_of S h2 rr E1 fun σ2 E2 o2 => hq σ2 E2 ⟨o1.1.trans o2.1, fun j hj => ?_⟩⟩
      have hj' : j ∉ t.ix ∧ j ∉ Tgt.ixs ts := by simpa [Tgt.ixs] using hj
      rw [o2.2 j hj'.2, o1.2 j hj'.1]
  | [], d :: ds, vs, σ, env, env', Q, e, r, E, hq => by cases e
  | t :: ts, [], vs, σ, env, env', Q, e, r, E, hq => by cases e
end
/-! ### stores to names -/
def optS (o : Option En) (M : Mem) : RS := match o with
  | some env => .nx env M
  | none => .stuck
def sSet (t : Tgt) (a : EvE) : EvS := fun env M => (a env M).thenS env fun d M1 => optS (setT M1 t d env) M1
theorem tAsg_of {t : Tgt} {a : EvE} {D : Ends} {σ : L2.St} {H : Hp} (h : tS G W own (sSet t a) D σ H) : tAsg (tE G W own a) (gT G.K t) D σ H := by
  obtain ⟨w, env, M, S, E, h⟩ := h
  refine tG_thenS (g := fun d M1 => optS (setT M1 t d env) M1) S E h fun d M1 w1 H1 v l S1 E1 r h1 => ?_
  cases e : setT M1 t d env with
  | none => rw [e] at h1; exact h1.elim
  | some env' =>
    rw [e] at h1
    exact gT_of S1 e r E1 fun σ' E' _ => h1 w1 H1 σ' (Le.refl _) S1 E'
theorem psd_set {i : Nat} {x : Str} {e : Expr} {a : EvE} {pos' : Pos} (hN : X.N.Nodup) (hi : X.N[i]? = some x) (hx : Loc X.env.scope x) (he : PE X e (tE G W own a)) (hf : X.fn x = true ∨ X.env.scope.names.lookup x = some .local) (hs : swapsWith e (some (.Name x pos')) pos.line X.env = pure false := by rfl) :
    PS X (.Assign [.Name x pos'] e pos) (tS G W own (sSet (.nm i) a)) := PS_imp (ps_set hN hi hx he hs hf) fun _ _ _ h => tAsg_of h
theorem psd_unpack {tg e : Expr} {a : EvE} {t : Tgt} (he : PE X e (tE G W own a)) (hg : PG X tg (gT G.K t)) (hs : swapsWithSole [tg] e pos.line X.env = pure false := by rfl) (hw : swappedStores [tg] e X.env = pure none := by rfl)
    (h1 : (assignEach [tg] X.env).map (·.2) = [assign tg X.env] := by rfl) : PS X (.Assign [tg] e pos) (tS G W own (sSet t a)) := PS_imp (ps_asg he hg hs hw h1) fun _ _ _ h => tAsg_of h
/-- a, b = x, y -/
def set2 (i j : Nat) : List D → En → Option En
  | [x, y], env => some ((env.set i (.val x)).set j (.val y))
  | _, _ => none
def sPar2 (i j : Nat) (b : EvL) : EvS := fun env M => (b env M).thenS env fun ds M1 => optS (set2 i j ds env) M1
theorem psd_par2 {i j : Nat} {x y : Str} {ea eb : Expr} {b : EvL} {px py pt : Pos} {kt k2 pt2} (hc : X.calm = true) (hN : X.N.Nodup) (hi : X.N[i]? = some x) (hj : X.N[j]? = some y) (hij : i ≠ j)
    (hx : X.env.scope.names.lookup x = some .local) (hy : X.env.scope.names.lookup y = some .local) (ha : PA X [ea, eb] (tL G W own b))
    (hw : swappedStores [.Tuple [.Name x px, .Name y py] kt pt] (.Tuple [ea, eb] k2 pt2) X.env = pure (some [x, y]))
    (hs : swapsWithSole [.Tuple [.Name x px, .Name y py] kt pt] (.Tuple [ea, eb] k2 pt2) pos.line X.env = pure false := by rfl) :
    PS X (.Assign [.Tuple [.Name x px, .Name y py] kt pt] (.Tuple [ea, eb] k2 pt2) pos) (tS G W own (sPar2 i j b)) :=
  PS_imp (ps_par hc hN hi hj hij hx hy ha hw hs) fun σ H D h => by
    obtain ⟨w, env, M, S, E, h⟩ := h
    refine tG_thenS (g := fun ds M1 => optS (set2 i j ds env) M1) S E h fun ds M1 w1 H1 vs l S1 E1 r h1 => ?_
    match ds, r, h1 with
    | [dx, dy], .cons r1 (.cons r2 .nil), h1 => exact ⟨_, _, rfl, h1 w1 H1 _ (Le.refl _) S1 ((E1.set r1 i).set r2 j)⟩
    | [], _, h1 => exact h1.elim
    | [_], _, h1 => exact h1.elim
    | _ :: _ :: _ :: _, _, h1 => exact h1.elim
end
end DI

set_option Elab.async false
set_option linter.all false
set_option maxRecDepth 100000
set_option maxHeartbeats 4000000
/-! DI11: three stores at once, while, what is walked, for. -/
namespace DI
open PySem PySem.Spec PyProof.Rows L2
section
variable {G : Gb} {W : WX} {own : Option (List (Str × Addr))} {X : Cx} {pos : Pos} {w w1 : Wd} {H : Hp} {M : Mem} {σ : L2.St} {env : En}
def set3 (i j k : Nat) : List D → En → Option En
  | [x, y, z], env => some (((env.set i (.val x)).set j (.val y)).set k (.val z))
  | _, _ => none
def sPar3 (i j k : Nat) (b : EvL) : EvS := fun env M => (b env M).thenS env fun ds M1 => optS (set3 i j k ds env) M1
theorem psd_par3 {i j l : Nat} {x y z : Str} {ea eb ec : Expr} {b : EvL} {px py pz pt : Pos} {kt k2 pt2} (hc : X.calm = true) (hN : X.N.Nodup) (hi : X.N[i]? = some x) (hj : X.N[j]? = some y) (hl : X.N[l]? = some z) (hij : i ≠ j) (hil : i ≠ l) (hjl : j ≠ l)
    (hx : X.env.scope.names.lookup x = some .local) (hy : X.env.scope.names.lookup y = some .local) (hz : X.env.scope.names.lookup z = some .local) (ha : PA X [ea, eb, ec] (tL G W own b))
    (hw : swappedStores [.Tuple [.Name x px, .Name y py, .Name z pz] kt pt] (.Tuple [ea, eb, ec] k2 pt2) X.env = pure (some [x, y, z]))
    (hs : swapsWithSole [.Tuple [.Name x px, .Name y py, .Name z pz] kt pt] (.Tuple [ea, eb, ec] k2 pt2) pos.line X.env = pure false := by rfl) :
    PS X (.Assign [.Tuple [.Name x px, .Name y py, .Name z pz] kt pt] (.Tuple [ea, eb, ec] k2 pt2) pos) (tS G W own (sPar3 i j l b)) :=
  PS_imp (ps_par3 hc hN hi hj hl hij hil hjl hx hy hz ha hw hs) fun σ H D h => by
    obtain ⟨w, env, M, S, E, h⟩ := h
    refine tG_thenS (g := fun ds M1 => optS (set3 i j l ds env) M1) S E h fun ds M1 w1 H1 vs l S1 E1 r h1 => ?_
    match ds, r, h1 with
    | [dx, dy, dz], .cons r1 (.cons r2 (.cons r3 .nil)), h1 => exact ⟨_, _, _, rfl, h1 w1 H1 _ (Le.refl _) S1 (((E1.set r1 i).set r2 j).set r3 _)⟩
    | [], _, h1 => exact h1.elim
    | [_], _, h1 => exact h1.elim
    | [_, _], _, h1 => exact h1.elim
    | _ :: _ :: _ :: _ :: _, _, h1 => exact h1.elim

/-! ### while -/
/-- a loop's body's end, the loop going on with k -/
def RS.turn (r : RS) (k : EvS) : RS := match r with
  | .nx env M => k env M
  | .ct env M => k env M
  | .bk env M => .nx env M
  | r => r
@[simp] theorem turn_nx (env M k) : (RS.nx env M).turn k = k env M := rfl
@[simp] theorem turn_ct (env M k) : (RS.ct env M).turn k = k env M := rfl
@[simp] theorem turn_bk (env M k) : (RS.bk env M).turn k = .nx env M := rfl
@[simp] theorem turn_rt (d M k) : (RS.rt d M).turn k = .rt d M := rfl
@[simp] theorem turn_err (c ns vs env M k) : (RS.err c ns vs env M).turn k = .err c ns vs env M := rfl
@[simp] theorem turn_stuck (k) : RS.stuck.turn k = .stuck := rfl
def whF (c : EvE) (b : EvS) : Nat → EvS
  | 0 => fun _ _ => .stuck
  | n + 1 => fun env M => (cTst c env M).thenS env fun t M1 => if t = true then (b env M1).turn (whF c b n) else .nx env M1
open Classical in
noncomputable def sWhile (c : EvE) (b : EvS) : EvS := fun env M => if h : ∃ n, whF c b n env M ≠ .stuck then whF c b (Classical.choose h) env M else .stuck
theorem whF_mono (c : EvE) (b : EvS) : ∀ (n m : Nat), n ≤ m → ∀ env M, whF c b n env M ≠ .stuck → whF c b m env M = whF c b n env M
  | 0, m, _, env, M, h => (h rfl).elim
  | n + 1, 0, hm, _, _, _ => by omega
  | n + 1, m + 1, hm, env, M, h => by
    unfold whF at h ⊢
    cases e : cTst c env M with
    | err => rfl
    | stuck => rfl
    | ok t M1 =>
      rw [e] at h
      simp only [thenS_ok] at h ⊢
      cases t with
      | false => rfl
      | true =>
        simp only [if_true] at h ⊢
        cases e2 : b env M1 with
        | nx env' M2 => rw [e2] at h; exact whF_mono c b n m (by omega) env' M2 h
        | ct env' M2 => rw [e2] at h; exact whF_mono c b n m (by omega) env' M2 h
        | _ => rfl
theorem sWhile_of {c : EvE} {b : EvS} {n : Nat} {env : En} {M : Mem} {r : RS} (h : whF c b n env M = r) (hr : r ≠ .stuck) : sWhile c b env M = r := by
  have hx : ∃ n, whF c b n env M ≠ .stuck := ⟨n, by rw [h]; exact hr⟩
  unfold sWhile
  rw [dif_pos hx, ← h]
  have h1 := Classical.choose_spec hx
  rcases Nat.le_total n (Classical.choose hx) with q | q
  · exact whF_mono c b _ _ q env M (by rw [h]; exact hr)
  · exact (whF_mono c b _ _ q env M h1).symm
theorem sWhile_eq (c : EvE) (b : EvS) (env : En) (M : Mem) : sWhile c b env M = (cTst c env M).thenS env fun t M1 => if t = true then (b env M1).turn (sWhile c b) else .nx env M1 := by
  by_cases hx : ∃ n, whF c b n env M ≠ .stuck
  · obtain ⟨n, hn⟩ := hx
    rw [sWhile_of rfl hn]
    cases n with
    | zero => exact (hn rfl).elim
    | succ n =>
      unfold whF at hn ⊢
      cases e : cTst c env M with
      | err => rfl
      | stuck => rfl
      | ok t M1 =>
        rw [e] at hn
        simp only [thenS_ok] at hn ⊢
        cases t with
        | false => rfl
        | true =>
          simp only [if_true] at hn ⊢
          cases e2 : b env M1 with
          | nx env' M2 => rw [e2] at hn; exact (sWhile_of rfl hn).symm
          | ct env' M2 => rw [e2] at hn; exact (sWhile_of rfl hn).symm
          | _ => rfl
  · have hs : ∀ n, whF c b n env M = .stuck := fun n => Classical.byContradiction fun z => hx ⟨n, z⟩
    have e0 : sWhile c b env M = .stuck := by unfold sWhile; rw [dif_neg hx]
    rw [e0]
    cases e : cTst c env M with
    | err c' ns vs M1 =>
      have := hs 1
      unfold whF at this
      rw [e] at this
      exact this.symm
    | stuck => rfl
    | ok t M1 =>
      simp only [thenS_ok]
      cases t with
      | false =>
        have := hs 1
        unfold whF at this
        rw [e] at this
        exact this.symm
      | true =>
        simp only [if_true]
        have hn : ∀ n, (b env M1).turn (whF c b n) = .stuck := fun n => by
          have := hs (n + 1)
          unfold whF at this
          rw [e] at this
          exact this
        cases e2 : b env M1 with
        | nx env' M2 =>
          rw [e2] at hn
          show RS.stuck = sWhile c b env' M2
          unfold sWhile
          have hx' : ¬ ∃ n, whF c b n env' M2 ≠ .stuck := fun ⟨n, q⟩ => q (hn n)
          rw [dif_neg hx']
        | ct env' M2 =>
          rw [e2] at hn
          show RS.stuck = sWhile c b env' M2
          unfold sWhile
          have hx' : ¬ ∃ n, whF c b n env' M2 ≠ .stuck := fun ⟨n, q⟩ => q (hn n)
          rw [dif_neg hx']
        | rt d M2 => have := hn 0; rw [e2] at this; exact this.symm
        | bk env' M2 => have := hn 0; rw [e2] at this; exact this.symm
        | err c' ns vs env' M2 => have := hn 0; rw [e2] at this; exact this.symm
        | stuck => rfl
theorem psd_while {c : Expr} {body : List Stmt} {t : EvE} {b : EvS} (hp : PassesOwn (model X.prog X.w) X.A X.env X.xe) (hc : PT X c (tTs G W own t)) (hb : PSs X body (tS G W own b)) : PS X (.While c body [] pos) (tS G W own (sWhile t b)) :=
  PS_imp (ps_while hp hc hb) fun σ H D h => by
    obtain ⟨w, env, M, S, E, h⟩ := h
    refine ⟨fun m σ H => ∃ w env M, Sim0 G w H M ∧ SimE G w own σ env ∧ OkS G W own w (whF t b m env M) D, ?_, ?_⟩
    · by_cases hx : ∃ n, whF t b n env M ≠ .stuck
      · obtain ⟨n, hn⟩ := hx
        rw [sWhile_of rfl hn] at h
        exact ⟨n, w, env, M, S, E, h⟩
      · unfold sWhile at h
        rw [dif_neg hx] at h
        exact h.elim
    · rintro m σ H ⟨w, env, M, S, E, h⟩
      cases m with
      | zero => exact h.elim
      | succ m =>
        refine tG_thenS (g := fun k M1 => if k = true then (b env M1).turn (whF t b m) else .nx env M1) S E h fun k M1 w1 H1 v l S1 E1 r h1 => ?_
        subst r
        cases k with
        | false => exact h1 w1 H1 σ (Le.refl _) S1 E1
        | true =>
          simp only [if_true] at h1 ⊢
          refine ⟨fun σ' H' => ∃ w env M, Sim0 G w H' M ∧ SimE G w own σ' env ∧ OkS G W own w (whF t b m env M) D, fun σ' H' q => ⟨m, Nat.lt_succ_self m, q⟩, w1, env, M1, S1, E1, ?_⟩
          revert h1
          cases b env M1 with
          | nx env' M' => exact fun h1 w' H' σ' l' S' E' => ⟨w', env', M', S', E', h1.mono l'⟩
          | ct env' M' => exact fun h1 w' H' σ' l' S' E' => ⟨w', env', M', S', E', h1.mono l'⟩
          | bk env' M' => exact id
          | rt d M' => exact id
          | err c' ns vs env' M' => exact id
          | stuck => exact id
end
/-! ### what is walked -/
structure ItD where
  xs : List D
  deps : List (Nat × List D)
def DepOk (it : ItD) (M : Mem) : Prop := ∀ p ∈ it.deps, M[p.1]? = some (.lst p.2)
/-- the machine's iterator goes through the things told, in any later world -/
def ItR (G : Gb) (w : Wd) (it : ItD) (J : It) : Prop :=
  ∀ (w' : Wd) (H : Hp) (M : Mem) (i : Nat), LeR w w' → Sim0 G w' H M → DepOk it M →
    (∀ d, it.xs[i]? = some d → J.go i H ∧ ∀ x H', J.yld i H x H' → ∃ w2, Le w' w2 ∧ Sim0 G w2 H' M ∧ Rep G w2 d x) ∧ (it.xs.length = i → J.stop i H)
theorem ItR.mono {G : Gb} {w w' : Wd} {it : ItD} {J : It} (l : LeR w w') (h : ItR G w it J) : ItR G w' it J :=
  fun w2 H M i l2 S d => h w2 H M i ⟨fun a u e => l2.z a u (l.z a u e), Nat.le_trans l.n l2.n, fun i hi => (l2.r i (Nat.lt_of_lt_of_le hi l.n)).trans (l.r i hi), fun x e => l2.o x (l.o x e)⟩ S d
abbrev EvI := En → Mem → Res ItD
abbrev tIt (G : Gb) (W : WX) (own : Option (List (Str × Addr))) (f : EvI) : TI := tG G W own (ItR G) f
def iterD (M : Mem) : D → Option ItD
  | .tup ds => some ⟨ds, []⟩
  | .lst ds => some ⟨ds, []⟩
  | .str x => some ⟨signs x, []⟩
  | .scr ns => some ⟨ns.map D.int, []⟩
  | .ref i => match M[i]? with
    | some (.lst ds) => some ⟨ds, [(i, ds)]⟩
    | _ => none
  | _ => none
def cIter (a : EvE) : EvI := fun env M => (a env M).bind fun d M1 => opt (iterD M1 d) M1
section
variable {G : Gb} {W : WX} {own : Option (List (Str × Addr))} {X : Cx} {pos p : Pos} {w w1 : Wd} {H : Hp} {M : Mem} {σ : L2.St} {env : En} {tg : Expr}
theorem LeR.trans {a b c : Wd} (l : LeR a b) (l2 : LeR b c) : LeR a c := ⟨fun x u e => l2.z x u (l.z x u e), Nat.le_trans l.n l2.n, fun i hi => (l2.r i (Nat.lt_of_lt_of_le hi l.n)).trans (l.r i hi), fun x e => l2.o x (l.o x e)⟩
theorem itR_list {K : PySem.W.Frag} {it : ItD} {a : Addr} (h : ∀ w' H M, LeR w w' → Sim0 G w' H M → DepOk it M → ∃ vs, SqL K H a vs ∧ Reps G w' it.xs vs) : ItR G w it (Itl K a) := fun w' H M i l S dep => by
  obtain ⟨vs, h1, h2⟩ := h w' H M l S dep
  refine ⟨fun d e => ?_, fun hi => ⟨vs, h1, by rw [← h2.length]; exact Nat.le_of_eq hi⟩⟩
  obtain ⟨v, e1, r1⟩ := h2.get e
  refine ⟨⟨vs, v, h1, e1⟩, fun x H' y => ?_⟩
  obtain ⟨rfl, y⟩ := y
  have := y vs h1
  rw [e1] at this
  cases this
  exact ⟨w', Le.refl _, S, r1⟩
theorem itR_tup {K : PySem.W.Frag} {it : ItD} {a : Addr} (h : ∀ w' H M, LeR w w' → Sim0 G w' H M → DepOk it M → ∃ vs, SqT K H a vs ∧ Reps G w' it.xs vs) : ItR G w it (Itt K a) := fun w' H M i l S dep => by
  obtain ⟨vs, h1, h2⟩ := h w' H M l S dep
  refine ⟨fun d e => ?_, fun hi => ⟨vs, h1, by rw [← h2.length]; exact Nat.le_of_eq hi⟩⟩
  obtain ⟨v, e1, r1⟩ := h2.get e
  refine ⟨⟨vs, v, h1, e1⟩, fun x H' y => ?_⟩
  obtain ⟨rfl, y⟩ := y
  have := y vs h1
  rw [e1] at this
  cases this
  exact ⟨w', Le.refl _, S, r1⟩
theorem itR_str {x : Str} : ItR G w ⟨signs x, []⟩ (Its x) := fun w' H M i l S dep => by
  refine ⟨fun d e => ?_, fun hi => ?_⟩
  · have e' : (x.cps.toList.map fun c => (D.str ⟨#[c]⟩))[i]? = some d := e
    rw [List.getElem?_map] at e'
    obtain ⟨c, hc, rfl⟩ := Option.map_eq_some_iff.mp e'
    have hc' : x.cps[i]? = some c := by simpa using hc
    refine ⟨?_, fun v H' y => ?_⟩
    · have := (Array.getElem?_eq_some_iff.mp hc').1
      exact this
    · obtain ⟨rfl, c2, h2, rfl⟩ := y
      rw [hc'] at h2
      cases h2
      exact ⟨w', Le.refl _, S, .str _⟩
  · have hi' : (signs x).length ≤ i := Nat.le_of_eq hi
    have : x.cps.size ≤ i := by simpa [signs] using hi'
    exact this
theorem itR_range {lo : Int} {n : Nat} : ItR G w ⟨(List.range n).map fun i => .int (lo + (i : Nat)), []⟩ (Itr lo n) := fun w' H M i l S dep => by
  refine ⟨fun d e => ?_, fun hi => ?_⟩
  · have e' : ((List.range n).map fun i => (D.int (lo + (i : Nat))))[i]? = some d := e
    rw [List.getElem?_map] at e'
    obtain ⟨c, hc, rfl⟩ := Option.map_eq_some_iff.mp e'
    have hcn : c < n := by
      have := List.mem_of_getElem? hc
      simpa using this
    have hci : c = i := by
      obtain ⟨h1, h2⟩ := List.getElem?_eq_some_iff.mp hc
      simpa using h2.symm
    subst hci
    refine ⟨hcn, fun v H' y => ?_⟩
    obtain ⟨rfl, rfl⟩ := y
    exact ⟨w', Le.refl _, S, .int _⟩
  · have : n ≤ i := by simpa using Nat.le_of_eq hi
    exact this
theorem reps_ints {w : Wd} : ∀ ns : List Int, Reps G w (ns.map D.int) (ns.map V.int)
  | [] => .nil
  | n :: ns => .cons (.int n) (reps_ints ns)
/-- anything whose kind is known at the time -/
theorem pid_val {l : Expr} {a : EvE} (hK : X.K = G.K) (hl : PE X l (tE G W own a)) : PI X tg l (tIt G W own (cIter a)) := by
  refine ⟨fun pins s σ H R I h => ?_⟩
  obtain ⟨w, env, M, S, E, h⟩ := h
  refine thn (hl.run pins s σ H (fun v H1 => ∃ w1 M1 d it, Sim0 G w1 H1 M1 ∧ Rep G w1 d v ∧ iterD M1 d = some it ∧ ∀ w' H' J, Le w1 w' → Sim0 G w' H' M1 → ItR G w' it J → R J H') I ?_) fun v s1 ⟨x, H1, I1, r1, q1⟩ => ?_
  · refine tG_bind (g := fun d M1 => opt (iterD M1 d) M1) S E h fun d M1 w1 H1 v l1 S1 E1 r h1 => ?_
    cases e : iterD M1 d with
    | none => rw [e] at h1; exact h1.elim
    | some it =>
      rw [e] at h1
      exact ⟨w1, M1, d, it, S1, r, e, h1⟩
  · obtain ⟨w1, M1, d, it, S1, r, e, q⟩ := q1
    have one : ∀ b ∈ [s1.heap.objs.size], FpOk X pins H1 b := fun b hb => by
      have e : b = s1.heap.objs.size := by simpa using hb
      subst e
      exact I1.fpOk (Nat.le_refl _) (I1.hok.fresh (Nat.le_refl _))
    have lst : ∀ a : Addr, v = .ref a → (∃ vs, SqL X.K H1 a vs) → R (Itl X.K a) H1 → wpAny (model X.prog X.w) X.A (pyIter v) (PIE X pins σ tg R) X.xe s1 := fun a ea ⟨vs, hq⟩ hR => by
      subst ea
      obtain ⟨its, rv, p, hz⟩ := I1.list hq
      refine wpAny_pyIter_list p.isList ?_
      exact ⟨s1.heap.objs.size, [s1.heap.objs.size], _, _, H1, rfl, I1.kept (t' := s1.toks) fun b o e => Heap.get?_push_of_some _ e, turn_list a _, ⟨_, Heap.get?_push_size _ rfl, rfl, rfl⟩, one, hR⟩
    cases d with
    | tup ds =>
      cases e
      cases r with
      | tup z rr =>
        cases r1
        obtain ⟨its, rv, p, hz⟩ := I1.tuple (hK ▸ z.sq S1.z)
        refine wpAny_pyIter_tuple (show s1.heap.IsTuple _ its.toArray from p) ?_
        exact ⟨s1.heap.objs.size, [s1.heap.objs.size], _, _, H1, rfl, I1.kept (t' := s1.toks) fun b o e => Heap.get?_push_of_some _ e, turn_tuple _ _, ⟨_, Heap.get?_push_size _ rfl, rfl, rfl⟩, one, q w1 H1 _ (Le.refl _) S1 (itR_tup fun w' H M l S d => ⟨_, hK ▸ (z.mono l.z).sq S.z, rr.mono l⟩)⟩
    | lst ds =>
      cases e
      cases r with
      | lst z rr =>
        cases r1
        exact lst _ rfl ⟨_, .inl (ZL.rd S1.z z)⟩ (q w1 H1 _ (Le.refl _) S1 (itR_list fun w' H M l S d => ⟨_, .inl (ZL.rd S.z (z.mono l.z)), rr.mono l⟩))
    | scr ns =>
      cases e
      cases r with
      | scr z =>
        cases r1
        exact lst _ rfl ⟨ns.map V.int, by rw [hK]; exact ZS.sq S1.z z⟩ (q w1 H1 _ (Le.refl _) S1 (itR_list fun w' H M l S d => ⟨ns.map V.int, by rw [hK]; exact ZS.sq S.z (z.imp (l.z _ _) id), reps_ints ns⟩))
    | str z =>
      cases e
      cases r
      obtain ⟨t, rfl⟩ := r1
      have hR := q w1 H1 _ (Le.refl _) S1 (itR_str (x := z))
      cases ha : z.cps.all (· < 128)
      · exact wpAny_pyIter_wide ha (pi_one (tk := s1.toks) I1 _ (turn_str _ z t "str_iterator" (.inr rfl)) ⟨_, Heap.get?_push_size _ rfl, rfl, rfl⟩ hR)
      · exact wpAny_pyIter_ascii ha (pi_one (tk := s1.toks) I1 _ (turn_str _ z t "str_ascii_iterator" (.inl rfl)) ⟨_, Heap.get?_push_size _ rfl, rfl, rfl⟩ hR)
    | ref i =>
      have e : (match M1[i]? with
        | some (.lst ds) => some (ItD.mk ds [(i, ds)])
        | _ => none) = some it := e
      cases e1 : M1[i]? with
      | none => rw [e1] at e; cases e
      | some o =>
        rw [e1] at e
        cases o with
        | lst ds =>
          cases e
          cases r with
          | ref hi =>
            cases r1
            obtain ⟨_, vs, h1, h2⟩ := S1.m i _ e1
            refine lst _ rfl ⟨vs, .inl (.inl h1)⟩ (q w1 H1 _ (Le.refl _) S1 (itR_list fun w' H M l S d => ?_))
            have hi' := Nat.lt_of_lt_of_le hi l.n
            obtain ⟨_, vs', h1', h2'⟩ := S.m i _ (d (i, ds) (by simp))
            rw [l.r i hi] at h1'
            exact ⟨vs', .inl (.inl h1'), h2'.mono (.ofCut w' (Nat.le_of_lt hi'))⟩
        | _ => cases e
    | _ => cases e
/-! ### range -/
def intD : D → Option Int
  | .int i => some i
  | _ => none
theorem intD_rep {d : D} {v : V} {i : Int} (r : Rep G w d v) (e : intD d = some i) : v = .int i := by
  cases r <;> simp only [intD, Option.some.injEq, reduceCtorEq] at e
  rw [e]
def rangeD (lo : Int) (n : Nat) : List D := (List.range n).map fun i => .int (lo + (i : Nat))
def itR1 : List D → Option ItD
  | [.int j] => if j.natAbs ≤ 100000 then some ⟨rangeD 0 j.toNat, []⟩ else none
  | _ => none
def itR2 : List D → Option ItD
  | [.int i, .int j] => if i.natAbs ≤ 100000 ∧ j.natAbs ≤ 100000 then some ⟨rangeD i (j - i).toNat, []⟩ else none
  | _ => none
def cItL (f : Mem → List D → Option ItD) (b : EvL) : EvI := fun env M => (b env M).bind fun ds M1 => opt (f M1 ds) M1
theorem pid_range1 {a : Expr} {b : EvL} (hg : Gl X "range") (hm : X.mg "range" = none) (ha : PA X [a] (tL G W own b)) (hs : starEach [a] X.env = [(false, eval a X.env)] := by rfl) : PI X tg (.Call (.Name "range" p) [a] [] pos) (tIt G W own (cItL (fun _ => itR1) b)) := by
  refine ⟨fun pins s σ H R I h => (pi_range1 hg hm ha hs).run pins s σ H R I ?_⟩
  obtain ⟨w, env, M, S, E, h⟩ := h
  refine tG_bind (g := fun ds M1 => opt (itR1 ds) M1) S E h fun ds M1 w1 H1 vs l1 S1 E1 r h1 => ?_
  cases e : itR1 ds with
  | none => rw [e] at h1; exact h1.elim
  | some it =>
    rw [e] at h1
    unfold itR1 at e
    split at e
    · rename_i j
      split at e
      · rename_i hj
        cases e
        obtain ⟨v, rfl, rv⟩ := reps1 r
        have := int_of rv; subst this
        exact ⟨j, rfl, by omega, by omega, h1 w1 H1 _ (Le.refl _) S1 itR_range⟩
      · cases e
    · cases e
theorem pid_range2 {a a2 : Expr} {b : EvL} (hg : Gl X "range") (hm : X.mg "range" = none) (ha : PA X [a, a2] (tL G W own b)) (hs : starEach [a, a2] X.env = [(false, eval a X.env), (false, eval a2 X.env)] := by rfl) (hs2 : starEach [a2] X.env = [(false, eval a2 X.env)] := by rfl) :
    PI X tg (.Call (.Name "range" p) [a, a2] [] pos) (tIt G W own (cItL (fun _ => itR2) b)) := by
  refine ⟨fun pins s σ H R I h => (pi_range2 hg hm ha hs hs2).run pins s σ H R I ?_⟩
  obtain ⟨w, env, M, S, E, h⟩ := h
  refine tG_bind (g := fun ds M1 => opt (itR2 ds) M1) S E h fun ds M1 w1 H1 vs l1 S1 E1 r h1 => ?_
  cases e : itR2 ds with
  | none => rw [e] at h1; exact h1.elim
  | some it =>
    rw [e] at h1
    unfold itR2 at e
    split at e
    · rename_i i j
      split at e
      · rename_i hj
        cases e
        obtain ⟨v, u, rfl, rv, ru⟩ := reps2 r
        have := int_of rv; subst this
        have := int_of ru; subst this
        exact ⟨i, j, rfl, by omega, h1 w1 H1 _ (Le.refl _) S1 itR_range⟩
      · cases e
    · cases e
/-! ### for -/
open Classical in
noncomputable def forL (it : ItD) (t : Tgt) (b : EvS) : List D → EvS
  | [] => fun env M => if DepOk it M then .nx env M else .stuck
  | d :: ds => fun env M => if DepOk it M then (optS (setT M t d env) M).seq fun env1 M1 => (b env1 M1).turn (forL it t b ds) else .stuck
noncomputable def sFor (i : EvI) (t : Tgt) (b : EvS) : EvS := fun env M => (i env M).thenS env fun it M1 => forL it t b it.xs env M1
theorem psd_for {iter : Expr} {body : List Stmt} {i : EvI} {t : Tgt} {b : EvS} (hp : PassesOwn (model X.prog X.w) X.A X.env X.xe) (hc : X.calm = true) (hi : PI X tg iter (tIt G W own i)) (hg : PG X tg (gT G.K t)) (hb : PSs X body (tS G W own b))
    (hs : ∀ x, foldedSetIterable iter X.env x = pure x := by intro _; rfl) : PS X (.For tg iter body [] pos) (tS G W own (sFor i t b)) :=
  PS_imp (ps_for hp hc hi hg hb hs) fun σ H D h => by
    obtain ⟨w, env, M, S, E, h⟩ := h
    refine tG_thenS (g := fun it M1 => forL it t b it.xs env M1) S E h fun it M1 w1 H1 J l1 S1 E1 rJ h1 => ?_
    refine ⟨fun i m σ H => (m = it.xs.length - i ∧ i ≤ it.xs.length) ∧ ∃ w2 env M, LeR w1 w2 ∧ Sim0 G w2 H M ∧ SimE G w2 own σ env ∧ OkS G W own w2 (forL it t b (it.xs.drop i) env M) D, ⟨_, ⟨rfl, Nat.zero_le _⟩, w1, env, M1, (LeR.refl _), S1, E1, h1⟩, ?_⟩
    rintro i m σ H ⟨⟨rfl, hle⟩, w2, env, M, l2, S2, E2, h2⟩
    by_cases hlt : i < it.xs.length
    · have hd : it.xs[i]? = some it.xs[i] := List.getElem?_eq_getElem hlt
      rw [List.drop_eq_getElem_cons hlt] at h2
      unfold forL at h2
      split at h2
      · rename_i dep
        obtain ⟨go, yl⟩ := (rJ w2 H M i l2 S2 dep).1 _ hd
        refine .inr ⟨go, fun σ' H' => ∃ w2 env M, LeR w1 w2 ∧ Sim0 G w2 H' M ∧ SimE G w2 own σ' env ∧ OkS G W own w2 (forL it t b (it.xs.drop (i + 1)) env M) D, fun σ' H' q => ⟨it.xs.length - (i + 1), by omega, ⟨rfl, hlt⟩, q⟩, fun x H' y => ?_⟩
        obtain ⟨w3, l3, S3, r3⟩ := yl x H' y
        cases e : setT M t it.xs[i] env with
        | none => rw [e] at h2; exact h2.elim
        | some env1 =>
          rw [e] at h2
          refine gT_of S3 e r3 (E2.mono l3) fun σ3 E3 _ => ⟨w3, env1, M, S3, E3, ?_⟩
          have h3 := h2.mono l3
          have h4 : OkS G W own w3 ((b env1 M).turn (forL it t b (it.xs.drop (i + 1)))) D := h3
          revert h4
          cases b env1 M with
          | nx env' M' => exact fun h4 w' H' σ' l' S' E' => ⟨w', env', M', (l2.trans l3.toR).trans l'.toR, S', E', h4.mono l'⟩
          | ct env' M' => exact fun h4 w' H' σ' l' S' E' => ⟨w', env', M', (l2.trans l3.toR).trans l'.toR, S', E', h4.mono l'⟩
          | bk env' M' => exact id
          | rt d M' => exact id
          | err c' ns vs env' M' => exact id
          | stuck => exact id
      · exact h2.elim
    · have hge : it.xs.length ≤ i := by omega
      rw [List.drop_eq_nil_of_le hge] at h2
      unfold forL at h2
      split at h2
      · rename_i dep
        exact .inl ⟨(rJ w2 H M i l2 S2 dep).2 (by omega), h2 w2 H σ (Le.refl _) S2 E2⟩
      · exact h2.elim
end
end DI

set_option Elab.async false
set_option linter.all false
set_option maxRecDepth 100000
set_option maxHeartbeats 4000000
/-! DI12: comprehensions. -/
namespace DI
open PySem PySem.Spec PyProof.Rows L2
/-- a place that nothing is told of -/
structure Unt (G : Gb) (w : Wd) (a : Addr) : Prop where
  z : w.Z a = none
  p : w.P a = none
  r : ∀ i, i < w.n → w.r i ≠ a
  t : ∀ q ∈ G.T, q.1 ≠ a
def Wd.trk (w : Wd) (a : Addr) (o : HO) : Wd := { w with P := upd w.P a o }
def Wd.setP (w : Wd) (P : Hp) : Wd := { w with P := P }
section
variable {G : Gb} {w w1 w' : Wd} {H H' : Hp} {M : Mem} {a : Addr} {o : HO} {P0 : Hp}
theorem LeR.trk : LeR w (w.trk a o) := ⟨fun _ _ h => h, Nat.le_refl _, fun _ _ => rfl, fun _ h => h⟩
theorem LeR.setP : LeR w (w.setP P0) := ⟨fun _ _ h => h, Nat.le_refl _, fun _ _ => rfl, fun _ h => h⟩
theorem Sim0.unt (S : Sim0 G w H M) (e : H a = none) : Unt G w a := ⟨S.zfree e, S.pfree e, S.rfree e, S.tfree e⟩
theorem Sim0.trk (S : Sim0 G w H M) (u : Unt G w a) (h : H a = some o) (hl : (∃ xs, o = .lst xs) ∨ ∃ kvs, o = .dK kvs) : Sim0 G (w.trk a o) H M where
  z := S.z
  p := fun b v e => by
    by_cases q : b = a
    · subst q
      have e : upd w.P b o b = some v := e
      rw [upd_same] at e
      cases e
      exact h
    · have e : upd w.P a o b = some v := e
      rw [upd_ne q] at e
      exact S.p b v e
  zp := fun b v e => by
    by_cases q : b = a
    · subst q; exact u.z
    · have e : upd w.P a o b = some v := e
      rw [upd_ne q] at e
      exact S.zp b v e
  pl := fun b v e => by
    by_cases q : b = a
    · subst q
      have e : upd w.P b o b = some v := e
      rw [upd_same] at e
      cases e
      exact hl
    · have e : upd w.P a o b = some v := e
      rw [upd_ne q] at e
      exact S.pl b v e
  len := S.len
  inj := S.inj
  zr := S.zr
  m := fun i x hx => by
    have hi : i < w.n := S.len ▸ (List.getElem?_eq_some_iff.mp hx).1
    exact ObR.mono (w := w.cut i) (w' := (w.trk a o).cut i) (LeR.cuts (fun _ _ h => h) fun _ _ => rfl) (upd_ne (u.r i hi)) rfl (S.m i x hx)
  tabs := S.tabs
  tz := fun q hq => by
    obtain ⟨h1, h2, h3⟩ := S.tz q hq
    refine ⟨h1, ?_, h3⟩
    show upd w.P a o q.1 = none
    rw [upd_ne (u.t q hq)]
    exact h2
theorem Sim0.untrk (S : Sim0 G w H M) (e : w.P = upd P0 a o) (h0 : P0 a = none) : Sim0 G (w.setP P0) H M ∧ Unt G (w.setP P0) a ∧ H a = some o := by
  have pa : w.P a = some o := by rw [e, upd_same]
  have pn : ∀ b, b ≠ a → w.P b = P0 b := fun b hb => by rw [e, upd_ne hb]
  have ra : ∀ i, i < w.n → w.r i ≠ a := fun i hi z => by
    obtain ⟨x, hx⟩ := S.mem hi
    have q := S.m i x hx
    rw [z] at q
    cases x with
    | lst ds => obtain ⟨q, _⟩ := q; have q : w.P a = none := q; rw [pa] at q; cases q
    | dct ds => obtain ⟨q, _⟩ := q; have q : w.P a = none := q; rw [pa] at q; cases q
  have np : ∀ b u, P0 b = some u → b ≠ a := fun b u hb z => by rw [z, h0] at hb; cases hb
  refine ⟨⟨S.z, fun b u hb => S.p b u (by rw [pn b (np b u hb)]; exact hb), fun b u hb => S.zp b u (by rw [pn b (np b u hb)]; exact hb), fun b u hb => S.pl b u (by rw [pn b (np b u hb)]; exact hb), S.len, S.inj, S.zr, fun i x hx => ?_, S.tabs, fun q hq => ?_⟩, ⟨S.zp a _ pa, h0, ra, fun q hq z => ?_⟩, S.p a _ pa⟩
  · have hi : i < w.n := S.len ▸ (List.getElem?_eq_some_iff.mp hx).1
    exact ObR.mono (w := w.cut i) (w' := (w.setP P0).cut i) (LeR.cuts (fun _ _ h => h) fun _ _ => rfl) (pn _ (ra i hi)).symm rfl (S.m i x hx)
  · obtain ⟨h1, h2, h3⟩ := S.tz q hq
    refine ⟨h1, ?_, h3⟩
    show P0 q.1 = none
    by_cases z : q.1 = a
    · rw [z]; exact h0
    · rw [← pn _ z]; exact h2
  · have := (S.tz q hq).2.1
    rw [z, pa] at this
    cases this
theorem Sim0.wr (S : Sim0 G w H M) (u : Unt G w a) (hl : ∀ c q, H a ≠ some (LamX.CodeO c q)) : Sim0 G w (upd H a o) M where
  z := fun b v e => rd_upd_ne (fun z => by rw [z, u.z] at e; cases e) (S.z b v e)
  p := fun b v e => by rw [upd_ne (fun z => by rw [z, u.p] at e; cases e)]; exact S.p b v e
  zp := S.zp
  pl := S.pl
  len := S.len
  inj := S.inj
  zr := S.zr
  m := fun i x hx => by
    have hi : i < w.n := S.len ▸ (List.getElem?_eq_some_iff.mp hx).1
    exact ObR.mono (w := w.cut i) (w' := w.cut i) (LeR.refl _) rfl (upd_ne (u.r i hi)) (S.m i x hx)
  tabs := fun q hq => by
    obtain ⟨ps, h1, h2⟩ := S.tabs q hq
    exact ⟨ps, by rw [upd_ne (u.t q hq)]; exact h1, h2.1, fun pos cv e => by
      obtain ⟨c, rfl, hc⟩ := h2.2 pos cv e
      refine ⟨c, rfl, ?_⟩
      rw [upd_ne (fun z => hl _ _ (z ▸ hc))]
      exact hc⟩
  tz := S.tz
theorem Le.addZu (u : Unt G w a) : Le w (w.addZ a o) := Le.addZ u.z
/-- from now on it stands for ever -/
theorem Sim0.frz (S : Sim0 G w H M) (u : Unt G w a) (h : H a = some o) : Sim0 G (w.addZ a o) H M where
  z := fun b v e => by
    by_cases q : b = a
    · subst q
      have e : upd w.Z b o b = some v := e
      rw [upd_same] at e
      cases e
      exact .inl h
    · have e : upd w.Z a o b = some v := e
      rw [upd_ne q] at e
      exact S.z b v e
  p := S.p
  zp := fun b v e => by
    show upd w.Z a o b = none
    rw [upd_ne (fun z => by have e : w.P b = some v := e; rw [z, u.p] at e; cases e)]
    exact S.zp b v e
  pl := S.pl
  len := S.len
  inj := S.inj
  zr := fun i hi => by
    show upd w.Z a o (w.r i) = none
    rw [upd_ne (u.r i hi)]
    exact S.zr i hi
  m := fun i x hx => by
    have hi : i < w.n := S.len ▸ (List.getElem?_eq_some_iff.mp hx).1
    exact (S.m i x hx).mono ((Le.addZu (o := o) u).toR.cut (Nat.le_of_lt hi)) rfl rfl
  tabs := S.tabs
  tz := fun q hq => by
    obtain ⟨h1, h2, h3⟩ := S.tz q hq
    refine ⟨?_, h2, h3⟩
    show upd w.Z a o q.1 = none
    rw [upd_ne (u.t q hq)]
    exact h1
/-- it becomes an object of the memory -/
theorem Sim0.pushU {x : Ob} (S : Sim0 G w H M) (u : Unt G w a) (hx : ObR G (w.cut w.n) w.P H a x) : Sim0 G (w.push a) H (M ++ [x]) where
  z := S.z
  p := S.p
  zp := S.zp
  pl := S.pl
  len := by rw [List.length_append, S.len]; rfl
  inj := fun i j hi hj q => by
    have hi : i < w.n + 1 := hi
    have hj : j < w.n + 1 := hj
    by_cases h1 : i = w.n
    · by_cases h2 : j = w.n
      · omega
      · have hj' : j < w.n := by omega
        rw [h1, push_new, push_old hj'] at q
        exact absurd q.symm (u.r j hj')
    · have hi' : i < w.n := by omega
      by_cases h2 : j = w.n
      · rw [h2, push_new, push_old hi'] at q
        exact absurd q (u.r i hi')
      · have hj' : j < w.n := by omega
        rw [push_old hi', push_old hj'] at q
        exact S.inj i j hi' hj' q
  zr := fun i hi => by
    have hi : i < w.n + 1 := hi
    by_cases h1 : i = w.n
    · rw [h1, push_new]; exact u.z
    · rw [push_old (by omega)]; exact S.zr i (by omega)
  m := fun i y hy => by
    by_cases h1 : i < w.n
    · rw [List.getElem?_append_left (by rw [S.len]; exact h1)] at hy
      rw [push_old h1]
      exact ObR.mono (w := w.cut i) (w' := (w.push a).cut i) (LeR.cuts (fun _ _ h => h) fun j hj => push_old (Nat.lt_trans hj h1)) rfl rfl (S.m i y hy)
    · have hl := (List.getElem?_eq_some_iff.mp hy).1
      rw [List.length_append, S.len] at hl
      have hl' : i < w.n + 1 := hl
      have h2 : i = w.n := by omega
      subst h2
      rw [List.getElem?_append_right (by rw [S.len]; exact Nat.le_refl _), S.len, Nat.sub_self] at hy
      have e1 : x = y := Option.some.inj hy
      subst e1
      rw [push_new]
      exact ObR.mono (w := w.cut w.n) (w' := (w.push a).cut w.n) (LeR.cuts (fun _ _ h => h) fun j hj => push_old hj) rfl rfl hx
  tabs := S.tabs
  tz := fun q hq => by
    obtain ⟨h1, h2, h3⟩ := S.tz q hq
    refine ⟨h1, h2, fun i hi => ?_⟩
    have hi : i < w.n + 1 := hi
    by_cases h4 : i = w.n
    · rw [h4, push_new]; exact fun z => u.t q hq z.symm
    · rw [push_old (by omega)]; exact h3 i (by omega)
end
/-! ### slots forgotten -/
def wipeE (env : En) : List Nat → En
  | [] => env
  | v :: vs => (wipeE env vs).set v .none
section
variable {G : Gb} {W : WX} {own : Option (List (Str × Addr))} {X : Cx} {pos p : Pos} {w w1 : Wd} {H : Hp} {M : Mem} {σ : L2.St} {env : En} {tg : Expr}
theorem simE_wipe (E : SimE G w own σ env) : ∀ vs : List Nat, SimE G w own (wipe σ vs) (wipeE env vs)
  | [] => E
  | v :: vs => by
    have E1 := simE_wipe E vs
    unfold wipe wipeE
    refine ⟨E1.ow, by rw [List.length_set, List.length_set]; exact E1.len, fun j s e => ?_⟩
    by_cases h : v = j
    · subst h
      have hl : v < (wipeE env vs).length := by
        have := (List.getElem?_eq_some_iff.mp e).1
        rwa [List.length_set] at this
      rw [List.getElem?_set_self hl] at e
      cases e
      trivial
    · rw [List.getElem?_set_ne h] at e
      have q := E1.sl j s e
      cases s with
      | none => trivial
      | val d => obtain ⟨v, e1, r1⟩ := q; exact ⟨v, by rw [List.getElem?_set_ne h]; exact e1, r1⟩
  theorem wipe_in {σ σ' : L2.St} (hl : σ.length = σ'.length) {j : Nat} : ∀ {vs : List Nat}, j ∈ vs → (wipe σ vs)[j]? = (wipe σ' vs)[j]?
  | v :: vs, h => by
    unfold wipe
    by_cases e : v = j
    · subst e
      by_cases hv : v < σ.length
      · rw [List.getElem?_set_self (by rw [wipe_length]; exact hv), List.getElem?_set_self (by rw [wipe_length, ← hl]; exact hv)]
      · rw [List.getElem?_eq_none (by rw [List.length_set, wipe_length]; omega), List.getElem?_eq_none (by rw [List.length_set, wipe_length]; omega)]
    · rw [List.getElem?_set_ne e, List.getElem?_set_ne e]
      exact wipe_in hl (by rcases List.mem_cons.mp h with z | z; exact absurd z.symm e; exact z)
theorem wipe_off {is vs : List Nat} {σ σ' : L2.St} (o : OffOf is (wipe σ vs) σ') (h : ∀ i ∈ is, i ∈ vs) : wipe σ' vs = wipe σ vs := by
  refine List.ext_getElem? fun j => ?_
  by_cases hj : j ∈ vs
  · exact wipe_in (by rw [← o.1, wipe_length]) hj
  · rw [wipe_out hj, o.2 j (fun z => hj (h j z))]

/-! ### [e for t in i if c] -/
def noErr {α : Type} (r : Res α) : Res α := match r with
  | .err _ _ _ _ => .stuck
  | r => r
def W0 : WX := fun _ _ _ _ => False
theorem okG_noErr {α β : Type} {R : Wd → α → β → Prop} {r : Res α} {Q : β → Hp → Prop} (h : OkG G W σ R w (noErr r) Q) : OkG G W0 σ R w r Q := by
  cases r with
  | ok d M => exact h
  | err => exact h.elim
  | stuck => exact h
abbrev EvT := En → Mem → Res Bool
def cYes : EvT := fun _ M => .ok true M
open Classical in
noncomputable def lcL (it : ItD) (t : Tgt) (c : EvT) (e : EvE) (env : En) : List D → List D → Mem → Res (List D)
  | [], acc, M => if DepOk it M then .ok acc M else .stuck
  | d :: ds, acc, M => if DepOk it M then match setT M t d env with
    | none => .stuck
    | some env1 => (noErr (c env1 M)).bind fun b M1 => if b = true then (noErr (e env1 M1)).bind fun y M2 => if acc.length < sizeLine then lcL it t c e env ds (acc ++ [y]) M2 else .stuck else lcL it t c e env ds acc M1
    else .stuck
/-- the list itself, to stand for ever -/
noncomputable def cLc (i : EvI) (t : Tgt) (c : EvT) (e : EvE) (vs : List Nat) : EvE := fun env M => (i env M).bind fun it M1 => (lcL it t c e (wipeE env vs) it.xs [] M1).bind fun ds M2 => .ok (.lst ds) M2
/-- .. to be changed later -/
noncomputable def cLcM (i : EvI) (t : Tgt) (c : EvT) (e : EvE) (vs : List Nat) : EvE := fun env M => (i env M).bind fun it M1 => (lcL it t c e (wipeE env vs) it.xs [] M1).bind fun ds M2 => if belows M2.length ds = true then .ok (.ref M2.length) (M2 ++ [.lst ds]) else .stuck
abbrev tTb (G : Gb) (W : WX) (own : Option (List (Str × Addr))) (c : EvT) : TT := tG G W own (fun _ (b : Bool) (c : Bool) => b = c) c
theorem lc_of {i : EvI} {t : Tgt} {c : EvT} {e : EvE} {vs : List Nat} {fin : List D → Mem → Res D} {Q : VK} (ht : ∀ j ∈ t.ix, j ∈ vs)
    (hfin : ∀ w ds xs M H D Q, Sim0 G w H M → Unt G w D → H D = some (.lst xs) → Reps G w ds xs → OkE G W σ w (fin ds M) Q → Q (.ref D) H)
    (h : tE G W own (fun env M => (i env M).bind fun it M1 => (lcL it t c e (wipeE env vs) it.xs [] M1).bind fin) σ H Q) :
    tLc (tIt G W own i) (gT G.K t) (tTb G W0 own c) (tE G W0 own e) vs σ H Q := by
  obtain ⟨w, env, M, S, E, h⟩ := h
  refine tG_bind (g := fun it M1 => (lcL it t c e (wipeE env vs) it.xs [] M1).bind fin) S E h fun it M1 w1 H1 J l1 S1 E1 rJ h1 => ?_
  intro D hD
  have u1 := S1.unt hD
  refine ⟨fun i m H => (m = it.xs.length - i ∧ i ≤ it.xs.length) ∧ ∃ w2 M ds xs, Le w1 w2 ∧ Sim0 G w2 H M ∧ Unt G w2 D ∧ H D = some (.lst xs) ∧ Reps G w2 ds xs ∧ OkE G W σ w2 ((lcL it t c e (wipeE env vs) (it.xs.drop i) ds M).bind fin) Q,
    ⟨_, ⟨rfl, Nat.zero_le _⟩, w1, M1, [], [], Le.refl _, S1.wr u1 (fun c q z => by rw [hD] at z; cases z), u1, upd_same, .nil, h1⟩, ?_⟩
  rintro i m H ⟨⟨rfl, hle⟩, w2, M, ds, xs, l2, S2, u2, hd, rds, h2⟩
  by_cases hlt : i < it.xs.length
  · have hx : it.xs[i]? = some it.xs[i] := List.getElem?_eq_getElem hlt
    rw [List.drop_eq_getElem_cons hlt] at h2
    unfold lcL at h2
    split at h2
    · rename_i dep
      obtain ⟨go, yl⟩ := (rJ (w2.trk D (.lst xs)) H M i (l2.toR.trans LeR.trk) (S2.trk u2 hd (.inl ⟨_, rfl⟩)) dep).1 _ hx
      have go' := go
      refine .inr ⟨go', fun H' => ∃ w2 M ds xs, Le w1 w2 ∧ Sim0 G w2 H' M ∧ Unt G w2 D ∧ H' D = some (.lst xs) ∧ Reps G w2 ds xs ∧ OkE G W σ w2 ((lcL it t c e (wipeE env vs) (it.xs.drop (i + 1)) ds M).bind fin) Q, fun H' q => ⟨it.xs.length - (i + 1), by omega, ⟨rfl, hlt⟩, q⟩, fun x H' y => ?_⟩
      obtain ⟨w3, l3, S3, r3⟩ := yl x H' y
      split at h2
      · exact h2.elim
      · rename_i env1 es
        -- the tracked world's later ones, without the track
        have back : ∀ {w4 : Wd} {H4 : Hp} {M4 : Mem}, Le (w2.trk D (.lst xs)) w4 → Sim0 G w4 H4 M4 → Sim0 G (w4.setP w2.P) H4 M4 ∧ Unt G (w4.setP w2.P) D ∧ H4 D = some (.lst xs) ∧ Le w2 (w4.setP w2.P) := fun {w4 H4 M4} l4 S4 => by
          obtain ⟨a1, a2, a3⟩ := S4.untrk (P0 := w2.P) (a := D) (o := .lst xs) l4.p u2.p
          exact ⟨a1, a2, a3, ⟨l4.z, rfl, l4.n, l4.r, l4.o⟩⟩
        have E3 : SimE G w3 own (wipe σ vs) (wipeE env vs) := by
          have E0 := simE_wipe E1 vs
          exact ⟨l3.o.trans (l2.o.trans E0.ow), E0.len, fun j s q => (E0.sl j s q).mono ((l2.toR.trans LeR.trk).trans l3.toR)⟩
        refine gT_of S3 es r3 E3 fun σ2 E4 off => ⟨wipe_off off ht, ?_⟩
        refine ⟨w3, env1, M, S3, E4, ?_⟩
        have h3 : OkG G W σ (Rep G) w2 ((noErr (c env1 M)).bind fun b M1 => (if b = true then (noErr (e env1 M1)).bind fun y M2 => if ds.length < sizeLine then lcL it t c e (wipeE env vs) (it.xs.drop (i + 1)) (ds ++ [y]) M2 else .stuck else lcL it t c e (wipeE env vs) (it.xs.drop (i + 1)) ds M1).bind fin) Q := by
          rw [bind_assoc] at h2
          exact h2
        cases ec : c env1 M with
        | err => rw [ec] at h3; exact h3.elim
        | stuck => rw [ec] at h3; exact h3.elim
        | ok b M4 =>
          rw [ec] at h3
          intro w4 H4 b' l4 S4 eb
          subst eb
          simp only [noErr, Res.bind_ok] at h3
          cases b with
          | false =>
            simp only [Bool.false_eq_true, if_false] at h3 ⊢
            obtain ⟨a1, a2, a3, a4⟩ := back (l3.trans l4) S4
            exact ⟨_, M4, ds, xs, l2.trans a4, a1, a2, a3, rds.mono a4.toR, OkG.mono a4 h3⟩
          | true =>
            simp only [if_true] at h3 ⊢
            refine ⟨w4, env1, M4, S4, E4.mono l4, ?_⟩
            rw [bind_assoc] at h3
            cases ee : e env1 M4 with
            | err => rw [ee] at h3; exact h3.elim
            | stuck => rw [ee] at h3; exact h3.elim
            | ok y M5 =>
              rw [ee] at h3
              simp only [noErr, Res.bind_ok] at h3
              intro w5 H5 v l5 S5 rv
              obtain ⟨a1, a2, a3, a4⟩ := back ((l3.trans l4).trans l5) S5
              split at h3
              · rename_i hz
                have rv' : Rep G (w5.setP w2.P) y v := rv.mono LeR.setP
                refine ⟨xs, a3, by rw [← rds.length]; exact hz, _, M5, ds ++ [y], xs ++ [v], l2.trans a4, a1.wr a2 (fun c q z => by rw [a3] at z; cases z), a2, upd_same, (rds.mono a4.toR).append (.cons rv' .nil), OkG.mono a4 h3⟩
              · exact h3.elim
    · exact h2.elim
  · have hge : it.xs.length ≤ i := by omega
    rw [List.drop_eq_nil_of_le hge] at h2
    unfold lcL at h2
    split at h2
    · rename_i dep
      exact .inl ⟨(rJ w2 H M i l2.toR S2 dep).2 (by omega), hfin w2 ds xs M H D Q S2 u2 hd rds h2⟩
    · exact h2.elim
theorem fin_frz {w : Wd} {ds : List D} {xs : List V} {M : Mem} {H : Hp} {D : Addr} {Q : VK} (S : Sim0 G w H M) (u : Unt G w D) (hd : H D = some (.lst xs)) (r : Reps G w ds xs) (h : OkE G W σ w (.ok (.lst ds) M) Q) : Q (.ref D) H :=
  h (w.addZ D (.lst xs)) H _ (Le.addZu u) (S.frz u hd) (.lst upd_same (r.mono (Le.addZu u).toR))
theorem fin_mem {w : Wd} {ds : List D} {xs : List V} {M : Mem} {H : Hp} {D : Addr} {Q : VK} (S : Sim0 G w H M) (u : Unt G w D) (hd : H D = some (.lst xs)) (r : Reps G w ds xs) (h : OkE G W σ w (if belows M.length ds = true then .ok (.ref M.length) (M ++ [.lst ds]) else .stuck) Q) : Q (.ref D) H := by
  split at h
  · rename_i hb
    refine h (w.push D) H _ Le.push (S.pushU u ⟨u.p, xs, hd, belows_rep r (S.len ▸ hb)⟩) ?_
    have := Rep.ref (G := G) (w := w.push D) (i := w.n) (Nat.lt_succ_self _)
    rw [push_new] at this
    rw [S.len]
    exact this
  · exact h.elim
end
section
variable {G : Gb} {W : WX} {own : Option (List (Str × Addr))} {X : Cx} {pos p : Pos} {tg : Expr}
theorem pts0 : PTs X [] (tTb G W own cYes) := ⟨fun pins s σ H Q I h => pts_nil.run pins s σ H Q I (by
  obtain ⟨w, env, M, S, E, h⟩ := h
  exact h w H true (Le.refl w) S rfl)⟩
theorem pts1 {c : Expr} {a : EvE} (h : PT X c (tTs G W own a)) : PTs X [c] (tTb G W own (cTst a)) := pts_one h
theorem pd_lc {elt tg iter : Expr} {ifs : List Expr} {scope : Scope} {ow : List (Str × Nat)} {i : EvI} {t : Tgt} {c : EvT} {e : EvE} (hc : X.calm = true) (hN : X.N.Nodup) (hi : PI X tg iter (tIt G W own i)) (ok : BlkOk X.N X.env.scope scope ow)
    (hg : ∀ (s : Shared) (H : Hp) (C : Addr) (cl : List (Str × Addr)) (fp : List Addr), PG (X.blk s H scope (compEnvC scope cl C X.env) fp) tg (gT G.K t)) (ht : ∀ (s : Shared) (H : Hp) (C : Addr) (cl : List (Str × Addr)) (fp : List Addr), PTs (X.blk s H scope (compEnvC scope cl C X.env) fp) ifs (tTb G W0 own c))
    (he : ∀ (s : Shared) (H : Hp) (C : Addr) (cl : List (Str × Addr)) (fp : List Addr), PE (X.blk s H scope (compEnvC scope cl C X.env) fp) elt (tE G W0 own e)) (hix : ∀ j ∈ t.ix, j ∈ ow.map (·.2)) (hs : ∀ x, foldedSetIterable iter X.env x = pure x := by intro _; rfl) :
    PE X (.ListComp elt [⟨tg, iter, ifs, 0⟩] scope pos) (tE G W own (cLc i t c e (ow.map (·.2)))) :=
  PE_imp (pe_lc hc hN hi ok hg ht he hs) fun σ H Q h => lc_of (fin := fun ds M2 => .ok (.lst ds) M2) hix (fun w ds xs M H D Q S u hd r h => fin_frz S u hd r h) h
theorem pd_lcM {elt tg iter : Expr} {ifs : List Expr} {scope : Scope} {ow : List (Str × Nat)} {i : EvI} {t : Tgt} {c : EvT} {e : EvE} (hc : X.calm = true) (hN : X.N.Nodup) (hi : PI X tg iter (tIt G W own i)) (ok : BlkOk X.N X.env.scope scope ow)
    (hg : ∀ (s : Shared) (H : Hp) (C : Addr) (cl : List (Str × Addr)) (fp : List Addr), PG (X.blk s H scope (compEnvC scope cl C X.env) fp) tg (gT G.K t)) (ht : ∀ (s : Shared) (H : Hp) (C : Addr) (cl : List (Str × Addr)) (fp : List Addr), PTs (X.blk s H scope (compEnvC scope cl C X.env) fp) ifs (tTb G W0 own c))
    (he : ∀ (s : Shared) (H : Hp) (C : Addr) (cl : List (Str × Addr)) (fp : List Addr), PE (X.blk s H scope (compEnvC scope cl C X.env) fp) elt (tE G W0 own e)) (hix : ∀ j ∈ t.ix, j ∈ ow.map (·.2)) (hs : ∀ x, foldedSetIterable iter X.env x = pure x := by intro _; rfl) :
    PE X (.ListComp elt [⟨tg, iter, ifs, 0⟩] scope pos) (tE G W own (cLcM i t c e (ow.map (·.2)))) :=
  PE_imp (pe_lc hc hN hi ok hg ht he hs) fun σ H Q h => lc_of (fin := fun (ds : List DI.D) M2 => if belows M2.length ds = true then .ok (.ref M2.length) (M2 ++ [Ob.lst ds]) else .stuck) hix (fun w ds xs M H D Q S u hd r h => fin_mem S u hd r h) h
/-- name = [..] -/
theorem psd_setLc {ix : Nat} {y : Str} {py : Pos} {elt tg iter : Expr} {ifs : List Expr} {scope : Scope} {ow : List (Str × Nat)} {pos spos : Pos} {i : EvI} {t : Tgt} {c : EvT} {e : EvE} (hc : X.calm = true) (hN : X.N.Nodup) (hy : X.N[ix]? = some y) (hyl : X.env.scope.names.lookup y = some .local)
    (hsw : swapsWith (.ListComp elt [⟨tg, iter, ifs, 0⟩] scope pos) (some (.Name y py)) spos.line X.env = pure true) (hi : PI X tg iter (tIt G W own i)) (ok : BlkOk X.N X.env.scope scope ow)
    (hg : ∀ (s : Shared) (H : Hp) (C : Addr) (cl : List (Str × Addr)) (fp : List Addr), PG (X.blk s H scope (compEnvC scope cl C X.env) fp) tg (gT G.K t)) (ht : ∀ (s : Shared) (H : Hp) (C : Addr) (cl : List (Str × Addr)) (fp : List Addr), PTs (X.blk s H scope (compEnvC scope cl C X.env) fp) ifs (tTb G W0 own c))
    (he : ∀ (s : Shared) (H : Hp) (C : Addr) (cl : List (Str × Addr)) (fp : List Addr), PE (X.blk s H scope (compEnvC scope cl C X.env) fp) elt (tE G W0 own e)) (hix : ∀ j ∈ t.ix, j ∈ ow.map (·.2)) (hs : ∀ x, foldedSetIterable iter X.env x = pure x := by intro _; rfl) :
    PS X (.Assign [.Name y py] (.ListComp elt [⟨tg, iter, ifs, 0⟩] scope pos) spos) (tS G W own (sSet (.nm ix) (cLc i t c e (ow.map (·.2))))) :=
  PS_imp (ps_setLc hc hN hy hyl hsw hi ok hg ht he hs) fun σ H Q h => lc_of (fin := fun ds M2 => .ok (.lst ds) M2) hix (fun w ds xs M H D Q S u hd r h => fin_frz S u hd r h) (tAsg_of h)
theorem psd_setLcM {ix : Nat} {y : Str} {py : Pos} {elt tg iter : Expr} {ifs : List Expr} {scope : Scope} {ow : List (Str × Nat)} {pos spos : Pos} {i : EvI} {t : Tgt} {c : EvT} {e : EvE} (hc : X.calm = true) (hN : X.N.Nodup) (hy : X.N[ix]? = some y) (hyl : X.env.scope.names.lookup y = some .local)
    (hsw : swapsWith (.ListComp elt [⟨tg, iter, ifs, 0⟩] scope pos) (some (.Name y py)) spos.line X.env = pure true) (hi : PI X tg iter (tIt G W own i)) (ok : BlkOk X.N X.env.scope scope ow)
    (hg : ∀ (s : Shared) (H : Hp) (C : Addr) (cl : List (Str × Addr)) (fp : List Addr), PG (X.blk s H scope (compEnvC scope cl C X.env) fp) tg (gT G.K t)) (ht : ∀ (s : Shared) (H : Hp) (C : Addr) (cl : List (Str × Addr)) (fp : List Addr), PTs (X.blk s H scope (compEnvC scope cl C X.env) fp) ifs (tTb G W0 own c))
    (he : ∀ (s : Shared) (H : Hp) (C : Addr) (cl : List (Str × Addr)) (fp : List Addr), PE (X.blk s H scope (compEnvC scope cl C X.env) fp) elt (tE G W0 own e)) (hix : ∀ j ∈ t.ix, j ∈ ow.map (·.2)) (hs : ∀ x, foldedSetIterable iter X.env x = pure x := by intro _; rfl) :
    PS X (.Assign [.Name y py] (.ListComp elt [⟨tg, iter, ifs, 0⟩] scope pos) spos) (tS G W own (sSet (.nm ix) (cLcM i t c e (ow.map (·.2))))) :=
  PS_imp (ps_setLc hc hN hy hyl hsw hi ok hg ht he hs) fun σ H Q h => lc_of (fin := fun (ds : List DI.D) M2 => if belows M2.length ds = true then .ok (.ref M2.length) (M2 ++ [Ob.lst ds]) else .stuck) hix (fun w ds xs M H D Q S u hd r h => fin_mem S u hd r h) (tAsg_of h)
end
end DI

set_option Elab.async false
set_option linter.all false
set_option maxRecDepth 100000
set_option maxHeartbeats 4000000
/-! DI13: zip and enumerate of lists and tuples in any mix. -/
namespace DI
open PySem PySem.Spec PyProof.Rows L2
inductive Kd where
  | l
  | t
def Kd.it : Kd → Heap → Addr → Addr → Nat → Prop
  | .l, h, it, a, i => h.IsListIter it a i
  | .t, h, it, a, i => h.IsTupleIter it a i
def Kd.sq : Kd → Heap → Addr → Array Value → Prop
  | .l, h, a, xs => h.IsList a xs
  | .t, h, a, xs => h.IsTuple a xs
def Kd.sv (K : PySem.W.Frag) : Kd → Hp → Addr → List V → Prop
  | .l, H, a, xs => SqL K H a xs
  | .t, H, a, xs => SqT K H a xs
def Kd.ob (a : Addr) : Kd → Obj
  | .l => { cls := .type "list_iterator", data := .fields #[.ref a, .int 0 0] }
  | .t => { cls := .type "tuple_iterator", data := .fields #[.ref a, .int 0 0] }
section
variable {X : Cx} {pins : List (Addr × Obj)} {σ : L2.St} {H : Hp} {s : Shared} {k : Kd} {a it : Addr}
theorem kd_seq {xs : List V} (I : Inv X pins σ H s) (h : k.sv X.K H a xs) : ∃ its, Vals xs its ∧ k.sq s.heap a its.toArray ∧ a < s.heap.objs.size := by
  cases k with
  | l => obtain ⟨its, rv, p, hz⟩ := I.list h; exact ⟨its, rv, p.isList, p.lt⟩
  | t =>
    obtain ⟨its, rv, p, hz⟩ := I.tuple h
    obtain ⟨o, ho, _⟩ := id p
    exact ⟨its, rv, p, Heap.lt_size ho⟩
theorem kd_inj {xs ys : List V} (I : Inv X pins σ H s) (h : k.sv X.K H a xs) (h' : k.sv X.K H a ys) : xs = ys := by
  cases k with
  | l => exact I.list_inj h h'
  | t => exact I.tuple_inj h h'
theorem kd_draws {prog : Program} {w : World} {A : Around} (hh : A.handled = none) (hne : a ≠ it) (items : Array Value) :
    Draws prog w A it [it, a] items.size (fun i v => items[i]? = some v) (fun i h => k.it h it a i ∧ k.sq h a items) := by
  cases k with
  | l => exact Draws.list hh it a hne items
  | t => exact Draws.tuple hh it a hne items
theorem kd_begins (items : Array Value) : Begins (.ref a) (k.ob a) fun h => k.sq h a items := by
  cases k with
  | l => exact begins_list a items
  | t => exact begins_tuple a items
theorem kd_obj {h : Heap} {i : Nat} (st : k.it h it a i) : ∃ o, h.get? it = some o ∧ ∀ v, o.data ≠ .cell v := by
  cases k with
  | l => obtain ⟨o, e, c, d⟩ := st; exact ⟨o, e, fun v z => by rw [d] at z; cases z⟩
  | t => obtain ⟨o, e, c, d⟩ := st; exact ⟨o, e, fun v z => by rw [d] at z; cases z⟩
theorem kd_at {h h' : Heap} {i : Nat} (st : k.it h it a i) (kk : ∀ o, h.get? it = some o → h'.get? it = some o) : k.it h' it a i := by
  cases k with
  | l => exact Heap.IsListIter.at st kk
  | t => exact Heap.IsTupleIter.at st kk
theorem kd_begun {h : Heap} (e : h.get? it = some (k.ob a)) : k.it h it a 0 := by
  cases k with
  | l => exact ⟨_, e, rfl, rfl⟩
  | t => exact ⟨_, e, rfl, rfl⟩
end
/-! ### zip -/
def ItzM (K : PySem.W.Frag) (k1 k2 : Kd) (a b : Addr) : It :=
  ⟨fun i H => ∃ (xs ys : List V) (x y : V), k1.sv K H a xs ∧ k2.sv K H b ys ∧ xs[i]? = some x ∧ ys[i]? = some y,
    fun i H v H' => ∃ T x y, v = .ref T ∧ H T = none ∧ H' = upd H T (.tup [x, y]) ∧ (∀ xs, k1.sv K H a xs → xs[i]? = some x) ∧ ∀ ys, k2.sv K H b ys → ys[i]? = some y,
    fun i H => ∃ xs ys : List V, k1.sv K H a xs ∧ k2.sv K H b ys ∧ i ≤ xs.length ∧ i ≤ ys.length ∧ (i = xs.length ∨ i = ys.length)⟩
theorem turn_zipM {P : Program} {w : World} {K : PySem.W.Frag} {elts : List Expr} {kk : Nat} {tpos : Pos} {k1 k2 : Kd} {a b z TI TO i1 i2 : Addr} (D : ZipSep2 z TI TO i1 i2 [i1, a] [i2, b]) (n1 : a ≠ i1) (n2 : b ≠ i2) :
    Turn P w K (.Tuple elts kk tpos) (ItzM K k1 k2 a b) [z, TI, TO, i1, i2] z (fun i h => IsZip h z TI TO .none ∧ IsTupOf2 h TI (.ref i1) (.ref i2) ∧ (∃ x y, IsTupOf2 h TO x y) ∧ k1.it h i1 a i ∧ k2.it h i2 b i) where
  mem := by simp
  obj := fun i h st c hc => by
    obtain ⟨hz, hTI, ⟨x, y, hTO⟩, h1, h2⟩ := st
    have e' : c = z ∨ c = TI ∨ c = TO ∨ c = i1 ∨ c = i2 := by simpa using hc
    rcases e' with e | e | e | e | e
    · rw [e]; exact ⟨_, hz, fun v q => nomatch q⟩
    · rw [e]; exact ⟨_, hTI, fun v q => nomatch q⟩
    · rw [e]; exact ⟨_, hTO, fun v q => nomatch q⟩
    · rw [e]; exact kd_obj h1
    · rw [e]; exact kd_obj h2
  keep := fun i h h' ⟨hz, hTI, ⟨x, y, hTO⟩, h1, h2⟩ k =>
    ⟨k z (by simp) _ hz, k TI (by simp) _ hTI, ⟨x, y, k TO (by simp) _ hTO⟩, kd_at h1 fun o q => k i1 (by simp) o q, kd_at h2 fun o q => k i2 (by simp) o q⟩
  item := by
    intro X hP hw hK hc i pins s σ H E I hf st hg
    subst hP hw hK
    obtain ⟨hz, hTI, ⟨x0, y0, hTO⟩, h1, h2⟩ := st
    obtain ⟨xs, ys, x, y, hqx, hqy, hx, hy⟩ := hg
    obtain ⟨its, rv, p, la⟩ := kd_seq I hqx
    obtain ⟨its2, rv2, p2, lb⟩ := kd_seq I hqy
    have D1 := kd_draws (prog := X.prog) (w := X.w) (A := X.A.in1) (k := k1) (I.ok.hd hc) n1 its.toArray
    have D2 := kd_draws (prog := X.prog) (w := X.w) (A := X.A.in1) (k := k2) (I.ok.hd hc) n2 its2.toArray
    obtain ⟨u, hu, ru⟩ := rv.get hx
    obtain ⟨u2, hu2, ru2⟩ := rv2.get hy
    have hzl : z < s.heap.objs.size := Heap.lt_size hz
    have l1 : i < its.toArray.size := by simpa using (List.getElem?_eq_some_iff.mp hu).1
    have l2 : i < its2.toArray.size := by simpa using (List.getElem?_eq_some_iff.mp hu2).1
    refine wpAny_pyNext_zipD2_item D D1 D2 hz hTI hTO ⟨h1, p⟩ ⟨h2, p2⟩ l1 l2 fun v1 v2 h' tk e1 e2 z' TO' s1' s2' hT hsz hk => ?_
    have e1' : u = v1 := by
      have e1 : its.toArray[i]? = some v1 := e1
      rw [show its.toArray[i]? = its[i]? from by simp, hu] at e1
      exact Option.some.inj e1
    have e2' : u2 = v2 := by
      have e2 : its2.toArray[i]? = some v2 := e2
      rw [show its2.toArray[i]? = its2[i]? from by simp, hu2] at e2
      exact Option.some.inj e2
    subst e1'
    subst e2'
    refine ⟨_, rfl, wpAny_letOwnedTupleGo_zip (s := { s with heap := h', toks := tk }) z' fun h'' z'' sb => ?_⟩
    have hT2 : h''.get? s.heap.objs.size = some { cls := .type "tuple", data := .seq #[u, u2] } := (sb.2 _ (Nat.ne_of_gt hzl)).trans hT
    have new : ObjOk X.prog X.w (upd H s.heap.objs.size (.tup [x, y])) h'' s.heap.objs.size (.tup [x, y]) :=
      ⟨by show 2 ≤ sizeLine; decide, [u, u2], .cons ru (.cons ru2 .nil), ⟨_, hT2, rfl, _, rfl⟩⟩
    have I1 : Inv X pins σ (upd H s.heap.objs.size (.tup [x, y])) { s with heap := h'', toks := tk } :=
      I.turnedNew (t' := tk) (ch := [z, TI, TO, i1, i2]) (fun c o hb q => (sb.2 c (fun q' => hb (by simp [q']))).trans (hk c o (fun q' => hb (by simp [q'])) (fun q' => hb (by simp [q'])) (fun q' => hb (by simp [q'])) (fun q' => hb (by simp [q'])) q)) hf (Nat.le_refl _) new
    refine ⟨.ref s.heap.objs.size, _, I1, rfl, ⟨_, x, y, rfl, I.hok.fresh (Nat.le_refl _), rfl, fun l hl => by rw [kd_inj I hl hqx]; exact hx, fun l hl => by rw [kd_inj I hl hqy]; exact hy⟩, ⟨z'', ?_, ⟨u, u2, ?_⟩, ?_, ?_⟩, fun c hcm => ?_⟩
    · exact (sb.2 _ D.TIz).trans (hk _ _ D.TIz D.TITO D.TIi1 D.TIi2 hTI)
    · exact (sb.2 _ D.TOz).trans TO'
    · exact kd_at s1'.1 fun o q => (sb.2 _ (Ne.symm D.zi1)).trans q
    · exact kd_at s2'.1 fun o q => (sb.2 _ (Ne.symm D.zi2)).trans q
    · have hlt : c < s.heap.objs.size := by
        have e' : c = z ∨ c = TI ∨ c = TO ∨ c = i1 ∨ c = i2 := by simpa using hcm
        rcases e' with q | q | q | q | q
        · rw [q]; exact hzl
        · rw [q]; exact Heap.lt_size hTI
        · rw [q]; exact Heap.lt_size hTO
        · rw [q]; obtain ⟨_, e1, _⟩ := kd_obj h1; exact Heap.lt_size e1
        · rw [q]; obtain ⟨_, e1, _⟩ := kd_obj h2; exact Heap.lt_size e1
      rw [upd_ne (Nat.ne_of_lt hlt)]
      exact (hf c hcm).1
  done := by
    intro X hP hw hK hc i pins s σ H E I hf st hg
    subst hP hw hK
    obtain ⟨hz, hTI, ⟨x0, y0, hTO⟩, h1, h2⟩ := st
    obtain ⟨xs, ys, hqx, hqy, m1, m2, hend⟩ := hg
    obtain ⟨its, rv, p, la⟩ := kd_seq I hqx
    obtain ⟨its2, rv2, p2, lb⟩ := kd_seq I hqy
    have D1 := kd_draws (prog := X.prog) (w := X.w) (A := X.A.in1) (k := k1) (I.ok.hd hc) n1 its.toArray
    have D2 := kd_draws (prog := X.prog) (w := X.w) (A := X.A.in1) (k := k2) (I.ok.hd hc) n2 its2.toArray
    have l1 := rv.length
    have l2 := rv2.length
    have q1 : its.toArray.size = its.length := by simp
    have q2 : its2.toArray.size = its2.length := by simp
    exact wpAny_pyNext_zipD2_end D D1 D2 hz hTI hTO ⟨h1, p⟩ ⟨h2, p2⟩ (by omega) (by omega) (by omega) fun h' tk hk => ⟨rfl, I.turnedL (t' := tk) (ch := [z, TI, TO, i1, i2]) (fun c o hb q =>
      hk c o (fun q' => hb (by simp [q'])) (fun q' => hb (by simp [q'])) (fun q' => hb (by simp [q'])) (fun q' => hb (by simp [q'])) q) hf⟩
  self := fun A i s Q E st h => wpAny_pyIter_zip st.1 h
/-- a list or a tuple, as a thing that is walked -/
def seqD (M : Mem) : D → Option ItD
  | .tup ds => some ⟨ds, []⟩
  | .lst ds => some ⟨ds, []⟩
  | .ref i => match M[i]? with
    | some (.lst ds) => some ⟨ds, [(i, ds)]⟩
    | _ => none
  | _ => none
def zipL : List D → List D → List D
  | x :: xs, y :: ys => .tup [x, y] :: zipL xs ys
  | _, _ => []
def zipD (M : Mem) : List D → Option ItD
  | [x, y] => match seqD M x, seqD M y with
    | some a, some b => some ⟨zipL a.xs b.xs, a.deps ++ b.deps⟩
    | _, _ => none
  | _ => none
section
variable {G : Gb} {W : WX} {own : Option (List (Str × Addr))} {X : Cx} {pos p : Pos} {w w1 : Wd} {H : Hp} {M : Mem} {σ : L2.St} {env : En} {tg : Expr}
theorem seqD_rep {d : D} {v : V} {it : ItD} (r : Rep G w d v) (S : Sim0 G w H M) (e : seqD M d = some it) : ∃ a k, v = .ref a ∧ ∀ w' H' M', LeR w w' → Sim0 G w' H' M' → DepOk it M' → ∃ vs, Kd.sv G.K k H' a vs ∧ Reps G w' it.xs vs := by
  cases r with
  | tup z rr =>
    cases e
    exact ⟨_, .t, rfl, fun w' H M l S d => ⟨_, (z.mono l.z).sq S.z, rr.mono l⟩⟩
  | lst z rr =>
    cases e
    exact ⟨_, .l, rfl, fun w' H M l S d => ⟨_, .inl (ZL.rd S.z (z.mono l.z)), rr.mono l⟩⟩
  | ref hi =>
    rename_i i
    have e : (match M[i]? with
      | some (.lst ds) => some (ItD.mk ds [(i, ds)])
      | _ => none) = some it := e
    cases e1 : M[i]? with
    | none => rw [e1] at e; cases e
    | some o =>
      rw [e1] at e
      cases o with
      | lst ds =>
        cases e
        refine ⟨_, .l, rfl, fun w' H M l S d => ?_⟩
        have hi' := Nat.lt_of_lt_of_le hi l.n
        obtain ⟨_, vs', h1', h2'⟩ := S.m i _ (d (i, ds) (by simp))
        rw [l.r i hi] at h1'
        exact ⟨vs', .inl (.inl h1'), h2'.mono (.ofCut w' (Nat.le_of_lt hi'))⟩
      | _ => cases e
  | _ => cases e
theorem seqD_dep {d : D} {it : ItD} (e : seqD M d = some it) : DepOk it M := by
  intro p hp
  cases d with
  | tup ds => cases e; cases hp
  | lst ds => cases e; cases hp
  | ref i =>
    have e : (match M[i]? with
      | some (.lst ds) => some (ItD.mk ds [(i, ds)])
      | _ => none) = some it := e
    cases e1 : M[i]? with
    | none => rw [e1] at e; cases e
    | some o =>
      rw [e1] at e
      cases o with
      | lst ds =>
        cases e
        have : p = (i, ds) := by simpa using hp
        subst this
        exact e1
      | _ => cases e
  | _ => cases e
theorem zipL_len : ∀ xs ys : List D, (zipL xs ys).length = min xs.length ys.length
  | [], ys => by simp [zipL]
  | x :: xs, [] => by simp [zipL]
  | x :: xs, y :: ys => by simp [zipL, zipL_len xs ys]
theorem zipL_get : ∀ {xs ys : List D} {i : Nat} {d : D}, (zipL xs ys)[i]? = some d → ∃ x y, xs[i]? = some x ∧ ys[i]? = some y ∧ d = .tup [x, y]
  | [], ys, i, d, e => by simp [zipL] at e
  | x :: xs, [], i, d, e => by simp [zipL] at e
  | x :: xs, y :: ys, 0, d, e => by simp [zipL] at e; exact ⟨x, y, rfl, rfl, e.symm⟩
  | x :: xs, y :: ys, i + 1, d, e => by
    have e : (zipL xs ys)[i]? = some d := by simpa [zipL] using e
    obtain ⟨x', y', h1, h2, h3⟩ := zipL_get e
    exact ⟨x', y', by simpa using h1, by simpa using h2, h3⟩
theorem new_tup {vs : List V} {ds : List D} {T : Addr} (S : Sim0 G w H M) (hT : H T = none) (r : Reps G w ds vs) : Le w (w.addZ T (.tup vs)) ∧ Sim0 G (w.addZ T (.tup vs)) (upd H T (.tup vs)) M ∧ Rep G (w.addZ T (.tup vs)) (.tup ds) (.ref T) :=
  ⟨Le.addZ (S.zfree hT), S.addZ hT, .tup (.inl upd_same) (r.mono (Le.addZ (S.zfree hT)).toR)⟩
theorem itR_zip {ia ib : ItD} {k1 k2 : Kd} {a b : Addr} (h1 : ∀ w' H' M', LeR w w' → Sim0 G w' H' M' → DepOk ia M' → ∃ vs, Kd.sv G.K k1 H' a vs ∧ Reps G w' ia.xs vs)
    (h2 : ∀ w' H' M', LeR w w' → Sim0 G w' H' M' → DepOk ib M' → ∃ vs, Kd.sv G.K k2 H' b vs ∧ Reps G w' ib.xs vs) : ItR G w ⟨zipL ia.xs ib.xs, ia.deps ++ ib.deps⟩ (ItzM G.K k1 k2 a b) := fun w' H M i l S dep => by
  obtain ⟨vs, a1, a2⟩ := h1 w' H M l S fun p hp => dep p (List.mem_append_left _ hp)
  obtain ⟨us, b1, b2⟩ := h2 w' H M l S fun p hp => dep p (List.mem_append_right _ hp)
  refine ⟨fun d e => ?_, fun hi => ?_⟩
  · obtain ⟨x, y, ex, ey, rfl⟩ := zipL_get e
    obtain ⟨v, ev, rv⟩ := a2.get ex
    obtain ⟨u, eu, ru⟩ := b2.get ey
    refine ⟨⟨vs, us, v, u, a1, b1, ev, eu⟩, fun z H' y => ?_⟩
    obtain ⟨T, v', u', rfl, hT, rfl, f1, f2⟩ := y
    have := f1 vs a1
    rw [ev] at this; cases this
    have := f2 us b1
    rw [eu] at this; cases this
    obtain ⟨q1, q2, q3⟩ := new_tup S hT (.cons rv (.cons ru .nil))
    exact ⟨_, q1, q2, q3⟩
  · have hi : (zipL ia.xs ib.xs).length = i := hi
    rw [zipL_len, a2.length, b2.length] at hi
    exact ⟨vs, us, a1, b1, by omega, by omega, by omega⟩
theorem pid_zip {e1 e2 : Expr} {b : EvL} {elts : List Expr} {kk : Nat} {tpos : Pos} (hK : X.K = G.K) (hg : Gl X "zip") (hm : X.mg "zip" = none) (ha : PA X [e1, e2] (tL G W own b))
    (hs : starEach [e1, e2] X.env = (false, eval e1 X.env) :: starEach [e2] X.env := by rfl) (hpl : (backTo pos (starEach [e2] X.env)).any (·.1) = false := by rfl) :
    PI X (.Tuple elts kk tpos) (.Call (.Name "zip" p) [e1, e2] [] pos) (tIt G W own (cItL zipD b)) := by
  refine ⟨fun pins s σ H R I h => ?_⟩
  obtain ⟨w, env, M, S, E, h⟩ := h
  refine Call_ (ld_blt I hg hm PyProof.Rows.boot_zip (PyProof.Rows.callWith_type1 (thn (ha.run pos pins s σ H (fun vs H1 => ∃ w1 M1 ds it, Sim0 G w1 H1 M1 ∧ Reps G w1 ds vs ∧ zipD M1 ds = some it ∧ ∀ w' H' J, Le w1 w' → Sim0 G w' H' M1 → ItR G w' it J → R J H') I ?_) fun us s1 ⟨vs, H1, I1, r1, q1⟩ => ?_) hs hpl))
  · refine tG_bind (g := fun ds M1 => opt (zipD M1 ds) M1) S E h fun ds M1 w1 H1 vs l1 S1 E1 r h1 => ?_
    cases e : zipD M1 ds with
    | none => rw [e] at h1; exact h1.elim
    | some it =>
      rw [e] at h1
      exact ⟨w1, M1, ds, it, S1, r, e, h1⟩
  obtain ⟨w1, M1, ds, it, S1, r, e, q⟩ := q1
  unfold zipD at e
  split at e
  · rename_i x y
    split at e
    · rename_i ia ib ea eb
      cases e
      obtain ⟨v, u, rfl, rv, ru⟩ := reps2 r
      obtain ⟨a, k1, rfl, f1⟩ := seqD_rep rv S1 ea
      obtain ⟨b', k2, rfl, f2⟩ := seqD_rep ru S1 eb
      cases r1 with
      | cons r rr =>
        cases rr with
        | cons r' rr =>
          cases rr
          cases r
          cases r'
          have hR := q w1 H1 _ (Le.refl _) S1 (itR_zip f1 f2)
          obtain ⟨vs, a1, a2⟩ := f1 w1 H1 M1 (LeR.refl _) S1 (seqD_dep ea)
          obtain ⟨us, b1, b2⟩ := f2 w1 H1 M1 (LeR.refl _) S1 (seqD_dep eb)
          rw [← hK] at a1 b1 hR
          obtain ⟨its, rv, p1, la⟩ := kd_seq I1 a1
          obtain ⟨its2, rv2, p2, lb⟩ := kd_seq I1 b1
          refine zip_begins2 (kd_begins its.toArray) (kd_begins its2.toArray) p1 p2 fun h' hz hTI hTO g1 g2 hsz hk => wpAny_pyIter_zip hz ?_
          have I2 : Inv X pins σ H1 { s1 with heap := h' } := I1.kept (t' := s1.toks) hk
          refine ⟨s1.heap.objs.size + 4, [s1.heap.objs.size + 4, s1.heap.objs.size + 2, s1.heap.objs.size + 3, s1.heap.objs.size, s1.heap.objs.size + 1], _, _, H1, rfl, I2,
            turn_zipM (zip_sep2 (fp1 := [a]) (fp2 := [b']) (fun c hc => by simp at hc; rw [hc]; exact la) (fun c hc => by simp at hc; rw [hc]; exact lb)) (Nat.ne_of_lt la) (Nat.ne_of_lt (Nat.lt_succ_of_lt lb)), ⟨hz, hTI, ⟨_, _, hTO⟩, kd_begun g1, kd_begun g2⟩, fun c hcm => ?_, hR⟩
          have e' : c = s1.heap.objs.size + 4 ∨ c = s1.heap.objs.size + 2 ∨ c = s1.heap.objs.size + 3 ∨ c = s1.heap.objs.size ∨ c = s1.heap.objs.size + 1 := by simpa using hcm
          have hle : s1.heap.objs.size ≤ c := by
            rcases e' with z | z | z | z | z
            · rw [z]; exact Nat.le_add_right _ _
            · rw [z]; exact Nat.le_add_right _ _
            · rw [z]; exact Nat.le_add_right _ _
            · rw [z]; exact Nat.le_refl _
            · rw [z]; exact Nat.le_add_right _ _
          exact I1.fpOk hle (I1.hok.fresh hle)
    · cases e
  · cases e
/-! ### enumerate -/
def IteM (K : PySem.W.Frag) (k : Kd) (a : Addr) : It :=
  ⟨fun i H => ∃ (xs : List V) (x : V), k.sv K H a xs ∧ xs[i]? = some x, fun i H v H' => ∃ T x, v = .ref T ∧ H T = none ∧ H' = upd H T (.tup [.int (i : Nat), x]) ∧ ∀ xs, k.sv K H a xs → xs[i]? = some x, fun i H => ∃ xs : List V, k.sv K H a xs ∧ xs.length = i⟩
theorem turn_enumM {P : Program} {w : World} {K : PySem.W.Frag} {elts : List Expr} {kk : Nat} {tpos : Pos} {k : Kd} {a e it : Addr} (hne : e ≠ it) (hea : e ≠ a) (hai : a ≠ it) :
    Turn P w K (.Tuple elts kk tpos) (IteM K k a) [e, it] e (fun i h => (∃ old, IsEnum h e it ((i : Nat) : Int) old) ∧ k.it h it a i) where
  mem := by simp
  obj := fun i h st b hb => by
    obtain ⟨⟨old, he⟩, hi⟩ := st
    have e' : b = e ∨ b = it := by simpa using hb
    rcases e' with z | z
    · rw [z]; exact ⟨_, he, fun v q => nomatch q⟩
    · rw [z]; exact kd_obj hi
  keep := fun i h h' ⟨⟨old, he⟩, hi⟩ k => ⟨⟨old, k e (by simp) _ he⟩, kd_at hi fun o q => k it (by simp) o q⟩
  item := by
    intro X hP hw hK hc i pins s σ H E I hf st hg
    subst hP hw hK
    obtain ⟨⟨old, he⟩, hit⟩ := st
    obtain ⟨xs, x, hq, hx⟩ := hg
    obtain ⟨its, rv, p, la⟩ := kd_seq I hq
    obtain ⟨u, hu, ru⟩ := rv.get hx
    have D := kd_draws (prog := X.prog) (w := X.w) (A := X.A.in1) (k := k) (I.ok.hd hc) hai its.toArray
    have l1 : i < its.toArray.size := by simpa using (List.getElem?_eq_some_iff.mp hu).1
    have hel : e < s.heap.objs.size := Heap.lt_size he
    have hil : it < s.heap.objs.size := by obtain ⟨_, q, _⟩ := kd_obj hit; exact Heap.lt_size q
    refine wpAny_pyNext_enum_itemD D he ⟨hit, p⟩ l1 hne (by simp; exact ⟨hne, hea⟩) fun v h' tk e1 ho st' hT hsz hk => ?_
    have e1' : u = v := by
      have e1 : its.toArray[i]? = some v := e1
      rw [show its.toArray[i]? = its[i]? from by simp, hu] at e1
      exact Option.some.inj e1
    subst e1'
    refine ⟨_, rfl, wpAny_letOwnedTupleGo_enum (s := { s with heap := h', toks := tk + 1 }) ho fun h'' he' sb => ?_⟩
    have hT2 : h''.get? s.heap.objs.size = some { cls := .type "tuple", data := .seq #[.int i tk, u] } := (sb.2 _ (Nat.ne_of_gt hel)).trans hT
    have new : ObjOk X.prog X.w (upd H s.heap.objs.size (.tup [.int (i : Nat), x])) h'' s.heap.objs.size (.tup [.int (i : Nat), x]) :=
      ⟨by show 2 ≤ sizeLine; decide, [.int i tk, u], .cons ⟨_, rfl⟩ (.cons ru .nil), ⟨_, hT2, rfl, _, rfl⟩⟩
    have I1 : Inv X pins σ (upd H s.heap.objs.size (.tup [.int (i : Nat), x])) { s with heap := h'', toks := tk + 1 } :=
      I.turnedNew (ch := [e, it]) (fun b ob hb q => (sb.2 b (fun z => hb (by simp [z]))).trans (hk b ob (fun z => hb (by simp [z])) (fun z => hb (by simp [z])) q)) hf (Nat.le_refl _) new
    refine ⟨.ref s.heap.objs.size, _, I1, rfl, ⟨_, x, rfl, I.hok.fresh (Nat.le_refl _), rfl, fun ys hy => by rw [kd_inj I hy hq]; exact hx⟩, ⟨⟨u, ?_⟩, kd_at st'.1 fun o q => (sb.2 it (Ne.symm hne)).trans q⟩, fun b hb => ?_⟩
    · have e2 : ((i + 1 : Nat) : Int) = (i : Int) + 1 := by omega
      rw [e2]; exact he'
    · have hb' : b < s.heap.objs.size := by
        have e' : b = e ∨ b = it := by simpa using hb
        rcases e' with z | z
        · rw [z]; exact hel
        · rw [z]; exact hil
      rw [upd_ne (Nat.ne_of_lt hb')]
      exact (hf b hb).1
  done := by
    intro X hP hw hK hc i pins s σ H E I hf st hg
    subst hP hw hK
    obtain ⟨⟨old, he⟩, hit⟩ := st
    obtain ⟨xs, hq, hx⟩ := hg
    obtain ⟨its, rv, p, la⟩ := kd_seq I hq
    obtain ⟨f0, f1, f2, f3, f4, f5⟩ := hf it (by simp)
    have D := kd_draws (prog := X.prog) (w := X.w) (A := X.A.in1) (k := k) (I.ok.hd hc) hai its.toArray
    have l1 := rv.length
    have q1 : its.toArray.size = its.length := by simp
    have hi : i = its.toArray.size := by omega
    rw [hi] at hit
    exact wpAny_pyNext_enum_endD D he ⟨hit, p⟩ fun h' eb => ⟨rfl, I.turned (t' := s.toks) (fun b o hb q => eb b o hb q) f0 f1 f3 f4 f5⟩
  self := fun A i s Q E st h => let ⟨⟨_, he⟩, _⟩ := st; wpAny_pyIter_enum he h
theorem meets_enum1 {v : Value} {o : Obj} {H : Heap → Prop} (B : Begins v o H) :
    Meets (Builtin.«enumerate.__new__» ⟨[.type "enumerate", v], []⟩) (fun _ R s => H s.heap ∧
      R (.ok (.ret (.ref (s.heap.push o).objs.size))) { s with heap := (s.heap.push o).push { cls := .type "enumerate", data := .fields #[.none, .bool false, .ref s.heap.objs.size, rawInt 0, .none, .none] } }) :=
  .of_wp fun prog w A R s h => by
    obtain ⟨hp, g, d, tk, os⟩ := s; obtain ⟨h1, h⟩ := h
    have hsub := sub_enumerate
    have q1 : ∀ {A' : Around} {E : Value → Shared → Prop} {Q : Value → Shared → Prop}, Q (.ref hp.objs.size) ⟨hp.push o, g, d, tk, os⟩ → wpAny (model prog w) A' (pyIter v) Q E ⟨hp, g, d, tk, os⟩ :=
      fun q => B.iter prog w _ _ ⟨hp, g, d, tk, os⟩ _ h1 q
    wp_walk using q1
    refine wpAny_stack_any fun st => wpAny_pure ?_
    split
    · rename_i c _ _ _ _ _
      cases (c == Value.type "enumerate")
      · wp_walk using q1
        exact ⟨_, rfl, h⟩
      · wp_walk using q1
        exact ⟨_, rfl, h⟩
    · wp_walk using q1
      exact ⟨_, rfl, h⟩
theorem enum1_begins {prog : Program} {w : World} {A : Around} {E : Value → Shared → Prop} {s : Shared} {v : Value} {o : Obj} {H : Heap → Prop} {Q : Value → Shared → Prop} (B : Begins v o H) (h1 : H s.heap)
    (h : ∀ h', IsEnum h' (s.heap.objs.size + 1) s.heap.objs.size 0 .none → h'.get? s.heap.objs.size = some o → h'.objs.size = s.heap.objs.size + 2 →
      (∀ b o, s.heap.get? b = some o → h'.get? b = some o) → Q (.ref (s.heap.objs.size + 1)) { s with heap := h' }) :
    wpAny (model prog w) A (call (.type "enumerate") [v]) Q E s := by
  refine callType_new F.called_enumerate (by decide) (F.typeCall_enumerate_1 _) (F.newCall_enumerate_1 _) (fun obj => F.args_object_init_2 obj _) F.entry_enumerate_new
    (meets_enum1 B) ⟨h1, ?_⟩
  have hz : (s.heap.push o).objs.size = s.heap.objs.size + 1 := Heap.size_push ..
  show _ ∧ _
  rw [hz]
  have he : IsEnum ((s.heap.push o).push { cls := .type "enumerate", data := .fields #[.none, .bool false, .ref s.heap.objs.size, rawInt 0, .none, .none] }) (s.heap.objs.size + 1) s.heap.objs.size 0 .none := by
    have := Heap.get?_push_size (s.heap.push o) (o := { cls := .type "enumerate", data := .fields #[.none, .bool false, .ref s.heap.objs.size, rawInt 0, .none, .none] }) rfl
    rw [hz] at this; exact this
  refine ⟨⟨_, he, rfl⟩, h _ he (Heap.get?_push_of_some _ (Heap.get?_push_size _ B.free)) (by rw [Heap.size_push, hz]) fun b o x => Heap.get?_push_of_some _ (Heap.get?_push_of_some _ x)⟩
def enumL : Nat → List D → List D
  | _, [] => []
  | n, x :: xs => .tup [.int (n : Nat), x] :: enumL (n + 1) xs
def enumD (M : Mem) : List D → Option ItD
  | [x] => (seqD M x).map fun a => ⟨enumL 0 a.xs, a.deps⟩
  | _ => none
theorem enumL_len : ∀ (xs : List D) (n : Nat), (enumL n xs).length = xs.length
  | [], n => rfl
  | x :: xs, n => by simp [enumL, enumL_len xs]
theorem enumL_get : ∀ {xs : List D} {n i : Nat} {d : D}, (enumL n xs)[i]? = some d → ∃ x, xs[i]? = some x ∧ d = .tup [.int ((n + i : Nat) : Int), x]
  | [], n, i, d, e => by simp [enumL] at e
  | x :: xs, n, 0, d, e => by simp [enumL] at e; exact ⟨x, rfl, by rw [← e]; simp⟩
  | x :: xs, n, i + 1, d, e => by
    have e : (enumL (n + 1) xs)[i]? = some d := by simpa [enumL] using e
    obtain ⟨x', h1, h2⟩ := enumL_get e
    exact ⟨x', by simpa using h1, by rw [h2, show n + 1 + i = n + (i + 1) from by omega]⟩
theorem itR_enum {ia : ItD} {k : Kd} {a : Addr} (h1 : ∀ w' H' M', LeR w w' → Sim0 G w' H' M' → DepOk ia M' → ∃ vs, Kd.sv G.K k H' a vs ∧ Reps G w' ia.xs vs) : ItR G w ⟨enumL 0 ia.xs, ia.deps⟩ (IteM G.K k a) := fun w' H M i l S dep => by
  obtain ⟨vs, a1, a2⟩ := h1 w' H M l S dep
  refine ⟨fun d e => ?_, fun hi => ?_⟩
  · obtain ⟨x, ex, rfl⟩ := enumL_get e
    obtain ⟨v, ev, rv⟩ := a2.get ex
    refine ⟨⟨vs, v, a1, ev⟩, fun z H' y => ?_⟩
    obtain ⟨T, v', rfl, hT, rfl, f1⟩ := y
    have := f1 vs a1
    rw [ev] at this; cases this
    obtain ⟨q1, q2, q3⟩ := new_tup (ds := [.int ((0 + i : Nat) : Int), x]) S hT (.cons (by rw [Nat.zero_add]; exact .int _) (.cons rv .nil))
    exact ⟨_, q1, q2, q3⟩
  · have hi : (enumL 0 ia.xs).length = i := hi
    rw [enumL_len, a2.length] at hi
    exact ⟨vs, a1, hi⟩
theorem pid_enum {e1 : Expr} {b : EvL} {elts : List Expr} {kk : Nat} {tpos : Pos} (hK : X.K = G.K) (hg : Gl X "enumerate") (hm : X.mg "enumerate" = none) (ha : PA X [e1] (tL G W own b)) (hs : starEach [e1] X.env = [(false, eval e1 X.env)] := by rfl) :
    PI X (.Tuple elts kk tpos) (.Call (.Name "enumerate" p) [e1] [] pos) (tIt G W own (cItL enumD b)) := by
  refine ⟨fun pins s σ H R I h => ?_⟩
  obtain ⟨w, env, M, S, E, h⟩ := h
  refine Call_ (ld_blt I hg hm boot_enumerate (PyProof.Rows.callWith_type1 (thn (ha.run pos pins s σ H (fun vs H1 => ∃ w1 M1 ds it, Sim0 G w1 H1 M1 ∧ Reps G w1 ds vs ∧ enumD M1 ds = some it ∧ ∀ w' H' J, Le w1 w' → Sim0 G w' H' M1 → ItR G w' it J → R J H') I ?_) fun us s1 ⟨vs, H1, I1, r1, q1⟩ => ?_) hs rfl))
  · refine tG_bind (g := fun ds M1 => opt (enumD M1 ds) M1) S E h fun ds M1 w1 H1 vs l1 S1 E1 r h1 => ?_
    cases e : enumD M1 ds with
    | none => rw [e] at h1; exact h1.elim
    | some it =>
      rw [e] at h1
      exact ⟨w1, M1, ds, it, S1, r, e, h1⟩
  obtain ⟨w1, M1, ds, it, S1, r, e, q⟩ := q1
  unfold enumD at e
  split at e
  · rename_i x
    obtain ⟨ia, ea, rfl⟩ := Option.map_eq_some_iff.mp e
    obtain ⟨v, rfl, rv⟩ := reps1 r
    obtain ⟨a, k1, rfl, f1⟩ := seqD_rep rv S1 ea
    cases r1 with
    | cons r rr =>
      cases rr
      cases r
      have hR := q w1 H1 _ (Le.refl _) S1 (itR_enum f1)
      obtain ⟨vs, a1, a2⟩ := f1 w1 H1 M1 (LeR.refl _) S1 (seqD_dep ea)
      rw [← hK] at a1 hR
      obtain ⟨its, rv, p1, la⟩ := kd_seq I1 a1
      refine enum1_begins (kd_begins its.toArray) p1 fun h' he g1 hsz hk => wpAny_pyIter_enum he ?_
      have I2 : Inv X pins σ H1 { s1 with heap := h' } := I1.kept (t' := s1.toks) hk
      refine ⟨s1.heap.objs.size + 1, [s1.heap.objs.size + 1, s1.heap.objs.size], _, _, H1, rfl, I2, turn_enumM (Nat.succ_ne_self _) (Nat.ne_of_gt (Nat.lt_succ_of_lt la)) (Nat.ne_of_lt la), ⟨⟨.none, he⟩, kd_begun g1⟩, fun b hb => ?_, hR⟩
      have e' : b = s1.heap.objs.size + 1 ∨ b = s1.heap.objs.size := by simpa using hb
      have hle : s1.heap.objs.size ≤ b := by
        rcases e' with z | z
        · rw [z]; exact Nat.le_add_right _ _
        · rw [z]; exact Nat.le_refl _
      exact I1.fpOk hle (I1.hok.fresh hle)
  · cases e
end
end DI

set_option Elab.async false
set_option linter.all false
set_option maxRecDepth 100000
set_option maxHeartbeats 4000000
/-! DI14: what changes the memory: stores at places, methods of lists, dicts, texts. -/
namespace DI
open PySem PySem.Spec PyProof.Rows L2
section
variable {G : Gb} {W : WX} {own : Option (List (Str × Addr))} {X : Cx} {pos p : Pos} {w w1 : Wd} {H : Hp} {M : Mem} {σ : L2.St} {env : En} {tg : Expr}
/-- an object is written -/
theorem Sim0.setM {i : Nat} {x : Ob} {u u0 : HO} (S : Sim0 G w H M) (hi : i < w.n) (hP : w.P (w.r i) = none) (h0 : H (w.r i) = some u0) (hu : ∀ c q, u0 ≠ LamX.CodeO c q) (hx : ObR G (w.cut i) w.P (upd H (w.r i) u) (w.r i) x) :
    Sim0 G w (upd H (w.r i) u) (M.set i x) where
  z := fun b v e => rd_upd_ne (fun z => by rw [z, S.zr i hi] at e; cases e) (S.z b v e)
  p := fun b v e => by rw [upd_ne (fun z => by rw [z, hP] at e; cases e)]; exact S.p b v e
  zp := S.zp
  pl := S.pl
  len := by rw [List.length_set]; exact S.len
  inj := S.inj
  zr := S.zr
  m := fun j y hy => by
    by_cases h : i = j
    · subst h
      rw [List.getElem?_set_self (by rw [S.len]; exact hi)] at hy
      cases hy
      exact hx
    · rw [List.getElem?_set_ne h] at hy
      have hj : j < w.n := S.len ▸ (List.getElem?_eq_some_iff.mp hy).1
      exact ObR.mono (w := w.cut j) (w' := w.cut j) (LeR.refl _) rfl (upd_ne (fun z => h (S.inj j i hj hi z).symm)) (S.m j y hy)
  tabs := fun q hq => by
    obtain ⟨ps, h1, h2⟩ := S.tabs q hq
    refine ⟨ps, by rw [upd_ne (fun z => (S.tz q hq).2.2 i hi z.symm)]; exact h1, h2.1, fun pos cv e => ?_⟩
    obtain ⟨c, rfl, hc⟩ := h2.2 pos cv e
    refine ⟨c, rfl, ?_⟩
    rw [upd_ne (fun z => by
      rw [z, h0] at hc
      exact hu _ _ (Option.some.inj hc))]
    exact hc
  tz := S.tz
theorem lst_no_code (xs : List V) : ∀ c q, HO.lst xs ≠ LamX.CodeO c q := fun _ _ e => by cases e
theorem dk_no_code (xs : List (Key × V)) : ∀ c q, HO.dK xs ≠ LamX.CodeO c q := fun _ _ e => by cases e
def lstAt (M : Mem) : D → Option (Nat × List D)
  | .ref i => match M[i]? with
    | some (.lst xs) => some (i, xs)
    | _ => none
  | _ => none
theorem lstAt_rep {d : D} {v : V} {i : Nat} {ds : List D} (S : Sim0 G w H M) (r : Rep G w d v) (e : lstAt M d = some (i, ds)) : i < w.n ∧ v = .ref (w.r i) ∧ w.P (w.r i) = none ∧ ∃ vs, H (w.r i) = some (.lst vs) ∧ Reps G (w.cut i) ds vs := by
  cases r <;> simp only [lstAt, reduceCtorEq] at e
  rename_i j hj
  cases e1 : M[j]? with
  | none => rw [e1] at e; cases e
  | some o =>
    rw [e1] at e
    cases o with
    | lst k2 =>
      cases e
      obtain ⟨h0, vs, h1, h2⟩ := S.m i _ e1
      exact ⟨hj, rfl, h0, vs, h1, h2⟩
    | _ => cases e
/-- a list of the memory gets other items -/
theorem Sim0.setL {i : Nat} {ds' : List D} {vs vs' : List V} (S : Sim0 G w H M) (hi : i < w.n) (hP : w.P (w.r i) = none) (h0 : H (w.r i) = some (.lst vs)) (r : Reps G (w.cut i) ds' vs') : Sim0 G w (upd H (w.r i) (.lst vs')) (M.set i (.lst ds')) :=
  S.setM hi hP h0 (lst_no_code _) ⟨hP, vs', upd_same, r⟩
/-! ### o[i] = v -/
def putD (kvs : List (Key × D)) (k : Key) (v : D) : List (Key × D) :=
  if (kvs.any fun kv => decide (kv.1 = k)) = true then kvs.map (fun kv => if kv.1 = k then (kv.1, v) else kv) else kvs ++ [(k, v)]
theorem repK_any {k : Key} : ∀ {kvs : List (Key × D)} {vs : List (Key × V)}, RepK G w kvs vs → (kvs.any fun kv => decide (kv.1 = k)) = vs.any fun kv => decide (kv.1 = k)
  | _, _, .nil => rfl
  | _, _, .cons a b => by rw [List.any_cons, List.any_cons, repK_any b]
theorem repK_app {kvs kvs' : List (Key × D)} {vs vs' : List (Key × V)} (a : RepK G w kvs vs) (b : RepK G w kvs' vs') : RepK G w (kvs ++ kvs') (vs ++ vs') := by
  induction a with
  | nil => exact b
  | cons x y ih => exact .cons x ih
theorem repK_map {k : Key} {d : D} {v : V} (r : Rep G w d v) : ∀ {kvs : List (Key × D)} {vs : List (Key × V)}, RepK G w kvs vs → RepK G w (kvs.map (fun kv => if kv.1 = k then (kv.1, d) else kv)) (vs.map (fun kv => if kv.1 = k then (kv.1, v) else kv))
  | _, _, .nil => .nil
  | _, _, .cons (k := k0) a b => by
    rw [List.map_cons, List.map_cons]
    by_cases h : k0 = k
    · rw [if_pos h, if_pos h]; exact .cons r (repK_map r b)
    · rw [if_neg h, if_neg h]; exact .cons a (repK_map r b)
theorem repK_put {k : Key} {d : D} {v : V} (r : Rep G w d v) {kvs : List (Key × D)} {vs : List (Key × V)} (a : RepK G w kvs vs) : RepK G w (putD kvs k d) (putK vs k v) := by
  unfold putD putK
  rw [repK_any a]
  split
  · exact repK_map r a
  · exact repK_app a (.cons r .nil)
def refD : D → Option Nat
  | .ref i => some i
  | _ => none
noncomputable def setIx (M : Mem) (o i v : D) : Option Mem := match lstAt M o with
  | some (j, xs) => (intD i).bind fun k => if below j v = true then (ixN xs.length k).map fun q => M.set j (.lst (xs.set q v)) else none
  | none => (refD o).bind fun j => (dctOf M o).bind fun kvs => (keyD i).bind fun k => if below j v = true ∧ kvs.length < sizeLine then some (M.set j (.dct (putD kvs k v))) else none
def rSetM (G : Gb) : TSet := fun o i v H Q => ∃ w M d1 d2 d3 M', Sim0 G w H M ∧ Rep G w d1 o ∧ Rep G w d2 i ∧ Rep G w d3 v ∧ setIx M d1 d2 d3 = some M' ∧ ∀ H', Sim0 G w H' M' → Q H'
theorem set_any (hX : XG G X) : PSet X (rSetM G) := by
  intro pins s σ H o i v ov iv u Q I ro ri rv h
  obtain ⟨w, M, d1, d2, d3, M', S, r1, r2, r3, e, q⟩ := h
  unfold setIx at e
  split at e
  · rename_i j xs el
    obtain ⟨hj, rfl, hP, vs, hv, rs⟩ := lstAt_rep S r1 el
    obtain ⟨k, hk, e⟩ := Option.bind_eq_some_iff.mp e
    have := intD_rep r2 hk; subst this
    split at e
    · rename_i hb
      obtain ⟨qx, hq, rfl⟩ := Option.map_eq_some_iff.mp e
      have rb := below_rep r3 hb
      exact set_list pins s σ H _ _ v ov iv u Q I ro ri rv ⟨_, vs, k, qx, rfl, rfl, hv, by rw [← rs.length]; exact hq, q _ (S.setL hj hP hv (rs.set rb qx))⟩
    · cases e
  · obtain ⟨j, hj, e⟩ := Option.bind_eq_some_iff.mp e
    obtain ⟨kvs, e1, e⟩ := Option.bind_eq_some_iff.mp e
    obtain ⟨k, e2, e⟩ := Option.bind_eq_some_iff.mp e
    split at e
    · rename_i hc
      cases e
      obtain ⟨j', vs, rfl, h2, h3, rfl, h4, h5, h6⟩ := dct_of S r1 e1
      cases hj
      have := key_of_rep r2 e2; subst this
      have rb := below_rep r3 hc.1
      refine set_dict (by have := hX.un; omega) pins s σ H _ _ v ov iv u Q I ro ri rv ⟨_, _, rfl, DPut.k h5 (by rw [← repK_len h6]; exact hc.2), q _ ?_⟩
      exact S.setM h2 h4 h5 (dk_no_code _) ⟨h4, _, upd_same, repK_put rb h6⟩
    · cases e
noncomputable def sSetIx (a b c : EvE) : EvS := fun env M => (a env M).thenS env fun v M1 => (b env M1).thenS env fun o M2 => (c env M2).thenS env fun i M3 => match setIx M3 o i v with
  | some M4 => .nx env M4
  | none => .stuck
theorem psd_setIx {e o i : Expr} {a b c : EvE} {tpos : Pos} (hX : XG G X) (he : PE X e (tE G W own a)) (ho : PE X o (tE G W own b)) (hi : PE X i (tE G W own c))
    (ha : ∀ v, assign (.Subscript o i tpos) X.env v = (do
      let ov ← holding [v] (eval o X.env)
      let iv ← holding [v, ov] (eval i X.env)
      standAt tpos
      holding [v, ov, iv] (setItem ov iv v)
      release [v, ov, iv] []) := by intro _; rfl)
    (hs : swapsWithSole [.Subscript o i tpos] e pos.line X.env = pure false := by rfl) (hw : swappedStores [.Subscript o i tpos] e X.env = pure none := by rfl)
    (h1 : (assignEach [.Subscript o i tpos] X.env).map (·.2) = [assign (.Subscript o i tpos) X.env] := by rfl) : PS X (.Assign [.Subscript o i tpos] e pos) (tS G W own (sSetIx a b c)) :=
  PS_imp (ps_asg he (pg_sub ho hi (set_any hX) ha) hs hw h1) fun σ H D h => by
    obtain ⟨w, env, M, S, E, h⟩ := h
    refine tG_thenS (g := fun v M1 => (b env M1).thenS env fun o M2 => (c env M2).thenS env fun i M3 => match setIx M3 o i v with
      | some M4 => .nx env M4
      | none => .stuck) S E h fun dv M1 w1 H1 v l1 S1 E1 r1 h1 => ?_
    refine tG_thenS (g := fun o M2 => (c env M2).thenS env fun i M3 => match setIx M3 o i dv with
      | some M4 => .nx env M4
      | none => .stuck) S1 E1 h1 fun dO M2 w2 H2 o l2 S2 E2 r2 h2 => ?_
    refine tG_thenS (g := fun i M3 => match setIx M3 dO i dv with
      | some M4 => .nx env M4
      | none => .stuck) S2 E2 h2 fun di M3 w3 H3 i l3 S3 E3 r3 h3 => ?_
    cases e4 : setIx M3 dO di dv with
    | none => rw [e4] at h3; exact h3.elim
    | some M4 =>
      rw [e4] at h3
      exact ⟨w3, M3, dO, di, dv, M4, S3, r2.mono l3.toR, r3, r1.mono (l2.trans l3).toR, e4, fun H' S' => h3 w3 H' σ (Le.refl _) S' E3⟩
/-! ### methods -/
abbrev MOp := Mem → D → List D → Option (D × Mem)
def rM (G : Gb) (f : MOp) : V → List V → Hp → VK → Prop := fun x xs H Q => ∃ w M dx ds d M', Sim0 G w H M ∧ Rep G w dx x ∧ Reps G w ds xs ∧ f M dx ds = some (d, M') ∧ ∀ w' H' v, Le w w' → Sim0 G w' H' M' → Rep G w' d v → Q v H'
def tyM (M : Mem) : D → Option String
  | .str _ => some "str"
  | .lst _ => some "list"
  | .ref i => match M[i]? with
    | some (.lst _) => some "list"
    | some (.dct _) => some "dict"
    | _ => none
  | _ => none
theorem tyM_rep {d : D} {v : V} {T : String} (hK : X.K = G.K) (S : Sim0 G w H M) (r : Rep G w d v) (e : tyM M d = some T) : tyV X.K T v H := by
  cases r <;> simp only [tyM, Option.some.injEq, reduceCtorEq] at e
  · subst e; exact rfl
  · subst e
    rename_i z rr
    exact .inl ⟨rfl, _, .inl (ZL.rd S.z z)⟩
  · rename_i i hi
    split at e
    · rename_i xs e1
      cases e
      obtain ⟨_, vs, h1, _⟩ := S.m i _ e1
      exact .inl ⟨rfl, vs, .inl (.inl h1)⟩
    · rename_i xs e1
      cases e
      obtain ⟨_, vs, h1, _⟩ := S.m i _ e1
      exact .inr (.inr (.inl ⟨rfl, .inl ⟨vs, h1⟩⟩))
    · cases e
def optM (o : Option (D × Mem)) : Res D := match o with
  | some (d, M) => .ok d M
  | none => .stuck
def cM (T : String) (f : MOp) (a : EvE) (b : EvL) : EvE := fun env M => (a env M).bind fun o M1 => if tyM M1 o = some T then (b env M1).bind fun ds M2 => optM (f M2 o ds) else .stuck
theorem tBM_of {T : String} {f : MOp} {a : EvE} {b : EvL} {σ : L2.St} {H : Hp} {Q : VK} (hK : X.K = G.K) (h : tE G W own (cM T f a b) σ H Q) : tBM X.K T (rM G f) (tE G W own a) (tL G W own b) σ H Q := by
  obtain ⟨w, env, M, S, E, h⟩ := h
  refine tG_bind (g := fun o M1 => if tyM M1 o = some T then (b env M1).bind fun ds M2 => optM (f M2 o ds) else .stuck) S E h fun dO M1 w1 H1 x l1 S1 E1 r1 h1 => ?_
  split at h1
  · rename_i ht
    refine ⟨tyM_rep hK S1 r1 ht, ?_⟩
    refine tG_bind (g := fun ds M2 => optM (f M2 dO ds)) S1 E1 h1 fun ds M2 w2 H2 xs l2 S2 E2 r2 h2 => ?_
    cases e : f M2 dO ds with
    | none => rw [e] at h2; exact h2.elim
    | some p =>
      obtain ⟨d, M3⟩ := p
      rw [e] at h2
      exact ⟨w2, M2, dO, ds, d, M3, S2, r1.mono l2.toR, r2, e, h2⟩
  · exact h1.elim
theorem tBM0_of {T : String} {f : MOp} {a : EvE} {σ : L2.St} {H : Hp} {Q : VK} (hK : X.K = G.K) (h : tE G W own (cM T f a cNil) σ H Q) : tBM0 X.K T (rM G f) (tE G W own a) σ H Q := by
  obtain ⟨w, env, M, S, E, h⟩ := h
  refine tG_bind (g := fun o M1 => if tyM M1 o = some T then (cNil env M1).bind fun ds M2 => optM (f M2 o ds) else .stuck) S E h fun dO M1 w1 H1 x l1 S1 E1 r1 h1 => ?_
  split at h1
  · rename_i ht
    refine ⟨tyM_rep hK S1 r1 ht, ?_⟩
    have h2 : OkE G W σ w1 (optM (f M1 dO [])) Q := h1
    cases e : f M1 dO [] with
    | none => rw [e] at h2; exact h2.elim
    | some p =>
      obtain ⟨d, M3⟩ := p
      rw [e] at h2
      exact ⟨w1, M1, dO, [], d, M3, S1, r1, .nil, e, h2⟩
  · exact h1.elim
theorem pd_m0 {o : Expr} {a : EvE} {name : Str} {apos cpos : Pos} {T id : String} {f : MOp} (hK : X.K = G.K) (pa : PlainAttrs T) (slot : Slot T name id) (hty : typeOf (.builtin id) = pure (.type "method_descriptor")) (hm : MtR X id (rM G f)) (ho : PE X o (tE G W own a))
    (hbase : attributeBase o name X.env (eval o X.env) = eval o X.env := by rfl) (hline : (apos.endLine == cpos.line) = true := by rfl) : PE X (.Call (.Attribute o name apos) [] [] cpos) (tE G W own (cM T f a cNil)) :=
  PE_imp (pe_bm0 pa slot hty hm ho hbase hline) fun _ _ _ => tBM0_of hK
theorem pd_m {o e : Expr} {es : List Expr} {a : EvE} {b : EvL} {name : Str} {apos cpos : Pos} {T id : String} {f : MOp} (hK : X.K = G.K) (pa : PlainAttrs T) (slot : Slot T name id) (hty : typeOf (.builtin id) = pure (.type "method_descriptor")) (hm : MtR X id (rM G f)) (ho : PE X o (tE G W own a)) (ha : PA X (e :: es) (tL G W own b))
    (hbase : attributeBase o name X.env (eval o X.env) = eval o X.env := by rfl)
    (hfew : ((backTo cpos (starEach (e :: es) X.env)).all (fun x => !x.1) && (backToKw cpos (keywordEach [] X.env)).all (fun x => x.1.isSome)
      && decide ((e :: es).length + ([] : List Keyword).length + (if ([] : List Keyword).isEmpty then 0 else 1) < 30)) = true := by rfl)
    (hline : (apos.endLine == cpos.line) = true := by rfl) (hs : starEach (e :: es) X.env = (false, eval e X.env) :: starEach es X.env := by rfl) (hplain : (backTo cpos (starEach es X.env)).any (·.1) = false := by rfl) :
    PE X (.Call (.Attribute o name apos) (e :: es) [] cpos) (tE G W own (cM T f a b)) :=
  PE_imp (pe_bm pa slot hty hm ho ha hbase hfew hline hs hplain) fun _ _ _ => tBM_of hK
noncomputable def mAppend : MOp := fun M o ds => match lstAt M o, ds with
  | some (i, xs), [y] => if xs.length < sizeLine ∧ below i y = true then some (.non, M.set i (.lst (xs ++ [y]))) else none
  | _, _ => none
theorem mtd_append : MtR X "list.append" (rM G mAppend) := by
  intro pins s σ H x vs v us Q I rx rv h
  obtain ⟨w, M, dx, ds, d, M', S, r1, r2, e, q⟩ := h
  unfold mAppend at e
  split at e
  · rename_i i xs y el
    split at e
    · rename_i hc
      cases e
      obtain ⟨hj, rfl, hP, zs, hv, rs⟩ := lstAt_rep S r1 el
      obtain ⟨u, rfl, ru⟩ := reps1 r2
      exact mt_append pins s σ H _ _ v us Q I rx rv ⟨_, zs, u, rfl, rfl, hv, by rw [← rs.length]; exact hc.1, q w _ _ (Le.refl w) (S.setL hj hP hv (rs.append (.cons (below_rep ru hc.2) .nil))) .non⟩
    · cases e
  · cases e
noncomputable def mPop : MOp := fun M o ds => match lstAt M o, ds with
  | some (i, xs), [] => (xs[xs.length - 1]?).map fun y => (y, M.set i (.lst xs.dropLast))
  | _, _ => none
theorem reps_dropLast : ∀ {ds : List D} {vs : List V}, Reps G w ds vs → Reps G w ds.dropLast vs.dropLast
  | _, _, .nil => .nil
  | _, _, .cons a .nil => .nil
  | _, _, .cons a (.cons b c) => .cons a (reps_dropLast (.cons b c))
theorem mtd_pop : MtR X "list.pop" (rM G mPop) := by
  intro pins s σ H x vs v us Q I rx rv h
  obtain ⟨w, M, dx, ds, d, M', S, r1, r2, e, q⟩ := h
  unfold mPop at e
  split at e
  · rename_i i xs el
    obtain ⟨y, hy, e⟩ := Option.map_eq_some_iff.mp e
    cases e
    obtain ⟨hj, rfl, hP, zs, hv, rs⟩ := lstAt_rep S r1 el
    cases r2
    obtain ⟨u, hu, ru⟩ := rs.get hy
    exact mt_pop pins s σ H _ _ v us Q I rx rv ⟨_, zs, u, rfl, rfl, hv, by rw [← rs.length]; exact hu, q w _ _ (Le.refl w) (S.setL hj hP hv (reps_dropLast rs)) (ru.mono (.ofCut w (Nat.le_of_lt hj)))⟩
  · cases e
noncomputable def mPopAt : MOp := fun M o ds => match lstAt M o, ds with
  | some (i, xs), [.int k] => if k.natAbs ≤ 100000 then (seqIndex? k xs.length).bind fun j => (xs[j]?).map fun y => (y, M.set i (.lst (xs.eraseIdx j))) else none
  | _, _ => none
theorem mtd_popAt : MtR X "list.pop" (rM G mPopAt) := by
  intro pins s σ H x vs v us Q I rx rv h
  obtain ⟨w, M, dx, ds, d, M', S, r1, r2, e, q⟩ := h
  unfold mPopAt at e
  split at e
  · rename_i i xs k el
    split at e
    · rename_i hk
      obtain ⟨j, hj', e⟩ := Option.bind_eq_some_iff.mp e
      obtain ⟨y, hy, e⟩ := Option.map_eq_some_iff.mp e
      cases e
      obtain ⟨hj, rfl, hP, zs, hv, rs⟩ := lstAt_rep S r1 el
      obtain ⟨u2, rfl, ru2⟩ := reps1 r2
      have := int_of ru2; subst this
      obtain ⟨u, hu, ru⟩ := rs.get hy
      exact mt_popAt pins s σ H _ _ v us Q I rx rv ⟨_, zs, k, j, u, rfl, rfl, hv, by omega, by omega, by rw [← rs.length]; exact hj', hu, q w _ _ (Le.refl w) (S.setL hj hP hv (rs.eraseIdx j)) (ru.mono (.ofCut w (Nat.le_of_lt hj)))⟩
    · cases e
  · cases e
def mClear : MOp := fun M o ds => match lstAt M o, ds with
  | some (i, _), [] => some (.non, M.set i (.lst []))
  | _, _ => none
theorem mtd_clear : MtR X "list.clear" (rM G mClear) := by
  intro pins s σ H x vs v us Q I rx rv h
  obtain ⟨w, M, dx, ds, d, M', S, r1, r2, e, q⟩ := h
  unfold mClear at e
  split at e
  · rename_i i xs el
    cases e
    obtain ⟨hj, rfl, hP, zs, hv, rs⟩ := lstAt_rep S r1 el
    cases r2
    exact mt_clear pins s σ H _ _ v us Q I rx rv ⟨_, zs, rfl, rfl, hv, q w _ _ (Le.refl w) (S.setL hj hP hv .nil) .non⟩
  · cases e
noncomputable def mInsert : MOp := fun M o ds => match lstAt M o, ds with
  | some (i, xs), [.int k, y] => if xs.length < sizeLine ∧ below i y = true ∧ 0 ≤ k ∧ k ≤ 100000 then some (.non, M.set i (.lst (xs.take k.toNat ++ [y] ++ xs.drop k.toNat))) else none
  | _, _ => none
theorem mtd_insert : MtR X "list.insert" (rM G mInsert) := by
  intro pins s σ H x vs v us Q I rx rv h
  obtain ⟨w, M, dx, ds, d, M', S, r1, r2, e, q⟩ := h
  unfold mInsert at e
  split at e
  · rename_i i xs k y el
    split at e
    · rename_i hc
      cases e
      obtain ⟨hj, rfl, hP, zs, hv, rs⟩ := lstAt_rep S r1 el
      obtain ⟨u2, u, rfl, ru2, ru⟩ := reps2 r2
      have := int_of ru2; subst this
      exact mt_insert pins s σ H _ _ v us Q I rx rv ⟨_, zs, k, u, rfl, rfl, hv, by rw [← rs.length]; exact hc.1, hc.2.2.1, by omega, q w _ _ (Le.refl w) (S.setL hj hP hv (((rs.take _).append (.cons (below_rep ru hc.2.1) .nil)).append (rs.drop _))) .non⟩
    · cases e
  · cases e
/-- xs.extend(ys), ys read -/
theorem ext_rd {pins : List (Addr × Obj)} {s : Shared} {σ : L2.St} {H : Hp} {l b : Addr} {xs zs : List V} {Q : VK} (I : Inv X pins σ H s) (hH : H l = some (.lst xs)) (hB : Rd H b (.lst zs)) (hz : xs.length + zs.length ≤ sizeLine) (q : Q .non (upd H l (.lst (xs ++ zs)))) :
    wpAny (model X.prog X.w) X.A (call (.builtin "list.extend") [.ref l, .ref b]) (EP X pins σ Q) X.xe s := by
  obtain ⟨z, its, n, r, hl, e⟩ := I.lstM hH
  obtain ⟨z2, its2, n2, r2, hl2, e2⟩ := rd_lst I hB
  have hsz : its.toArray.size + its2.toArray.size ≤ sizeLine := by rw [List.size_toArray, List.size_toArray]; omega
  refine call_meets F.slot_list_extend ⟨_, e, rfl⟩ F.entry_list_extend (F.args_list_extend_2 _ _)
    (AutoSeq1.list_extend_list_list_0 l its.toArray n b its2.toArray n2 (by rw [notLongL hsz, Bool.and_false]; exact Bool.false_ne_true) (by rw [List.size_toArray]; omega) (by omega)) ⟨e, e2, ?_⟩
  refine ⟨.non, _, I.lset (its' := its ++ its2) hH e (by simp) (r.append r2) ?_, rfl, q⟩
  rw [List.length_append]
  omega
noncomputable def mExtend : MOp := fun M o ds => match lstAt M o, ds with
  | some (i, xs), [y] => match der M y with
    | .lst zs => if xs.length + zs.length ≤ sizeLine ∧ belows i zs = true then some (.non, M.set i (.lst (xs ++ zs))) else none
    | _ => none
  | _, _ => none
theorem mtd_extend : MtR X "list.extend" (rM G mExtend) := by
  intro pins s σ H x vs v us Q I rx rv h
  obtain ⟨w, M, dx, ds, d, M', S, r1, r2, e, q⟩ := h
  unfold mExtend at e
  split at e
  · rename_i i xs y el
    split at e
    · rename_i zs ez
      split at e
      · rename_i hc
        cases e
        obtain ⟨hj, rfl, hP, xv, hv, rs⟩ := lstAt_rep S r1 el
        obtain ⟨u, rfl, ru⟩ := reps1 r2
        obtain ⟨b, zv, rfl, h1, h2⟩ := der_lst S ru ez
        cases rx
        cases rv with
        | cons r rr =>
          cases rr
          cases r
          exact ext_rd I hv h1 (by rw [← rs.length, ← h2.length]; exact hc.1) (q w _ _ (Le.refl w) (S.setL hj hP hv (rs.append (belows_rep h2 hc.2))) .non)
      · cases e
    · cases e
  · cases e
def strsD : List D → Option (List Str)
  | [] => some []
  | .str x :: r => (strsD r).map (x :: ·)
  | _ => none
theorem strsD_rep : ∀ {ds : List D} {vs : List V} {ys : List Str}, Reps G w ds vs → strsD ds = some ys → vs = ys.map V.str
  | _, _, _, .nil, e => by cases e; rfl
  | .str x :: r, _, _, .cons a b, e => by
    have e : (strsD r).map (x :: ·) = some _ := e
    obtain ⟨ys, h1, rfl⟩ := Option.map_eq_some_iff.mp e
    cases a
    rw [strsD_rep b h1]; rfl
  | .non :: _, _, _, .cons _ _, e => by cases e
  | .bl _ :: _, _, _, .cons _ _, e => by cases e
  | .int _ :: _, _, _, .cons _ _, e => by cases e
  | .tup _ :: _, _, _, .cons _ _, e => by cases e
  | .lst _ :: _, _, _, .cons _ _, e => by cases e
  | .exc _ _ _ :: _, _, _, .cons _ _, e => by cases e
  | .fn _ :: _, _, _, .cons _ _, e => by cases e
  | .ty _ :: _, _, _, .cons _ _, e => by cases e
  | .ref _ :: _, _, _, .cons _ _, e => by cases e
  | .cl _ :: _, _, _, .cons _ _, e => by cases e
  | .scr _ :: _, _, _, .cons _ _, e => by cases e
def mJoin : MOp := fun M o ds => match o, ds with
  | .str a, [y] => match der M y with
    | .lst zs => match strsD zs with
      | some ys => if (ys.map (·.length)).sum + ys.length * a.length ≤ 16777216 then some (.str (Txt.join a ys), M) else none
      | none => none
    | .tup zs => match strsD zs with
      | some ys => if (ys.map (·.length)).sum + ys.length * a.length ≤ 16777216 then some (.str (Txt.join a ys), M) else none
      | none => none
    | _ => none
  | _, _ => none
theorem mtd_join (hK : X.K = G.K) : MtR X "str.join" (rM G mJoin) := by
  intro pins s σ H x vs v us Q I rx rv h
  obtain ⟨w, M, dx, ds, d, M', S, r1, r2, e, q⟩ := h
  unfold mJoin at e
  split at e
  · rename_i a y
    obtain ⟨u, rfl, ru⟩ := reps1 r2
    have := str_of r1; subst this
    split at e
    · rename_i zs ez
      split at e
      · rename_i ys ey
        split at e
        · rename_i hc
          cases e
          obtain ⟨b, zv, rfl, h1, h2⟩ := der_lst S ru ez
          have := strsD_rep h2 ey; subst this
          exact mt_join pins s σ H _ _ v us Q I rx rv ⟨a, b, ys, rfl, rfl, .inl (.inl h1), hc, q w H _ (Le.refl w) S (.str _)⟩
        · cases e
      · cases e
    · rename_i zs ez
      split at e
      · rename_i ys ey
        split at e
        · rename_i hc
          cases e
          obtain ⟨b, zv, rfl, h1, h2⟩ := der_tup S ru ez
          have := strsD_rep h2 ey; subst this
          exact mt_join pins s σ H _ _ v us Q I rx rv ⟨a, b, ys, rfl, rfl, .inr (by rw [hK]; exact h1), hc, q w H _ (Le.refl w) S (.str _)⟩
        · cases e
      · cases e
    · cases e
  · cases e
def mUpper : MOp := fun M o ds => match o, ds with
  | .str a, [] => if a.length ≤ 5592405 then some (.str (Txt.upper a), M) else none
  | _, _ => none
theorem mtd_upper : MtR X "str.upper" (rM G mUpper) := by
  intro pins s σ H x vs v us Q I rx rv h
  obtain ⟨w, M, dx, ds, d, M', S, r1, r2, e, q⟩ := h
  unfold mUpper at e
  split at e
  · rename_i a
    split at e
    · rename_i hc
      cases e
      cases r2
      have := str_of r1; subst this
      exact mt_upper pins s σ H _ _ v us Q I rx rv ⟨a, rfl, rfl, hc, q w H _ (Le.refl w) S (.str _)⟩
    · cases e
  · cases e
/-- d.get(k, x) -/
def mGet2 : MOp := fun M o ds => match dctOf M o, ds with
  | some kvs, [y, z] => (keyD y).map fun k => ((atK kvs k).getD z, M)
  | _, _ => none
theorem repK_none : ∀ {kvs : List (Key × D)} {vs : List (Key × V)} {k : Key}, RepK G w kvs vs → atK kvs k = none → valV vs k = none
  | _, _, _, .nil, e => rfl
  | _, _, k, .cons (k := k0) (d := d0) (kvs := kvs) (v := v0) (vs := vs) a b, e => by
    by_cases h : k0 = k
    · simp [atK, List.find?_cons, h] at e
    · have e' : atK kvs k = none := by
        rw [← e]
        simp [atK, List.find?_cons, h]
      rw [valV_neg h]
      exact repK_none b e'
theorem mtd_get2 (hX : XG G X) : MtR X "dict.get" (rM G mGet2) := by
  intro pins s σ H x vs v us Q I rx rv h
  obtain ⟨w, M, dx, ds, d, M', S, r1, r2, e, q⟩ := h
  unfold mGet2 at e
  split at e
  · rename_i kvs y z e1
    obtain ⟨k, ek, e⟩ := Option.map_eq_some_iff.mp e
    cases e
    obtain ⟨j, zs, rfl, h2, h3, rfl, h4, h5, h6⟩ := dct_of S r1 e1
    obtain ⟨u1, u2, rfl, ru1, ru2⟩ := reps2 r2
    have := key_of_rep ru1 ek; subst this
    cases rx
    cases rv with
    | cons r rr =>
      cases rr with
      | cons r' rr =>
        cases rr
        refine d_get2 (by have := hX.un; omega) I (DGet.k h5) r r' fun w' s' I' rw' => ⟨_, H, I', rw', q w H _ (Le.refl w) S ?_⟩
        cases e2 : atK kvs k with
        | none => rw [repK_none h6 e2]; exact ru2
        | some d2 =>
          obtain ⟨v2, h7, h8⟩ := repK_at h6 e2
          rw [h7]
          exact h8.mono (.ofCut w (Nat.le_of_lt h2))
  · cases e
end
end DI

set_option Elab.async false
set_option linter.all false
set_option maxRecDepth 100000
set_option maxHeartbeats 4000000
/-! DI15: dict displays; own exceptions raised. -/
namespace DI
open PySem PySem.Spec PyProof.Rows L2
def cPairs : List (EvE × EvE) → En → Mem → Res (List (D × D))
  | [], _, M => .ok [] M
  | (k, v) :: r, env, M => (k env M).bind fun x M1 => (v env M1).bind fun y M2 => (cPairs r env M2).bind fun ps M3 => .ok ((x, y) :: ps) M3
def keysD : List (D × D) → Option (List (Key × D))
  | [] => some []
  | (x, y) :: r => (keyD x).bind fun k => (keysD r).map ((k, y) :: ·)
def mergeD (kvs : List (Key × D)) (more : List (Key × D)) : List (Key × D) := more.foldl (fun acc kv => putD acc kv.1 kv.2) kvs
def cDisp (ps : List (EvE × EvE)) : EvE := fun env M => (cPairs ps env M).bind fun qs M1 => match keysD qs with
  | some kvs => if kvs.length ≤ 15 ∧ belows M1.length (kvs.map (·.2)) = true then .ok (.ref M1.length) (M1 ++ [.dct (mergeD [] kvs)]) else .stuck
  | none => .stuck
section
variable {G : Gb} {W : WX} {own : Option (List (Str × Addr))} {X : Cx} {pos p : Pos} {w w1 : Wd} {H : Hp} {M : Mem} {σ : L2.St} {env : En} {tg : Expr}
inductive RepP (G : Gb) (w : Wd) : List (D × D) → List (V × V) → Prop
  | nil : RepP G w [] []
  | cons {x y : D} {u v : V} {ds : List (D × D)} {vs : List (V × V)} : Rep G w x u → Rep G w y v → RepP G w ds vs → RepP G w ((x, y) :: ds) ((u, v) :: vs)
theorem keysD_rep : ∀ {ds : List (D × D)} {vs : List (V × V)} {kvs : List (Key × D)}, RepP G w ds vs → keysD ds = some kvs → ∃ ks : List (Key × V), vs = ks.map (fun kv => (kV kv.1, kv.2)) ∧ RepK G w kvs ks
  | _, _, _, .nil, e => by cases e; exact ⟨[], rfl, .nil⟩
  | _, _, _, .cons a b c, e => by
    unfold keysD at e
    obtain ⟨k, e1, e⟩ := Option.bind_eq_some_iff.mp e
    obtain ⟨r, e2, rfl⟩ := Option.map_eq_some_iff.mp e
    obtain ⟨ks, rfl, h⟩ := keysD_rep c e2
    have := key_of_rep a e1; subst this
    exact ⟨(k, _) :: ks, rfl, .cons b h⟩
theorem tPairs_of : ∀ {ps : List (EvE × EvE)} {w : Wd} {M : Mem} {H : Hp} {Q : List (V × V) → Hp → Prop}, Sim0 G w H M → SimE G w own σ env →
    OkG G W σ (RepP G) w (cPairs ps env M) Q → tPairs (ps.map fun p => (tE G W own p.1, tE G W own p.2)) σ H Q
  | [], w, M, H, Q, S, E, h => h w H [] (Le.refl w) S .nil
  | (k, v) :: r, w, M, H, Q, S, E, h => by
    refine tG_bind (f := k) (g := fun x M1 => (v env M1).bind fun y M2 => (cPairs r env M2).bind fun ps M3 => .ok ((x, y) :: ps) M3) S E h fun x M1 w1 H1 u l1 S1 E1 r1 h1 => ?_
    refine tG_bind (f := v) (g := fun y M2 => (cPairs r env M2).bind fun ps M3 => .ok ((x, y) :: ps) M3) S1 E1 h1 fun y M2 w2 H2 u2 l2 S2 E2 r2 h2 => ?_
    refine tPairs_of S2 E2 ?_
    cases e3 : cPairs r env M2 with
    | err c ns vs M3 => rw [e3] at h2; exact h2
    | stuck => rw [e3] at h2; exact h2
    | ok qs M3 =>
      rw [e3] at h2
      exact fun w' H' vs l S' rp => h2 w' H' _ l S' (.cons (r1.mono (l2.trans l).toR) (r2.mono l.toR) rp)
theorem repK_merge : ∀ {more : List (Key × D)} {ms : List (Key × V)} {kvs : List (Key × D)} {vs : List (Key × V)}, RepK G w more ms → RepK G w kvs vs → RepK G w (mergeD kvs more) (mergeK vs ms)
  | _, _, _, _, .nil, h => h
  | (k, d) :: more, (_, v) :: ms, kvs, vs, .cons a b, h => by
    show RepK G w (mergeD (putD kvs k d) more) (mergeK (putK vs k v) ms)
    exact repK_merge b (repK_put a h)
theorem repK_below {i : Nat} : ∀ {kvs : List (Key × D)} {vs : List (Key × V)}, RepK G w kvs vs → belows i (kvs.map (·.2)) = true → RepK G (w.cut i) kvs vs
  | _, _, .nil, _ => .nil
  | _, _, .cons a b, h => by
    rw [List.map_cons, belows, Bool.and_eq_true] at h
    exact .cons (below_rep a h.1) (repK_below b h.2)
theorem dk_no_obj (xs : List (Key × V)) (a : Addr) : ∀ q, HO.dK xs ≠ ObjO a q := fun _ e => by cases e
theorem pd_disp {keys : List (Option Expr)} {values : List Expr} {ps : List (EvE × EvE)} (h : PPs X pos keys values (ps.map fun p => (tE G W own p.1, tE G W own p.2))) (hall : keys.all (·.isSome) = true) (hl : keys.length = values.length) (h0 : keys ≠ [])
    (h15 : keys.length ≤ 15) : PE X (.Dict keys values pos) (tE G W own (cDisp ps)) :=
  PE_imp (pe_disp h hall hl h0 h15) fun σ H Q h => by
    obtain ⟨w, env, M, S, E, h⟩ := h
    intro p hp
    have u := S.unt hp
    have St : Sim0 G (w.trk p (.dK [])) (upd H p (.dK [])) M := (S.wr u (fun c q z => by rw [hp] at z; cases z)).trk u upd_same (.inr ⟨_, rfl⟩)
    have back : ∀ {w4 : Wd} {H4 : Hp} {M4 : Mem}, Le (w.trk p (.dK [])) w4 → Sim0 G w4 H4 M4 → Sim0 G (w4.setP w.P) H4 M4 ∧ Unt G (w4.setP w.P) p ∧ H4 p = some (.dK []) ∧ Le w (w4.setP w.P) := fun {w4 H4 M4} l4 S4 => by
      obtain ⟨a1, a2, a3⟩ := S4.untrk (P0 := w.P) (a := p) (o := .dK []) l4.p u.p
      exact ⟨a1, a2, a3, ⟨l4.z, rfl, l4.n, l4.r, l4.o⟩⟩
    have Et : SimE G (w.trk p (.dK [])) own σ env := ⟨E.ow, E.len, fun i s e => (E.sl i s e).mono LeR.trk⟩
    refine tPairs_of St Et ?_
    unfold cDisp at h
    cases e1 : cPairs ps env M with
    | err c ns vs M1 =>
      rw [e1] at h
      intro w4 H4 C d l4 S4 x
      obtain ⟨a1, a2, a3, a4⟩ := back l4 S4
      exact h _ H4 C d a4 a1 (x.mono LeR.setP)
    | stuck => rw [e1] at h; exact h
    | ok qs M1 =>
      rw [e1] at h
      intro w4 H4 vs l4 S4 rp
      obtain ⟨a1, a2, a3, a4⟩ := back l4 S4
      simp only [Res.bind_ok] at h
      cases e2 : keysD qs with
      | none => rw [e2] at h; exact h.elim
      | some kvs =>
        rw [e2] at h
        obtain ⟨ks, rfl, rk⟩ := keysD_rep rp e2
        have rk' : RepK G (w4.setP w.P) kvs ks := rk.mono LeR.setP
        simp only at h
        split at h
        · rename_i hz
          refine ⟨a3, ks, rfl, by rw [← repK_len rk']; exact hz.1, ?_⟩
          have S5 := a1.wr (o := .dK (mergeK [] ks)) a2 (fun c q z => by rw [a3] at z; cases z)
          refine h _ _ _ (a4.trans Le.push) (S5.pushU a2 (x := .dct (mergeD [] kvs)) ⟨a2.p, _, upd_same, repK_merge (repK_below rk' (a1.len ▸ hz.2)) .nil⟩) ?_
          have := Rep.ref (G := G) (w := (w4.setP w.P).push p) (i := (w4.setP w.P).n) (Nat.lt_succ_self _)
          rw [push_new] at this
          rw [a1.len]
          exact this
        · exact h.elim
theorem ppd_nil : PPs X pos [] [] (([] : List (EvE × EvE)).map fun p => (tE G W own p.1, tE G W own p.2)) := pps_nil
theorem ppd_cons {k v : Expr} {ks : List (Option Expr)} {vs : List Expr} {a b : EvE} {ps : List (EvE × EvE)} (hk : PE X k (tE G W own a)) (hv : PE X v (tE G W own b)) (hr : PPs X pos ks vs (ps.map fun p => (tE G W own p.1, tE G W own p.2))) :
    PPs X pos (some k :: ks) (v :: vs) (((a, b) :: ps).map fun p => (tE G W own p.1, tE G W own p.2)) := pps_cons hk hv hr
/-! ### raise C(..), C without __init__ of its own -/
noncomputable def sRaise (c : Str) (b : EvL) : EvS := fun env M => (b env M).thenS env fun ds M1 => if ds.length ≤ sizeLine then .err c [] [] env M1 else .stuck
theorem psd_raise {C : Addr} {bmB : List Value} {B newId initId : String} {x : Str} {e : Expr} {es : List Expr} {b : EvL} {p pos' : Pos} (hX : XG G X) (tk : Takes X W) (F : ExcBaseFacts B newId initId bmB) (q : PySem.W.excIn X.K C bmB newId = true) (gC : X.mg x = some (.ref C))
    (kC : PySem.W.keepIn X.K (.ref C) = true) (r : Raises X (.ref C)) (hg : Gl X x) (ha : PA X (e :: es) (tL G W own b)) (hdb : (x == ("__debug__" : Str)) = false := by decide)
    (he : starEach (e :: es) X.env = (false, eval e X.env) :: starEach es X.env := by rfl) (hpl : (backTo pos (starEach es X.env)).any (·.1) = false := by rfl) :
    PS X (.Raise (some (.Call (.Name x p) (e :: es) [] pos)) none pos') (tS G W own (sRaise x b)) :=
  PS_imp (ps_raise hX.calm tk (pmk_ownA F q gC kC r hg ha hdb he hpl)) fun σ H D h => by
    obtain ⟨w, env, M, S, E, h⟩ := h
    refine tG_thenS (g := fun (ds : List DI.D) M1 => if ds.length ≤ sizeLine then RS.err x [] [] env M1 else RS.stuck) S E h fun ds M1 w1 H1 vs l1 S1 E1 r1 h1 => ?_
    split at h1
    · rename_i hz
      exact ⟨by rw [← r1.length]; exact hz, h1 w1 H1 C none σ (Le.refl _) S1 E1 ⟨by rw [← hX.mg]; exact gC, rfl, .inl ⟨rfl, rfl⟩⟩⟩
    · exact h1.elim
end
end DI

set_option Elab.async false
set_option linter.all false
set_option maxRecDepth 100000
set_option maxHeartbeats 4000000
/-! DI16: an exception caught and kept as a value. -/
namespace DI
open PySem PySem.Spec PyProof.Rows L2
section
variable {X : Cx} {pins : List (Addr × Obj)} {σ : L2.St} {H : Hp} {s : Shared}
/-- an exception's object, there already, is told of from now on -/
theorem trackX {a C : Addr} {d : Option Addr} {oe : Obj} {vs : Array Value} (I : Inv X pins σ H s) (na : H a = none) (he : s.heap.get? a = some oe) (hz : Zc (.ref C) d oe) (hd : oe.data = .fields vs) (n0 : X.s_0.heap.get? a = none) (nL : a ≠ X.env.locals)
    (np : ∀ p ∈ X.pn ++ pins, p.1 ≠ a) : Inv X pins σ (upd H a (ExcO a C d)) s := by
  have ne0 : ∀ b o, X.s_0.heap.get? b = some o → b ≠ a := fun b o e z => by rw [z, n0] at e; cases e
  have neS : ∀ b o, H b = some o → b ≠ a := fun b o e z => by rw [z, na] at e; cases e
  have nC : ∀ x c, X.env.cells.lookup x = some c → c ≠ a := fun x c e z => by
    obtain ⟨v, o, ho, hc⟩ := I.cell x c e
    rw [z, he] at ho
    cases ho
    rw [hd] at hc
    cases hc
  refine ⟨I.ok, I.os, I.bare, ⟨I.base.keep, I.base.slot, fun b o e n hx => ?_, I.base.there, fun b xs e => ?_, fun b o u e => ?_, fun b ps e => ?_⟩, I.loc, I.cell, ?_, fun x c e => ?_, fun p hp => ?_, fun b u e => ?_, I.len⟩
  · rw [upd_ne (ne0 b o e)]; exact I.base.free b o e n hx
  · have q := I.base.tups b xs e
    rw [upd_ne (neS b _ q)]; exact q
  · have q := I.base.frzs b o u e
    rw [upd_ne (neS b _ q)]; exact q
  · obtain ⟨m, q⟩ := I.base.tbls b ps e
    exact ⟨m, by rw [upd_ne (neS b _ q)]; exact q⟩
  · rw [upd_ne (Ne.symm nL)]; exact I.free
  · rw [upd_ne (nC x c e)]; exact I.freeC x c e
  · obtain ⟨e, n, r⟩ := I.pin p hp
    exact ⟨e, by rw [upd_ne (np p hp)]; exact n, r⟩
  · by_cases hb : b = a
    · rw [hb, upd_same] at e
      cases e
      rw [hb]
      exact ⟨⟨oe, he, hz, vs, hd⟩, ⟨oe, he⟩, fun h1 h2 ⟨o, q, r⟩ k => ⟨o, k o q, r⟩⟩
    · rw [upd_ne hb] at e
      exact (I.hok b u e).stay (fun c v _ q => q) (fun c q => by rw [upd_ne (neS c _ q)]; exact q) fun c xs q => by rw [upd_ne (neS c _ q)]; exact q
/-- what the clause wishes of an exception of the body: it is kept in slot j -/
def wKeep (K : PySem.W.Frag) (c : Value) (i j : Nat) (Wout : WX) (D : Ends) : WX := fun cls d σ H =>
  ∃ b, PySem.W.exmOne K cls c = some b ∧ (b = true → ∃ C, cls = .ref C ∧ ∀ a, H a = none → D.nx (((σ.set i (some (.ref a))).set j (some (.ref a))).set i none) (upd H a (ExcO a C d))) ∧ (b = false → Wout cls d σ H)
theorem ps_try_keep {x n y : Str} {c : Value} {i j : Nat} {body : List Stmt} {np py pn0 ap pos pos' : Pos} {tb : WX → TS} {Wout : WX} (hs : X.stack = X.env :: X.outer) (hf : X.env.frame = some X.env.locals) (hex : X.ex = []) (hN : X.N.Nodup) (hi : X.N[i]? = some n) (hln : X.env.scope.names.lookup n = some .local)
    (hj : X.N[j]? = some y) (hly : X.env.scope.names.lookup y = some .local) (hdn : (n == ("__debug__" : Str)) = false) (hcn : (n == ("__classdict__" : Str)) = false) (hc : Names X x c) (tk : Takes X Wout)
    (hsw : ∀ X' : Cx, X'.env = X.env → swapsWith (.Name n pn0) (some (.Name y py)) ap.line X'.env = pure false)
    (hb : ∀ (W : WX) (pn : List (Addr × Obj)) (xe : Value → Shared → Prop), Takes (X.tr pn xe) W → PassesOwn (model X.prog X.w) X.A X.env xe → PSs (X.tr pn xe) body (tb W)) :
    PS X (.Try body [.ExceptHandler (some (.Name x np)) (some n) [.Assign [.Name y py] (.Name n pn0) ap] pos'] [] [] pos) (fun D σ H => tb (wKeep X.K c i j Wout D) D σ H) := by
  refine ⟨fun pins s σ H D I h => ?_⟩
  have ok := I.ok
  have hfr : X.A.frames = some (X.env :: X.outer) := by rw [ok.frames, hs]
  have hkn : X.env.kindOf n = some .local := hln
  refine wpAny_Try_except ?_
  refine wpAny_mono ((hb (wKeep X.K c i j Wout D) (X.pn ++ pins) (fun e s₁ => wpAny (model X.prog X.w) X.A (noteFrame e X.env) (fun _ s₂ => wpAny (model X.prog X.w) X.A (setFlight e none) (fun _ s₃ =>
    wpAny (model X.prog X.w) X.A (handleBy e X.env [.ExceptHandler (some (.Name x np)) (some n) [.Assign [.Name y py] (.Name n pn0) ap] pos']) (SP X pins D) X.xe s₃) X.xe s₂) X.xe s₁) (fun u s' xx => ?_) PassesOwn.looking).run [] s σ H D (I.toTry _) h) (fun f s1 hsp => ?_) (fun e s1 he => he)
  · obtain ⟨a, B, sI, pins', σ', H', cls, d, rfl, J', nb, up, sky, na, os, ag, b, hb1, hyes, hno⟩ := xx
    have J : Inv X pins σ' H' sI := J'.ofTry ok
    show wpAny (model X.prog X.w) X.A (noteFrame (.ref a) X.env) _ _ _
    refine Sky.land Zc.steady hfr hf (by rw [← hs]; exact sky) fun h3 fl3 up3 => ?_
    have J3 : Inv X pins σ' H' { s' with heap := h3 } := J.landed nb fl3.1 (up.trans up3) os ag
    obtain ⟨oe3, vs3, he3, hz3, hd3⟩ := fl3.there
    have nfr : a ∉ frs (X.env :: X.outer) := fun hm => by
      obtain ⟨_, o', e', hnf⟩ := fl3.2.2.1.mem hm
      rw [he3] at e'; cases e'
      exact hnf _ hd3
    have nL : a ≠ X.env.locals := fun z => nfr (List.mem_filterMap.mpr ⟨X.env, List.mem_cons_self, by rw [hf, z]⟩)
    have nF : a ∉ X.fs := fun hm => by
      obtain ⟨e, he, q⟩ := List.mem_filterMap.mp hm
      exact nfr (List.mem_filterMap.mpr ⟨e, List.mem_cons_of_mem _ he, q⟩)
    have S3 := J3.suite he3 hd3 na nL nF
    refine wpAny_handleBy_cons (codeAny_handlers_test ?_) (by intro q; cases q)
    have LM := PySem.W.exm_one (M := model X.prog X.w) (J3.kIn) (fun A Q E s k q => wpAny_typeOf_ref (k _ _ he3) (by rw [hz3.1]; exact q)) hb1
    have test : ∀ {Q : Value → Shared → Prop} {E : Value → Shared → Prop}, Q c { s' with heap := h3 } → wpAny (model X.prog X.w) (X.A.mark (some (.ref a))) (eval (.Name x np) X.env) Q E { s' with heap := h3 } := fun {Q E} q => by
      obtain ⟨hg, hdbg, hm | ⟨hm, hv, hnn⟩⟩ := hc
      · exact ld_glob (X := X.suite a ((a, oe3) :: (X.pn ++ pins))) S3 hg hm q hdbg
      · exact ld_blt (X := X.suite a ((a, oe3) :: (X.pn ++ pins))) S3 hg hm hv q hnn hdbg
    refine test (LM.here ?_)
    cases b with
    | true =>
      obtain ⟨C, rfl, hq⟩ := hyes rfl
      refine codeAny_handlers_suite_as ?_
      refine HandSPX.lands_againZ fl3 fun h4 fl4 up4 => ?_
      have J4 : Inv X pins σ' H' { s' with heap := h4 } := J.landed nb fl4.1 ((up.trans up3).trans up4) os ag
      obtain ⟨oe4, vs4, he4, hz4, hd4⟩ := fl4.there
      have S4 := J4.suite he4 hd4 na nL nF
      -- the object is newer than the frame, than the pins
      have inB : ∀ b o, sI.heap.get? b = some o → b ∉ frs X.stack → b ≠ a := fun b o e hb z => by
        have q := nb b o e hb
        rw [z, fl3.2.1] at q
        cases q
      have n0 : X.s_0.heap.get? a = none := by
        cases e : X.s_0.heap.get? a with
        | none => rfl
        | some o =>
          obtain ⟨o', e'⟩ := J.base.there a o e (by rw [hex]; exact fun z => nomatch z)
          exact absurd rfl (inB a o' e' (by rw [hs]; exact nfr))
      have np' : ∀ p ∈ X.pn ++ pins, p.1 ≠ a := fun p hp => by
        obtain ⟨e, n, nl, nf, _⟩ := J.pin p hp
        refine inB p.1 p.2 e fun hm => ?_
        rcases List.mem_cons.mp (J.stkSub _ hm) with z | z
        · exact nl z
        · exact nf z
      refine store_ok (X := X.suite a ((a, oe4) :: (X.pn ++ pins))) (v := .ref a) S4 hN hi (.inl hln) rfl (fun s5 S5 => ?_) (.inr hln)
      have lenI : i < σ'.length := by
        have z := S4.len
        have z : σ'.length = X.N.length := z
        rw [z]
        exact (List.getElem?_eq_some_iff.mp hi).1
      have hset := ps_set (X := X.suite a ((a, oe4) :: (X.pn ++ pins))) (i := j) (x := y) (pos := ap) (pos' := py) hN hj (.inl hly) (pe_var (pos := pn0) hi (.inl hln) hdn hcn) (hsw _ rfl) (.inr hly)
      refine wpAny_mono ((pss_one hset).run [] s5 _ H' { nx := fun σ6 H6 => σ6 = (σ'.set i (some (.ref a))).set j (some (.ref a)) ∧ H6 = H', rt := fun _ _ => False } S5
        ⟨.ref a, List.getElem?_set_self lenI, rfl, rfl⟩) (fun f s6 hsp => ?_) (fun _ _ z => False.elim z)
      cases f with
      | next =>
        obtain ⟨σ6, H6, S6, rfl, rfl⟩ := hsp
        obtain ⟨he6, _⟩ := S6.pin (a, oe4) (List.mem_append_left _ List.mem_cons_self)
        have T6 := trackX (S6.unsuite ok) na he6 hz4 hd4 n0 nL np'
        exact gone_ok T6 hN hi hkn fun s7 J7 => ⟨_, _, J7, hq a na⟩
      | brk => obtain ⟨_, _, _, z⟩ := hsp; exact z.elim
      | cont => obtain ⟨_, _, _, z⟩ := hsp; exact z.elim
      | ret u => obtain ⟨_, _, _, _, _, z⟩ := hsp; exact z.elim
    | false =>
      show wpAny _ X.A (handleBy (.ref a) X.env []) _ _ _
      refine wpAny_handleBy_nil ?_
      obtain ⟨k1, k2, k3, oe, vs, T, oT, ts', he, hz, hd, h1, hr⟩ := id fl3
      unfold PySem.passOn
      refine wpAny_bind (wpAny_field he hd h1 ?_)
      rw [if_neg (show ¬ ((Value.ref T == Value.none) = true) from by simp)]
      have fin : wpAny (model X.prog X.w) X.A (setFlight (.ref a) X.env.frame) (fun _ s4 => wpAny (model X.prog X.w) X.A (throw (.ref a) : Sem Flow) (SP X pins D) X.xe s4) X.xe { s' with heap := h3 } := by
        rw [hf]
        refine HandSPX.setFlight_upZ fl3 fun h4 hh4 up4 => wpAny_throw (tk _ _ ?_)
        exact ⟨a, B, sI, pins, σ', H', cls, d, rfl, J, nb, (up.trans up3).trans up4, .inr (.inr (by rw [hs]; exact hh4)), na, os, ag, hno rfl⟩
      first
        | exact wpAny_bind (wpAny_pure (wpAny_bind fin))
        | exact wpAny_bind fin
  · cases f with
    | next =>
      obtain ⟨σ', H', J', q⟩ := hsp
      exact wpAny_execs_nil ⟨σ', H', J'.ofTry ok, q⟩
    | brk =>
      obtain ⟨σ', H', J', q⟩ := hsp
      exact ⟨σ', H', J'.ofTry ok, q⟩
    | cont =>
      obtain ⟨σ', H', J', q⟩ := hsp
      exact ⟨σ', H', J'.ofTry ok, q⟩
    | ret u =>
      obtain ⟨v, σ', H', J', r, q⟩ := hsp
      exact ⟨v, σ', H', J'.ofTry ok, r, q⟩
end
end DI

set_option Elab.async false
set_option linter.all false
set_option maxRecDepth 100000
set_option maxHeartbeats 4000000
/-! DI17: a def keeps its promise, by its body. -/
namespace DI
open PySem PySem.Spec PyProof.Rows L2
def startE (n : Nat) (ds : List D) : En := ds.map Sl.val ++ List.replicate (n - ds.length) .none
def endR : RS → Res D
  | .nx _ M => .ok .non M
  | .rt d M => .ok d M
  | .err c ns vs _ M => .err c ns vs M
  | _ => .stuck
/-- a def: n its slots -/
def runF (n : Nat) (b : EvS) : FnD := fun ds M => endR (b (startE n ds) M)
/-- what the memory held at the entry stays, a new list that is given back stands from now on -/
def finD (n : Nat) (d : D) (M : Mem) : Res D := if below n d = true then .ok d (M.take n) else match d with
  | .ref i => match M[i]? with
    | some (.lst ds) => if n ≤ i ∧ belows n ds = true then .ok (.lst ds) (M.take n) else .stuck
    | _ => .stuck
  | _ => .stuck
def finR (n : Nat) : Res D → Res D
  | .ok d M => finD n d M
  | .err c ns vs M => if belows n vs = true then .err c ns vs (M.take n) else .stuck
  | .stuck => .stuck
def runT (n : Nat) (b : EvS) : FnD := fun ds M => finR M.length (runF n b ds M)
/-- no closure goes out -/
def closeR : Res D → Res D
  | .ok d M => if below M.length d = true then .ok d M else .stuck
  | .err c ns vs M => if belows M.length vs = true then .err c ns vs M else .stuck
  | .stuck => .stuck
def runC (n : Nat) (b : EvS) : FnD := fun ds M => closeR (runF n b ds M)
def runCT (n : Nat) (b : EvS) : FnD := fun ds M => finR M.length (closeR (runF n b ds M))
section
variable {G : Gb} {w w' : Wd} {H H' : Hp} {M : Mem}
theorem simE_start {N : List Str} {ds : List D} {vs : List V} {own : Option (List (Str × Addr))} (r : Reps G w ds vs) (ho : w.own = own) (hl : vs.length ≤ N.length) : SimE G w own (L2.start N vs) (startE N.length ds) := by
  have hd := r.length
  refine ⟨ho, ?_, fun i s e => ?_⟩
  · unfold startE L2.start
    simp only [List.length_append, List.length_map, List.length_replicate]
    omega
  · unfold startE at e
    by_cases hi : i < ds.length
    · rw [List.getElem?_append_left (by simpa using hi), List.getElem?_map] at e
      obtain ⟨d, h1, rfl⟩ := Option.map_eq_some_iff.mp e
      obtain ⟨v, h2, h3⟩ := r.get h1
      refine ⟨v, ?_, h3⟩
      unfold L2.start
      rw [List.getElem?_append_left (by simp; omega), List.getElem?_map, h2]
      rfl
    · rw [List.getElem?_append_right (by simpa using Nat.le_of_not_lt hi), List.getElem?_replicate] at e
      split at e
      · cases e; trivial
      · cases e
/-- the memory as it was long -/
theorem Sim0.take {n : Nat} (S : Sim0 G w H M) (hn : n ≤ w.n) : Sim0 G { w with n := n } H (M.take n) where
  z := S.z
  p := S.p
  zp := S.zp
  pl := S.pl
  len := by rw [List.length_take, S.len]; exact Nat.min_eq_left hn
  inj := fun i j hi hj => S.inj i j (Nat.lt_of_lt_of_le hi hn) (Nat.lt_of_lt_of_le hj hn)
  zr := fun i hi => S.zr i (Nat.lt_of_lt_of_le hi hn)
  m := fun i x hx => by
    have hi : i < n := by
      have := (List.getElem?_eq_some_iff.mp hx).1
      rw [List.length_take] at this
      omega
    rw [List.getElem?_take_of_lt hi] at hx
    exact S.m i x hx
  tabs := S.tabs
  tz := fun q hq => let ⟨h1, h2, h3⟩ := S.tz q hq; ⟨h1, h2, fun i hi => h3 i (Nat.lt_of_lt_of_le hi hn)⟩
theorem le_take {n : Nat} (l : Le w w') (hn : w.n = n) : Le w { w' with n := n } := ⟨l.z, l.p, Nat.le_of_eq hn, l.r, l.o⟩
theorem leR_sub (w : Wd) (n : Nat) : LeR (w.cut n) { w with n := n } := ⟨fun _ _ h => h, Nat.le_refl _, fun _ _ => rfl, fun _ e => by cases e⟩
theorem leR_own (w : Wd) (o : Option (List (Str × Addr))) (h : w.own = none) : LeR w { w with own := o } := ⟨fun _ _ h => h, Nat.le_refl _, fun _ _ => rfl, fun _ e => by rw [h] at e; cases e⟩
theorem rep_take {n : Nat} {d : D} {v : V} (r : Rep G w d v) (h : below n d = true) : Rep G { w with n := n } d v := (below_rep r h).mono (leR_sub w n)
theorem reps_take {n : Nat} {d : List D} {v : List V} (r : Reps G w d v) (h : belows n d = true) : Reps G { w with n := n } d v := (belows_rep r h).mono (leR_sub w n)
theorem excV_take {n : Nat} {c : Str} {ns : List Str} {vs : List D} {C : Addr} {d : Option Addr} (x : ExcV G w c ns vs C d) (h : belows n vs = true) : ExcV G { w with n := n } c ns vs C d :=
  ⟨x.1, x.2.1, x.2.2.imp id fun ⟨dx, fvs, e1, e2, e3⟩ => ⟨dx, fvs, e1, e2, reps_take e3 h⟩⟩
theorem okC_fin {n : Nat} {r : Res D} {Q : VK} {E : XK} (hn : w.n = n) (h : OkC G w (finR n r) Q E) : OkC G w r Q E := by
  cases r with
  | stuck => exact h
  | ok d M =>
    intro w' H' v l S r
    have h : OkC G w (finD n d M) Q E := h
    unfold finD at h
    split at h
    · rename_i hb
      exact h _ H' v (le_take l hn) (S.take (hn ▸ l.n)) (rep_take r hb)
    · split at h
      · rename_i i hnb _
        split at h
        · rename_i ds e1
          split at h
          · rename_i hc
            cases r with
            | ref hi =>
              obtain ⟨hP, xs, h1, h2⟩ := S.m i _ e1
              have S2 := S.take (n := n) (hn ▸ l.n)
              have u : Unt G { w' with n := n } (w'.r i) := ⟨S.zr i hi, hP, fun j hj z => by
                have hj : j < n := hj
                have := S.inj j i (by omega) hi z
                omega, fun q hq z => (S.tz q hq).2.2 i hi z.symm⟩
              have S3 := S2.frz u h1
              refine h _ H' _ ((le_take l hn).trans (Le.addZu u)) S3 (.lst upd_same ?_)
              have h3 : Reps G { w' with n := n } ds xs := reps_take (h2.mono (.ofCut w' (Nat.le_of_lt hi))) hc.2
              exact h3.mono (Le.addZu u).toR
          · exact h.elim
        · exact h.elim
      · exact h.elim
  | err c ns vs M =>
    intro w' H' C d l S x
    have h : OkC G w (if belows n vs = true then .err c ns vs (M.take n) else .stuck) Q E := h
    split at h
    · rename_i hb
      exact h _ H' C d (le_take l hn) (S.take (hn ▸ l.n)) (excV_take x hb)
    · exact h.elim
theorem okC_close {o : List (Str × Addr)} {r : Res D} {Q : VK} {E : XK} (ho : w.own = none) (h : OkC G w (closeR r) Q E) : OkC G { w with own := some o } r Q E := by
  have dn : ∀ {w' : Wd}, Le { w with own := some o } w' → Le w w'.shut := fun {w'} l => ⟨l.z, l.p, l.n, l.r, ho.symm⟩
  cases r with
  | stuck => exact h
  | ok d M =>
    intro w' H' v l S r
    have h : OkC G w (if below M.length d = true then .ok d M else .stuck) Q E := h
    split at h
    · rename_i hb
      exact h _ H' v (dn l) S.shut ((below_rep r (S.len ▸ hb)).mono ⟨fun _ _ h => h, Nat.le_refl _, fun _ _ => rfl, fun _ e => by cases e⟩)
    · exact h.elim
  | err c ns vs M =>
    intro w' H' C d l S x
    have h : OkC G w (if belows M.length vs = true then .err c ns vs M else .stuck) Q E := h
    split at h
    · rename_i hb
      refine h _ H' C d (dn l) S.shut ⟨x.1, x.2.1, x.2.2.imp id fun ⟨dx, fvs, e1, e2, e3⟩ => ⟨dx, fvs, e1, e2, ?_⟩⟩
      exact (belows_rep e3 (S.len ▸ hb)).mono ⟨fun _ _ h => h, Nat.le_refl _, fun _ _ => rfl, fun _ e => by cases e⟩
    · exact h.elim
theorem okS_end {W : WX} {own : Option (List (Str × Addr))} {r : RS} {Q : VK} {E : XK} (h : OkC G w (endR r) Q E) : OkS G (fun cls d _ H' => E cls d H') own w r { nx := fun _ H' => Q .non H', rt := Q } := by
  cases r with
  | nx env M => exact fun w' H' σ' l S _ => h w' H' .non l S .non
  | rt d M => exact h
  | bk env M => exact h.elim
  | ct env M => exact h.elim
  | err c ns vs env M => exact fun w' H' C d σ' l S _ x => h w' H' C d l S x
  | stuck => exact h
end
section
variable {G : Gb} {P : Program} {wo : World} {K : PySem.W.Frag} {mg : Str → Option Value} {base : Heap} {x qual : Str} {params : Arguments} {body : List Stmt} {scope : Scope} {f : Addr} {fd : FuncData} {N ps : List Str} {k : Nat} {b : EvS}
/-- a def without closures of its own -/
theorem fnOk_F (F : FunD K x qual params body scope [] [] f fd) (S : FnScope N ps scope)
    (hb : ∀ (cdv : Value) (A : Around) (outer : List Env) (s : Shared) (H : Hp) (E : XK), Room k (A.deeper (envOfC qual scope s.heap.objs.size f cdv)) → PSs (cxOf (L2.CX P wo) P wo K mg base N qual scope f cdv A outer s H E) body (tS G (fun cls d _ H' => E cls d H') none b)) :
    FnOk P wo K mg base (L2.CX P wo) (k + 1) f fd ps (spOf G ps.length (runF N.length b)) :=
  F.ok S (fun vs H Q E h => h.1) fun cdv A outer s H vs Q E hr h => ⟨_, hb cdv A outer s H E hr, by
    obtain ⟨hl, w, ds, M, ho, S0, r, h⟩ := h
    have hN : ps.length ≤ N.length := by
      have := congrArg List.length S.pre
      rw [List.length_take] at this
      omega
    exact ⟨w, _, M, S0, simE_start r ho (hl ▸ hN), okS_end (W := fun cls d _ H' => E cls d H') h⟩⟩
theorem fnOk_T (F : FunD K x qual params body scope [] [] f fd) (S : FnScope N ps scope)
    (hb : ∀ (cdv : Value) (A : Around) (outer : List Env) (s : Shared) (H : Hp) (E : XK), Room k (A.deeper (envOfC qual scope s.heap.objs.size f cdv)) → PSs (cxOf (L2.CX P wo) P wo K mg base N qual scope f cdv A outer s H E) body (tS G (fun cls d _ H' => E cls d H') none b)) :
    FnOk P wo K mg base (L2.CX P wo) (k + 1) f fd ps (spOf G ps.length (runT N.length b)) :=
  (fnOk_F F S hb).imp fun vs H Q E ⟨hl, w, ds, M, ho, S0, r, h⟩ => ⟨hl, w, ds, M, ho, S0, r, okC_fin S0.len.symm h⟩
/-- .. with closures -/
theorem fnOk_C (F : FunD K x qual params body scope [] [] f fd) (S : FnScope N ps scope)
    (hb : ∀ (cdv : Value) (A : Around) (outer : List Env) (s : Shared) (H : Hp) (E : XK), Room k (A.deeper (envOfC qual scope s.heap.objs.size f cdv)) → PSs (cxOf (L2.CX P wo) P wo K mg base N qual scope f cdv A outer s H E) body (tS G (fun cls d _ H' => E cls d H') (some (envOfC qual scope s.heap.objs.size f cdv).cells) b)) :
    FnOk P wo K mg base (L2.CX P wo) (k + 1) f fd ps (spOf G ps.length (runC N.length b)) :=
  F.ok S (fun vs H Q E h => h.1) fun cdv A outer s H vs Q E hr h => ⟨_, hb cdv A outer s H E hr, by
    obtain ⟨hl, w, ds, M, ho, S0, r, h⟩ := h
    have hN : ps.length ≤ N.length := by
      have := congrArg List.length S.pre
      rw [List.length_take] at this
      omega
    have r' : Reps G { w with own := some (envOfC qual scope s.heap.objs.size f cdv).cells } ds vs := r.mono (leR_own w _ ho)
    exact ⟨_, _, M, S0.reown, simE_start r' rfl (hl ▸ hN), okS_end (W := fun cls d _ H' => E cls d H') (okC_close ho h)⟩⟩
theorem fnOk_CT (F : FunD K x qual params body scope [] [] f fd) (S : FnScope N ps scope)
    (hb : ∀ (cdv : Value) (A : Around) (outer : List Env) (s : Shared) (H : Hp) (E : XK), Room k (A.deeper (envOfC qual scope s.heap.objs.size f cdv)) → PSs (cxOf (L2.CX P wo) P wo K mg base N qual scope f cdv A outer s H E) body (tS G (fun cls d _ H' => E cls d H') (some (envOfC qual scope s.heap.objs.size f cdv).cells) b)) :
    FnOk P wo K mg base (L2.CX P wo) (k + 1) f fd ps (spOf G ps.length (runCT N.length b)) :=
  (fnOk_C F S hb).imp fun vs H Q E ⟨hl, w, ds, M, ho, S0, r, h⟩ => ⟨hl, w, ds, M, ho, S0, r, okC_fin S0.len.symm h⟩
end
end DI

set_option Elab.async false
set_option linter.all false
set_option maxRecDepth 100000
set_option maxHeartbeats 4000000
/-! DI18: lambdas without parameters: made, and called by the law's catching def. -/
namespace DI
open PySem PySem.Spec PyProof.Rows L2
section
variable {X : Cx} {pins : List (Addr × Obj)} {σ : L2.St} {H : Hp} {s : Shared}
/-- an object newer than the frame is told of from now on -/
theorem trackG {a : Addr} {φ : Heap → Prop} {oe : Obj} (I : Inv X pins σ H s) (na : H a = none) (hφ : φ s.heap) (st : ∀ h1 h2 : Heap, φ h1 → (∀ o, h1.get? a = some o → h2.get? a = some o) → φ h2) (he : s.heap.get? a = some oe) (hd : ∀ v, oe.data ≠ .cell v) (n0 : X.s_0.heap.get? a = none) (nL : a ≠ X.env.locals)
    (np : ∀ p ∈ X.pn ++ pins, p.1 ≠ a) : Inv X pins σ (upd H a (.ext φ)) s := by
  have ne0 : ∀ b o, X.s_0.heap.get? b = some o → b ≠ a := fun b o e z => by rw [z, n0] at e; cases e
  have neS : ∀ b o, H b = some o → b ≠ a := fun b o e z => by rw [z, na] at e; cases e
  have nC : ∀ x c, X.env.cells.lookup x = some c → c ≠ a := fun x c e z => by
    obtain ⟨v, o, ho, hc⟩ := I.cell x c e
    rw [z, he] at ho
    cases ho
    exact hd _ hc
  refine ⟨I.ok, I.os, I.bare, ⟨I.base.keep, I.base.slot, fun b o e n hx => ?_, I.base.there, fun b xs e => ?_, fun b o u e => ?_, fun b ps e => ?_⟩, I.loc, I.cell, ?_, fun x c e => ?_, fun p hp => ?_, fun b u e => ?_, I.len⟩
  · rw [upd_ne (ne0 b o e)]; exact I.base.free b o e n hx
  · have q := I.base.tups b xs e
    rw [upd_ne (neS b _ q)]; exact q
  · have q := I.base.frzs b o u e
    rw [upd_ne (neS b _ q)]; exact q
  · obtain ⟨m, q⟩ := I.base.tbls b ps e
    exact ⟨m, by rw [upd_ne (neS b _ q)]; exact q⟩
  · rw [upd_ne (Ne.symm nL)]; exact I.free
  · rw [upd_ne (nC x c e)]; exact I.freeC x c e
  · obtain ⟨e, n, r⟩ := I.pin p hp
    exact ⟨e, by rw [upd_ne (np p hp)]; exact n, r⟩
  · by_cases hb : b = a
    · rw [hb, upd_same] at e
      cases e
      rw [hb]
      exact ⟨hφ, ⟨oe, he⟩, st⟩
    · rw [upd_ne hb] at e
      exact (I.hok b u e).stay (fun c v _ q => q) (fun c q => by rw [upd_ne (neS c _ q)]; exact q) fun c xs q => by rw [upd_ne (neS c _ q)]; exact q
/-- the lambda is made; only its maker's table changes -/
theorem lam_mk {T : List (Addr × Str)} {c P : Addr} {params : Arguments} {body : Expr} {scope : Scope} {pos : Pos} {E : Value → Shared → Prop} {Q : Value → Shared → Prop} (I : Inv X pins σ H s) (TB : LamX.TabB X.base X.mg c P) (hcode : X.env.code = .ref c)
    (hm : (P, X.env.qual ++ "<lambda>") ∈ T) (hu : ∀ p ∈ T, p.1 = P → p.2 = X.env.qual ++ "<lambda>") (hT : LamX.Tabs T H) (hdef : defaultsOf params X.env = ([], [])) (hfree : ∀ y ∈ scope.names, y.2 = .free → ∃ c, X.env.cells.lookup y.1 = some c)
    (h : ∀ (f c' : Addr) (pm ctv : Value) (H1 : Hp) (s' : Shared), Inv X pins σ H1 s' → (∀ b o, b ≠ P → H b = some o → H1 b = some o) → LamX.Tabs T H1 → s.heap.objs.size ≤ f →
      s'.heap.get? f = some (PySem.W.kla_obj "<lambda>" (X.env.qual ++ "<lambda>") params body scope (cloFrom X.env.cells scope.names []) pm c' ctv) → H1 f = none → H1 c' = some (LamX.CodeO c' (X.env.qual ++ "<lambda>")) → Q (.ref f) s') :
    wpAny (model X.prog X.w) X.A (eval (.Lambda params body scope pos) X.env) Q E s := by
  obtain ⟨ps, hP, ht, ha⟩ := hT _ hm
  refine PySem.W.kla_eval hdef ?_
  have bP : s.heap.BuiltinsAt X.mg P := TB.bm.keeps I.bk
  have hP' : s.heap.get? P = some { cls := .none, data := .fields ps } := I.hok P _ hP
  cases hc : codeAmong pos ps.toList with
  | none =>
    refine PySem.W.kla_makeFunction (mg := X.mg) (c := c) (P := P) (ps := ps) (closure_ok hfree) I.ok.glob (I.mod.glob.keeps I.bk) hcode (TB.code.keeps I.bk) hP' ht hc TB.gP bP fun c' ctv h' tk hx hge hlt hrec htb => ?_
    obtain ⟨c2, oc, vs, t, e2, hoc, hd, hv⟩ := hrec
    cases e2
    have hsz : s.heap.objs.size ≤ h'.objs.size := Nat.le_trans hge (Nat.le_of_lt hlt)
    have nC : H c' = none := I.hok.fresh hge
    have I1 := LamX.inv_table (t' := tk) (more := #[rawInt pos.line, rawInt pos.col, .ref c']) (h' := h'.push (PySem.W.kla_obj "<lambda>" (X.env.qual ++ "<lambda>") params body scope (cloFrom X.env.cells scope.names []) ((X.mg "__name__").getD .none) c' ctv)) I hP
      (fun b o hb e => Heap.get?_push_of_some _ (hx b o hb e)) (Heap.get?_push_of_some _ htb) hge ⟨oc, vs, t, Heap.get?_push_of_some _ hoc, hd, hv⟩
    have hE : ∀ b o, b ≠ P → H b = some o → upd (upd H P (.tbl (ps ++ #[rawInt pos.line, rawInt pos.col, .ref c']))) c' (LamX.CodeO c' (X.env.qual ++ "<lambda>")) b = some o := fun b o n e => by
      rw [upd_ne (ne_of_none e nC), upd_ne n]
      exact e
    have hco : ∀ {b : Addr} {q : Str}, H b = some (LamX.CodeO b q) → b ≠ P := fun {b q} e z => by
      rw [z, hP] at e
      exact LamX.codeO_ne ps (Option.some.inj e).symm
    have eL : (ps ++ #[rawInt pos.line, rawInt pos.col, .ref c']).toList = ps.toList ++ [rawInt pos.line, rawInt pos.col, .ref c'] := by simp
    refine h h'.objs.size c' ((X.mg "__name__").getD .none) ctv _ _ I1 hE (fun p hp => ?_) hsz (Heap.get?_push_size _ rfl) ?_ upd_same
    · by_cases hb : p.1 = P
      · rw [hu p hp hb, hb]
        refine ⟨_, by rw [upd_ne (ne_of_none hP nC), upd_same], by rw [eL]; exact PySem.TriplesOk_snoc _ _ _ _ ht, fun p' cv hcv => ?_⟩
        rw [eL] at hcv
        rcases LamX.among_app _ ht hcv with z | z
        · obtain ⟨c0, e1, e2⟩ := ha p' cv z
          exact ⟨c0, e1, hE _ _ (hco e2) e2⟩
        · exact ⟨c', z, upd_same⟩
      · obtain ⟨ps', a1, a2, a3⟩ := hT p hp
        refine ⟨ps', by rw [upd_ne (ne_of_none a1 nC), upd_ne hb]; exact a1, a2, fun p' cv hcv => ?_⟩
        obtain ⟨c0, e1, e2⟩ := a3 p' cv hcv
        exact ⟨c0, e1, hE _ _ (hco e2) e2⟩
    · rw [upd_ne (Nat.ne_of_gt hlt), upd_ne (Nat.ne_of_gt (Nat.lt_of_lt_of_le (Heap.lt_size hP') hsz))]
      exact I.hok.fresh hsz
  | some cv =>
    obtain ⟨c', e, hco⟩ := ha pos cv hc
    subst e
    refine PySem.W.kla_makeFunctionHit (mg := X.mg) (c := c) (P := P) (ps := ps) (closure_ok hfree) I.ok.glob (I.mod.glob.keeps I.bk) hcode (TB.code.keeps I.bk) hP' ht hc bP fun ctv h' tk hx hsz => ?_
    have I1 : Inv X pins σ H { s with heap := h'.push (PySem.W.kla_obj "<lambda>" (X.env.qual ++ "<lambda>") params body scope (cloFrom X.env.cells scope.names []) ((X.mg "__name__").getD .none) c' ctv), toks := tk } := I.kept fun b o e => Heap.get?_push_of_some _ (hx b o e)
    exact h h'.objs.size c' ((X.mg "__name__").getD .none) ctv H _ I1 (fun _ _ _ e => e) hT hsz (Heap.get?_push_size _ rfl) (I.hok.fresh hsz) hco
end
section
variable {G : Gb} {w : Wd} {H H1 : Hp} {M : Mem}
theorem Sim0.tabd {P : Addr} {q : Str} (S : Sim0 G w H M) (hP : (P, q) ∈ G.T) (hx : ∀ b o, b ≠ P → H b = some o → H1 b = some o) (hT : LamX.Tabs G.T H1) : Sim0 G w H1 M := by
  obtain ⟨z1, z2, z3⟩ := S.tz _ hP
  have nz : ∀ {a u}, w.Z a = some u → a ≠ P := fun {a u} e z => by rw [z, z1] at e; cases e
  refine ⟨fun a u e => (S.z a u e).imp (hx _ _ (nz e)) fun ⟨o, r⟩ => ⟨o, hx _ _ (nz e) r⟩, fun a u e => hx _ _ (fun z => by rw [z, z2] at e; cases e) (S.p a u e), S.zp, S.pl, S.len, S.inj, S.zr, fun i o hi => ?_, hT, S.tz⟩
  have hn : i < w.n := S.len ▸ (List.getElem?_eq_some_iff.mp hi).1
  have r := S.m i o hi
  cases o with
  | lst ds => obtain ⟨h0, vs, h1, h2⟩ := r; exact ⟨h0, vs, hx _ _ (z3 i hn) h1, h2⟩
  | dct ds => obtain ⟨h0, vs, h1, h2⟩ := r; exact ⟨h0, vs, hx _ _ (z3 i hn) h1, h2⟩
/-- a code object that stands may be told of for ever -/
theorem Sim0.code {c : Addr} {q : Str} (S : Sim0 G w H M) (hc : H c = some (LamX.CodeO c q)) : ∃ w', Le w w' ∧ Sim0 G w' H M ∧ w'.Z c = some (LamX.CodeO c q) := by
  cases e : w.Z c with
  | some u =>
    refine ⟨w, Le.refl w, S, ?_⟩
    rcases S.z c u e with r | ⟨o, r⟩
    · rw [hc] at r
      rw [e, ← r]
    · rw [hc] at r; cases r
  | none =>
    have hP : w.P c = none := by
      cases e2 : w.P c with
      | none => rfl
      | some u =>
        have h1 := S.p c u e2
        rw [hc] at h1
        rcases S.pl c u e2 with ⟨xs, rfl⟩ | ⟨xs, rfl⟩
        · cases h1
        · cases h1
    have hr : ∀ i, i < w.n → w.r i ≠ c := fun i hi z => by
      obtain ⟨o, ho⟩ := S.mem hi
      have r := S.m i o ho
      rw [z] at r
      cases o with
      | lst ds => obtain ⟨_, vs, h1, _⟩ := r; rw [hc] at h1; cases h1
      | dct ds => obtain ⟨_, vs, h1, _⟩ := r; rw [hc] at h1; cases h1
    have u : Unt G w c := ⟨e, hP, hr, fun p hp z => by
      obtain ⟨ps, h1, _⟩ := S.tabs p hp
      rw [z, hc] at h1
      cases h1⟩
    exact ⟨_, Le.addZu u, S.frz u hc, upd_same⟩
end
section
variable {G : Gb} {W : WX} {X : Cx} {pos p : Pos}
def cLam (k : Nat) : EvE := fun _ M => .ok (.cl k) M
theorem pd_lam {k : Nat} {c P : Addr} {params : Arguments} {body : Expr} {scope : Scope} (hl : G.lam k = some ⟨X.env.qual, params, body, scope⟩) (TB : LamX.TabB X.base X.mg c P) (hcode : X.env.code = .ref c)
    (hm : (P, X.env.qual ++ "<lambda>") ∈ G.T) (hu : ∀ p ∈ G.T, p.1 = P → p.2 = X.env.qual ++ "<lambda>") (hdef : defaultsOf params X.env = ([], [])) (L : LamX.LamS X.env.scope scope) :
    PE X (.Lambda params body scope pos) (tE G W (some X.env.cells) (cLam k)) := by
  refine ⟨fun pins s σ H Q I h => ?_⟩
  obtain ⟨w, env, M, S, E, h⟩ := h
  refine lam_mk I TB hcode hm hu S.tabs hdef (L.has I.ok) fun f c' pm ctv H1 s' I1 hx hT hge hf hn hc => ?_
  have S1 := S.tabd hm hx hT
  obtain ⟨w1, l1, S2, zc⟩ := S1.code hc
  have n0 : X.s_0.heap.get? f = none := by
    cases e : X.s_0.heap.get? f with
    | none => rfl
    | some o => exact absurd (Nat.lt_of_lt_of_le (Heap.lt_size e) (Nat.le_trans I.sz hge)) (Nat.lt_irrefl _)
  have I2 := trackG (φ := fun h => h.get? f = some (PySem.W.kla_obj "<lambda>" (X.env.qual ++ "<lambda>") params body scope (cloFrom X.env.cells scope.names []) pm c' ctv)) I1 hn hf (fun h1 h2 e k => k _ e) hf (fun v z => nomatch z) n0 (Nat.ne_of_gt (Nat.lt_of_lt_of_le I.lt hge)) fun p hp => by
    have q := (I.pin p hp).1
    exact Nat.ne_of_lt (Nat.lt_of_lt_of_le (Heap.lt_size q) hge)
  have S3 := S2.addZ (o := ObjO f (PySem.W.kla_obj "<lambda>" (X.env.qual ++ "<lambda>") params body scope (cloFrom X.env.cells scope.names []) pm c' ctv)) hn
  refine ⟨.ref f, _, I2, rfl, h _ _ _ (l1.trans (Le.addZ (S2.zfree hn))) S3 ?_⟩
  refine .cl hl (l1.o.trans E.ow) ⟨c', pm, ctv, upd_same, ?_⟩
  show upd w1.Z f _ c' = _
  rw [upd_ne (fun z => by rw [z, hn] at hc; cases hc)]
  exact zc
end
section
variable {X : Cx} {pins : List (Addr × Obj)} {σ : L2.St} {H HZ : Hp} {s s1 : Shared}
/-- x(), in a def that got the lambda of X's frame: Z is that def's context, entered at s; the lambda is told of -/
theorem pe_act2 {CXg : CXT} {Eg : XK} {Ng : List Str} {qg : Str} {sg : Scope} {g f c' : Addr} {cdg pm ctv : Value} {params : Arguments} {body : Expr} {scope : Scope} {k i : Nat} {a : Str} {pn : List (Addr × Obj)} {xe : Value → Shared → Prop} {W : WX} {tb : XK → TE} {p1 p2 : Pos}
    (I : Inv X pins σ H s) (L : LamX.LamS X.env.scope scope)
    (hbind : bindArgs (PySem.W.kla_fn "<lambda>" (X.env.qual ++ "<lambda>") params body scope (cloFrom X.env.cells scope.names []) pm (.ref c') ctv) ⟨[], []⟩ = pure [])
    (tk : Takes ((cxOf CXg X.prog X.w X.K X.mg X.base Ng qg sg g cdg X.A X.stack s H Eg).tr pn xe) W) (hr : Room (k + 1) (X.A.deeper (envOfC qg sg s.heap.objs.size g cdg)))
    (hbody : ∀ (A : Around) (outer : List Env) (s : Shared) (H : Hp) (E : XK), Room k (A.deeper (LamX.lamEnv X scope s.heap.objs.size f c')) → PE (LamX.lamCx X A outer s H E scope f c') body (tb E))
    (hN : Ng[i]? = some a) (hv : Vis sg a) (hd : (a == ("__debug__" : Str)) = false := by decide) (hcd : (a == ("__classdict__" : Str)) = false := by decide) :
    PE ((cxOf CXg X.prog X.w X.K X.mg X.base Ng qg sg g cdg X.A X.stack s H Eg).tr pn xe) (.Call (.Name a p1) [] [] p2)
      (fun σZ HZ Q => σZ[i]? = some (some (.ref f)) ∧ Rd HZ f (ObjO f (PySem.W.kla_obj "<lambda>" (X.env.qual ++ "<lambda>") params body scope (cloFrom X.env.cells scope.names []) pm c' ctv)) ∧ Rd HZ c' (LamX.CodeO c' (X.env.qual ++ "<lambda>")) ∧ tb (WE W σZ) σ HZ Q) := by
  refine ⟨fun pinsZ sZ σZ HZ Q IZ h => ?_⟩
  obtain ⟨hs, hf, hc, ht⟩ := h
  refine wpAny_Call_Name_kw (thn ((pe_var (pos := p1) (i := i) hN hv hd hcd).run pinsZ sZ σZ HZ (fun v H1 => v = .ref f ∧ H1 = HZ) IZ ⟨.ref f, hs, rfl, rfl⟩) fun u s1 ⟨v, H1, I1, r1, q1⟩ => ?_)
  obtain ⟨ev, eH⟩ := q1
  subst ev
  rw [eH] at I1
  obtain rfl : u = Value.ref f := r1
  have of1 : s1.heap.get? f = some (PySem.W.kla_obj "<lambda>" (X.env.qual ++ "<lambda>") params body scope (cloFrom X.env.cells scope.names []) pm c' ctv) := (hf.ok I1.hok).1
  refine PySem.W.callWith_F0 ⟨_, _, _, _, of1⟩ ?_
  have un : Un (frs X.stack) [] H HZ s.heap s1.heap := I1.base
  obtain ⟨⟨oc, vs, t, hoc, hdc, hvc⟩, _, _⟩ := hc.ok I1.hok
  have rc : codeAny (model X.prog X.w) (X.A.deeper (envOfC qg sg s.heap.objs.size g cdg)) (.call (.ref f) ⟨[], []⟩) (CR (L2.CX X.prog X.w) (envOfC qg sg s.heap.objs.size g cdg :: X.stack) X.prog X.w HZ s1 Q (WE W σZ)) s1 := by
    refine PySem.W.kla_callFunE hr.depth of1 rfl L.co L.gen rfl ⟨c', oc, vs, t, rfl, hoc, hdc, hvc⟩ ?_
    rw [hbind]
    refine wpAny_pure (wpAny_newFunctionEnv (fun y hy => (L.own y hy).2) (fun y hy => absurd hy (by simp)) (fun h₁ hns hsb => ⟨I1.nolimit.fresh _ hsb, ?_⟩) L.kind)
    show codeAny _ _ (.expr body (LamX.lamEnv X scope s1.heap.objs.size f c')) _ _
    have kp : ∀ b o, s1.heap.get? b = some o → h₁.get? b = some o := fun b o e => hsb.extBut b o (Nat.ne_of_lt (Heap.lt_size e)) (Heap.get?_push_of_some _ e)
    have J : Inv (LamX.lamCx X (X.A.deeper (envOfC qg sg s.heap.objs.size g cdg)) (envOfC qg sg s.heap.objs.size g cdg :: X.stack) s1 HZ (WE W σZ) scope f c') [] σ HZ { s1 with heap := h₁, toks := s1.toks + ([] : List (Str × Value)).length } :=
      LamX.lam_start2 I L I1.env0 hr.hd un hns kp
    refine PySem.W.kla_codeExpr (wpAny_mono ((hbody _ _ s1 HZ (WE W σZ) (hr.deeper _)).run [] _ _ HZ Q J ht) (fun v s' hq => ?_) fun e s' hq => hq)
    obtain ⟨w', H', J', rv, q⟩ := hq
    exact ⟨w', H', J'.os, J'.bare, J'.base, J'.hok, rv, q⟩
  refine wpAny_call (codeAny_mono rc fun r s' hq => ?_)
  cases r with
  | error e => exact passAt tk σZ pinsZ HZ s1 e s' I1 hq
  | ok fl =>
    cases fl with
    | ret u => exact I1.after hq
    | next => exact False.elim hq
    | brk => exact False.elim hq
    | cont => exact False.elim hq
end
end DI

set_option Elab.async false
set_option linter.all false
set_option maxRecDepth 100000
set_option maxHeartbeats 4000000
/-! DI19: the law's catching def, called with a lambda. -/
namespace DI
open PySem PySem.Spec PyProof.Rows L2
/-- what comes of a caught action: ks the lambdas that are known, bd their bodies, cat: which exceptions are caught -/
def caughtD (ks : Nat → Bool) (bd : Nat → EvE) (cat : Str → Bool) (env : En) (d : D) (M : Mem) : Res D := match d with
  | .cl k => if ks k = true then match bd k env M with
    | .ok _ M2 => .ok .non M2
    | .err c ns vs M2 => if cat c = true then .ok (.exc c ns vs) M2 else .stuck
    | .stuck => .stuck
    else .stuck
  | _ => .stuck
def cCaught (ks : Nat → Bool) (bd : Nat → EvE) (cat : Str → Bool) (a : EvE) : EvE := fun env M => (a env M).bind fun d M1 => caughtD ks bd cat env d M1
/-- the catching def's body -/
def caughtBody (j : Nat) (p1 p2 p3 p4 p5 p6 p7 p8 p9 p10 p11 p12 p13 p14 : Pos) : List Stmt :=
  [.Assign [.Name "found" p1] (.Constant .none j p2) p3, .Try [.Expr (.Call (.Name "action" p4) [] [] p5) p6] [.ExceptHandler (some (.Name "BoundError" p7)) (some "error") [.Assign [.Name "found" p8] (.Name "error" p9) p10] p11] [] [] p12, .Return (some (.Name "found" p13)) p14]
section
variable {G : Gb} {W : WX} {X : Cx} {pos p : Pos}
theorem exc_at {w' : Wd} {H' : Hp} {M : Mem} {c : Str} {ns : List Str} {vs : List D} {C a : Addr} {d : Option Addr} (S : Sim0 G w' H' M) (x : ExcV G w' c ns vs C d) (na : H' a = none) :
    Le w' (w'.addZ a (ExcO a C d)) ∧ Sim0 G (w'.addZ a (ExcO a C d)) (upd H' a (ExcO a C d)) M ∧ Rep G (w'.addZ a (ExcO a C d)) (.exc c ns vs) (.ref a) := by
  have l := Le.addZ (o := ExcO a C d) (S.zfree na)
  refine ⟨l, S.addZ na, ?_⟩
  obtain ⟨hm, hl, ⟨rfl, rfl⟩ | ⟨dx, fvs, rfl, e2, e3⟩⟩ := x
  · have : vs = [] := by cases vs with
      | nil => rfl
      | cons a b => simp at hl
    subst this
    exact .exc hm ⟨none, upd_same, .inl ⟨rfl, rfl⟩⟩ (fvs := []) .nil rfl
  · exact .exc hm ⟨some dx, upd_same, .inr ⟨dx, rfl, l.z _ _ e2⟩⟩ (e3.mono l.toR) hl
theorem pd_caught {g CB : Addr} {fdg : FuncData} {pg : Arguments} {sg : Scope} {k : Nat} {ks : Nat → Bool} {bd : Nat → EvE} {cat : Str → Bool} {e : Expr} {a : EvE} {j : Nat} {p1 p2 p3 p4 p5 p6 p7 p8 p9 p10 p11 p12 p13 p14 : Pos}
    (hG : X.mg = G.mg) (hg : Gl X "_law_caught") (hm : X.mg "_law_caught" = some (.ref g)) (Fg : FunD X.K "_law_caught" "_law_caught" pg (caughtBody j p1 p2 p3 p4 p5 p6 p7 p8 p9 p10 p11 p12 p13 p14) sg [] [] g fdg) (hb : L2.Binds X.K fdg ["action"] [])
    (Sg : FnScope ["action", "found", "error"] ["action"] sg) (s0 : sg.names.lookup ("action" : Str) = some .local) (s1' : sg.names.lookup ("found" : Str) = some .local) (s2' : sg.names.lookup ("error" : Str) = some .local) (s3 : sg.names.lookup ("BoundError" : Str) = some .globalImplicit) (hB : X.mg "BoundError" = some (.ref CB))
    (hcat : ∀ c, cat c = true → ∀ C, G.mg c = some (.ref C) → PySem.W.exmOne X.K (.ref C) (.ref CB) = some true) (hr : Room (k + 2) X.A)
    (hbd : ∀ kk L, ks kk = true → G.lam kk = some L → L.qual = X.env.qual ∧ LamX.LamS X.env.scope L.scope ∧ (∀ (q : Str) (cl : List (Str × Addr)) (pm cv ctv : Value), bindArgs (PySem.W.kla_fn "<lambda>" q L.params L.body L.scope cl pm cv ctv) ⟨[], []⟩ = pure []) ∧
      ∀ (A : Around) (outer : List Env) (s : Shared) (H : Hp) (E : XK) (f c' : Addr), Room k (A.deeper (LamX.lamEnv X L.scope s.heap.objs.size f c')) → PE (LamX.lamCx X A outer s H E L.scope f c') L.body (tE G (fun cls d _ H => E cls d H) (some X.env.cells) (bd kk)))
    (ha : PE X e (tE G W (some X.env.cells) a)) (hs : starEach [e] X.env = (false, eval e X.env) :: starEach [] X.env := by rfl) :
    PE X (.Call (.Name "_law_caught" p) [e] [] pos) (tE G W (some X.env.cells) (cCaught ks bd cat a)) := by
  refine ⟨fun pins s σ H Q I h => ?_⟩
  obtain ⟨w, env, M, S, E, h⟩ := h
  refine wpAny_Call_Name_kw (ld_glob I hg hm ?_ (by decide))
  refine PySem.W.callWith_K (h₀ := X.base) I.ok.mod.kin Fg.kp ?_ hs (by rfl)
  rw [hs]
  show wpAny _ _ (spliced ((false, eval e X.env) :: backTo pos (starEach [] X.env))) _ _ s
  refine Calls.spliced_cons (thn (ha.run pins s σ H (fun v H1 => ∃ w1 M1 d, Sim0 G w1 H1 M1 ∧ SimE G w1 (some X.env.cells) σ env ∧ Rep G w1 d v ∧ OkE G W σ w1 (caughtD ks bd cat env d M1) Q) I ?_) fun u s1 ⟨v, H1, I1, r1, w1, M1, d, S1, E1, rd, h1⟩ => ?_)
  · exact tG_bind (g := fun d M1 => caughtD ks bd cat env d M1) S E h fun d M1 w1 H1 v l1 S1 E1 r1 h1 => ⟨w1, M1, d, S1, E1, r1, h1⟩
  cases rd with
  | cl hl ho ca =>
    rename_i kk f L o
    have ho' : o = X.env.cells := by
      have := E1.ow
      rw [ho] at this
      exact Option.some.inj this
    subst ho'
    obtain ⟨c', pm, ctv, zf, zc⟩ := ca
    unfold caughtD at h1
    simp only at h1
    split at h1
    · rename_i hkk
      obtain ⟨hq, LS, hbind, hbody⟩ := hbd kk L hkk hl
      rw [hq] at zf zc
      obtain rfl : u = Value.ref f := r1
      refine Calls.spliced_nil ⟨I1.kIn, ?_⟩
      obtain ⟨oc, od, dV, kV, doc, pmg, an, cdv, ct, osl, rfl, lk, hcd, _, _⟩ := Fg.ex
      have hgl : L2.Gl (cxOf C8.CX0 X.prog X.w X.K X.mg X.base ["action", "found", "error"] "_law_caught" sg g cdv X.A X.stack s1 H1 C8.E0).nox "BoundError" := s3
      have rc : codeAny (model X.prog X.w) X.A (.call (.ref g) ⟨[.ref f], []⟩) (CR C8.CX0 X.stack X.prog X.w H1 s1 Q C8.E0) s1 := by
        refine LamX.run_ofS (N := ["action", "found", "error"]) (ps := ["action"]) (us := [.ref f]) (vs := [.ref f]) lk hcd Sg hr I1.env0 (hb s1 [.ref f] I1.kIn rfl) (.cons rfl .nil) rfl fun hr' => ?_
        refine ⟨_, PSs.nox (pss_cons (ps_set (i := 1) Sg.nd rfl (.inl s1') pe_non rfl (.inr s1')) (pss_cons (ps_try_keep (X := (cxOf C8.CX0 X.prog X.w X.K X.mg X.base ["action", "found", "error"] "_law_caught" sg g cdv X.A X.stack s1 H1 C8.E0).nox) (c := .ref CB) (i := 2) (j := 1) (Wout := fun _ _ _ _ => False)
            (tb := fun Wt D σZ HZ => σZ[0]? = some (some (.ref f)) ∧ Rd HZ f (ObjO f (PySem.W.kla_obj "<lambda>" (X.env.qual ++ "<lambda>") L.params L.body L.scope (cloFrom X.env.cells L.scope.names []) pm c' ctv)) ∧ Rd HZ c' (LamX.CodeO c' (X.env.qual ++ "<lambda>")) ∧
              tE G (fun cls d _ H => WE Wt σZ cls d H) (some X.env.cells) (bd kk) σ HZ (fun _ H' => D.nx σZ H'))
            rfl rfl rfl Sg.nd rfl s2' rfl s1' (by decide) (by decide) ⟨hgl, by decide, .inl hB⟩ LamX.takes0 (fun X' e => by rw [e]; rfl) (fun Wt pn xe tk _ => ?_)) (pss_one (ps_ret (pe_var (i := 1) rfl (.inl s1') (by decide) (by decide)))))), ?_⟩
        · have hp := pe_act2 (CXg := C8.CX0) (Eg := C8.E0) (Ng := ["action", "found", "error"]) (pm := pm) (ctv := ctv) (i := 0) (a := "action") (p1 := p4) (p2 := p5) (tb := fun E => tE G (fun cls d _ H => E cls d H) (some X.env.cells) (bd kk)) I1 LS (hbind _ _ _ _ _) tk hr' (fun A outer s H E hr2 => hbody A outer s H E f c' hr2) rfl (.inl s0)
          have hx := pss_one (ps_expr (pos := p6) hp rfl)
          refine ⟨fun pinsZ sZ σZ HZ D IZ hZ => hx.run pinsZ sZ σZ HZ D IZ hZ⟩
        · refine ⟨rfl, S1.z _ _ zf, S1.z _ _ zc, w1, env, M1, S1, E1, ?_⟩
          revert h1
          cases bd kk env M1 with
          | stuck => exact fun h1 => h1
          | ok d2 M2 => exact fun h1 w' H' v l S' r => ⟨.non, rfl, h1 w' H' .non l S' .non⟩
          | err c ns vs M2 =>
            intro h1 w' H' C d l S' x
            have h1 : OkE G W σ w1 (if cat c = true then .ok (.exc c ns vs) M2 else .stuck) Q := h1
            split at h1
            · rename_i hc
              refine ⟨true, hcat c hc C x.1, fun _ => ⟨C, rfl, fun a na => ?_⟩, fun z => nomatch z⟩
              obtain ⟨q1, q2, q3⟩ := exc_at S' x na
              exact ⟨.ref a, rfl, h1 _ _ _ (l.trans q1) q2 q3⟩
            · exact h1.elim
      show wpAny _ _ (call (.ref g) [.ref f]) _ _ _
      refine wpAny_call (codeAny_mono rc fun r s2 hq => ?_)
      cases r with
      | error e => exact (show False from hq).elim
      | ok fl =>
        cases fl with
        | ret u => exact I1.after hq
        | next => exact False.elim hq
        | brk => exact False.elim hq
        | cont => exact False.elim hq
    · exact h1.elim
  | _ => exact h1.elim
end
end DI

set_option Elab.async false
set_option linter.all false
set_option maxRecDepth 100000
set_option maxHeartbeats 4000000
/-! DI20: calls by name, by keywords, by a value; tests of either kind. -/
namespace DI
open PySem PySem.Spec PyProof.Rows L2
/-- how keywords are bound: n0 positional values, the keywords ks, their places pm -/
structure KB (K : PySem.W.Frag) (fd : FuncData) (ps : List Str) (n0 : Nat) (ks : List Str) (pm : List Nat) : Prop where
  to : ∀ (s : Shared) (us ws : List Value), K.In s.heap → us.length = n0 → ws.length = ks.length → BindsTo s fd ⟨us, ks.zip ws⟩ (ps.zip (us ++ pick pm ws))
/-- a def of the text that keeps the promise F -/
structure CalD (G : Gb) (P : Program) (wo : World) (K : PySem.W.Frag) (mg : Str → Option Value) (base : Heap) (k : Nat) (x : Str) (n : Nat) (F : FnD) (kbs : List (Nat × List Str × List Nat)) : Prop where
  ex : ∃ (f : Addr) (fd : FuncData) (ps : List Str), ps.length = n ∧ FnOk P wo K mg base (L2.CX P wo) k f fd ps (spOf G n F) ∧ mg x = some (.ref f) ∧ PySem.W.keepIn K (.ref f) = true ∧ L2.Binds K fd ps [] ∧ ∀ q ∈ kbs, KB K fd ps q.1 q.2.1 q.2.2
section
variable {G : Gb} {W : WX} {own : Option (List (Str × Addr))} {X : Cx} {pos p : Pos}
/-- b makes n values -/
def LenL (b : EvL) (n : Nat) : Prop := ∀ env M ds M', b env M = .ok ds M' → ds.length = n
theorem lenL_nil : LenL cNil 0 := fun env M ds M' e => by cases e; rfl
theorem lenL_cons {a : EvE} {b : EvL} {n : Nat} (h : LenL b n) : LenL (cCons a b) (n + 1) := fun env M ds M' e => by
  unfold cCons at e
  cases e1 : a env M with
  | ok x M1 =>
    rw [e1] at e
    simp only [Res.bind_ok] at e
    cases e2 : b env M1 with
    | ok xs M2 =>
      rw [e2] at e
      cases e
      rw [List.length_cons, h _ _ _ _ e2]
    | err => rw [e2] at e; cases e
    | stuck => rw [e2] at e; cases e
  | err => rw [e1] at e; cases e
  | stuck => rw [e1] at e; cases e
theorem pd_callN {x : Str} {n : Nat} {F : FnD} {kbs : List (Nat × List Str × List Nat)} {e : Expr} {es : List Expr} {b : EvL} {k k' : Nat} (c : CalD G X.prog X.w X.K X.mg X.base k x n F kbs) (hr : Room k' X.A) (hkk : k ≤ k') (tk : Takes X W) (hg : Gl X x) (ha : PA X (e :: es) (tL G W none b)) (hl : LenL b n) (hn : n = es.length + 1)
    (hdb : (x == ("__debug__" : Str)) = false := by decide) (he : starEach (e :: es) X.env = (false, eval e X.env) :: starEach es X.env := by rfl) (hpl : (backTo pos (starEach es X.env)).any (·.1) = false := by rfl) : PE X (.Call (.Name x p) (e :: es) [] pos) (tE G W none (cCall F b)) := by
  obtain ⟨f, fd, ps, hps, hF, hm, hk, hb, _⟩ := c.ex
  subst hn
  exact pd_call (hF.mono hkk) hr tk hg hm hk hb ha hl hdb he hpl
theorem pd_callNC {x : Str} {n : Nat} {F : FnD} {kbs : List (Nat × List Str × List Nat)} {e : Expr} {es : List Expr} {b : EvL} {k k' : Nat} (c : CalD G X.prog X.w X.K X.mg X.base k x n F kbs) (hr : Room k' X.A) (hkk : k ≤ k') (tk : Takes X W) (hg : Gl X x) (ha : PA X (e :: es) (tL G W own b)) (hl : LenL b n) (hn : n = es.length + 1)
    (hdb : (x == ("__debug__" : Str)) = false := by decide) (he : starEach (e :: es) X.env = (false, eval e X.env) :: starEach es X.env := by rfl) (hpl : (backTo pos (starEach es X.env)).any (·.1) = false := by rfl) : PE X (.Call (.Name x p) (e :: es) [] pos) (tE G W own (cCallC F b)) := by
  obtain ⟨f, fd, ps, hps, hF, hm, hk, hb, _⟩ := c.ex
  subst hn
  exact pd_callC (hF.mono hkk) hr tk hg hm hk hb ha hl hdb he hpl
/-! ### keywords -/
theorem run_kb {CX : CXT} {k : Nat} {f : Addr} {fd : FuncData} {ps ks : List Str} {n0 : Nat} {pm : List Nat} {sp : Sp} {E : L2.St → XK} {pins : List (Addr × Obj)} {σ : L2.St} {H : Hp} {s : Shared} {Q : VK} {us ws : List Value} {vs zs : List V}
    (F : FnOk X.prog X.w X.K X.mg X.base CX k f fd ps sp) (hr : Room k X.A) (hb : KB X.K fd ps n0 ks pm) (hx : PassesAt CX X σ (E σ)) (I : Inv X pins σ H s) (r : Vals vs us) (rz : Vals zs ws) (l1 : vs.length = n0) (l2 : zs.length = ks.length) (rp : Vals (vs ++ pick pm zs) (us ++ pick pm ws)) (h : sp (vs ++ pick pm zs) H Q (E σ)) : wpAny (model X.prog X.w) X.A (call (.ref f) us (ks.zip ws)) (EP X pins σ Q) X.xe s := by
  refine wpAny_call (codeAny_mono (F.run X.A X.stack s H ⟨us, ks.zip ws⟩ (us ++ pick pm ws) (vs ++ pick pm zs) Q (E σ) hr I.env0 (hb.to s us ws I.kIn (r.length ▸ l1) (rz.length ▸ l2)) rp h) fun r s' hq => ?_)
  cases r with
  | error e => exact hx pins H s e s' I hq
  | ok fl =>
    cases fl with
    | ret u => exact I.after hq
    | next => exact False.elim hq
    | brk => exact False.elim hq
    | cont => exact False.elim hq
theorem vals_get {vs : List V} {us : List Value} (r : Vals vs us) (i : Nat) : (vs[i]? = none ∧ us[i]? = none) ∨ ∃ v u, vs[i]? = some v ∧ us[i]? = some u ∧ L2.RelV v u := by
  cases e : vs[i]? with
  | none =>
    refine .inl ⟨rfl, ?_⟩
    rw [List.getElem?_eq_none_iff] at e ⊢
    rw [← r.length]; exact e
  | some v =>
    obtain ⟨u, h1, h2⟩ := r.get e
    exact .inr ⟨v, u, rfl, h1, h2⟩
theorem vals_pick {vs : List V} {us : List Value} (r : Vals vs us) : ∀ pm : List Nat, Vals (pick pm vs) (pick pm us)
  | [] => .nil
  | i :: pm => by
    unfold pick
    rw [List.filterMap_cons, List.filterMap_cons]
    rcases vals_get r i with ⟨e1, e2⟩ | ⟨v, u, e1, e2, h⟩
    · rw [e1, e2]; exact vals_pick r pm
    · rw [e1, e2]; exact .cons h (vals_pick r pm)
/-- f(k = v, ..), no positional value -/
theorem pd_callK0 {x : Str} {n : Nat} {F : FnD} {kbs : List (Nat × List Str × List Nat)} {ks : List Str} {pm : List Nat} {kws : List Keyword} {c : EvL} {k k' : Nat} (cd : CalD G X.prog X.w X.K X.mg X.base k x n F kbs) (hq : (0, ks, pm) ∈ kbs) (hr : Room k' X.A) (hkk : k ≤ k') (tk : Takes X W) (hg : Gl X x) (hkw : PK X kws (tL G W own c)) (hl : LenL c ks.length) (hn : ∀ {α : Type} (zs : List α), zs.length = ks.length → (pick pm zs).length = n)
    (hall : (backToKw pos (keywordEach kws X.env)).all (·.1.isSome) = true := by rfl) (hks : (backToKw pos (keywordEach kws X.env)).filterMap (·.1) = ks := by rfl) (hdb : (x == ("__debug__" : Str)) = false := by decide)
    (hpl : ((backTo pos (starEach [] X.env)).any (·.1) || (backToKw pos (keywordEach kws X.env)).any (·.1.isNone)) = false := by rfl) :
    PE X (.Call (.Name x p) [] kws pos) (tE G W own (cCallKC F pm cNil c)) := by
  obtain ⟨f, fd, ps, hps, hF, hm, hk, hb, hkb⟩ := cd.ex
  refine ⟨fun pins s σ H Q I h => ?_⟩
  obtain ⟨w, env, M, S, E, h⟩ := h
  refine wpAny_Call_Name_kw (ld_glob I hg hm ?_ hdb)
  refine PySem.W.callWith_KW0 (h₀ := X.base) I.ok.mod.kin hk hall ?_ hpl
  refine thn (hkw.run pos pins s σ H (fun zs H2 => zs.length = ks.length ∧ ∃ w2 M2 ds, Sim0 G w2 H2 M2 ∧ Reps G w2 ds zs ∧ OkE G W σ w2 (if belows M2.length ([] ++ pick pm ds) = true then F ([] ++ pick pm ds) M2 else .stuck) Q) I ?_) fun ws s2 ⟨zs, H2, I2, rz, lz, w2, M2, ds, S2, r2, h2⟩ => ⟨I2.kIn, ?_⟩
  · refine ⟨w, env, M, S, E, ?_⟩
    have h0 : OkE G W σ w ((c env M).bind fun es M2 => if belows M2.length ([] ++ pick pm es) = true then F ([] ++ pick pm es) M2 else .stuck) Q := h
    cases e : c env M with
    | ok ds M2 =>
      rw [e] at h0
      exact fun w2 H2 zs l S2 r2 => ⟨by rw [← r2.length]; exact hl _ _ _ _ e, w2, M2, ds, S2, r2, h0.mono l⟩
    | err c ns vs M2 => rw [e] at h0; exact h0
    | stuck => rw [e] at h0; exact h0
  · rw [hks]
    split at h2
    · rename_i hbl
      refine run_kb (E := fun σ => WE W σ) (vs := []) (us := []) (hF.mono hkk) hr (hkb _ hq) (passAt tk σ) I2 .nil rz rfl lz (vals_pick rz pm) ?_
      exact ⟨hn zs lz, w2.shut, pick pm ds, M2, rfl, S2.shut, (belows_rep (pick_rep r2 pm) (S2.len ▸ hbl)).mono ⟨fun _ _ h => h, Nat.le_refl _, fun _ _ => rfl, fun _ e => by cases e⟩, (okC_of h2).open⟩
    · exact h2.elim
/-! ### a def that a local name holds -/
def cCallV (fns : Str → Option (Nat × FnD)) (i : Nat) (b : EvL) : EvE := fun env M => match env[i]? with
  | some (.val (.fn x)) => match fns x with
    | some (n, F) => (b env M).bind fun ds M1 => if ds.length = n ∧ belows M1.length ds = true then F ds M1 else .stuck
    | none => .stuck
  | _ => .stuck
theorem pd_callV {fns : Str → Option (Nat × FnD)} {i : Nat} {y : Str} {e : Expr} {es : List Expr} {b : EvL} {k : Nat} (hG : X.mg = G.mg) (hf : ∀ x n F, fns x = some (n, F) → ∃ kbs, CalD G X.prog X.w X.K X.mg X.base k x n F kbs) (hr : Room k X.A) (tk : Takes X W) (hN : X.N[i]? = some y) (hv : Vis X.env.scope y) (ha : PA X (e :: es) (tL G W own b))
    (hdb : (y == ("__debug__" : Str)) = false := by decide) (hcd : (y == ("__classdict__" : Str)) = false := by decide)
    (he : starEach (e :: es) X.env = (false, eval e X.env) :: starEach es X.env := by rfl) (hpl : (backTo pos (starEach es X.env)).any (·.1) = false := by rfl) : PE X (.Call (.Name y p) (e :: es) [] pos) (tE G W own (cCallV fns i b)) := by
  refine ⟨fun pins s σ H Q I h => ?_⟩
  obtain ⟨w, env, M, S, E, h⟩ := h
  unfold cCallV at h
  split at h
  · rename_i x ex
    split at h
    · rename_i n F eF
      obtain ⟨v, es', rv⟩ := E.sl i _ ex
      obtain ⟨kbs, c⟩ := hf x n F eF
      obtain ⟨f, fd, ps, hps, hF, hm, hk, hb, _⟩ := c.ex
      have ev : v = .ref f := by
        cases rv with
        | fn h1 h2 =>
          rw [← hG, hm] at h1
          cases h1
          cases v with
          | ref a => cases h2; rfl
          | _ => first | (obtain ⟨_, h2⟩ := h2; cases h2; done) | (cases h2; done)
      subst ev
      refine wpAny_Call_Name_kw (thn ((pe_var (pos := p) hN hv hdb hcd).run pins s σ H (fun v H1 => v = .ref f ∧ H1 = H) I ⟨.ref f, es', rfl, rfl⟩) fun u s1 ⟨v, H1, I1, r1, q1⟩ => ?_)
      obtain ⟨rfl, rfl⟩ := q1
      cases r1
      refine PySem.W.callWith_K (h₀ := X.base) I.ok.mod.kin hk (thn (ha.run pos pins s1 σ _ (fun vs H2 => ∃ w2 M2 ds, Sim0 G w2 H2 M2 ∧ Reps G w2 ds vs ∧ OkE G W σ w2 (if ds.length = n ∧ belows M2.length ds = true then F ds M2 else .stuck) Q) I1 ?_) fun us s2 ⟨vs, H2, I2, r, w2, M2, ds, S2, rd, h2⟩ => ⟨I2.kIn, ?_⟩) he hpl
      · exact tG_bind (g := fun (ds : List DI.D) M1 => if ds.length = n ∧ belows M1.length ds = true then F ds M1 else .stuck) S E h fun ds M1 w1 H1 vs l1 S1 E1 r1 h1 => ⟨w1, M1, ds, S1, r1, h1⟩
      · split at h2
        · rename_i hc
          refine run_fnSD (E := fun σ => WE W σ) (sp := spOf G n F) (dvs := []) (ds := []) hF hr hb .nil (passAt tk σ) I2 r ?_
          rw [List.append_nil]
          exact ⟨by rw [← rd.length]; exact hc.1, w2.shut, ds, M2, rfl, S2.shut, (belows_rep rd (S2.len ▸ hc.2)).mono ⟨fun _ _ h => h, Nat.le_refl _, fun _ _ => rfl, fun _ e => by cases e⟩, (okC_of h2).open⟩
        · exact h2.elim
    · exact h.elim
  · exact h.elim
/-! ### x if c else y as a test -/
theorem cTst_if (c a b : EvE) (env : En) (M : Mem) : cTst (cIf c a b) env M = (cTst c env M).bind fun t M1 => if t = true then cTst a env M1 else cTst b env M1 := by
  unfold cIf
  show (Res.bind _ _).bind _ = _
  rw [bind_assoc]
  congr 1
  funext t M1
  cases t <;> rfl
theorem ptd_ifx {ec ea eb : Expr} {c a b : EvE} (hc : PT X ec (tTs G W own c)) (ha : PT X ea (tTs G W own a)) (hb : PT X eb (tTs G W own b)) : PT X (.IfExp ec ea eb pos) (tTs G W own (cIf c a b)) := by
  refine ⟨fun pins s σ H Q I h => isTrue_IfExp ?_⟩
  obtain ⟨w, env, M, S, E, h⟩ := h
  rw [cTst_if] at h
  refine thn (hc.run pins s σ H (fun t H1 => if t = true then tTs G W own a σ H1 Q else tTs G W own b σ H1 Q) I ?_) fun t s1 ⟨H1, I1, q⟩ => ?_
  · refine tG_bind (g := fun t M1 => if t = true then cTst a env M1 else cTst b env M1) S E h fun t M1 w1 H1 v l1 S1 E1 r1 h1 => ?_
    subst r1
    cases t with
    | true => exact ⟨w1, env, M1, S1, E1, h1⟩
    | false => exact ⟨w1, env, M1, S1, E1, h1⟩
  · cases t with
    | true => exact ha.run pins s1 σ H1 Q I1 q
    | false => exact hb.run pins s1 σ H1 Q I1 q
end
end DI

set_option Elab.async false
set_option linter.all false
set_option maxRecDepth 100000
set_option maxHeartbeats 4000000
/-! DI21: the rules as a program prints them. -/
namespace DI
open PySem PySem.Spec PyProof.Rows L2
def nmB (sc : Scope) (x : Str) : Bool := (match sc.names.lookup x with
  | some .local => true
  | some .cell => true
  | some .free => true
  | _ => false) && !(x == ("__debug__" : Str)) && !(x == ("__classdict__" : Str))
theorem nmB_vis {sc : Scope} {x : Str} (h : nmB sc x = true) : Vis sc x ∧ (x == ("__debug__" : Str)) = false ∧ (x == ("__classdict__" : Str)) = false := by
  unfold nmB at h
  simp only [Bool.and_eq_true, Bool.not_eq_true'] at h
  refine ⟨?_, h.1.2, h.2⟩
  have h1 := h.1.1
  split at h1
  · rename_i e; exact .inl e
  · rename_i e; exact .inr (.inl e)
  · rename_i e; exact .inr (.inr e)
  · cases h1
def glB (sc : Scope) (x : Str) : Bool := (match sc.names.lookup x with
  | some .globalImplicit => true
  | _ => false) && !(x == ("__debug__" : Str)) && !(x == ("__name__" : Str))
theorem glB_gl {X : Cx} {x : Str} (h : glB X.env.scope x = true) : L2.Gl X x ∧ (x == ("__debug__" : Str)) = false ∧ x ≠ "__name__" := by
  unfold glB at h
  simp only [Bool.and_eq_true, Bool.not_eq_true'] at h
  refine ⟨?_, h.1.2, fun e => by have := h.2; rw [e] at this; revert this; decide⟩
  have h1 := h.1.1
  split at h1
  · rename_i e; exact e
  · cases h1
def lcB (sc : Scope) (x : Str) : Bool := match sc.names.lookup x with
  | some .local => true
  | _ => false
theorem lcB_lk {sc : Scope} {x : Str} (h : lcB sc x = true) : sc.names.lookup x = some .local := by
  unfold lcB at h
  split at h
  · rename_i e; exact e
  · cases h
/-- a name that may be stored to in its own def -/
def stB (X : Cx) (x : Str) : Bool := match X.env.scope.names.lookup x with
  | some .local => true
  | some .cell => X.fn x
  | _ => false
theorem stB_ok {X : Cx} {x : Str} (h : stB X x = true) : L2.Loc X.env.scope x ∧ (X.fn x = true ∨ X.env.scope.names.lookup x = some .local) := by
  unfold stB at h
  split at h
  · rename_i e; exact ⟨.inl e, .inr e⟩
  · rename_i e; exact ⟨.inr e, .inl h⟩
  · cases h
section
variable {G : Gb} {W : WX} {own : Option (List (Str × Addr))} {X : Cx} {pos p : Pos}
theorem qv {x : Str} (i : Nat) (hN : X.N[i]? = some x) (h : nmB X.env.scope x = true) : PE X (.Name x pos) (tE G W own (cVar i)) := pd_var hN (nmB_vis h).1 (nmB_vis h).2.1 (nmB_vis h).2.2
theorem qB {id : String} {x : Str} {g : Mem → List D → Option D} {e : Expr} {es : List Expr} {b : EvL} (hc : CallD G X (.builtin id) g) (hm : X.mg x = none) (hv : bootBuiltins x = some (.builtin id)) (h : glB X.env.scope x = true) (ha : PA X (e :: es) (tL G W own b))
    (he : starEach (e :: es) X.env = (false, eval e X.env) :: starEach es X.env) (hpl : (backTo pos (starEach es X.env)).any (·.1) = false) : PE X (.Call (.Name x p) (e :: es) [] pos) (tE G W own (cFn g b)) :=
  pd_callB hc (glB_gl h).1 hm hv ha (glB_gl h).2.2 (glB_gl h).2.1 he hpl
theorem qT {T : String} {x : Str} {g : Mem → List D → Option D} {e : Expr} {es : List Expr} {b : EvL} (hc : CallD G X (.type T) g) (hm : X.mg x = none) (hv : bootBuiltins x = some (.type T)) (h : glB X.env.scope x = true) (ha : PA X (e :: es) (tL G W own b))
    (he : starEach (e :: es) X.env = (false, eval e X.env) :: starEach es X.env) (hpl : (backTo pos (starEach es X.env)).any (·.1) = false) : PE X (.Call (.Name x p) (e :: es) [] pos) (tE G W own (cFn g b)) :=
  pd_callTy hc (glB_gl h).1 hm hv ha (glB_gl h).2.2 (glB_gl h).2.1 he hpl
theorem qF {id : String} {x : Str} {g : Mem → List D → Option D} {e : Expr} {es : List Expr} {b : EvL} (hc : CallD G X (.builtin id) g) (hm : X.mg x = some (.builtin id)) (h : glB X.env.scope x = true) (ha : PA X (e :: es) (tL G W own b))
    (he : starEach (e :: es) X.env = (false, eval e X.env) :: starEach es X.env) (hpl : (backTo pos (starEach es X.env)).any (·.1) = false) : PE X (.Call (.Name x p) (e :: es) [] pos) (tE G W own (cFn g b)) :=
  pd_callBfun hc (glB_gl h).1 hm ha (glB_gl h).2.1 he hpl
theorem qTy {x : Str} {T : String} (hm : X.mg x = none) (hv : bootBuiltins x = some (.type T)) (h : glB X.env.scope x = true) : PE X (.Name x pos) (tE G W own (cC (.ty T))) :=
  pd_bltn (v := .ty T) (glB_gl h).1 hm hv rfl (fun _ => .ty T) (glB_gl h).2.2 (glB_gl h).2.1
/-- a def or a class of the module, as a value -/
theorem qFn {x : Str} {a : Addr} (hG : X.mg = G.mg) (hm : X.mg x = some (.ref a)) (h : glB X.env.scope x = true) : PE X (.Name x pos) (tE G W own (cC (.fn x))) :=
  pd_glob (v := .ref a) (glB_gl h).1 hm rfl (fun _ => .fn (u := .ref a) (hG ▸ hm) rfl) (glB_gl h).2.1
/-- a constant of the module -/
structure ConD (G : Gb) (mg : Str → Option Value) (x : Str) (d : D) : Prop where
  ex : ∃ (u : Value) (v : V), mg x = some u ∧ L2.RelV v u ∧ ∀ w, Rep G w d v
theorem qC {x : Str} {d : D} (c : ConD G X.mg x d) (h : glB X.env.scope x = true) : PE X (.Name x pos) (tE G W own (cC d)) := by
  obtain ⟨u, v, hm, r, hr⟩ := c.ex
  exact pd_glob (glB_gl h).1 hm r hr (glB_gl h).2.1
theorem qCall {x : Str} {n : Nat} {F : FnD} {kbs : List (Nat × List Str × List Nat)} {e : Expr} {es : List Expr} {b : EvL} {k k' : Nat} (c : CalD G X.prog X.w X.K X.mg X.base k x n F kbs) (hr : Room k' X.A) (hkk : k ≤ k') (tk : Takes X W) (h : glB X.env.scope x = true) (ha : PA X (e :: es) (tL G W none b)) (hl : LenL b n) (hn : n = es.length + 1)
    (he : starEach (e :: es) X.env = (false, eval e X.env) :: starEach es X.env) (hpl : (backTo pos (starEach es X.env)).any (·.1) = false) : PE X (.Call (.Name x p) (e :: es) [] pos) (tE G W none (cCall F b)) := pd_callN c hr hkk tk (glB_gl h).1 ha hl hn (glB_gl h).2.1 he hpl
theorem qCallC {x : Str} {n : Nat} {F : FnD} {kbs : List (Nat × List Str × List Nat)} {e : Expr} {es : List Expr} {b : EvL} {k k' : Nat} (c : CalD G X.prog X.w X.K X.mg X.base k x n F kbs) (hr : Room k' X.A) (hkk : k ≤ k') (tk : Takes X W) (h : glB X.env.scope x = true) (ha : PA X (e :: es) (tL G W own b)) (hl : LenL b n) (hn : n = es.length + 1)
    (he : starEach (e :: es) X.env = (false, eval e X.env) :: starEach es X.env) (hpl : (backTo pos (starEach es X.env)).any (·.1) = false) : PE X (.Call (.Name x p) (e :: es) [] pos) (tE G W own (cCallC F b)) := pd_callNC c hr hkk tk (glB_gl h).1 ha hl hn (glB_gl h).2.1 he hpl
theorem XG.blk (h : XG G X) {s : Shared} {H : Hp} {scope : Scope} {cenv : Env} {fp : List Addr} : XG G (X.blk s H scope cenv fp) := ⟨h.K, h.mg, h.calm, h.un⟩
theorem XG.of {CX : CXT} {P : Program} {wo : World} {K : PySem.W.Frag} {mg : Str → Option Value} {base : Heap} {N : List Str} {qual : Str} {scope : Scope} {f : Addr} {cd : Value} {A : Around} {outer : List Env} {s : Shared} {H : Hp} {E : XK} {k : Nat} (hK : K = G.K) (hm : mg = G.mg) (hr : Room k (A.deeper (envOfC qual scope s.heap.objs.size f cd))) :
    XG G (cxOf CX P wo K mg base N qual scope f cd A outer s H E) := ⟨hK, hm, rfl, by have := hr.un; show (A.deeper _).units + 65 < _; omega⟩
theorem tkOf {P : Program} {wo : World} {K : PySem.W.Frag} {mg : Str → Option Value} {base : Heap} {N : List Str} {qual : Str} {scope : Scope} {f : Addr} {cd : Value} {A : Around} {outer : List Env} {s : Shared} {H : Hp} {E : XK} : Takes (cxOf (L2.CX P wo) P wo K mg base N qual scope f cd A outer s H E) (fun cls d _ H' => E cls d H') :=
  takes_of rfl rfl rfl rfl
theorem hpOf {P : Program} {wo : World} {K : PySem.W.Frag} {mg : Str → Option Value} {base : Heap} {N : List Str} {qual : Str} {scope : Scope} {f : Addr} {cd : Value} {A : Around} {outer : List Env} {s : Shared} {H : Hp} {E : XK} : PassesOwn (model P wo) (cxOf (L2.CX P wo) P wo K mg base N qual scope f cd A outer s H E).A (cxOf (L2.CX P wo) P wo K mg base N qual scope f cd A outer s H E).env (cxOf (L2.CX P wo) P wo K mg base N qual scope f cd A outer s H E).xe :=
  passes_of (X := cxOf (L2.CX P wo) P wo K mg base N qual scope f cd A outer s H E) rfl
theorem tkB : Takes X W0 := LamX.takes0
theorem qSet {i : Nat} {x : Str} {e : Expr} {a : EvE} {pos' : Pos} (hN : X.N.Nodup) (hi : X.N[i]? = some x) (h : stB X x = true) (he : PE X e (tE G W own a)) (hs : swapsWith e (some (.Name x pos')) pos.line X.env = pure false) :
    PS X (.Assign [.Name x pos'] e pos) (tS G W own (sSet (.nm i) a)) := psd_set hN hi (stB_ok h).1 he (stB_ok h).2 hs
theorem qTgN {i : Nat} {x : Str} (hN : X.N.Nodup) (hi : X.N[i]? = some x) (h : stB X x = true) : PG X (.Name x pos) (gT G.K (.nm i)) := pg_name hN hi (stB_ok h).1 (stB_ok h).2
theorem qTgNil : PGs X [] (gTs G.K []) := pgs_nil
theorem qTgC {e : Expr} {es : List Expr} {t : Tgt} {ts : List Tgt} (h1 : PG X e (gT G.K t)) (h2 : PGs X es (gTs G.K ts)) (hs : (assignEach (e :: es) X.env).map (·.2) = assign e X.env :: (assignEach es X.env).map (·.2)) : PGs X (e :: es) (gTs G.K (t :: ts)) := pgs_cons h1 h2 hs
theorem qTgT {es : List Expr} {k : Nat} {ts : List Tgt} (hX : XG G X) (h : PGs X es (gTs G.K ts)) (hn : (assignEach es X.env).length = ts.length) (hst : (assignEach es X.env).findIdx? (·.1) = none) : PG X (.Tuple es k pos) (gT G.K (.tp ts)) := by
  have := pg_tup (pos := pos) (k := k) hX.calm h hn hst
  rw [hX.K] at this
  exact this
theorem qSetLc {ix : Nat} {y : Str} {py : Pos} {elt tg iter : Expr} {ifs : List Expr} {scope : Scope} (ow : List (Str × Nat)) {pos spos : Pos} {i : EvI} {t : Tgt} {c : EvT} {e : EvE} (hX : XG G X) (hN : X.N.Nodup) (hy : X.N[ix]? = some y) (hyl : lcB X.env.scope y = true)
    (hsw : swapsWith (.ListComp elt [⟨tg, iter, ifs, 0⟩] scope pos) (some (.Name y py)) spos.line X.env = pure true) (hi : PI X tg iter (tIt G W own i)) (ok : BlkOk X.N X.env.scope scope ow)
    (hg : ∀ (s : Shared) (H : Hp) (C : Addr) (cl : List (Str × Addr)) (fp : List Addr), PG (X.blk s H scope (compEnvC scope cl C X.env) fp) tg (gT G.K t)) (ht : ∀ (s : Shared) (H : Hp) (C : Addr) (cl : List (Str × Addr)) (fp : List Addr), PTs (X.blk s H scope (compEnvC scope cl C X.env) fp) ifs (tTb G W0 own c))
    (he : ∀ (s : Shared) (H : Hp) (C : Addr) (cl : List (Str × Addr)) (fp : List Addr), PE (X.blk s H scope (compEnvC scope cl C X.env) fp) elt (tE G W0 own e)) (hix : ∀ j ∈ t.ix, j ∈ ow.map (·.2)) (hs : ∀ x, foldedSetIterable iter X.env x = pure x) :
    PS X (.Assign [.Name y py] (.ListComp elt [⟨tg, iter, ifs, 0⟩] scope pos) spos) (tS G W own (sSet (.nm ix) (cLc i t c e (ow.map (·.2))))) := psd_setLc hX.calm hN hy (lcB_lk hyl) hsw hi ok hg ht he hix hs
theorem qSetLcM {ix : Nat} {y : Str} {py : Pos} {elt tg iter : Expr} {ifs : List Expr} {scope : Scope} (ow : List (Str × Nat)) {pos spos : Pos} {i : EvI} {t : Tgt} {c : EvT} {e : EvE} (hX : XG G X) (hN : X.N.Nodup) (hy : X.N[ix]? = some y) (hyl : lcB X.env.scope y = true)
    (hsw : swapsWith (.ListComp elt [⟨tg, iter, ifs, 0⟩] scope pos) (some (.Name y py)) spos.line X.env = pure true) (hi : PI X tg iter (tIt G W own i)) (ok : BlkOk X.N X.env.scope scope ow)
    (hg : ∀ (s : Shared) (H : Hp) (C : Addr) (cl : List (Str × Addr)) (fp : List Addr), PG (X.blk s H scope (compEnvC scope cl C X.env) fp) tg (gT G.K t)) (ht : ∀ (s : Shared) (H : Hp) (C : Addr) (cl : List (Str × Addr)) (fp : List Addr), PTs (X.blk s H scope (compEnvC scope cl C X.env) fp) ifs (tTb G W0 own c))
    (he : ∀ (s : Shared) (H : Hp) (C : Addr) (cl : List (Str × Addr)) (fp : List Addr), PE (X.blk s H scope (compEnvC scope cl C X.env) fp) elt (tE G W0 own e)) (hix : ∀ j ∈ t.ix, j ∈ ow.map (·.2)) (hs : ∀ x, foldedSetIterable iter X.env x = pure x) :
    PS X (.Assign [.Name y py] (.ListComp elt [⟨tg, iter, ifs, 0⟩] scope pos) spos) (tS G W own (sSet (.nm ix) (cLcM i t c e (ow.map (·.2))))) := psd_setLcM hX.calm hN hy (lcB_lk hyl) hsw hi ok hg ht he hix hs
theorem qPar2 {i j : Nat} {x y : Str} {ea eb : Expr} {b : EvL} {px py pt : Pos} {kt k2 pt2} (hX : XG G X) (hN : X.N.Nodup) (hi : X.N[i]? = some x) (hj : X.N[j]? = some y) (hij : i ≠ j)
    (hx : lcB X.env.scope x = true) (hy : lcB X.env.scope y = true) (ha : PA X [ea, eb] (tL G W own b))
    (hw : swappedStores [.Tuple [.Name x px, .Name y py] kt pt] (.Tuple [ea, eb] k2 pt2) X.env = pure (some [x, y]))
    (hs : swapsWithSole [.Tuple [.Name x px, .Name y py] kt pt] (.Tuple [ea, eb] k2 pt2) pos.line X.env = pure false) :
    PS X (.Assign [.Tuple [.Name x px, .Name y py] kt pt] (.Tuple [ea, eb] k2 pt2) pos) (tS G W own (sPar2 i j b)) := psd_par2 hX.calm hN hi hj hij (lcB_lk hx) (lcB_lk hy) ha hw hs
theorem qPar3 {i j l : Nat} {x y z : Str} {ea eb ec : Expr} {b : EvL} {px py pz pt : Pos} {kt k2 pt2} (hX : XG G X) (hN : X.N.Nodup) (hi : X.N[i]? = some x) (hj : X.N[j]? = some y) (hl : X.N[l]? = some z) (hij : i ≠ j) (hil : i ≠ l) (hjl : j ≠ l)
    (hx : lcB X.env.scope x = true) (hy : lcB X.env.scope y = true) (hz : lcB X.env.scope z = true) (ha : PA X [ea, eb, ec] (tL G W own b))
    (hw : swappedStores [.Tuple [.Name x px, .Name y py, .Name z pz] kt pt] (.Tuple [ea, eb, ec] k2 pt2) X.env = pure (some [x, y, z]))
    (hs : swapsWithSole [.Tuple [.Name x px, .Name y py, .Name z pz] kt pt] (.Tuple [ea, eb, ec] k2 pt2) pos.line X.env = pure false) :
    PS X (.Assign [.Tuple [.Name x px, .Name y py, .Name z pz] kt pt] (.Tuple [ea, eb, ec] k2 pt2) pos) (tS G W own (sPar3 i j l b)) := psd_par3 hX.calm hN hi hj hl hij hil hjl (lcB_lk hx) (lcB_lk hy) (lcB_lk hz) ha hw hs
theorem qRange1 {tg a : Expr} {b : EvL} (hm : X.mg "range" = none) (h : glB X.env.scope "range" = true) (ha : PA X [a] (tL G W own b)) (hs : starEach [a] X.env = [(false, eval a X.env)]) : PI X tg (.Call (.Name "range" p) [a] [] pos) (tIt G W own (cItL (fun _ => itR1) b)) := pid_range1 (glB_gl h).1 hm ha hs
theorem qRange2 {tg a a2 : Expr} {b : EvL} (hm : X.mg "range" = none) (h : glB X.env.scope "range" = true) (ha : PA X [a, a2] (tL G W own b)) (hs : starEach [a, a2] X.env = [(false, eval a X.env), (false, eval a2 X.env)]) (hs2 : starEach [a2] X.env = [(false, eval a2 X.env)]) : PI X tg (.Call (.Name "range" p) [a, a2] [] pos) (tIt G W own (cItL (fun _ => itR2) b)) := pid_range2 (glB_gl h).1 hm ha hs hs2
theorem qZip {e1 e2 : Expr} {b : EvL} {elts : List Expr} {kk : Nat} {tpos : Pos} (hX : XG G X) (hm : X.mg "zip" = none) (h : glB X.env.scope "zip" = true) (ha : PA X [e1, e2] (tL G W own b))
    (hs : starEach [e1, e2] X.env = (false, eval e1 X.env) :: starEach [e2] X.env) (hpl : (backTo pos (starEach [e2] X.env)).any (·.1) = false) : PI X (.Tuple elts kk tpos) (.Call (.Name "zip" p) [e1, e2] [] pos) (tIt G W own (cItL zipD b)) := pid_zip hX.K (glB_gl h).1 hm ha hs hpl
theorem qEnum {e1 : Expr} {b : EvL} {elts : List Expr} {kk : Nat} {tpos : Pos} (hX : XG G X) (hm : X.mg "enumerate" = none) (h : glB X.env.scope "enumerate" = true) (ha : PA X [e1] (tL G W own b)) (hs : starEach [e1] X.env = [(false, eval e1 X.env)]) :
    PI X (.Tuple elts kk tpos) (.Call (.Name "enumerate" p) [e1] [] pos) (tIt G W own (cItL enumD b)) := pid_enum hX.K (glB_gl h).1 hm ha hs
/-- an own class of errors, as the head tells it -/
structure ExcF (K : PySem.W.Frag) (mg : Str → Option Value) (x : Str) : Prop where
  ex : ∃ C : Addr, mg x = some (.ref C) ∧ PySem.W.excIn K C He.veBase "ValueError.__new__" = true ∧ PySem.W.keepIn K (.ref C) = true ∧ PySem.W.subIn K (.ref C) (.type "BaseException") = some true ∧ PySem.W.typeIn K (.ref C) = some (.type "type")
/-- a class of errors, a def, as values -/
theorem qExc {x : Str} (c : ExcF X.K X.mg x) (hG : X.mg = G.mg) (h : glB X.env.scope x = true) : PE X (.Name x pos) (tE G W own (cC (.fn x))) := by
  obtain ⟨C, h1, _⟩ := c.ex
  exact qFn hG h1 h
theorem qDef {x : Str} {n : Nat} {F : FnD} {kbs : List (Nat × List Str × List Nat)} {k : Nat} (c : CalD G X.prog X.w X.K X.mg X.base k x n F kbs) (hG : X.mg = G.mg) (h : glB X.env.scope x = true) : PE X (.Name x pos) (tE G W own (cC (.fn x))) := by
  obtain ⟨f, fd, ps, _, _, h1, _⟩ := c.ex
  exact qFn hG h1 h
theorem qRaise {x : Str} {e : Expr} {es : List Expr} {b : EvL} {p pos' : Pos} (c : ExcF X.K X.mg x) (hX : XG G X) (tk : Takes X W) (h : glB X.env.scope x = true) (ha : PA X (e :: es) (tL G W own b))
    (he : starEach (e :: es) X.env = (false, eval e X.env) :: starEach es X.env) (hpl : (backTo pos (starEach es X.env)).any (·.1) = false) : PS X (.Raise (some (.Call (.Name x p) (e :: es) [] pos)) none pos') (tS G W own (sRaise x b)) := by
  obtain ⟨C, h1, h2, h3, h4, h5⟩ := c.ex
  exact psd_raise hX tk PySem.F.excBase_ValueError h2 h1 h3 (raises_own h4 h5) (glB_gl h).1 ha (glB_gl h).2.1 he hpl
theorem FunD.kb {K : PySem.W.Frag} {x qual : Str} {params : Arguments} {body : List Stmt} {scope : Scope} {f : Addr} {fd : FuncData} {ps : List Str} {n0 : Nat} {ks : List Str} {pm : List Nat} (F : FunD K x qual params body scope [] [] f fd)
    (h : ∀ (kV doc pmv : Value) (an : Option Addr) (cdv ct : Value) (us ws : List Value), us.length = n0 → ws.length = ks.length → bindArgs (PySem.W.fnOf x qual params body scope .none kV doc pmv an cdv ct) ⟨us, ks.zip ws⟩ = pure (ps.zip (us ++ pick pm ws))) : KB K fd ps n0 ks pm := by
  obtain ⟨oc, od, dV, kV, doc, pmv, an, cdv, ct, osl, rfl, lk, hcd, hD, hK⟩ := F.ex
  rcases hD with ⟨_, rfl⟩ | ⟨e, _⟩
  · exact ⟨fun s us ws _ l1 l2 => .of_eq (h kV doc pmv an cdv ct us ws l1 l2)⟩
  · exact absurd rfl e
def blkB (N : List Str) (sc scope : Scope) (ow : List (Str × Nat)) : Bool :=
  decide (scope.kind = .function) && scope.names.all (fun y => decide (scope.names.lookup y.1 = some y.2)) && ow.all (fun p => decide (N[p.2]? = some p.1)) &&
  scope.names.all (fun y => !decide (y.2 = .free) || decide (sc.names.lookup y.1 = some .cell) || decide (sc.names.lookup y.1 = some .free)) && scope.names.all fun y => !(decide (y.2 = .local) || decide (y.2 = .cell)) || (ow.map (·.1)).contains y.1 || !N.contains y.1
theorem blk_by {N : List Str} {sc scope : Scope} {ow : List (Str × Nat)} (h : blkB N sc scope ow = true) : BlkOk N sc scope ow := by
  unfold blkB at h
  simp only [Bool.and_eq_true, List.all_eq_true, decide_eq_true_eq, Bool.or_eq_true, Bool.not_eq_true', decide_eq_false_iff_not] at h
  obtain ⟨⟨⟨⟨h1, h2⟩, h3⟩, h4⟩, h5⟩ := h
  refine ⟨h1, h2, h3, fun y hy e => ?_, fun y hy e => ?_⟩
  · rcases h4 y hy with (h | h) | h
    · exact absurd e h
    · exact .inl h
    · exact .inr h
  · rcases h5 y hy with (h | h) | h
    · exfalso
      rw [Bool.or_eq_false_iff] at h
      rcases e with e | e
      · exact absurd h.1 (by simp [e])
      · exact absurd h.2 (by simp [e])
    · exact .inl (List.contains_iff_mem.mp h)
    · exact .inr (fun hm => by rw [List.contains_iff_mem.mpr hm] at h; cases h)
end
end DI

set_option Elab.async false
set_option linter.all false
set_option maxRecDepth 100000
set_option maxHeartbeats 4000000
/-! DI22: defs with lambdas, as a program prints them. -/
namespace DI
open PySem PySem.Spec PyProof.Rows L2
/-- the lambdas in a text, from the left -/
structure LamP where
  args : Arguments
  body : Expr
  scope : Scope
mutual
def lamsE : Expr → List LamP
  | .Lambda a b s _ => [⟨a, b, s⟩]
  | .BinOp a _ b _ => lamsE a ++ lamsE b
  | .UnaryOp _ a _ => lamsE a
  | .BoolOp _ vs _ => lamsEs vs
  | .Compare a _ cs _ => lamsE a ++ lamsEs cs
  | .Call f as kws _ => lamsE f ++ lamsEs as ++ lamsK kws
  | .IfExp t a b _ => lamsE t ++ lamsE a ++ lamsE b
  | .Subscript a b _ => lamsE a ++ lamsE b
  | .Attribute a _ _ => lamsE a
  | .Tuple es _ _ => lamsEs es
  | .List es _ => lamsEs es
  | _ => []
def lamsEs : List Expr → List LamP
  | [] => []
  | e :: es => lamsE e ++ lamsEs es
def lamsK : List Keyword → List LamP
  | [] => []
  | ⟨_, e, _⟩ :: ks => lamsE e ++ lamsK ks
end
mutual
def lamsS : Stmt → List LamP
  | .Assign _ v _ => lamsE v
  | .Expr e _ => lamsE e
  | .Return (some e) _ => lamsE e
  | .If t a b _ => lamsE t ++ lamsSs a ++ lamsSs b
  | .While t a b _ => lamsE t ++ lamsSs a ++ lamsSs b
  | .For _ i a b _ => lamsE i ++ lamsSs a ++ lamsSs b
  | _ => []
def lamsSs : List Stmt → List LamP
  | [] => []
  | s :: ss => lamsS s ++ lamsSs ss
end
def lamAt (b : List Stmt) (k : Nat) : LamP := (lamsSs b).getD k ⟨⟨[], [], none, [], [], none, []⟩, .Constant .none 0 ⟨0, 0, 0, 0⟩, ⟨.function, [], false, false, []⟩⟩
section
variable {G : Gb} {W : WX} {own : Option (List (Str × Addr))} {X : Cx} {pos p : Pos}
/-- the lambdas' bodies do what bd says -/
def BdOk (G : Gb) (X : Cx) (k : Nat) (ks : Nat → Bool) (bd : Nat → EvE) : Prop :=
  ∀ kk L, ks kk = true → G.lam kk = some L → L.qual = X.env.qual ∧ LamX.LamS X.env.scope L.scope ∧ (∀ (q : Str) (cl : List (Str × Addr)) (pm cv ctv : Value), bindArgs (PySem.W.kla_fn "<lambda>" q L.params L.body L.scope cl pm cv ctv) ⟨[], []⟩ = pure []) ∧
    ∀ (A : Around) (outer : List Env) (s : Shared) (H : Hp) (E : XK) (f c' : Addr), Room k (A.deeper (LamX.lamEnv X L.scope s.heap.objs.size f c')) → PE (LamX.lamCx X A outer s H E L.scope f c') L.body (tE G (fun cls d _ H => E cls d H) (some X.env.cells) (bd kk))
theorem qCaught {g CB : Addr} {fdg : FuncData} {pg : Arguments} {sg : Scope} {k k' : Nat} {ks : Nat → Bool} {bd : Nat → EvE} {cat : Str → Bool} {e : Expr} {a : EvE} {j : Nat} {p1 p2 p3 p4 p5 p6 p7 p8 p9 p10 p11 p12 p13 p14 : Pos}
    (hG : X.mg = G.mg) (hg : glB X.env.scope "_law_caught" = true) (hm : X.mg "_law_caught" = some (.ref g)) (Fg : FunD X.K "_law_caught" "_law_caught" pg (caughtBody j p1 p2 p3 p4 p5 p6 p7 p8 p9 p10 p11 p12 p13 p14) sg [] [] g fdg) (hb : L2.Binds X.K fdg ["action"] [])
    (Sg : FnScope ["action", "found", "error"] ["action"] sg) (s0 : lcB sg "action" = true) (s1' : lcB sg "found" = true) (s2' : lcB sg "error" = true) (s3 : glB sg "BoundError" = true) (hB : X.mg "BoundError" = some (.ref CB))
    (hcat : ∀ c, cat c = true → ∀ C, G.mg c = some (.ref C) → PySem.W.exmOne X.K (.ref C) (.ref CB) = some true) (hr : Room k' X.A) (hk : k + 2 ≤ k')
    (hbd : BdOk G X k ks bd) (ha : PE X e (tE G W (some X.env.cells) a)) (hs : starEach [e] X.env = (false, eval e X.env) :: starEach [] X.env) :
    PE X (.Call (.Name "_law_caught" p) [e] [] pos) (tE G W (some X.env.cells) (cCaught ks bd cat a)) := by
  have s3' : sg.names.lookup ("BoundError" : Str) = some .globalImplicit := by
    unfold glB at s3
    simp only [Bool.and_eq_true] at s3
    have h1 := s3.1.1
    split at h1
    · rename_i e; exact e
    · cases h1
  exact pd_caught hG (glB_gl hg).1 hm Fg hb Sg (lcB_lk s0) (lcB_lk s1') (lcB_lk s2') s3' hB hcat (hr.mono hk) hbd ha hs
theorem pick_len {α : Type} {zs : List α} {m : Nat} : ∀ {pm : List Nat}, pm.all (fun i => decide (i < m)) = true → zs.length = m → (pick pm zs).length = pm.length
  | [], _, _ => rfl
  | i :: pm, h, hz => by
    rw [List.all_cons, Bool.and_eq_true, decide_eq_true_eq] at h
    unfold pick
    rw [List.filterMap_cons, List.getElem?_eq_getElem (by omega)]
    simp only [List.length_cons]
    exact congrArg Nat.succ (pick_len h.2 hz)
theorem XG.lam (h : XG G X) {A : Around} {outer : List Env} {s : Shared} {H : Hp} {E : XK} {scope : Scope} {f c' : Addr} {k : Nat} (hr : Room k (A.deeper (LamX.lamEnv X scope s.heap.objs.size f c'))) : XG G (LamX.lamCx X A outer s H E scope f c') :=
  ⟨h.K, h.mg, rfl, by have := hr.un; show (A.deeper _).units + 65 < _; omega⟩
theorem tkL {A : Around} {outer : List Env} {s : Shared} {H : Hp} {E : XK} {scope : Scope} {f c' : Addr} : Takes (LamX.lamCx X A outer s H E scope f c') (fun cls d _ H' => E cls d H') := takes_of rfl rfl rfl rfl
theorem CalD.mono {P : Program} {wo : World} {K : PySem.W.Frag} {mg : Str → Option Value} {base : Heap} {k k' : Nat} {x : Str} {n : Nat} {F : FnD} {kbs : List (Nat × List Str × List Nat)} (c : CalD G P wo K mg base k x n F kbs) (h : k ≤ k') : CalD G P wo K mg base k' x n F kbs := by
  obtain ⟨f, fd, ps, h1, h2, h3⟩ := c.ex
  exact ⟨f, fd, ps, h1, h2.mono h, h3⟩
end
section
variable {G : Gb} {P : Program} {wo : World} {K : PySem.W.Frag} {mg : Str → Option Value} {base : Heap} {x qual : Str} {params : Arguments} {body : List Stmt} {scope : Scope} {f : Addr} {fd : FuncData} {N ps : List Str} {k : Nat} {b : EvS}
/-- the code object of a def that makes lambdas, its table -/
structure MkF (G : Gb) (mg : Str → Option Value) (base : Heap) (q : Str) (fd : FuncData) : Prop where
  ex : ∃ c T, fd.code = .ref c ∧ LamX.TabB base mg c T ∧ (T, q ++ "<lambda>") ∈ G.T ∧ ∀ p ∈ G.T, p.1 = T → p.2 = q ++ "<lambda>"
theorem fnOk_Cm (F : FunD K x qual params body scope [] [] f fd) (mk : MkF G mg base (envOfC qual scope 0 0 .none).qual fd) (S : FnScope N ps scope)
    (hb : ∀ (c T : Addr) (A : Around) (outer : List Env) (s : Shared) (H : Hp) (E : XK), LamX.TabB base mg c T → (T, (envOfC qual scope s.heap.objs.size f (.ref c)).qual ++ "<lambda>") ∈ G.T → (∀ p ∈ G.T, p.1 = T → p.2 = (envOfC qual scope s.heap.objs.size f (.ref c)).qual ++ "<lambda>") → Room k (A.deeper (envOfC qual scope s.heap.objs.size f (.ref c))) →
      PSs (cxOf (L2.CX P wo) P wo K mg base N qual scope f (.ref c) A outer s H E) body (tS G (fun cls d _ H' => E cls d H') (some (envOfC qual scope s.heap.objs.size f (.ref c)).cells) b)) :
    FnOk P wo K mg base (L2.CX P wo) (k + 1) f fd ps (spOf G ps.length (runC N.length b)) := by
  obtain ⟨oc, od, dV, kV, doc, pm, an, cdv, ct, osl, rfl, lk, hcd, _, _⟩ := F.ex
  obtain ⟨c, T, hc, h1, h2, h3⟩ := mk.ex
  have hc : cdv = .ref c := hc
  subst hc
  refine fn_of lk hcd S (fun vs H Q E h => h.1) fun A outer s H vs Q E hr h => ⟨_, hb c T A outer s H E h1 h2 h3 hr, ?_⟩
  obtain ⟨hl, w, ds, M, ho, S0, r, h⟩ := h
  have hN : ps.length ≤ N.length := by
    have := congrArg List.length S.pre
    rw [List.length_take] at this
    omega
  have r' : Reps G { w with own := some (envOfC qual scope s.heap.objs.size f (.ref c)).cells } ds vs := r.mono (leR_own w _ ho)
  exact ⟨_, _, M, S0.reown, simE_start r' rfl (hl ▸ hN), okS_end (W := fun cls d _ H' => E cls d H') (okC_close ho h)⟩
end
end DI

set_option Elab.async false
set_option linter.all false
set_option maxRecDepth 100000
set_option maxHeartbeats 4000000
/-! DI23: xs[::-1] of tuples and lists. -/
namespace DI
open PySem PySem.Spec PyProof.Rows L2 HT
section
variable {prog : Program} {w : World} {A : Around} {E : Value → Shared → Prop} {s : Shared}
theorem applied_rev {sl : Addr} {t : Tok} {n : Nat} {Q : Int × Int × Nat → Shared → Prop} (hs : s.heap.IsSliceOf sl .none .none (.int (-1) t))
    (h : Q ((n : Int) - 1, -1, n) s) : wpAny (model prog w) A (Builtin.Slice.sliceApplied (.ref sl) (pure (n : Int))) Q E s := by
  obtain ⟨os, hos, hcs, hds⟩ := id hs
  unfold Builtin.Slice.sliceApplied Builtin.Slice.sliceFields
  refine wpAny_bind (wpAny_bind (wpAny_field hos hds (x := .none) rfl (wpAny_bind (wpAny_field hos hds (x := .none) rfl (wpAny_bind (wpAny_field hos hds (x := .int (-1) t) rfl (wpAny_pure ?_)))))))
  refine wpAny_bind (slicePart_ (.int (-1) t) ?_)
  show wpAny _ _ (if ((-1 : Int) == 0) = true then _ else _) _ _ s
  rw [if_neg (by decide)]
  refine wpAny_bind (slicePart_ .none (wpAny_bind (slicePart_ .none (wpAny_bind (wpAny_pure ?_)))))
  show wpAny _ _ (pure ((n : Int) - 1, (-1 : Int), Builtin.Slice.slicePlaces ((n : Int) - 1) (-1) (-1))) _ _ s
  have e : Builtin.Slice.slicePlaces ((n : Int) - 1) (-1) (-1) = n := by
    unfold Builtin.Slice.slicePlaces
    have h1 : ¬ ((-1 : Int) > 0) := by decide
    simp only [h1, if_false]
    by_cases h : (n : Int) - 1 > -1
    · rw [if_pos h, show (-(-1) : Int) = 1 by decide, Int.ediv_one]
      omega
    · rw [if_neg h]
      have : n = 0 := by omega
      subst this
      rfl
  rw [e]
  exact wpAny_pure h
theorem fm_congr {α β : Type} {f g : α → Option β} : ∀ {l : List α}, (∀ k ∈ l, f k = g k) → l.filterMap f = l.filterMap g
  | [], _ => rfl
  | a :: l, h => by
    rw [List.filterMap_cons, List.filterMap_cons, h a (List.mem_cons_self ..), fm_congr fun k hk => h k (List.mem_cons_of_mem _ hk)]
theorem pick_rev (xs : Array Value) : ((List.range xs.size).filterMap fun (k : Nat) => xs[(((xs.size : Int) - 1) + (k : Int) * (-1)).toNat]?).toArray = xs.toList.reverse.toArray := by
  have e : ((List.range xs.size).filterMap fun (k : Nat) => xs[(((xs.size : Int) - 1) + (k : Int) * (-1)).toNat]?) = ((List.range xs.size).map fun k => xs.size - 1 - k).filterMap (xs[·]?) := by
    rw [List.filterMap_map]
    refine fm_congr fun k hk => ?_
    have := List.mem_range.mp hk
    show xs[_]? = xs[xs.size - 1 - k]?
    congr 1
    omega
  rw [e, PySem.W.krv_range, List.filterMap_reverse, PySem.W.krv_all]
theorem getItem_tuple_rev {t sl : Addr} {items : Array Value} {tk : Tok} {Q : Value → Shared → Prop} (ht : PyProof.Rows.IsTup s.heap t items) (hs : s.heap.IsSliceOf sl .none .none (.int (-1) tk))
    (h : Q (.ref s.heap.objs.size) { s with heap := s.heap.push { cls := .type "tuple", data := .seq items.toList.reverse.toArray } }) (hsz : items.size ≤ sizeLine) : wpAny (model prog w) A (getItem (.ref t) (.ref sl)) Q E s := by
  have htake : sizeOk (.seq items.toList.reverse.toArray) := by
    show items.toList.reverse.toArray.size ≤ sizeLine
    rw [List.size_toArray, List.length_reverse, Array.length_toList]
    exact hsz
  obtain ⟨os, hos, hcs, hds⟩ := id hs
  have hTs : s.TypeIs (.ref sl) "slice" := ⟨os, hos, hcs⟩
  unfold getItem
  try with_reducible refine wpAny_holding ?_
  first | refine wpAny_bind (wpAny_pure ?_) | skip
  refine wpAny_bind (wpAny_sequenceKey ht.typeIs (by decide) ?_)
  refine wpAny_bind (wpAny_callSpecial?_slot (name := Str.ofString "__getitem__") ht.typeIs PyProof.Rows.slot_tuple_getitem
    (wpAny_call_entry PyProof.Rows.slot_tuple_getitem ht.typeIs entry_tuple_getitem ?_ (args_tuple_getitem _ _)))
  show wpAny _ _ (Builtin.Tuple.tupleItemsOf (.ref t) >>= _) _ _ s
  refine wpAny_bind (tupleItemsOf_ ht ?_)
  refine wpAny_bind (wpAny_typeOf hTs ?_)
  rw [if_pos (by decide)]
  refine wpAny_bind (applied_rev hs ?_)
  show wpAny _ _ (if (((items.size : Int) - 1) == 0 && (-1 : Int) == 1 && items.size == items.size) = true then _ else _) _ _ s
  rw [if_neg (by simp), pick_rev]
  first
    | exact wpAny_bind (m := Builtin.Tuple.tupleExact _) (wpAny_newObj_type (wpAny_pure ⟨_, rfl, wpAny_pure h⟩) htake)
    | exact wpAny_bind (m := Builtin.Tuple.tupleExact _) (wpAny_newObj_type (wpAny_bind (wpAny_pure (wpAny_pure ⟨_, rfl, wpAny_pure h⟩))) htake)
    | exact wpAny_bind (wpAny_bind (m := Builtin.Tuple.tupleExact _) (wpAny_newObj_type (wpAny_pure (wpAny_pure ⟨_, rfl, wpAny_pure h⟩)) htake))
    | exact wpAny_bind (wpAny_bind (m := Builtin.Tuple.tupleExact _) (wpAny_newObj_type (wpAny_pure ⟨_, rfl, wpAny_pure h⟩) htake))
end
noncomputable def revD (M : Mem) (x : D) : Option D := match der M x with
  | .tup ds => some (.tup ds.reverse)
  | .lst ds => some (.lst ds.reverse)
  | _ => none
noncomputable def cRev (a : EvE) : EvE := cUn revD a
section
variable {G : Gb} {W : WX} {own : Option (List (Str × Addr))} {X : Cx} {pos p : Pos}
theorem pd_rev {e : Expr} {a : EvE} {k : Nat} {p1 p2 p3 pos : Pos} (hX : XG G X) (he : PE X e (tE G W own a)) : PE X (.Subscript e (.Slice none none (some (.UnaryOp .USub (.Constant (.int 1) k p1) p2)) p3) pos) (tE G W own (cRev a)) := by
  refine ⟨fun pins s σ H Q I h => ?_⟩
  obtain ⟨w, env, M, S, E, h⟩ := h
  refine Subscript_ (thn (he.run pins s σ H (fun v H1 => ∃ w1 M1 d d', Sim0 G w1 H1 M1 ∧ Rep G w1 d v ∧ revD M1 d = some d' ∧ ∀ w' H' v', Le w1 w' → Sim0 G w' H' M1 → Rep G w' d' v' → Q v' H') I ?_) fun v s1 ⟨x, H1, I1, r1, w1, M1, d, d', S1, rd, ed, q⟩ => ?_)
  · refine tG_bind (g := fun x M1 => opt (revD M1 x) M1) S E h fun d M1 w1 H1 v l1 S1 E1 r h1 => ?_
    cases e : revD M1 d with
    | none => rw [e] at h1; exact h1.elim
    | some d' =>
      rw [e] at h1
      exact ⟨w1, M1, d, d', S1, r, e, h1⟩
  have hst : PO X (some (.UnaryOp .USub (.Constant (.int 1) k p1) p2)) (tPart (tUn (rU fun i => .int (-i)) (tC (.int 1)))) := po_some (pe_un un_neg pe_int)
  refine wpAny_Slice (thn (po_none.run pins s1 σ H1 (fun o H2 => o = none ∧ H2 = H1) I1 ⟨rfl, rfl⟩) fun vl s2 ⟨l, H2, I2, pl, el, e2⟩ => ?_)
  subst el e2
  refine thn (po_none.run pins s2 σ H2 (fun o H3 => o = none ∧ H3 = H2) I2 ⟨rfl, rfl⟩) fun vu s3 ⟨u, H3, I3, pu, eu, e3⟩ => ?_
  subst eu e3
  refine thn (hst.run pins s3 σ H3 (fun o H4 => o = some (-1) ∧ H4 = H3) I3 ⟨1, rfl, -1, rfl, rfl, rfl⟩) fun vs s4 ⟨o, H4, I4, ps, eo, e4⟩ => ?_
  subst eo e4
  have I5 : Inv X pins σ H4 { s4 with heap := s4.heap.push { cls := .type "slice", data := .fields #[vl, vu, vs] } } := I4.kept (t' := s4.toks) fun b ob q => Heap.get?_push_of_some _ q
  unfold revD at ed
  split at ed
  · rename_i ds ex
    cases ed
    obtain ⟨a, xs, rfl, h1, h2⟩ := der_tup S1 rd ex
    cases r1
    rw [← hX.K] at h1
    obtain ⟨its, r, ht, hz⟩ := I5.tuple h1
    cases pl
    cases pu
    cases ps with
    | int i tk =>
    show wpAny (model X.prog X.w) X.A (subscriptTail e (.Slice none none (some (.UnaryOp .USub (.Constant (.int 1) k p1) p2)) p3) (.ref a) (.ref s4.heap.objs.size)) (EP X pins σ Q) X.xe { s4 with heap := s4.heap.push { cls := .type "slice", data := .fields #[.none, .none, .int (-1) tk] } }
    refine tail_any (ops := [.ref a, .ref s4.heap.objs.size]) ht.typeIs (PyProof.Rows.slot_tuple_getitem.lookup) ?_ (by with_unfolding_all rfl)
    refine getItem_tuple_rev ht (Heap.IsSliceOf.new _ .none .none (.int (-1) tk)) ?_ (by rw [List.size_toArray, ← r.length]; exact hz)
    have hn := I5.hok.fresh (Nat.le_refl _)
    refine ⟨.ref _, _, I5.laid (t' := s4.toks) (o := .tup xs.reverse) (fun b ob q => Heap.get?_push_of_some _ q) (Nat.le_refl _) ?_, rfl, ?_⟩
    · exact ⟨by rw [List.length_reverse]; exact hz, _, r.reverse, IsTup.new _ _⟩
    · obtain ⟨q1, q2, q3⟩ := new_tup S1 hn h2.reverse
      exact q _ _ _ q1 q2 q3
  · rename_i ds ex
    cases ed
    obtain ⟨a, xs, rfl, h1, h2⟩ := der_lst S1 rd ex
    cases r1
    obtain ⟨its, r, ht, hz⟩ := I5.list (.inl h1)
    show wpAny (model X.prog X.w) X.A (subscriptTail e (.Slice none none (some (.UnaryOp .USub (.Constant (.int 1) k p1) p2)) p3) (.ref a) (.ref s4.heap.objs.size)) (EP X pins σ Q) X.xe { s4 with heap := s4.heap.push { cls := .type "slice", data := .fields #[vl, vu, vs] } }
    refine tail_any (ops := [.ref a, .ref s4.heap.objs.size]) ht.isList.typeIs (PySem.slot_list_getitem.lookup) ?_ (by with_unfolding_all rfl)
    refine wpAny_getItem_list_slice ht.isList (Heap.IsSliceOf.new _ vl vu vs) pl pu ps (by decide) ?_ (by rw [List.size_toArray, ← r.length]; exact hz)
    rw [PySem.W.krv_pick]
    have hn := I5.hok.fresh (Nat.le_refl _)
    refine ⟨.ref _, _, I5.laid (t' := s4.toks) (o := .lst xs.reverse) (fun b ob q => Heap.get?_push_of_some _ q) (Nat.le_refl _) ?_, rfl, ?_⟩
    · exact ⟨by rw [List.length_reverse]; exact hz, _, 0, r.reverse, Heap.get?_push_size _ rfl⟩
    · exact q _ _ _ (Le.addZ (S1.zfree hn)) (S1.addZ hn) (.lst upd_same (h2.reverse.mono (Le.addZ (S1.zfree hn)).toR))
  · cases ed
end
end DI

set_option Elab.async false
set_option linter.all false
set_option maxRecDepth 100000
set_option maxHeartbeats 4000000
/-! DI24: list(x), xs * n that are changed later. -/
namespace DI
open PySem PySem.Spec PyProof.Rows L2
/-- a new list of the memory -/
def mkL (M : Mem) (ds : List D) : Option (D × Mem) := if belows M.length ds = true then some (.ref M.length, M ++ [.lst ds]) else none
def thaw (M : Mem) : Option D → Option (D × Mem)
  | some (.lst ds) => mkL M ds
  | _ => none
def OpDM (G : Gb) (X : Cx) (sem : Value → Value → Sem Value) (f : Mem → D → D → Option (D × Mem)) : Prop :=
  ∀ (w : Wd) (M : Mem) (H : Hp) (dx dy d : D) (M' : Mem) (x y : V) (Q : VK), Sim0 G w H M → Rep G w dx x → Rep G w dy y → f M dx dy = some (d, M') →
    (∀ w' H' v, Le w w' → Sim0 G w' H' M' → Rep G w' d v → Q v H') →
    ∀ (pins : List (Addr × Obj)) (s : Shared) (σ : L2.St) (v u : Value), Inv X pins σ H s → RelV x v → RelV y u → wpAny (model X.prog X.w) X.A (sem v u) (EP X pins σ Q) X.xe s
def rOfM (G : Gb) (f : Mem → D → D → Option (D × Mem)) : R2 := fun x y H Q => ∃ w M dx dy d M', Sim0 G w H M ∧ Rep G w dx x ∧ Rep G w dy y ∧ f M dx dy = some (d, M') ∧ ∀ w' H' v, Le w w' → Sim0 G w' H' M' → Rep G w' d v → Q v H'
def cBinM (f : Mem → D → D → Option (D × Mem)) (a b : EvE) : EvE := fun env M => (a env M).bind fun x M1 => (b env M1).bind fun y M2 => optM (f M2 x y)
def cFnM (f : Mem → List D → Option (D × Mem)) (a : EvL) : EvE := fun env M => (a env M).bind fun xs M1 => optM (f M1 xs)
def CallDM (G : Gb) (X : Cx) (f : Value) (g : Mem → List D → Option (D × Mem)) : Prop :=
  ∀ (w : Wd) (M : Mem) (H : Hp) (ds : List D) (d : D) (M' : Mem) (vs : List V) (Q : VK), Sim0 G w H M → Reps G w ds vs → g M ds = some (d, M') → (∀ w' H' v, Le w w' → Sim0 G w' H' M' → Rep G w' d v → Q v H') →
    ∀ (pins : List (Addr × Obj)) (s : Shared) (σ : L2.St) (us : List Value), Inv X pins σ H s → Vals vs us → wpAny (model X.prog X.w) X.A (call f us) (EP X pins σ Q) X.xe s
def rCdM (G : Gb) (g : Mem → List D → Option (D × Mem)) : List V → Hp → VK → Prop := fun vs H Q => ∃ w M ds d M', Sim0 G w H M ∧ Reps G w ds vs ∧ g M ds = some (d, M') ∧ ∀ w' H' v, Le w w' → Sim0 G w' H' M' → Rep G w' d v → Q v H'
theorem OpDM.opR {G : Gb} {X : Cx} {sem : Value → Value → Sem Value} {f : Mem → D → D → Option (D × Mem)} (h : OpDM G X sem f) : OpR X sem (rOfM G f) := by
  intro pins s σ H x y v u Q I rx ry q
  obtain ⟨w, M, dx, dy, d, M', S, r1, r2, e, hQ⟩ := q
  exact h w M H dx dy d M' x y Q S r1 r2 e hQ pins s σ v u I rx ry
theorem CallDM.callR {G : Gb} {X : Cx} {f : Value} {g : Mem → List D → Option (D × Mem)} (h : CallDM G X f g) : CallR X f (rCdM G g) := by
  intro pins s σ H vs us Q I r q
  obtain ⟨w, M, ds, d, M', S, r1, e, hQ⟩ := q
  exact h w M H ds d M' vs Q S r1 e hQ pins s σ us I r
section
variable {G : Gb} {X : Cx} {W : WX} {own : Option (List (Str × Addr))} {pos p : Pos} {w : Wd} {H : Hp} {M : Mem}
theorem tOpM_of {f : Mem → D → D → Option (D × Mem)} {a b : EvE} {σ : L2.St} {H : Hp} {Q : VK} (h : tE G W own (cBinM f a b) σ H Q) : tOp (rOfM G f) (tE G W own a) (tE G W own b) σ H Q := by
  obtain ⟨w, env, M, S, E, h⟩ := h
  refine tG_bind (g := fun x M1 => (b env M1).bind fun y M2 => optM (f M2 x y)) S E h fun dx M1 w1 H1 x l1 S1 E1 r1 h1 => ?_
  refine tG_bind (g := fun y M2 => optM (f M2 dx y)) S1 E1 h1 fun dy M2 w2 H2 y l2 S2 E2 r2 h2 => ?_
  cases e : f M2 dx dy with
  | none => rw [e] at h2; exact h2.elim
  | some q =>
    obtain ⟨d, M'⟩ := q
    rw [e] at h2
    exact ⟨w2, M2, dx, dy, d, M', S2, r1.mono l2.toR, r2, e, h2⟩
theorem pd_binM {op : Operator} {f : Mem → D → D → Option (D × Mem)} {ea eb : Expr} {a b : EvE} (ho : OpDM G X (binaryOp op) f) (ha : PE X ea (tE G W own a)) (hb : PE X eb (tE G W own b)) : PE X (.BinOp ea op eb pos) (tE G W own (cBinM f a b)) :=
  PE_imp (pe_op ho.opR ha hb) fun _ _ _ => tOpM_of
theorem tCBM_of {g : Mem → List D → Option (D × Mem)} {b : EvL} {σ : L2.St} {H : Hp} {Q : VK} (h : tE G W own (cFnM g b) σ H Q) : tCB (rCdM G g) (tL G W own b) σ H Q := by
  obtain ⟨w, env, M, S, E, h⟩ := h
  refine tG_bind (g := fun xs M2 => optM (g M2 xs)) S E h fun ds M1 w1 H1 vs l1 S1 E1 r1 h1 => ?_
  cases e : g M1 ds with
  | none => rw [e] at h1; exact h1.elim
  | some q =>
    obtain ⟨d, M'⟩ := q
    rw [e] at h1
    exact ⟨w1, M1, ds, d, M', S1, r1, e, h1⟩
theorem pd_callTyM {T : String} {x : Str} {g : Mem → List D → Option (D × Mem)} {e : Expr} {es : List Expr} {b : EvL} (hc : CallDM G X (.type T) g) (hg : Gl X x) (hm : X.mg x = none) (hv : bootBuiltins x = some (.type T)) (ha : PA X (e :: es) (tL G W own b))
    (hn : x ≠ "__name__") (hdb : (x == ("__debug__" : Str)) = false) (he : starEach (e :: es) X.env = (false, eval e X.env) :: starEach es X.env) (hpl : (backTo pos (starEach es X.env)).any (·.1) = false) : PE X (.Call (.Name x p) (e :: es) [] pos) (tE G W own (cFnM g b)) :=
  PE_imp (pe_callTy hc.callR hg hm hv ha hn hdb he hpl) fun _ _ _ => tCBM_of
theorem qTM {T : String} {x : Str} {g : Mem → List D → Option (D × Mem)} {e : Expr} {es : List Expr} {b : EvL} (hc : CallDM G X (.type T) g) (hm : X.mg x = none) (hv : bootBuiltins x = some (.type T)) (h : glB X.env.scope x = true) (ha : PA X (e :: es) (tL G W own b))
    (he : starEach (e :: es) X.env = (false, eval e X.env) :: starEach es X.env) (hpl : (backTo pos (starEach es X.env)).any (·.1) = false) : PE X (.Call (.Name x p) (e :: es) [] pos) (tE G W own (cFnM g b)) :=
  pd_callTyM hc (glB_gl h).1 hm hv ha (glB_gl h).2.2 (glB_gl h).2.1 he hpl
/-- the new list stands in the memory -/
theorem push_new_lst {ds : List D} {vs : List V} {q : Addr} {d : D} {M' : Mem} {Q : VK} (S : Sim0 G w H M) (hp : H q = none) (r : Reps G w ds vs) (e : mkL M ds = some (d, M')) (hQ : ∀ w' H' v, Le w w' → Sim0 G w' H' M' → Rep G w' d v → Q v H') : Q (.ref q) (upd H q (.lst vs)) := by
  unfold mkL at e
  split at e
  · rename_i hz
    cases e
    refine hQ _ _ _ (Le.push (a := q)) (S.push (o := .lst vs) hp (x := .lst ds) ⟨S.pfree hp, vs, upd_same, belows_rep r (S.len ▸ hz)⟩) ?_
    have := Rep.ref (G := G) (w := w.push q) (i := w.n) (Nat.lt_succ_self _)
    rw [push_new] at this
    rw [S.len]
    exact this
  · cases e
noncomputable def gListM (M : Mem) : List D → Option (D × Mem)
  | [x] => match der M x with
    | .lst ds => mkL M ds
    | .tup ds => mkL M ds
    | _ => none
  | _ => none
theorem callDM_list (hX : XG G X) : CallDM G X (.type "list") gListM := by
  intro w M H ds d M' vs Q S r e hQ pins s σ us I rv
  unfold gListM at e
  split at e
  · obtain ⟨v, rfl, r1⟩ := reps1 r
    split at e
    · rename_i xs ex
      obtain ⟨a, ws, rfl, h1, h2⟩ := der_lst S r1 ex
      exact call_list_of pins s σ H _ us Q I rv ⟨a, ws, rfl, .inl (.inl h1), fun p hp => push_new_lst S hp h2 e hQ⟩
    · rename_i xs ex
      obtain ⟨a, ws, rfl, h1, h2⟩ := der_tup S r1 ex
      exact call_list_of pins s σ H _ us Q I rv ⟨a, ws, rfl, .inr (by rw [hX.K]; exact h1), fun p hp => push_new_lst S hp h2 e hQ⟩
    · cases e
  · cases e
noncomputable def fMulM (M : Mem) (x y : D) : Option (D × Mem) := match der M x, der M y with
  | .lst a, .int k => if 0 ≤ k ∧ k ≤ 1000 ∧ a.length ≤ 1000 then mkL M (List.replicate k.toNat a).flatten else none
  | _, _ => none
theorem opDM_mul (hX : XG G X) : OpDM G X (binaryOp .Mult) fMulM := by
  intro w M H dx dy d M' x y Q S r1 r2 e hQ pins s σ v u I rx ry
  unfold fMulM at e
  split at e
  · rename_i a k ex ey
    split at e
    · rename_i hc
      obtain ⟨b, vs, rfl, ha, qa⟩ := der_lst S r1 ex
      have := der_int r2 ey; subst this
      obtain ⟨t', rfl⟩ := ry
      cases rx
      refine rep_rd ha (by omega) (by omega) ?_ (fun p hp => ?_) I
      · rw [← qa.length, sizeLine_eq]
        have a1 := Nat.mul_le_mul hc.2.2 (show k.toNat ≤ 1000 by omega)
        omega
      · exact push_new_lst S hp (qa.flat _) e hQ
    · cases e
  · cases e
/-- {} -/
def cDict0 : EvE := fun _ M => .ok (.ref M.length) (M ++ [.dct []])
theorem pd_dict0 : PE X (.Dict [] [] pos) (tE G W own cDict0) :=
  PE_imp pe_dnewK fun σ H Q h => by
    obtain ⟨w, env, M, S, E, h⟩ := h
    intro q hp
    refine h _ _ _ (Le.push (a := q)) (S.push (o := .dK []) hp (x := .dct []) ⟨S.pfree hp, [], upd_same, .nil⟩) ?_
    have := Rep.ref (G := G) (w := w.push q) (i := w.n) (Nat.lt_succ_self _)
    rw [push_new] at this
    rw [S.len]
    exact this
noncomputable def fAddM (M : Mem) (x y : D) : Option (D × Mem) := match der M x, der M y with
  | .lst a, .lst b => if a.length + b.length ≤ sizeLine then mkL M (a ++ b) else none
  | _, _ => none
end
end DI

set_option Elab.async false
set_option linter.all false
set_option maxRecDepth 100000
set_option maxHeartbeats 4000000
/-! DI25: own exceptions whose __init__ says super().__init__(p); self.f = p. -/
namespace DI
open PySem PySem.Spec PyProof.Rows L2
def initBody (par f : Str) (p0 p1 p2 p3 p4 p5 p6 p7 p8 p9 : Pos) : List Stmt :=
  [.Expr (.Call (.Attribute (.Call (.Name "super" p0) [] [] p1) "__init__" p2) [.Name par p3] [] p4) p5, .Assign [.Attribute (.Name "self" p6) f p7] (.Name par p8) p9]
section
open PySem.W PySem.Calls
variable {prog : Program} {w : World} {M : Model} {A : Around} {E : Value → Shared → Prop} {h : Heap} {g : Array GenState} {d : Drawn} {t : Nat} {os : OsState}
variable {nm q : Str} {C N : Addr} {bs bm bmB : List Value} {hdct : Bool} {sn : List Str} {sub : List Value} {ab : Bool} {col : Option Bool} {dd : Option Addr} {k0 k1 k2 k3 k5 : Option Value}
abbrev bwV (x : Addr) : Obj := { cls := .type "method-wrapper", dict := none, data := .fields #[.builtin "ValueError.__init__", .ref x], slots := #[] }
theorem call_bwV {u e t0 : Addr} {rest : List Value} {Q : Value → Shared → Prop}
    (hC : h.get? C = some (excClassObj nm q C N bs bm hdct sn sub ab col dd k0 k1 k2 k3 k5 "ValueError.__new__")) (he : h.get? e = some (HandSPX.excO C t0)) (hu : h.get? u = some (bwV e)) (hrest : rest.length ≤ sizeLine)
    (hq : ∀ h' t1, (∀ b o, b ≠ e → h.get? b = some o → h'.get? b = some o) → h'.get? e = some (HandSPX.excO C t1) → Q .none ⟨h', g, d, t, os⟩) :
    wpAny (model prog w) A (call (.ref u) rest) Q E ⟨h, g, d, t, os⟩ := by
  refine wpAny_call (codeAny_of_tree ?_)
  show wpAny _ A.in1 (callAny (.ref u) ⟨rest, []⟩) _ _ _
  simp only [callAny]
  refine wpAny_bind (wpAny_load hu ?_)
  simp only [bwV, show (Value.type "method-wrapper" == Value.type "method" || Value.type "method-wrapper" == Value.type "builtin_function_or_method" || Value.type "method-wrapper" == Value.type "method-wrapper") = true by decide, if_true]
  refine W.KFB.if_so (by decide) ?_
  refine wpAny_bind (ESX.check_bound F.excBase_ValueError hC he rfl ?_)
  refine wpAny_bind (wpAny_pure (wpAny_pure ?_))
  refine ⟨Code.quiet_builtin _ (by decide +kernel), codeAny_builtin F.excBase_ValueError.initEntry ?_⟩
  rw [Around.under_plainId F.excBase_ValueError.init.plain _]
  wp_walk
  refine hq _ h.objs.size (fun b o hb ho => ?_) ?_
  · rw [Heap.get?_update_other _ _ (Ne.symm hb)]
    exact Heap.get?_push_of_some _ ho
  · rw [Heap.get?_update_self _ (Heap.get?_push_of_some _ he) rfl]
    rfl
theorem callWith_bwV {s : Shared} {pos : Pos} {u x : Addr} {env : Env} {e : Expr} {Q : Value → Shared → Prop}
    (h : wpAny M A (spliced (backTo pos (starEach [e] env))) (fun vs s₁ => s₁.heap.get? u = some (bwV x) ∧ wpAny M A (call (.ref u) vs) Q E s₁) E s)
    (he : starEach [e] env = (false, eval e env) :: starEach [] env := by rfl) :
    wpAny M A (callWith pos (.ref u) [] (backTo pos (starEach [e] env)) []) Q E s := by
  rw [he] at h ⊢
  refine kxs_callWith (i := "ValueError.__init__") (x := x) (by rfl) ?_
  exact evalArgs_plain h
end
section
open PySem.W PySem.Calls
variable {prog : Program} {w : World} {A : Around} {R : Result → Shared → Prop} {s : Shared} {K : PySem.W.Frag} {mg mb : Str → Option Value}
variable {x C fI cc cda t0 : Addr} {par f qual : Str} {params : Arguments} {scope : Scope} {dV kV doc pm ct oc ccl cl u : Value} {an od cdd cld : Option Addr} {osl ccs csl : Array (Option Value)} {vs : Array Value} {file : Str} {tf : Tok} {ar : Arg} {args : Args}
  {p0 p1 p2 p3 p4 p5 p6 p7 p8 p9 : Pos}
/-- the whole of such an __init__, on the heap -/
theorem init_heap (X : K.In s.heap) (lim : s.heap.NoLimit) (hgl : s.heap.Ns mainGlobals mg) (hmg : mg "super" = none) (hbl : s.heap.Ns builtinsNs mb) (hmb : mb "super" = some (.type "super")) (T : OexC K C)
    (lk : K.lookup fI = some ⟨oc, od, .func (fnX "__init__" qual params (initBody par f p0 p1 p2 p3 p4 p5 p6 p7 p8 p9) scope [("__class__", cc)] dV kV doc pm an (.ref cda) ct), osl⟩) (hcd : codeIn K (.ref cda) qual = true)
    (lcd : K.lookup cda = some ⟨ccl, cdd, .fields vs, ccs⟩) (hvs : vs[2]? = some (.str file tf)) (hfile : ((prog.main.file : Str) == file) = true) (lcc : K.lookup cc = some ⟨cl, cld, .cell (some (.ref C)), csl⟩)
    (htop : (prog.main.scope.names.lookup ("super" : Str)).isSome = false) (hany : nsIn K cStatics "thirdparty.any" = some none) (hsup : ks_superIn K C C "__init__" = some (some (.builtin "ValueError.__init__"))) (hB : subIn K (.ref C) (.type "ValueError") = some true)
    (hCC : mroIn K C (.ref C) = some true) (hno : findIn K (.ref C) f = some none)
    (hks : scope.names.lookup ("super" : Str) = some .globalImplicit) (hkc : scope.names.lookup ("__class__" : Str) = some .free) (hself : scope.names.lookup ("self" : Str) = some .local) (hparl : scope.names.lookup par = some .local)
    (hcell : ∀ y ∈ scope.names, y.2 ≠ .cell) (hco : scope.isCoroutine = false) (hgen : scope.isGenerator = false) (hk : scope.kind = .function) (hl4 : (p2.endLine == p4.line) = true) (hps : (par == ("self" : Str)) = false) (hpd : (par == ("__debug__" : Str)) = false)
    (hp0 : (params.posonlyargs ++ params.args).head? = some ar) (har : ar.arg = ("self" : Str)) (hd : A.depth < recursionLimit) (hx : s.heap.get? x = some (HandSPX.excO C t0)) (hxK : ∀ o, K.lookup x ≠ some o)
    (hb : BindsTo s (fnX "__init__" qual params (initBody par f p0 p1 p2 p3 p4 p5 p6 p7 p8 p9) scope [("__class__", cc)] dV kV doc pm an (.ref cda) ct) args [("self", .ref x), (par, u)])
    (hq : ∀ h' dx t1 tk', (∀ b o, b ≠ x → s.heap.get? b = some o → h'.get? b = some o) → s.heap.objs.size ≤ dx → dx ≠ x → h'.get? x = some ({ cls := .ref C, dict := some dx, data := .fields #[.ref t1, .none, .none, .none, .bool false, .none] } : Obj) →
      h'.Ns1 dx (fun y => if y = f then some u else none) → R (.ok (.ret .none)) ⟨h', s.gens, s.drawn, tk', s.os⟩) :
    codeAny (model prog w) A (.call (.ref fI) args) R s := by
  refine ks_codeAny_call_defAt (fd := fnX "__init__" qual params (initBody par f p0 p1 p2 p3 p4 p5 p6 p7 p8 p9) scope [("__class__", cc)] dV kV doc pm an (.ref cda) ct) (body := initBody par f p0 p1 p2 p3 p4 p5 p6 p7 p8 p9) (binds := [("self", .ref x), (par, u)])
    hd (X _ _ lk) rfl lim (codeRec_of X hcd) rfl hb hcell (fun y hy => ?_) (fun h₁ hns hk₁ => ?_) hco hgen hk
  · rcases List.mem_cons.mp hy with rfl | hy
    · exact hself
    · obtain rfl := List.mem_singleton.mp hy
      exact hparl
  obtain ⟨hp, g, d, tk, os⟩ := s
  obtain ⟨nm, q, N, bs, bm, sn, sub, ab, col, dd, k0, k1, k2, k3, k5, hC, hbm⟩ := T.cls
  have X1 : K.In h₁ := X.keeps hk₁
  have hx1 : h₁.get? x = some (HandSPX.excO C t0) := hk₁ _ _ hx
  have hcl : clsIn K C = some { name := nm, bases := bs, mro := .ref C :: bm, ns := N, qualname := q, hasDict := true, slotNames := sn, subclasses := sub, abstract := ab, collection := col, hasDel := false } := by unfold clsIn; rw [hC] <;> rfl
  have hsup' : alongIn K "__init__" bm = some (some (.builtin "ValueError.__init__")) := by
    have z := hsup
    unfold ks_superIn at z
    rw [hcl, Option.bind_some] at z
    have e : ((Value.ref C :: bm).dropWhile (· != .ref C)).drop 1 = bm := ESX.drop_own C bm
    rw [e] at z
    exact z
  have hmS : ∀ y : Str, (fun z => ([("self", Value.ref x), (par, u)] : List (Str × Value)).reverse.lookup z) y = if y = par then some u else if y = "self" then some (.ref x) else none := fun y => by
    show List.lookup y [(par, u), ("self", Value.ref x)] = _
    by_cases e1 : y = par
    · subst e1; simp
    · rw [if_neg e1]
      have : (y == par) = false := by simpa using e1
      rw [List.lookup_cons, this]
      by_cases e2 : y = "self"
      · subst e2; simp
      · rw [if_neg e2]
        have : (y == ("self" : Str)) = false := by simpa using e2
        rw [List.lookup_cons, this]
        rfl
  have vself : ([("self", Value.ref x), (par, u)] : List (Str × Value)).reverse.lookup ("self" : Str) = some (.ref x) := by
    have z := hmS "self"
    have ne : ¬ (("self" : Str) = par) := fun e => by rw [← e] at hps; simp at hps
    rw [if_neg ne, if_pos rfl] at z
    exact z
  have vpar : ([("self", Value.ref x), (par, u)] : List (Str × Value)).reverse.lookup par = some u := by
    have z := hmS par
    rw [if_pos rfl] at z
    exact z
  have hxC : x ≠ C := fun z => by
    rw [z] at hx1
    have := X1 _ _ hC
    rw [hx1] at this
    cases this
  refine ks_wpAt_execs_cons (ks_wpAt_Expr_any (ks_wpAt_MethodCall ?_ (by
    have e1 : ∀ ov, methodCall (.Call (.Name "super" p0) [] [] p1) "__init__" p2 p4 (callEnv (fnX "__init__" qual params (initBody par f p0 p1 p2 p3 p4 p5 p6 p7 p8 p9) scope [("__class__", cc)] dV kV doc pm an (.ref cda) ct) hp.objs.size fI) ov 1 (backTo p4 (starEach [.Name par p3] (callEnv (fnX "__init__" qual params (initBody par f p0 p1 p2 p3 p4 p5 p6 p7 p8 p9) scope [("__class__", cc)] dV kV doc pm an (.ref cda) ct) hp.objs.size fI))) [] = _ := fun ov => mcall_line (by rfl) hl4
    show (do
      let ov ← attributeBase (.Call (.Name "super" p0) [] [] p1) "__init__" _ _
      standAt p2.atName
      methodCall (.Call (.Name "super" p0) [] [] p1) "__init__" p2 p4 _ ov 1 _ []) = _
    simp only [e1]
    rfl)) (by first | (unfold interactive; simp [callEnv, newEnv, hk]; done) | simp [interactive, Env.blockKind, callEnv, newEnv, hk]))
  refine ks_wpAt_super_base hks hkc (by decide) rfl (X1 _ _ lk) rfl hp0 rfl (X1 _ _ lcd) rfl hvs hfile htop ?_
  refine ks_loadName_global hk hks (loadGlobal_builtin (hgl.keeps hk₁) hmg (hbl.keeps hk₁) hmb ⟨rfl, ?_⟩)
  refine wpAny_loadName_free hk hkc rfl ⟨_, X1 _ _ lcc, rfl⟩ ?_
  rw [har]
  refine wpAny_loadName_local hk hself hns vself ?_
  refine ks_wpAny_isType_cls (X1 _ _ hC) rfl ⟨rfl, ?_⟩
  refine ks_wpAny_call_super (X1 _ _ hC) rfl hx1 rfl (fun c z => nomatch z) (looks_mroIn X1 hCC) (fun h2 hso k2 => ?_)
  have X2 : K.In h2 := X1.keeps k2
  have hx2 := k2 _ _ hx1
  have I2 : InstAt h2 x (HandSPX.excO C t0) C none := ⟨hx2, rfl, rfl, trivial⟩
  refine kxs_getMethod kxs_ValueError hso (looks_opaque X2 hany) (l₀ := .ref C :: bm) ((looks_clsIn X2 hcl).andThen .now) (ESX.drop_own C bm) X2 hsup' (I2.type.andThen (looks_subIn X2 hB)) hxC (by decide) ?_
  have k3 : ∀ b o, h2.get? b = some o → (h2.push (kxs_mw "ValueError.__init__" x)).get? b = some o := fun b o e => Heap.get?_push_of_some _ e
  have hm3 : (h2.push (kxs_mw "ValueError.__init__" x)).get? h2.objs.size = some (bwV x) := Heap.get?_push_size _ rfl
  have X3 : K.In (h2.push (kxs_mw "ValueError.__init__" x)) := X2.keeps k3
  have hns3 := hns.keeps (fun b o e => k3 b o (k2 b o e))
  refine callWith_bwV (x := x) (Calls.spliced_cons ?_)
  refine wpAny_Name (wpAny_loadName_local hk hparl hns3 vpar ?_) hpd
  refine Calls.spliced_nil ⟨hm3, ?_⟩
  refine call_bwV (X3 _ _ hC) (k3 _ _ hx2) hm3 (show 1 ≤ sizeLine by decide) fun h4 t1 k4 hx4 => ?_
  show _root_.PySem.wpAt _ _ _ _ _ _ _
  have kk : ∀ b o, b ≠ x → hp.get? b = some o → h4.get? b = some o := fun b o hb e => k4 b o hb (k3 _ _ (k2 _ _ (hk₁ _ _ e)))
  have xL : hp.objs.size ≠ x := Nat.ne_of_gt (Heap.lt_size hx)
  have hns4 : h4.Ns hp.objs.size (fun z => ([("self", Value.ref x), (par, u)] : List (Str × Value)).reverse.lookup z) := by
    obtain ⟨oL, es, ep, hL, r⟩ := hns
    exact ⟨oL, es, ep, k4 _ _ xL (k3 _ _ (k2 _ _ hL)), r⟩
  refine ks_wpAt_execs_cons (ks_wpAt_Assign_Attr (wpAt_of_wpAny ?_))
  refine wpAny_Name (wpAny_loadName_local hk hparl hns4 vpar ?_) hpd
  refine wpAny_Name (wpAny_loadName_local hk hself hns4 vself ?_) (by decide)
  have kC : ∀ b o, K.lookup b = some o → h4.get? b = some o := fun b o e => k4 b o (fun z => hxK o (z ▸ e)) (X3 _ _ e)
  have szL : hp.objs.size ≤ h4.objs.size := by
    obtain ⟨oL, _, _, hL, _⟩ := hns4
    exact Nat.le_of_lt (Heap.lt_size hL)
  have X4 : K.In h4 := kC
  refine set_plain X4 (ox := HandSPX.excO C t1) (od := none) ⟨hx4, rfl, rfl, trivial⟩ T.sa ?_
  refine HandSPX.exc_osa X4 hx4 hcl (show HandSPX.refsVE (.ref C :: bm) = true from hbm) rfl hno (fun h' tk' dx k dn dne hx5 hn => ?_)
  refine wpAt_of_wpAny (wpAny_execs_nil ?_)
  exact hq h' dx t1 _ (fun b o hb e => k b o hb (kk b o hb e)) (Nat.le_trans szL dn) dne hx5 hn
end
/-- what K holds of a class whose __init__ says super().__init__(p); self.f = p -/
structure InitC (K : PySem.W.Frag) (file : Str) (C fI : Addr) (par f : Str) (params : Arguments) (body : List Stmt) (scope : Scope) (fd : FuncData) : Prop where
  T : OexC K C
  iC : PySem.W.findIn K (.ref C) "__init__" = some (some (.ref fI))
  tI : PySem.W.typeIn K (.ref fI) = some (.type "function")
  lk : ∃ (oc : Value) (od : Option Addr) (qual : Str) (kV doc pm : Value) (an : Option Addr) (cda : Addr) (ct : Value) (cc : Addr) (osl : Array (Option Value)) (ccl : Value) (cdd : Option Addr) (vs : Array Value) (ccs : Array (Option Value)) (tf : Tok) (cl : Value) (cld : Option Addr) (csl : Array (Option Value)),
    fd = PySem.W.fnX "__init__" qual params body scope [("__class__", cc)] .none kV doc pm an (.ref cda) ct ∧ K.lookup fI = some ⟨oc, od, .func fd, osl⟩ ∧ PySem.W.codeIn K (.ref cda) qual = true ∧ K.lookup cda = some ⟨ccl, cdd, .fields vs, ccs⟩ ∧ vs[2]? = some (.str file tf) ∧ K.lookup cc = some ⟨cl, cld, .cell (some (.ref C)), csl⟩
  any : PySem.W.nsIn K cStatics "thirdparty.any" = some none
  sup : PySem.W.ks_superIn K C C "__init__" = some (some (.builtin "ValueError.__init__"))
  vB : PySem.W.subIn K (.ref C) (.type "ValueError") = some true
  cC : PySem.W.mroIn K C (.ref C) = some true
  no : PySem.W.findIn K (.ref C) f = some none
/-- the form of its text -/
structure InitF (par f : Str) (params : Arguments) (body : List Stmt) (scope : Scope) : Prop where
  bd : ∃ p0 p1 p2 p3 p4 p5 p6 p7 p8 p9 : Pos, body = initBody par f p0 p1 p2 p3 p4 p5 p6 p7 p8 p9 ∧ (p2.endLine == p4.line) = true
  ks : scope.names.lookup ("super" : Str) = some .globalImplicit
  kc : scope.names.lookup ("__class__" : Str) = some .free
  self : scope.names.lookup ("self" : Str) = some .local
  parl : scope.names.lookup par = some .local
  cell : ∀ y ∈ scope.names, y.2 ≠ .cell
  co : scope.isCoroutine = false
  gen : scope.isGenerator = false
  k : scope.kind = .function
  ps : (par == ("self" : Str)) = false
  pd : (par == ("__debug__" : Str)) = false
  p0 : ∃ ar, (params.posonlyargs ++ params.args).head? = some ar ∧ ar.arg = ("self" : Str)
  bind : ∀ (qual : Str) (cl : List (Str × Addr)) (kV doc pm : Value) (an : Option Addr) (cdv ct : Value) (us : List Value), us.length = 2 → bindArgs (PySem.W.fnX "__init__" qual params body scope cl .none kV doc pm an cdv ct) ⟨us, []⟩ = pure ([("self" : Str), par].zip us)
def spInit (C : Addr) (f : Str) : Sp := fun vs H Q E => ∃ (a : Addr) (y : V), vs = [.ref a, y] ∧ H a = some (exo a C none) ∧ ∀ dx, H dx = none → dx ≠ a → Q .non (upd (upd H dx (exd dx [(f, y)])) a (exo a C (some dx)))
theorem init_ok {P : Program} {w : World} {K : PySem.W.Frag} {mg : Str → Option Value} {base : Heap} {k : Nat} {C fI : Addr} {par f : Str} {params : Arguments} {body : List Stmt} {scope : Scope} {fd : FuncData} (IC : InitC K P.main.file C fI par f params body scope fd) (IF : InitF par f params body scope)
    (hmg : mg "super" = none) (htop : (P.main.scope.names.lookup ("super" : Str)).isSome = false) : FnOk P w K mg base C8.CX0 (k + 1) fI fd ["self", par] (spInit C f) := by
  obtain ⟨oc, od, qual, kV, doc, pm, an, cda, ct, cc, osl, ccl, cdd, vs, ccs, tf, cl, cld, csl, rfl, lk, hcd, lcd, hvs, lcc⟩ := IC.lk
  obtain ⟨p0, p1, p2, p3, p4, p5, p6, p7, p8, p9, rfl, hl4⟩ := IF.bd
  obtain ⟨ar, hp0, har⟩ := IF.p0
  refine ⟨fun vs H Q E ⟨a, y, e, _⟩ => by rw [e]; rfl, fun A outer s H args us vs0 Q E hr e0 hb r hsp => ?_⟩
  obtain ⟨a, y, rfl, ea, hq⟩ := hsp
  cases r with
  | @cons _ u0 _ ur ra rr =>
    obtain rfl : u0 = Value.ref a := ra
    cases rr with
    | @cons _ u _ _ ry rr =>
      cases rr
      have KX : K.In s.heap := e0.mod.kin.keeps fun b o e => (e0.bs b o e).1
      have kb : ∀ b o, base.get? b = some o → s.heap.get? b = some o := fun b o e => (e0.bs b o e).1
      obtain ⟨mb, h1, h2⟩ := e0.mod.blt
      obtain ⟨t1, hx⟩ := exo_at e0.hok ea
      refine init_heap (mb := mb) KX (e0.mod.nolimit.keeps kb) (e0.mod.glob.keeps kb) hmg (h1.keeps kb) ((h2 "super" (by decide)).trans PyProof.Rows.Boot.«super») IC.T lk hcd lcd hvs (beq_self_eq_true _) lcc htop IC.any IC.sup IC.vB IC.cC IC.no
        IF.ks IF.kc IF.self IF.parl IF.cell IF.co IF.gen IF.k hl4 IF.ps IF.pd hp0 har hr.depth hx (fun o e => ?_) hb fun h' dx t2 tk' k dn dne hx' hn => ?_
      · have z := (e0.bs _ _ (e0.mod.kin _ _ e)).2
        rw [ea] at z
        cases z
      obtain ⟨hp, g, d, t, os⟩ := s
      have hnd : H dx = none := e0.hok.fresh dn
      have nd : ∀ {b : Addr} {o : Obj}, hp.get? b = some o → b ≠ dx := fun {b o} q => Nat.ne_of_lt (Nat.lt_of_lt_of_le (Heap.lt_size q) dn)
      have na : ∀ {b : Addr}, H b = none → b ≠ a := fun {b} n z => by
        rw [z, ea] at n
        cases n
      have Un1 : Un (frs outer) [] H (upd (upd H dx (exd dx [(f, y)])) a (exo a C (some dx))) hp h' := {
        keep := fun b o q n _ _ => k b o (na n) q
        slot := fun b o q n _ _ => ⟨o.slots, k b o (na n) q⟩
        free := fun b o q n _ => by rw [upd_ne (na n), upd_ne (nd q)]; exact n
        there := fun b o q _ => by
          by_cases hb : b = a
          · exact ⟨_, by rw [hb]; exact hx'⟩
          · exact ⟨o, k b o hb q⟩
        tups := fun b xs q => by rw [upd_ne (at_ne ea q exo_tup), upd_ne (ne_of_none q hnd)]; exact q
        frzs := fun b o v q => by rw [upd_ne (at_ne ea q exo_frz), upd_ne (ne_of_none q hnd)]; exact q
        tbls := fun b ps q => ⟨#[], by rw [upd_ne (at_ne ea q exo_tbl), upd_ne (ne_of_none q hnd), q]; simp⟩ }
      refine ⟨.non, _, rfl, e0.bare, Un1, fun b o q => ?_, rfl, hq dx hnd dne⟩
      by_cases hb : b = a
      · subst hb
        rw [upd_same] at q
        cases q
        exact exo_ok hx'
      · rw [upd_ne hb] at q
        by_cases hd : b = dx
        · subst hd
          rw [upd_same] at q
          cases q
          exact exd_ok hn (relO_put (fs := []) ry fun g => True.intro)
        · rw [upd_ne hd] at q
          exact (e0.hok b o q).stay (fun c v hc z => k c v (by
              rcases hc with hc | hc
              · rw [hc]
                exact hb
              · exact at_ne ea hc exo_own) z)
            (fun c hc => by rw [upd_ne (at_ne ea hc exo_own), upd_ne (ne_of_none hc hnd)]; exact hc) (fun c xs hc => by rw [upd_ne (at_ne ea hc exo_tup), upd_ne (ne_of_none hc hnd)]; exact hc)
end DI

set_option Elab.async false
set_option linter.all false
set_option maxRecDepth 100000
set_option maxHeartbeats 4000000
/-! DI26: raise C(e), C with such an __init__; e.f of an exception that is kept as a value. -/
namespace DI
open PySem PySem.Spec PyProof.Rows L2
noncomputable def sRaiseI (c f : Str) (a : EvE) : EvS := fun env M => (a env M).thenS env fun d M1 => .err c [f] [d] env M1
def cExF (ok : Str → Bool) (f : Str) (a : EvE) : EvE := fun env M => (a env M).bind fun d M1 => match d with
  | .exc c ns vs => if ok c = true then (match (ns.zip vs).lookup f with
    | some v => .ok v M1
    | none => .stuck) else .stuck
  | _ => .stuck
section
variable {G : Gb} {W : WX} {own : Option (List (Str × Addr))} {X : Cx} {pos p : Pos}
theorem psd_raiseI {C fI : Addr} {k : Nat} {par f x : Str} {params : Arguments} {body : List Stmt} {scope : Scope} {fd : FuncData} {e : Expr} {a : EvE} {pos' : Pos} (hX : XG G X) (tk : Takes X W) (IC : InitC X.K X.prog.main.file C fI par f params body scope fd) (IF : InitF par f params body scope)
    (hsu : X.mg "super" = none) (htop : (X.prog.main.scope.names.lookup ("super" : Str)).isSome = false) (gC : X.mg x = some (.ref C)) (hr : Room (k + 2) X.A) (hg : Gl X x) (ha : PE X e (tE G W own a)) (hdb : (x == ("__debug__" : Str)) = false := by decide)
    (he : starEach [e] X.env = (false, eval e X.env) :: starEach [] X.env := by rfl) (hpl : (backTo pos (starEach [] X.env)).any (·.1) = false := by rfl) :
    PS X (.Raise (some (.Call (.Name x p) [e] [] pos)) none pos') (tS G W own (sRaiseI x f a)) := by
  have hb : Binds X.K fd ["self", par] [] := by
    obtain ⟨oc, od, qual, kV, doc, pm, an, cda, ct, cc, osl, ccl, cdd, vs, ccs, tf, cl, cld, csl, rfl, _⟩ := IC.lk
    exact .all fun us hl => IF.bind qual _ kV doc pm an _ ct us hl
  refine PS_imp (ps_raise hX.calm tk (pmk_oex (CX := C8.CX0) (k := k + 1) IC.T IC.iC IC.tI (init_ok IC IF hsu htop) hr hb .nil C8.pass0 hg gC (pa_cons ha pa_nil (hs := he)) hdb he hpl)) fun σ H D h => ?_
  obtain ⟨w, env, M, S, E, h⟩ := h
  refine tG_thenS (g := fun (d : DI.D) M1 => RS.err x [f] [d] env M1) S E h fun d M1 w1 H1 v l1 S1 E1 r1 h1 => ?_
  refine ⟨by show 1 ≤ 1000; omega, fun b nb => ⟨b, v, rfl, upd_same, fun dx ndx ne => ⟨rfl, dx, [(f, v)], upd_same, ?_, ?_, ?_⟩⟩⟩
  · rw [upd_ne ne, upd_same]
  · rw [upd_ne ne] at ndx; exact ndx
  · rw [upd_ne ne] at ndx
    have eH : upd (del (upd (upd (upd H1 b (exo b C none)) dx (exd dx [(f, v)])) b (exo b C (some dx))) b) dx (.xd [(f, v)]) = upd H1 dx (.xd [(f, v)]) := by
      funext q
      by_cases hq : q = dx
      · subst hq; rw [upd_same, upd_same]
      · rw [upd_ne hq, upd_ne hq]
        by_cases hb : q = b
        · subst hb; rw [del_same, nb]
        · rw [del_ne hb, upd_ne hb, upd_ne hq, upd_ne hb]
    rw [eH]
    have l2 := Le.addZ (o := HO.xd [(f, v)]) (S1.zfree ndx)
    refine h1 (w1.addZ dx (.xd [(f, v)])) _ C (some dx) σ l2 (S1.addZ ndx) (E1.mono l2) ⟨by rw [← hX.mg]; exact gC, rfl, .inr ⟨dx, [v], rfl, upd_same, .cons (r1.mono l2.toR) .nil⟩⟩
theorem pd_exf {ok : Str → Bool} {f : Str} {e : Expr} {a : EvE} (hX : XG G X) (hok : ∀ c, ok c = true → ∀ C, G.mg c = some (.ref C) → XfC X.K C ∧ PySem.W.findIn X.K (.ref C) f = some none) (ha : PE X e (tE G W own a))
    (hb : attributeBase e f X.env (eval e X.env) = eval e X.env := by rfl) : PE X (.Attribute e f pos) (tE G W own (cExF ok f a)) := by
  refine ⟨fun pins s σ H Q I h => ?_⟩
  obtain ⟨w, env, M, S, E, h⟩ := h
  refine attr_of hb (thn (ha.run pins s σ H (fun v H1 => ∃ w1 M1 d, Sim0 G w1 H1 M1 ∧ Rep G w1 d v ∧ OkE G W σ w1 (match d with
    | .exc c ns vs => if ok c = true then (match (ns.zip vs).lookup f with
      | some v => .ok v M1
      | none => .stuck) else .stuck
    | _ => .stuck) Q) I ?_) fun u s1 ⟨v, H1, I1, r1, w1, M1, d, S1, rd, h1⟩ => ?_)
  · exact tG_bind (g := fun d M1 => match d with
      | .exc c ns vs => if ok c = true then (match (ns.zip vs).lookup f with
        | some v => .ok v M1
        | none => .stuck) else .stuck
      | _ => .stuck) S E h fun d M1 w1 H1 v l1 S1 E1 r1 h1 => ⟨w1, M1, d, S1, r1, h1⟩
  cases rd with
  | @exc c ns vs x C fvs hm hx rf hl =>
    simp only at h1
    split at h1
    · rename_i hc
      obtain ⟨T, hno⟩ := hok c hc C hm
      obtain rfl : u = Value.ref x := r1
      cases el : (ns.zip vs).lookup f with
      | none => rw [el] at h1; exact h1.elim
      | some dv =>
        rw [el] at h1
        obtain ⟨d, e1, q⟩ := hx
        rcases q with ⟨rfl, rfl⟩ | ⟨dd, rfl, e2⟩
        · exact absurd el (by simp)
        · have look : ∀ {ns : List Str} {vs : List D} {fvs : List V}, Reps G w1 vs fvs → (ns.zip vs).lookup f = some dv → ∃ v, (ns.zip fvs).lookup f = some v ∧ Rep G w1 dv v := by
            intro ns
            induction ns with
            | nil => intro vs fvs _ z; simp at z
            | cons n ns ih =>
              intro vs fvs r z
              cases r with
              | nil => simp at z
              | @cons d0 ds v0 vs0 a b =>
                rw [List.zip_cons_cons, List.lookup_cons] at z
                rw [List.zip_cons_cons, List.lookup_cons]
                cases q : (f == n) with
                | true => rw [q] at z; cases z; exact ⟨_, rfl, a⟩
                | false => rw [q] at z; exact ih b z
          obtain ⟨v, l, rv⟩ := look rf el
          obtain ⟨⟨oe, he, hz, fv, hd⟩, _, _⟩ := (S1.z _ _ e1).ok I1.hok
          obtain ⟨mA, hns, hr⟩ := (S1.z _ _ e2).ok I1.hok
          obtain ⟨od, ho, hlk⟩ := lookIn_ns hns
          obtain ⟨u, hu, ru⟩ := RelO.some_of (v := v) (o := mA f) (by rw [← l]; exact hr f)
          have J : PySem.W.InstAt s1.heap x oe C (some od) := ⟨he, hz.1, by unfold PySem.W.notCls; rw [hd] <;> rfl, by rw [hz.2]; exact ho⟩
          exact HandSPX.exc_get I1.kIn J T.ga T.gg T.exC (PySem.W.findObj_own T.hdC hno rfl (by rw [hlk, hu])) (handed_of ru) ⟨v, H1, I1.tok _, ru, h1 _ _ _ (Le.refl _) S1 rv⟩
    · exact h1.elim
  | _ => exact h1.elim
end
end DI

set_option Elab.async false
set_option linter.all false
set_option maxRecDepth 100000
set_option maxHeartbeats 4000000
/-! DI27: the head's Hook, told of classes with such an __init__, too. -/
namespace DI
open PySem PySem.Spec PyProof.Rows L2
structure IniD where
  cls : Str
  qual : Str
  par : Str
  f : Str
  params : Arguments
  body : List Stmt
  scope : Scope
abbrev FnWI : Type := Option (Str × Str × Arguments × FuncBody × Scope × Addr × List Str × Addr)
def IniD.val (d : IniD) : FnWI := some ("__init__", d.qual, d.params, .stmts d.body, d.scope, mainGlobals, ["__class__"], builtinsNs)
abbrev iAd (K : PySem.W.Frag) (d : IniD) : Addr := He.fAd K (d.cls, some "__init__")
def fnWI (K : PySem.W.Frag) (d : IniD) : FnWI := match K.lookup (iAd K d) with
  | some ⟨_, _, .func fd, _⟩ => some (fd.name, fd.qualname, fd.params, fd.body, fd.scope, fd.globals, fd.closure.map (·.1), fd.builtins)
  | _ => none
def clsIB (K : PySem.W.Frag) (C : Addr) : Bool := match K.lookup C with
  | some ⟨.type "type", _, .cls cd, sl⟩ => (match cd.mro, sl.toList with
    | .ref C' :: bm, [_, _, _, _, some (.builtin n), _] => C' == C && n == "ValueError.__new__" && !cd.hasDel && cd.hasDict && HandSPX.refsVE bm
    | _, _ => false)
  | _ => false
theorem clsIB_ok {K : PySem.W.Frag} {C : Addr} (q : clsIB K C = true) : ∃ nm q N bs bm sn sub ab col dd k0 k1 k2 k3 k5, K.lookup C = some (excClassObj nm q C N bs bm true sn sub ab col dd k0 k1 k2 k3 k5 "ValueError.__new__") ∧ PySem.HandSPX.refsVE bm = true := by
  unfold clsIB at q
  split at q
  · rename_i dd cd sl ho
    split at q
    · rename_i C' bm k0 k1 k2 k3 n k5 hm hs
      simp only [Bool.and_eq_true, beq_iff_eq, Bool.not_eq_true'] at q
      obtain ⟨⟨⟨⟨rfl, rfl⟩, hdel⟩, hdct⟩, ht⟩ := q
      obtain ⟨nm, bs, mro, ns, qn, hd, sn, sub, ab, col, del⟩ := cd
      dsimp only at hm hdel hdct
      subst hm hdel hdct
      have hsl : sl = #[k0, k1, k2, k3, some (.builtin "ValueError.__new__"), k5] := by
        obtain ⟨l⟩ := sl
        exact congrArg Array.mk hs
      subst hsl
      exact ⟨nm, qn, ns, bs, bm, sn, sub, ab, col, dd, k0, k1, k2, k3, k5, ho, ht⟩
    · cases q
  · cases q
def fdIB (K : PySem.W.Frag) (file qual : Str) (C : Addr) (fd : FuncData) : Bool := match fd.defaults, fd.code, fd.closure with
  | .none, .ref cda, [(_, cc)] => PySem.W.codeIn K (.ref cda) qual && ((match K.lookup cda with
    | some ⟨_, _, .fields vs, _⟩ => (match (vs[2]? : Option Value) with
      | some (Value.str fl _) => decide (fl = file)
      | _ => false)
    | _ => false) && (match K.lookup cc with
    | some ⟨_, _, .cell (some (.ref D)), _⟩ => decide (D = C)
    | _ => false))
  | _, _, _ => false
theorem fdIB_ok {K : PySem.W.Frag} {file qual : Str} {C : Addr} {fd : FuncData} (h : fdIB K file qual C fd = true) : ∃ (cda cc : Addr) (x : Str) (ccl : Value) (cdd : Option Addr) (vs : Array Value) (ccs : Array (Option Value)) (tf : Tok) (cl : Value) (cld : Option Addr) (csl : Array (Option Value)),
    fd.defaults = .none ∧ fd.code = .ref cda ∧ fd.closure = [(x, cc)] ∧ PySem.W.codeIn K (.ref cda) qual = true ∧ K.lookup cda = some ⟨ccl, cdd, .fields vs, ccs⟩ ∧ vs[2]? = some (.str file tf) ∧ K.lookup cc = some ⟨cl, cld, .cell (some (.ref C)), csl⟩ := by
  unfold fdIB at h
  cases e1 : fd.defaults with
  | none =>
    rw [e1] at h
    cases e2 : fd.code with
    | ref cda =>
      rw [e2] at h
      cases e3 : fd.closure with
      | nil => rw [e3] at h; cases h
      | cons p r =>
        rw [e3] at h
        obtain ⟨x, cc⟩ := p
        cases r with
        | cons _ _ => cases h
        | nil =>
          obtain ⟨c1, h⟩ := He.ba h
          obtain ⟨c2, c3⟩ := He.ba h
          cases q1 : K.lookup cda with
          | none => rw [q1] at c2; cases c2
          | some o1 =>
            obtain ⟨ccl, cdd, dt, ccs⟩ := o1
            rw [q1] at c2
            cases dt with
            | fields vs =>
              have c2 : (match (vs[2]? : Option Value) with
                | some (Value.str fl _) => decide (fl = file)
                | _ => false) = true := c2
              cases q2 : (vs[2]? : Option Value) with
              | none => rw [q2] at c2; cases c2
              | some v =>
                rw [q2] at c2
                cases v with
                | str fl tf =>
                  have ef : fl = file := of_decide_eq_true c2
                  cases q3 : K.lookup cc with
                  | none => rw [q3] at c3; cases c3
                  | some o3 =>
                    obtain ⟨cl, cld, dt3, csl⟩ := o3
                    rw [q3] at c3
                    cases dt3 with
                    | cell v3 =>
                      cases v3 with
                      | none => cases c3
                      | some v4 =>
                        cases v4 with
                        | ref D' =>
                          have ed : D' = C := of_decide_eq_true c3
                          rw [ed] at q3
                          rw [ef] at q2
                          exact ⟨cda, cc, x, ccl, cdd, vs, ccs, tf, cl, cld, csl, rfl, rfl, rfl, c1, q1, q2, q3⟩
                        | _ => cases c3
                    | _ => cases c3
                | _ => cases c2
            | _ => cases c2
    | _ => rw [e2] at h; cases h
  | _ => rw [e1] at h; cases h
def initB (file : Str) (K : PySem.W.Frag) (d : IniD) : Bool :=
  clsIB K (He.ga K d.cls) && (decide (PySem.W.findIn K (.ref (He.ga K d.cls)) "__setattr__" = some (some (.builtin "object.__setattr__"))) && (decide (PySem.W.subIn K (.ref (He.ga K d.cls)) (.type "BaseException") = some true) &&
  (decide (PySem.W.typeIn K (.ref (He.ga K d.cls)) = some (.type "type")) && (PySem.W.keepIn K (.ref (He.ga K d.cls)) && (decide (PySem.W.findIn K (.ref (He.ga K d.cls)) "__init__" = some (some (.ref (iAd K d)))) &&
  (decide (PySem.W.typeIn K (.ref (iAd K d)) = some (.type "function")) && ((match K.lookup (iAd K d) with
    | some ⟨_, _, .func fd, _⟩ => fdIB K file d.qual (He.ga K d.cls) fd
    | _ => false) && (decide (PySem.W.nsIn K cStatics "thirdparty.any" = some none) && (decide (PySem.W.ks_superIn K (He.ga K d.cls) (He.ga K d.cls) "__init__" = some (some (.builtin "ValueError.__init__"))) &&
  (decide (PySem.W.subIn K (.ref (He.ga K d.cls)) (.type "ValueError") = some true) && (decide (PySem.W.mroIn K (He.ga K d.cls) (.ref (He.ga K d.cls)) = some true) && (decide (PySem.W.findIn K (.ref (He.ga K d.cls)) d.f = some none) && xfB K (He.ga K d.cls)))))))))))))
theorem initB_ok {file : Str} {K : PySem.W.Frag} {d : IniD} (h : initB file K d = true) (e : fnWI K d = d.val) : (∃ fd, InitC K file (He.ga K d.cls) (iAd K d) d.par d.f d.params d.body d.scope fd) ∧ XfC K (He.ga K d.cls) ∧ PySem.W.findIn K (.ref (He.ga K d.cls)) d.f = some none := by
  unfold initB at h
  simp only [Bool.and_eq_true, decide_eq_true_eq] at h
  obtain ⟨h1, h2, h3, h4, h5, h6, h7, h8, h9, h10, h11, h12, h13, h14⟩ := h
  refine ⟨?_, xfB_ok h14, h13⟩
  unfold fnWI at e
  cases q : K.lookup (iAd K d) with
  | none => rw [q] at h8; cases h8
  | some o =>
    obtain ⟨oc, od, dt, osl⟩ := o
    rw [q] at h8 e
    cases dt with
    | func fd =>
      obtain ⟨n1, n2, n3, n4, n5, n6, n7, n8, n9, n10, n11, n12, n13, n14, n15⟩ := fd
      have e2 : (some (n1, n2, n3, n4, n5, n6, n7.map (·.1), n15) : FnWI) = (some (("__init__" : Str), d.qual, d.params, FuncBody.stmts d.body, d.scope, mainGlobals, [("__class__" : Str)], builtinsNs) : FnWI) := e
      simp only [Option.some.injEq, Prod.mk.injEq] at e2
      obtain ⟨g1, g2, g3, g4, g5, g6, g7, g8⟩ := e2
      subst g1 g2 g3 g4 g5 g6 g8
      obtain ⟨cda, cc, x, ccl, cdd, vs, ccs, tf, cl, cld, csl, hx1, hx2, hx3, c1, lcd, hvs, lcc⟩ := fdIB_ok (show fdIB K file d.qual (He.ga K d.cls) _ = true from h8)
      dsimp only at hx1 hx2 hx3
      subst hx1 hx2 hx3
      have gx : x = "__class__" := by simpa using g7
      subst gx
      exact ⟨_, ⟨clsIB_ok h1, h2, h3, h4, h5⟩, h6, h7, ⟨oc, od, d.qual, n9, n10, n11, n12, cda, n14, cc, osl, ccl, cdd, vs, ccs, tf, cl, cld, csl, rfl, q, c1, lcd, hvs, lcc⟩, h9, h10, h11, h12, h13⟩
    | _ => cases h8
/-! ### the Hook -/
def asI (g : Addr → Option Obj) (n : Nat) : List Addr := cStatics :: He.asD g n
abbrev AlI : Type := He.AlX × List FnWI
def obsI (n : Nat) (fa : List He.Fa) (fn : List He.DefD) (tf : List He.Defn) (ex : PySem.W.Frag → Bool) (ini : List IniD) (g : Addr → Option Obj) : AlI :=
  ((He.obsT fa fn [] (He.frT g (asI g n)), ex (He.frT g (asI g n)) && He.tabsB g tf (He.frT g (asI g n))), ini.map (fnWI (He.frT g (asI g n))))
def valI (fn : List He.DefD) (ini : List IniD) (w : World) : AlI := (He.valX fn [] w, ini.map IniD.val)
structure SaysI (fa : List He.Fa) (fn : List He.DefD) (tf : List He.Defn) (ex : PySem.W.Frag → Bool) (ini : List IniD) (w : World) (h : Heap) (K : PySem.W.Frag) : Prop where
  x : He.SaysX fa fn [] tf ex w h K
  ini : ini.map (fnWI K) = ini.map IniD.val
theorem saysI_of {n : Nat} {fa : List He.Fa} {fn : List He.DefD} {tf : List He.Defn} {ex : PySem.W.Frag → Bool} {ini : List IniD} {w : World} {h : Heap} (e : obsI n fa fn tf ex ini h.get? = valI fn ini w) : SaysI fa fn tf ex ini w h (He.frT h.get? (asI h.get? n)) := by
  have e1 : He.obsT fa fn [] (He.frT h.get? (asI h.get? n)) = He.valT fn [] w := congrArg (fun z : AlI => z.1.1) e
  have e2 : (ex (He.frT h.get? (asI h.get? n)) && He.tabsB h.get? tf (He.frT h.get? (asI h.get? n))) = true := congrArg (fun z : AlI => z.1.2) e
  have e3 : ini.map (fnWI (He.frT h.get? (asI h.get? n))) = ini.map IniD.val := congrArg (fun z : AlI => z.2) e
  obtain ⟨h1, h2⟩ := He.ba e2
  have key : ∀ p ∈ tf, PySem.W.codeHdIn (He.frT h.get? (asI h.get? n)) (He.cT (He.frT h.get? (asI h.get? n)) p).1 (He.cT (He.frT h.get? (asI h.get? n)) p).2 = true ∧ ∃ o, h.get? (He.cT (He.frT h.get? (asI h.get? n)) p).2 = some o ∧ He.emptyTab o = true := fun p hp => by
    obtain ⟨h3, h4⟩ := He.ba (List.all_eq_true.mp h2 p hp)
    refine ⟨h3, ?_⟩
    cases q : h.get? (He.cT (He.frT h.get? (asI h.get? n)) p).2 with
    | none => rw [q] at h4; cases h4
    | some o => rw [q] at h4; exact ⟨o, rfl, h4⟩
  exact ⟨⟨e1, h1, fun p hp => (key p hp).1, fun p hp => by
    obtain ⟨_, o, q, z⟩ := key p hp
    exact He.frT_none q z, fun p hp => by
    obtain ⟨_, o, q, z⟩ := key p hp
    rw [q, He.emptyTab_eq z]⟩, e3⟩
def hookI (n : Nat) (fa : List He.Fa) (fn : List He.DefD) (tf : List He.Defn) (ex : PySem.W.Frag → Bool) (ini : List IniD) : PySem.W.Hook where
  α := AlI
  obs := fun s => obsI n fa fn tf ex ini s.heap.get?
  val := fun w => valI fn ini w
  says := fun w h => ∃ K : PySem.W.Frag, K.In h ∧ SaysI fa fn tf ex ini w h K
  of := fun _ _ e => ⟨_, He.frT_in, saysI_of e⟩
  keeps := fun _ _ _ ⟨K, hK, c⟩ k => ⟨K, PySem.W.Frag.In.keeps hK k, ⟨⟨c.x.t, c.x.more, c.x.hd, c.x.out, fun p hp => k _ _ (c.x.empty p hp)⟩, c.ini⟩⟩
theorem obsI_eq {n : Nat} {fa : List He.Fa} {fn : List He.DefD} {tf : List He.Defn} {ex : PySem.W.Frag → Bool} {ini : List IniD} {g : Addr → Option Obj} {s : Shared} (h : ∀ a, g a = s.heap.get? a) : obsI n fa fn tf ex ini g = (hookI n fa fn tf ex ini).obs s := by
  have e : g = s.heap.get? := funext h
  rw [e] <;> rfl
theorem SaysI.at {fa : List He.Fa} {fn : List He.DefD} {tf : List He.Defn} {ex : PySem.W.Frag → Bool} {ini : List IniD} {w : World} {h : Heap} {K : PySem.W.Frag} (c : SaysI fa fn tf ex ini w h K) (i : Nat) {d : IniD} (e : ini[i]? = some d) : fnWI K d = d.val := by
  have z : (ini.map (fnWI K))[i]? = (ini.map IniD.val)[i]? := by rw [c.ini]
  rw [List.getElem?_map, List.getElem?_map, e] at z
  exact Option.some.inj z
end DI

set_option Elab.async false
set_option linter.all false
set_option maxRecDepth 100000
set_option maxHeartbeats 4000000
/-! DI28: own errors with __init__, as a program prints them; defs with lambdas that cut the memory. -/
namespace DI
open PySem PySem.Spec PyProof.Rows L2
def clsInit (s : Stmt) (k : Nat) : Stmt := match s with
  | .ClassDef _ _ _ b .. => b.getD k (.Pass ⟨0, 0, 0, 0⟩)
  | _ => .Pass ⟨0, 0, 0, 0⟩
structure IniF (P : Program) (K : PySem.W.Frag) (mg : Str → Option Value) (x par f : Str) (st : Stmt) : Prop where
  ex : ∃ (C fI : Addr) (fd : FuncData), mg x = some (.ref C) ∧ InitC K P.main.file C fI par f (defArgs st) (defBody st) (defScope st) fd ∧ XfC K C ∧ PySem.W.findIn K (.ref C) f = some none
def okAt (x : Str) (c : Str) : Bool := c == x
def okOr (a b : Str → Bool) (c : Str) : Bool := a c || b c
section
variable {G : Gb} {W : WX} {own : Option (List (Str × Addr))} {X : Cx} {pos p : Pos}
def FldOk (G : Gb) (K : PySem.W.Frag) (f : Str) (ok : Str → Bool) : Prop := ∀ c, ok c = true → ∀ C, G.mg c = some (.ref C) → XfC K C ∧ PySem.W.findIn K (.ref C) f = some none
theorem IniF.fld {P : Program} {K : PySem.W.Frag} {mg : Str → Option Value} {x par f : Str} {st : Stmt} (i : IniF P K mg x par f st) (hm : mg = G.mg) : FldOk G K f (okAt x) := fun c hc C hC => by
  obtain ⟨C', fI, fd, h1, h2, h3, h4⟩ := i.ex
  have e : c = x := eq_of_beq hc
  subst e
  rw [← hm, h1] at hC
  cases hC
  exact ⟨h3, h4⟩
theorem FldOk.or {K : PySem.W.Frag} {f : Str} {a b : Str → Bool} (h : FldOk G K f a) (k : FldOk G K f b) : FldOk G K f (okOr a b) := fun c hc C hC => by
  unfold okOr at hc
  rcases Bool.or_eq_true_iff.mp hc with hc | hc
  · exact h c hc C hC
  · exact k c hc C hC
theorem qRaiseI {x par f : Str} {st : Stmt} {e : Expr} {a : EvE} {p pos' : Pos} {k' : Nat} (c : IniF X.prog X.K X.mg x par f st) (IF : InitF par f (defArgs st) (defBody st) (defScope st)) (hs : X.mg "super" = none) (ht : (X.prog.main.scope.names.lookup ("super" : Str)).isSome = false)
    (hX : XG G X) (tk : Takes X W) (hr : Room k' X.A) (hk : 2 ≤ k') (h : glB X.env.scope x = true) (ha : PE X e (tE G W own a))
    (he : starEach [e] X.env = (false, eval e X.env) :: starEach [] X.env) (hpl : (backTo pos (starEach [] X.env)).any (·.1) = false) : PS X (.Raise (some (.Call (.Name x p) [e] [] pos)) none pos') (tS G W own (sRaiseI x f a)) := by
  obtain ⟨C, fI, fd, h1, h2, _, _⟩ := c.ex
  exact psd_raiseI (k := 0) hX tk h2 IF hs ht h1 (hr.mono hk) (glB_gl h).1 ha (glB_gl h).2.1 he hpl
theorem qExF {ok : Str → Bool} {f : Str} {e : Expr} {a : EvE} (hX : XG G X) (hok : FldOk G X.K f ok) (ha : PE X e (tE G W own a)) (hb : attributeBase e f X.env (eval e X.env) = eval e X.env) : PE X (.Attribute e f pos) (tE G W own (cExF ok f a)) := pd_exf hX hok ha hb
/-- a class of errors with such an __init__, as a value -/
theorem qExcI {x par f : Str} {st : Stmt} (c : IniF X.prog X.K X.mg x par f st) (hG : X.mg = G.mg) (h : glB X.env.scope x = true) : PE X (.Name x pos) (tE G W own (cC (.fn x))) := by
  obtain ⟨C, fI, fd, h1, _⟩ := c.ex
  exact qFn hG h1 h
end
section
variable {G : Gb} {P : Program} {wo : World} {K : PySem.W.Frag} {mg : Str → Option Value} {base : Heap} {x qual : Str} {params : Arguments} {body : List Stmt} {scope : Scope} {f : Addr} {fd : FuncData} {N ps : List Str} {k : Nat} {b : EvS}
theorem fnOk_CTm (F : FunD K x qual params body scope [] [] f fd) (mk : MkF G mg base (envOfC qual scope 0 0 .none).qual fd) (S : FnScope N ps scope)
    (hb : ∀ (c T : Addr) (A : Around) (outer : List Env) (s : Shared) (H : Hp) (E : XK), LamX.TabB base mg c T → (T, (envOfC qual scope s.heap.objs.size f (.ref c)).qual ++ "<lambda>") ∈ G.T → (∀ p ∈ G.T, p.1 = T → p.2 = (envOfC qual scope s.heap.objs.size f (.ref c)).qual ++ "<lambda>") → Room k (A.deeper (envOfC qual scope s.heap.objs.size f (.ref c))) →
      PSs (cxOf (L2.CX P wo) P wo K mg base N qual scope f (.ref c) A outer s H E) body (tS G (fun cls d _ H' => E cls d H') (some (envOfC qual scope s.heap.objs.size f (.ref c)).cells) b)) :
    FnOk P wo K mg base (L2.CX P wo) (k + 1) f fd ps (spOf G ps.length (runCT N.length b)) :=
  (fnOk_Cm F mk S hb).imp fun vs H Q E ⟨hl, w, ds, M, ho, S0, r, h⟩ => ⟨hl, w, ds, M, ho, S0, r, okC_fin S0.len.symm h⟩
end
end DI

set_option Elab.async false
set_option linter.all false
set_option maxRecDepth 100000
set_option maxHeartbeats 4000000
namespace K00
open PySem PySem.Spec PyProof.Rows L2 DI
def top (i : Nat) : Stmt := PySem.Challenge.pw_chancebounds_k00_ratios_and_vectors.main.body.getD i (.Pass ⟨0, 0, 0, 0⟩)
abbrev t_is_whole : Stmt := top 9
abbrev t_is_ratio : Stmt := top 10
abbrev t_lowest : Stmt := top 11
abbrev t_plus : Stmt := top 12
abbrev t_times : Stmt := top 13
abbrev t_total : Stmt := top 14
abbrev t_ratio : Stmt := top 15
abbrev t_is_vector : Stmt := top 18
abbrev t_dot : Stmt := top 19
abbrev t_scaled : Stmt := top 20
abbrev t_added : Stmt := top 21
abbrev t_mixed : Stmt := top 22
abbrev t_inner : Stmt := top 23
abbrev t_need_rows : Stmt := top 24
abbrev t_combined : Stmt := top 25
abbrev t_is_word : Stmt := top 28
abbrev t__law_begun : Stmt := top 30
abbrev t__law_blended : Stmt := top 31
abbrev t__law_draw : Stmt := top 32
abbrev t__law_pick : Stmt := top 33
abbrev t__law_is_truth : Stmt := top 35
abbrev t__law_same : Stmt := top 36
abbrev t__law_q : Stmt := top 37
abbrev t__law_plus : Stmt := top 38
abbrev t__law_times : Stmt := top 39
abbrev t__law_sum : Stmt := top 40
abbrev t__law_words : Stmt := top 41
abbrev t__law_number : Stmt := top 42
abbrev t__law_vector : Stmt := top 43
abbrev t__law_dot : Stmt := top 44
abbrev t__law_mixed : Stmt := top 45
abbrev t__law_is_ratio : Stmt := top 46
abbrev t__law_near : Stmt := top 47
abbrev t__law_sums_right : Stmt := top 48
abbrev t__law_refused : Stmt := top 49
abbrev t_law : Stmt := top 50
def d_ZERO : D := (.tup [.int 0, .int 1])
def d_MOST : D := (.int 200)
def d_LETTERS : D := (.str "abcdefghijklmnopqrstuvwxyz")
def anc : Anc := fun x => ([(("BoundError" : Str), [("BoundError" : Str)]), (("BadNumber" : Str), [("BadNumber" : Str), ("BoundError" : Str)]), (("BadRows" : Str), [("BadRows" : Str), ("BoundError" : Str)]), (("BadVector" : Str), [("BadVector" : Str), ("BoundError" : Str)]), (("BadWidth" : Str), [("BadWidth" : Str), ("BoundError" : Str)])] : List (Str × List Str)).lookup x
abbrev t__law_caught : Stmt := top 34
def catB (c : Str) : Bool := (anc c).isSome
/-- what the head tells -/
abbrev i_BadNumber : Stmt := clsInit (top 3) 0
theorem IF_BadNumber : InitF "part" "part" (defArgs i_BadNumber) (defBody i_BadNumber) (defScope i_BadNumber) := ⟨⟨_, _, _, _, _, _, _, _, _, _, rfl, by decide⟩, rfl, rfl, rfl, rfl, by decide, rfl, rfl, rfl, by decide, by decide, ⟨_, rfl, rfl⟩, fun _ _ _ _ _ _ _ _ us hl => match us, hl with | [_, _], _ => rfl⟩
abbrev i_BadRows : Stmt := clsInit (top 4) 0
theorem IF_BadRows : InitF "index" "index" (defArgs i_BadRows) (defBody i_BadRows) (defScope i_BadRows) := ⟨⟨_, _, _, _, _, _, _, _, _, _, rfl, by decide⟩, rfl, rfl, rfl, rfl, by decide, rfl, rfl, rfl, by decide, by decide, ⟨_, rfl, rfl⟩, fun _ _ _ _ _ _ _ _ us hl => match us, hl with | [_, _], _ => rfl⟩
structure HF (P : Program) (G : Gb) (K : PySem.W.Frag) (mg : Str → Option Value) : Prop where
  hK : K = G.K
  hm : mg = G.mg
  d_is_whole : ∃ f fd, FunD K "is_whole" "is_whole" (defArgs t_is_whole) (defBody t_is_whole) (defScope t_is_whole) [] [] f fd ∧ mg "is_whole" = some (.ref f)
  d_is_ratio : ∃ f fd, FunD K "is_ratio" "is_ratio" (defArgs t_is_ratio) (defBody t_is_ratio) (defScope t_is_ratio) [] [] f fd ∧ mg "is_ratio" = some (.ref f)
  d_lowest : ∃ f fd, FunD K "lowest" "lowest" (defArgs t_lowest) (defBody t_lowest) (defScope t_lowest) [] [] f fd ∧ mg "lowest" = some (.ref f)
  d_plus : ∃ f fd, FunD K "plus" "plus" (defArgs t_plus) (defBody t_plus) (defScope t_plus) [] [] f fd ∧ mg "plus" = some (.ref f)
  d_times : ∃ f fd, FunD K "times" "times" (defArgs t_times) (defBody t_times) (defScope t_times) [] [] f fd ∧ mg "times" = some (.ref f)
  d_total : ∃ f fd, FunD K "total" "total" (defArgs t_total) (defBody t_total) (defScope t_total) [] [] f fd ∧ mg "total" = some (.ref f)
  d_ratio : ∃ f fd, FunD K "ratio" "ratio" (defArgs t_ratio) (defBody t_ratio) (defScope t_ratio) [] [] f fd ∧ mg "ratio" = some (.ref f)
  d_is_vector : ∃ f fd, FunD K "is_vector" "is_vector" (defArgs t_is_vector) (defBody t_is_vector) (defScope t_is_vector) [] [] f fd ∧ mg "is_vector" = some (.ref f)
  d_dot : ∃ f fd, FunD K "dot" "dot" (defArgs t_dot) (defBody t_dot) (defScope t_dot) [] [] f fd ∧ mg "dot" = some (.ref f)
  d_scaled : ∃ f fd, FunD K "scaled" "scaled" (defArgs t_scaled) (defBody t_scaled) (defScope t_scaled) [] [] f fd ∧ mg "scaled" = some (.ref f)
  d_added : ∃ f fd, FunD K "added" "added" (defArgs t_added) (defBody t_added) (defScope t_added) [] [] f fd ∧ mg "added" = some (.ref f)
  d_mixed : ∃ f fd, FunD K "mixed" "mixed" (defArgs t_mixed) (defBody t_mixed) (defScope t_mixed) [] [] f fd ∧ mg "mixed" = some (.ref f)
  d_inner : ∃ f fd, FunD K "inner" "inner" (defArgs t_inner) (defBody t_inner) (defScope t_inner) [] [] f fd ∧ mg "inner" = some (.ref f)
  d_need_rows : ∃ f fd, FunD K "need_rows" "need_rows" (defArgs t_need_rows) (defBody t_need_rows) (defScope t_need_rows) [] [] f fd ∧ mg "need_rows" = some (.ref f)
  d_combined : ∃ f fd, FunD K "combined" "combined" (defArgs t_combined) (defBody t_combined) (defScope t_combined) [] [] f fd ∧ mg "combined" = some (.ref f)
  d_is_word : ∃ f fd, FunD K "is_word" "is_word" (defArgs t_is_word) (defBody t_is_word) (defScope t_is_word) [] [] f fd ∧ mg "is_word" = some (.ref f)
  d__law_begun : ∃ f fd, FunD K "_law_begun" "_law_begun" (defArgs t__law_begun) (defBody t__law_begun) (defScope t__law_begun) [] [] f fd ∧ mg "_law_begun" = some (.ref f)
  d__law_blended : ∃ f fd, FunD K "_law_blended" "_law_blended" (defArgs t__law_blended) (defBody t__law_blended) (defScope t__law_blended) [] [] f fd ∧ mg "_law_blended" = some (.ref f)
  d__law_draw : ∃ f fd, FunD K "_law_draw" "_law_draw" (defArgs t__law_draw) (defBody t__law_draw) (defScope t__law_draw) [] [] f fd ∧ mg "_law_draw" = some (.ref f)
  d__law_pick : ∃ f fd, FunD K "_law_pick" "_law_pick" (defArgs t__law_pick) (defBody t__law_pick) (defScope t__law_pick) [] [] f fd ∧ mg "_law_pick" = some (.ref f)
  d__law_is_truth : ∃ f fd, FunD K "_law_is_truth" "_law_is_truth" (defArgs t__law_is_truth) (defBody t__law_is_truth) (defScope t__law_is_truth) [] [] f fd ∧ mg "_law_is_truth" = some (.ref f)
  d__law_same : ∃ f fd, FunD K "_law_same" "_law_same" (defArgs t__law_same) (defBody t__law_same) (defScope t__law_same) [] [] f fd ∧ mg "_law_same" = some (.ref f)
  d__law_q : ∃ f fd, FunD K "_law_q" "_law_q" (defArgs t__law_q) (defBody t__law_q) (defScope t__law_q) [] [] f fd ∧ mg "_law_q" = some (.ref f)
  d__law_plus : ∃ f fd, FunD K "_law_plus" "_law_plus" (defArgs t__law_plus) (defBody t__law_plus) (defScope t__law_plus) [] [] f fd ∧ mg "_law_plus" = some (.ref f)
  d__law_times : ∃ f fd, FunD K "_law_times" "_law_times" (defArgs t__law_times) (defBody t__law_times) (defScope t__law_times) [] [] f fd ∧ mg "_law_times" = some (.ref f)
  d__law_sum : ∃ f fd, FunD K "_law_sum" "_law_sum" (defArgs t__law_sum) (defBody t__law_sum) (defScope t__law_sum) [] [] f fd ∧ mg "_law_sum" = some (.ref f)
  d__law_words : ∃ f fd, FunD K "_law_words" "_law_words" (defArgs t__law_words) (defBody t__law_words) (defScope t__law_words) [] [] f fd ∧ mg "_law_words" = some (.ref f)
  d__law_number : ∃ f fd, FunD K "_law_number" "_law_number" (defArgs t__law_number) (defBody t__law_number) (defScope t__law_number) [] [] f fd ∧ mg "_law_number" = some (.ref f)
  d__law_vector : ∃ f fd, FunD K "_law_vector" "_law_vector" (defArgs t__law_vector) (defBody t__law_vector) (defScope t__law_vector) [] [] f fd ∧ mg "_law_vector" = some (.ref f)
  d__law_dot : ∃ f fd, FunD K "_law_dot" "_law_dot" (defArgs t__law_dot) (defBody t__law_dot) (defScope t__law_dot) [] [] f fd ∧ mg "_law_dot" = some (.ref f)
  d__law_mixed : ∃ f fd, FunD K "_law_mixed" "_law_mixed" (defArgs t__law_mixed) (defBody t__law_mixed) (defScope t__law_mixed) [] [] f fd ∧ mg "_law_mixed" = some (.ref f)
  d__law_is_ratio : ∃ f fd, FunD K "_law_is_ratio" "_law_is_ratio" (defArgs t__law_is_ratio) (defBody t__law_is_ratio) (defScope t__law_is_ratio) [] [] f fd ∧ mg "_law_is_ratio" = some (.ref f)
  d__law_near : ∃ f fd, FunD K "_law_near" "_law_near" (defArgs t__law_near) (defBody t__law_near) (defScope t__law_near) [] [] f fd ∧ mg "_law_near" = some (.ref f)
  d__law_sums_right : ∃ f fd, FunD K "_law_sums_right" "_law_sums_right" (defArgs t__law_sums_right) (defBody t__law_sums_right) (defScope t__law_sums_right) [] [] f fd ∧ mg "_law_sums_right" = some (.ref f)
  d__law_refused : ∃ f fd, FunD K "_law_refused" "_law_refused" (defArgs t__law_refused) (defBody t__law_refused) (defScope t__law_refused) [] [] f fd ∧ mg "_law_refused" = some (.ref f)
  d_law : ∃ f fd, FunD K "law" "law" (defArgs t_law) (defBody t_law) (defScope t_law) [] [] f fd ∧ mg "law" = some (.ref f)
  n_abs : mg "abs" = none
  n_all : mg "all" = none
  n_bool : mg "bool" = none
  n_dict : mg "dict" = none
  n_enumerate : mg "enumerate" = none
  n_int : mg "int" = none
  n_isinstance : mg "isinstance" = none
  n_len : mg "len" = none
  n_list : mg "list" = none
  n_min : mg "min" = none
  n_range : mg "range" = none
  n_sorted : mg "sorted" = none
  n_str : mg "str" = none
  n_super : mg "super" = none
  n_tuple : mg "tuple" = none
  n_zip : mg "zip" = none
  m_gcd : mg "gcd" = some (.builtin "math.gcd")
  c_ZERO : ConD G mg "ZERO" d_ZERO
  c_MOST : ConD G mg "MOST" d_MOST
  c_LETTERS : ConD G mg "LETTERS" d_LETTERS
  e_BoundError : ExcF K mg "BoundError"
  i_BadNumber : IniF P K mg "BadNumber" "part" "part" i_BadNumber
  i_BadRows : IniF P K mg "BadRows" "index" "index" i_BadRows
  e_BadVector : ExcF K mg "BadVector"
  e_BadWidth : ExcF K mg "BadWidth"
  t_super : (P.main.scope.names.lookup ("super" : Str)).isSome = false
  anc : AncOk G anc
  d__law_caught : ∃ f fd, FunD K "_law_caught" "_law_caught" (defArgs t__law_caught) (defBody t__law_caught) (defScope t__law_caught) [] [] f fd ∧ mg "_law_caught" = some (.ref f)
  cat : ∀ CB, mg "BoundError" = some (.ref CB) → ∀ c, catB c = true → ∀ C, G.mg c = some (.ref C) → PySem.W.exmOne K (.ref C) (.ref CB) = some true
  lam_0 : G.lam 0 = some ⟨(envOfC "_law_refused" (defScope t__law_refused) 0 0 .none).qual, (lamAt (defBody t__law_refused) 0).args, (lamAt (defBody t__law_refused) 0).body, (lamAt (defBody t__law_refused) 0).scope⟩
  lam_1 : G.lam 1 = some ⟨(envOfC "_law_refused" (defScope t__law_refused) 0 0 .none).qual, (lamAt (defBody t__law_refused) 1).args, (lamAt (defBody t__law_refused) 1).body, (lamAt (defBody t__law_refused) 1).scope⟩
  lam_2 : G.lam 2 = some ⟨(envOfC "_law_refused" (defScope t__law_refused) 0 0 .none).qual, (lamAt (defBody t__law_refused) 2).args, (lamAt (defBody t__law_refused) 2).body, (lamAt (defBody t__law_refused) 2).scope⟩
  lam_3 : G.lam 3 = some ⟨(envOfC "_law_refused" (defScope t__law_refused) 0 0 .none).qual, (lamAt (defBody t__law_refused) 3).args, (lamAt (defBody t__law_refused) 3).body, (lamAt (defBody t__law_refused) 3).scope⟩
  lam_4 : G.lam 4 = some ⟨(envOfC "_law_refused" (defScope t__law_refused) 0 0 .none).qual, (lamAt (defBody t__law_refused) 4).args, (lamAt (defBody t__law_refused) 4).body, (lamAt (defBody t__law_refused) 4).scope⟩
  lam_5 : G.lam 5 = some ⟨(envOfC "_law_refused" (defScope t__law_refused) 0 0 .none).qual, (lamAt (defBody t__law_refused) 5).args, (lamAt (defBody t__law_refused) 5).body, (lamAt (defBody t__law_refused) 5).scope⟩
  lam_6 : G.lam 6 = some ⟨(envOfC "_law_refused" (defScope t__law_refused) 0 0 .none).qual, (lamAt (defBody t__law_refused) 6).args, (lamAt (defBody t__law_refused) 6).body, (lamAt (defBody t__law_refused) 6).scope⟩
  lam_7 : G.lam 7 = some ⟨(envOfC "_law_refused" (defScope t__law_refused) 0 0 .none).qual, (lamAt (defBody t__law_refused) 7).args, (lamAt (defBody t__law_refused) 7).body, (lamAt (defBody t__law_refused) 7).scope⟩
theorem S__law_caught : FnScope ["action", "found", "error"] ["action"] (defScope t__law_caught) := C8.fnScope_by (by decide +kernel)
theorem S_is_whole : FnScope ["value"] ["value"] (defScope t_is_whole) := C8.fnScope_by (by decide +kernel)
theorem S_is_ratio : FnScope ["value", "part"] ["value"] (defScope t_is_ratio) := C8.fnScope_by (by decide +kernel)
theorem S_lowest : FnScope ["n", "d", "common"] ["n", "d"] (defScope t_lowest) := C8.fnScope_by (by decide +kernel)
theorem S_plus : FnScope ["one", "other"] ["one", "other"] (defScope t_plus) := C8.fnScope_by (by decide +kernel)
theorem S_times : FnScope ["one", "other"] ["one", "other"] (defScope t_times) := C8.fnScope_by (by decide +kernel)
theorem S_total : FnScope ["ratios", "found", "each"] ["ratios"] (defScope t_total) := C8.fnScope_by (by decide +kernel)
theorem S_ratio : FnScope ["n", "d"] ["n", "d"] (defScope t_ratio) := C8.fnScope_by (by decide +kernel)
theorem S_is_vector : FnScope ["value", "part"] ["value"] (defScope t_is_vector) := C8.fnScope_by (by decide +kernel)
theorem S_dot : FnScope ["one", "other", "left", "right"] ["one", "other"] (defScope t_dot) := C8.fnScope_by (by decide +kernel)
theorem S_scaled : FnScope ["share", "vector", "part"] ["share", "vector"] (defScope t_scaled) := C8.fnScope_by (by decide +kernel)
theorem S_added : FnScope ["one", "other", "left", "right"] ["one", "other"] (defScope t_added) := C8.fnScope_by (by decide +kernel)
theorem S_mixed : FnScope ["weights", "rows", "found", "weight", "row"] ["weights", "rows"] (defScope t_mixed) := C8.fnScope_by (by decide +kernel)
theorem S_inner : FnScope ["one", "other"] ["one", "other"] (defScope t_inner) := C8.fnScope_by (by decide +kernel)
theorem S_need_rows : FnScope ["rows", "index", "row"] ["rows"] (defScope t_need_rows) := C8.fnScope_by (by decide +kernel)
theorem S_combined : FnScope ["weights", "rows"] ["weights", "rows"] (defScope t_combined) := C8.fnScope_by (by decide +kernel)
theorem S_is_word : FnScope ["value", "letter"] ["value"] (defScope t_is_word) := C8.fnScope_by (by decide +kernel)
theorem S__law_begun : FnScope ["script", "great", "cell"] ["script"] (defScope t__law_begun) := C8.fnScope_by (by decide +kernel)
theorem S__law_blended : FnScope ["state", "turn", "found", "prime", "blend", "cell"] ["state"] (defScope t__law_blended) := C8.fnScope_by (by decide +kernel)
theorem S__law_draw : FnScope ["state", "room", "found"] ["state", "room"] (defScope t__law_draw) := C8.fnScope_by (by decide +kernel)
theorem S__law_pick : FnScope ["state", "some"] ["state", "some"] (defScope t__law_pick) := C8.fnScope_by (by decide +kernel)
theorem S__law_is_truth : FnScope ["found", "due"] ["found", "due"] (defScope t__law_is_truth) := C8.fnScope_by (by decide +kernel)
theorem S__law_same : FnScope ["found", "due", "waiting", "one", "other", "alike", "key", "left", "right"] ["found", "due"] (defScope t__law_same) := C8.fnScope_by (by decide +kernel)
theorem S__law_q : FnScope ["n", "d", "one", "other"] ["n", "d"] (defScope t__law_q) := C8.fnScope_by (by decide +kernel)
theorem S__law_plus : FnScope ["one", "other"] ["one", "other"] (defScope t__law_plus) := C8.fnScope_by (by decide +kernel)
theorem S__law_times : FnScope ["one", "other"] ["one", "other"] (defScope t__law_times) := C8.fnScope_by (by decide +kernel)
theorem S__law_sum : FnScope ["some", "found", "each"] ["some"] (defScope t__law_sum) := C8.fnScope_by (by decide +kernel)
theorem S__law_words : FnScope ["draws", "many", "found", "word", "lap"] ["draws", "many"] (defScope t__law_words) := C8.fnScope_by (by decide +kernel)
theorem S__law_number : FnScope ["draws", "size", "n", "d"] ["draws", "size"] (defScope t__law_number) := C8.fnScope_by (by decide +kernel)
theorem S__law_vector : FnScope ["draws", "many", "size", "lap"] ["draws", "many", "size"] (defScope t__law_vector) := C8.fnScope_by (by decide +kernel)
theorem S__law_dot : FnScope ["one", "other", "left", "right"] ["one", "other"] (defScope t__law_dot) := C8.fnScope_by (by decide +kernel)
theorem S__law_mixed : FnScope ["weights", "rows", "width", "at", "weight", "row"] ["weights", "rows", "width"] (defScope t__law_mixed) := C8.fnScope_by (by decide +kernel)
theorem S__law_is_ratio : FnScope ["value", "part"] ["value"] (defScope t__law_is_ratio) := C8.fnScope_by (by decide +kernel)
theorem S__law_near : FnScope ["draws", "n", "d", "some"] ["draws"] (defScope t__law_near) := C8.fnScope_by (by decide +kernel)
theorem S__law_sums_right : FnScope ["draws", "many", "one", "other", "rows", "weights", "due", "value", "lap", "part"] ["draws"] (defScope t__law_sums_right) := C8.fnScope_by (by decide +kernel)
theorem S__law_refused : FnScope ["draws", "work", "rows", "at", "odd", "error", "due", "bad", "one", "wrong"] ["draws"] (defScope t__law_refused) := C8.fnScope_by (by decide +kernel)
theorem S_law : FnScope ["script", "draws", "turn", "lap", "value", "n", "d", "word", "due", "letter"] ["script"] (defScope t_law) := C8.fnScope_by (by decide +kernel)
noncomputable def b_is_whole : EvS := (sRet (cAnd (cFn (gIsi anc) (cCons (cVar 0) (cCons (cC (.ty "int")) cNil))) (cNot (cFn (gIsi anc) (cCons (cVar 0) (cCons (cC (.ty "bool")) cNil))))))
noncomputable def f_is_whole : FnD := runF 1 b_is_whole
noncomputable def b_is_ratio : EvS := (sSeq (sIf (cOr (cNot (cFn (gIsi anc) (cCons (cVar 0) (cCons (cC (.ty "tuple")) cNil)))) (cOr (cBin fNe (cFn gLen (cCons (cVar 0) cNil)) (cC (.int 2))) (cNot (cFn gAll (cCons (cLc (cIter (cVar 0)) (.nm 1) cYes (cCall f_is_whole (cCons (cVar 1) cNil)) [1]) cNil))))) (sRet (cC (.bl false))) sNil) (sRet (cAnd (cBin fGt (cBin fIx (cVar 0) (cC (.int 1))) (cC (.int 0))) (cBin fEq (cFn gGcd (cCons (cBin fIx (cVar 0) (cC (.int 0))) (cCons (cBin fIx (cVar 0) (cC (.int 1))) cNil))) (cC (.int 1))))))
noncomputable def f_is_ratio : FnD := runF 2 b_is_ratio
noncomputable def b_lowest : EvS := (sSeq (sSet (.nm 2) (cIf (cBin fGt (cVar 1) (cC (.int 0))) (cFn gGcd (cCons (cVar 0) (cCons (cVar 1) cNil))) (cUn fNeg (cFn gGcd (cCons (cVar 0) (cCons (cVar 1) cNil)))))) (sRet (cFn fTup (cCons (cBin fDiv (cVar 0) (cVar 2)) (cCons (cBin fDiv (cVar 1) (cVar 2)) cNil)))))
noncomputable def f_lowest : FnD := runF 3 b_lowest
noncomputable def b_plus : EvS := (sRet (cCall f_lowest (cCons (cBin fAdd (cBin fMul (cBin fIx (cVar 0) (cC (.int 0))) (cBin fIx (cVar 1) (cC (.int 1)))) (cBin fMul (cBin fIx (cVar 1) (cC (.int 0))) (cBin fIx (cVar 0) (cC (.int 1))))) (cCons (cBin fMul (cBin fIx (cVar 0) (cC (.int 1))) (cBin fIx (cVar 1) (cC (.int 1)))) cNil))))
noncomputable def f_plus : FnD := runF 2 b_plus
noncomputable def b_times : EvS := (sRet (cCall f_lowest (cCons (cBin fMul (cBin fIx (cVar 0) (cC (.int 0))) (cBin fIx (cVar 1) (cC (.int 0)))) (cCons (cBin fMul (cBin fIx (cVar 0) (cC (.int 1))) (cBin fIx (cVar 1) (cC (.int 1)))) cNil))))
noncomputable def f_times : FnD := runF 2 b_times
noncomputable def b_total : EvS := (sSeq (sSet (.nm 1) (cC d_ZERO)) (sSeq (sFor (cIter (cVar 0)) (.nm 2) (sSet (.nm 1) (cCall f_plus (cCons (cVar 1) (cCons (cVar 2) cNil))))) (sRet (cVar 1))))
noncomputable def f_total : FnD := runF 3 b_total
noncomputable def b_ratio : EvS := (sSeq (sIf (cNot (cCall f_is_whole (cCons (cVar 0) cNil))) (sRaiseI "BadNumber" "part" (cC (.str "n"))) sNil) (sSeq (sIf (cOr (cNot (cCall f_is_whole (cCons (cVar 1) cNil))) (cBin fEq (cVar 1) (cC (.int 0)))) (sRaiseI "BadNumber" "part" (cC (.str "d"))) sNil) (sRet (cCall f_lowest (cCons (cVar 0) (cCons (cVar 1) cNil))))))
noncomputable def f_ratio : FnD := runF 2 b_ratio
noncomputable def b_is_vector : EvS := (sRet (cAnd (cFn (gIsi anc) (cCons (cVar 0) (cCons (cC (.ty "tuple")) cNil))) (cAnd (cChain fLe fLe (cC (.int 1)) (cFn gLen (cCons (cVar 0) cNil)) (cC d_MOST)) (cFn gAll (cCons (cLc (cIter (cVar 0)) (.nm 1) cYes (cCall f_is_ratio (cCons (cVar 1) cNil)) [1]) cNil)))))
noncomputable def f_is_vector : FnD := runF 2 b_is_vector
noncomputable def b_dot : EvS := (sRet (cCall f_total (cCons (cLc (cItL zipD (cCons (cVar 0) (cCons (cVar 1) cNil))) (.tp [(.nm 2), (.nm 3)]) cYes (cCall f_times (cCons (cVar 2) (cCons (cVar 3) cNil))) [2, 3]) cNil)))
noncomputable def f_dot : FnD := runF 4 b_dot
noncomputable def b_scaled : EvS := (sRet (cFn gTuple (cCons (cLc (cIter (cVar 1)) (.nm 2) cYes (cCall f_times (cCons (cVar 0) (cCons (cVar 2) cNil))) [2]) cNil)))
noncomputable def f_scaled : FnD := runF 3 b_scaled
noncomputable def b_added : EvS := (sRet (cFn gTuple (cCons (cLc (cItL zipD (cCons (cVar 0) (cCons (cVar 1) cNil))) (.tp [(.nm 2), (.nm 3)]) cYes (cCall f_plus (cCons (cVar 2) (cCons (cVar 3) cNil))) [2, 3]) cNil)))
noncomputable def f_added : FnD := runF 4 b_added
noncomputable def b_mixed : EvS := (sSeq (sSet (.nm 2) (cBin fMul (cFn fTup (cCons (cC d_ZERO) cNil)) (cFn gLen (cCons (cBin fIx (cVar 1) (cC (.int 0))) cNil)))) (sSeq (sFor (cItL zipD (cCons (cVar 0) (cCons (cVar 1) cNil))) (.tp [(.nm 3), (.nm 4)]) (sSet (.nm 2) (cCall f_added (cCons (cVar 2) (cCons (cCall f_scaled (cCons (cVar 3) (cCons (cVar 4) cNil))) cNil))))) (sRet (cVar 2))))
noncomputable def f_mixed : FnD := runF 5 b_mixed
noncomputable def b_inner : EvS := (sSeq (sIf (cOr (cNot (cCall f_is_vector (cCons (cVar 0) cNil))) (cNot (cCall f_is_vector (cCons (cVar 1) cNil)))) (sRaise "BadVector" (cCons (cC (.str "a vector is needed")) cNil)) sNil) (sSeq (sIf (cBin fNe (cFn gLen (cCons (cVar 0) cNil)) (cFn gLen (cCons (cVar 1) cNil))) (sRaise "BadWidth" (cCons (cC (.str "vectors that are as long are needed")) cNil)) sNil) (sRet (cCall f_dot (cCons (cVar 0) (cCons (cVar 1) cNil))))))
noncomputable def f_inner : FnD := runF 2 b_inner
noncomputable def b_need_rows : EvS := (sSeq (sIf (cOr (cNot (cFn (gIsi anc) (cCons (cVar 0) (cCons (cFn fTup (cCons (cC (.ty "list")) (cCons (cC (.ty "tuple")) cNil))) cNil)))) (cNot (cChain fLe fLe (cC (.int 1)) (cFn gLen (cCons (cVar 0) cNil)) (cC d_MOST)))) (sRaiseI "BadRows" "index" (cC .non)) sNil) (sFor (cItL enumD (cCons (cVar 0) cNil)) (.tp [(.nm 1), (.nm 2)]) (sIf (cOr (cNot (cCall f_is_vector (cCons (cVar 2) cNil))) (cBin fNe (cFn gLen (cCons (cVar 2) cNil)) (cFn gLen (cCons (cBin fIx (cVar 0) (cC (.int 0))) cNil)))) (sRaiseI "BadRows" "index" (cVar 1)) sNil)))
noncomputable def f_need_rows : FnD := runF 3 b_need_rows
noncomputable def b_combined : EvS := (sSeq (sIf (cNot (cCall f_is_vector (cCons (cVar 0) cNil))) (sRaise "BadVector" (cCons (cC (.str "a vector is needed")) cNil)) sNil) (sSeq (sIf (cOr (cNot (cFn (gIsi anc) (cCons (cVar 1) (cCons (cFn fTup (cCons (cC (.ty "list")) (cCons (cC (.ty "tuple")) cNil))) cNil)))) (cBin fNe (cFn gLen (cCons (cVar 1) cNil)) (cFn gLen (cCons (cVar 0) cNil)))) (sRaiseI "BadRows" "index" (cC .non)) sNil) (sSeq (sDrop (cCall f_need_rows (cCons (cVar 1) cNil))) (sRet (cCall f_mixed (cCons (cVar 0) (cCons (cVar 1) cNil)))))))
noncomputable def f_combined : FnD := runF 2 b_combined
noncomputable def b_is_word : EvS := (sRet (cAnd (cFn (gIsi anc) (cCons (cVar 0) (cCons (cC (.ty "str")) cNil))) (cAnd (cChain fLe fLe (cC (.int 1)) (cFn gLen (cCons (cVar 0) cNil)) (cC (.int 8))) (cFn gAll (cCons (cLc (cIter (cVar 0)) (.nm 1) cYes (cBin fIn (cVar 1) (cC d_LETTERS)) [1]) cNil)))))
noncomputable def f_is_word : FnD := runF 2 b_is_word
noncomputable def b__law_begun : EvS := (sSeq (sSet (.nm 1) (cLcM (cIter (cVar 0)) (.nm 2) (cTst (cBin fGe (cFn gAbs (cCons (cVar 2) cNil)) (cBin fPow (cC (.int 10)) (cC (.int 18))))) (cBin fSub (cFn gAbs (cCons (cVar 2) cNil)) (cBin fPow (cC (.int 10)) (cC (.int 18)))) [2])) (sRet (cDisp [((cC (.str "great")), (cVar 1)), ((cC (.str "cells")), (cLc (cIter (cVar 0)) (.nm 2) cYes (cFn gAbs (cCons (cVar 2) cNil)) [2])), ((cC (.str "rest")), (cC (.int 0))), ((cC (.str "turn")), (cC (.int 0)))])))
noncomputable def f__law_begun : FnD := runF 3 b__law_begun
noncomputable def b__law_blended : EvS := (sSeq (sPar2 1 2 (cCons (cBin fAdd (cBin fIx (cVar 0) (cC (.str "turn"))) (cC (.int 1))) (cCons (cC (.int 0)) cNil))) (sSeq (sSetIx (cVar 1) (cVar 0) (cC (.str "turn"))) (sSeq (sFor (cIter (cFn fLst (cCons (cC (.int 2147483579)) (cCons (cC (.int 2147483629)) (cCons (cC (.int 2147483563)) cNil))))) (.nm 3) (sSeq (sSet (.nm 4) (cBin fAdd (cBin fMul (cC (.int 48271)) (cVar 1)) (cBin fDiv (cVar 3) (cC (.int 53))))) (sSeq (sFor (cIter (cBin fIx (cVar 0) (cC (.str "cells")))) (.nm 5) (sSet (.nm 4) (cBin fMod (cFn gInt (cCons (cBin fAdd (cBin fAdd (cBin fMul (cVar 4) (cC (.int 69621))) (cVar 5)) (cVar 1)) cNil)) (cVar 3)))) (sSet (.nm 2) (cBin fAdd (cBin fMul (cVar 2) (cC (.int 2147483647))) (cBin fMod (cFn gInt (cCons (cBin fPow (cVar 4) (cC (.int 5))) cNil)) (cVar 3))))))) (sRet (cVar 2)))))
noncomputable def f__law_blended : FnD := runF 6 b__law_blended
noncomputable def b__law_draw : EvS := (sSeq (sIf (cBin fEq (cBin fIx (cVar 0) (cC (.str "rest"))) (cC (.int 0))) (sSetIx (cIf (cBin fNe (cBin fIx (cVar 0) (cC (.str "great"))) (cFn fLst cNil)) (cM "list" mPopAt (cBin fIx (cVar 0) (cC (.str "great"))) (cCons (cC (.int 0)) cNil)) (cCall f__law_blended (cCons (cVar 0) cNil))) (cVar 0) (cC (.str "rest"))) sNil) (sSeq (sSet (.nm 2) (cBin fMod (cFn gInt (cCons (cBin fIx (cVar 0) (cC (.str "rest"))) cNil)) (cVar 1))) (sSeq (sSetIx (cBin fDiv (cBin fIx (cVar 0) (cC (.str "rest"))) (cVar 1)) (cVar 0) (cC (.str "rest"))) (sRet (cVar 2)))))
noncomputable def f__law_draw : FnD := runF 3 b__law_draw
noncomputable def b__law_pick : EvS := (sRet (cBin fIx (cVar 1) (cCall f__law_draw (cCons (cVar 0) (cCons (cFn gLen (cCons (cVar 1) cNil)) cNil)))))
noncomputable def f__law_pick : FnD := runF 2 b__law_pick
noncomputable def b__law_is_truth : EvS := (sRet (cIf (cVar 1) (cBin fIs (cVar 0) (cC (.bl true))) (cBin fIs (cVar 0) (cC (.bl false)))))
noncomputable def f__law_is_truth : FnD := runF 2 b__law_is_truth
noncomputable def b__law_same : EvS := (sSeq (sSet (.nm 2) (cLstM (cCons (cFn fTup (cCons (cVar 0) (cCons (cVar 1) cNil))) cNil))) (sSeq (sWhile (cBin fNe (cVar 2) (cFn fLst cNil)) (sSeq (sSet (.tp [(.nm 3), (.nm 4)]) (cM "list" mPop (cVar 2) cNil)) (sIf (cOr (cBin fIs (cVar 4) (cC .non)) (cFn (gIsi anc) (cCons (cVar 4) (cCons (cC (.ty "bool")) cNil)))) (sIf (cIf (cBin fIs (cVar 4) (cC .non)) (cBin fIsNot (cVar 3) (cC .non)) (cNot (cCall f__law_is_truth (cCons (cVar 3) (cCons (cVar 4) cNil))))) (sRet (cC (.bl false))) sNil) (sIf (cFn (gIsi anc) (cCons (cVar 4) (cCons (cFn fTup (cCons (cC (.ty "int")) (cCons (cC (.ty "str")) cNil))) cNil))) (sIf (cOr (cFn (gIsi anc) (cCons (cVar 3) (cCons (cC (.ty "bool")) cNil))) (cOr (cBin fNe (cFn (gIsi anc) (cCons (cVar 3) (cCons (cC (.ty "int")) cNil))) (cFn (gIsi anc) (cCons (cVar 4) (cCons (cC (.ty "int")) cNil)))) (cBin fNe (cVar 3) (cVar 4)))) (sRet (cC (.bl false))) sNil) (sIf (cFn (gIsi anc) (cCons (cVar 4) (cCons (cC (.ty "dict")) cNil))) sStuck (sSeq (sSet (.nm 5) (cFn fLst (cCons (cAnd (cFn (gIsi anc) (cCons (cVar 3) (cCons (cC (.ty "tuple")) cNil))) (cFn (gIsi anc) (cCons (cVar 4) (cCons (cC (.ty "tuple")) cNil)))) (cCons (cAnd (cFn (gIsi anc) (cCons (cVar 3) (cCons (cC (.ty "list")) cNil))) (cFn (gIsi anc) (cCons (cVar 4) (cCons (cC (.ty "list")) cNil)))) cNil)))) (sSeq (sIf (cOr (cBin fNotIn (cC (.bl true)) (cVar 5)) (cBin fNe (cFn gLen (cCons (cVar 3) cNil)) (cFn gLen (cCons (cVar 4) cNil)))) (sRet (cC (.bl false))) sNil) (sDrop (cM "list" mExtend (cVar 2) (cCons (cLc (cItL zipD (cCons (cVar 3) (cCons (cVar 4) cNil))) (.tp [(.nm 7), (.nm 8)]) cYes (cFn fTup (cCons (cVar 7) (cCons (cVar 8) cNil))) [7, 8]) cNil)))))))))) (sRet (cC (.bl true)))))
noncomputable def f__law_same : FnD := runT 9 b__law_same
noncomputable def b__law_q : EvS := (sSeq (sPar2 2 3 (cCons (cFn gAbs (cCons (cVar 0) cNil)) (cCons (cFn gAbs (cCons (cVar 1) cNil)) cNil))) (sSeq (sWhile (cBin fGt (cVar 3) (cC (.int 0))) (sPar2 2 3 (cCons (cVar 3) (cCons (cBin fMod (cFn gInt (cCons (cVar 2) cNil)) (cVar 3)) cNil)))) (sRet (cIf (cBin fGt (cVar 1) (cC (.int 0))) (cFn fTup (cCons (cBin fDiv (cVar 0) (cVar 2)) (cCons (cBin fDiv (cVar 1) (cVar 2)) cNil))) (cFn fTup (cCons (cBin fDiv (cUn fNeg (cVar 0)) (cVar 2)) (cCons (cBin fDiv (cUn fNeg (cVar 1)) (cVar 2)) cNil)))))))
noncomputable def f__law_q : FnD := runF 4 b__law_q
noncomputable def b__law_plus : EvS := (sRet (cCall f__law_q (cCons (cBin fAdd (cBin fMul (cBin fIx (cVar 0) (cC (.int 0))) (cBin fIx (cVar 1) (cC (.int 1)))) (cBin fMul (cBin fIx (cVar 1) (cC (.int 0))) (cBin fIx (cVar 0) (cC (.int 1))))) (cCons (cBin fMul (cBin fIx (cVar 0) (cC (.int 1))) (cBin fIx (cVar 1) (cC (.int 1)))) cNil))))
noncomputable def f__law_plus : FnD := runF 2 b__law_plus
noncomputable def b__law_times : EvS := (sRet (cCall f__law_q (cCons (cBin fMul (cBin fIx (cVar 0) (cC (.int 0))) (cBin fIx (cVar 1) (cC (.int 0)))) (cCons (cBin fMul (cBin fIx (cVar 0) (cC (.int 1))) (cBin fIx (cVar 1) (cC (.int 1)))) cNil))))
noncomputable def f__law_times : FnD := runF 2 b__law_times
noncomputable def b__law_sum : EvS := (sSeq (sSet (.nm 1) (cFn fTup (cCons (cC (.int 0)) (cCons (cC (.int 1)) cNil)))) (sSeq (sFor (cIter (cVar 0)) (.nm 2) (sSet (.nm 1) (cCall f__law_plus (cCons (cVar 1) (cCons (cVar 2) cNil))))) (sRet (cVar 1))))
noncomputable def f__law_sum : FnD := runF 3 b__law_sum
noncomputable def b__law_words : EvS := (sSeq (sSet (.nm 2) (cFn fLst cNil)) (sSeq (sWhile (cBin fLt (cFn gLen (cCons (cVar 2) cNil)) (cVar 1)) (sSeq (sSet (.nm 3) (cM "str" mJoin (cC (.str "")) (cCons (cLc (cItL (fun _ => itR1) (cCons (cBin fAdd (cC (.int 1)) (cCall f__law_draw (cCons (cVar 0) (cCons (cC (.int 8)) cNil)))) cNil)) (.nm 4) cYes (cCall f__law_pick (cCons (cVar 0) (cCons (cFn gList (cCons (cC (.str "abcdefghijklmnopqrstuvwxyz")) cNil)) cNil))) [4]) cNil))) (sSet (.nm 2) (cBin fAdd (cVar 2) (cIf (cBin fNotIn (cVar 3) (cVar 2)) (cFn fLst (cCons (cVar 3) cNil)) (cIf (cAnd (cBin fNotIn (cBin fAdd (cSl (cVar 3) cNo (cPart (cC (.int 1)))) (cBin fMul (cC (.str "q")) (cFn gLen (cCons (cVar 2) cNil)))) (cVar 2)) (cBin fLt (cFn gLen (cCons (cVar 2) cNil)) (cC (.int 8)))) (cFn fLst (cCons (cBin fAdd (cSl (cVar 3) cNo (cPart (cC (.int 1)))) (cBin fMul (cC (.str "q")) (cFn gLen (cCons (cVar 2) cNil)))) cNil)) (cFn fLst cNil))))))) (sRet (cFn gSorted (cCons (cVar 2) cNil)))))
noncomputable def f__law_words : FnD := runF 5 b__law_words
noncomputable def b__law_number : EvS := (sSeq (sPar2 2 3 (cCons (cCall f__law_draw (cCons (cVar 0) (cCons (cBin fAdd (cVar 1) (cC (.int 1))) cNil))) (cCons (cBin fAdd (cC (.int 1)) (cCall f__law_draw (cCons (cVar 0) (cCons (cCall f__law_pick (cCons (cVar 0) (cCons (cFn fLst (cCons (cC (.int 1)) (cCons (cC (.int 1)) (cCons (cC (.int 3)) (cCons (cVar 1) cNil))))) cNil))) cNil)))) cNil))) (sRet (cCall f__law_q (cCons (cIf (cBin fEq (cCall f__law_draw (cCons (cVar 0) (cCons (cC (.int 2)) cNil))) (cC (.int 0))) (cVar 2) (cBin fSub (cC (.int 0)) (cVar 2))) (cCons (cVar 3) cNil)))))
noncomputable def f__law_number : FnD := runF 4 b__law_number
noncomputable def b__law_vector : EvS := (sRet (cFn gTuple (cCons (cLc (cItL (fun _ => itR1) (cCons (cVar 1) cNil)) (.nm 3) cYes (cCall f__law_pick (cCons (cVar 0) (cCons (cFn fLst (cCons (cFn fTup (cCons (cC (.int 0)) (cCons (cC (.int 1)) cNil))) (cCons (cCall f__law_number (cCons (cVar 0) (cCons (cVar 2) cNil))) (cCons (cCall f__law_number (cCons (cVar 0) (cCons (cVar 2) cNil))) cNil)))) cNil))) [3]) cNil)))
noncomputable def f__law_vector : FnD := runF 4 b__law_vector
noncomputable def b__law_dot : EvS := (sRet (cCall f__law_sum (cCons (cLc (cItL zipD (cCons (cVar 0) (cCons (cVar 1) cNil))) (.tp [(.nm 2), (.nm 3)]) cYes (cCall f__law_times (cCons (cVar 2) (cCons (cVar 3) cNil))) [2, 3]) cNil)))
noncomputable def f__law_dot : FnD := runF 4 b__law_dot
noncomputable def b__law_mixed : EvS := (sRet (cFn gTuple (cCons (cLc (cItL (fun _ => itR1) (cCons (cVar 2) cNil)) (.nm 3) cYes (cCall f__law_sum (cCons (cLc (cItL zipD (cCons (cVar 0) (cCons (cVar 1) cNil))) (.tp [(.nm 4), (.nm 5)]) cYes (cCall f__law_times (cCons (cVar 4) (cCons (cBin fIx (cVar 5) (cVar 3)) cNil))) [4, 5]) cNil)) [3]) cNil)))
noncomputable def f__law_mixed : FnD := runF 6 b__law_mixed
noncomputable def b__law_is_ratio : EvS := (sSeq (sIf (cOr (cNot (cFn (gIsi anc) (cCons (cVar 0) (cCons (cC (.ty "tuple")) cNil)))) (cOr (cBin fNe (cFn gLen (cCons (cVar 0) cNil)) (cC (.int 2))) (cBin fNe (cLc (cIter (cVar 0)) (.nm 1) (cTst (cOr (cNot (cFn (gIsi anc) (cCons (cVar 1) (cCons (cC (.ty "int")) cNil)))) (cFn (gIsi anc) (cCons (cVar 1) (cCons (cC (.ty "bool")) cNil))))) (cC (.int 1)) [1]) (cFn fLst cNil)))) (sRet (cC (.bl false))) sNil) (sRet (cAnd (cBin fGt (cBin fIx (cVar 0) (cC (.int 1))) (cC (.int 0))) (cBin fEq (cCall f__law_q (cCons (cBin fIx (cVar 0) (cC (.int 0))) (cCons (cBin fIx (cVar 0) (cC (.int 1))) cNil))) (cVar 0)))))
noncomputable def f__law_is_ratio : FnD := runF 2 b__law_is_ratio
noncomputable def b__law_near : EvS := (sSeq (sPar2 1 2 (cCons (cCall f__law_draw (cCons (cVar 0) (cCons (cBin fPow (cC (.int 10)) (cC (.int 14))) cNil))) (cCons (cBin fAdd (cC (.int 1)) (cCall f__law_draw (cCons (cVar 0) (cCons (cBin fPow (cC (.int 10)) (cC (.int 14))) cNil)))) cNil))) (sSeq (sSet (.nm 3) (cFn fLst (cCons (cCall f__law_q (cCons (cVar 1) (cCons (cVar 2) cNil))) (cCons (cCall f__law_q (cCons (cBin fSub (cC (.int 0)) (cVar 1)) (cCons (cVar 2) cNil))) (cCons (cFn fTup (cCons (cVar 1) (cCons (cVar 2) cNil))) (cCons (cFn fTup (cCons (cBin fMul (cVar 1) (cC (.int 6))) (cCons (cBin fMul (cVar 2) (cC (.int 6))) cNil))) (cCons (cFn fTup (cCons (cVar 1) (cCons (cBin fSub (cC (.int 0)) (cVar 2)) cNil))) (cCons (cFn fLst (cCons (cVar 1) (cCons (cVar 2) cNil))) (cCons (cFn fTup (cCons (cVar 1) cNil)) (cCons (cFn fTup (cCons (cVar 1) (cCons (cVar 2) (cCons (cC (.int 1)) cNil)))) (cCons (cFn fTup (cCons (cC (.bl true)) (cCons (cC (.int 1)) cNil))) (cCons (cFn fTup (cCons (cC (.int 0)) (cCons (cC (.int 1)) cNil))) (cCons (cFn fTup (cCons (cC (.int 0)) (cCons (cC (.int 2)) cNil))) (cCons (cFn fTup (cCons (cC (.int 1)) (cCons (cC (.int 0)) cNil))) (cCons (cC .non) (cCons (cVar 1) (cCons (cFn fTup (cCons (cFn gStr (cCons (cVar 1) cNil)) (cCons (cVar 2) cNil))) cNil))))))))))))))))) (sRet (cCall f__law_pick (cCons (cVar 0) (cCons (cVar 3) cNil))))))
noncomputable def f__law_near : FnD := runF 4 b__law_near
noncomputable def b__law_sums_right : EvS := (sSeq (sSet (.nm 1) (cCall f__law_pick (cCons (cVar 0) (cCons (cFn fLst (cCons (cC (.int 1)) (cCons (cC (.int 2)) (cCons (cC (.int 3)) (cCons (cC (.int 8)) (cCons (cC (.int 8)) (cCons (cC (.int 200)) cNil))))))) cNil)))) (sSeq (sPar2 2 3 (cCons (cCall f__law_vector (cCons (cVar 0) (cCons (cVar 1) (cCons (cBin fPow (cC (.int 10)) (cC (.int 6))) cNil)))) (cCons (cCall f__law_vector (cCons (cVar 0) (cCons (cVar 1) (cCons (cBin fPow (cC (.int 10)) (cC (.int 6))) cNil)))) cNil))) (sSeq (sIf (cOr (cNot (cCall f__law_same (cCons (cCall f_inner (cCons (cVar 2) (cCons (cVar 3) cNil))) (cCons (cCall f__law_dot (cCons (cVar 2) (cCons (cVar 3) cNil))) cNil)))) (cNot (cCall f__law_same (cCons (cCallKC f_inner [1, 0] cNil (cCons (cVar 2) (cCons (cVar 3) cNil))) (cCons (cCall f__law_dot (cCons (cVar 2) (cCons (cVar 3) cNil))) cNil))))) (sRet (cC (.bl false))) sNil) (sSeq (sSet (.nm 4) (cLc (cItL (fun _ => itR1) (cCons (cBin fAdd (cC (.int 1)) (cCall f__law_draw (cCons (cVar 0) (cCons (cC (.int 6)) cNil)))) cNil)) (.nm 8) cYes (cCall f__law_vector (cCons (cVar 0) (cCons (cFn gMin (cCons (cVar 1) (cCons (cC (.int 8)) cNil))) (cCons (cC (.int 99)) cNil)))) [8])) (sSeq (sSet (.nm 5) (cCall f__law_vector (cCons (cVar 0) (cCons (cFn gLen (cCons (cVar 4) cNil)) (cCons (cC (.int 99)) cNil))))) (sSeq (sSet (.nm 6) (cCall f__law_mixed (cCons (cVar 5) (cCons (cVar 4) (cCons (cFn gMin (cCons (cVar 1) (cCons (cC (.int 8)) cNil))) cNil))))) (sSeq (sIf (cOr (cNot (cCall f__law_same (cCons (cCall f_combined (cCons (cVar 5) (cCons (cVar 4) cNil))) (cCons (cVar 6) cNil)))) (cNot (cCall f__law_same (cCons (cCallKC f_combined [1, 0] cNil (cCons (cFn gTuple (cCons (cVar 4) cNil)) (cCons (cVar 5) cNil))) (cCons (cVar 6) cNil))))) (sRet (cC (.bl false))) sNil) (sSeq (sFor (cIter (cFn fLst (cCons (cVar 2) (cCons (cFn gList (cCons (cVar 2) cNil)) (cCons (cBin fAdd (cVar 2) (cFn fTup (cCons (cC .non) cNil))) (cCons (cBin fAdd (cVar 2) (cFn fTup (cCons (cFn fTup (cCons (cC (.int 2)) (cCons (cC (.int 4)) cNil))) cNil))) (cCons (cBin fMul (cVar 2) (cC (.int 201))) (cCons (cFn fTup cNil) (cCons (cFn fTup (cCons (cVar 2) cNil)) (cCons (cC .non) (cCons (cSl (cVar 2) cNo (cPart (cC (.int 1)))) cNil))))))))))) (.nm 7) (sSeq (sSet (.nm 6) (cAnd (cFn (gIsi anc) (cCons (cVar 7) (cCons (cC (.ty "tuple")) cNil))) (cAnd (cChain fLe fLe (cC (.int 1)) (cFn gLen (cCons (cVar 7) cNil)) (cC (.int 200))) (cBin fEq (cLc (cIter (cVar 7)) (.nm 9) (cTst (cNot (cCall f__law_is_ratio (cCons (cVar 9) cNil)))) (cC (.int 1)) [9]) (cFn fLst cNil))))) (sIf (cOr (cNot (cCall f__law_is_truth (cCons (cCall f_is_vector (cCons (cVar 7) cNil)) (cCons (cVar 6) cNil)))) (cBin fNe (cCallKC f_is_vector [0] cNil (cCons (cVar 7) cNil)) (cVar 6))) (sRet (cC (.bl false))) sNil))) (sRet (cC (.bl true)))))))))))
noncomputable def f__law_sums_right : FnD := runF 10 b__law_sums_right
section
variable {G : Gb} {P : Program} {wo : World} {K : PySem.W.Frag} {mg : Str → Option Value} {base : Heap}
theorem ok_is_whole (h : HF P G K mg) : CalD G P wo K mg base 1 "is_whole" 1 f_is_whole [] := by
  obtain ⟨f, fd, Fd, hmf⟩ := h.d_is_whole
  refine ⟨f, fd, ["value"], rfl, fnOk_F Fd S_is_whole (fun cdv A outer s H E hr => ?_), hmf, Fd.kp, FunD.bindsN Fd (fun _ _ _ _ _ _ us hl => match us, hl with | [_], _ => rfl), ?_⟩
  · have hX : XG G (cxOf (L2.CX P wo) P wo K mg base ["value"] "is_whole" (defScope t_is_whole) f cdv A outer s H E) := XG.of h.hK h.hm hr
    exact (psd_one (psd_ret (pd_and (qB (callD_isi hX h.anc) h.n_isinstance (by decide +kernel) rfl (pda_cons (qv 0 rfl rfl) (pda_cons (qTy h.n_int (by decide +kernel) rfl) pda_nil rfl) rfl) rfl rfl) (pd_one (pd_not (pt_plain (qB (callD_isi hX h.anc) h.n_isinstance (by decide +kernel) rfl (pda_cons (qv 0 rfl rfl) (pda_cons (qTy h.n_bool (by decide +kernel) rfl) pda_nil rfl) rfl) rfl rfl) (fun _ => rfl)) (qB (callD_isi hX h.anc) h.n_isinstance (by decide +kernel) rfl (pda_cons (qv 0 rfl rfl) (pda_cons (qTy h.n_bool (by decide +kernel) rfl) pda_nil rfl) rfl) rfl rfl))))))
  · exact fun _ z => nomatch z
theorem ok_is_ratio (h : HF P G K mg) : CalD G P wo K mg base 2 "is_ratio" 1 f_is_ratio [(0, ["value"], [0])] := by
  obtain ⟨f, fd, Fd, hmf⟩ := h.d_is_ratio
  refine ⟨f, fd, ["value"], rfl, fnOk_F Fd S_is_ratio (fun cdv A outer s H E hr => ?_), hmf, Fd.kp, FunD.bindsN Fd (fun _ _ _ _ _ _ us hl => match us, hl with | [_], _ => rfl), ?_⟩
  · have hX : XG G (cxOf (L2.CX P wo) P wo K mg base ["value", "part"] "is_ratio" (defScope t_is_ratio) f cdv A outer s H E) := XG.of h.hK h.hm hr
    exact (psd_cons (psd_if ((pwd_or (ptd_not (pt_plain (qB (callD_isi hX h.anc) h.n_isinstance (by decide +kernel) rfl (pda_cons (qv 0 rfl rfl) (pda_cons (qTy h.n_tuple (by decide +kernel) rfl) pda_nil rfl) rfl) rfl rfl) (fun _ => rfl))) (pwd_or (ptd_cmp (opD_ne hX) (qB (callD_len hX) h.n_len (by decide +kernel) rfl (pda_cons (qv 0 rfl rfl) pda_nil rfl) rfl rfl) pd_int rfl) (pwd_one (isAnd := false) (ptd_not (pt_plain (qB (callD_all hX) h.n_all (by decide +kernel) rfl (pda_cons (pd_lc (ow := [("part", 1)]) hX.calm S_is_ratio.nd (pid_val hX.K (qv 0 rfl rfl)) (blk_by rfl) (fun _ _ _ _ _ => (qTgN S_is_ratio.nd rfl rfl)) (fun _ _ _ _ _ => pts0) (fun _ _ _ _ _ => (qCall (ok_is_whole h) hr (by decide) tkB rfl (pda_cons (qv 1 rfl rfl) pda_nil rfl) (lenL_cons lenL_nil) rfl rfl rfl)) (by decide) (fun _ => rfl)) pda_nil rfl) rfl rfl) (fun _ => rfl))))))).pt (psd_one (psd_ret pd_bl)) psd_nil) (psd_one (psd_ret (pd_and (pd_cmp (opD_gt) (pd_ix hX (qv 0 rfl rfl) pd_int (fun _ _ => rfl)) pd_int rfl) (pd_one (pd_cmp (opD_eq hX) (qF (callD_gcd) h.m_gcd rfl (pda_cons (pd_ix hX (qv 0 rfl rfl) pd_int (fun _ _ => rfl)) (pda_cons (pd_ix hX (qv 0 rfl rfl) pd_int (fun _ _ => rfl)) pda_nil rfl) rfl) rfl rfl) pd_int rfl))))))
  · intro z hz
    simp only [List.mem_cons, List.not_mem_nil, or_false] at hz
    rcases hz with rfl
    · exact FunD.kb Fd (fun _ _ _ _ _ _ us ws l1 l2 => match us, ws, l1, l2 with | [], [_], _, _ => rfl)
theorem ok_lowest (h : HF P G K mg) : CalD G P wo K mg base 1 "lowest" 2 f_lowest [] := by
  obtain ⟨f, fd, Fd, hmf⟩ := h.d_lowest
  refine ⟨f, fd, ["n", "d"], rfl, fnOk_F Fd S_lowest (fun cdv A outer s H E hr => ?_), hmf, Fd.kp, FunD.bindsN Fd (fun _ _ _ _ _ _ us hl => match us, hl with | [_, _], _ => rfl), ?_⟩
  · have hX : XG G (cxOf (L2.CX P wo) P wo K mg base ["n", "d", "common"] "lowest" (defScope t_lowest) f cdv A outer s H E) := XG.of h.hK h.hm hr
    exact (psd_cons (qSet S_lowest.nd rfl rfl (ptd_if (ptd_cmp (opD_gt) (qv 1 rfl rfl) pd_int rfl) (qF (callD_gcd) h.m_gcd rfl (pda_cons (qv 0 rfl rfl) (pda_cons (qv 1 rfl rfl) pda_nil rfl) rfl) rfl rfl) (pd_neg (qF (callD_gcd) h.m_gcd rfl (pda_cons (qv 0 rfl rfl) (pda_cons (qv 1 rfl rfl) pda_nil rfl) rfl) rfl rfl))) rfl) (psd_one (psd_ret (pd_tup (pda_cons (pd_bin (opD_div) (qv 0 rfl rfl) (qv 2 rfl rfl)) (pda_cons (pd_bin (opD_div) (qv 1 rfl rfl) (qv 2 rfl rfl)) pda_nil rfl) rfl)))))
  · exact fun _ z => nomatch z
theorem ok_plus (h : HF P G K mg) : CalD G P wo K mg base 2 "plus" 2 f_plus [] := by
  obtain ⟨f, fd, Fd, hmf⟩ := h.d_plus
  refine ⟨f, fd, ["one", "other"], rfl, fnOk_F Fd S_plus (fun cdv A outer s H E hr => ?_), hmf, Fd.kp, FunD.bindsN Fd (fun _ _ _ _ _ _ us hl => match us, hl with | [_, _], _ => rfl), ?_⟩
  · have hX : XG G (cxOf (L2.CX P wo) P wo K mg base ["one", "other"] "plus" (defScope t_plus) f cdv A outer s H E) := XG.of h.hK h.hm hr
    exact (psd_one (psd_ret (qCall (ok_lowest h) hr (by decide) tkOf rfl (pda_cons (pd_bin (opD_add hX) (pd_bin (opD_mul hX) (pd_ix hX (qv 0 rfl rfl) pd_int (fun _ _ => rfl)) (pd_ix hX (qv 1 rfl rfl) pd_int (fun _ _ => rfl))) (pd_bin (opD_mul hX) (pd_ix hX (qv 1 rfl rfl) pd_int (fun _ _ => rfl)) (pd_ix hX (qv 0 rfl rfl) pd_int (fun _ _ => rfl)))) (pda_cons (pd_bin (opD_mul hX) (pd_ix hX (qv 0 rfl rfl) pd_int (fun _ _ => rfl)) (pd_ix hX (qv 1 rfl rfl) pd_int (fun _ _ => rfl))) pda_nil rfl) rfl) (lenL_cons (lenL_cons lenL_nil)) rfl rfl rfl)))
  · exact fun _ z => nomatch z
theorem ok_times (h : HF P G K mg) : CalD G P wo K mg base 2 "times" 2 f_times [] := by
  obtain ⟨f, fd, Fd, hmf⟩ := h.d_times
  refine ⟨f, fd, ["one", "other"], rfl, fnOk_F Fd S_times (fun cdv A outer s H E hr => ?_), hmf, Fd.kp, FunD.bindsN Fd (fun _ _ _ _ _ _ us hl => match us, hl with | [_, _], _ => rfl), ?_⟩
  · have hX : XG G (cxOf (L2.CX P wo) P wo K mg base ["one", "other"] "times" (defScope t_times) f cdv A outer s H E) := XG.of h.hK h.hm hr
    exact (psd_one (psd_ret (qCall (ok_lowest h) hr (by decide) tkOf rfl (pda_cons (pd_bin (opD_mul hX) (pd_ix hX (qv 0 rfl rfl) pd_int (fun _ _ => rfl)) (pd_ix hX (qv 1 rfl rfl) pd_int (fun _ _ => rfl))) (pda_cons (pd_bin (opD_mul hX) (pd_ix hX (qv 0 rfl rfl) pd_int (fun _ _ => rfl)) (pd_ix hX (qv 1 rfl rfl) pd_int (fun _ _ => rfl))) pda_nil rfl) rfl) (lenL_cons (lenL_cons lenL_nil)) rfl rfl rfl)))
  · exact fun _ z => nomatch z
theorem ok_total (h : HF P G K mg) : CalD G P wo K mg base 3 "total" 1 f_total [] := by
  obtain ⟨f, fd, Fd, hmf⟩ := h.d_total
  refine ⟨f, fd, ["ratios"], rfl, fnOk_F Fd S_total (fun cdv A outer s H E hr => ?_), hmf, Fd.kp, FunD.bindsN Fd (fun _ _ _ _ _ _ us hl => match us, hl with | [_], _ => rfl), ?_⟩
  · have hX : XG G (cxOf (L2.CX P wo) P wo K mg base ["ratios", "found", "each"] "total" (defScope t_total) f cdv A outer s H E) := XG.of h.hK h.hm hr
    exact (psd_cons (qSet S_total.nd rfl rfl (qC h.c_ZERO rfl) rfl) (psd_cons (psd_for hpOf hX.calm (pid_val hX.K (qv 0 rfl rfl)) (qTgN S_total.nd rfl rfl) (psd_one (qSet S_total.nd rfl rfl (qCall (ok_plus h) hr (by decide) tkOf rfl (pda_cons (qv 1 rfl rfl) (pda_cons (qv 2 rfl rfl) pda_nil rfl) rfl) (lenL_cons (lenL_cons lenL_nil)) rfl rfl rfl) rfl)) (fun _ => rfl)) (psd_one (psd_ret (qv 1 rfl rfl)))))
  · exact fun _ z => nomatch z
theorem ok_ratio (h : HF P G K mg) : CalD G P wo K mg base 3 "ratio" 2 f_ratio [(0, ["d", "n"], [1, 0])] := by
  obtain ⟨f, fd, Fd, hmf⟩ := h.d_ratio
  refine ⟨f, fd, ["n", "d"], rfl, fnOk_F Fd S_ratio (fun cdv A outer s H E hr => ?_), hmf, Fd.kp, FunD.bindsN Fd (fun _ _ _ _ _ _ us hl => match us, hl with | [_, _], _ => rfl), ?_⟩
  · have hX : XG G (cxOf (L2.CX P wo) P wo K mg base ["n", "d"] "ratio" (defScope t_ratio) f cdv A outer s H E) := XG.of h.hK h.hm hr
    exact (psd_cons (psd_if (ptd_not (pt_plain (qCall (ok_is_whole h) hr (by decide) tkOf rfl (pda_cons (qv 0 rfl rfl) pda_nil rfl) (lenL_cons lenL_nil) rfl rfl rfl) (fun _ => rfl))) (psd_one (qRaiseI h.i_BadNumber IF_BadNumber h.n_super h.t_super hX tkOf hr (by decide) rfl pd_str rfl rfl)) psd_nil) (psd_cons (psd_if ((pwd_or (ptd_not (pt_plain (qCall (ok_is_whole h) hr (by decide) tkOf rfl (pda_cons (qv 1 rfl rfl) pda_nil rfl) (lenL_cons lenL_nil) rfl rfl rfl) (fun _ => rfl))) (pwd_one (isAnd := false) (ptd_cmp (opD_eq hX) (qv 1 rfl rfl) pd_int rfl)))).pt (psd_one (qRaiseI h.i_BadNumber IF_BadNumber h.n_super h.t_super hX tkOf hr (by decide) rfl pd_str rfl rfl)) psd_nil) (psd_one (psd_ret (qCall (ok_lowest h) hr (by decide) tkOf rfl (pda_cons (qv 0 rfl rfl) (pda_cons (qv 1 rfl rfl) pda_nil rfl) rfl) (lenL_cons (lenL_cons lenL_nil)) rfl rfl rfl)))))
  · intro z hz
    simp only [List.mem_cons, List.not_mem_nil, or_false] at hz
    rcases hz with rfl
    · exact FunD.kb Fd (fun _ _ _ _ _ _ us ws l1 l2 => match us, ws, l1, l2 with | [], [_, _], _, _ => rfl)
theorem ok_is_vector (h : HF P G K mg) : CalD G P wo K mg base 3 "is_vector" 1 f_is_vector [(0, ["value"], [0])] := by
  obtain ⟨f, fd, Fd, hmf⟩ := h.d_is_vector
  refine ⟨f, fd, ["value"], rfl, fnOk_F Fd S_is_vector (fun cdv A outer s H E hr => ?_), hmf, Fd.kp, FunD.bindsN Fd (fun _ _ _ _ _ _ us hl => match us, hl with | [_], _ => rfl), ?_⟩
  · have hX : XG G (cxOf (L2.CX P wo) P wo K mg base ["value", "part"] "is_vector" (defScope t_is_vector) f cdv A outer s H E) := XG.of h.hK h.hm hr
    exact (psd_one (psd_ret (pd_and (qB (callD_isi hX h.anc) h.n_isinstance (by decide +kernel) rfl (pda_cons (qv 0 rfl rfl) (pda_cons (qTy h.n_tuple (by decide +kernel) rfl) pda_nil rfl) rfl) rfl rfl) (pd_and (pd_chain (opD_le) (opD_le) pd_int (qB (callD_len hX) h.n_len (by decide +kernel) rfl (pda_cons (qv 0 rfl rfl) pda_nil rfl) rfl rfl) (qC h.c_MOST rfl) rfl) (pd_one (qB (callD_all hX) h.n_all (by decide +kernel) rfl (pda_cons (pd_lc (ow := [("part", 1)]) hX.calm S_is_vector.nd (pid_val hX.K (qv 0 rfl rfl)) (blk_by rfl) (fun _ _ _ _ _ => (qTgN S_is_vector.nd rfl rfl)) (fun _ _ _ _ _ => pts0) (fun _ _ _ _ _ => (qCall (ok_is_ratio h) hr (by decide) tkB rfl (pda_cons (qv 1 rfl rfl) pda_nil rfl) (lenL_cons lenL_nil) rfl rfl rfl)) (by decide) (fun _ => rfl)) pda_nil rfl) rfl rfl))))))
  · intro z hz
    simp only [List.mem_cons, List.not_mem_nil, or_false] at hz
    rcases hz with rfl
    · exact FunD.kb Fd (fun _ _ _ _ _ _ us ws l1 l2 => match us, ws, l1, l2 with | [], [_], _, _ => rfl)
theorem ok_dot (h : HF P G K mg) : CalD G P wo K mg base 4 "dot" 2 f_dot [] := by
  obtain ⟨f, fd, Fd, hmf⟩ := h.d_dot
  refine ⟨f, fd, ["one", "other"], rfl, fnOk_F Fd S_dot (fun cdv A outer s H E hr => ?_), hmf, Fd.kp, FunD.bindsN Fd (fun _ _ _ _ _ _ us hl => match us, hl with | [_, _], _ => rfl), ?_⟩
  · have hX : XG G (cxOf (L2.CX P wo) P wo K mg base ["one", "other", "left", "right"] "dot" (defScope t_dot) f cdv A outer s H E) := XG.of h.hK h.hm hr
    exact (psd_one (psd_ret (qCall (ok_total h) hr (by decide) tkOf rfl (pda_cons (pd_lc (ow := [("left", 2), ("right", 3)]) hX.calm S_dot.nd (qZip hX h.n_zip rfl (pda_cons (qv 0 rfl rfl) (pda_cons (qv 1 rfl rfl) pda_nil rfl) rfl) rfl rfl) (blk_by rfl) (fun _ _ _ _ _ => (qTgT (XG.blk hX) (qTgC (qTgN S_dot.nd rfl rfl) (qTgC (qTgN S_dot.nd rfl rfl) qTgNil rfl) rfl) rfl rfl)) (fun _ _ _ _ _ => pts0) (fun _ _ _ _ _ => (qCall (ok_times h) hr (by decide) tkB rfl (pda_cons (qv 2 rfl rfl) (pda_cons (qv 3 rfl rfl) pda_nil rfl) rfl) (lenL_cons (lenL_cons lenL_nil)) rfl rfl rfl)) (by decide) (fun _ => rfl)) pda_nil rfl) (lenL_cons lenL_nil) rfl rfl rfl)))
  · exact fun _ z => nomatch z
theorem ok_scaled (h : HF P G K mg) : CalD G P wo K mg base 3 "scaled" 2 f_scaled [] := by
  obtain ⟨f, fd, Fd, hmf⟩ := h.d_scaled
  refine ⟨f, fd, ["share", "vector"], rfl, fnOk_F Fd S_scaled (fun cdv A outer s H E hr => ?_), hmf, Fd.kp, FunD.bindsN Fd (fun _ _ _ _ _ _ us hl => match us, hl with | [_, _], _ => rfl), ?_⟩
  · have hX : XG G (cxOf (L2.CX P wo) P wo K mg base ["share", "vector", "part"] "scaled" (defScope t_scaled) f cdv A outer s H E) := XG.of h.hK h.hm hr
    exact (psd_one (psd_ret (qT (callD_tuple hX) h.n_tuple (by decide +kernel) rfl (pda_cons (pd_lc (ow := [("part", 2)]) hX.calm S_scaled.nd (pid_val hX.K (qv 1 rfl rfl)) (blk_by rfl) (fun _ _ _ _ _ => (qTgN S_scaled.nd rfl rfl)) (fun _ _ _ _ _ => pts0) (fun _ _ _ _ _ => (qCall (ok_times h) hr (by decide) tkB rfl (pda_cons (qv 0 rfl rfl) (pda_cons (qv 2 rfl rfl) pda_nil rfl) rfl) (lenL_cons (lenL_cons lenL_nil)) rfl rfl rfl)) (by decide) (fun _ => rfl)) pda_nil rfl) rfl rfl)))
  · exact fun _ z => nomatch z
theorem ok_added (h : HF P G K mg) : CalD G P wo K mg base 3 "added" 2 f_added [] := by
  obtain ⟨f, fd, Fd, hmf⟩ := h.d_added
  refine ⟨f, fd, ["one", "other"], rfl, fnOk_F Fd S_added (fun cdv A outer s H E hr => ?_), hmf, Fd.kp, FunD.bindsN Fd (fun _ _ _ _ _ _ us hl => match us, hl with | [_, _], _ => rfl), ?_⟩
  · have hX : XG G (cxOf (L2.CX P wo) P wo K mg base ["one", "other", "left", "right"] "added" (defScope t_added) f cdv A outer s H E) := XG.of h.hK h.hm hr
    exact (psd_one (psd_ret (qT (callD_tuple hX) h.n_tuple (by decide +kernel) rfl (pda_cons (pd_lc (ow := [("left", 2), ("right", 3)]) hX.calm S_added.nd (qZip hX h.n_zip rfl (pda_cons (qv 0 rfl rfl) (pda_cons (qv 1 rfl rfl) pda_nil rfl) rfl) rfl rfl) (blk_by rfl) (fun _ _ _ _ _ => (qTgT (XG.blk hX) (qTgC (qTgN S_added.nd rfl rfl) (qTgC (qTgN S_added.nd rfl rfl) qTgNil rfl) rfl) rfl rfl)) (fun _ _ _ _ _ => pts0) (fun _ _ _ _ _ => (qCall (ok_plus h) hr (by decide) tkB rfl (pda_cons (qv 2 rfl rfl) (pda_cons (qv 3 rfl rfl) pda_nil rfl) rfl) (lenL_cons (lenL_cons lenL_nil)) rfl rfl rfl)) (by decide) (fun _ => rfl)) pda_nil rfl) rfl rfl)))
  · exact fun _ z => nomatch z
theorem ok_mixed (h : HF P G K mg) : CalD G P wo K mg base 4 "mixed" 2 f_mixed [] := by
  obtain ⟨f, fd, Fd, hmf⟩ := h.d_mixed
  refine ⟨f, fd, ["weights", "rows"], rfl, fnOk_F Fd S_mixed (fun cdv A outer s H E hr => ?_), hmf, Fd.kp, FunD.bindsN Fd (fun _ _ _ _ _ _ us hl => match us, hl with | [_, _], _ => rfl), ?_⟩
  · have hX : XG G (cxOf (L2.CX P wo) P wo K mg base ["weights", "rows", "found", "weight", "row"] "mixed" (defScope t_mixed) f cdv A outer s H E) := XG.of h.hK h.hm hr
    exact (psd_cons (qSet S_mixed.nd rfl rfl (pd_bin (opD_mul hX) (pd_tup (pda_cons (qC h.c_ZERO rfl) pda_nil rfl)) (qB (callD_len hX) h.n_len (by decide +kernel) rfl (pda_cons (pd_ix hX (qv 1 rfl rfl) pd_int (fun _ _ => rfl)) pda_nil rfl) rfl rfl)) rfl) (psd_cons (psd_for hpOf hX.calm (qZip hX h.n_zip rfl (pda_cons (qv 0 rfl rfl) (pda_cons (qv 1 rfl rfl) pda_nil rfl) rfl) rfl rfl) (qTgT hX (qTgC (qTgN S_mixed.nd rfl rfl) (qTgC (qTgN S_mixed.nd rfl rfl) qTgNil rfl) rfl) rfl rfl) (psd_one (qSet S_mixed.nd rfl rfl (qCall (ok_added h) hr (by decide) tkOf rfl (pda_cons (qv 2 rfl rfl) (pda_cons (qCall (ok_scaled h) hr (by decide) tkOf rfl (pda_cons (qv 3 rfl rfl) (pda_cons (qv 4 rfl rfl) pda_nil rfl) rfl) (lenL_cons (lenL_cons lenL_nil)) rfl rfl rfl) pda_nil rfl) rfl) (lenL_cons (lenL_cons lenL_nil)) rfl rfl rfl) rfl)) (fun _ => rfl)) (psd_one (psd_ret (qv 2 rfl rfl)))))
  · exact fun _ z => nomatch z
theorem ok_inner (h : HF P G K mg) : CalD G P wo K mg base 5 "inner" 2 f_inner [(0, ["other", "one"], [1, 0])] := by
  obtain ⟨f, fd, Fd, hmf⟩ := h.d_inner
  refine ⟨f, fd, ["one", "other"], rfl, fnOk_F Fd S_inner (fun cdv A outer s H E hr => ?_), hmf, Fd.kp, FunD.bindsN Fd (fun _ _ _ _ _ _ us hl => match us, hl with | [_, _], _ => rfl), ?_⟩
  · have hX : XG G (cxOf (L2.CX P wo) P wo K mg base ["one", "other"] "inner" (defScope t_inner) f cdv A outer s H E) := XG.of h.hK h.hm hr
    exact (psd_cons (psd_if ((pwd_or (ptd_not (pt_plain (qCall (ok_is_vector h) hr (by decide) tkOf rfl (pda_cons (qv 0 rfl rfl) pda_nil rfl) (lenL_cons lenL_nil) rfl rfl rfl) (fun _ => rfl))) (pwd_one (isAnd := false) (ptd_not (pt_plain (qCall (ok_is_vector h) hr (by decide) tkOf rfl (pda_cons (qv 1 rfl rfl) pda_nil rfl) (lenL_cons lenL_nil) rfl rfl rfl) (fun _ => rfl)))))).pt (psd_one (qRaise h.e_BadVector hX tkOf rfl (pda_cons pd_str pda_nil rfl) rfl rfl)) psd_nil) (psd_cons (psd_if (ptd_cmp (opD_ne hX) (qB (callD_len hX) h.n_len (by decide +kernel) rfl (pda_cons (qv 0 rfl rfl) pda_nil rfl) rfl rfl) (qB (callD_len hX) h.n_len (by decide +kernel) rfl (pda_cons (qv 1 rfl rfl) pda_nil rfl) rfl rfl) rfl) (psd_one (qRaise h.e_BadWidth hX tkOf rfl (pda_cons pd_str pda_nil rfl) rfl rfl)) psd_nil) (psd_one (psd_ret (qCall (ok_dot h) hr (by decide) tkOf rfl (pda_cons (qv 0 rfl rfl) (pda_cons (qv 1 rfl rfl) pda_nil rfl) rfl) (lenL_cons (lenL_cons lenL_nil)) rfl rfl rfl)))))
  · intro z hz
    simp only [List.mem_cons, List.not_mem_nil, or_false] at hz
    rcases hz with rfl
    · exact FunD.kb Fd (fun _ _ _ _ _ _ us ws l1 l2 => match us, ws, l1, l2 with | [], [_, _], _, _ => rfl)
theorem ok_need_rows (h : HF P G K mg) : CalD G P wo K mg base 4 "need_rows" 1 f_need_rows [] := by
  obtain ⟨f, fd, Fd, hmf⟩ := h.d_need_rows
  refine ⟨f, fd, ["rows"], rfl, fnOk_F Fd S_need_rows (fun cdv A outer s H E hr => ?_), hmf, Fd.kp, FunD.bindsN Fd (fun _ _ _ _ _ _ us hl => match us, hl with | [_], _ => rfl), ?_⟩
  · have hX : XG G (cxOf (L2.CX P wo) P wo K mg base ["rows", "index", "row"] "need_rows" (defScope t_need_rows) f cdv A outer s H E) := XG.of h.hK h.hm hr
    exact (psd_cons (psd_if ((pwd_or (ptd_not (pt_plain (qB (callD_isi hX h.anc) h.n_isinstance (by decide +kernel) rfl (pda_cons (qv 0 rfl rfl) (pda_cons (pd_tup (pda_cons (qTy h.n_list (by decide +kernel) rfl) (pda_cons (qTy h.n_tuple (by decide +kernel) rfl) pda_nil rfl) rfl)) pda_nil rfl) rfl) rfl rfl) (fun _ => rfl))) (pwd_one (isAnd := false) (ptd_not (ptd_chain (opD_le) (opD_le) pd_int (qB (callD_len hX) h.n_len (by decide +kernel) rfl (pda_cons (qv 0 rfl rfl) pda_nil rfl) rfl rfl) (qC h.c_MOST rfl) rfl))))).pt (psd_one (qRaiseI h.i_BadRows IF_BadRows h.n_super h.t_super hX tkOf hr (by decide) rfl pd_non rfl rfl)) psd_nil) (psd_one (psd_for hpOf hX.calm (qEnum hX h.n_enumerate rfl (pda_cons (qv 0 rfl rfl) pda_nil rfl) rfl) (qTgT hX (qTgC (qTgN S_need_rows.nd rfl rfl) (qTgC (qTgN S_need_rows.nd rfl rfl) qTgNil rfl) rfl) rfl rfl) (psd_one (psd_if ((pwd_or (ptd_not (pt_plain (qCall (ok_is_vector h) hr (by decide) tkOf rfl (pda_cons (qv 2 rfl rfl) pda_nil rfl) (lenL_cons lenL_nil) rfl rfl rfl) (fun _ => rfl))) (pwd_one (isAnd := false) (ptd_cmp (opD_ne hX) (qB (callD_len hX) h.n_len (by decide +kernel) rfl (pda_cons (qv 2 rfl rfl) pda_nil rfl) rfl rfl) (qB (callD_len hX) h.n_len (by decide +kernel) rfl (pda_cons (pd_ix hX (qv 0 rfl rfl) pd_int (fun _ _ => rfl)) pda_nil rfl) rfl rfl) rfl)))).pt (psd_one (qRaiseI h.i_BadRows IF_BadRows h.n_super h.t_super hX tkOf hr (by decide) rfl (qv 1 rfl rfl) rfl rfl)) psd_nil)) (fun _ => rfl))))
  · exact fun _ z => nomatch z
theorem ok_combined (h : HF P G K mg) : CalD G P wo K mg base 5 "combined" 2 f_combined [(0, ["rows", "weights"], [1, 0])] := by
  obtain ⟨f, fd, Fd, hmf⟩ := h.d_combined
  refine ⟨f, fd, ["weights", "rows"], rfl, fnOk_F Fd S_combined (fun cdv A outer s H E hr => ?_), hmf, Fd.kp, FunD.bindsN Fd (fun _ _ _ _ _ _ us hl => match us, hl with | [_, _], _ => rfl), ?_⟩
  · have hX : XG G (cxOf (L2.CX P wo) P wo K mg base ["weights", "rows"] "combined" (defScope t_combined) f cdv A outer s H E) := XG.of h.hK h.hm hr
    exact (psd_cons (psd_if (ptd_not (pt_plain (qCall (ok_is_vector h) hr (by decide) tkOf rfl (pda_cons (qv 0 rfl rfl) pda_nil rfl) (lenL_cons lenL_nil) rfl rfl rfl) (fun _ => rfl))) (psd_one (qRaise h.e_BadVector hX tkOf rfl (pda_cons pd_str pda_nil rfl) rfl rfl)) psd_nil) (psd_cons (psd_if ((pwd_or (ptd_not (pt_plain (qB (callD_isi hX h.anc) h.n_isinstance (by decide +kernel) rfl (pda_cons (qv 1 rfl rfl) (pda_cons (pd_tup (pda_cons (qTy h.n_list (by decide +kernel) rfl) (pda_cons (qTy h.n_tuple (by decide +kernel) rfl) pda_nil rfl) rfl)) pda_nil rfl) rfl) rfl rfl) (fun _ => rfl))) (pwd_one (isAnd := false) (ptd_cmp (opD_ne hX) (qB (callD_len hX) h.n_len (by decide +kernel) rfl (pda_cons (qv 1 rfl rfl) pda_nil rfl) rfl rfl) (qB (callD_len hX) h.n_len (by decide +kernel) rfl (pda_cons (qv 0 rfl rfl) pda_nil rfl) rfl rfl) rfl)))).pt (psd_one (qRaiseI h.i_BadRows IF_BadRows h.n_super h.t_super hX tkOf hr (by decide) rfl pd_non rfl rfl)) psd_nil) (psd_cons (psd_expr (qCall (ok_need_rows h) hr (by decide) tkOf rfl (pda_cons (qv 1 rfl rfl) pda_nil rfl) (lenL_cons lenL_nil) rfl rfl rfl) rfl) (psd_one (psd_ret (qCall (ok_mixed h) hr (by decide) tkOf rfl (pda_cons (qv 0 rfl rfl) (pda_cons (qv 1 rfl rfl) pda_nil rfl) rfl) (lenL_cons (lenL_cons lenL_nil)) rfl rfl rfl))))))
  · intro z hz
    simp only [List.mem_cons, List.not_mem_nil, or_false] at hz
    rcases hz with rfl
    · exact FunD.kb Fd (fun _ _ _ _ _ _ us ws l1 l2 => match us, ws, l1, l2 with | [], [_, _], _, _ => rfl)
theorem ok_is_word (h : HF P G K mg) : CalD G P wo K mg base 1 "is_word" 1 f_is_word [] := by
  obtain ⟨f, fd, Fd, hmf⟩ := h.d_is_word
  refine ⟨f, fd, ["value"], rfl, fnOk_F Fd S_is_word (fun cdv A outer s H E hr => ?_), hmf, Fd.kp, FunD.bindsN Fd (fun _ _ _ _ _ _ us hl => match us, hl with | [_], _ => rfl), ?_⟩
  · have hX : XG G (cxOf (L2.CX P wo) P wo K mg base ["value", "letter"] "is_word" (defScope t_is_word) f cdv A outer s H E) := XG.of h.hK h.hm hr
    exact (psd_one (psd_ret (pd_and (qB (callD_isi hX h.anc) h.n_isinstance (by decide +kernel) rfl (pda_cons (qv 0 rfl rfl) (pda_cons (qTy h.n_str (by decide +kernel) rfl) pda_nil rfl) rfl) rfl rfl) (pd_and (pd_chain (opD_le) (opD_le) pd_int (qB (callD_len hX) h.n_len (by decide +kernel) rfl (pda_cons (qv 0 rfl rfl) pda_nil rfl) rfl rfl) pd_int rfl) (pd_one (qB (callD_all hX) h.n_all (by decide +kernel) rfl (pda_cons (pd_lc (ow := [("letter", 1)]) hX.calm S_is_word.nd (pid_val hX.K (qv 0 rfl rfl)) (blk_by rfl) (fun _ _ _ _ _ => (qTgN S_is_word.nd rfl rfl)) (fun _ _ _ _ _ => pts0) (fun _ _ _ _ _ => (pd_cmp (opD_in (XG.blk hX)) (qv 1 rfl rfl) (qC h.c_LETTERS rfl) rfl)) (by decide) (fun _ => rfl)) pda_nil rfl) rfl rfl))))))
  · exact fun _ z => nomatch z
theorem ok__law_begun (h : HF P G K mg) : CalD G P wo K mg base 1 "_law_begun" 1 f__law_begun [] := by
  obtain ⟨f, fd, Fd, hmf⟩ := h.d__law_begun
  refine ⟨f, fd, ["script"], rfl, fnOk_F Fd S__law_begun (fun cdv A outer s H E hr => ?_), hmf, Fd.kp, FunD.bindsN Fd (fun _ _ _ _ _ _ us hl => match us, hl with | [_], _ => rfl), ?_⟩
  · have hX : XG G (cxOf (L2.CX P wo) P wo K mg base ["script", "great", "cell"] "_law_begun" (defScope t__law_begun) f cdv A outer s H E) := XG.of h.hK h.hm hr
    exact (psd_cons (qSetLcM [("cell", 2)] hX S__law_begun.nd rfl rfl rfl (pid_val hX.K (qv 0 rfl rfl)) (blk_by rfl) (fun _ _ _ _ _ => (qTgN S__law_begun.nd rfl rfl)) (fun _ _ _ _ _ => (pts1 (ptd_cmp (opD_ge) (qB (callD_abs) h.n_abs (by decide +kernel) rfl (pda_cons (qv 2 rfl rfl) pda_nil rfl) rfl rfl) (pd_bin (opD_pow) pd_int pd_int) rfl))) (fun _ _ _ _ _ => (pd_bin (opD_sub) (qB (callD_abs) h.n_abs (by decide +kernel) rfl (pda_cons (qv 2 rfl rfl) pda_nil rfl) rfl rfl) (pd_bin (opD_pow) pd_int pd_int))) (by decide) (fun _ => rfl)) (psd_one (psd_ret (pd_disp (ppd_cons pd_str (qv 1 rfl rfl) (ppd_cons pd_str (pd_lc (ow := [("cell", 2)]) hX.calm S__law_begun.nd (pid_val hX.K (qv 0 rfl rfl)) (blk_by rfl) (fun _ _ _ _ _ => (qTgN S__law_begun.nd rfl rfl)) (fun _ _ _ _ _ => pts0) (fun _ _ _ _ _ => (qB (callD_abs) h.n_abs (by decide +kernel) rfl (pda_cons (qv 2 rfl rfl) pda_nil rfl) rfl rfl)) (by decide) (fun _ => rfl)) (ppd_cons pd_str pd_int (ppd_cons pd_str pd_int ppd_nil)))) rfl rfl (by intro z; cases z) (by decide)))))
  · exact fun _ z => nomatch z
theorem ok__law_blended (h : HF P G K mg) : CalD G P wo K mg base 1 "_law_blended" 1 f__law_blended [] := by
  obtain ⟨f, fd, Fd, hmf⟩ := h.d__law_blended
  refine ⟨f, fd, ["state"], rfl, fnOk_F Fd S__law_blended (fun cdv A outer s H E hr => ?_), hmf, Fd.kp, FunD.bindsN Fd (fun _ _ _ _ _ _ us hl => match us, hl with | [_], _ => rfl), ?_⟩
  · have hX : XG G (cxOf (L2.CX P wo) P wo K mg base ["state", "turn", "found", "prime", "blend", "cell"] "_law_blended" (defScope t__law_blended) f cdv A outer s H E) := XG.of h.hK h.hm hr
    exact (psd_cons (qPar2 hX S__law_blended.nd rfl rfl (by decide) rfl rfl (pda_cons (pd_bin (opD_add hX) (pd_ix hX (qv 0 rfl rfl) pd_str (fun _ _ => rfl)) pd_int) (pda_cons pd_int pda_nil rfl) rfl) rfl rfl) (psd_cons (psd_setIx hX (qv 1 rfl rfl) (qv 0 rfl rfl) pd_str (fun _ => rfl) rfl rfl rfl) (psd_cons (psd_for hpOf hX.calm (pid_val hX.K (pd_lst (pda_cons pd_int (pda_cons pd_int (pda_cons pd_int pda_nil rfl) rfl) rfl))) (qTgN S__law_blended.nd rfl rfl) (psd_cons (qSet S__law_blended.nd rfl rfl (pd_bin (opD_add hX) (pd_bin (opD_mul hX) pd_int (qv 1 rfl rfl)) (pd_bin (opD_div) (qv 3 rfl rfl) pd_int)) rfl) (psd_cons (psd_for hpOf hX.calm (pid_val hX.K (pd_ix hX (qv 0 rfl rfl) pd_str (fun _ _ => rfl))) (qTgN S__law_blended.nd rfl rfl) (psd_one (qSet S__law_blended.nd rfl rfl (pd_bin (opD_mod) (qT (callD_int) h.n_int (by decide +kernel) rfl (pda_cons (pd_bin (opD_add hX) (pd_bin (opD_add hX) (pd_bin (opD_mul hX) (qv 4 rfl rfl) pd_int) (qv 5 rfl rfl)) (qv 1 rfl rfl)) pda_nil rfl) rfl rfl) (qv 3 rfl rfl)) rfl)) (fun _ => rfl)) (psd_one (qSet S__law_blended.nd rfl rfl (pd_bin (opD_add hX) (pd_bin (opD_mul hX) (qv 2 rfl rfl) pd_int) (pd_bin (opD_mod) (qT (callD_int) h.n_int (by decide +kernel) rfl (pda_cons (pd_bin (opD_pow) (qv 4 rfl rfl) pd_int) pda_nil rfl) rfl rfl) (qv 3 rfl rfl))) rfl)))) (fun _ => rfl)) (psd_one (psd_ret (qv 2 rfl rfl))))))
  · exact fun _ z => nomatch z
theorem ok__law_draw (h : HF P G K mg) : CalD G P wo K mg base 2 "_law_draw" 2 f__law_draw [] := by
  obtain ⟨f, fd, Fd, hmf⟩ := h.d__law_draw
  refine ⟨f, fd, ["state", "room"], rfl, fnOk_F Fd S__law_draw (fun cdv A outer s H E hr => ?_), hmf, Fd.kp, FunD.bindsN Fd (fun _ _ _ _ _ _ us hl => match us, hl with | [_, _], _ => rfl), ?_⟩
  · have hX : XG G (cxOf (L2.CX P wo) P wo K mg base ["state", "room", "found"] "_law_draw" (defScope t__law_draw) f cdv A outer s H E) := XG.of h.hK h.hm hr
    exact (psd_cons (psd_if (ptd_cmp (opD_eq hX) (pd_ix hX (qv 0 rfl rfl) pd_str (fun _ _ => rfl)) pd_int rfl) (psd_one (psd_setIx hX (ptd_if (ptd_cmp (opD_ne hX) (pd_ix hX (qv 0 rfl rfl) pd_str (fun _ _ => rfl)) (pd_lst pda_nil) rfl) (pd_m hX.K PySem.F.plainAttrs_list PySem.F.slot_list_pop PySem.F.type_list_pop (mtd_popAt) (pd_ix hX (qv 0 rfl rfl) pd_str (fun _ _ => rfl)) (pda_cons pd_int pda_nil rfl) rfl rfl rfl rfl rfl) (qCall (ok__law_blended h) hr (by decide) tkOf rfl (pda_cons (qv 0 rfl rfl) pda_nil rfl) (lenL_cons lenL_nil) rfl rfl rfl)) (qv 0 rfl rfl) pd_str (fun _ => rfl) rfl rfl rfl)) psd_nil) (psd_cons (qSet S__law_draw.nd rfl rfl (pd_bin (opD_mod) (qT (callD_int) h.n_int (by decide +kernel) rfl (pda_cons (pd_ix hX (qv 0 rfl rfl) pd_str (fun _ _ => rfl)) pda_nil rfl) rfl rfl) (qv 1 rfl rfl)) rfl) (psd_cons (psd_setIx hX (pd_bin (opD_div) (pd_ix hX (qv 0 rfl rfl) pd_str (fun _ _ => rfl)) (qv 1 rfl rfl)) (qv 0 rfl rfl) pd_str (fun _ => rfl) rfl rfl rfl) (psd_one (psd_ret (qv 2 rfl rfl))))))
  · exact fun _ z => nomatch z
theorem ok__law_pick (h : HF P G K mg) : CalD G P wo K mg base 3 "_law_pick" 2 f__law_pick [] := by
  obtain ⟨f, fd, Fd, hmf⟩ := h.d__law_pick
  refine ⟨f, fd, ["state", "some"], rfl, fnOk_F Fd S__law_pick (fun cdv A outer s H E hr => ?_), hmf, Fd.kp, FunD.bindsN Fd (fun _ _ _ _ _ _ us hl => match us, hl with | [_, _], _ => rfl), ?_⟩
  · have hX : XG G (cxOf (L2.CX P wo) P wo K mg base ["state", "some"] "_law_pick" (defScope t__law_pick) f cdv A outer s H E) := XG.of h.hK h.hm hr
    exact (psd_one (psd_ret (pd_ix hX (qv 1 rfl rfl) (qCall (ok__law_draw h) hr (by decide) tkOf rfl (pda_cons (qv 0 rfl rfl) (pda_cons (qB (callD_len hX) h.n_len (by decide +kernel) rfl (pda_cons (qv 1 rfl rfl) pda_nil rfl) rfl rfl) pda_nil rfl) rfl) (lenL_cons (lenL_cons lenL_nil)) rfl rfl rfl) (fun _ _ => rfl))))
  · exact fun _ z => nomatch z
theorem ok__law_is_truth (h : HF P G K mg) : CalD G P wo K mg base 1 "_law_is_truth" 2 f__law_is_truth [] := by
  obtain ⟨f, fd, Fd, hmf⟩ := h.d__law_is_truth
  refine ⟨f, fd, ["found", "due"], rfl, fnOk_F Fd S__law_is_truth (fun cdv A outer s H E hr => ?_), hmf, Fd.kp, FunD.bindsN Fd (fun _ _ _ _ _ _ us hl => match us, hl with | [_, _], _ => rfl), ?_⟩
  · have hX : XG G (cxOf (L2.CX P wo) P wo K mg base ["found", "due"] "_law_is_truth" (defScope t__law_is_truth) f cdv A outer s H E) := XG.of h.hK h.hm hr
    exact (psd_one (psd_ret (ptd_if (pt_plain (qv 1 rfl rfl) (fun _ => rfl)) (pd_cmp (opD_is) (qv 0 rfl rfl) pd_bl rfl) (pd_cmp (opD_is) (qv 0 rfl rfl) pd_bl rfl))))
  · exact fun _ z => nomatch z
theorem ok__law_same (h : HF P G K mg) : CalD G P wo K mg base 2 "_law_same" 2 f__law_same [] := by
  obtain ⟨f, fd, Fd, hmf⟩ := h.d__law_same
  refine ⟨f, fd, ["found", "due"], rfl, fnOk_T Fd S__law_same (fun cdv A outer s H E hr => ?_), hmf, Fd.kp, FunD.bindsN Fd (fun _ _ _ _ _ _ us hl => match us, hl with | [_, _], _ => rfl), ?_⟩
  · have hX : XG G (cxOf (L2.CX P wo) P wo K mg base ["found", "due", "waiting", "one", "other", "alike", "key", "left", "right"] "_law_same" (defScope t__law_same) f cdv A outer s H E) := XG.of h.hK h.hm hr
    exact (psd_cons (qSet S__law_same.nd rfl rfl (pd_lstM (pda_cons (pd_tup (pda_cons (qv 0 rfl rfl) (pda_cons (qv 1 rfl rfl) pda_nil rfl) rfl)) pda_nil rfl)) rfl) (psd_cons (psd_while hpOf (ptd_cmp (opD_ne hX) (qv 2 rfl rfl) (pd_lst pda_nil) rfl) (psd_cons (psd_unpack (pd_m0 hX.K PySem.F.plainAttrs_list PySem.F.slot_list_pop PySem.F.type_list_pop (mtd_pop) (qv 2 rfl rfl) rfl rfl) (qTgT hX (qTgC (qTgN S__law_same.nd rfl rfl) (qTgC (qTgN S__law_same.nd rfl rfl) qTgNil rfl) rfl) rfl rfl) rfl rfl rfl) (psd_one (psd_if ((pwd_or (ptd_cmp (opD_is) (qv 4 rfl rfl) pd_non rfl) (pwd_one (isAnd := false) (pt_plain (qB (callD_isi hX h.anc) h.n_isinstance (by decide +kernel) rfl (pda_cons (qv 4 rfl rfl) (pda_cons (qTy h.n_bool (by decide +kernel) rfl) pda_nil rfl) rfl) rfl rfl) (fun _ => rfl))))).pt (psd_one (psd_if (ptd_ifx (ptd_cmp (opD_is) (qv 4 rfl rfl) pd_non rfl) (ptd_cmp (opD_isNot) (qv 3 rfl rfl) pd_non rfl) (ptd_not (pt_plain (qCall (ok__law_is_truth h) hr (by decide) tkOf rfl (pda_cons (qv 3 rfl rfl) (pda_cons (qv 4 rfl rfl) pda_nil rfl) rfl) (lenL_cons (lenL_cons lenL_nil)) rfl rfl rfl) (fun _ => rfl)))) (psd_one (psd_ret pd_bl)) psd_nil)) (psd_one (psd_if (pt_plain (qB (callD_isi hX h.anc) h.n_isinstance (by decide +kernel) rfl (pda_cons (qv 4 rfl rfl) (pda_cons (pd_tup (pda_cons (qTy h.n_int (by decide +kernel) rfl) (pda_cons (qTy h.n_str (by decide +kernel) rfl) pda_nil rfl) rfl)) pda_nil rfl) rfl) rfl rfl) (fun _ => rfl)) (psd_one (psd_if ((pwd_or (pt_plain (qB (callD_isi hX h.anc) h.n_isinstance (by decide +kernel) rfl (pda_cons (qv 3 rfl rfl) (pda_cons (qTy h.n_bool (by decide +kernel) rfl) pda_nil rfl) rfl) rfl rfl) (fun _ => rfl)) (pwd_or (ptd_cmp (opD_ne hX) (qB (callD_isi hX h.anc) h.n_isinstance (by decide +kernel) rfl (pda_cons (qv 3 rfl rfl) (pda_cons (qTy h.n_int (by decide +kernel) rfl) pda_nil rfl) rfl) rfl rfl) (qB (callD_isi hX h.anc) h.n_isinstance (by decide +kernel) rfl (pda_cons (qv 4 rfl rfl) (pda_cons (qTy h.n_int (by decide +kernel) rfl) pda_nil rfl) rfl) rfl rfl) rfl) (pwd_one (isAnd := false) (ptd_cmp (opD_ne hX) (qv 3 rfl rfl) (qv 4 rfl rfl) rfl))))).pt (psd_one (psd_ret pd_bl)) psd_nil)) (psd_one (psd_if (pt_plain (qB (callD_isi hX h.anc) h.n_isinstance (by decide +kernel) rfl (pda_cons (qv 4 rfl rfl) (pda_cons (qTy h.n_dict (by decide +kernel) rfl) pda_nil rfl) rfl) rfl rfl) (fun _ => rfl)) pssd_never (psd_cons (qSet S__law_same.nd rfl rfl (pd_lst (pda_cons (pd_and (qB (callD_isi hX h.anc) h.n_isinstance (by decide +kernel) rfl (pda_cons (qv 3 rfl rfl) (pda_cons (qTy h.n_tuple (by decide +kernel) rfl) pda_nil rfl) rfl) rfl rfl) (pd_one (qB (callD_isi hX h.anc) h.n_isinstance (by decide +kernel) rfl (pda_cons (qv 4 rfl rfl) (pda_cons (qTy h.n_tuple (by decide +kernel) rfl) pda_nil rfl) rfl) rfl rfl))) (pda_cons (pd_and (qB (callD_isi hX h.anc) h.n_isinstance (by decide +kernel) rfl (pda_cons (qv 3 rfl rfl) (pda_cons (qTy h.n_list (by decide +kernel) rfl) pda_nil rfl) rfl) rfl rfl) (pd_one (qB (callD_isi hX h.anc) h.n_isinstance (by decide +kernel) rfl (pda_cons (qv 4 rfl rfl) (pda_cons (qTy h.n_list (by decide +kernel) rfl) pda_nil rfl) rfl) rfl rfl))) pda_nil rfl) rfl)) rfl) (psd_cons (psd_if ((pwd_or (ptd_cmp (opD_notIn hX) pd_bl (qv 5 rfl rfl) rfl) (pwd_one (isAnd := false) (ptd_cmp (opD_ne hX) (qB (callD_len hX) h.n_len (by decide +kernel) rfl (pda_cons (qv 3 rfl rfl) pda_nil rfl) rfl rfl) (qB (callD_len hX) h.n_len (by decide +kernel) rfl (pda_cons (qv 4 rfl rfl) pda_nil rfl) rfl rfl) rfl)))).pt (psd_one (psd_ret pd_bl)) psd_nil) (psd_one (psd_expr (pd_m hX.K PySem.F.plainAttrs_list PySem.F.slot_list_extend PySem.F.type_list_extend (mtd_extend) (qv 2 rfl rfl) (pda_cons (pd_lc (ow := [("left", 7), ("right", 8)]) hX.calm S__law_same.nd (qZip hX h.n_zip rfl (pda_cons (qv 3 rfl rfl) (pda_cons (qv 4 rfl rfl) pda_nil rfl) rfl) rfl rfl) (blk_by rfl) (fun _ _ _ _ _ => (qTgT (XG.blk hX) (qTgC (qTgN S__law_same.nd rfl rfl) (qTgC (qTgN S__law_same.nd rfl rfl) qTgNil rfl) rfl) rfl rfl)) (fun _ _ _ _ _ => pts0) (fun _ _ _ _ _ => (pd_tup (pda_cons (qv 7 rfl rfl) (pda_cons (qv 8 rfl rfl) pda_nil rfl) rfl))) (by decide) (fun _ => rfl)) pda_nil rfl) rfl rfl rfl rfl rfl) rfl)))))))))))) (psd_one (psd_ret pd_bl))))
  · exact fun _ z => nomatch z
theorem ok__law_q (h : HF P G K mg) : CalD G P wo K mg base 1 "_law_q" 2 f__law_q [] := by
  obtain ⟨f, fd, Fd, hmf⟩ := h.d__law_q
  refine ⟨f, fd, ["n", "d"], rfl, fnOk_F Fd S__law_q (fun cdv A outer s H E hr => ?_), hmf, Fd.kp, FunD.bindsN Fd (fun _ _ _ _ _ _ us hl => match us, hl with | [_, _], _ => rfl), ?_⟩
  · have hX : XG G (cxOf (L2.CX P wo) P wo K mg base ["n", "d", "one", "other"] "_law_q" (defScope t__law_q) f cdv A outer s H E) := XG.of h.hK h.hm hr
    exact (psd_cons (qPar2 hX S__law_q.nd rfl rfl (by decide) rfl rfl (pda_cons (qB (callD_abs) h.n_abs (by decide +kernel) rfl (pda_cons (qv 0 rfl rfl) pda_nil rfl) rfl rfl) (pda_cons (qB (callD_abs) h.n_abs (by decide +kernel) rfl (pda_cons (qv 1 rfl rfl) pda_nil rfl) rfl rfl) pda_nil rfl) rfl) rfl rfl) (psd_cons (psd_while hpOf (ptd_cmp (opD_gt) (qv 3 rfl rfl) pd_int rfl) (psd_one (qPar2 hX S__law_q.nd rfl rfl (by decide) rfl rfl (pda_cons (qv 3 rfl rfl) (pda_cons (pd_bin (opD_mod) (qT (callD_int) h.n_int (by decide +kernel) rfl (pda_cons (qv 2 rfl rfl) pda_nil rfl) rfl rfl) (qv 3 rfl rfl)) pda_nil rfl) rfl) rfl rfl))) (psd_one (psd_ret (ptd_if (ptd_cmp (opD_gt) (qv 1 rfl rfl) pd_int rfl) (pd_tup (pda_cons (pd_bin (opD_div) (qv 0 rfl rfl) (qv 2 rfl rfl)) (pda_cons (pd_bin (opD_div) (qv 1 rfl rfl) (qv 2 rfl rfl)) pda_nil rfl) rfl)) (pd_tup (pda_cons (pd_bin (opD_div) (pd_neg (qv 0 rfl rfl)) (qv 2 rfl rfl)) (pda_cons (pd_bin (opD_div) (pd_neg (qv 1 rfl rfl)) (qv 2 rfl rfl)) pda_nil rfl) rfl)))))))
  · exact fun _ z => nomatch z
theorem ok__law_plus (h : HF P G K mg) : CalD G P wo K mg base 2 "_law_plus" 2 f__law_plus [] := by
  obtain ⟨f, fd, Fd, hmf⟩ := h.d__law_plus
  refine ⟨f, fd, ["one", "other"], rfl, fnOk_F Fd S__law_plus (fun cdv A outer s H E hr => ?_), hmf, Fd.kp, FunD.bindsN Fd (fun _ _ _ _ _ _ us hl => match us, hl with | [_, _], _ => rfl), ?_⟩
  · have hX : XG G (cxOf (L2.CX P wo) P wo K mg base ["one", "other"] "_law_plus" (defScope t__law_plus) f cdv A outer s H E) := XG.of h.hK h.hm hr
    exact (psd_one (psd_ret (qCall (ok__law_q h) hr (by decide) tkOf rfl (pda_cons (pd_bin (opD_add hX) (pd_bin (opD_mul hX) (pd_ix hX (qv 0 rfl rfl) pd_int (fun _ _ => rfl)) (pd_ix hX (qv 1 rfl rfl) pd_int (fun _ _ => rfl))) (pd_bin (opD_mul hX) (pd_ix hX (qv 1 rfl rfl) pd_int (fun _ _ => rfl)) (pd_ix hX (qv 0 rfl rfl) pd_int (fun _ _ => rfl)))) (pda_cons (pd_bin (opD_mul hX) (pd_ix hX (qv 0 rfl rfl) pd_int (fun _ _ => rfl)) (pd_ix hX (qv 1 rfl rfl) pd_int (fun _ _ => rfl))) pda_nil rfl) rfl) (lenL_cons (lenL_cons lenL_nil)) rfl rfl rfl)))
  · exact fun _ z => nomatch z
theorem ok__law_times (h : HF P G K mg) : CalD G P wo K mg base 2 "_law_times" 2 f__law_times [] := by
  obtain ⟨f, fd, Fd, hmf⟩ := h.d__law_times
  refine ⟨f, fd, ["one", "other"], rfl, fnOk_F Fd S__law_times (fun cdv A outer s H E hr => ?_), hmf, Fd.kp, FunD.bindsN Fd (fun _ _ _ _ _ _ us hl => match us, hl with | [_, _], _ => rfl), ?_⟩
  · have hX : XG G (cxOf (L2.CX P wo) P wo K mg base ["one", "other"] "_law_times" (defScope t__law_times) f cdv A outer s H E) := XG.of h.hK h.hm hr
    exact (psd_one (psd_ret (qCall (ok__law_q h) hr (by decide) tkOf rfl (pda_cons (pd_bin (opD_mul hX) (pd_ix hX (qv 0 rfl rfl) pd_int (fun _ _ => rfl)) (pd_ix hX (qv 1 rfl rfl) pd_int (fun _ _ => rfl))) (pda_cons (pd_bin (opD_mul hX) (pd_ix hX (qv 0 rfl rfl) pd_int (fun _ _ => rfl)) (pd_ix hX (qv 1 rfl rfl) pd_int (fun _ _ => rfl))) pda_nil rfl) rfl) (lenL_cons (lenL_cons lenL_nil)) rfl rfl rfl)))
  · exact fun _ z => nomatch z
theorem ok__law_sum (h : HF P G K mg) : CalD G P wo K mg base 3 "_law_sum" 1 f__law_sum [] := by
  obtain ⟨f, fd, Fd, hmf⟩ := h.d__law_sum
  refine ⟨f, fd, ["some"], rfl, fnOk_F Fd S__law_sum (fun cdv A outer s H E hr => ?_), hmf, Fd.kp, FunD.bindsN Fd (fun _ _ _ _ _ _ us hl => match us, hl with | [_], _ => rfl), ?_⟩
  · have hX : XG G (cxOf (L2.CX P wo) P wo K mg base ["some", "found", "each"] "_law_sum" (defScope t__law_sum) f cdv A outer s H E) := XG.of h.hK h.hm hr
    exact (psd_cons (qSet S__law_sum.nd rfl rfl (pd_tup (pda_cons pd_int (pda_cons pd_int pda_nil rfl) rfl)) rfl) (psd_cons (psd_for hpOf hX.calm (pid_val hX.K (qv 0 rfl rfl)) (qTgN S__law_sum.nd rfl rfl) (psd_one (qSet S__law_sum.nd rfl rfl (qCall (ok__law_plus h) hr (by decide) tkOf rfl (pda_cons (qv 1 rfl rfl) (pda_cons (qv 2 rfl rfl) pda_nil rfl) rfl) (lenL_cons (lenL_cons lenL_nil)) rfl rfl rfl) rfl)) (fun _ => rfl)) (psd_one (psd_ret (qv 1 rfl rfl)))))
  · exact fun _ z => nomatch z
theorem ok__law_words (h : HF P G K mg) : CalD G P wo K mg base 4 "_law_words" 2 f__law_words [] := by
  obtain ⟨f, fd, Fd, hmf⟩ := h.d__law_words
  refine ⟨f, fd, ["draws", "many"], rfl, fnOk_F Fd S__law_words (fun cdv A outer s H E hr => ?_), hmf, Fd.kp, FunD.bindsN Fd (fun _ _ _ _ _ _ us hl => match us, hl with | [_, _], _ => rfl), ?_⟩
  · have hX : XG G (cxOf (L2.CX P wo) P wo K mg base ["draws", "many", "found", "word", "lap"] "_law_words" (defScope t__law_words) f cdv A outer s H E) := XG.of h.hK h.hm hr
    exact (psd_cons (qSet S__law_words.nd rfl rfl (pd_lst pda_nil) rfl) (psd_cons (psd_while hpOf (ptd_cmp (opD_lt) (qB (callD_len hX) h.n_len (by decide +kernel) rfl (pda_cons (qv 2 rfl rfl) pda_nil rfl) rfl rfl) (qv 1 rfl rfl) rfl) (psd_cons (qSet S__law_words.nd rfl rfl (pd_m hX.K PySem.F.plainAttrs_str PySem.F.slot_str_join PySem.F.type_str_join (mtd_join hX.K) pd_str (pda_cons (pd_lc (ow := [("lap", 4)]) hX.calm S__law_words.nd (qRange1 h.n_range rfl (pda_cons (pd_bin (opD_add hX) pd_int (qCall (ok__law_draw h) hr (by decide) tkOf rfl (pda_cons (qv 0 rfl rfl) (pda_cons pd_int pda_nil rfl) rfl) (lenL_cons (lenL_cons lenL_nil)) rfl rfl rfl)) pda_nil rfl) rfl) (blk_by rfl) (fun _ _ _ _ _ => (qTgN S__law_words.nd rfl rfl)) (fun _ _ _ _ _ => pts0) (fun _ _ _ _ _ => (qCall (ok__law_pick h) hr (by decide) tkB rfl (pda_cons (qv 0 rfl rfl) (pda_cons (qT (callD_list (XG.blk hX)) h.n_list (by decide +kernel) rfl (pda_cons pd_str pda_nil rfl) rfl rfl) pda_nil rfl) rfl) (lenL_cons (lenL_cons lenL_nil)) rfl rfl rfl)) (by decide) (fun _ => rfl)) pda_nil rfl) rfl rfl rfl rfl rfl) rfl) (psd_one (qSet S__law_words.nd rfl rfl (pd_bin (opD_add hX) (qv 2 rfl rfl) (ptd_if (ptd_cmp (opD_notIn hX) (qv 3 rfl rfl) (qv 2 rfl rfl) rfl) (pd_lst (pda_cons (qv 3 rfl rfl) pda_nil rfl)) (ptd_if ((pwd_and (ptd_cmp (opD_notIn hX) (pd_bin (opD_add hX) (pd_slice hX (qv 3 rfl rfl) pod_none (pod_some pd_int)) (pd_bin (opD_mul hX) pd_str (qB (callD_len hX) h.n_len (by decide +kernel) rfl (pda_cons (qv 2 rfl rfl) pda_nil rfl) rfl rfl))) (qv 2 rfl rfl) rfl) (pwd_one (isAnd := true) (ptd_cmp (opD_lt) (qB (callD_len hX) h.n_len (by decide +kernel) rfl (pda_cons (qv 2 rfl rfl) pda_nil rfl) rfl rfl) pd_int rfl)))).pt (pd_lst (pda_cons (pd_bin (opD_add hX) (pd_slice hX (qv 3 rfl rfl) pod_none (pod_some pd_int)) (pd_bin (opD_mul hX) pd_str (qB (callD_len hX) h.n_len (by decide +kernel) rfl (pda_cons (qv 2 rfl rfl) pda_nil rfl) rfl rfl))) pda_nil rfl)) (pd_lst pda_nil)))) rfl)))) (psd_one (psd_ret (qB (callD_sorted hX) h.n_sorted (by decide +kernel) rfl (pda_cons (qv 2 rfl rfl) pda_nil rfl) rfl rfl)))))
  · exact fun _ z => nomatch z
theorem ok__law_number (h : HF P G K mg) : CalD G P wo K mg base 4 "_law_number" 2 f__law_number [] := by
  obtain ⟨f, fd, Fd, hmf⟩ := h.d__law_number
  refine ⟨f, fd, ["draws", "size"], rfl, fnOk_F Fd S__law_number (fun cdv A outer s H E hr => ?_), hmf, Fd.kp, FunD.bindsN Fd (fun _ _ _ _ _ _ us hl => match us, hl with | [_, _], _ => rfl), ?_⟩
  · have hX : XG G (cxOf (L2.CX P wo) P wo K mg base ["draws", "size", "n", "d"] "_law_number" (defScope t__law_number) f cdv A outer s H E) := XG.of h.hK h.hm hr
    exact (psd_cons (qPar2 hX S__law_number.nd rfl rfl (by decide) rfl rfl (pda_cons (qCall (ok__law_draw h) hr (by decide) tkOf rfl (pda_cons (qv 0 rfl rfl) (pda_cons (pd_bin (opD_add hX) (qv 1 rfl rfl) pd_int) pda_nil rfl) rfl) (lenL_cons (lenL_cons lenL_nil)) rfl rfl rfl) (pda_cons (pd_bin (opD_add hX) pd_int (qCall (ok__law_draw h) hr (by decide) tkOf rfl (pda_cons (qv 0 rfl rfl) (pda_cons (qCall (ok__law_pick h) hr (by decide) tkOf rfl (pda_cons (qv 0 rfl rfl) (pda_cons (pd_lst (pda_cons pd_int (pda_cons pd_int (pda_cons pd_int (pda_cons (qv 1 rfl rfl) pda_nil rfl) rfl) rfl) rfl)) pda_nil rfl) rfl) (lenL_cons (lenL_cons lenL_nil)) rfl rfl rfl) pda_nil rfl) rfl) (lenL_cons (lenL_cons lenL_nil)) rfl rfl rfl)) pda_nil rfl) rfl) rfl rfl) (psd_one (psd_ret (qCall (ok__law_q h) hr (by decide) tkOf rfl (pda_cons (ptd_if (ptd_cmp (opD_eq hX) (qCall (ok__law_draw h) hr (by decide) tkOf rfl (pda_cons (qv 0 rfl rfl) (pda_cons pd_int pda_nil rfl) rfl) (lenL_cons (lenL_cons lenL_nil)) rfl rfl rfl) pd_int rfl) (qv 2 rfl rfl) (pd_bin (opD_sub) pd_int (qv 2 rfl rfl))) (pda_cons (qv 3 rfl rfl) pda_nil rfl) rfl) (lenL_cons (lenL_cons lenL_nil)) rfl rfl rfl))))
  · exact fun _ z => nomatch z
theorem ok__law_vector (h : HF P G K mg) : CalD G P wo K mg base 5 "_law_vector" 3 f__law_vector [] := by
  obtain ⟨f, fd, Fd, hmf⟩ := h.d__law_vector
  refine ⟨f, fd, ["draws", "many", "size"], rfl, fnOk_F Fd S__law_vector (fun cdv A outer s H E hr => ?_), hmf, Fd.kp, FunD.bindsN Fd (fun _ _ _ _ _ _ us hl => match us, hl with | [_, _, _], _ => rfl), ?_⟩
  · have hX : XG G (cxOf (L2.CX P wo) P wo K mg base ["draws", "many", "size", "lap"] "_law_vector" (defScope t__law_vector) f cdv A outer s H E) := XG.of h.hK h.hm hr
    exact (psd_one (psd_ret (qT (callD_tuple hX) h.n_tuple (by decide +kernel) rfl (pda_cons (pd_lc (ow := [("lap", 3)]) hX.calm S__law_vector.nd (qRange1 h.n_range rfl (pda_cons (qv 1 rfl rfl) pda_nil rfl) rfl) (blk_by rfl) (fun _ _ _ _ _ => (qTgN S__law_vector.nd rfl rfl)) (fun _ _ _ _ _ => pts0) (fun _ _ _ _ _ => (qCall (ok__law_pick h) hr (by decide) tkB rfl (pda_cons (qv 0 rfl rfl) (pda_cons (pd_lst (pda_cons (pd_tup (pda_cons pd_int (pda_cons pd_int pda_nil rfl) rfl)) (pda_cons (qCall (ok__law_number h) hr (by decide) tkB rfl (pda_cons (qv 0 rfl rfl) (pda_cons (qv 2 rfl rfl) pda_nil rfl) rfl) (lenL_cons (lenL_cons lenL_nil)) rfl rfl rfl) (pda_cons (qCall (ok__law_number h) hr (by decide) tkB rfl (pda_cons (qv 0 rfl rfl) (pda_cons (qv 2 rfl rfl) pda_nil rfl) rfl) (lenL_cons (lenL_cons lenL_nil)) rfl rfl rfl) pda_nil rfl) rfl) rfl)) pda_nil rfl) rfl) (lenL_cons (lenL_cons lenL_nil)) rfl rfl rfl)) (by decide) (fun _ => rfl)) pda_nil rfl) rfl rfl)))
  · exact fun _ z => nomatch z
theorem ok__law_dot (h : HF P G K mg) : CalD G P wo K mg base 4 "_law_dot" 2 f__law_dot [] := by
  obtain ⟨f, fd, Fd, hmf⟩ := h.d__law_dot
  refine ⟨f, fd, ["one", "other"], rfl, fnOk_F Fd S__law_dot (fun cdv A outer s H E hr => ?_), hmf, Fd.kp, FunD.bindsN Fd (fun _ _ _ _ _ _ us hl => match us, hl with | [_, _], _ => rfl), ?_⟩
  · have hX : XG G (cxOf (L2.CX P wo) P wo K mg base ["one", "other", "left", "right"] "_law_dot" (defScope t__law_dot) f cdv A outer s H E) := XG.of h.hK h.hm hr
    exact (psd_one (psd_ret (qCall (ok__law_sum h) hr (by decide) tkOf rfl (pda_cons (pd_lc (ow := [("left", 2), ("right", 3)]) hX.calm S__law_dot.nd (qZip hX h.n_zip rfl (pda_cons (qv 0 rfl rfl) (pda_cons (qv 1 rfl rfl) pda_nil rfl) rfl) rfl rfl) (blk_by rfl) (fun _ _ _ _ _ => (qTgT (XG.blk hX) (qTgC (qTgN S__law_dot.nd rfl rfl) (qTgC (qTgN S__law_dot.nd rfl rfl) qTgNil rfl) rfl) rfl rfl)) (fun _ _ _ _ _ => pts0) (fun _ _ _ _ _ => (qCall (ok__law_times h) hr (by decide) tkB rfl (pda_cons (qv 2 rfl rfl) (pda_cons (qv 3 rfl rfl) pda_nil rfl) rfl) (lenL_cons (lenL_cons lenL_nil)) rfl rfl rfl)) (by decide) (fun _ => rfl)) pda_nil rfl) (lenL_cons lenL_nil) rfl rfl rfl)))
  · exact fun _ z => nomatch z
theorem ok__law_mixed (h : HF P G K mg) : CalD G P wo K mg base 4 "_law_mixed" 3 f__law_mixed [] := by
  obtain ⟨f, fd, Fd, hmf⟩ := h.d__law_mixed
  refine ⟨f, fd, ["weights", "rows", "width"], rfl, fnOk_F Fd S__law_mixed (fun cdv A outer s H E hr => ?_), hmf, Fd.kp, FunD.bindsN Fd (fun _ _ _ _ _ _ us hl => match us, hl with | [_, _, _], _ => rfl), ?_⟩
  · have hX : XG G (cxOf (L2.CX P wo) P wo K mg base ["weights", "rows", "width", "at", "weight", "row"] "_law_mixed" (defScope t__law_mixed) f cdv A outer s H E) := XG.of h.hK h.hm hr
    exact (psd_one (psd_ret (qT (callD_tuple hX) h.n_tuple (by decide +kernel) rfl (pda_cons (pd_lc (ow := [("at", 3)]) hX.calm S__law_mixed.nd (qRange1 h.n_range rfl (pda_cons (qv 2 rfl rfl) pda_nil rfl) rfl) (blk_by rfl) (fun _ _ _ _ _ => (qTgN S__law_mixed.nd rfl rfl)) (fun _ _ _ _ _ => pts0) (fun _ _ _ _ _ => (qCall (ok__law_sum h) hr (by decide) tkB rfl (pda_cons (pd_lc (ow := [("weight", 4), ("row", 5)]) (XG.blk hX).calm S__law_mixed.nd (qZip (XG.blk hX) h.n_zip rfl (pda_cons (qv 0 rfl rfl) (pda_cons (qv 1 rfl rfl) pda_nil rfl) rfl) rfl rfl) (blk_by rfl) (fun _ _ _ _ _ => (qTgT (XG.blk (XG.blk hX)) (qTgC (qTgN S__law_mixed.nd rfl rfl) (qTgC (qTgN S__law_mixed.nd rfl rfl) qTgNil rfl) rfl) rfl rfl)) (fun _ _ _ _ _ => pts0) (fun _ _ _ _ _ => (qCall (ok__law_times h) hr (by decide) tkB rfl (pda_cons (qv 4 rfl rfl) (pda_cons (pd_ix (XG.blk (XG.blk hX)) (qv 5 rfl rfl) (qv 3 rfl rfl) (fun _ _ => rfl)) pda_nil rfl) rfl) (lenL_cons (lenL_cons lenL_nil)) rfl rfl rfl)) (by decide) (fun _ => rfl)) pda_nil rfl) (lenL_cons lenL_nil) rfl rfl rfl)) (by decide) (fun _ => rfl)) pda_nil rfl) rfl rfl)))
  · exact fun _ z => nomatch z
theorem ok__law_is_ratio (h : HF P G K mg) : CalD G P wo K mg base 2 "_law_is_ratio" 1 f__law_is_ratio [] := by
  obtain ⟨f, fd, Fd, hmf⟩ := h.d__law_is_ratio
  refine ⟨f, fd, ["value"], rfl, fnOk_F Fd S__law_is_ratio (fun cdv A outer s H E hr => ?_), hmf, Fd.kp, FunD.bindsN Fd (fun _ _ _ _ _ _ us hl => match us, hl with | [_], _ => rfl), ?_⟩
  · have hX : XG G (cxOf (L2.CX P wo) P wo K mg base ["value", "part"] "_law_is_ratio" (defScope t__law_is_ratio) f cdv A outer s H E) := XG.of h.hK h.hm hr
    exact (psd_cons (psd_if ((pwd_or (ptd_not (pt_plain (qB (callD_isi hX h.anc) h.n_isinstance (by decide +kernel) rfl (pda_cons (qv 0 rfl rfl) (pda_cons (qTy h.n_tuple (by decide +kernel) rfl) pda_nil rfl) rfl) rfl rfl) (fun _ => rfl))) (pwd_or (ptd_cmp (opD_ne hX) (qB (callD_len hX) h.n_len (by decide +kernel) rfl (pda_cons (qv 0 rfl rfl) pda_nil rfl) rfl rfl) pd_int rfl) (pwd_one (isAnd := false) (ptd_cmp (opD_ne hX) (pd_lc (ow := [("part", 1)]) hX.calm S__law_is_ratio.nd (pid_val hX.K (qv 0 rfl rfl)) (blk_by rfl) (fun _ _ _ _ _ => (qTgN S__law_is_ratio.nd rfl rfl)) (fun _ _ _ _ _ => (pts1 ((pwd_or (ptd_not (pt_plain (qB (callD_isi (XG.blk hX) h.anc) h.n_isinstance (by decide +kernel) rfl (pda_cons (qv 1 rfl rfl) (pda_cons (qTy h.n_int (by decide +kernel) rfl) pda_nil rfl) rfl) rfl rfl) (fun _ => rfl))) (pwd_one (isAnd := false) (pt_plain (qB (callD_isi (XG.blk hX) h.anc) h.n_isinstance (by decide +kernel) rfl (pda_cons (qv 1 rfl rfl) (pda_cons (qTy h.n_bool (by decide +kernel) rfl) pda_nil rfl) rfl) rfl rfl) (fun _ => rfl))))).pt)) (fun _ _ _ _ _ => pd_int) (by decide) (fun _ => rfl)) (pd_lst pda_nil) rfl))))).pt (psd_one (psd_ret pd_bl)) psd_nil) (psd_one (psd_ret (pd_and (pd_cmp (opD_gt) (pd_ix hX (qv 0 rfl rfl) pd_int (fun _ _ => rfl)) pd_int rfl) (pd_one (pd_cmp (opD_eq hX) (qCall (ok__law_q h) hr (by decide) tkOf rfl (pda_cons (pd_ix hX (qv 0 rfl rfl) pd_int (fun _ _ => rfl)) (pda_cons (pd_ix hX (qv 0 rfl rfl) pd_int (fun _ _ => rfl)) pda_nil rfl) rfl) (lenL_cons (lenL_cons lenL_nil)) rfl rfl rfl) (qv 0 rfl rfl) rfl))))))
  · exact fun _ z => nomatch z
theorem ok__law_near (h : HF P G K mg) : CalD G P wo K mg base 4 "_law_near" 1 f__law_near [] := by
  obtain ⟨f, fd, Fd, hmf⟩ := h.d__law_near
  refine ⟨f, fd, ["draws"], rfl, fnOk_F Fd S__law_near (fun cdv A outer s H E hr => ?_), hmf, Fd.kp, FunD.bindsN Fd (fun _ _ _ _ _ _ us hl => match us, hl with | [_], _ => rfl), ?_⟩
  · have hX : XG G (cxOf (L2.CX P wo) P wo K mg base ["draws", "n", "d", "some"] "_law_near" (defScope t__law_near) f cdv A outer s H E) := XG.of h.hK h.hm hr
    exact (psd_cons (qPar2 hX S__law_near.nd rfl rfl (by decide) rfl rfl (pda_cons (qCall (ok__law_draw h) hr (by decide) tkOf rfl (pda_cons (qv 0 rfl rfl) (pda_cons (pd_bin (opD_pow) pd_int pd_int) pda_nil rfl) rfl) (lenL_cons (lenL_cons lenL_nil)) rfl rfl rfl) (pda_cons (pd_bin (opD_add hX) pd_int (qCall (ok__law_draw h) hr (by decide) tkOf rfl (pda_cons (qv 0 rfl rfl) (pda_cons (pd_bin (opD_pow) pd_int pd_int) pda_nil rfl) rfl) (lenL_cons (lenL_cons lenL_nil)) rfl rfl rfl)) pda_nil rfl) rfl) rfl rfl) (psd_cons (qSet S__law_near.nd rfl rfl (pd_lst (pda_cons (qCall (ok__law_q h) hr (by decide) tkOf rfl (pda_cons (qv 1 rfl rfl) (pda_cons (qv 2 rfl rfl) pda_nil rfl) rfl) (lenL_cons (lenL_cons lenL_nil)) rfl rfl rfl) (pda_cons (qCall (ok__law_q h) hr (by decide) tkOf rfl (pda_cons (pd_bin (opD_sub) pd_int (qv 1 rfl rfl)) (pda_cons (qv 2 rfl rfl) pda_nil rfl) rfl) (lenL_cons (lenL_cons lenL_nil)) rfl rfl rfl) (pda_cons (pd_tup (pda_cons (qv 1 rfl rfl) (pda_cons (qv 2 rfl rfl) pda_nil rfl) rfl)) (pda_cons (pd_tup (pda_cons (pd_bin (opD_mul hX) (qv 1 rfl rfl) pd_int) (pda_cons (pd_bin (opD_mul hX) (qv 2 rfl rfl) pd_int) pda_nil rfl) rfl)) (pda_cons (pd_tup (pda_cons (qv 1 rfl rfl) (pda_cons (pd_bin (opD_sub) pd_int (qv 2 rfl rfl)) pda_nil rfl) rfl)) (pda_cons (pd_lst (pda_cons (qv 1 rfl rfl) (pda_cons (qv 2 rfl rfl) pda_nil rfl) rfl)) (pda_cons (pd_tup (pda_cons (qv 1 rfl rfl) pda_nil rfl)) (pda_cons (pd_tup (pda_cons (qv 1 rfl rfl) (pda_cons (qv 2 rfl rfl) (pda_cons pd_int pda_nil rfl) rfl) rfl)) (pda_cons (pd_tup (pda_cons pd_bl (pda_cons pd_int pda_nil rfl) rfl)) (pda_cons (pd_tup (pda_cons pd_int (pda_cons pd_int pda_nil rfl) rfl)) (pda_cons (pd_tup (pda_cons pd_int (pda_cons pd_int pda_nil rfl) rfl)) (pda_cons (pd_tup (pda_cons pd_int (pda_cons pd_int pda_nil rfl) rfl)) (pda_cons pd_non (pda_cons (qv 1 rfl rfl) (pda_cons (pd_tup (pda_cons (qT (callD_str) h.n_str (by decide +kernel) rfl (pda_cons (qv 1 rfl rfl) pda_nil rfl) rfl rfl) (pda_cons (qv 2 rfl rfl) pda_nil rfl) rfl)) pda_nil rfl) rfl) rfl) rfl) rfl) rfl) rfl) rfl) rfl) rfl) rfl) rfl) rfl) rfl) rfl)) rfl) (psd_one (psd_ret (qCall (ok__law_pick h) hr (by decide) tkOf rfl (pda_cons (qv 0 rfl rfl) (pda_cons (qv 3 rfl rfl) pda_nil rfl) rfl) (lenL_cons (lenL_cons lenL_nil)) rfl rfl rfl)))))
  · exact fun _ z => nomatch z
theorem ok__law_sums_right (h : HF P G K mg) : CalD G P wo K mg base 6 "_law_sums_right" 1 f__law_sums_right [] := by
  obtain ⟨f, fd, Fd, hmf⟩ := h.d__law_sums_right
  refine ⟨f, fd, ["draws"], rfl, fnOk_F Fd S__law_sums_right (fun cdv A outer s H E hr => ?_), hmf, Fd.kp, FunD.bindsN Fd (fun _ _ _ _ _ _ us hl => match us, hl with | [_], _ => rfl), ?_⟩
  · have hX : XG G (cxOf (L2.CX P wo) P wo K mg base ["draws", "many", "one", "other", "rows", "weights", "due", "value", "lap", "part"] "_law_sums_right" (defScope t__law_sums_right) f cdv A outer s H E) := XG.of h.hK h.hm hr
    exact (psd_cons (qSet S__law_sums_right.nd rfl rfl (qCall (ok__law_pick h) hr (by decide) tkOf rfl (pda_cons (qv 0 rfl rfl) (pda_cons (pd_lst (pda_cons pd_int (pda_cons pd_int (pda_cons pd_int (pda_cons pd_int (pda_cons pd_int (pda_cons pd_int pda_nil rfl) rfl) rfl) rfl) rfl) rfl)) pda_nil rfl) rfl) (lenL_cons (lenL_cons lenL_nil)) rfl rfl rfl) rfl) (psd_cons (qPar2 hX S__law_sums_right.nd rfl rfl (by decide) rfl rfl (pda_cons (qCall (ok__law_vector h) hr (by decide) tkOf rfl (pda_cons (qv 0 rfl rfl) (pda_cons (qv 1 rfl rfl) (pda_cons (pd_bin (opD_pow) pd_int pd_int) pda_nil rfl) rfl) rfl) (lenL_cons (lenL_cons (lenL_cons lenL_nil))) rfl rfl rfl) (pda_cons (qCall (ok__law_vector h) hr (by decide) tkOf rfl (pda_cons (qv 0 rfl rfl) (pda_cons (qv 1 rfl rfl) (pda_cons (pd_bin (opD_pow) pd_int pd_int) pda_nil rfl) rfl) rfl) (lenL_cons (lenL_cons (lenL_cons lenL_nil))) rfl rfl rfl) pda_nil rfl) rfl) rfl rfl) (psd_cons (psd_if ((pwd_or (ptd_not (pt_plain (qCall (ok__law_same h) hr (by decide) tkOf rfl (pda_cons (qCall (ok_inner h) hr (by decide) tkOf rfl (pda_cons (qv 2 rfl rfl) (pda_cons (qv 3 rfl rfl) pda_nil rfl) rfl) (lenL_cons (lenL_cons lenL_nil)) rfl rfl rfl) (pda_cons (qCall (ok__law_dot h) hr (by decide) tkOf rfl (pda_cons (qv 2 rfl rfl) (pda_cons (qv 3 rfl rfl) pda_nil rfl) rfl) (lenL_cons (lenL_cons lenL_nil)) rfl rfl rfl) pda_nil rfl) rfl) (lenL_cons (lenL_cons lenL_nil)) rfl rfl rfl) (fun _ => rfl))) (pwd_one (isAnd := false) (ptd_not (pt_plain (qCall (ok__law_same h) hr (by decide) tkOf rfl (pda_cons (pd_callK0 (ks := ["other", "one"]) (ok_inner h) (by decide) hr (by decide) tkOf (glB_gl rfl).1 (pdk_cons (qv 2 rfl rfl) (pdk_cons (qv 3 rfl rfl) pdk_nil)) (lenL_cons (lenL_cons lenL_nil)) (fun _ hz => pick_len (by decide) hz) rfl rfl (by decide) rfl) (pda_cons (qCall (ok__law_dot h) hr (by decide) tkOf rfl (pda_cons (qv 2 rfl rfl) (pda_cons (qv 3 rfl rfl) pda_nil rfl) rfl) (lenL_cons (lenL_cons lenL_nil)) rfl rfl rfl) pda_nil rfl) rfl) (lenL_cons (lenL_cons lenL_nil)) rfl rfl rfl) (fun _ => rfl)))))).pt (psd_one (psd_ret pd_bl)) psd_nil) (psd_cons (qSetLc [("lap", 8)] hX S__law_sums_right.nd rfl rfl rfl (qRange1 h.n_range rfl (pda_cons (pd_bin (opD_add hX) pd_int (qCall (ok__law_draw h) hr (by decide) tkOf rfl (pda_cons (qv 0 rfl rfl) (pda_cons pd_int pda_nil rfl) rfl) (lenL_cons (lenL_cons lenL_nil)) rfl rfl rfl)) pda_nil rfl) rfl) (blk_by rfl) (fun _ _ _ _ _ => (qTgN S__law_sums_right.nd rfl rfl)) (fun _ _ _ _ _ => pts0) (fun _ _ _ _ _ => (qCall (ok__law_vector h) hr (by decide) tkB rfl (pda_cons (qv 0 rfl rfl) (pda_cons (qB (callD_min (XG.blk hX)) h.n_min (by decide +kernel) rfl (pda_cons (qv 1 rfl rfl) (pda_cons pd_int pda_nil rfl) rfl) rfl rfl) (pda_cons pd_int pda_nil rfl) rfl) rfl) (lenL_cons (lenL_cons (lenL_cons lenL_nil))) rfl rfl rfl)) (by decide) (fun _ => rfl)) (psd_cons (qSet S__law_sums_right.nd rfl rfl (qCall (ok__law_vector h) hr (by decide) tkOf rfl (pda_cons (qv 0 rfl rfl) (pda_cons (qB (callD_len hX) h.n_len (by decide +kernel) rfl (pda_cons (qv 4 rfl rfl) pda_nil rfl) rfl rfl) (pda_cons pd_int pda_nil rfl) rfl) rfl) (lenL_cons (lenL_cons (lenL_cons lenL_nil))) rfl rfl rfl) rfl) (psd_cons (qSet S__law_sums_right.nd rfl rfl (qCall (ok__law_mixed h) hr (by decide) tkOf rfl (pda_cons (qv 5 rfl rfl) (pda_cons (qv 4 rfl rfl) (pda_cons (qB (callD_min hX) h.n_min (by decide +kernel) rfl (pda_cons (qv 1 rfl rfl) (pda_cons pd_int pda_nil rfl) rfl) rfl rfl) pda_nil rfl) rfl) rfl) (lenL_cons (lenL_cons (lenL_cons lenL_nil))) rfl rfl rfl) rfl) (psd_cons (psd_if ((pwd_or (ptd_not (pt_plain (qCall (ok__law_same h) hr (by decide) tkOf rfl (pda_cons (qCall (ok_combined h) hr (by decide) tkOf rfl (pda_cons (qv 5 rfl rfl) (pda_cons (qv 4 rfl rfl) pda_nil rfl) rfl) (lenL_cons (lenL_cons lenL_nil)) rfl rfl rfl) (pda_cons (qv 6 rfl rfl) pda_nil rfl) rfl) (lenL_cons (lenL_cons lenL_nil)) rfl rfl rfl) (fun _ => rfl))) (pwd_one (isAnd := false) (ptd_not (pt_plain (qCall (ok__law_same h) hr (by decide) tkOf rfl (pda_cons (pd_callK0 (ks := ["rows", "weights"]) (ok_combined h) (by decide) hr (by decide) tkOf (glB_gl rfl).1 (pdk_cons (qT (callD_tuple hX) h.n_tuple (by decide +kernel) rfl (pda_cons (qv 4 rfl rfl) pda_nil rfl) rfl rfl) (pdk_cons (qv 5 rfl rfl) pdk_nil)) (lenL_cons (lenL_cons lenL_nil)) (fun _ hz => pick_len (by decide) hz) rfl rfl (by decide) rfl) (pda_cons (qv 6 rfl rfl) pda_nil rfl) rfl) (lenL_cons (lenL_cons lenL_nil)) rfl rfl rfl) (fun _ => rfl)))))).pt (psd_one (psd_ret pd_bl)) psd_nil) (psd_cons (psd_for hpOf hX.calm (pid_val hX.K (pd_lst (pda_cons (qv 2 rfl rfl) (pda_cons (qT (callD_list hX) h.n_list (by decide +kernel) rfl (pda_cons (qv 2 rfl rfl) pda_nil rfl) rfl rfl) (pda_cons (pd_bin (opD_add hX) (qv 2 rfl rfl) (pd_tup (pda_cons pd_non pda_nil rfl))) (pda_cons (pd_bin (opD_add hX) (qv 2 rfl rfl) (pd_tup (pda_cons (pd_tup (pda_cons pd_int (pda_cons pd_int pda_nil rfl) rfl)) pda_nil rfl))) (pda_cons (pd_bin (opD_mul hX) (qv 2 rfl rfl) pd_int) (pda_cons (pd_tup pda_nil) (pda_cons (pd_tup (pda_cons (qv 2 rfl rfl) pda_nil rfl)) (pda_cons pd_non (pda_cons (pd_slice hX (qv 2 rfl rfl) pod_none (pod_some pd_int)) pda_nil rfl) rfl) rfl) rfl) rfl) rfl) rfl) rfl) rfl))) (qTgN S__law_sums_right.nd rfl rfl) (psd_cons (qSet S__law_sums_right.nd rfl rfl (pd_and (qB (callD_isi hX h.anc) h.n_isinstance (by decide +kernel) rfl (pda_cons (qv 7 rfl rfl) (pda_cons (qTy h.n_tuple (by decide +kernel) rfl) pda_nil rfl) rfl) rfl rfl) (pd_and (pd_chain (opD_le) (opD_le) pd_int (qB (callD_len hX) h.n_len (by decide +kernel) rfl (pda_cons (qv 7 rfl rfl) pda_nil rfl) rfl rfl) pd_int rfl) (pd_one (pd_cmp (opD_eq hX) (pd_lc (ow := [("part", 9)]) hX.calm S__law_sums_right.nd (pid_val hX.K (qv 7 rfl rfl)) (blk_by rfl) (fun _ _ _ _ _ => (qTgN S__law_sums_right.nd rfl rfl)) (fun _ _ _ _ _ => (pts1 (ptd_not (pt_plain (qCall (ok__law_is_ratio h) hr (by decide) tkB rfl (pda_cons (qv 9 rfl rfl) pda_nil rfl) (lenL_cons lenL_nil) rfl rfl rfl) (fun _ => rfl))))) (fun _ _ _ _ _ => pd_int) (by decide) (fun _ => rfl)) (pd_lst pda_nil) rfl)))) rfl) (psd_one (psd_if ((pwd_or (ptd_not (pt_plain (qCall (ok__law_is_truth h) hr (by decide) tkOf rfl (pda_cons (qCall (ok_is_vector h) hr (by decide) tkOf rfl (pda_cons (qv 7 rfl rfl) pda_nil rfl) (lenL_cons lenL_nil) rfl rfl rfl) (pda_cons (qv 6 rfl rfl) pda_nil rfl) rfl) (lenL_cons (lenL_cons lenL_nil)) rfl rfl rfl) (fun _ => rfl))) (pwd_one (isAnd := false) (ptd_cmp (opD_ne hX) (pd_callK0 (ks := ["value"]) (ok_is_vector h) (by decide) hr (by decide) tkOf (glB_gl rfl).1 (pdk_cons (qv 7 rfl rfl) pdk_nil) (lenL_cons lenL_nil) (fun _ hz => pick_len (by decide) hz) rfl rfl (by decide) rfl) (qv 6 rfl rfl) rfl)))).pt (psd_one (psd_ret pd_bl)) psd_nil))) (fun _ => rfl)) (psd_one (psd_ret pd_bl))))))))))
  · exact fun _ z => nomatch z
end
end K00

set_option Elab.async false
set_option linter.all false
set_option maxRecDepth 100000
set_option maxHeartbeats 4000000
namespace K00
open PySem PySem.Spec PyProof.Rows L2 DI
structure Mk (G : Gb) (K : PySem.W.Frag) (mg : Str → Option Value) (base : Heap) : Prop where
  m__law_refused : ∀ f fd, mg "_law_refused" = some (.ref f) → FunD K "_law_refused" "_law_refused" (defArgs t__law_refused) (defBody t__law_refused) (defScope t__law_refused) [] [] f fd → MkF G mg base (envOfC "_law_refused" (defScope t__law_refused) 0 0 .none).qual fd
noncomputable def fns (x : Str) : Option (Nat × FnD) := none
noncomputable def bd__law_refused : Nat → EvE
  | 0 => (cCallC f_inner (cCons (cVar 7) (cCons (cC .non) cNil)))
  | 1 => (cCallC f_inner (cCons (cVar 8) (cCons (cVar 7) cNil)))
  | 2 => (cCallC f_combined (cCons (cVar 7) (cCons (cC .non) cNil)))
  | 3 => (cCallC f_inner (cCons (cVar 8) (cCons (cBin fAdd (cVar 8) (cFn fTup (cCons (cFn fTup (cCons (cC (.int 1)) (cCons (cC (.int 1)) cNil))) cNil))) cNil)))
  | 4 => (cCallC f_combined (cCons (cVar 8) (cCons (cVar 9) cNil)))
  | 5 => (cCallC f_combined (cCons (cVar 8) (cCons (cVar 9) cNil)))
  | 6 => (cCallC f_ratio (cCons (cCallC f__law_pick (cCons (cVar 0) (cCons (cFn fLst (cCons (cC .non) (cCons (cC (.bl true)) (cCons (cC (.str "1")) (cCons (cFn fTup (cCons (cC (.int 1)) (cCons (cC (.int 1)) cNil))) cNil))))) cNil))) (cCons (cC (.int 0)) cNil)))
  | 7 => (cCallC f_ratio (cCons (cC (.int 4)) (cCons (cCallC f__law_pick (cCons (cVar 0) (cCons (cFn fLst (cCons (cC (.int 0)) (cCons (cC .non) (cCons (cC (.bl false)) cNil)))) cNil))) cNil)))
  | _ => cStuck
def ks__law_refused (k : Nat) : Bool := k == 0 || k == 1 || k == 2 || k == 3 || k == 4 || k == 5 || k == 6 || k == 7
noncomputable def b__law_refused : EvS := (sSeq (sSet (.tp [(.nm 8), (.nm 7)]) (cFn fTup (cCons (cCallC f__law_vector (cCons (cVar 0) (cCons (cC (.int 3)) (cCons (cC (.int 9)) cNil)))) (cCons (cCallC f__law_pick (cCons (cVar 0) (cCons (cFn fLst (cCons (cC .non) (cCons (cFn fTup cNil) (cCons (cFn fLst (cCons (cFn fTup (cCons (cC (.int 1)) (cCons (cC (.int 1)) cNil))) cNil)) (cCons (cFn fTup (cCons (cFn fTup (cCons (cC (.int 2)) (cCons (cC (.int 4)) cNil))) cNil)) (cCons (cC (.int 5)) (cCons (cFn fTup (cCons (cFn fTup (cCons (cC (.int 1)) (cCons (cC (.int 1)) cNil))) (cCons (cC .non) cNil))) cNil))))))) cNil))) cNil)))) (sSeq (sFor (cIter (cFn fLst (cCons (cLam 0) (cCons (cLam 1) (cCons (cLam 2) cNil))))) (.nm 1) (sIf (cNot (cFn (gIsi anc) (cCons (cCaught ks__law_refused bd__law_refused catB (cVar 1)) (cCons (cC (.fn "BadVector")) cNil)))) (sRet (cC (.bl false))) sNil)) (sSeq (sIf (cNot (cFn (gIsi anc) (cCons (cCaught ks__law_refused bd__law_refused catB (cLam 3)) (cCons (cC (.fn "BadWidth")) cNil)))) (sRet (cC (.bl false))) sNil) (sSeq (sSet (.nm 2) (cFn fLst (cCons (cVar 8) (cCons (cVar 8) (cCons (cVar 8) cNil))))) (sSeq (sSet (.nm 3) (cCallC f__law_draw (cCons (cVar 0) (cCons (cC (.int 3)) cNil)))) (sSeq (sFor (cIter (cFn fLst (cCons (cC .non) (cCons (cFn gList (cCons (cVar 8) cNil)) (cCons (cSl (cVar 8) cNo (cPart (cC (.int 2)))) (cCons (cBin fAdd (cVar 8) (cFn fTup (cCons (cFn fTup (cCons (cC (.int 1)) (cCons (cC (.int 1)) cNil))) cNil))) (cCons (cFn fTup cNil) cNil))))))) (.nm 4) (sSeq (sSet (.nm 9) (cBin fAdd (cBin fAdd (cSl (cVar 2) cNo (cPart (cVar 3))) (cFn fLst (cCons (cVar 4) cNil))) (cSl (cVar 2) (cPart (cBin fAdd (cVar 3) (cC (.int 1)))) cNo))) (sSeq (sSet (.nm 5) (cCaught ks__law_refused bd__law_refused catB (cLam 4))) (sSeq (sSet (.nm 6) (cVar 3)) (sSeq (sIf (cAnd (cBin fEq (cVar 3) (cC (.int 0))) (cAnd (cFn (gIsi anc) (cCons (cVar 4) (cCons (cC (.ty "tuple")) cNil))) (cBin fIn (cFn gLen (cCons (cVar 4) cNil)) (cFn fLst (cCons (cC (.int 2)) (cCons (cC (.int 4)) cNil)))))) (sSet (.nm 6) (cC (.int 1))) sNil) (sIf (cOr (cNot (cFn (gIsi anc) (cCons (cVar 5) (cCons (cC (.fn "BadRows")) cNil)))) (cBin fNe (cExF (okAt "BadRows") "index" (cVar 5)) (cVar 6))) (sRet (cC (.bl false))) sNil)))))) (sSeq (sFor (cIter (cFn fLst (cCons (cC .non) (cCons (cFn fLst cNil) (cCons (cSl (cVar 2) cNo (cPart (cC (.int 2)))) (cCons cDict0 (cCons (cBin fAdd (cVar 2) (cVar 2)) cNil))))))) (.nm 9) (sSeq (sSet (.nm 5) (cCaught ks__law_refused bd__law_refused catB (cLam 5))) (sIf (cOr (cNot (cFn (gIsi anc) (cCons (cVar 5) (cCons (cC (.fn "BadRows")) cNil)))) (cBin fIsNot (cExF (okAt "BadRows") "index" (cVar 5)) (cC .non))) (sRet (cC (.bl false))) sNil))) (sSeq (sSet (.nm 5) (cCaught ks__law_refused bd__law_refused catB (cLam 6))) (sSeq (sIf (cOr (cNot (cFn (gIsi anc) (cCons (cVar 5) (cCons (cC (.fn "BadNumber")) cNil)))) (cBin fNe (cExF (okAt "BadNumber") "part" (cVar 5)) (cC (.str "n")))) (sRet (cC (.bl false))) sNil) (sSeq (sSet (.nm 5) (cCaught ks__law_refused bd__law_refused catB (cLam 7))) (sRet (cAnd (cFn (gIsi anc) (cCons (cVar 5) (cCons (cC (.fn "BadNumber")) cNil))) (cBin fEq (cExF (okAt "BadNumber") "part" (cVar 5)) (cC (.str "d")))))))))))))))
noncomputable def f__law_refused : FnD := runCT 10 b__law_refused
section
variable {G : Gb} {P : Program} {wo : World} {K : PySem.W.Frag} {mg : Str → Option Value} {base : Heap}
theorem ok__law_refused (h : HF P G K mg) (mk : Mk G K mg base) : CalD G P wo K mg base 8 "_law_refused" 1 f__law_refused [] := by
  obtain ⟨f, fd, Fd, hmf⟩ := h.d__law_refused
  obtain ⟨g, fdg, Fg, hmg⟩ := h.d__law_caught
  have hbg : L2.Binds K fdg ["action"] [] := FunD.bindsN Fg (fun _ _ _ _ _ _ us hl => match us, hl with | [_], _ => rfl)
  obtain ⟨CB, hCB, hCBr⟩ := h.e_BoundError.ex
  have hfns : ∀ x n F, fns x = some (n, F) → ∃ kbs, CalD G P wo K mg base 1 x n F kbs := by
    intro x n F e
    unfold fns at e
    cases e
  refine ⟨f, fd, ["draws"], rfl, fnOk_CTm Fd (mk.m__law_refused f fd hmf Fd) S__law_refused (fun c T A outer s H E TB hmT hu hr => ?_), hmf, Fd.kp, FunD.bindsN Fd (fun _ _ _ _ _ _ us hl => match us, hl with | [_], _ => rfl), fun _ z => nomatch z⟩
  have hX : XG G (cxOf (L2.CX P wo) P wo K mg base ["draws", "work", "rows", "at", "odd", "error", "due", "bad", "one", "wrong"] "_law_refused" (defScope t__law_refused) f (.ref c) A outer s H E) := XG.of h.hK h.hm hr
  have hbd : BdOk G (cxOf (L2.CX P wo) P wo K mg base ["draws", "work", "rows", "at", "odd", "error", "due", "bad", "one", "wrong"] "_law_refused" (defScope t__law_refused) f (.ref c) A outer s H E) 5 ks__law_refused bd__law_refused := by
    intro kk L hk hl
    have hk : (kk == 0 || kk == 1 || kk == 2 || kk == 3 || kk == 4 || kk == 5 || kk == 6 || kk == 7) = true := hk
    simp only [Bool.or_eq_true, beq_iff_eq, or_assoc] at hk
    rcases hk with rfl | rfl | rfl | rfl | rfl | rfl | rfl | rfl
    · rw [h.lam_0] at hl
      cases hl
      exact ⟨rfl, LamX.lamS_by rfl, fun _ _ _ _ _ => rfl, fun A2 outer2 s2 H2 E2 f2 c2 hr2 => (qCallC (ok_inner h) hr2 (by decide) tkL rfl (pda_cons (qv 7 rfl rfl) (pda_cons pd_non pda_nil rfl) rfl) (lenL_cons (lenL_cons lenL_nil)) rfl rfl rfl)⟩
    · rw [h.lam_1] at hl
      cases hl
      exact ⟨rfl, LamX.lamS_by rfl, fun _ _ _ _ _ => rfl, fun A2 outer2 s2 H2 E2 f2 c2 hr2 => (qCallC (ok_inner h) hr2 (by decide) tkL rfl (pda_cons (qv 8 rfl rfl) (pda_cons (qv 7 rfl rfl) pda_nil rfl) rfl) (lenL_cons (lenL_cons lenL_nil)) rfl rfl rfl)⟩
    · rw [h.lam_2] at hl
      cases hl
      exact ⟨rfl, LamX.lamS_by rfl, fun _ _ _ _ _ => rfl, fun A2 outer2 s2 H2 E2 f2 c2 hr2 => (qCallC (ok_combined h) hr2 (by decide) tkL rfl (pda_cons (qv 7 rfl rfl) (pda_cons pd_non pda_nil rfl) rfl) (lenL_cons (lenL_cons lenL_nil)) rfl rfl rfl)⟩
    · rw [h.lam_3] at hl
      cases hl
      exact ⟨rfl, LamX.lamS_by rfl, fun _ _ _ _ _ => rfl, fun A2 outer2 s2 H2 E2 f2 c2 hr2 => (qCallC (ok_inner h) hr2 (by decide) tkL rfl (pda_cons (qv 8 rfl rfl) (pda_cons (pd_bin (opD_add (XG.lam hX hr2)) (qv 8 rfl rfl) (pd_tup (pda_cons (pd_tup (pda_cons pd_int (pda_cons pd_int pda_nil rfl) rfl)) pda_nil rfl))) pda_nil rfl) rfl) (lenL_cons (lenL_cons lenL_nil)) rfl rfl rfl)⟩
    · rw [h.lam_4] at hl
      cases hl
      exact ⟨rfl, LamX.lamS_by rfl, fun _ _ _ _ _ => rfl, fun A2 outer2 s2 H2 E2 f2 c2 hr2 => (qCallC (ok_combined h) hr2 (by decide) tkL rfl (pda_cons (qv 8 rfl rfl) (pda_cons (qv 9 rfl rfl) pda_nil rfl) rfl) (lenL_cons (lenL_cons lenL_nil)) rfl rfl rfl)⟩
    · rw [h.lam_5] at hl
      cases hl
      exact ⟨rfl, LamX.lamS_by rfl, fun _ _ _ _ _ => rfl, fun A2 outer2 s2 H2 E2 f2 c2 hr2 => (qCallC (ok_combined h) hr2 (by decide) tkL rfl (pda_cons (qv 8 rfl rfl) (pda_cons (qv 9 rfl rfl) pda_nil rfl) rfl) (lenL_cons (lenL_cons lenL_nil)) rfl rfl rfl)⟩
    · rw [h.lam_6] at hl
      cases hl
      exact ⟨rfl, LamX.lamS_by rfl, fun _ _ _ _ _ => rfl, fun A2 outer2 s2 H2 E2 f2 c2 hr2 => (qCallC (ok_ratio h) hr2 (by decide) tkL rfl (pda_cons (qCallC (ok__law_pick h) hr2 (by decide) tkL rfl (pda_cons (qv 0 rfl rfl) (pda_cons (pd_lst (pda_cons pd_non (pda_cons pd_bl (pda_cons pd_str (pda_cons (pd_tup (pda_cons pd_int (pda_cons pd_int pda_nil rfl) rfl)) pda_nil rfl) rfl) rfl) rfl)) pda_nil rfl) rfl) (lenL_cons (lenL_cons lenL_nil)) rfl rfl rfl) (pda_cons pd_int pda_nil rfl) rfl) (lenL_cons (lenL_cons lenL_nil)) rfl rfl rfl)⟩
    · rw [h.lam_7] at hl
      cases hl
      exact ⟨rfl, LamX.lamS_by rfl, fun _ _ _ _ _ => rfl, fun A2 outer2 s2 H2 E2 f2 c2 hr2 => (qCallC (ok_ratio h) hr2 (by decide) tkL rfl (pda_cons pd_int (pda_cons (qCallC (ok__law_pick h) hr2 (by decide) tkL rfl (pda_cons (qv 0 rfl rfl) (pda_cons (pd_lst (pda_cons pd_int (pda_cons pd_non (pda_cons pd_bl pda_nil rfl) rfl) rfl)) pda_nil rfl) rfl) (lenL_cons (lenL_cons lenL_nil)) rfl rfl rfl) pda_nil rfl) rfl) (lenL_cons (lenL_cons lenL_nil)) rfl rfl rfl)⟩
  exact (psd_cons (psd_unpack (pd_tup (pda_cons (qCallC (ok__law_vector h) hr (by decide) tkOf rfl (pda_cons (qv 0 rfl rfl) (pda_cons pd_int (pda_cons pd_int pda_nil rfl) rfl) rfl) (lenL_cons (lenL_cons (lenL_cons lenL_nil))) rfl rfl rfl) (pda_cons (qCallC (ok__law_pick h) hr (by decide) tkOf rfl (pda_cons (qv 0 rfl rfl) (pda_cons (pd_lst (pda_cons pd_non (pda_cons (pd_tup pda_nil) (pda_cons (pd_lst (pda_cons (pd_tup (pda_cons pd_int (pda_cons pd_int pda_nil rfl) rfl)) pda_nil rfl)) (pda_cons (pd_tup (pda_cons (pd_tup (pda_cons pd_int (pda_cons pd_int pda_nil rfl) rfl)) pda_nil rfl)) (pda_cons pd_int (pda_cons (pd_tup (pda_cons (pd_tup (pda_cons pd_int (pda_cons pd_int pda_nil rfl) rfl)) (pda_cons pd_non pda_nil rfl) rfl)) pda_nil rfl) rfl) rfl) rfl) rfl) rfl)) pda_nil rfl) rfl) (lenL_cons (lenL_cons lenL_nil)) rfl rfl rfl) pda_nil rfl) rfl)) (qTgT hX (qTgC (qTgN S__law_refused.nd rfl rfl) (qTgC (qTgN S__law_refused.nd rfl rfl) qTgNil rfl) rfl) rfl rfl) rfl rfl rfl) (psd_cons (psd_for hpOf hX.calm (pid_val hX.K (pd_lst (pda_cons (pd_lam h.lam_0 TB rfl hmT hu rfl (LamX.lamS_by rfl)) (pda_cons (pd_lam h.lam_1 TB rfl hmT hu rfl (LamX.lamS_by rfl)) (pda_cons (pd_lam h.lam_2 TB rfl hmT hu rfl (LamX.lamS_by rfl)) pda_nil rfl) rfl) rfl))) (qTgN S__law_refused.nd rfl rfl) (psd_one (psd_if (ptd_not (pt_plain (qB (callD_isi hX h.anc) h.n_isinstance (by decide +kernel) rfl (pda_cons (qCaught (ks := ks__law_refused) (bd := bd__law_refused) (cat := catB) hX.mg rfl hmg Fg hbg S__law_caught rfl rfl rfl rfl hCB (h.cat CB hCB) hr (by decide) hbd (qv 1 rfl rfl) rfl) (pda_cons (qExc h.e_BadVector hX.mg rfl) pda_nil rfl) rfl) rfl rfl) (fun _ => rfl))) (psd_one (psd_ret pd_bl)) psd_nil)) (fun _ => rfl)) (psd_cons (psd_if (ptd_not (pt_plain (qB (callD_isi hX h.anc) h.n_isinstance (by decide +kernel) rfl (pda_cons (qCaught (ks := ks__law_refused) (bd := bd__law_refused) (cat := catB) hX.mg rfl hmg Fg hbg S__law_caught rfl rfl rfl rfl hCB (h.cat CB hCB) hr (by decide) hbd (pd_lam h.lam_3 TB rfl hmT hu rfl (LamX.lamS_by rfl)) rfl) (pda_cons (qExc h.e_BadWidth hX.mg rfl) pda_nil rfl) rfl) rfl rfl) (fun _ => rfl))) (psd_one (psd_ret pd_bl)) psd_nil) (psd_cons (qSet S__law_refused.nd rfl rfl (pd_lst (pda_cons (qv 8 rfl rfl) (pda_cons (qv 8 rfl rfl) (pda_cons (qv 8 rfl rfl) pda_nil rfl) rfl) rfl)) rfl) (psd_cons (qSet S__law_refused.nd rfl rfl (qCallC (ok__law_draw h) hr (by decide) tkOf rfl (pda_cons (qv 0 rfl rfl) (pda_cons pd_int pda_nil rfl) rfl) (lenL_cons (lenL_cons lenL_nil)) rfl rfl rfl) rfl) (psd_cons (psd_for hpOf hX.calm (pid_val hX.K (pd_lst (pda_cons pd_non (pda_cons (qT (callD_list hX) h.n_list (by decide +kernel) rfl (pda_cons (qv 8 rfl rfl) pda_nil rfl) rfl rfl) (pda_cons (pd_slice hX (qv 8 rfl rfl) pod_none (pod_some pd_int)) (pda_cons (pd_bin (opD_add hX) (qv 8 rfl rfl) (pd_tup (pda_cons (pd_tup (pda_cons pd_int (pda_cons pd_int pda_nil rfl) rfl)) pda_nil rfl))) (pda_cons (pd_tup pda_nil) pda_nil rfl) rfl) rfl) rfl) rfl))) (qTgN S__law_refused.nd rfl rfl) (psd_cons (qSet S__law_refused.nd rfl rfl (pd_bin (opD_add hX) (pd_bin (opD_add hX) (pd_slice hX (qv 2 rfl rfl) pod_none (pod_some (qv 3 rfl rfl))) (pd_lst (pda_cons (qv 4 rfl rfl) pda_nil rfl))) (pd_slice hX (qv 2 rfl rfl) (pod_some (pd_bin (opD_add hX) (qv 3 rfl rfl) pd_int)) pod_none)) rfl) (psd_cons (qSet S__law_refused.nd rfl rfl (qCaught (ks := ks__law_refused) (bd := bd__law_refused) (cat := catB) hX.mg rfl hmg Fg hbg S__law_caught rfl rfl rfl rfl hCB (h.cat CB hCB) hr (by decide) hbd (pd_lam h.lam_4 TB rfl hmT hu rfl (LamX.lamS_by rfl)) rfl) rfl) (psd_cons (qSet S__law_refused.nd rfl rfl (qv 3 rfl rfl) rfl) (psd_cons (psd_if ((pwd_and (ptd_cmp (opD_eq hX) (qv 3 rfl rfl) pd_int rfl) (pwd_and (pt_plain (qB (callD_isi hX h.anc) h.n_isinstance (by decide +kernel) rfl (pda_cons (qv 4 rfl rfl) (pda_cons (qTy h.n_tuple (by decide +kernel) rfl) pda_nil rfl) rfl) rfl rfl) (fun _ => rfl)) (pwd_one (isAnd := true) (ptd_cmp (opD_in hX) (qB (callD_len hX) h.n_len (by decide +kernel) rfl (pda_cons (qv 4 rfl rfl) pda_nil rfl) rfl rfl) (pd_lst (pda_cons pd_int (pda_cons pd_int pda_nil rfl) rfl)) rfl))))).pt (psd_one (qSet S__law_refused.nd rfl rfl pd_int rfl)) psd_nil) (psd_one (psd_if ((pwd_or (ptd_not (pt_plain (qB (callD_isi hX h.anc) h.n_isinstance (by decide +kernel) rfl (pda_cons (qv 5 rfl rfl) (pda_cons (qExcI h.i_BadRows hX.mg rfl) pda_nil rfl) rfl) rfl rfl) (fun _ => rfl))) (pwd_one (isAnd := false) (ptd_cmp (opD_ne hX) (qExF hX (h.i_BadRows.fld h.hm) (qv 5 rfl rfl) rfl) (qv 6 rfl rfl) rfl)))).pt (psd_one (psd_ret pd_bl)) psd_nil)))))) (fun _ => rfl)) (psd_cons (psd_for hpOf hX.calm (pid_val hX.K (pd_lst (pda_cons pd_non (pda_cons (pd_lst pda_nil) (pda_cons (pd_slice hX (qv 2 rfl rfl) pod_none (pod_some pd_int)) (pda_cons pd_dict0 (pda_cons (pd_bin (opD_add hX) (qv 2 rfl rfl) (qv 2 rfl rfl)) pda_nil rfl) rfl) rfl) rfl) rfl))) (qTgN S__law_refused.nd rfl rfl) (psd_cons (qSet S__law_refused.nd rfl rfl (qCaught (ks := ks__law_refused) (bd := bd__law_refused) (cat := catB) hX.mg rfl hmg Fg hbg S__law_caught rfl rfl rfl rfl hCB (h.cat CB hCB) hr (by decide) hbd (pd_lam h.lam_5 TB rfl hmT hu rfl (LamX.lamS_by rfl)) rfl) rfl) (psd_one (psd_if ((pwd_or (ptd_not (pt_plain (qB (callD_isi hX h.anc) h.n_isinstance (by decide +kernel) rfl (pda_cons (qv 5 rfl rfl) (pda_cons (qExcI h.i_BadRows hX.mg rfl) pda_nil rfl) rfl) rfl rfl) (fun _ => rfl))) (pwd_one (isAnd := false) (ptd_cmp (opD_isNot) (qExF hX (h.i_BadRows.fld h.hm) (qv 5 rfl rfl) rfl) pd_non rfl)))).pt (psd_one (psd_ret pd_bl)) psd_nil))) (fun _ => rfl)) (psd_cons (qSet S__law_refused.nd rfl rfl (qCaught (ks := ks__law_refused) (bd := bd__law_refused) (cat := catB) hX.mg rfl hmg Fg hbg S__law_caught rfl rfl rfl rfl hCB (h.cat CB hCB) hr (by decide) hbd (pd_lam h.lam_6 TB rfl hmT hu rfl (LamX.lamS_by rfl)) rfl) rfl) (psd_cons (psd_if ((pwd_or (ptd_not (pt_plain (qB (callD_isi hX h.anc) h.n_isinstance (by decide +kernel) rfl (pda_cons (qv 5 rfl rfl) (pda_cons (qExcI h.i_BadNumber hX.mg rfl) pda_nil rfl) rfl) rfl rfl) (fun _ => rfl))) (pwd_one (isAnd := false) (ptd_cmp (opD_ne hX) (qExF hX (h.i_BadNumber.fld h.hm) (qv 5 rfl rfl) rfl) pd_str rfl)))).pt (psd_one (psd_ret pd_bl)) psd_nil) (psd_cons (qSet S__law_refused.nd rfl rfl (qCaught (ks := ks__law_refused) (bd := bd__law_refused) (cat := catB) hX.mg rfl hmg Fg hbg S__law_caught rfl rfl rfl rfl hCB (h.cat CB hCB) hr (by decide) hbd (pd_lam h.lam_7 TB rfl hmT hu rfl (LamX.lamS_by rfl)) rfl) rfl) (psd_one (psd_ret (pd_and (qB (callD_isi hX h.anc) h.n_isinstance (by decide +kernel) rfl (pda_cons (qv 5 rfl rfl) (pda_cons (qExcI h.i_BadNumber hX.mg rfl) pda_nil rfl) rfl) rfl rfl) (pd_one (pd_cmp (opD_eq hX) (qExF hX (h.i_BadNumber.fld h.hm) (qv 5 rfl rfl) rfl) pd_str rfl)))))))))))))))
end
noncomputable def b_law : EvS := (sSeq (sSet (.nm 1) (cCall f__law_begun (cCons (cVar 0) cNil))) (sSeq (sFor (cItL (fun _ => itR1) (cCons (cBin fAdd (cC (.int 2)) (cFn gMin (cCons (cFn gLen (cCons (cVar 0) cNil)) (cCons (cC (.int 5)) cNil)))) cNil)) (.nm 2) (sSeq (sFor (cItL (fun _ => itR1) (cCons (cC (.int 6)) cNil)) (.nm 3) (sSeq (sSet (.nm 4) (cCall f__law_near (cCons (cVar 1) cNil))) (sIf (cOr (cNot (cCall f__law_is_truth (cCons (cCall f_is_ratio (cCons (cVar 4) cNil)) (cCons (cCall f__law_is_ratio (cCons (cVar 4) cNil)) cNil)))) (cBin fNe (cCallKC f_is_ratio [0] cNil (cCons (cVar 4) cNil)) (cCall f__law_is_ratio (cCons (cVar 4) cNil)))) (sRet (cC (.bl false))) sNil))) (sSeq (sPar2 5 6 (cCons (cBin fSub (cCall f__law_draw (cCons (cVar 1) (cCons (cBin fPow (cC (.int 10)) (cC (.int 15))) cNil))) (cBin fPow (cC (.int 10)) (cC (.int 14)))) (cCons (cBin fSub (cCall f__law_draw (cCons (cVar 1) (cCons (cBin fPow (cC (.int 10)) (cC (.int 15))) cNil))) (cBin fMul (cC (.int 5)) (cBin fPow (cC (.int 10)) (cC (.int 14))))) cNil))) (sSeq (sIf (cAnd (cBin fNe (cVar 6) (cC (.int 0))) (cOr (cNot (cCall f__law_same (cCons (cCall f_ratio (cCons (cVar 5) (cCons (cVar 6) cNil))) (cCons (cCall f__law_q (cCons (cVar 5) (cCons (cVar 6) cNil))) cNil)))) (cBin fNe (cCallKC f_ratio [1, 0] cNil (cCons (cVar 6) (cCons (cVar 5) cNil))) (cCall f__law_q (cCons (cVar 5) (cCons (cVar 6) cNil)))))) (sRet (cC (.bl false))) sNil) (sSeq (sSet (.nm 7) (cBin fIx (cCall f__law_words (cCons (cVar 1) (cCons (cC (.int 1)) cNil))) (cC (.int 0)))) (sSeq (sFor (cIter (cFn fLst (cCons (cVar 7) (cCons (cBin fAdd (cVar 7) (cC (.str "A"))) (cCons (cBin fMul (cVar 7) (cC (.int 9))) (cCons (cC (.str "")) (cCons (cFn fTup (cCons (cVar 7) cNil)) (cCons (cC .non) (cCons (cBin fAdd (cSl (cVar 7) cNo (cPart (cC (.int 1)))) (cC (.str " "))) (cCons (cM "str" mUpper (cVar 7) cNil) cNil)))))))))) (.nm 4) (sSeq (sSet (.nm 8) (cAnd (cFn (gIsi anc) (cCons (cVar 4) (cCons (cC (.ty "str")) cNil))) (cAnd (cChain fLe fLe (cC (.int 1)) (cFn gLen (cCons (cVar 4) cNil)) (cC (.int 8))) (cBin fEq (cLc (cIter (cVar 4)) (.nm 9) (cTst (cBin fNotIn (cVar 9) (cC (.str "abcdefghijklmnopqrstuvwxyz")))) (cVar 9) [9]) (cFn fLst cNil))))) (sIf (cNot (cCall f__law_is_truth (cCons (cCall f_is_word (cCons (cVar 4) cNil)) (cCons (cVar 8) cNil)))) (sRet (cC (.bl false))) sNil))) (sIf (cOr (cNot (cCall f__law_sums_right (cCons (cVar 1) cNil))) (cNot (cCall f__law_refused (cCons (cVar 1) cNil)))) (sRet (cC (.bl false))) sNil))))))) (sRet (cC (.bl true)))))
noncomputable def f_law : FnD := runF 10 b_law
section
variable {G : Gb} {P : Program} {wo : World} {K : PySem.W.Frag} {mg : Str → Option Value} {base : Heap}
theorem ok_law (h : HF P G K mg) (mk : Mk G K mg base) {f : Addr} {fd : FuncData} (hmf : mg "law" = some (.ref f)) (Fd : FunD K "law" "law" (defArgs t_law) (defBody t_law) (defScope t_law) [] [] f fd) : FnOk P wo K mg base (L2.CX P wo) 9 f fd ["script"] (spOf G 1 f_law) := by
  refine fnOk_F Fd S_law (fun cdv A outer s H E hr => ?_)
  have hX : XG G (cxOf (L2.CX P wo) P wo K mg base ["script", "draws", "turn", "lap", "value", "n", "d", "word", "due", "letter"] "law" (defScope t_law) f cdv A outer s H E) := XG.of h.hK h.hm hr
  exact (psd_cons (qSet S_law.nd rfl rfl (qCall (ok__law_begun h) hr (by decide) tkOf rfl (pda_cons (qv 0 rfl rfl) pda_nil rfl) (lenL_cons lenL_nil) rfl rfl rfl) rfl) (psd_cons (psd_for hpOf hX.calm (qRange1 h.n_range rfl (pda_cons (pd_bin (opD_add hX) pd_int (qB (callD_min hX) h.n_min (by decide +kernel) rfl (pda_cons (qB (callD_len hX) h.n_len (by decide +kernel) rfl (pda_cons (qv 0 rfl rfl) pda_nil rfl) rfl rfl) (pda_cons pd_int pda_nil rfl) rfl) rfl rfl)) pda_nil rfl) rfl) (qTgN S_law.nd rfl rfl) (psd_cons (psd_for hpOf hX.calm (qRange1 h.n_range rfl (pda_cons pd_int pda_nil rfl) rfl) (qTgN S_law.nd rfl rfl) (psd_cons (qSet S_law.nd rfl rfl (qCall (ok__law_near h) hr (by decide) tkOf rfl (pda_cons (qv 1 rfl rfl) pda_nil rfl) (lenL_cons lenL_nil) rfl rfl rfl) rfl) (psd_one (psd_if ((pwd_or (ptd_not (pt_plain (qCall (ok__law_is_truth h) hr (by decide) tkOf rfl (pda_cons (qCall (ok_is_ratio h) hr (by decide) tkOf rfl (pda_cons (qv 4 rfl rfl) pda_nil rfl) (lenL_cons lenL_nil) rfl rfl rfl) (pda_cons (qCall (ok__law_is_ratio h) hr (by decide) tkOf rfl (pda_cons (qv 4 rfl rfl) pda_nil rfl) (lenL_cons lenL_nil) rfl rfl rfl) pda_nil rfl) rfl) (lenL_cons (lenL_cons lenL_nil)) rfl rfl rfl) (fun _ => rfl))) (pwd_one (isAnd := false) (ptd_cmp (opD_ne hX) (pd_callK0 (ks := ["value"]) (ok_is_ratio h) (by decide) hr (by decide) tkOf (glB_gl rfl).1 (pdk_cons (qv 4 rfl rfl) pdk_nil) (lenL_cons lenL_nil) (fun _ hz => pick_len (by decide) hz) rfl rfl (by decide) rfl) (qCall (ok__law_is_ratio h) hr (by decide) tkOf rfl (pda_cons (qv 4 rfl rfl) pda_nil rfl) (lenL_cons lenL_nil) rfl rfl rfl) rfl)))).pt (psd_one (psd_ret pd_bl)) psd_nil))) (fun _ => rfl)) (psd_cons (qPar2 hX S_law.nd rfl rfl (by decide) rfl rfl (pda_cons (pd_bin (opD_sub) (qCall (ok__law_draw h) hr (by decide) tkOf rfl (pda_cons (qv 1 rfl rfl) (pda_cons (pd_bin (opD_pow) pd_int pd_int) pda_nil rfl) rfl) (lenL_cons (lenL_cons lenL_nil)) rfl rfl rfl) (pd_bin (opD_pow) pd_int pd_int)) (pda_cons (pd_bin (opD_sub) (qCall (ok__law_draw h) hr (by decide) tkOf rfl (pda_cons (qv 1 rfl rfl) (pda_cons (pd_bin (opD_pow) pd_int pd_int) pda_nil rfl) rfl) (lenL_cons (lenL_cons lenL_nil)) rfl rfl rfl) (pd_bin (opD_mul hX) pd_int (pd_bin (opD_pow) pd_int pd_int))) pda_nil rfl) rfl) rfl rfl) (psd_cons (psd_if ((pwd_and (ptd_cmp (opD_ne hX) (qv 6 rfl rfl) pd_int rfl) (pwd_one (isAnd := true) ((pwd_or (ptd_not (pt_plain (qCall (ok__law_same h) hr (by decide) tkOf rfl (pda_cons (qCall (ok_ratio h) hr (by decide) tkOf rfl (pda_cons (qv 5 rfl rfl) (pda_cons (qv 6 rfl rfl) pda_nil rfl) rfl) (lenL_cons (lenL_cons lenL_nil)) rfl rfl rfl) (pda_cons (qCall (ok__law_q h) hr (by decide) tkOf rfl (pda_cons (qv 5 rfl rfl) (pda_cons (qv 6 rfl rfl) pda_nil rfl) rfl) (lenL_cons (lenL_cons lenL_nil)) rfl rfl rfl) pda_nil rfl) rfl) (lenL_cons (lenL_cons lenL_nil)) rfl rfl rfl) (fun _ => rfl))) (pwd_one (isAnd := false) (ptd_cmp (opD_ne hX) (pd_callK0 (ks := ["d", "n"]) (ok_ratio h) (by decide) hr (by decide) tkOf (glB_gl rfl).1 (pdk_cons (qv 6 rfl rfl) (pdk_cons (qv 5 rfl rfl) pdk_nil)) (lenL_cons (lenL_cons lenL_nil)) (fun _ hz => pick_len (by decide) hz) rfl rfl (by decide) rfl) (qCall (ok__law_q h) hr (by decide) tkOf rfl (pda_cons (qv 5 rfl rfl) (pda_cons (qv 6 rfl rfl) pda_nil rfl) rfl) (lenL_cons (lenL_cons lenL_nil)) rfl rfl rfl) rfl)))).pt))).pt (psd_one (psd_ret pd_bl)) psd_nil) (psd_cons (qSet S_law.nd rfl rfl (pd_ix hX (qCall (ok__law_words h) hr (by decide) tkOf rfl (pda_cons (qv 1 rfl rfl) (pda_cons pd_int pda_nil rfl) rfl) (lenL_cons (lenL_cons lenL_nil)) rfl rfl rfl) pd_int (fun _ _ => rfl)) rfl) (psd_cons (psd_for hpOf hX.calm (pid_val hX.K (pd_lst (pda_cons (qv 7 rfl rfl) (pda_cons (pd_bin (opD_add hX) (qv 7 rfl rfl) pd_str) (pda_cons (pd_bin (opD_mul hX) (qv 7 rfl rfl) pd_int) (pda_cons pd_str (pda_cons (pd_tup (pda_cons (qv 7 rfl rfl) pda_nil rfl)) (pda_cons pd_non (pda_cons (pd_bin (opD_add hX) (pd_slice hX (qv 7 rfl rfl) pod_none (pod_some pd_int)) pd_str) (pda_cons (pd_m0 hX.K PySem.F.plainAttrs_str PySem.F.slot_str_upper PySem.F.type_str_upper (mtd_upper) (qv 7 rfl rfl) rfl rfl) pda_nil rfl) rfl) rfl) rfl) rfl) rfl) rfl) rfl))) (qTgN S_law.nd rfl rfl) (psd_cons (qSet S_law.nd rfl rfl (pd_and (qB (callD_isi hX h.anc) h.n_isinstance (by decide +kernel) rfl (pda_cons (qv 4 rfl rfl) (pda_cons (qTy h.n_str (by decide +kernel) rfl) pda_nil rfl) rfl) rfl rfl) (pd_and (pd_chain (opD_le) (opD_le) pd_int (qB (callD_len hX) h.n_len (by decide +kernel) rfl (pda_cons (qv 4 rfl rfl) pda_nil rfl) rfl rfl) pd_int rfl) (pd_one (pd_cmp (opD_eq hX) (pd_lc (ow := [("letter", 9)]) hX.calm S_law.nd (pid_val hX.K (qv 4 rfl rfl)) (blk_by rfl) (fun _ _ _ _ _ => (qTgN S_law.nd rfl rfl)) (fun _ _ _ _ _ => (pts1 (ptd_cmp (opD_notIn (XG.blk hX)) (qv 9 rfl rfl) pd_str rfl))) (fun _ _ _ _ _ => (qv 9 rfl rfl)) (by decide) (fun _ => rfl)) (pd_lst pda_nil) rfl)))) rfl) (psd_one (psd_if (ptd_not (pt_plain (qCall (ok__law_is_truth h) hr (by decide) tkOf rfl (pda_cons (qCall (ok_is_word h) hr (by decide) tkOf rfl (pda_cons (qv 4 rfl rfl) pda_nil rfl) (lenL_cons lenL_nil) rfl rfl rfl) (pda_cons (qv 8 rfl rfl) pda_nil rfl) rfl) (lenL_cons (lenL_cons lenL_nil)) rfl rfl rfl) (fun _ => rfl))) (psd_one (psd_ret pd_bl)) psd_nil))) (fun _ => rfl)) (psd_one (psd_if ((pwd_or (ptd_not (pt_plain (qCall (ok__law_sums_right h) hr (by decide) tkOf rfl (pda_cons (qv 1 rfl rfl) pda_nil rfl) (lenL_cons lenL_nil) rfl rfl rfl) (fun _ => rfl))) (pwd_one (isAnd := false) (ptd_not (pt_plain (qCall (ok__law_refused h mk) hr (by decide) tkOf rfl (pda_cons (qv 1 rfl rfl) pda_nil rfl) (lenL_cons lenL_nil) rfl rfl rfl) (fun _ => rfl)))))).pt (psd_one (psd_ret pd_bl)) psd_nil))))))) (fun _ => rfl)) (psd_one (psd_ret pd_bl))))
end
end K00

set_option Elab.async false
set_option linter.all false
set_option maxRecDepth 100000
set_option maxHeartbeats 4000000
namespace DI
open PySem PySem.Spec PyProof.Rows L2
section
variable {env : En} {M M1 : Mem} {x y d : D} {ds xs : List D}
theorem eC : cC d env M = .ok d M := rfl
def var2 (o : Option Sl) (M : Mem) : Res D := match o with
  | some (.val d) => .ok d M
  | _ => .stuck
theorem eVar {i : Nat} : cVar i env M = var2 env[i]? M := by
  unfold cVar var2
  rfl
theorem eVar2 : var2 (some (.val d)) M = .ok d M := rfl
def bin3 (f : Mem → D → D → Option D) (x : D) (r : Res D) : Res D := r.bind fun y M2 => opt (f M2 x y) M2
def bin2 (f : Mem → D → D → Option D) (r : Res D) (b : EvE) (env : En) : Res D := r.bind fun x M1 => bin3 f x (b env M1)
theorem eBin {f a b} : cBin f a b env M = bin2 f (a env M) b env := rfl
theorem eBin2 {f b} : bin2 f (.ok x M) b env = bin3 f x (b env M) := rfl
theorem eBin3 {f} : bin3 f x (.ok y M) = opt (f M x y) M := rfl
def un2 (f : Mem → D → Option D) (r : Res D) : Res D := r.bind fun x M1 => opt (f M1 x) M1
theorem eUn {f a} : cUn f a env M = un2 f (a env M) := rfl
theorem eUn2 {f} : un2 f (.ok x M) = opt (f M x) M := rfl
theorem eNil : cNil env M = .ok [] M := rfl
def cons3 (x : D) (r : Res (List D)) : Res (List D) := r.bind fun xs M2 => .ok (x :: xs) M2
def cons2 (r : Res D) (b : EvL) (env : En) : Res (List D) := r.bind fun x M1 => cons3 x (b env M1)
theorem eCons {a b} : cCons a b env M = cons2 (a env M) b env := rfl
theorem eCons2 {b} : cons2 (.ok x M) b env = cons3 x (b env M) := rfl
theorem eCons3 : cons3 x (.ok xs M) = .ok (x :: xs) M := rfl
def fn2 (f : Mem → List D → Option D) (r : Res (List D)) : Res D := r.bind fun xs M1 => opt (f M1 xs) M1
theorem eFn {f a} : cFn f a env M = fn2 f (a env M) := rfl
theorem eFn2 {f} : fn2 f (.ok xs M) = opt (f M xs) M := rfl
def tst2 (r : Res D) : Res Bool := r.bind fun x M1 => opt (isB x) M1
theorem eTst {a} : cTst a env M = tst2 (a env M) := rfl
theorem eTst2 {b : Bool} : tst2 (.ok (.bl b) M) = .ok b M := rfl
def if2 (r : Res Bool) (a b : EvE) (env : En) : Res D := r.bind fun t M1 => if t = true then a env M1 else b env M1
theorem eIf {c a b} : cIf c a b env M = if2 (cTst c env M) a b env := rfl
theorem eIf_t {a b} : if2 (.ok true M) a b env = a env M := rfl
theorem eIf_f {a b} : if2 (.ok false M) a b env = b env M := rfl
def and2 (r : Res Bool) (b : EvE) (env : En) : Res D := r.bind fun t M1 => if t = true then b env M1 else .ok (.bl false) M1
theorem eAnd {a b} : cAnd a b env M = and2 (cTst a env M) b env := rfl
theorem eAnd_t {b} : and2 (.ok true M) b env = b env M := rfl
theorem eAnd_f {b} : and2 (.ok false M) b env = .ok (.bl false) M := rfl
def or2 (r : Res Bool) (b : EvE) (env : En) : Res D := r.bind fun t M1 => if t = true then .ok (.bl true) M1 else b env M1
theorem eOr {a b} : cOr a b env M = or2 (cTst a env M) b env := rfl
theorem eOr_t {b} : or2 (.ok true M) b env = .ok (.bl true) M := rfl
theorem eOr_f {b} : or2 (.ok false M) b env = b env M := rfl
def not2 (r : Res Bool) : Res D := r.bind fun t M1 => .ok (.bl (!t)) M1
theorem eNot {a} : cNot a env M = not2 (cTst a env M) := rfl
theorem eNot2 {t : Bool} : not2 (.ok t M) = .ok (.bl (!t)) M := rfl
def call2 (F : FnD) (r : Res (List D)) : Res D := r.bind fun ds M1 => F ds M1
theorem eCall {F b} : cCall F b env M = call2 F (b env M) := rfl
theorem eCall2 {F : FnD} : call2 F (.ok ds M) = F ds M := rfl
def callC2 (F : FnD) (r : Res (List D)) : Res D := r.bind fun ds M1 => if belows M1.length ds = true then F ds M1 else .stuck
theorem eCallC {F b} : cCallC F b env M = callC2 F (b env M) := rfl
theorem eCallC2 {F : FnD} (h : belows M.length ds = true) : callC2 F (.ok ds M) = F ds M := if_pos h
noncomputable def sl4 (x : D) (l : Option Int) (r : Res (Option Int)) : Res D := r.bind fun h M3 => opt (fSl M3 x l h) M3
noncomputable def sl3 (x : D) (r : Res (Option Int)) (hi : EvO) (env : En) : Res D := r.bind fun l M2 => sl4 x l (hi env M2)
noncomputable def sl2 (r : Res D) (lo hi : EvO) (env : En) : Res D := r.bind fun x M1 => sl3 x (lo env M1) hi env
theorem eSl {a lo hi} : cSl a lo hi env M = sl2 (a env M) lo hi env := rfl
theorem eSl2 {lo hi} : sl2 (.ok x M) lo hi env = sl3 x (lo env M) hi env := rfl
theorem eSl3 {l hi} : sl3 x (.ok l M) hi env = sl4 x l (hi env M) := rfl
theorem eSl4 {l h} : sl4 x l (.ok h M) = opt (fSl M x l h) M := rfl
theorem eNo : cNo env M = .ok none M := rfl
def part2 (r : Res D) : Res (Option Int) := r.bind fun x M1 => (opt (isI x) M1).bind fun i M2 => .ok (some i) M2
theorem ePart {a} : cPart a env M = part2 (a env M) := rfl
theorem ePart2 {i : Int} : part2 (.ok (.int i) M) = .ok (some i) M := rfl
def ch4 (g : Mem → D → D → Option D) (y : D) (r : Res D) : Res D := r.bind fun z M5 => opt (g M5 y z) M5
theorem sNil_ : sNil env M = .nx env M := rfl
theorem sSeq_ {a b} : sSeq a b env M = (a env M).seq b := rfl
theorem sBrk_ : sBrk env M = .bk env M := rfl
theorem sCnt_ : sCnt env M = .ct env M := rfl
def drop2 (r : Res D) (env : En) : RS := r.thenS env fun _ M1 => .nx env M1
theorem sDrop_ {a} : sDrop a env M = drop2 (a env M) env := rfl
theorem sDrop2 : drop2 (.ok x M) env = .nx env M := rfl
theorem sDropE {c ns vs} : drop2 (.err c ns vs M) env = .err c ns vs env M := rfl
def ret2 (r : Res D) (env : En) : RS := r.thenS env fun d M1 => .rt d M1
theorem sRet_ {a} : sRet a env M = ret2 (a env M) env := rfl
theorem sRet2 : ret2 (.ok x M) env = .rt x M := rfl
theorem sRetE {c ns vs} : ret2 (.err c ns vs M) env = .err c ns vs env M := rfl
theorem sRetN_ : sRetN env M = .rt .non M := rfl
def sif2 (r : Res Bool) (a b : EvS) (env : En) : RS := r.thenS env fun t M1 => if t = true then a env M1 else b env M1
theorem sIf_ {c a b} : sIf c a b env M = sif2 (cTst c env M) a b env := rfl
theorem sIf_t {a b} : sif2 (.ok true M) a b env = a env M := rfl
theorem sIf_f {a b} : sif2 (.ok false M) a b env = b env M := rfl
def setA (t : Tgt) (r : Res D) (env : En) : RS := r.thenS env fun d M1 => optS (setT M1 t d env) M1
theorem sSet_ {t a} : sSet t a env M = setA t (a env M) env := rfl
theorem sSet2 {t} : setA t (.ok x M) env = optS (setT M t x env) M := rfl
theorem sSetE {t c ns vs} : setA t (.err c ns vs M) env = .err c ns vs env M := rfl
theorem setT_nm {i} : setT M (.nm i) x env = some (env.set i (.val x)) := by unfold setT; rfl
theorem setT_tp {ts} (h : der M x = .tup ds) : setT M (.tp ts) x env = setTs M ts ds env := by unfold setT; rw [h]
theorem setTs_nil : setTs M [] [] env = some env := by unfold setTs; rfl
theorem setTs_cons {t ts} : setTs M (t :: ts) (d :: ds) env = (setT M t d env).bind (setTs M ts ds) := by rw [setTs]
theorem optS_some : optS (some env) M = .nx env M := rfl
def parA (i j : Nat) (r : Res (List D)) (env : En) : RS := r.thenS env fun ds M1 => optS (set2 i j ds env) M1
theorem sPar2_ {i j b} : sPar2 i j b env M = parA i j (b env M) env := rfl
theorem sPar22 {i j} : parA i j (.ok [x, y] M) env = .nx ((env.set i (.val x)).set j (.val y)) M := rfl
noncomputable def forA (t : Tgt) (b : EvS) (r : Res ItD) (env : En) : RS := r.thenS env fun it M1 => forL it t b it.xs env M1
theorem sFor_ {i t b} : sFor i t b env M = forA t b (i env M) env := rfl
theorem sFor2 {t b it} : forA t b (.ok it M) env = forL it t b it.xs env M := rfl
def it2 (r : Res D) : Res ItD := r.bind fun d M1 => opt (iterD M1 d) M1
theorem cIter_ {a} : cIter a env M = it2 (a env M) := rfl
theorem cIter_t : it2 (.ok (.tup ds) M) = .ok ⟨ds, []⟩ M := rfl
theorem cIter_l : it2 (.ok (.lst ds) M) = .ok ⟨ds, []⟩ M := rfl
theorem cIter_s {ns} : it2 (.ok (.scr ns) M) = .ok ⟨ns.map D.int, []⟩ M := rfl
def itl2 (f : Mem → List D → Option ItD) (r : Res (List D)) : Res ItD := r.bind fun ds M1 => opt (f M1 ds) M1
theorem cItL_ {f b} : cItL f b env M = itl2 f (b env M) := rfl
theorem cItL2 {f} : itl2 f (.ok ds M) = opt (f M ds) M := rfl
noncomputable def raise2 (c : Str) (r : Res (List D)) (env : En) : RS := r.thenS env fun ds M1 => if ds.length ≤ sizeLine then .err c [] [] env M1 else .stuck
theorem sRaise_ {c b} : sRaise c b env M = raise2 c (b env M) env := rfl
theorem sRaise2 {c} (h : ds.length ≤ sizeLine) : raise2 c (.ok ds M) env = .err c [] [] env M := if_pos h
theorem runF_ {n b} : runF n b ds M = endR (b (startE n ds) M) := rfl
theorem endR_nx : endR (.nx env M) = .ok .non M := rfl
theorem endR_rt : endR (.rt d M) = .ok d M := rfl
theorem endR_err {c ns vs} : endR (.err c ns vs env M) = .err c ns vs M := rfl
end
def Sm (b : Nat) (n : Int) : Prop := n.natAbs < 2 ^ b
theorem bits_lt {b : Nat} {n : Int} (h : Sm b n) : Builtin.Int.intBits n ≤ b := by
  unfold Builtin.Int.intBits
  split
  · exact Nat.zero_le _
  · rename_i h0
    have hn : n.natAbs ≠ 0 := fun z => h0 (by rw [Int.natAbs_eq_zero.mp z]; rfl)
    exact (Nat.log2_lt hn).mpr h
theorem mulOk {a b : Nat} {x y : Int} (hx : Sm a x) (hy : Sm b y) (h : a + b ≤ 100000) : IntMulOk x y := by
  unfold IntMulOk
  have h1 := bits_lt hx
  have h2 := bits_lt hy
  have h3 : Builtin.Int.intTooBig (Builtin.Int.intBits x + Builtin.Int.intBits y) = false := by
    unfold Builtin.Int.intTooBig
    apply decide_eq_false
    have : (bitsLine : Int) = 134217728 := by decide
    omega
  rw [h3, Bool.and_false]
  decide
theorem divOk {x y : Int} (hy : Sm 9000 y) : Builtin.divisionGoesByPylong x y = false := by
  unfold Builtin.divisionGoesByPylong
  have : ∀ n : Int, (if (n == 0) = true then 0 else n.natAbs.log2 / 30 + 1) = (if n = 0 then 0 else n.natAbs.log2 / 30 + 1) := fun n => by simp
  have h : decide ((if (y == 0) = true then 0 else y.natAbs.log2 / 30 + 1) > 300) = false := by
    apply decide_eq_false
    split
    · decide
    · rename_i h0
      have hn : y.natAbs ≠ 0 := fun z => h0 (by rw [Int.natAbs_eq_zero.mp z]; rfl)
      have := (Nat.log2_lt hn).mpr hy
      omega
  show (decide _ && _) = false
  rw [h, Bool.false_and]
theorem fMul_int {M : Mem} {x y : Int} (h : IntMulOk x y) : fMul M (.int x) (.int y) = some (.int (x * y)) := by
  unfold fMul
  simp only [der]
  exact if_pos h
theorem fDiv_int {M : Mem} {x y : Int} (h0 : y ≠ 0) (h : Builtin.divisionGoesByPylong x y = false) : fDiv M (.int x) (.int y) = some (.int (x.fdiv y)) := by
  unfold fDiv
  exact if_pos ⟨h0, h⟩
theorem fAdd_int {M : Mem} {x y : Int} : fAdd M (.int x) (.int y) = some (.int (x + y)) := rfl
theorem fSub_int {M : Mem} {x y : Int} : fSub M (.int x) (.int y) = some (.int (x - y)) := rfl
theorem fNeg_int {M : Mem} {x : Int} : fNeg M (.int x) = some (.int (-x)) := rfl
theorem gGcd_int {M : Mem} {x y : Int} : gGcd M [.int x, .int y] = some (.int ((Nat.gcd x.natAbs y.natAbs : Nat) : Int)) := rfl
theorem fGt_int {M : Mem} {x y : Int} : fGt M (.int x) (.int y) = some (.bl (decide (y < x))) := rfl
theorem fLt_int {M : Mem} {x y : Int} : fLt M (.int x) (.int y) = some (.bl (decide (x < y))) := rfl
theorem fLe_int {M : Mem} {x y : Int} : fLe M (.int x) (.int y) = some (.bl (decide (x ≤ y))) := rfl
theorem fTup2 {M : Mem} {x y : D} : fTup M [x, y] = some (.tup [x, y]) := by
  unfold fTup
  have h : (2 : Nat) ≤ sizeLine := by decide +kernel
  exact if_pos h
theorem Sm.mono {a b : Nat} {n : Int} (h : Sm a n) (l : a ≤ b) : Sm b n := Nat.lt_of_lt_of_le h (Nat.pow_le_pow_right (by decide) l)
theorem Sm.gcd {b : Nat} {n d : Int} (h : Sm b d) (hd : d ≠ 0) : Sm b ((Nat.gcd n.natAbs d.natAbs : Nat) : Int) := by
  have := Nat.gcd_le_right n.natAbs (Int.natAbs_pos.mpr hd)
  unfold Sm at *
  rw [Int.natAbs_natCast]
  omega
theorem Sm.neg {b : Nat} {n : Int} (h : Sm b n) : Sm b (-n) := by
  unfold Sm at *
  rw [Int.natAbs_neg]
  exact h
theorem gcd_ne {n d : Int} (hd : d ≠ 0) : ((Nat.gcd n.natAbs d.natAbs : Nat) : Int) ≠ 0 := fun z => by
  have := Nat.gcd_eq_zero_iff.mp (Int.natCast_eq_zero.mp z)
  omega
theorem Sm.mul {a b : Nat} {x y : Int} (hx : Sm a x) (hy : Sm b y) : Sm (a + b) (x * y) := by
  unfold Sm at *
  rw [Int.natAbs_mul, Nat.pow_add]
  exact Nat.mul_lt_mul'' hx hy
theorem Sm.add {a : Nat} {x y : Int} (hx : Sm a x) (hy : Sm a y) : Sm (a + 1) (x + y) := by
  unfold Sm at *
  have := Int.natAbs_add_le x y
  rw [Nat.pow_succ]
  omega
theorem Sm.sub {a : Nat} {x y : Int} (hx : Sm a x) (hy : Sm a y) : Sm (a + 1) (x - y) := by
  rw [Int.sub_eq_add_neg]
  exact hx.add hy.neg
theorem fIx_0 {M : Mem} {x y : D} : fIx M (.tup [x, y]) (.int 0) = some x := rfl
theorem fIx_1 {M : Mem} {x y : D} : fIx M (.tup [x, y]) (.int 1) = some y := rfl
end DI

namespace K00
open PySem PySem.Spec PyProof.Rows L2 DI
def qd (r : Rat) : D := .tup [.int r.num, .int r.den]
/-- n / d as the quotient by the greatest common divisor, s the sign -/
theorem qd_pos {n d g : Int} (hd : 0 < d) (hg : g = ((Nat.gcd n.natAbs d.natAbs : Nat) : Int)) : D.tup [.int (n.fdiv g), .int (d.fdiv g)] = qd (Rat.divInt n d) := by
  have h0 : 0 ≤ g := hg ▸ Int.natCast_nonneg _
  unfold qd
  rw [Rat.num_divInt, Rat.den_divInt, Int.sign_eq_one_of_pos hd, Int.one_mul, if_neg (by omega), Int.fdiv_eq_ediv_of_nonneg _ h0, Int.fdiv_eq_ediv_of_nonneg _ h0]
  have e : ((Int.gcd d n : Nat) : Int) = g := by
    rw [hg, Int.gcd_comm]
    rfl
  rw [e, Int.natCast_ediv, e, Int.natAbs_of_nonneg (by omega)]
theorem qd_neg {n d g : Int} (hd : d < 0) (hg : g = ((Nat.gcd n.natAbs d.natAbs : Nat) : Int)) : D.tup [.int (n.fdiv (-g)), .int (d.fdiv (-g))] = qd (Rat.divInt n d) := by
  have hne : g ≠ 0 := hg ▸ gcd_ne (by omega)
  have h1 : (-n).fdiv g = n.fdiv (-g) := by
    obtain ⟨k, hk⟩ : g ∣ n := by
      rw [hg]
      exact Int.gcd_dvd_left n d
    rw [hk, ← Int.mul_neg, Int.mul_fdiv_cancel_left _ hne, show g * k = (-g) * (-k) by rw [Int.neg_mul_neg], Int.mul_fdiv_cancel_left _ (by omega)]
  have h2 : (-d).fdiv g = d.fdiv (-g) := by
    obtain ⟨k, hk⟩ : g ∣ d := by
      rw [hg]
      exact Int.gcd_dvd_right n d
    rw [hk, ← Int.mul_neg, Int.mul_fdiv_cancel_left _ hne, show g * k = (-g) * (-k) by rw [Int.neg_mul_neg], Int.mul_fdiv_cancel_left _ (by omega)]
  rw [← h1, ← h2, qd_pos (g := g) (by omega) (by rw [Int.natAbs_neg, Int.natAbs_neg]; exact hg), Rat.neg_divInt_neg]
theorem r_lowest {n d : Int} {M : Mem} (hd : d ≠ 0) (hs : Sm 9000 d) : f_lowest [.int n, .int d] M = .ok (qd (Rat.divInt n d)) M := by
  unfold f_lowest b_lowest
  have hg0 : ((Nat.gcd n.natAbs d.natAbs : Nat) : Int) ≠ 0 := gcd_ne hd
  have hg1 : Sm 9000 ((Nat.gcd n.natAbs d.natAbs : Nat) : Int) := hs.gcd hd
  by_cases h : 0 < d
  · simp only [eC, eVar, eVar2, eBin, eBin2, eBin3, eUn, eUn2, eNil, eCons, eCons2, eCons3, eFn, eFn2, eTst, eTst2, eIf, eIf_t, eIf_f, eAnd, eAnd_t, eAnd_f, eOr, eOr_t, eOr_f, eNot, eNot2, eCall, eCall2, eCallC, eSl, eSl2, eSl3, eSl4, eNo, ePart, ePart2, sNil_, sSeq_, sBrk_, sCnt_, sDrop_, sDrop2, sDropE, sRet_, sRet2, sRetE, sRetN_, sIf_, sIf_t, sIf_f, sSet_, sSet2, sSetE, setT_nm, setTs_nil, setTs_cons, optS_some, sPar2_, sPar22, sFor_, sFor2, cIter_, cIter_t, cIter_l, cIter_s, cItL_, cItL2, sRaise_, runF_, endR_nx, endR_rt, endR_err, opt_some, seq_nx, seq_rt, seq_bk, seq_ct, seq_err, startE, List.map_cons, List.map_nil, List.length_cons, List.length_nil, List.replicate_succ, List.replicate_zero, List.cons_append, List.nil_append, List.append_nil, List.getElem?_cons_zero, List.getElem?_cons_succ, List.set_cons_zero, List.set_cons_succ, Option.bind_some, Option.map_some, Nat.reduceAdd, Nat.reduceSub, fAdd_int, fSub_int, fNeg_int, gGcd_int, fGt_int, fLt_int, fLe_int, fTup2, h, decide_true, fDiv_int hg0 (divOk hg1)]
    rw [qd_pos h rfl]
  · simp only [eC, eVar, eVar2, eBin, eBin2, eBin3, eUn, eUn2, eNil, eCons, eCons2, eCons3, eFn, eFn2, eTst, eTst2, eIf, eIf_t, eIf_f, eAnd, eAnd_t, eAnd_f, eOr, eOr_t, eOr_f, eNot, eNot2, eCall, eCall2, eCallC, eSl, eSl2, eSl3, eSl4, eNo, ePart, ePart2, sNil_, sSeq_, sBrk_, sCnt_, sDrop_, sDrop2, sDropE, sRet_, sRet2, sRetE, sRetN_, sIf_, sIf_t, sIf_f, sSet_, sSet2, sSetE, setT_nm, setTs_nil, setTs_cons, optS_some, sPar2_, sPar22, sFor_, sFor2, cIter_, cIter_t, cIter_l, cIter_s, cItL_, cItL2, sRaise_, runF_, endR_nx, endR_rt, endR_err, opt_some, seq_nx, seq_rt, seq_bk, seq_ct, seq_err, startE, List.map_cons, List.map_nil, List.length_cons, List.length_nil, List.replicate_succ, List.replicate_zero, List.cons_append, List.nil_append, List.append_nil, List.getElem?_cons_zero, List.getElem?_cons_succ, List.set_cons_zero, List.set_cons_succ, Option.bind_some, Option.map_some, Nat.reduceAdd, Nat.reduceSub, fAdd_int, fSub_int, fNeg_int, gGcd_int, fGt_int, fLt_int, fLe_int, fTup2, h, decide_false, fDiv_int (show -((Nat.gcd n.natAbs d.natAbs : Nat) : Int) ≠ 0 by omega) (divOk hg1.neg)]
    rw [qd_neg (by omega) rfl]
structure Sq (b : Nat) (r : Rat) : Prop where
  n : Sm b r.num
  d : Sm b r.den
theorem Sq.mono {a b : Nat} {r : Rat} (h : Sq a r) (l : a ≤ b) : Sq b r := ⟨h.n.mono l, h.d.mono l⟩
theorem Sq.divInt {b : Nat} {n d : Int} (hn : Sm b n) (hd : Sm b d) (h0 : d ≠ 0) : Sq b (Rat.divInt n d) := by
  refine ⟨?_, ?_⟩
  · rw [Rat.num_divInt]
    unfold Sm at *
    have : (d.sign * n / (Int.gcd d n : Nat)).natAbs ≤ (d.sign * n).natAbs := Int.natAbs_ediv_le_natAbs _ _
    rw [Int.natAbs_mul, Int.natAbs_sign_of_ne_zero h0, Nat.one_mul] at this
    omega
  · rw [Rat.den_divInt, if_neg h0]
    unfold Sm at *
    have := Nat.div_le_self d.natAbs (Int.gcd d n)
    rw [Int.natAbs_natCast]
    omega
theorem den_ne (a : Rat) : ((a.den : Nat) : Int) ≠ 0 := Int.natCast_ne_zero.mpr a.den_nz
section
variable {A B : Nat} {a b : Rat} {M : Mem}
theorem r_plus (ha : Sq 4000 a) (hb : Sq 4000 b) : f_plus [qd a, qd b] M = .ok (qd (a + b)) M := by
  unfold f_plus b_plus
  have h : Rat.divInt (a.num * b.den + b.num * a.den) (a.den * b.den) = a + b := by
    conv => rhs; rw [← Rat.num_divInt_den a, ← Rat.num_divInt_den b, Rat.divInt_add_divInt _ _ (den_ne a) (den_ne b)]
  unfold qd
  simp only [eC, eVar, eVar2, eBin, eBin2, eBin3, eUn, eUn2, eNil, eCons, eCons2, eCons3, eFn, eFn2, eTst, eTst2, eIf, eIf_t, eIf_f, eAnd, eAnd_t, eAnd_f, eOr, eOr_t, eOr_f, eNot, eNot2, eCall, eCall2, eCallC, eSl, eSl2, eSl3, eSl4, eNo, ePart, ePart2, sNil_, sSeq_, sBrk_, sCnt_, sDrop_, sDrop2, sDropE, sRet_, sRet2, sRetE, sRetN_, sIf_, sIf_t, sIf_f, sSet_, sSet2, sSetE, setT_nm, setTs_nil, setTs_cons, optS_some, sPar2_, sPar22, sFor_, sFor2, cIter_, cIter_t, cIter_l, cIter_s, cItL_, cItL2, sRaise_, runF_, endR_nx, endR_rt, endR_err, opt_some, seq_nx, seq_rt, seq_bk, seq_ct, seq_err, startE, List.map_cons, List.map_nil, List.length_cons, List.length_nil, List.replicate_succ, List.replicate_zero, List.cons_append, List.nil_append, List.append_nil, List.getElem?_cons_zero, List.getElem?_cons_succ, List.set_cons_zero, List.set_cons_succ, Option.bind_some, Option.map_some, Nat.reduceAdd, Nat.reduceSub, fAdd_int, fSub_int, fNeg_int, gGcd_int, fGt_int, fLt_int, fLe_int, fTup2, fIx_0, fIx_1, fMul_int (mulOk ha.n hb.d (by decide)), fMul_int (mulOk hb.n ha.d (by decide)), fMul_int (mulOk ha.d hb.d (by decide)), r_lowest (Int.mul_ne_zero (den_ne a) (den_ne b)) ((ha.d.mul hb.d).mono (by decide)), h]
  rfl
theorem r_times (ha : Sq 4000 a) (hb : Sq 4000 b) : f_times [qd a, qd b] M = .ok (qd (a * b)) M := by
  unfold f_times b_times
  have h : Rat.divInt (a.num * b.num) (a.den * b.den) = a * b := by
    conv => rhs; rw [← Rat.num_divInt_den a, ← Rat.num_divInt_den b, Rat.divInt_mul_divInt]
  unfold qd
  simp only [eC, eVar, eVar2, eBin, eBin2, eBin3, eUn, eUn2, eNil, eCons, eCons2, eCons3, eFn, eFn2, eTst, eTst2, eIf, eIf_t, eIf_f, eAnd, eAnd_t, eAnd_f, eOr, eOr_t, eOr_f, eNot, eNot2, eCall, eCall2, eCallC, eSl, eSl2, eSl3, eSl4, eNo, ePart, ePart2, sNil_, sSeq_, sBrk_, sCnt_, sDrop_, sDrop2, sDropE, sRet_, sRet2, sRetE, sRetN_, sIf_, sIf_t, sIf_f, sSet_, sSet2, sSetE, setT_nm, setTs_nil, setTs_cons, optS_some, sPar2_, sPar22, sFor_, sFor2, cIter_, cIter_t, cIter_l, cIter_s, cItL_, cItL2, sRaise_, runF_, endR_nx, endR_rt, endR_err, opt_some, seq_nx, seq_rt, seq_bk, seq_ct, seq_err, startE, List.map_cons, List.map_nil, List.length_cons, List.length_nil, List.replicate_succ, List.replicate_zero, List.cons_append, List.nil_append, List.append_nil, List.getElem?_cons_zero, List.getElem?_cons_succ, List.set_cons_zero, List.set_cons_succ, Option.bind_some, Option.map_some, Nat.reduceAdd, Nat.reduceSub, fAdd_int, fSub_int, fNeg_int, gGcd_int, fGt_int, fLt_int, fLe_int, fTup2, fIx_0, fIx_1, fMul_int (mulOk ha.n hb.n (by decide)), fMul_int (mulOk ha.d hb.d (by decide)), r_lowest (Int.mul_ne_zero (den_ne a) (den_ne b)) ((ha.d.mul hb.d).mono (by decide)), h]
  rfl
theorem over_eq : Rat.divInt (a.num * b.den) (a.den * b.num) = a / b := by
  rw [Rat.div_def]
  conv => rhs; rw [← Rat.num_divInt_den a, ← Rat.num_divInt_den b, Rat.inv_divInt, Rat.divInt_mul_divInt]
theorem num_ne (h : b ≠ 0) : b.num ≠ 0 := fun z => h (Rat.num_eq_zero.mp z)
theorem lt_dec : decide (a.num * b.den < b.num * a.den) = decide (a < b) := by
  rw [decide_eq_decide]
  exact (Rat.lt_iff a b).symm
end
end K00

namespace K00
open PySem PySem.Spec PyProof.Rows L2 DI
theorem abs_if (i : Int) : (if i < 0 then -i else i) = ((i.natAbs : Nat) : Int) := by split <;> omega
theorem q_while {n d : D} {M : Mem} : ∀ (b a : Nat), sWhile (cBin fGt (cVar 3) (cC (.int 0))) (sPar2 2 3 (cCons (cVar 3) (cCons (cBin fMod (cFn gInt (cCons (cVar 2) cNil)) (cVar 3)) cNil))) [.val n, .val d, .val (.int (a : Nat)), .val (.int (b : Nat))] M = .nx [.val n, .val d, .val (.int (Nat.gcd a b : Nat)), .val (.int 0)] M := by
  intro b
  induction b using Nat.strongRecOn with
  | _ b ih =>
    intro a
    rw [sWhile_eq]
    by_cases hb : b = 0
    · subst hb
      simp only [eC, eVar, eVar2, eBin, eBin2, eBin3, eUn, eUn2, eNil, eCons, eCons2, eCons3, eFn, eFn2, eTst, eTst2, eIf, eIf_t, eIf_f, eAnd, eAnd_t, eAnd_f, eOr, eOr_t, eOr_f, eNot, eNot2, eCall, eCall2, eCallC, eSl, eSl2, eSl3, eSl4, eNo, ePart, ePart2, sNil_, sSeq_, sBrk_, sCnt_, sDrop_, sDrop2, sDropE, sRet_, sRet2, sRetE, sRetN_, sIf_, sIf_t, sIf_f, sSet_, sSet2, sSetE, setT_nm, setTs_nil, setTs_cons, optS_some, sPar2_, sPar22, sFor_, sFor2, cIter_, cIter_t, cIter_l, cIter_s, cItL_, cItL2, sRaise_, runF_, endR_nx, endR_rt, endR_err, opt_some, seq_nx, seq_rt, seq_bk, seq_ct, seq_err, startE, List.map_cons, List.map_nil, List.length_cons, List.length_nil, List.replicate_succ, List.replicate_zero, List.cons_append, List.nil_append, List.append_nil, List.getElem?_cons_zero, List.getElem?_cons_succ, List.set_cons_zero, List.set_cons_succ, Option.bind_some, Option.map_some, Nat.reduceAdd, Nat.reduceSub, fAdd_int, fSub_int, fNeg_int, gGcd_int, fGt_int, fLt_int, fLe_int, fTup2, Nat.gcd_zero_right]
      rfl
    · have hb0 : ((b : Nat) : Int) ≠ 0 := by omega
      have e1 : fMod M (.int (a : Nat)) (.int (b : Nat)) = some (.int ((a % b : Nat) : Int)) := by
        show (if ((b : Nat) : Int) ≠ 0 then some (D.int (((a : Nat) : Int).fmod b)) else none) = _
        rw [if_pos hb0, Int.fmod_eq_emod_of_nonneg _ (Int.natCast_nonneg _), Int.natCast_emod]
      have e2 : gInt M [.int (a : Nat)] = some (.int (a : Nat)) := rfl
      have e3 : decide ((0 : Int) < (b : Nat)) = true := decide_eq_true (by omega)
      simp only [eC, eVar, eVar2, eBin, eBin2, eBin3, eUn, eUn2, eNil, eCons, eCons2, eCons3, eFn, eFn2, eTst, eTst2, eIf, eIf_t, eIf_f, eAnd, eAnd_t, eAnd_f, eOr, eOr_t, eOr_f, eNot, eNot2, eCall, eCall2, eCallC, eSl, eSl2, eSl3, eSl4, eNo, ePart, ePart2, sNil_, sSeq_, sBrk_, sCnt_, sDrop_, sDrop2, sDropE, sRet_, sRet2, sRetE, sRetN_, sIf_, sIf_t, sIf_f, sSet_, sSet2, sSetE, setT_nm, setTs_nil, setTs_cons, optS_some, sPar2_, sPar22, sFor_, sFor2, cIter_, cIter_t, cIter_l, cIter_s, cItL_, cItL2, sRaise_, runF_, endR_nx, endR_rt, endR_err, opt_some, seq_nx, seq_rt, seq_bk, seq_ct, seq_err, startE, List.map_cons, List.map_nil, List.length_cons, List.length_nil, List.replicate_succ, List.replicate_zero, List.cons_append, List.nil_append, List.append_nil, List.getElem?_cons_zero, List.getElem?_cons_succ, List.set_cons_zero, List.set_cons_succ, Option.bind_some, Option.map_some, Nat.reduceAdd, Nat.reduceSub, fAdd_int, fSub_int, fNeg_int, gGcd_int, fGt_int, fLt_int, fLe_int, fTup2, e1, e2, e3, thenS_ok]
      rw [if_pos trivial, turn_nx, ih (a % b) (Nat.mod_lt _ (Nat.pos_of_ne_zero hb)), Nat.gcd_comm b (a % b), ← Nat.gcd_rec, Nat.gcd_comm]
theorem r__law_q {n d : Int} {M : Mem} (hd : d ≠ 0) (hs : Sm 9000 d) : f__law_q [.int n, .int d] M = .ok (qd (Rat.divInt n d)) M := by
  unfold f__law_q b__law_q
  have hg0 : ((Nat.gcd n.natAbs d.natAbs : Nat) : Int) ≠ 0 := gcd_ne hd
  have hg1 : Sm 9000 ((Nat.gcd n.natAbs d.natAbs : Nat) : Int) := hs.gcd hd
  have ea : ∀ i : Int, gAbs M [.int i] = some (.int ((i.natAbs : Nat) : Int)) := fun i => by
    show some (D.int (if i < 0 then -i else i)) = _
    rw [abs_if]
  by_cases h : 0 < d
  · simp only [eC, eVar, eVar2, eBin, eBin2, eBin3, eUn, eUn2, eNil, eCons, eCons2, eCons3, eFn, eFn2, eTst, eTst2, eIf, eIf_t, eIf_f, eAnd, eAnd_t, eAnd_f, eOr, eOr_t, eOr_f, eNot, eNot2, eCall, eCall2, eCallC, eSl, eSl2, eSl3, eSl4, eNo, ePart, ePart2, sNil_, sSeq_, sBrk_, sCnt_, sDrop_, sDrop2, sDropE, sRet_, sRet2, sRetE, sRetN_, sIf_, sIf_t, sIf_f, sSet_, sSet2, sSetE, setT_nm, setTs_nil, setTs_cons, optS_some, sPar2_, sPar22, sFor_, sFor2, cIter_, cIter_t, cIter_l, cIter_s, cItL_, cItL2, sRaise_, runF_, endR_nx, endR_rt, endR_err, opt_some, seq_nx, seq_rt, seq_bk, seq_ct, seq_err, startE, List.map_cons, List.map_nil, List.length_cons, List.length_nil, List.replicate_succ, List.replicate_zero, List.cons_append, List.nil_append, List.append_nil, List.getElem?_cons_zero, List.getElem?_cons_succ, List.set_cons_zero, List.set_cons_succ, Option.bind_some, Option.map_some, Nat.reduceAdd, Nat.reduceSub, fAdd_int, fSub_int, fNeg_int, gGcd_int, fGt_int, fLt_int, fLe_int, fTup2, ea, q_while, h, decide_true, fDiv_int hg0 (divOk hg1)]
    rw [qd_pos h rfl]
  · simp only [eC, eVar, eVar2, eBin, eBin2, eBin3, eUn, eUn2, eNil, eCons, eCons2, eCons3, eFn, eFn2, eTst, eTst2, eIf, eIf_t, eIf_f, eAnd, eAnd_t, eAnd_f, eOr, eOr_t, eOr_f, eNot, eNot2, eCall, eCall2, eCallC, eSl, eSl2, eSl3, eSl4, eNo, ePart, ePart2, sNil_, sSeq_, sBrk_, sCnt_, sDrop_, sDrop2, sDropE, sRet_, sRet2, sRetE, sRetN_, sIf_, sIf_t, sIf_f, sSet_, sSet2, sSetE, setT_nm, setTs_nil, setTs_cons, optS_some, sPar2_, sPar22, sFor_, sFor2, cIter_, cIter_t, cIter_l, cIter_s, cItL_, cItL2, sRaise_, runF_, endR_nx, endR_rt, endR_err, opt_some, seq_nx, seq_rt, seq_bk, seq_ct, seq_err, startE, List.map_cons, List.map_nil, List.length_cons, List.length_nil, List.replicate_succ, List.replicate_zero, List.cons_append, List.nil_append, List.append_nil, List.getElem?_cons_zero, List.getElem?_cons_succ, List.set_cons_zero, List.set_cons_succ, Option.bind_some, Option.map_some, Nat.reduceAdd, Nat.reduceSub, fAdd_int, fSub_int, fNeg_int, gGcd_int, fGt_int, fLt_int, fLe_int, fTup2, ea, q_while, h, decide_false, fDiv_int hg0 (divOk hg1)]
    have := qd_pos (n := -n) (d := -d) (g := ((Nat.gcd n.natAbs d.natAbs : Nat) : Int)) (by omega) (by rw [Int.natAbs_neg, Int.natAbs_neg])
    rw [this, Rat.neg_divInt_neg]
section
variable {A B : Nat} {a b : Rat} {M : Mem}
theorem r__law_plus (ha : Sq 4000 a) (hb : Sq 4000 b) : f__law_plus [qd a, qd b] M = .ok (qd (a + b)) M := by
  unfold f__law_plus b__law_plus
  have h : Rat.divInt (a.num * b.den + b.num * a.den) (a.den * b.den) = a + b := by
    conv => rhs; rw [← Rat.num_divInt_den a, ← Rat.num_divInt_den b, Rat.divInt_add_divInt _ _ (den_ne a) (den_ne b)]
  unfold qd
  simp only [eC, eVar, eVar2, eBin, eBin2, eBin3, eUn, eUn2, eNil, eCons, eCons2, eCons3, eFn, eFn2, eTst, eTst2, eIf, eIf_t, eIf_f, eAnd, eAnd_t, eAnd_f, eOr, eOr_t, eOr_f, eNot, eNot2, eCall, eCall2, eCallC, eSl, eSl2, eSl3, eSl4, eNo, ePart, ePart2, sNil_, sSeq_, sBrk_, sCnt_, sDrop_, sDrop2, sDropE, sRet_, sRet2, sRetE, sRetN_, sIf_, sIf_t, sIf_f, sSet_, sSet2, sSetE, setT_nm, setTs_nil, setTs_cons, optS_some, sPar2_, sPar22, sFor_, sFor2, cIter_, cIter_t, cIter_l, cIter_s, cItL_, cItL2, sRaise_, runF_, endR_nx, endR_rt, endR_err, opt_some, seq_nx, seq_rt, seq_bk, seq_ct, seq_err, startE, List.map_cons, List.map_nil, List.length_cons, List.length_nil, List.replicate_succ, List.replicate_zero, List.cons_append, List.nil_append, List.append_nil, List.getElem?_cons_zero, List.getElem?_cons_succ, List.set_cons_zero, List.set_cons_succ, Option.bind_some, Option.map_some, Nat.reduceAdd, Nat.reduceSub, fAdd_int, fSub_int, fNeg_int, gGcd_int, fGt_int, fLt_int, fLe_int, fTup2, fIx_0, fIx_1, fMul_int (mulOk ha.n hb.d (by decide)), fMul_int (mulOk hb.n ha.d (by decide)), fMul_int (mulOk ha.d hb.d (by decide)), r__law_q (Int.mul_ne_zero (den_ne a) (den_ne b)) ((ha.d.mul hb.d).mono (by decide)), h]
  rfl
theorem r__law_times (ha : Sq 4000 a) (hb : Sq 4000 b) : f__law_times [qd a, qd b] M = .ok (qd (a * b)) M := by
  unfold f__law_times b__law_times
  have h : Rat.divInt (a.num * b.num) (a.den * b.den) = a * b := by
    conv => rhs; rw [← Rat.num_divInt_den a, ← Rat.num_divInt_den b, Rat.divInt_mul_divInt]
  unfold qd
  simp only [eC, eVar, eVar2, eBin, eBin2, eBin3, eUn, eUn2, eNil, eCons, eCons2, eCons3, eFn, eFn2, eTst, eTst2, eIf, eIf_t, eIf_f, eAnd, eAnd_t, eAnd_f, eOr, eOr_t, eOr_f, eNot, eNot2, eCall, eCall2, eCallC, eSl, eSl2, eSl3, eSl4, eNo, ePart, ePart2, sNil_, sSeq_, sBrk_, sCnt_, sDrop_, sDrop2, sDropE, sRet_, sRet2, sRetE, sRetN_, sIf_, sIf_t, sIf_f, sSet_, sSet2, sSetE, setT_nm, setTs_nil, setTs_cons, optS_some, sPar2_, sPar22, sFor_, sFor2, cIter_, cIter_t, cIter_l, cIter_s, cItL_, cItL2, sRaise_, runF_, endR_nx, endR_rt, endR_err, opt_some, seq_nx, seq_rt, seq_bk, seq_ct, seq_err, startE, List.map_cons, List.map_nil, List.length_cons, List.length_nil, List.replicate_succ, List.replicate_zero, List.cons_append, List.nil_append, List.append_nil, List.getElem?_cons_zero, List.getElem?_cons_succ, List.set_cons_zero, List.set_cons_succ, Option.bind_some, Option.map_some, Nat.reduceAdd, Nat.reduceSub, fAdd_int, fSub_int, fNeg_int, gGcd_int, fGt_int, fLt_int, fLe_int, fTup2, fIx_0, fIx_1, fMul_int (mulOk ha.n hb.n (by decide)), fMul_int (mulOk ha.d hb.d (by decide)), r__law_q (Int.mul_ne_zero (den_ne a) (den_ne b)) ((ha.d.mul hb.d).mono (by decide)), h]
  rfl
end
end K00

namespace K00
open PySem PySem.Spec PyProof.Rows L2 DI
def rsum : List Rat → Rat
  | [] => 0
  | r :: rs => r + rsum rs
/-- all that is summed, and each part of the sum, has few bits -/
def SumOk : Rat → List Rat → Prop
  | a, [] => True
  | a, r :: rs => Sq 4000 a ∧ Sq 4000 r ∧ SumOk (a + r) rs
theorem forL_nil {it : ItD} {t : Tgt} {b : EvS} {env : En} {M : Mem} (h : DepOk it M) : forL it t b [] env M = .nx env M := by
  unfold forL
  exact if_pos h
theorem forL_cons {it : ItD} {t : Tgt} {b : EvS} {d : D} {ds : List D} {env : En} {M : Mem} (h : DepOk it M) : forL it t b (d :: ds) env M = (optS (setT M t d env) M).seq fun env1 M1 => (b env1 M1).turn (forL it t b ds) := by
  conv => lhs; unfold forL
  exact if_pos h
theorem depOk_nil {xs : List D} {M : Mem} : DepOk ⟨xs, []⟩ M := fun p hp => nomatch hp
theorem depOk_one {xs ds : List D} {i : Nat} {M : Mem} (h : M[i]? = some (.lst ds)) : DepOk ⟨xs, [(i, ds)]⟩ M := fun p hp => by
  obtain rfl := List.mem_singleton.mp hp
  exact h
theorem forL_sum {F : FnD} {M : Mem} (hF : ∀ a b, Sq 4000 a → Sq 4000 b → F [qd a, qd b] M = .ok (qd (a + b)) M) {it : ItD} (hM : DepOk it M) {l : Sl} : ∀ (rs : List Rat) (a : Rat) (s : Sl), SumOk a rs →
    ∃ s', forL it (.nm 2) (sSet (.nm 1) (cCall F (cCons (cVar 1) (cCons (cVar 2) cNil)))) (rs.map qd) [l, .val (qd a), s] M = .nx [l, .val (qd (a + rsum rs)), s'] M
  | [], a, s, _ => ⟨s, by rw [List.map_nil, forL_nil hM, show a + rsum [] = a from Rat.add_zero a]⟩
  | r :: rs, a, s, ⟨h1, h2, h3⟩ => by
    obtain ⟨s', e⟩ := forL_sum hF hM rs (a + r) (.val (qd r)) h3
    refine ⟨s', ?_⟩
    rw [List.map_cons, forL_cons hM]
    simp only [eC, eVar, eVar2, eBin, eBin2, eBin3, eUn, eUn2, eNil, eCons, eCons2, eCons3, eFn, eFn2, eTst, eTst2, eIf, eIf_t, eIf_f, eAnd, eAnd_t, eAnd_f, eOr, eOr_t, eOr_f, eNot, eNot2, eCall, eCall2, eCallC, eSl, eSl2, eSl3, eSl4, eNo, ePart, ePart2, sNil_, sSeq_, sBrk_, sCnt_, sDrop_, sDrop2, sDropE, sRet_, sRet2, sRetE, sRetN_, sIf_, sIf_t, sIf_f, sSet_, sSet2, sSetE, setT_nm, setTs_nil, setTs_cons, optS_some, sPar2_, sPar22, sFor_, sFor2, cIter_, cIter_t, cIter_l, cIter_s, cItL_, cItL2, sRaise_, runF_, endR_nx, endR_rt, endR_err, opt_some, seq_nx, seq_rt, seq_bk, seq_ct, seq_err, startE, List.map_cons, List.map_nil, List.length_cons, List.length_nil, List.replicate_succ, List.replicate_zero, List.cons_append, List.nil_append, List.append_nil, List.getElem?_cons_zero, List.getElem?_cons_succ, List.set_cons_zero, List.set_cons_succ, Option.bind_some, Option.map_some, Nat.reduceAdd, Nat.reduceSub, fAdd_int, fSub_int, fNeg_int, gGcd_int, fGt_int, fLt_int, fLe_int, fTup2, hF a r h1 h2, turn_nx]
    rw [e, show a + rsum (r :: rs) = a + r + rsum rs by rw [Rat.add_assoc]; rfl]
theorem qd_zero : qd 0 = .tup [.int 0, .int 1] := rfl
theorem qd_one : qd 1 = .tup [.int 1, .int 1] := rfl
theorem r_total_it {x : D} {it : ItD} {rs : List Rat} {M : Mem} (hit : it2 (.ok x M) = .ok it M) (hx : it.xs = rs.map qd) (hM : DepOk it M) (h : SumOk 0 rs) : f_total [x] M = .ok (qd (rsum rs)) M := by
  unfold f_total b_total
  obtain ⟨s', e⟩ := forL_sum (F := f_plus) (M := M) (fun a b ha hb => r_plus ha hb) hM (l := .val x) rs 0 .none h
  simp only [eC, eVar, eVar2, eBin, eBin2, eBin3, eUn, eUn2, eNil, eCons, eCons2, eCons3, eFn, eFn2, eTst, eTst2, eIf, eIf_t, eIf_f, eAnd, eAnd_t, eAnd_f, eOr, eOr_t, eOr_f, eNot, eNot2, eCall, eCall2, eCallC, eSl, eSl2, eSl3, eSl4, eNo, ePart, ePart2, sNil_, sSeq_, sBrk_, sCnt_, sDrop_, sDrop2, sDropE, sRet_, sRet2, sRetE, sRetN_, sIf_, sIf_t, sIf_f, sSet_, sSet2, sSetE, setT_nm, setTs_nil, setTs_cons, optS_some, sPar2_, sPar22, sFor_, sFor2, cIter_, cIter_t, cIter_l, cIter_s, cItL_, cItL2, sRaise_, runF_, endR_nx, endR_rt, endR_err, opt_some, seq_nx, seq_rt, seq_bk, seq_ct, seq_err, startE, List.map_cons, List.map_nil, List.length_cons, List.length_nil, List.replicate_succ, List.replicate_zero, List.cons_append, List.nil_append, List.append_nil, List.getElem?_cons_zero, List.getElem?_cons_succ, List.set_cons_zero, List.set_cons_succ, Option.bind_some, Option.map_some, Nat.reduceAdd, Nat.reduceSub, fAdd_int, fSub_int, fNeg_int, gGcd_int, fGt_int, fLt_int, fLe_int, fTup2, hit, hx, show d_ZERO = qd 0 from rfl, e, Rat.zero_add]
theorem r_total {rs : List Rat} {M : Mem} (h : SumOk 0 rs) : f_total [.lst (rs.map qd)] M = .ok (qd (rsum rs)) M := r_total_it (it := ⟨rs.map qd, []⟩) rfl rfl depOk_nil h
theorem r__law_sum {rs : List Rat} {M : Mem} (h : SumOk 0 rs) : f__law_sum [.lst (rs.map qd)] M = .ok (qd (rsum rs)) M := by
  unfold f__law_sum b__law_sum
  obtain ⟨s', e⟩ := forL_sum (F := f__law_plus) (M := M) (fun a b ha hb => r__law_plus ha hb) (it := ⟨rs.map qd, []⟩) depOk_nil (l := .val (.lst (rs.map qd))) rs 0 .none h
  simp only [eC, eVar, eVar2, eBin, eBin2, eBin3, eUn, eUn2, eNil, eCons, eCons2, eCons3, eFn, eFn2, eTst, eTst2, eIf, eIf_t, eIf_f, eAnd, eAnd_t, eAnd_f, eOr, eOr_t, eOr_f, eNot, eNot2, eCall, eCall2, eCallC, eSl, eSl2, eSl3, eSl4, eNo, ePart, ePart2, sNil_, sSeq_, sBrk_, sCnt_, sDrop_, sDrop2, sDropE, sRet_, sRet2, sRetE, sRetN_, sIf_, sIf_t, sIf_f, sSet_, sSet2, sSetE, setT_nm, setTs_nil, setTs_cons, optS_some, sPar2_, sPar22, sFor_, sFor2, cIter_, cIter_t, cIter_l, cIter_s, cItL_, cItL2, sRaise_, runF_, endR_nx, endR_rt, endR_err, opt_some, seq_nx, seq_rt, seq_bk, seq_ct, seq_err, startE, List.map_cons, List.map_nil, List.length_cons, List.length_nil, List.replicate_succ, List.replicate_zero, List.cons_append, List.nil_append, List.append_nil, List.getElem?_cons_zero, List.getElem?_cons_succ, List.set_cons_zero, List.set_cons_succ, Option.bind_some, Option.map_some, Nat.reduceAdd, Nat.reduceSub, fAdd_int, fSub_int, fNeg_int, gGcd_int, fGt_int, fLt_int, fLe_int, fTup2, ← qd_zero, e, Rat.zero_add]
end K00

namespace K00
open PySem PySem.Spec PyProof.Rows L2 DI
/-- what is drawn from -/
structure Dr where
  gr : List Int
  cells : List Int
  rest : Int
  turn : Int
def kS (x : Str) : Key := .inr x
def mm (s : Dr) (R : Mem) : Mem := .lst (s.gr.map D.int) :: .dct [(kS "great", .ref 0), (kS "cells", .lst (s.cells.map D.int)), (kS "rest", .int s.rest), (kS "turn", .int s.turn)] :: R
structure Dr.Ok (s : Dr) (t : Nat) : Prop where
  gr : ∀ x ∈ s.gr, 0 ≤ x
  cells : ∀ x ∈ s.cells, 0 ≤ x
  rest : 0 ≤ s.rest
  turn : 0 ≤ s.turn
  le : s.turn ≤ t
theorem fMod_int {M : Mem} {x y : Int} (h : y ≠ 0) : fMod M (.int x) (.int y) = some (.int (x.fmod y)) := if_pos h
theorem gInt_int {M : Mem} {x : Int} : gInt M [.int x] = some (.int x) := rfl
theorem fPow_5 {M : Mem} {x : Int} (h0 : 0 ≤ x) (h : x < 2 ^ 62) : fPow M (.int x) (.int 5) = some (.int (x ^ 5)) := by
  unfold fPow
  exact if_pos ⟨by decide, by decide, by omega⟩
theorem bl_in {M : Mem} {it : ItD} (hM : DepOk it M) {a0 f : Sl} {t p : Int} (ht : 0 ≤ t) (hp : 0 < p) (hp2 : p < 2 ^ 31) : ∀ (cs : List Int) (b : Int) (e5 : Sl), (∀ c ∈ cs, 0 ≤ c) → 0 ≤ b → b < 2 ^ 62 →
    ∃ b' e5', 0 ≤ b' ∧ b' < 2 ^ 62 ∧ forL it (.nm 5) (sSet (.nm 4) (cBin fMod (cFn gInt (cCons (cBin fAdd (cBin fAdd (cBin fMul (cVar 4) (cC (.int 69621))) (cVar 5)) (cVar 1)) cNil)) (cVar 3))) (cs.map D.int) [a0, .val (.int t), f, .val (.int p), .val (.int b), e5] M = .nx [a0, .val (.int t), f, .val (.int p), .val (.int b'), e5'] M
  | [], b, e5, _, h0, h1 => ⟨b, e5, h0, h1, by rw [List.map_nil, forL_nil hM]⟩
  | c :: cs, b, e5, hc, h0, h1 => by
    have hx : 0 ≤ b * 69621 + c + t := by have := hc c List.mem_cons_self; omega
    have e : (b * 69621 + c + t).fmod p = (b * 69621 + c + t) % p := Int.fmod_eq_emod_of_nonneg _ (Int.le_of_lt hp)
    have l0 := Int.emod_nonneg (b * 69621 + c + t) (show p ≠ 0 by omega)
    have l1 := Int.emod_lt_of_pos (b * 69621 + c + t) hp
    obtain ⟨b', e5', g0, g1, g⟩ := bl_in hM (a0 := a0) (f := f) ht hp hp2 cs ((b * 69621 + c + t).fmod p) (.val (.int c)) (fun z hz => hc z (List.mem_cons_of_mem _ hz)) (by omega) (by omega)
    refine ⟨b', e5', g0, g1, ?_⟩
    rw [List.map_cons, forL_cons hM]
    simp only [eC, eVar, eVar2, eBin, eBin2, eBin3, eUn, eUn2, eNil, eCons, eCons2, eCons3, eFn, eFn2, eTst, eTst2, eIf, eIf_t, eIf_f, eAnd, eAnd_t, eAnd_f, eOr, eOr_t, eOr_f, eNot, eNot2, eCall, eCall2, eCallC, eSl, eSl2, eSl3, eSl4, eNo, ePart, ePart2, sNil_, sSeq_, sBrk_, sCnt_, sDrop_, sDrop2, sDropE, sRet_, sRet2, sRetE, sRetN_, sIf_, sIf_t, sIf_f, sSet_, sSet2, sSetE, setT_nm, setTs_nil, setTs_cons, optS_some, sPar2_, sPar22, sFor_, sFor2, cIter_, cIter_t, cIter_l, cIter_s, cItL_, cItL2, sRaise_, runF_, endR_nx, endR_rt, endR_err, opt_some, seq_nx, seq_rt, seq_bk, seq_ct, seq_err, startE, List.map_cons, List.map_nil, List.length_cons, List.length_nil, List.replicate_succ, List.replicate_zero, List.cons_append, List.nil_append, List.append_nil, List.getElem?_cons_zero, List.getElem?_cons_succ, List.set_cons_zero, List.set_cons_succ, Option.bind_some, Option.map_some, Nat.reduceAdd, Nat.reduceSub, fAdd_int, fSub_int, fNeg_int, gGcd_int, fGt_int, fLt_int, fLe_int, fTup2, gInt_int, fMul_int (IntMulOk.of_right (show Builtin.Int.intBits 69621 ≤ 64 by decide)), fMod_int (show p ≠ 0 by omega), turn_nx, g]
/-- one prime's part -/
theorem bl_out {M : Mem} {it it0 : ItD} (hM : DepOk it M) {t p fd : Int} {cs : List Int} {e4 e5 : Sl} {ps : List D} {e3 : Sl} (hM0 : DepOk it0 M) (hcells : fIx M (.ref 1) (.str "cells") = some (.lst (cs.map D.int))) (ht : 0 ≤ t) (ht2 : t < 2 ^ 40) (hp : 0 < p) (hp2 : p < 2 ^ 31) (hc : ∀ c ∈ cs, 0 ≤ c) (hf : 0 ≤ fd) :
    ∃ fd' e4' e5', 0 ≤ fd' ∧ forL it0 (.nm 3) (sSeq (sSet (.nm 4) (cBin fAdd (cBin fMul (cC (.int 48271)) (cVar 1)) (cBin fDiv (cVar 3) (cC (.int 53))))) (sSeq (sFor (cIter (cBin fIx (cVar 0) (cC (.str "cells")))) (.nm 5) (sSet (.nm 4) (cBin fMod (cFn gInt (cCons (cBin fAdd (cBin fAdd (cBin fMul (cVar 4) (cC (.int 69621))) (cVar 5)) (cVar 1)) cNil)) (cVar 3)))) (sSet (.nm 2) (cBin fAdd (cBin fMul (cVar 2) (cC (.int 2147483647))) (cBin fMod (cFn gInt (cCons (cBin fPow (cVar 4) (cC (.int 5))) cNil)) (cVar 3)))))) (.int p :: ps) [.val (.ref 1), .val (.int t), .val (.int fd), e3, e4, e5] M =
      forL it0 (.nm 3) (sSeq (sSet (.nm 4) (cBin fAdd (cBin fMul (cC (.int 48271)) (cVar 1)) (cBin fDiv (cVar 3) (cC (.int 53))))) (sSeq (sFor (cIter (cBin fIx (cVar 0) (cC (.str "cells")))) (.nm 5) (sSet (.nm 4) (cBin fMod (cFn gInt (cCons (cBin fAdd (cBin fAdd (cBin fMul (cVar 4) (cC (.int 69621))) (cVar 5)) (cVar 1)) cNil)) (cVar 3)))) (sSet (.nm 2) (cBin fAdd (cBin fMul (cVar 2) (cC (.int 2147483647))) (cBin fMod (cFn gInt (cCons (cBin fPow (cVar 4) (cC (.int 5))) cNil)) (cVar 3)))))) ps [.val (.ref 1), .val (.int t), .val (.int fd'), .val (.int p), e4', e5'] M := by
  have d53 : Builtin.divisionGoesByPylong p 53 = false := divOk (show (53 : Nat) < 2 ^ 9000 from Nat.lt_of_lt_of_le (show 53 < 2 ^ 6 by decide) (Nat.pow_le_pow_right (by decide) (by decide)))
  have e53 : p.fdiv 53 = p / 53 := Int.fdiv_eq_ediv_of_nonneg _ (by decide)
  have h1 : 0 ≤ 48271 * t + p.fdiv 53 := by omega
  have h2 : 48271 * t + p.fdiv 53 < 2 ^ 62 := by omega
  obtain ⟨b', e5', g0, g1, g⟩ := bl_in (M := M) (it := ⟨cs.map D.int, []⟩) depOk_nil (a0 := .val (.ref 1)) (f := .val (.int fd)) ht hp hp2 cs _ e5 hc h1 h2
  have l0 := Int.emod_nonneg (b' ^ 5) (show p ≠ 0 by omega)
  have e5m : (b' ^ 5).fmod p = b' ^ 5 % p := Int.fmod_eq_emod_of_nonneg _ (Int.le_of_lt hp)
  refine ⟨fd * 2147483647 + (b' ^ 5).fmod p, .val (.int b'), e5', by omega, ?_⟩
  conv => lhs; rw [forL_cons hM0]
  simp only [eC, eVar, eVar2, eBin, eBin2, eBin3, eUn, eUn2, eNil, eCons, eCons2, eCons3, eFn, eFn2, eTst, eTst2, eIf, eIf_t, eIf_f, eAnd, eAnd_t, eAnd_f, eOr, eOr_t, eOr_f, eNot, eNot2, eCall, eCall2, eCallC, eSl, eSl2, eSl3, eSl4, eNo, ePart, ePart2, sNil_, sSeq_, sBrk_, sCnt_, sDrop_, sDrop2, sDropE, sRet_, sRet2, sRetE, sRetN_, sIf_, sIf_t, sIf_f, sSet_, sSet2, sSetE, setT_nm, setTs_nil, setTs_cons, optS_some, sPar2_, sPar22, sFor_, sFor2, cIter_, cIter_t, cIter_l, cIter_s, cItL_, cItL2, sRaise_, runF_, endR_nx, endR_rt, endR_err, opt_some, seq_nx, seq_rt, seq_bk, seq_ct, seq_err, startE, List.map_cons, List.map_nil, List.length_cons, List.length_nil, List.replicate_succ, List.replicate_zero, List.cons_append, List.nil_append, List.append_nil, List.getElem?_cons_zero, List.getElem?_cons_succ, List.set_cons_zero, List.set_cons_succ, Option.bind_some, Option.map_some, Nat.reduceAdd, Nat.reduceSub, fAdd_int, fSub_int, fNeg_int, gGcd_int, fGt_int, fLt_int, fLe_int, fTup2, gInt_int, fMul_int (IntMulOk.of_right (show Builtin.Int.intBits 2147483647 ≤ 64 by decide)), fMul_int (IntMulOk.of_left (show Builtin.Int.intBits 48271 ≤ 64 by decide)), fDiv_int (show (53 : Int) ≠ 0 by decide) d53, hcells, fMod_int (show p ≠ 0 by omega), fPow_5 g0 g1, turn_nx, g]
section
variable {env : En} {M : Mem} {x y z : D}
noncomputable def six4 (o i v : D) (M : Mem) (env : En) : RS := match setIx M o i v with
  | some M4 => .nx env M4
  | none => .stuck
noncomputable def six3 (v o : D) (r : Res D) (env : En) : RS := r.thenS env fun i M3 => six4 o i v M3 env
noncomputable def six2 (v : D) (r : Res D) (c : EvE) (env : En) : RS := r.thenS env fun o M2 => six3 v o (c env M2) env
noncomputable def six1 (r : Res D) (b c : EvE) (env : En) : RS := r.thenS env fun v M1 => six2 v (b env M1) c env
theorem sSetIx_ {a b c} : sSetIx a b c env M = six1 (a env M) b c env := rfl
theorem sSetIx1 {b c} : six1 (.ok z M) b c env = six2 z (b env M) c env := rfl
theorem sSetIx2 {c} : six2 z (.ok x M) c env = six3 z x (c env M) env := rfl
theorem sSetIx3 : six3 z x (.ok y M) env = six4 x y z M env := rfl
theorem sSetIx4 {M' : Mem} (h : setIx M x y z = some M') : six4 x y z M env = .nx env M' := by
  unfold six4
  rw [h]
end
theorem at_turn {s : Dr} {R : Mem} : fIx (mm s R) (.ref 1) (.str "turn") = some (.int s.turn) := by
  unfold fIx mm
  rfl
theorem at_rest {s : Dr} {R : Mem} : fIx (mm s R) (.ref 1) (.str "rest") = some (.int s.rest) := by
  unfold fIx mm
  rfl
theorem at_cells {s : Dr} {R : Mem} : fIx (mm s R) (.ref 1) (.str "cells") = some (.lst (s.cells.map D.int)) := by
  unfold fIx mm
  rfl
theorem at_great {s : Dr} {R : Mem} : fIx (mm s R) (.ref 1) (.str "great") = some (.ref 0) := by
  unfold fIx mm
  rfl
theorem put_turn {s : Dr} {R : Mem} {v : Int} : setIx (mm s R) (.ref 1) (.str "turn") (.int v) = some (mm { s with turn := v } R) := by
  have h : (4 : Nat) < sizeLine := by decide +kernel
  unfold setIx
  show (if below 1 (.int v) = true ∧ (4 : Nat) < sizeLine then _ else none) = _
  rw [if_pos ⟨rfl, h⟩]
  rfl
theorem put_rest {s : Dr} {R : Mem} {v : Int} : setIx (mm s R) (.ref 1) (.str "rest") (.int v) = some (mm { s with rest := v } R) := by
  have h : (4 : Nat) < sizeLine := by decide +kernel
  unfold setIx
  show (if below 1 (.int v) = true ∧ (4 : Nat) < sizeLine then _ else none) = _
  rw [if_pos ⟨rfl, h⟩]
  rfl
theorem fLst_3 {M : Mem} {x y z : D} : fLst M [x, y, z] = some (.lst [x, y, z]) := by
  unfold fLst
  have h : (3 : Nat) ≤ sizeLine := by decide +kernel
  exact if_pos h
theorem r_blended {s : Dr} {t : Nat} {R : Mem} (h : s.Ok t) (ht : t < 2 ^ 39) : ∃ v s', f__law_blended [.ref 1] (mm s R) = .ok (.int v) (mm s' R) ∧ 0 ≤ v ∧ s'.Ok (t + 1) := by
  have o := h.turn
  have o2 := h.le
  have t0 : (0 : Int) ≤ s.turn + 1 := by omega
  have t1 : s.turn + 1 < 2 ^ 40 := by omega
  obtain ⟨f1, a4, a5, z1, g1⟩ := bl_out (M := mm { s with turn := s.turn + 1 } R) (it0 := ⟨[.int 2147483579, .int 2147483629, .int 2147483563], []⟩) (it := ⟨[], []⟩) (ps := [.int 2147483629, .int 2147483563]) (e3 := .none) (e4 := .none) (e5 := .none) depOk_nil depOk_nil at_cells t0 t1 (p := 2147483579) (by decide) (by decide) h.cells (show (0 : Int) ≤ 0 by decide)
  obtain ⟨f2, b4, b5, z2, g2⟩ := bl_out (M := mm { s with turn := s.turn + 1 } R) (it0 := ⟨[.int 2147483579, .int 2147483629, .int 2147483563], []⟩) (it := ⟨[], []⟩) (ps := [.int 2147483563]) (e3 := .val (.int 2147483579)) (e4 := a4) (e5 := a5) depOk_nil depOk_nil at_cells t0 t1 (p := 2147483629) (by decide) (by decide) h.cells z1
  obtain ⟨f3, c4, c5, z3, g3⟩ := bl_out (M := mm { s with turn := s.turn + 1 } R) (it0 := ⟨[.int 2147483579, .int 2147483629, .int 2147483563], []⟩) (it := ⟨[], []⟩) (ps := []) (e3 := .val (.int 2147483629)) (e4 := b4) (e5 := b5) depOk_nil depOk_nil at_cells t0 t1 (p := 2147483563) (by decide) (by decide) h.cells z2
  refine ⟨f3, { s with turn := s.turn + 1 }, ?_, z3, ⟨h.gr, h.cells, h.rest, t0, by show s.turn + 1 ≤ ((t + 1 : Nat) : Int); omega⟩⟩
  unfold f__law_blended b__law_blended
  simp only [eC, eVar, eVar2, eBin, eBin2, eBin3, eUn, eUn2, eNil, eCons, eCons2, eCons3, eFn, eFn2, eTst, eTst2, eIf, eIf_t, eIf_f, eAnd, eAnd_t, eAnd_f, eOr, eOr_t, eOr_f, eNot, eNot2, eCall, eCall2, eCallC, eSl, eSl2, eSl3, eSl4, eNo, ePart, ePart2, sNil_, sSeq_, sBrk_, sCnt_, sDrop_, sDrop2, sDropE, sRet_, sRet2, sRetE, sRetN_, sIf_, sIf_t, sIf_f, sSet_, sSet2, sSetE, setT_nm, setTs_nil, setTs_cons, optS_some, sPar2_, sPar22, sFor_, sFor2, cIter_, cIter_t, cIter_l, cIter_s, cItL_, cItL2, sRaise_, runF_, endR_nx, endR_rt, endR_err, opt_some, seq_nx, seq_rt, seq_bk, seq_ct, seq_err, startE, List.map_cons, List.map_nil, List.length_cons, List.length_nil, List.replicate_succ, List.replicate_zero, List.cons_append, List.nil_append, List.append_nil, List.getElem?_cons_zero, List.getElem?_cons_succ, List.set_cons_zero, List.set_cons_succ, Option.bind_some, Option.map_some, Nat.reduceAdd, Nat.reduceSub, fAdd_int, fSub_int, fNeg_int, gGcd_int, fGt_int, fLt_int, fLe_int, fTup2, at_turn, sSetIx_, sSetIx1, sSetIx2, sSetIx3, sSetIx4 put_turn, fLst_3, g1, g2, g3, forL_nil depOk_nil]
end K00

namespace K00
open PySem PySem.Spec PyProof.Rows L2 DI
section
variable {env : En} {M : Mem} {x y z : D} {ds : List D}
def cm3 (f : MOp) (o : D) (r : Res (List D)) : Res D := r.bind fun ds M2 => optM (f M2 o ds)
def cm2 (T : String) (f : MOp) (r : Res D) (b : EvL) (env : En) : Res D := r.bind fun o M1 => if tyM M1 o = some T then cm3 f o (b env M1) else .stuck
theorem eM {T f a b} : cM T f a b env M = cm2 T f (a env M) b env := rfl
theorem eM2 {T f b} (h : tyM M x = some T) : cm2 T f (.ok x M) b env = cm3 f x (b env M) := if_pos h
theorem eM3 {f : MOp} : cm3 f x (.ok ds M) = optM (f M x ds) := rfl
theorem optM_some : optM (some (x, M)) = .ok x M := rfl
end
theorem toPys_ints : ∀ ns : List Int, toPys (ns.map D.int) = some (ns.map PyData.int)
  | [] => rfl
  | n :: ns => by
    rw [List.map_cons, toPys, toPys_ints ns]
    rfl
theorem fEq_int {M : Mem} {x y : Int} : fEq M (.int x) (.int y) = some (.bl (decide (x = y))) := by
  unfold fEq eqD
  show ((if SeqAt.shaped (.int x) = true ∧ SeqAt.shaped (.int y) = true then some (PyData.eqv (.int x) (.int y)) else none).map D.bl) = _
  rw [if_pos ⟨by rfl, by rfl⟩]
  show some (D.bl (x == y)) = _
  congr 2
theorem fNe_great {s : Dr} {R : Mem} : fNe (mm s R) (.ref 0) (.lst []) = some (.bl (!s.gr.isEmpty)) := by
  unfold fNe eqD
  show ((match toPy (.lst (s.gr.map D.int)), toPy (.lst []) with
    | some a, some b => if SeqAt.shaped a = true ∧ SeqAt.shaped b = true then some (PyData.eqv a b) else none
    | _, _ => none).map fun b => D.bl (!b)) = _
  rw [toPy, toPys_ints]
  show ((if SeqAt.shaped (.list (s.gr.map PyData.int)) = true ∧ SeqAt.shaped (.list []) = true then some (PyData.eqv (.list (s.gr.map PyData.int)) (.list [])) else none).map fun b => D.bl (!b)) = _
  rw [if_pos ⟨(PySem.W.ke_shaped_ints _), by rfl⟩]
  cases s.gr with
  | nil => rfl
  | cons a r => rfl
theorem fLst_0 {M : Mem} : fLst M [] = some (.lst []) := by
  unfold fLst
  exact if_pos (Nat.zero_le _)
theorem pop_great {s : Dr} {R : Mem} {x : Int} {r : List Int} (h : s.gr = x :: r) : mPopAt (mm s R) (.ref 0) [.int 0] = some (.int x, mm { s with gr := r } R) := by
  unfold mPopAt
  show (if (0 : Int).natAbs ≤ 100000 then (seqIndex? 0 (s.gr.map D.int).length).bind fun j => ((s.gr.map D.int)[j]?).map fun y => (y, List.set (mm s R) 0 (.lst ((s.gr.map D.int).eraseIdx j))) else none) = _
  have e : ∀ n : Nat, seqIndex? 0 (n + 1) = some 0 := fun n => by
    unfold seqIndex?
    simp
  rw [if_pos (by decide), h, List.map_cons, List.length_cons, e]
  rfl
theorem ty_great {s : Dr} {R : Mem} : tyM (mm s R) (.ref 0) = some "list" := rfl
theorem room_div {x room : Int} (h : 0 < room) (h2 : room < 2 ^ 60) : Builtin.divisionGoesByPylong x room = false := divOk (Nat.lt_of_lt_of_le (show room.natAbs < 2 ^ 60 by omega) (Nat.pow_le_pow_right (by decide) (by decide)))
theorem r_draw {s : Dr} {t : Nat} {R : Mem} {room : Int} (h : s.Ok t) (ht : t < 2 ^ 39) (hr : 0 < room) (hr2 : room < 2 ^ 60) : ∃ v s', f__law_draw [.ref 1, .int room] (mm s R) = .ok (.int v) (mm s' R) ∧ 0 ≤ v ∧ v < room ∧ s'.Ok (t + 1) := by
  -- the second half
  have fin : ∀ s1 : Dr, s1.Ok (t + 1) → ∃ v s', endR ((sSeq (sSet (.nm 2) (cBin fMod (cFn gInt (cCons (cBin fIx (cVar 0) (cC (.str "rest"))) cNil)) (cVar 1))) (sSeq (sSetIx (cBin fDiv (cBin fIx (cVar 0) (cC (.str "rest"))) (cVar 1)) (cVar 0) (cC (.str "rest"))) (sRet (cVar 2)))) [.val (.ref 1), .val (.int room), .none] (mm s1 R)) = .ok (.int v) (mm s' R) ∧ 0 ≤ v ∧ v < room ∧ s'.Ok (t + 1) := by
    intro s1 h1
    have e1 : s1.rest.fmod room = s1.rest % room := Int.fmod_eq_emod_of_nonneg _ (Int.le_of_lt hr)
    have e2 : s1.rest.fdiv room = s1.rest / room := Int.fdiv_eq_ediv_of_nonneg _ (Int.le_of_lt hr)
    have l0 := Int.emod_nonneg s1.rest (show room ≠ 0 by omega)
    have l1 := Int.emod_lt_of_pos s1.rest hr
    have l2 := Int.ediv_nonneg h1.rest (Int.le_of_lt hr)
    refine ⟨s1.rest.fmod room, { s1 with rest := s1.rest.fdiv room }, ?_, by omega, by omega, ⟨h1.gr, h1.cells, by show 0 ≤ s1.rest.fdiv room; omega, h1.turn, h1.le⟩⟩
    simp only [eC, eVar, eVar2, eBin, eBin2, eBin3, eUn, eUn2, eNil, eCons, eCons2, eCons3, eFn, eFn2, eTst, eTst2, eIf, eIf_t, eIf_f, eAnd, eAnd_t, eAnd_f, eOr, eOr_t, eOr_f, eNot, eNot2, eCall, eCall2, eCallC, eSl, eSl2, eSl3, eSl4, eNo, ePart, ePart2, sNil_, sSeq_, sBrk_, sCnt_, sDrop_, sDrop2, sDropE, sRet_, sRet2, sRetE, sRetN_, sIf_, sIf_t, sIf_f, sSet_, sSet2, sSetE, setT_nm, setTs_nil, setTs_cons, optS_some, sPar2_, sPar22, sFor_, sFor2, cIter_, cIter_t, cIter_l, cIter_s, cItL_, cItL2, sRaise_, runF_, endR_nx, endR_rt, endR_err, opt_some, seq_nx, seq_rt, seq_bk, seq_ct, seq_err, startE, List.map_cons, List.map_nil, List.length_cons, List.length_nil, List.replicate_succ, List.replicate_zero, List.cons_append, List.nil_append, List.append_nil, List.getElem?_cons_zero, List.getElem?_cons_succ, List.set_cons_zero, List.set_cons_succ, Option.bind_some, Option.map_some, Nat.reduceAdd, Nat.reduceSub, fAdd_int, fSub_int, fNeg_int, gGcd_int, fGt_int, fLt_int, fLe_int, fTup2, at_rest, gInt_int, fMod_int (show room ≠ 0 by omega), fDiv_int (show room ≠ 0 by omega) (room_div hr hr2), sSetIx_, sSetIx1, sSetIx2, sSetIx3, sSetIx4 put_rest]
  have up : s.Ok (t + 1) := ⟨h.gr, h.cells, h.rest, h.turn, by have := h.le; omega⟩
  unfold f__law_draw b__law_draw
  by_cases h0 : s.rest = 0
  · cases hg : s.gr with
    | nil =>
      obtain ⟨b, s1, e, hb, h1⟩ := r_blended (R := R) h ht
      obtain ⟨v, s', e', z⟩ := fin { s1 with rest := b } ⟨h1.gr, h1.cells, hb, h1.turn, h1.le⟩
      refine ⟨v, s', ?_, z⟩
      rw [← e']
      simp only [eC, eVar, eVar2, eBin, eBin2, eBin3, eUn, eUn2, eNil, eCons, eCons2, eCons3, eFn, eFn2, eTst, eTst2, eIf, eIf_t, eIf_f, eAnd, eAnd_t, eAnd_f, eOr, eOr_t, eOr_f, eNot, eNot2, eCall, eCall2, eCallC, eSl, eSl2, eSl3, eSl4, eNo, ePart, ePart2, sNil_, sSeq_, sBrk_, sCnt_, sDrop_, sDrop2, sDropE, sRet_, sRet2, sRetE, sRetN_, sIf_, sIf_t, sIf_f, sSet_, sSet2, sSetE, setT_nm, setTs_nil, setTs_cons, optS_some, sPar2_, sPar22, sFor_, sFor2, cIter_, cIter_t, cIter_l, cIter_s, cItL_, cItL2, sRaise_, runF_, endR_nx, endR_rt, endR_err, opt_some, seq_nx, seq_rt, seq_bk, seq_ct, seq_err, startE, List.map_cons, List.map_nil, List.length_cons, List.length_nil, List.replicate_succ, List.replicate_zero, List.cons_append, List.nil_append, List.append_nil, List.getElem?_cons_zero, List.getElem?_cons_succ, List.set_cons_zero, List.set_cons_succ, Option.bind_some, Option.map_some, Nat.reduceAdd, Nat.reduceSub, fAdd_int, fSub_int, fNeg_int, gGcd_int, fGt_int, fLt_int, fLe_int, fTup2, at_rest, h0, fEq_int, decide_true, at_great, fLst_0, fNe_great, hg, List.isEmpty_nil, Bool.not_true, e, sSetIx_, sSetIx1, sSetIx2, sSetIx3, sSetIx4 put_rest]
    | cons x r =>
      obtain ⟨v, s', e', z⟩ := fin { s with gr := r, rest := x } ⟨fun y hy => h.gr y (by rw [hg]; exact List.mem_cons_of_mem _ hy), h.cells, h.gr x (by rw [hg]; exact List.mem_cons_self), h.turn, up.le⟩
      refine ⟨v, s', ?_, z⟩
      rw [← e']
      simp only [eC, eVar, eVar2, eBin, eBin2, eBin3, eUn, eUn2, eNil, eCons, eCons2, eCons3, eFn, eFn2, eTst, eTst2, eIf, eIf_t, eIf_f, eAnd, eAnd_t, eAnd_f, eOr, eOr_t, eOr_f, eNot, eNot2, eCall, eCall2, eCallC, eSl, eSl2, eSl3, eSl4, eNo, ePart, ePart2, sNil_, sSeq_, sBrk_, sCnt_, sDrop_, sDrop2, sDropE, sRet_, sRet2, sRetE, sRetN_, sIf_, sIf_t, sIf_f, sSet_, sSet2, sSetE, setT_nm, setTs_nil, setTs_cons, optS_some, sPar2_, sPar22, sFor_, sFor2, cIter_, cIter_t, cIter_l, cIter_s, cItL_, cItL2, sRaise_, runF_, endR_nx, endR_rt, endR_err, opt_some, seq_nx, seq_rt, seq_bk, seq_ct, seq_err, startE, List.map_cons, List.map_nil, List.length_cons, List.length_nil, List.replicate_succ, List.replicate_zero, List.cons_append, List.nil_append, List.append_nil, List.getElem?_cons_zero, List.getElem?_cons_succ, List.set_cons_zero, List.set_cons_succ, Option.bind_some, Option.map_some, Nat.reduceAdd, Nat.reduceSub, fAdd_int, fSub_int, fNeg_int, gGcd_int, fGt_int, fLt_int, fLe_int, fTup2, at_rest, h0, fEq_int, decide_true, at_great, fLst_0, fNe_great, hg, List.isEmpty_cons, Bool.not_false, eM, eM2 ty_great, eM3, pop_great hg, optM_some, sSetIx_, sSetIx1, sSetIx2, sSetIx3, sSetIx4 put_rest]
  · obtain ⟨v, s', e', z⟩ := fin s up
    refine ⟨v, s', ?_, z⟩
    rw [← e']
    simp only [eC, eVar, eVar2, eBin, eBin2, eBin3, eUn, eUn2, eNil, eCons, eCons2, eCons3, eFn, eFn2, eTst, eTst2, eIf, eIf_t, eIf_f, eAnd, eAnd_t, eAnd_f, eOr, eOr_t, eOr_f, eNot, eNot2, eCall, eCall2, eCallC, eSl, eSl2, eSl3, eSl4, eNo, ePart, ePart2, sNil_, sSeq_, sBrk_, sCnt_, sDrop_, sDrop2, sDropE, sRet_, sRet2, sRetE, sRetN_, sIf_, sIf_t, sIf_f, sSet_, sSet2, sSetE, setT_nm, setTs_nil, setTs_cons, optS_some, sPar2_, sPar22, sFor_, sFor2, cIter_, cIter_t, cIter_l, cIter_s, cItL_, cItL2, sRaise_, runF_, endR_nx, endR_rt, endR_err, opt_some, seq_nx, seq_rt, seq_bk, seq_ct, seq_err, startE, List.map_cons, List.map_nil, List.length_cons, List.length_nil, List.replicate_succ, List.replicate_zero, List.cons_append, List.nil_append, List.append_nil, List.getElem?_cons_zero, List.getElem?_cons_succ, List.set_cons_zero, List.set_cons_succ, Option.bind_some, Option.map_some, Nat.reduceAdd, Nat.reduceSub, fAdd_int, fSub_int, fNeg_int, gGcd_int, fGt_int, fLt_int, fLe_int, fTup2, at_rest, fEq_int, decide_eq_false h0, gInt_int]
end K00

namespace K00
open PySem PySem.Spec PyProof.Rows L2 DI
theorem gLen_lst {M : Mem} {xs : List D} : gLen M [.lst xs] = some (.int xs.length) := rfl
theorem gLen_tup {M : Mem} {xs : List D} : gLen M [.tup xs] = some (.int xs.length) := rfl
theorem fLst_le {M : Mem} {xs : List D} (h : xs.length ≤ 1000) : fLst M xs = some (.lst xs) := by
  unfold fLst
  have h2 : 1000 ≤ sizeLine := by decide +kernel
  exact if_pos (by omega)
theorem fTup_le {M : Mem} {xs : List D} (h : xs.length ≤ 1000) : fTup M xs = some (.tup xs) := by
  unfold fTup
  have h2 : 1000 ≤ sizeLine := by decide +kernel
  exact if_pos (by omega)
theorem atI_in {xs : List D} {v : Int} (h0 : 0 ≤ v) (h1 : v < xs.length) : ∃ x ∈ xs, atI xs v = some x := by
  have hl : v.toNat < xs.length := by omega
  have e := atI_nat (xs := xs) (j := v.toNat) (List.getElem?_eq_getElem hl)
  rw [Int.toNat_of_nonneg h0] at e
  exact ⟨_, List.getElem_mem hl, e⟩
theorem r_pick {s : Dr} {t : Nat} {R : Mem} {xs : List D} (h : s.Ok t) (ht : t < 2 ^ 39) (hx : xs ≠ []) (hl : xs.length ≤ 1000) : ∃ x s', f__law_pick [.ref 1, .lst xs] (mm s R) = .ok x (mm s' R) ∧ x ∈ xs ∧ s'.Ok (t + 1) := by
  have hp : 0 < xs.length := List.length_pos_iff.mpr hx
  obtain ⟨v, s', e, v0, v1, h'⟩ := r_draw (R := R) (room := (xs.length : Int)) h ht (by omega) (by omega)
  obtain ⟨x, hm, ex⟩ := atI_in (xs := xs) v0 v1
  refine ⟨x, s', ?_, hm, h'⟩
  have ei : fIx (mm s' R) (.lst xs) (.int v) = some x := ex
  unfold f__law_pick b__law_pick
  simp only [eC, eVar, eVar2, eBin, eBin2, eBin3, eUn, eUn2, eNil, eCons, eCons2, eCons3, eFn, eFn2, eTst, eTst2, eIf, eIf_t, eIf_f, eAnd, eAnd_t, eAnd_f, eOr, eOr_t, eOr_f, eNot, eNot2, eCall, eCall2, eCallC, eSl, eSl2, eSl3, eSl4, eNo, ePart, ePart2, sNil_, sSeq_, sBrk_, sCnt_, sDrop_, sDrop2, sDropE, sRet_, sRet2, sRetE, sRetN_, sIf_, sIf_t, sIf_f, sSet_, sSet2, sSetE, setT_nm, setTs_nil, setTs_cons, optS_some, sPar2_, sPar22, sFor_, sFor2, cIter_, cIter_t, cIter_l, cIter_s, cItL_, cItL2, sRaise_, runF_, endR_nx, endR_rt, endR_err, opt_some, seq_nx, seq_rt, seq_bk, seq_ct, seq_err, startE, List.map_cons, List.map_nil, List.length_cons, List.length_nil, List.replicate_succ, List.replicate_zero, List.cons_append, List.nil_append, List.append_nil, List.getElem?_cons_zero, List.getElem?_cons_succ, List.set_cons_zero, List.set_cons_succ, Option.bind_some, Option.map_some, Nat.reduceAdd, Nat.reduceSub, fAdd_int, fSub_int, fNeg_int, gGcd_int, fGt_int, fLt_int, fLe_int, fTup2, gLen_lst, e, ei]
theorem Sq.of {n d : Int} {b : Nat} (hn : n.natAbs < 2 ^ b) (hd : d.natAbs < 2 ^ b) (h : d ≠ 0) : Sq b (Rat.divInt n d) := Sq.divInt hn hd h
theorem small_d {d : Int} (h : 0 < d) (h2 : d < 2 ^ 60) : Sm 9000 d := Nat.lt_of_lt_of_le (show d.natAbs < 2 ^ 60 by omega) (Nat.pow_le_pow_right (by decide) (by decide))
theorem fSub0 {M : Mem} {x : Int} : fSub M (.int 0) (.int x) = some (.int (-x)) := by
  rw [fSub_int, Int.zero_sub]
theorem r_number {s : Dr} {t : Nat} {R : Mem} (h : s.Ok t) (ht : t + 4 < 2 ^ 39) : ∃ (n d : Int) (s' : Dr), f__law_number [.ref 1, .int 9] (mm s R) = .ok (qd (Rat.divInt n d)) (mm s' R) ∧ n.natAbs ≤ 9 ∧ 1 ≤ d ∧ d ≤ 9 ∧ s'.Ok (t + 4) := by
  obtain ⟨n, s1, e1, n0, n1, h1⟩ := r_draw (R := R) (room := 10) h (by omega) (by decide) (by decide)
  obtain ⟨x, s2, e2, hx, h2⟩ := r_pick (R := R) (xs := [.int 1, .int 1, .int 3, .int 9]) h1 (by omega) (by decide) (by decide)
  obtain ⟨m, rfl, m0, m1⟩ : ∃ m : Int, x = .int m ∧ 0 < m ∧ m ≤ 9 := by
    simp only [List.mem_cons, List.not_mem_nil, or_false] at hx
    rcases hx with rfl | rfl | rfl | rfl
    · exact ⟨1, rfl, by decide, by decide⟩
    · exact ⟨1, rfl, by decide, by decide⟩
    · exact ⟨3, rfl, by decide, by decide⟩
    · exact ⟨9, rfl, by decide, by decide⟩
  obtain ⟨d, s3, e3, d0, d1, h3⟩ := r_draw (R := R) (room := m) h2 (by omega) m0 (by omega)
  obtain ⟨g, s4, e4, g0, g1, h4⟩ := r_draw (R := R) (room := 2) h3 (by omega) (by decide) (by decide)
  have q1 : ∀ k : Int, f__law_q [.int k, .int (1 + d)] (mm s4 R) = .ok (qd (Rat.divInt k (1 + d))) (mm s4 R) := fun k => r__law_q (by omega) (small_d (by omega) (by omega))
  by_cases hg : g = 0
  · refine ⟨n, 1 + d, s4, ?_, by omega, by omega, by omega, h4⟩
    unfold f__law_number b__law_number
    simp only [eC, eVar, eVar2, eBin, eBin2, eBin3, eUn, eUn2, eNil, eCons, eCons2, eCons3, eFn, eFn2, eTst, eTst2, eIf, eIf_t, eIf_f, eAnd, eAnd_t, eAnd_f, eOr, eOr_t, eOr_f, eNot, eNot2, eCall, eCall2, eCallC, eSl, eSl2, eSl3, eSl4, eNo, ePart, ePart2, sNil_, sSeq_, sBrk_, sCnt_, sDrop_, sDrop2, sDropE, sRet_, sRet2, sRetE, sRetN_, sIf_, sIf_t, sIf_f, sSet_, sSet2, sSetE, setT_nm, setTs_nil, setTs_cons, optS_some, sPar2_, sPar22, sFor_, sFor2, cIter_, cIter_t, cIter_l, cIter_s, cItL_, cItL2, sRaise_, runF_, endR_nx, endR_rt, endR_err, opt_some, seq_nx, seq_rt, seq_bk, seq_ct, seq_err, startE, List.map_cons, List.map_nil, List.length_cons, List.length_nil, List.replicate_succ, List.replicate_zero, List.cons_append, List.nil_append, List.append_nil, List.getElem?_cons_zero, List.getElem?_cons_succ, List.set_cons_zero, List.set_cons_succ, Option.bind_some, Option.map_some, Nat.reduceAdd, Nat.reduceSub, fAdd_int, fSub_int, fNeg_int, gGcd_int, fGt_int, fLt_int, fLe_int, fTup2, show (9 : Int) + 1 = 10 from rfl, e1, fLst_le (show [D.int 1, D.int 1, D.int 3, D.int 9].length ≤ 1000 by decide), e2, e3, e4, fEq_int, decide_eq_true hg, q1]
  · refine ⟨-n, 1 + d, s4, ?_, by omega, by omega, by omega, h4⟩
    unfold f__law_number b__law_number
    simp only [eC, eVar, eVar2, eBin, eBin2, eBin3, eUn, eUn2, eNil, eCons, eCons2, eCons3, eFn, eFn2, eTst, eTst2, eIf, eIf_t, eIf_f, eAnd, eAnd_t, eAnd_f, eOr, eOr_t, eOr_f, eNot, eNot2, eCall, eCall2, eCallC, eSl, eSl2, eSl3, eSl4, eNo, ePart, ePart2, sNil_, sSeq_, sBrk_, sCnt_, sDrop_, sDrop2, sDropE, sRet_, sRet2, sRetE, sRetN_, sIf_, sIf_t, sIf_f, sSet_, sSet2, sSetE, setT_nm, setTs_nil, setTs_cons, optS_some, sPar2_, sPar22, sFor_, sFor2, cIter_, cIter_t, cIter_l, cIter_s, cItL_, cItL2, sRaise_, runF_, endR_nx, endR_rt, endR_err, opt_some, seq_nx, seq_rt, seq_bk, seq_ct, seq_err, startE, List.map_cons, List.map_nil, List.length_cons, List.length_nil, List.replicate_succ, List.replicate_zero, List.cons_append, List.nil_append, List.append_nil, List.getElem?_cons_zero, List.getElem?_cons_succ, List.set_cons_zero, List.set_cons_succ, Option.bind_some, Option.map_some, Nat.reduceAdd, Nat.reduceSub, fAdd_int, fSub_int, fNeg_int, gGcd_int, fGt_int, fLt_int, fLe_int, fTup2, show (9 : Int) + 1 = 10 from rfl, e1, fLst_le (show [D.int 1, D.int 1, D.int 3, D.int 9].length ≤ 1000 by decide), e2, e3, e4, fEq_int, decide_eq_false hg, Int.zero_sub, q1]
end K00

namespace K00
open PySem PySem.Spec PyProof.Rows L2 DI
/-- r is k / D, k at most m -/
def Fit (D m : Nat) (r : Rat) : Prop := ∃ k : Int, r * (D : Rat) = (k : Rat) ∧ k.natAbs ≤ m
section
variable {D E m m' : Nat} {x y : Rat}
theorem Fit.mono (h : Fit D m x) (l : m ≤ m') : Fit D m' x := by
  obtain ⟨k, e, hk⟩ := h
  exact ⟨k, e, by omega⟩
theorem Fit.add (h : Fit D m x) (h' : Fit D m' y) : Fit D (m + m') (x + y) := by
  obtain ⟨k, e, hk⟩ := h
  obtain ⟨l, e', hl⟩ := h'
  exact ⟨k + l, by rw [Rat.intCast_add, ← e, ← e', Rat.add_mul], by omega⟩
theorem Fit.neg (h : Fit D m x) : Fit D m (-x) := by
  obtain ⟨k, e, hk⟩ := h
  exact ⟨-k, by rw [Rat.intCast_neg, ← e, Rat.neg_mul], by omega⟩
theorem Fit.sub (h : Fit D m x) (h' : Fit D m' y) : Fit D (m + m') (x - y) := by
  rw [Rat.sub_eq_add_neg]
  exact h.add h'.neg
theorem Fit.mul (h : Fit D m x) (h' : Fit E m' y) : Fit (D * E) (m * m') (x * y) := by
  obtain ⟨k, e, hk⟩ := h
  obtain ⟨l, e', hl⟩ := h'
  refine ⟨k * l, ?_, ?_⟩
  · rw [Rat.intCast_mul, ← e, ← e', Rat.natCast_mul]
    grind
  · rw [Int.natAbs_mul]
    exact Nat.mul_le_mul hk hl
theorem Fit.lift (h : Fit D m x) (E : Nat) : Fit (D * E) (m * E) x := by
  obtain ⟨k, e, hk⟩ := h
  refine ⟨k * E, ?_, ?_⟩
  · rw [Rat.intCast_mul, ← e, Rat.natCast_mul, Rat.intCast_natCast]
    grind
  · rw [Int.natAbs_mul, Int.natAbs_natCast]
    exact Nat.mul_le_mul_right _ hk
theorem Fit.eq_divInt (hD : D ≠ 0) (h : Fit D m x) : ∃ k : Int, x = Rat.divInt k D ∧ k.natAbs ≤ m := by
  obtain ⟨k, e, hk⟩ := h
  refine ⟨k, ?_, hk⟩
  have h0 : ((D : Nat) : Rat) ≠ 0 := fun z => hD (Rat.natCast_eq_zero_iff.mp z)
  rw [Rat.divInt_eq_div, ← e, Rat.intCast_natCast, Rat.mul_div_cancel h0]
theorem Fit.sq {b : Nat} (hD : D ≠ 0) (h : Fit D m x) (hm : m < 2 ^ b) (hd : D < 2 ^ b) : Sq b x := by
  obtain ⟨k, rfl, hk⟩ := h.eq_divInt hD
  exact Sq.divInt (show k.natAbs < 2 ^ b by omega) (show (D : Int).natAbs < 2 ^ b by rw [Int.natAbs_natCast]; exact hd) (by omega)
theorem Fit.ofDiv {n d : Int} {c : Nat} (hd : 0 < d) (hc : (D : Int) = d * c) (hn : n.natAbs * c ≤ m) : Fit D m (Rat.divInt n d) := by
  refine ⟨n * c, ?_, by rw [Int.natAbs_mul, Int.natAbs_natCast]; exact hn⟩
  have h0 : (d : Rat) ≠ 0 := fun z => by
    have := Rat.intCast_eq_zero_iff.mp z
    omega
  rw [Rat.divInt_eq_div, ← Rat.intCast_natCast (n := D), hc, Rat.intCast_mul, Rat.intCast_mul]
  grind
end
end K00

namespace K00
open PySem PySem.Spec PyProof.Rows L2 DI
theorem belows_qd (n : Nat) : ∀ l : List Rat, belows n (l.map qd) = true
  | [] => rfl
  | r :: l => by
    rw [List.map_cons, belows, belows_qd n l]
    rfl
theorem mm_at {s : Dr} {R : Mem} {o : Ob} : (mm s (R ++ [o]))[R.length + 2]? = some o := by
  show (R ++ [o])[R.length]? = some o
  rw [List.getElem?_append_right (Nat.le_refl _), Nat.sub_self]
  rfl
theorem mm_len {s : Dr} {R : Mem} : (mm s R).length = R.length + 2 := rfl
theorem mm_app {s : Dr} {R : Mem} {o : Ob} : mm s R ++ [o] = mm s (R ++ [o]) := rfl
theorem mm_set {s : Dr} {R : Mem} {o o' : Ob} : (mm s (R ++ [o])).set (R.length + 2) o' = mm s (R ++ [o']) := by
  show _ :: _ :: (R ++ [o]).set R.length o' = _
  rw [List.set_append_right _ _ (Nat.le_refl _), Nat.sub_self]
  rfl
theorem mm_take {s : Dr} {R S : Mem} : (mm s (R ++ S)).take (R.length + 2) = mm s R := by
  show _ :: _ :: (R ++ S).take R.length = _
  rw [List.take_left' rfl]
  rfl
theorem lstAt_new {s : Dr} {R : Mem} {xs : List D} : lstAt (mm s (R ++ [.lst xs])) (.ref (R.length + 2)) = some (R.length + 2, xs) := by
  unfold lstAt
  simp only [mm_at]
theorem der_new {s : Dr} {R : Mem} {xs : List D} : der (mm s (R ++ [.lst xs])) (.ref (R.length + 2)) = .lst xs := by
  unfold der
  simp only [mm_at]
theorem ty_new {s : Dr} {R : Mem} {xs : List D} : tyM (mm s (R ++ [.lst xs])) (.ref (R.length + 2)) = some "list" := by
  unfold tyM
  simp only [mm_at]
theorem app_new {s : Dr} {R : Mem} {xs : List D} {x : D} (h : xs.length ≤ 1000) (hb : below (R.length + 2) x = true) : mAppend (mm s (R ++ [.lst xs])) (.ref (R.length + 2)) [x] = some (.non, mm s (R ++ [.lst (xs ++ [x])])) := by
  have h2 : 1001 ≤ sizeLine := by decide +kernel
  unfold mAppend
  rw [lstAt_new]
  show (if xs.length < sizeLine ∧ below (R.length + 2) x = true then some (D.non, List.set (mm s (R ++ [.lst xs])) (R.length + 2) (.lst (xs ++ [x]))) else none) = _
  rw [if_pos ⟨by omega, hb⟩, mm_set]
theorem eLstM0 {env : En} {M : Mem} : cLstM cNil env M = .ok (.ref M.length) (M ++ [.lst []]) := by
  unfold cLstM
  rw [eNil, Res.bind_ok]
  have h : (([] : List D).length ≤ sizeLine ∧ belows M.length [] = true) := ⟨Nat.zero_le _, rfl⟩
  exact if_pos h
noncomputable def bMarks : EvS := (sSeq (sDrop (cM "list" mAppend (cVar 3) (cCons (cVar 2) cNil))) (sSet (.nm 2) (cCall f__law_plus (cCons (cVar 2) (cCons (cCall f__law_q (cCons (cBin fAdd (cC (.int 1)) (cCall f__law_draw (cCons (cVar 0) (cCons (cCall f__law_pick (cCons (cVar 0) (cCons (cFn fLst (cCons (cC (.int 1)) (cCons (cC (.int 5)) (cCons (cC (.int 20)) cNil)))) cNil))) cNil)))) (cCons (cCall f__law_pick (cCons (cVar 0) (cCons (cFn fLst (cCons (cC (.int 1)) (cCons (cC (.int 1)) (cCons (cC (.int 2)) (cCons (cC (.int 3)) cNil))))) cNil))) cNil))) cNil)))))
theorem fit_sq {m : Nat} {r : Rat} (h : Fit 2520 m r) (hm : m < 2 ^ 60) : Sq 4000 r := (h.sq (by decide) hm (show 2520 < 2 ^ 60 by decide)).mono (by decide)
/-- one turn of marks -/
theorem marks_step {s : Dr} {t : Nat} {R : Mem} {it : ItD} (hM : it.deps = []) {at_ : Rat} {found : List Rat} {m : Nat} {e4 : Sl} {y : D} {ys : List D} (h : s.Ok t) (ht : t + 3 < 2 ^ 39) (hf : found.length ≤ 100) (hat : Fit 2520 m at_) (hm : m < 2 ^ 50) :
    ∃ at' s', forL it (.nm 4) bMarks (y :: ys) [.val (.ref 1), .val (.int 8), .val (qd at_), .val (.ref (R.length + 2)), e4] (mm s (R ++ [.lst (found.map qd)])) = forL it (.nm 4) bMarks ys [.val (.ref 1), .val (.int 8), .val (qd at'), .val (.ref (R.length + 2)), .val y] (mm s' (R ++ [.lst ((found ++ [at_]).map qd)])) ∧
      at_ < at' ∧ Fit 2520 (m + 50400) at' ∧ s'.Ok (t + 3) := by
  obtain ⟨x, s1, e1, hx, h1⟩ := r_pick (R := R ++ [.lst ((found ++ [at_]).map qd)]) (xs := [.int 1, .int 5, .int 20]) h (by omega) (by decide) (by decide)
  obtain ⟨a, rfl, a0, a1⟩ : ∃ m : Int, x = .int m ∧ 0 < m ∧ m ≤ 20 := by
    simp only [List.mem_cons, List.not_mem_nil, or_false] at hx
    rcases hx with rfl | rfl | rfl
    · exact ⟨1, rfl, by decide, by decide⟩
    · exact ⟨5, rfl, by decide, by decide⟩
    · exact ⟨20, rfl, by decide, by decide⟩
  obtain ⟨b, s2, e2, b0, b1, h2⟩ := r_draw (R := R ++ [.lst ((found ++ [at_]).map qd)]) (room := a) h1 (by omega) a0 (by omega)
  obtain ⟨z, s3, e3, hz, h3⟩ := r_pick (R := R ++ [.lst ((found ++ [at_]).map qd)]) (xs := [.int 1, .int 1, .int 2, .int 3]) h2 (by omega) (by decide) (by decide)
  obtain ⟨c, rfl, c0, c1, k, hk⟩ : ∃ c : Int, z = .int c ∧ 0 < c ∧ c ≤ 3 ∧ ∃ k : Nat, ((2520 : Nat) : Int) = c * k ∧ k ≤ 2520 := by
    simp only [List.mem_cons, List.not_mem_nil, or_false] at hz
    rcases hz with rfl | rfl | rfl | rfl
    · exact ⟨1, rfl, by decide, by decide, 2520, by decide, by decide⟩
    · exact ⟨1, rfl, by decide, by decide, 2520, by decide, by decide⟩
    · exact ⟨2, rfl, by decide, by decide, 1260, by decide, by decide⟩
    · exact ⟨3, rfl, by decide, by decide, 840, by decide, by decide⟩
  have hstep : Fit 2520 50400 (Rat.divInt (1 + b) c) := Fit.ofDiv c0 hk.1 (by
    have : (1 + b).natAbs ≤ 20 := by omega
    calc (1 + b).natAbs * k ≤ 20 * 2520 := Nat.mul_le_mul this hk.2
      _ = 50400 := by decide)
  have hpos : 0 < Rat.divInt (1 + b) c := by
    rw [Rat.divInt_eq_div, Rat.div_def]
    exact Rat.mul_pos (Rat.intCast_pos.mpr (by omega)) (Rat.inv_pos.mpr (Rat.intCast_pos.mpr c0))
  refine ⟨at_ + Rat.divInt (1 + b) c, s3, ?_, by grind, hat.add hstep, h3⟩
  have hq : ∀ M, f__law_q [.int (1 + b), .int c] M = .ok (qd (Rat.divInt (1 + b) c)) M := fun M => r__law_q (by omega) (small_d c0 (by omega))
  have hpl : ∀ M, f__law_plus [qd at_, qd (Rat.divInt (1 + b) c)] M = .ok (qd (at_ + Rat.divInt (1 + b) c)) M := fun M => r__law_plus (fit_sq hat (by omega)) (fit_sq hstep (by decide))
  have ha : mAppend (mm s (R ++ [.lst (found.map qd)])) (.ref (R.length + 2)) [qd at_] = some (.non, mm s (R ++ [.lst ((found ++ [at_]).map qd)])) := by
    rw [app_new (by rw [List.length_map]; omega) rfl, List.map_append]
    rfl
  rw [forL_cons (fun p hp => by rw [hM] at hp; cases hp)]
  unfold bMarks
  simp only [eC, eVar, eVar2, eBin, eBin2, eBin3, eUn, eUn2, eNil, eCons, eCons2, eCons3, eFn, eFn2, eTst, eTst2, eIf, eIf_t, eIf_f, eAnd, eAnd_t, eAnd_f, eOr, eOr_t, eOr_f, eNot, eNot2, eCall, eCall2, eCallC, eSl, eSl2, eSl3, eSl4, eNo, ePart, ePart2, sNil_, sSeq_, sBrk_, sCnt_, sDrop_, sDrop2, sDropE, sRet_, sRet2, sRetE, sRetN_, sIf_, sIf_t, sIf_f, sSet_, sSet2, sSetE, setT_nm, setTs_nil, setTs_cons, optS_some, sPar2_, sPar22, sFor_, sFor2, cIter_, cIter_t, cIter_l, cIter_s, cItL_, cItL2, sRaise_, runF_, endR_nx, endR_rt, endR_err, opt_some, seq_nx, seq_rt, seq_bk, seq_ct, seq_err, startE, List.map_cons, List.map_nil, List.length_cons, List.length_nil, List.replicate_succ, List.replicate_zero, List.cons_append, List.nil_append, List.append_nil, List.getElem?_cons_zero, List.getElem?_cons_succ, List.set_cons_zero, List.set_cons_succ, Option.bind_some, Option.map_some, Nat.reduceAdd, Nat.reduceSub, fAdd_int, fSub_int, fNeg_int, gGcd_int, fGt_int, fLt_int, fLe_int, fTup2, eM, eM2 ty_new, eM3, ha, optM_some, e1, e2, e3, hq, hpl, turn_nx, fLst_le (show [D.int 1, D.int 5, D.int 20].length ≤ 1000 by decide), fLst_le (show [D.int 1, D.int 1, D.int 2, D.int 3].length ≤ 1000 by decide)]
theorem marks_loop {R : Mem} {it : ItD} (hM : it.deps = []) : ∀ (ys : List D) {s : Dr} {t : Nat} {at_ : Rat} {found : List Rat} {m : Nat} {e4 : Sl}, s.Ok t → t + 3 * ys.length < 2 ^ 39 → found.length + ys.length ≤ 100 → Fit 2520 m at_ → m + 50400 * ys.length < 2 ^ 50 →
    found.Pairwise (· < ·) → (∀ x ∈ found, x < at_) → (∀ x ∈ found, Fit 2520 m x) →
    ∃ (at' : Rat) (s' : Dr) (found' : List Rat) (e4' : Sl), forL it (.nm 4) bMarks ys [.val (.ref 1), .val (.int 8), .val (qd at_), .val (.ref (R.length + 2)), e4] (mm s (R ++ [.lst (found.map qd)])) = .nx [.val (.ref 1), .val (.int 8), .val (qd at'), .val (.ref (R.length + 2)), e4'] (mm s' (R ++ [.lst (found'.map qd)])) ∧
      found'.length = found.length + ys.length ∧ found'.Pairwise (· < ·) ∧ (∀ x ∈ found', Fit 2520 (m + 50400 * ys.length) x) ∧ s'.Ok (t + 3 * ys.length)
  | [], s, t, at_, found, m, e4, h, ht, hl, hat, hm, hp, hlt, hF => ⟨at_, s, found, e4, forL_nil (fun p hp => by rw [hM] at hp; cases hp), rfl, hp, hF, h⟩
  | y :: ys, s, t, at_, found, m, e4, h, ht, hl, hat, hm, hp, hlt, hF => by
    rw [List.length_cons] at ht hl hm
    obtain ⟨at1, s1, e1, l1, f1, h1⟩ := marks_step (R := R) hM (found := found) (e4 := e4) (y := y) (ys := ys) h (by omega) (by omega) hat (by omega)
    obtain ⟨at', s', found', e4', e, g1, g2, g3, g4⟩ := marks_loop hM (R := R) ys (s := s1) (t := t + 3) (at_ := at1) (found := found ++ [at_]) (m := m + 50400) (e4 := .val y) h1 (by omega) (by rw [List.length_append, List.length_singleton]; omega) f1 (by omega)
      (List.pairwise_append.mpr ⟨hp, List.pairwise_singleton _ _, fun a ha b hb => by rw [List.mem_singleton.mp hb]; exact hlt a ha⟩)
      (fun x hx => by
        rcases List.mem_append.mp hx with hx | hx
        · have := hlt x hx
          grind
        · rw [List.mem_singleton.mp hx]
          exact l1)
      (fun x hx => by
        rcases List.mem_append.mp hx with hx | hx
        · exact (hF x hx).mono (by omega)
        · rw [List.mem_singleton.mp hx]
          exact hat.mono (by omega))
    refine ⟨at', s', found', e4', e1.trans e, by rw [g1, List.length_append, List.length_singleton, List.length_cons]; omega, g2, fun x hx => (g3 x hx).mono (by rw [List.length_cons]; omega), ?_⟩
    rw [List.length_cons, show t + 3 * (ys.length + 1) = t + 3 + 3 * ys.length by omega]
    exact g4
end K00

namespace K00
open PySem PySem.Spec PyProof.Rows L2 DI
section
variable {env : En} {M : Mem} {x y z : D} {ds : List D}
noncomputable def lc3 (r : Res (List D)) : Res D := r.bind fun ds M2 => .ok (.lst ds) M2
noncomputable def lc2 (t : Tgt) (c : EvT) (e : EvE) (vs : List Nat) (r : Res ItD) (env : En) : Res D := r.bind fun it M1 => lc3 (lcL it t c e (wipeE env vs) it.xs [] M1)
theorem derT : der M (.tup ds) = .tup ds := rfl
theorem setT_t {ts} : setT M (.tp ts) (.tup ds) env = setTs M ts ds env := setT_tp derT
theorem eLc {i t c e vs} : cLc i t c e vs env M = lc2 t c e vs (i env M) env := rfl
theorem eLc2 {t c e vs it} : lc2 t c e vs (.ok it M) env = lc3 (lcL it t c e (wipeE env vs) it.xs [] M) := rfl
theorem eLc3 : lc3 (.ok ds M) = .ok (.lst ds) M := rfl
theorem wipe_nil : wipeE env [] = env := rfl
theorem wipe_cons {v vs} : wipeE env (v :: vs) = (wipeE env vs).set v .none := rfl
theorem lcL_nil {it t c e acc} (h : DepOk it M) : lcL it t c e env [] acc M = .ok acc M := if_pos h
theorem lcL_yes {it : ItD} {t : Tgt} {c : EvT} {e : EvE} {d : D} {acc : List D} {env1 : En} {M1 M2 : Mem} (h : DepOk it M) (ht : setT M t d env = some env1) (hc : c env1 M = .ok true M1) (he : e env1 M1 = .ok y M2) (hl : acc.length < sizeLine) : lcL it t c e env (d :: ds) acc M = lcL it t c e env ds (acc ++ [y]) M2 := by
  conv => lhs; unfold lcL
  rw [if_pos h, ht]
  simp only [hc, noErr, Res.bind_ok, he, if_true]
  rw [if_pos hl]
theorem lcL_no {it : ItD} {t : Tgt} {c : EvT} {e : EvE} {d : D} {acc : List D} {env1 : En} {M1 : Mem} (h : DepOk it M) (ht : setT M t d env = some env1) (hc : c env1 M = .ok false M1) : lcL it t c e env (d :: ds) acc M = lcL it t c e env ds acc M1 := by
  conv => lhs; unfold lcL
  rw [if_pos h, ht]
  simp only [hc, noErr, Res.bind_ok]
  rfl
/-- [g a for a in l if p a], the memory stays -/
theorem lcL_of {α : Type} {it : ItD} {t : Tgt} {c : EvT} {e : EvE} (i g : α → D) (p : α → Bool) (h : DepOk it M) : ∀ (l : List α) (acc : List D), (∀ a ∈ l, ∃ env1, setT M t (i a) env = some env1 ∧ c env1 M = .ok (p a) M ∧ (p a = true → e env1 M = .ok (g a) M)) → acc.length + l.length ≤ 1000 →
    lcL it t c e env (l.map i) acc M = .ok (acc ++ (l.filter p).map g) M
  | [], acc, _, _ => by rw [List.map_nil, lcL_nil h, List.filter_nil, List.map_nil, List.append_nil]
  | a :: l, acc, H, hl => by
    obtain ⟨env1, h1, h2, h3⟩ := H a List.mem_cons_self
    have hs : 1000 ≤ sizeLine := by decide +kernel
    rw [List.length_cons] at hl
    have ih := lcL_of (it := it) (t := t) (c := c) (e := e) i g p h l
    rw [List.map_cons]
    cases hp : p a with
    | true =>
      rw [hp] at h2
      rw [lcL_yes h h1 h2 (h3 hp) (by omega), ih _ (fun b hb => H b (List.mem_cons_of_mem _ hb)) (by rw [List.length_append, List.length_singleton]; omega), List.filter_cons, if_pos hp, List.map_cons, List.append_assoc]
      rfl
    | false =>
      rw [hp] at h2
      rw [lcL_no h h1 h2, ih _ (fun b hb => H b (List.mem_cons_of_mem _ hb)) (by omega), List.filter_cons, hp]
      rfl
theorem lcL_map {α : Type} {it : ItD} {t : Tgt} {e : EvE} (i g : α → D) (h : DepOk it M) (l : List α) (H : ∀ a ∈ l, ∃ env1, setT M t (i a) env = some env1 ∧ e env1 M = .ok (g a) M) (hl : l.length ≤ 1000) :
    lcL it t cYes e env (l.map i) [] M = .ok (l.map g) M := by
  rw [lcL_of i g (fun _ => true) h l [] (fun a ha => by
    obtain ⟨env1, h1, h2⟩ := H a ha
    exact ⟨env1, h1, rfl, fun _ => h2⟩) (by rw [List.length_nil]; omega), List.nil_append, List.filter_eq_self.mpr (fun _ _ => rfl)]
end
theorem bel_tup {n : Nat} {l : List Rat} : below n (.tup (l.map qd)) = true := by
  rw [below]
  exact belows_qd n l
theorem finR_ok {n : Nat} {d : D} {M : Mem} (h : below n d = true) : finR n (.ok d M) = .ok d (M.take n) := if_pos h
theorem runT_ {n : Nat} {b : EvS} {ds : List D} {M : Mem} : runT n b ds M = finR M.length (runF n b ds M) := rfl
theorem itR1_int {n : Int} (h0 : 0 ≤ n) (h : n < 1000) : itR1 [.int n] = some ⟨rangeD 0 n.toNat, []⟩ := if_pos (by omega)
theorem rangeD_len {n : Nat} : (rangeD 0 n).length = n := by
  unfold rangeD
  rw [List.length_map, List.length_range]
end K00

namespace K00
open PySem PySem.Spec PyProof.Rows L2 DI
def dL (L : List (Rat × Rat)) : D := .tup (L.map fun p => .tup [qd p.1, qd p.2])
structure Num (L : List (Rat × Rat)) : Prop where
  len1 : 1 ≤ L.length
  len8 : L.length ≤ 8
  inc : (L.map (·.1)).Pairwise (· < ·)
  pos : ∀ p ∈ L, 0 < p.2
  sum : rsum (L.map (·.2)) = 1
  fit : ∃ S : Nat, 0 < S ∧ S ≤ 240 ∧ ∀ p ∈ L, Fit 2520 500000 p.1 ∧ Fit S 30 p.2
/-- parts drawn, one for each point -/
theorem parts_loop {R : Mem} {it : ItD} (hM : it.deps = []) {a1 a2 a3 a5 : Sl} : ∀ (xs : List D) {s : Dr} {t : Nat} (acc : List Int), s.Ok t → t + 2 * xs.length < 2 ^ 39 → acc.length + xs.length ≤ 1000 →
    ∃ (ps : List Int) (s' : Dr), lcL it (.nm 4) cYes (cBin fAdd (cC (.int 1)) (cCall f__law_draw (cCons (cVar 0) (cCons (cCall f__law_pick (cCons (cVar 0) (cCons (cFn fLst (cCons (cC (.int 1)) (cCons (cC (.int 3)) (cCons (cC (.int 30)) cNil)))) cNil))) cNil)))) [.val (.ref 1), a1, a2, a3, .none, a5] xs (acc.map D.int) (mm s R) = .ok ((acc ++ ps).map D.int) (mm s' R) ∧
      ps.length = xs.length ∧ (∀ p ∈ ps, 1 ≤ p ∧ p ≤ 30) ∧ s'.Ok (t + 2 * xs.length)
  | [], s, t, acc, h, ht, hl => ⟨[], s, by rw [lcL_nil (fun p hp => by rw [hM] at hp; cases hp), List.append_nil], rfl, (fun p hp => nomatch hp), h⟩
  | x :: xs, s, t, acc, h, ht, hl => by
    rw [List.length_cons] at ht hl
    obtain ⟨y, s1, e1, hy, h1⟩ := r_pick (R := R) (xs := [.int 1, .int 3, .int 30]) h (by omega) (by decide) (by decide)
    obtain ⟨a, rfl, b0, b1⟩ : ∃ m : Int, y = .int m ∧ 0 < m ∧ m ≤ 30 := by
      simp only [List.mem_cons, List.not_mem_nil, or_false] at hy
      rcases hy with rfl | rfl | rfl
      · exact ⟨1, rfl, by decide, by decide⟩
      · exact ⟨3, rfl, by decide, by decide⟩
      · exact ⟨30, rfl, by decide, by decide⟩
    obtain ⟨b, s2, e2, c0, c1, h2⟩ := r_draw (R := R) (room := a) h1 (by omega) b0 (by omega)
    obtain ⟨ps, s', e, l1, l2, l3⟩ := parts_loop hM (a1 := a1) (a2 := a2) (a3 := a3) (a5 := a5) (R := R) xs (acc ++ [1 + b]) h2 (by omega) (by rw [List.length_append, List.length_singleton]; omega)
    have hs : 1000 ≤ sizeLine := by decide +kernel
    refine ⟨(1 + b) :: ps, s', ?_, by rw [List.length_cons, l1, List.length_cons], fun p hp => ?_, ⟨l3.gr, l3.cells, l3.rest, l3.turn, by have := l3.le; rw [List.length_cons]; omega⟩⟩
    · rw [lcL_yes (fun p hp => by rw [hM] at hp; cases hp) setT_nm rfl (M2 := mm s2 R) (y := .int (1 + b)) (by simp only [eC, eVar, eVar2, eBin, eBin2, eBin3, eUn, eUn2, eNil, eCons, eCons2, eCons3, eFn, eFn2, eTst, eTst2, eIf, eIf_t, eIf_f, eAnd, eAnd_t, eAnd_f, eOr, eOr_t, eOr_f, eNot, eNot2, eCall, eCall2, eCallC, eSl, eSl2, eSl3, eSl4, eNo, ePart, ePart2, sNil_, sSeq_, sBrk_, sCnt_, sDrop_, sDrop2, sDropE, sRet_, sRet2, sRetE, sRetN_, sIf_, sIf_t, sIf_f, sSet_, sSet2, sSetE, setT_nm, setTs_nil, setTs_cons, optS_some, sPar2_, sPar22, sFor_, sFor2, cIter_, cIter_t, cIter_l, cIter_s, cItL_, cItL2, sRaise_, runF_, endR_nx, endR_rt, endR_err, opt_some, seq_nx, seq_rt, seq_bk, seq_ct, seq_err, startE, List.map_cons, List.map_nil, List.length_cons, List.length_nil, List.replicate_succ, List.replicate_zero, List.cons_append, List.nil_append, List.append_nil, List.getElem?_cons_zero, List.getElem?_cons_succ, List.set_cons_zero, List.set_cons_succ, Option.bind_some, Option.map_some, Nat.reduceAdd, Nat.reduceSub, fAdd_int, fSub_int, fNeg_int, gGcd_int, fGt_int, fLt_int, fLe_int, fTup2, e1, e2, fLst_le (show [D.int 1, D.int 3, D.int 30].length ≤ 1000 by decide)]) (by rw [List.length_map]; omega)]
      have : acc.map D.int ++ [D.int (1 + b)] = (acc ++ [1 + b]).map D.int := by rw [List.map_append]; rfl
      rw [this, e, List.append_assoc]
      rfl
    · rcases List.mem_cons.mp hp with rfl | hp
      · omega
      · exact l2 p hp
theorem zipL_map {α β : Type} (f : α → D) (g : β → D) : ∀ (l : List α) (m : List β), zipL (l.map f) (m.map g) = (l.zip m).map fun a => .tup [f a.1, g a.2]
  | [], _ => by rw [List.map_nil, List.zip_nil_left, List.map_nil]; cases (List.map g _) <;> rfl
  | _ :: _, [] => rfl
  | a :: l, b :: m => by
    rw [List.map_cons, List.map_cons, List.zip_cons_cons, List.map_cons, ← zipL_map f g l m]
    rfl
theorem isIs_ints : ∀ ps : List Int, isIs (ps.map D.int) = some ps
  | [] => rfl
  | p :: ps => by
    rw [List.map_cons, isIs, isIs_ints ps]
    rfl
theorem gSum_ints {M : Mem} {ps : List Int} : gSum M [.lst (ps.map D.int)] = some (.int ps.sum) := by
  show (isIs (ps.map D.int)).map (fun ns => D.int ns.sum) = _
  rw [isIs_ints]
  rfl
theorem rsum_parts {S : Int} (hS : S ≠ 0) : ∀ ps : List Int, rsum (ps.map fun p => Rat.divInt p S) * (S : Rat) = ((ps.sum : Int) : Rat)
  | [] => by
    show (0 : Rat) * _ = _
    rw [Rat.zero_mul]
    rfl
  | p :: ps => by
    have h0 : (S : Rat) ≠ 0 := fun z => hS (Rat.intCast_eq_zero_iff.mp z)
    rw [List.map_cons, List.sum_cons, Rat.intCast_add, ← rsum_parts hS ps]
    show (Rat.divInt p S + rsum _) * _ = _
    rw [Rat.divInt_eq_div]
    grind
theorem sum_parts : ∀ ps : List Int, (∀ p ∈ ps, 1 ≤ p ∧ p ≤ 30) → (ps.length : Int) ≤ ps.sum ∧ ps.sum ≤ 30 * ps.length
  | [], _ => by decide
  | p :: ps, h => by
    have h1 := h p List.mem_cons_self
    have h2 := sum_parts ps fun q hq => h q (List.mem_cons_of_mem _ hq)
    rw [List.sum_cons, List.length_cons]
    omega
theorem num_of {l : List Rat} {ps : List Int} (hl1 : 1 ≤ l.length) (hl8 : l.length ≤ 8) (hi : l.Pairwise (· < ·)) (hF : ∀ x ∈ l, Fit 2520 500000 x) (hp : ps.length = l.length) (hb : ∀ p ∈ ps, 1 ≤ p ∧ p ≤ 30) :
    Num ((l.zip ps).map fun a => (a.1, Rat.divInt a.2 ps.sum)) := by
  have hs := sum_parts ps hb
  have hS0 : ps.sum ≠ 0 := by omega
  have m1 : ((l.zip ps).map fun a => (a.1, Rat.divInt a.2 ps.sum)).map (·.1) = l := by
    rw [List.map_map]
    show (l.zip ps).map Prod.fst = l
    exact List.map_fst_zip (by omega)
  have m2 : ((l.zip ps).map fun a => (a.1, Rat.divInt a.2 ps.sum)).map (·.2) = ps.map fun p => Rat.divInt p ps.sum := by
    rw [List.map_map]
    show (l.zip ps).map ((fun p => Rat.divInt p ps.sum) ∘ Prod.snd) = _
    rw [← List.map_map, List.map_snd_zip (by omega)]
  have hlen : ((l.zip ps).map fun a => (a.1, Rat.divInt a.2 ps.sum)).length = l.length := by
    rw [List.length_map, List.length_zip]
    omega
  refine ⟨by omega, by omega, by rw [m1]; exact hi, fun p hp => ?_, ?_, ps.sum.toNat, by omega, by omega, fun p hp => ?_⟩
  · obtain ⟨a, ha, rfl⟩ := List.mem_map.mp hp
    have := hb a.2 (List.of_mem_zip ha).2
    show 0 < Rat.divInt a.2 ps.sum
    rw [Rat.divInt_eq_div, Rat.div_def]
    exact Rat.mul_pos (Rat.intCast_pos.mpr (by omega)) (Rat.inv_pos.mpr (Rat.intCast_pos.mpr (by omega)))
  · rw [m2]
    have h0 : (ps.sum : Rat) ≠ 0 := fun z => hS0 (Rat.intCast_eq_zero_iff.mp z)
    have := rsum_parts hS0 ps
    grind
  · obtain ⟨a, ha, rfl⟩ := List.mem_map.mp hp
    have hz := List.of_mem_zip ha
    refine ⟨hF _ hz.1, Fit.ofDiv (c := 1) (by omega) (by omega) ?_⟩
    have := hb a.2 hz.2
    omega
theorem num_number {n d : Int} (hn : n.natAbs ≤ 9) (hd0 : 1 ≤ d) (hd1 : d ≤ 9) : Fit 2520 500000 (Rat.divInt n d) := by
  obtain ⟨c, hc, hc2⟩ : ∃ c : Nat, ((2520 : Nat) : Int) = d * c ∧ c ≤ 2520 := by
    have : d = 1 ∨ d = 2 ∨ d = 3 ∨ d = 4 ∨ d = 5 ∨ d = 6 ∨ d = 7 ∨ d = 8 ∨ d = 9 := by omega
    rcases this with rfl | rfl | rfl | rfl | rfl | rfl | rfl | rfl | rfl
    · exact ⟨2520, by decide, by decide⟩
    · exact ⟨1260, by decide, by decide⟩
    · exact ⟨840, by decide, by decide⟩
    · exact ⟨630, by decide, by decide⟩
    · exact ⟨504, by decide, by decide⟩
    · exact ⟨420, by decide, by decide⟩
    · exact ⟨360, by decide, by decide⟩
    · exact ⟨315, by decide, by decide⟩
    · exact ⟨280, by decide, by decide⟩
  exact (Fit.ofDiv (m := 22680) (by omega) hc (Nat.mul_le_mul hn hc2)).mono (by decide)
/-- the points, then the parts -/
theorem r_rest {s : Dr} {t : Nat} {R : Mem} {l : List Rat} {a1 : Sl} (h : s.Ok t) (ht : t + 100 < 2 ^ 39) (hl1 : 1 ≤ l.length) (hl8 : l.length ≤ 8) (hi : l.Pairwise (· < ·)) (hF : ∀ x ∈ l, Fit 2520 500000 x) :
    ∃ (L : List (Rat × Rat)) (s' : Dr), endR ((sSeq (sSet (.nm 3) (cLc (cIter (cVar 2)) (.nm 4) cYes (cBin fAdd (cC (.int 1)) (cCall f__law_draw (cCons (cVar 0) (cCons (cCall f__law_pick (cCons (cVar 0) (cCons (cFn fLst (cCons (cC (.int 1)) (cCons (cC (.int 3)) (cCons (cC (.int 30)) cNil)))) cNil))) cNil)))) [4])) (sRet (cFn gTuple (cCons (cLc (cItL zipD (cCons (cVar 2) (cCons (cVar 3) cNil))) (.tp [(.nm 4), (.nm 5)]) cYes (cFn fTup (cCons (cVar 4) (cCons (cCall f__law_q (cCons (cVar 5) (cCons (cFn gSum (cCons (cVar 3) cNil)) cNil))) cNil))) [4, 5]) cNil)))) [.val (.ref 1), a1, .val (.tup (l.map qd)), .none, .none, .none] (mm s R)) = .ok (dL L) (mm s' R) ∧ Num L ∧ s'.Ok (t + 16) := by
  obtain ⟨ps, s', e, g1, g2, g3⟩ := parts_loop (R := R) (it := ⟨l.map qd, []⟩) rfl (a1 := a1) (a2 := .val (.tup (l.map qd))) (a3 := .none) (a5 := .none) (l.map qd) [] h (by rw [List.length_map]; omega) (by rw [List.length_map, List.length_nil]; omega)
  rw [List.length_map] at g1 g3
  have hs := sum_parts ps g2
  have hz : zipD (mm s' R) [.tup (l.map qd), .lst (ps.map D.int)] = some ⟨(l.zip ps).map fun a => .tup [qd a.1, .int a.2], []⟩ := by
    rw [← zipL_map]
    rfl
  refine ⟨_, s', ?_, num_of hl1 hl8 hi hF g1 g2, ⟨g3.gr, g3.cells, g3.rest, g3.turn, by have := g3.le; omega⟩⟩
  have e : lcL _ _ _ _ _ (l.map qd) [] (mm s R) = .ok (ps.map D.int) (mm s' R) := e
  have hm := lcL_map (M := mm s' R) (env := [.val (.ref 1), a1, .val (.tup (l.map qd)), .val (.lst (ps.map D.int)), .none, .none]) (it := ⟨(l.zip ps).map fun a => .tup [qd a.1, .int a.2], []⟩) (t := .tp [(.nm 4), (.nm 5)]) (e := (cFn fTup (cCons (cVar 4) (cCons (cCall f__law_q (cCons (cVar 5) (cCons (cFn gSum (cCons (cVar 3) cNil)) cNil))) cNil)))) (fun a => .tup [qd a.1, .int a.2]) (fun a : Rat × Int => .tup [qd a.1, qd (Rat.divInt a.2 ps.sum)]) depOk_nil (l.zip ps) (fun a ha => by
    refine ⟨_, by simp only [setT_t, eC, eVar, eVar2, eBin, eBin2, eBin3, eUn, eUn2, eNil, eCons, eCons2, eCons3, eFn, eFn2, eTst, eTst2, eIf, eIf_t, eIf_f, eAnd, eAnd_t, eAnd_f, eOr, eOr_t, eOr_f, eNot, eNot2, eCall, eCall2, eCallC, eSl, eSl2, eSl3, eSl4, eNo, ePart, ePart2, sNil_, sSeq_, sBrk_, sCnt_, sDrop_, sDrop2, sDropE, sRet_, sRet2, sRetE, sRetN_, sIf_, sIf_t, sIf_f, sSet_, sSet2, sSetE, setT_nm, setTs_nil, setTs_cons, optS_some, sPar2_, sPar22, sFor_, sFor2, cIter_, cIter_t, cIter_l, cIter_s, cItL_, cItL2, sRaise_, runF_, endR_nx, endR_rt, endR_err, opt_some, seq_nx, seq_rt, seq_bk, seq_ct, seq_err, startE, List.map_cons, List.map_nil, List.length_cons, List.length_nil, List.replicate_succ, List.replicate_zero, List.cons_append, List.nil_append, List.append_nil, List.getElem?_cons_zero, List.getElem?_cons_succ, List.set_cons_zero, List.set_cons_succ, Option.bind_some, Option.map_some, Nat.reduceAdd, Nat.reduceSub, fAdd_int, fSub_int, fNeg_int, gGcd_int, fGt_int, fLt_int, fLe_int, fTup2]; rfl, ?_⟩
    simp only [eC, eVar, eVar2, eBin, eBin2, eBin3, eUn, eUn2, eNil, eCons, eCons2, eCons3, eFn, eFn2, eTst, eTst2, eIf, eIf_t, eIf_f, eAnd, eAnd_t, eAnd_f, eOr, eOr_t, eOr_f, eNot, eNot2, eCall, eCall2, eCallC, eSl, eSl2, eSl3, eSl4, eNo, ePart, ePart2, sNil_, sSeq_, sBrk_, sCnt_, sDrop_, sDrop2, sDropE, sRet_, sRet2, sRetE, sRetN_, sIf_, sIf_t, sIf_f, sSet_, sSet2, sSetE, setT_nm, setTs_nil, setTs_cons, optS_some, sPar2_, sPar22, sFor_, sFor2, cIter_, cIter_t, cIter_l, cIter_s, cItL_, cItL2, sRaise_, runF_, endR_nx, endR_rt, endR_err, opt_some, seq_nx, seq_rt, seq_bk, seq_ct, seq_err, startE, List.map_cons, List.map_nil, List.length_cons, List.length_nil, List.replicate_succ, List.replicate_zero, List.cons_append, List.nil_append, List.append_nil, List.getElem?_cons_zero, List.getElem?_cons_succ, List.set_cons_zero, List.set_cons_succ, Option.bind_some, Option.map_some, Nat.reduceAdd, Nat.reduceSub, fAdd_int, fSub_int, fNeg_int, gGcd_int, fGt_int, fLt_int, fLe_int, fTup2, gSum_ints, r__law_q (show ps.sum ≠ 0 by omega) (small_d (show 0 < ps.sum by omega) (by omega))]) (by rw [List.length_zip]; omega)
  have hT : ∀ xs : List D, gTuple (mm s' R) [.lst xs] = some (.tup xs) := fun _ => rfl
  simp only [eC, eVar, eVar2, eBin, eBin2, eBin3, eUn, eUn2, eNil, eCons, eCons2, eCons3, eFn, eFn2, eTst, eTst2, eIf, eIf_t, eIf_f, eAnd, eAnd_t, eAnd_f, eOr, eOr_t, eOr_f, eNot, eNot2, eCall, eCall2, eCallC, eSl, eSl2, eSl3, eSl4, eNo, ePart, ePart2, sNil_, sSeq_, sBrk_, sCnt_, sDrop_, sDrop2, sDropE, sRet_, sRet2, sRetE, sRetN_, sIf_, sIf_t, sIf_f, sSet_, sSet2, sSetE, setT_nm, setTs_nil, setTs_cons, optS_some, sPar2_, sPar22, sFor_, sFor2, cIter_, cIter_t, cIter_l, cIter_s, cItL_, cItL2, sRaise_, runF_, endR_nx, endR_rt, endR_err, opt_some, seq_nx, seq_rt, seq_bk, seq_ct, seq_err, startE, List.map_cons, List.map_nil, List.length_cons, List.length_nil, List.replicate_succ, List.replicate_zero, List.cons_append, List.nil_append, List.append_nil, List.getElem?_cons_zero, List.getElem?_cons_succ, List.set_cons_zero, List.set_cons_succ, Option.bind_some, Option.map_some, Nat.reduceAdd, Nat.reduceSub, fAdd_int, fSub_int, fNeg_int, gGcd_int, fGt_int, fLt_int, fLe_int, fTup2, eLc, eLc2, eLc3, wipe_nil, wipe_cons, e, hz, hm, hT, dL, List.map_map]
  rfl
end K00

namespace K00
open PySem PySem.Spec PyProof.Rows L2 DI
section
variable {env : En} {M : Mem} {x y z : D} {ds : List D}
theorem isi_int_int {i : Int} : gIsi anc M [.int i, .ty "int"] = some (.bl true) := rfl
theorem isi_int_bool {i : Int} : gIsi anc M [.int i, .ty "bool"] = some (.bl false) := rfl
theorem isi_int_tup {i : Int} : gIsi anc M [.int i, .ty "tuple"] = some (.bl false) := rfl
theorem isi_non_tup : gIsi anc M [.non, .ty "tuple"] = some (.bl false) := rfl
theorem isi_tup_tup : gIsi anc M [.tup ds, .ty "tuple"] = some (.bl true) := rfl
theorem isi_lst_tup : gIsi anc M [.lst ds, .ty "tuple"] = some (.bl false) := rfl
theorem r_is_whole {i : Int} : f_is_whole [.int i] M = .ok (.bl true) M := by
  unfold f_is_whole b_is_whole
  simp only [eC, eVar, eVar2, eBin, eBin2, eBin3, eUn, eUn2, eNil, eCons, eCons2, eCons3, eFn, eFn2, eTst, eTst2, eIf, eIf_t, eIf_f, eAnd, eAnd_t, eAnd_f, eOr, eOr_t, eOr_f, eNot, eNot2, eCall, eCall2, eCallC, eSl, eSl2, eSl3, eSl4, eNo, ePart, ePart2, sNil_, sSeq_, sBrk_, sCnt_, sDrop_, sDrop2, sDropE, sRet_, sRet2, sRetE, sRetN_, sIf_, sIf_t, sIf_f, sSet_, sSet2, sSetE, setT_nm, setTs_nil, setTs_cons, optS_some, sPar2_, sPar22, sFor_, sFor2, cIter_, cIter_t, cIter_l, cIter_s, cItL_, cItL2, sRaise_, runF_, endR_nx, endR_rt, endR_err, opt_some, seq_nx, seq_rt, seq_bk, seq_ct, seq_err, startE, List.map_cons, List.map_nil, List.length_cons, List.length_nil, List.replicate_succ, List.replicate_zero, List.cons_append, List.nil_append, List.append_nil, List.getElem?_cons_zero, List.getElem?_cons_succ, List.set_cons_zero, List.set_cons_succ, Option.bind_some, Option.map_some, Nat.reduceAdd, Nat.reduceSub, fAdd_int, fSub_int, fNeg_int, gGcd_int, fGt_int, fLt_int, fLe_int, fTup2, isi_int_int, isi_int_bool, Bool.not_false]
def chC (f g : Mem → D → D → Option D) (y : D) (r : Res D) (c : EvE) (env : En) : Res D := r.bind fun t M3 => (opt (isB t) M3).bind fun k M4 => if k = true then ch4 g y (c env M4) else .ok (.bl false) M4
def chB (f g : Mem → D → D → Option D) (x : D) (r : Res D) (c : EvE) (env : En) : Res D := r.bind fun y M2 => chC f g y (opt (f M2 x y) M2) c env
def chA (f g : Mem → D → D → Option D) (r : Res D) (b c : EvE) (env : En) : Res D := r.bind fun x M1 => chB f g x (b env M1) c env
theorem eCh {f g a b c} : cChain f g a b c env M = chA f g (a env M) b c env := rfl
theorem eChA {f g b c} : chA f g (.ok x M) b c env = chB f g x (b env M) c env := rfl
theorem eChB {f g c} : chB f g x (.ok y M) c env = chC f g y (opt (f M x y) M) c env := rfl
theorem eChC_t {f g c} : chC f g y (.ok (.bl true) M) c env = ch4 g y (c env M) := rfl
theorem eChC_f {f g c} : chC f g y (.ok (.bl false) M) c env = .ok (.bl false) M := rfl
theorem eCh4 {g} : ch4 g y (.ok z M) = opt (g M y z) M := rfl
theorem fNe_int {x y : Int} : fNe M (.int x) (.int y) = some (.bl (!decide (x = y))) := by
  have := fEq_int (M := M) (x := x) (y := y)
  unfold fEq at this
  unfold fNe
  cases e : eqD M (.int x) (.int y) with
  | none => rw [e] at this; cases this
  | some b =>
    rw [e] at this
    have h : b = decide (x = y) := by
      injection this with h
      injection h
    rw [h]
    rfl
theorem ints_whole {a b : Int} {it : ItD} (h : DepOk it M) {s0 : Sl} : lcL it (.nm 1) cYes (cCall f_is_whole (cCons (cVar 1) cNil)) [s0, .none] [.int a, .int b] [] M = .ok [.bl true, .bl true] M := by
  have hs : 1000 ≤ sizeLine := by decide +kernel
  rw [lcL_yes (y := .bl true) (M2 := M) h setT_nm rfl (by simp only [eC, eVar, eVar2, eBin, eBin2, eBin3, eUn, eUn2, eNil, eCons, eCons2, eCons3, eFn, eFn2, eTst, eTst2, eIf, eIf_t, eIf_f, eAnd, eAnd_t, eAnd_f, eOr, eOr_t, eOr_f, eNot, eNot2, eCall, eCall2, eCallC, eSl, eSl2, eSl3, eSl4, eNo, ePart, ePart2, sNil_, sSeq_, sBrk_, sCnt_, sDrop_, sDrop2, sDropE, sRet_, sRet2, sRetE, sRetN_, sIf_, sIf_t, sIf_f, sSet_, sSet2, sSetE, setT_nm, setTs_nil, setTs_cons, optS_some, sPar2_, sPar22, sFor_, sFor2, cIter_, cIter_t, cIter_l, cIter_s, cItL_, cItL2, sRaise_, runF_, endR_nx, endR_rt, endR_err, opt_some, seq_nx, seq_rt, seq_bk, seq_ct, seq_err, startE, List.map_cons, List.map_nil, List.length_cons, List.length_nil, List.replicate_succ, List.replicate_zero, List.cons_append, List.nil_append, List.append_nil, List.getElem?_cons_zero, List.getElem?_cons_succ, List.set_cons_zero, List.set_cons_succ, Option.bind_some, Option.map_some, Nat.reduceAdd, Nat.reduceSub, fAdd_int, fSub_int, fNeg_int, gGcd_int, fGt_int, fLt_int, fLe_int, fTup2, r_is_whole]) (by show 0 < _; omega), lcL_yes (y := .bl true) (M2 := M) h setT_nm rfl (by simp only [eC, eVar, eVar2, eBin, eBin2, eBin3, eUn, eUn2, eNil, eCons, eCons2, eCons3, eFn, eFn2, eTst, eTst2, eIf, eIf_t, eIf_f, eAnd, eAnd_t, eAnd_f, eOr, eOr_t, eOr_f, eNot, eNot2, eCall, eCall2, eCallC, eSl, eSl2, eSl3, eSl4, eNo, ePart, ePart2, sNil_, sSeq_, sBrk_, sCnt_, sDrop_, sDrop2, sDropE, sRet_, sRet2, sRetE, sRetN_, sIf_, sIf_t, sIf_f, sSet_, sSet2, sSetE, setT_nm, setTs_nil, setTs_cons, optS_some, sPar2_, sPar22, sFor_, sFor2, cIter_, cIter_t, cIter_l, cIter_s, cItL_, cItL2, sRaise_, runF_, endR_nx, endR_rt, endR_err, opt_some, seq_nx, seq_rt, seq_bk, seq_ct, seq_err, startE, List.map_cons, List.map_nil, List.length_cons, List.length_nil, List.replicate_succ, List.replicate_zero, List.cons_append, List.nil_append, List.append_nil, List.getElem?_cons_zero, List.getElem?_cons_succ, List.set_cons_zero, List.set_cons_succ, Option.bind_some, Option.map_some, Nat.reduceAdd, Nat.reduceSub, fAdd_int, fSub_int, fNeg_int, gGcd_int, fGt_int, fLt_int, fLe_int, fTup2, r_is_whole]) (by show 1 < _; omega), lcL_nil h]
  rfl
theorem gAll_tt : gAll M [.lst [.bl true, .bl true]] = some (.bl true) := rfl
theorem r_is_ratio {a b : Int} : f_is_ratio [.tup [.int a, .int b]] M = .ok (.bl (decide (0 < b) && decide (Nat.gcd a.natAbs b.natAbs = 1))) M := by
  unfold f_is_ratio b_is_ratio
  have e : ∀ c : Nat, decide ((c : Int) = 1) = decide (c = 1) := fun c => by rw [decide_eq_decide]; omega
  by_cases h : 0 < b
  · simp only [eC, eVar, eVar2, eBin, eBin2, eBin3, eUn, eUn2, eNil, eCons, eCons2, eCons3, eFn, eFn2, eTst, eTst2, eIf, eIf_t, eIf_f, eAnd, eAnd_t, eAnd_f, eOr, eOr_t, eOr_f, eNot, eNot2, eCall, eCall2, eCallC, eSl, eSl2, eSl3, eSl4, eNo, ePart, ePart2, sNil_, sSeq_, sBrk_, sCnt_, sDrop_, sDrop2, sDropE, sRet_, sRet2, sRetE, sRetN_, sIf_, sIf_t, sIf_f, sSet_, sSet2, sSetE, setT_nm, setTs_nil, setTs_cons, optS_some, sPar2_, sPar22, sFor_, sFor2, cIter_, cIter_t, cIter_l, cIter_s, cItL_, cItL2, sRaise_, runF_, endR_nx, endR_rt, endR_err, opt_some, seq_nx, seq_rt, seq_bk, seq_ct, seq_err, startE, List.map_cons, List.map_nil, List.length_cons, List.length_nil, List.replicate_succ, List.replicate_zero, List.cons_append, List.nil_append, List.append_nil, List.getElem?_cons_zero, List.getElem?_cons_succ, List.set_cons_zero, List.set_cons_succ, Option.bind_some, Option.map_some, Nat.reduceAdd, Nat.reduceSub, fAdd_int, fSub_int, fNeg_int, gGcd_int, fGt_int, fLt_int, fLe_int, fTup2, isi_tup_tup, Bool.not_true, gLen_tup, fNe_int, show decide (((2 : Nat) : Int) = 2) = true from rfl, eLc, eLc2, eLc3, wipe_nil, wipe_cons, ints_whole depOk_nil, gAll_tt, fIx_0, fIx_1, decide_eq_true h, fEq_int, Bool.true_and, e]
  · simp only [eC, eVar, eVar2, eBin, eBin2, eBin3, eUn, eUn2, eNil, eCons, eCons2, eCons3, eFn, eFn2, eTst, eTst2, eIf, eIf_t, eIf_f, eAnd, eAnd_t, eAnd_f, eOr, eOr_t, eOr_f, eNot, eNot2, eCall, eCall2, eCallC, eSl, eSl2, eSl3, eSl4, eNo, ePart, ePart2, sNil_, sSeq_, sBrk_, sCnt_, sDrop_, sDrop2, sDropE, sRet_, sRet2, sRetE, sRetN_, sIf_, sIf_t, sIf_f, sSet_, sSet2, sSetE, setT_nm, setTs_nil, setTs_cons, optS_some, sPar2_, sPar22, sFor_, sFor2, cIter_, cIter_t, cIter_l, cIter_s, cItL_, cItL2, sRaise_, runF_, endR_nx, endR_rt, endR_err, opt_some, seq_nx, seq_rt, seq_bk, seq_ct, seq_err, startE, List.map_cons, List.map_nil, List.length_cons, List.length_nil, List.replicate_succ, List.replicate_zero, List.cons_append, List.nil_append, List.append_nil, List.getElem?_cons_zero, List.getElem?_cons_succ, List.set_cons_zero, List.set_cons_succ, Option.bind_some, Option.map_some, Nat.reduceAdd, Nat.reduceSub, fAdd_int, fSub_int, fNeg_int, gGcd_int, fGt_int, fLt_int, fLe_int, fTup2, isi_tup_tup, Bool.not_true, gLen_tup, fNe_int, show decide (((2 : Nat) : Int) = 2) = true from rfl, eLc, eLc2, eLc3, wipe_nil, wipe_cons, ints_whole depOk_nil, gAll_tt, fIx_0, fIx_1, decide_eq_false h, Bool.false_and]
theorem r_is_ratio_q {r : Rat} : f_is_ratio [qd r] M = .ok (.bl true) M := by
  unfold qd
  rw [r_is_ratio, decide_eq_true (show (0 : Int) < (r.den : Int) by have := r.den_pos; omega), decide_eq_true (show Nat.gcd r.num.natAbs (r.den : Int).natAbs = 1 from r.reduced)]
  rfl
theorem r_is_ratio_non : f_is_ratio [.non] M = .ok (.bl false) M := by
  unfold f_is_ratio b_is_ratio
  simp only [eC, eVar, eVar2, eBin, eBin2, eBin3, eUn, eUn2, eNil, eCons, eCons2, eCons3, eFn, eFn2, eTst, eTst2, eIf, eIf_t, eIf_f, eAnd, eAnd_t, eAnd_f, eOr, eOr_t, eOr_f, eNot, eNot2, eCall, eCall2, eCallC, eSl, eSl2, eSl3, eSl4, eNo, ePart, ePart2, sNil_, sSeq_, sBrk_, sCnt_, sDrop_, sDrop2, sDropE, sRet_, sRet2, sRetE, sRetN_, sIf_, sIf_t, sIf_f, sSet_, sSet2, sSetE, setT_nm, setTs_nil, setTs_cons, optS_some, sPar2_, sPar22, sFor_, sFor2, cIter_, cIter_t, cIter_l, cIter_s, cItL_, cItL2, sRaise_, runF_, endR_nx, endR_rt, endR_err, opt_some, seq_nx, seq_rt, seq_bk, seq_ct, seq_err, startE, List.map_cons, List.map_nil, List.length_cons, List.length_nil, List.replicate_succ, List.replicate_zero, List.cons_append, List.nil_append, List.append_nil, List.getElem?_cons_zero, List.getElem?_cons_succ, List.set_cons_zero, List.set_cons_succ, Option.bind_some, Option.map_some, Nat.reduceAdd, Nat.reduceSub, fAdd_int, fSub_int, fNeg_int, gGcd_int, fGt_int, fLt_int, fLe_int, fTup2, isi_non_tup, Bool.not_false]
theorem r_is_ratio_int {i : Int} : f_is_ratio [.int i] M = .ok (.bl false) M := by
  unfold f_is_ratio b_is_ratio
  simp only [eC, eVar, eVar2, eBin, eBin2, eBin3, eUn, eUn2, eNil, eCons, eCons2, eCons3, eFn, eFn2, eTst, eTst2, eIf, eIf_t, eIf_f, eAnd, eAnd_t, eAnd_f, eOr, eOr_t, eOr_f, eNot, eNot2, eCall, eCall2, eCallC, eSl, eSl2, eSl3, eSl4, eNo, ePart, ePart2, sNil_, sSeq_, sBrk_, sCnt_, sDrop_, sDrop2, sDropE, sRet_, sRet2, sRetE, sRetN_, sIf_, sIf_t, sIf_f, sSet_, sSet2, sSetE, setT_nm, setTs_nil, setTs_cons, optS_some, sPar2_, sPar22, sFor_, sFor2, cIter_, cIter_t, cIter_l, cIter_s, cItL_, cItL2, sRaise_, runF_, endR_nx, endR_rt, endR_err, opt_some, seq_nx, seq_rt, seq_bk, seq_ct, seq_err, startE, List.map_cons, List.map_nil, List.length_cons, List.length_nil, List.replicate_succ, List.replicate_zero, List.cons_append, List.nil_append, List.append_nil, List.getElem?_cons_zero, List.getElem?_cons_succ, List.set_cons_zero, List.set_cons_succ, Option.bind_some, Option.map_some, Nat.reduceAdd, Nat.reduceSub, fAdd_int, fSub_int, fNeg_int, gGcd_int, fGt_int, fLt_int, fLe_int, fTup2, isi_int_tup, Bool.not_false]
theorem le_num {r : Rat} : decide (0 ≤ r.num) = decide (0 ≤ r) := by
  rw [decide_eq_decide]
  exact Rat.num_nonneg
theorem le_one {r : Rat} : decide (r.num ≤ (r.den : Int)) = decide (r ≤ 1) := by
  rw [decide_eq_decide, Rat.le_iff]
  simp
end
end K00

namespace K00
open PySem PySem.Spec PyProof.Rows L2 DI
section
variable {env : En} {M : Mem} {x y z : D} {ds : List D}
theorem fEq_qd {a b : Rat} : fEq M (qd a) (qd b) = some (.bl (decide (a = b))) := by
  unfold fEq eqD
  show ((if SeqAt.shaped (.tuple [.int a.num, .int a.den]) = true ∧ SeqAt.shaped (.tuple [.int b.num, .int b.den]) = true then some (PyData.eqv (.tuple [.int a.num, .int a.den]) (.tuple [.int b.num, .int b.den])) else none).map D.bl) = _
  rw [if_pos ⟨by rfl, by rfl⟩]
  show some (D.bl (a.num == b.num && ((a.den : Int) == (b.den : Int) && true))) = _
  congr 2
  rw [Bool.and_true, Bool.eq_iff_iff, Bool.and_eq_true, beq_iff_eq, beq_iff_eq, decide_eq_true_iff]
  constructor
  · rintro ⟨h1, h2⟩
    exact Rat.ext h1 (by omega)
  · rintro rfl
    exact ⟨rfl, rfl⟩
theorem isBs_map {α : Type} (f : α → Bool) : ∀ l : List α, isBs (l.map fun a => D.bl (f a)) = some (l.map f)
  | [] => rfl
  | a :: l => by
    rw [List.map_cons, isBs, isBs_map f l]
    rfl
theorem gAll_map {α : Type} (f : α → Bool) (l : List α) : gAll M [.lst (l.map fun a => D.bl (f a))] = some (.bl (l.all f)) := by
  show (isBs _).map (fun bs => D.bl (bs.all id)) = _
  rw [isBs_map]
  show some (D.bl ((l.map f).all id)) = _
  rw [List.all_map]
  rfl
theorem sumOk_crude {c : Nat} : ∀ (l : List Rat) (a : Rat) (b : Nat), Sq b a → (∀ r ∈ l, Sq c r) → b + l.length * (c + 1) ≤ 4000 → SumOk a l
  | [], _, _, _, _, _ => trivial
  | r :: l, a, b, ha, hr, h => by
    rw [List.length_cons, Nat.add_mul, Nat.one_mul] at h
    have h1 := hr r List.mem_cons_self
    refine ⟨ha.mono (by omega), h1.mono (by omega), sumOk_crude l (a + r) (b + (c + 1)) ?_ (fun q hq => hr q (List.mem_cons_of_mem _ hq)) (by omega)⟩
    rw [← Rat.num_divInt_den a, ← Rat.num_divInt_den r, Rat.divInt_add_divInt _ _ (den_ne a) (den_ne r)]
    refine Sq.divInt ?_ ((ha.d.mul h1.d).mono (by omega)) (Int.mul_ne_zero (den_ne a) (den_ne r))
    exact ((ha.n.mul h1.d).add ((h1.n.mul ha.d).mono (by omega))).mono (by omega)
theorem cut1 {α : Type} {l : List α} : DI.cutD l (some 1) none = l.drop 1 := by
  unfold DI.cutD
  rw [HT.sIx_none, show HT.sIx l.length 0 (some 1) = min 1 l.length from HT.sIx_nat l.length 0 1]
  rw [List.take_of_length_le (by rw [List.length_drop]; omega)]
  rcases Nat.lt_or_ge 0 l.length with h | h
  · rw [Nat.min_eq_left (by omega)]
  · have : l = [] := List.length_eq_zero_iff.mp (by omega)
    subst this
    rfl
def okC (p : Rat × Rat) : Bool := (decide (0 ≤ p.2) && decide (p.2 ≤ 1)) && decide (0 < p.2)
def numB (L : List (Rat × Rat)) : Bool := (decide (1 ≤ L.length) && decide (L.length ≤ 8)) && (L.all okC && ((L.zip (L.drop 1)).all (fun a => decide (a.1.1 < a.2.1)) && decide (rsum (L.map (·.2)) = 1)))
def dP (p : Rat × Rat) : D := .tup [qd p.1, qd p.2]
theorem dL_eq {L : List (Rat × Rat)} : dL L = .tup (L.map dP) := rfl
theorem pos_num {r : Rat} : decide (0 < r.num) = decide (0 < r) := by
  rw [decide_eq_decide, Rat.lt_iff]
  simp
theorem qd_0 {r : Rat} : fIx M (qd r) (.int 0) = some (.int r.num) := rfl
theorem qd_1 {r : Rat} : fIx M (qd r) (.int 1) = some (.int r.den) := rfl
theorem dP_0 {p : Rat × Rat} : fIx M (dP p) (.int 0) = some (qd p.1) := rfl
theorem dP_1 {p : Rat × Rat} : fIx M (dP p) (.int 1) = some (qd p.2) := rfl
theorem lc_pairs {L : List (Rat × Rat)} {a0 a2 a3 : Sl} {it : ItD} (h : DepOk it M) (hl : L.length ≤ 1000) : lcL it (.nm 1) cYes (cAnd (cFn (gIsi anc) (cCons (cVar 1) (cCons (cC (.ty "tuple")) cNil))) (cBin fEq (cFn gLen (cCons (cVar 1) cNil)) (cC (.int 2)))) [a0, .none, a2, a3] (L.map dP) [] M = .ok (L.map fun _ => D.bl true) M :=
  lcL_map dP (fun _ => .bl true) h L (fun p hp => ⟨_, setT_nm, by
    have hg : gLen M [dP p] = some (.int 2) := rfl
    have hi : gIsi anc M [dP p, .ty "tuple"] = some (.bl true) := rfl
    simp only [eC, eVar, eVar2, eBin, eBin2, eBin3, eUn, eUn2, eNil, eCons, eCons2, eCons3, eFn, eFn2, eTst, eTst2, eIf, eIf_t, eIf_f, eAnd, eAnd_t, eAnd_f, eOr, eOr_t, eOr_f, eNot, eNot2, eCall, eCall2, eCallC, eSl, eSl2, eSl3, eSl4, eNo, ePart, ePart2, sNil_, sSeq_, sBrk_, sCnt_, sDrop_, sDrop2, sDropE, sRet_, sRet2, sRetE, sRetN_, sIf_, sIf_t, sIf_f, sSet_, sSet2, sSetE, setT_nm, setTs_nil, setTs_cons, optS_some, sPar2_, sPar22, sFor_, sFor2, cIter_, cIter_t, cIter_l, cIter_s, cItL_, cItL2, sRaise_, runF_, endR_nx, endR_rt, endR_err, opt_some, seq_nx, seq_rt, seq_bk, seq_ct, seq_err, startE, List.map_cons, List.map_nil, List.length_cons, List.length_nil, List.replicate_succ, List.replicate_zero, List.cons_append, List.nil_append, List.append_nil, List.getElem?_cons_zero, List.getElem?_cons_succ, List.set_cons_zero, List.set_cons_succ, Option.bind_some, Option.map_some, Nat.reduceAdd, Nat.reduceSub, fAdd_int, fSub_int, fNeg_int, gGcd_int, fGt_int, fLt_int, fLe_int, fTup2, hg, hi, fEq_int]
    rfl⟩) hl
theorem lc_snd {L : List (Rat × Rat)} {a0 a2 a3 : Sl} {it : ItD} (h : DepOk it M) (hl : L.length ≤ 1000) : lcL it (.nm 1) cYes (cBin fIx (cVar 1) (cC (.int 1))) [a0, .none, a2, a3] (L.map dP) [] M = .ok ((L.map (·.2)).map qd) M := by
  rw [List.map_map]
  exact lcL_map dP (fun p => qd p.2) h L (fun p hp => ⟨_, setT_nm, by simp only [eC, eVar, eVar2, eBin, eBin2, eBin3, eUn, eUn2, eNil, eCons, eCons2, eCons3, eFn, eFn2, eTst, eTst2, eIf, eIf_t, eIf_f, eAnd, eAnd_t, eAnd_f, eOr, eOr_t, eOr_f, eNot, eNot2, eCall, eCall2, eCallC, eSl, eSl2, eSl3, eSl4, eNo, ePart, ePart2, sNil_, sSeq_, sBrk_, sCnt_, sDrop_, sDrop2, sDropE, sRet_, sRet2, sRetE, sRetN_, sIf_, sIf_t, sIf_f, sSet_, sSet2, sSetE, setT_nm, setTs_nil, setTs_cons, optS_some, sPar2_, sPar22, sFor_, sFor2, cIter_, cIter_t, cIter_l, cIter_s, cItL_, cItL2, sRaise_, runF_, endR_nx, endR_rt, endR_err, opt_some, seq_nx, seq_rt, seq_bk, seq_ct, seq_err, startE, List.map_cons, List.map_nil, List.length_cons, List.length_nil, List.replicate_succ, List.replicate_zero, List.cons_append, List.nil_append, List.append_nil, List.getElem?_cons_zero, List.getElem?_cons_succ, List.set_cons_zero, List.set_cons_succ, Option.bind_some, Option.map_some, Nat.reduceAdd, Nat.reduceSub, fAdd_int, fSub_int, fNeg_int, gGcd_int, fGt_int, fLt_int, fLe_int, fTup2, dP_1]⟩) hl
end
end K00

namespace K00
open PySem PySem.Spec PyProof.Rows L2 DI
section
variable {env : En} {M : Mem} {x y z : D} {ds xs : List D} {o o' : Ob}
theorem end_at : (M ++ [o])[M.length]? = some o := by
  rw [List.getElem?_append_right (Nat.le_refl _), Nat.sub_self]
  rfl
theorem end_set : (M ++ [o]).set M.length o' = M ++ [o'] := by
  rw [List.set_append_right _ _ (Nat.le_refl _), Nat.sub_self]
  rfl
theorem end_take {S : Mem} : (M ++ S).take M.length = M := List.take_left' rfl
theorem end_lst : lstAt (M ++ [.lst xs]) (.ref M.length) = some (M.length, xs) := by
  unfold lstAt
  simp only [end_at]
theorem end_der : der (M ++ [.lst xs]) (.ref M.length) = .lst xs := by
  unfold der
  simp only [end_at]
theorem end_ty : tyM (M ++ [.lst xs]) (.ref M.length) = some "list" := by
  unfold tyM
  simp only [end_at]
theorem end_app (h : xs.length ≤ 1000) (hb : below M.length x = true) : mAppend (M ++ [.lst xs]) (.ref M.length) [x] = some (.non, M ++ [.lst (xs ++ [x])]) := by
  have h2 : 1001 ≤ sizeLine := by decide +kernel
  unfold mAppend
  rw [end_lst]
  show (if xs.length < sizeLine ∧ below M.length x = true then some (D.non, List.set (M ++ [.lst xs]) M.length (.lst (xs ++ [x]))) else none) = _
  rw [if_pos ⟨by omega, hb⟩, end_set]
theorem end_iter : it2 (.ok (.ref M.length) (M ++ [.lst xs])) = .ok ⟨xs, [(M.length, xs)]⟩ (M ++ [.lst xs]) := by
  show opt (iterD (M ++ [.lst xs]) (.ref M.length)) _ = _
  unfold iterD
  simp only [end_at]
  rfl
theorem end_dep {ys : List D} : DepOk ⟨ys, [(M.length, xs)]⟩ (M ++ [.lst xs]) := depOk_one end_at
end
def mean (L : List (Rat × Rat)) : Rat := rsum (L.map fun p => p.1 * p.2)
def dev (m : Rat) (p : Rat × Rat) : Rat := (p.1 - m) * (p.1 - m) * p.2
def wid (L : List (Rat × Rat)) : Rat := rsum (L.map (dev (mean L)))
/-- numbers of which mean and spread can be worked out with few bits -/
structure MsOk (L : List (Rat × Rat)) : Prop where
  len : L.length ≤ 100
  a : ∀ p ∈ L, Sq 4000 p.1 ∧ Sq 4000 p.2
  b : SumOk 0 (L.map fun p => p.1 * p.2)
  c : Sq 4000 (mean L)
  d : ∀ p ∈ L, Sq 4000 (p.1 - mean L) ∧ Sq 4000 ((p.1 - mean L) * (p.1 - mean L))
  e : SumOk 0 (L.map (dev (mean L)))
theorem lc_products {M : Mem} {L : List (Rat × Rat)} {a0 a3 a4 a5 : Sl} {it : ItD} (h : DepOk it M) (hl : L.length ≤ 1000) (ha : ∀ p ∈ L, Sq 4000 p.1 ∧ Sq 4000 p.2) : lcL it (.tp [(.nm 1), (.nm 2)]) cYes (cCall f_times (cCons (cVar 1) (cCons (cVar 2) cNil))) [a0, .none, .none, a3, a4, a5] (L.map dP) [] M = .ok ((L.map fun p => p.1 * p.2).map qd) M := by
  rw [List.map_map]
  refine lcL_map dP (fun p => qd (p.1 * p.2)) h L (fun p hp => ⟨_, by unfold dP; simp only [setT_t, eC, eVar, eVar2, eBin, eBin2, eBin3, eUn, eUn2, eNil, eCons, eCons2, eCons3, eFn, eFn2, eTst, eTst2, eIf, eIf_t, eIf_f, eAnd, eAnd_t, eAnd_f, eOr, eOr_t, eOr_f, eNot, eNot2, eCall, eCall2, eCallC, eSl, eSl2, eSl3, eSl4, eNo, ePart, ePart2, sNil_, sSeq_, sBrk_, sCnt_, sDrop_, sDrop2, sDropE, sRet_, sRet2, sRetE, sRetN_, sIf_, sIf_t, sIf_f, sSet_, sSet2, sSetE, setT_nm, setTs_nil, setTs_cons, optS_some, sPar2_, sPar22, sFor_, sFor2, cIter_, cIter_t, cIter_l, cIter_s, cItL_, cItL2, sRaise_, runF_, endR_nx, endR_rt, endR_err, opt_some, seq_nx, seq_rt, seq_bk, seq_ct, seq_err, startE, List.map_cons, List.map_nil, List.length_cons, List.length_nil, List.replicate_succ, List.replicate_zero, List.cons_append, List.nil_append, List.append_nil, List.getElem?_cons_zero, List.getElem?_cons_succ, List.set_cons_zero, List.set_cons_succ, Option.bind_some, Option.map_some, Nat.reduceAdd, Nat.reduceSub, fAdd_int, fSub_int, fNeg_int, gGcd_int, fGt_int, fLt_int, fLe_int, fTup2]; rfl, ?_⟩) hl
  obtain ⟨a1, a2⟩ := ha p hp
  simp only [eC, eVar, eVar2, eBin, eBin2, eBin3, eUn, eUn2, eNil, eCons, eCons2, eCons3, eFn, eFn2, eTst, eTst2, eIf, eIf_t, eIf_f, eAnd, eAnd_t, eAnd_f, eOr, eOr_t, eOr_f, eNot, eNot2, eCall, eCall2, eCallC, eSl, eSl2, eSl3, eSl4, eNo, ePart, ePart2, sNil_, sSeq_, sBrk_, sCnt_, sDrop_, sDrop2, sDropE, sRet_, sRet2, sRetE, sRetN_, sIf_, sIf_t, sIf_f, sSet_, sSet2, sSetE, setT_nm, setTs_nil, setTs_cons, optS_some, sPar2_, sPar22, sFor_, sFor2, cIter_, cIter_t, cIter_l, cIter_s, cItL_, cItL2, sRaise_, runF_, endR_nx, endR_rt, endR_err, opt_some, seq_nx, seq_rt, seq_bk, seq_ct, seq_err, startE, List.map_cons, List.map_nil, List.length_cons, List.length_nil, List.replicate_succ, List.replicate_zero, List.cons_append, List.nil_append, List.append_nil, List.getElem?_cons_zero, List.getElem?_cons_succ, List.set_cons_zero, List.set_cons_succ, Option.bind_some, Option.map_some, Nat.reduceAdd, Nat.reduceSub, fAdd_int, fSub_int, fNeg_int, gGcd_int, fGt_int, fLt_int, fLe_int, fTup2, r_times a1 a2]
end K00

namespace K00
open PySem PySem.Spec PyProof.Rows L2 DI
section
variable {a b r : Rat} {u v : Nat}
theorem Sq.add (ha : Sq u a) (hb : Sq v b) : Sq (u + v + 1) (a + b) := by
  rw [← Rat.num_divInt_den a, ← Rat.num_divInt_den b, Rat.divInt_add_divInt _ _ (den_ne a) (den_ne b)]
  exact Sq.divInt ((ha.n.mul hb.d).add ((hb.n.mul ha.d).mono (by omega))) ((ha.d.mul hb.d).mono (by omega)) (Int.mul_ne_zero (den_ne a) (den_ne b))
theorem Sq.neg (ha : Sq u a) : Sq u (-a) := ⟨by rw [Rat.neg_num]; exact ha.n.neg, by rw [Rat.neg_den]; exact ha.d⟩
theorem Sq.sub (ha : Sq u a) (hb : Sq v b) : Sq (u + v + 1) (a - b) := by
  rw [Rat.sub_eq_add_neg]
  exact ha.add hb.neg
theorem Sq.mul (ha : Sq u a) (hb : Sq v b) : Sq (u + v) (a * b) := by
  rw [← Rat.num_divInt_den a, ← Rat.num_divInt_den b, Rat.divInt_mul_divInt]
  exact Sq.divInt (ha.n.mul hb.n) (ha.d.mul hb.d) (Int.mul_ne_zero (den_ne a) (den_ne b))
theorem Sq.div (ha : Sq u a) (hb : Sq v b) (h : b ≠ 0) : Sq (u + v) (a / b) := by
  rw [← over_eq]
  exact Sq.divInt (ha.n.mul hb.d) (ha.d.mul hb.n) (Int.mul_ne_zero (den_ne a) (num_ne h))
theorem sq_1 : Sq 1 (1 : Rat) := ⟨show (1 : Nat) < 2 ^ 1 by decide, show (1 : Nat) < 2 ^ 1 by decide⟩
theorem sq_0 : Sq 1 (0 : Rat) := ⟨show (0 : Nat) < 2 ^ 1 by decide, show (1 : Nat) < 2 ^ 1 by decide⟩
theorem pos_mul_self (h : 0 < b) : 0 < b * b := Rat.mul_pos h h
theorem plus_ne (ha : 0 ≤ a) (hb : 0 < b) : a + b * b ≠ 0 := by
  have := pos_mul_self hb
  grind
end
section
variable {a b : Rat} {M : Mem} {x y : D}
theorem neg_num {r : Rat} : decide (r.num < 0) = decide (r < 0) := by
  rw [decide_eq_decide, Rat.lt_iff]
  simp
theorem npos_num {r : Rat} : decide (r.num ≤ 0) = decide (r ≤ 0) := by
  rw [decide_eq_decide, Rat.le_iff]
  simp
theorem str_len {s : Str} : ([D.str s] : List D).length ≤ sizeLine := by
  have h2 : 1000 ≤ sizeLine := by decide +kernel
  show 1 ≤ _
  omega
/-- a spread, a gap of few bits -/
structure SpOk (a b : Rat) : Prop where
  a0 : 0 ≤ a
  b0 : 0 < b
  a : Sq 900 a
  b : Sq 900 b
def oneSide (a b : Rat) : Rat := a / (a + b * b)
theorem SpOk.bb (h : SpOk a b) : Sq 1800 (b * b) := h.b.mul h.b
theorem SpOk.abb (h : SpOk a b) : Sq 2701 (a + b * b) := h.a.add h.bb
def bothSides (a b : Rat) : Rat := if a / (b * b) < 1 then a / (b * b) else 1
def spNums (a b : Rat) : List (Rat × Rat) := if a = 0 then [(0, 1)] else [(0 - a / b, 1 - oneSide a b), (b, oneSide a b)]
theorem SpOk.one (h : SpOk a b) : Sq 3601 (oneSide a b) := h.a.div h.abb (plus_ne h.a0 h.b0)
end
end K00

namespace K00
open PySem PySem.Spec PyProof.Rows L2 DI
mutual
def sz : D → Nat
  | .tup ds => 1 + szs ds
  | .lst ds => 1 + szs ds
  | _ => 1
def szs : List D → Nat
  | [] => 0
  | d :: ds => sz d + szs ds
end
mutual
def plain : D → Bool
  | .int _ => true
  | .tup ds => plains ds
  | .lst ds => plains ds
  | _ => false
def plains : List D → Bool
  | [] => true
  | d :: ds => plain d && plains ds
end
mutual
def dpt : D → Nat
  | .tup ds => dpts ds + 1
  | .lst ds => dpts ds + 1
  | _ => 0
def dpts : List D → Nat
  | [] => 0
  | d :: ds => max (dpt d) (dpts ds)
end
mutual
theorem py_of : ∀ d : D, plain d = true → ∃ p, toPy d = some p ∧ p.canLay0 = true ∧ p.depth = dpt d
  | .int i, _ => ⟨.int i, rfl, rfl, rfl⟩
  | .tup ds, h => by
    obtain ⟨ps, h1, h2, h3⟩ := pys_of ds (by rw [plain] at h; exact h)
    exact ⟨.tuple ps, by rw [toPy, h1]; rfl, h2, by rw [dpt, ← h3]; rfl⟩
  | .lst ds, h => by
    obtain ⟨ps, h1, h2, h3⟩ := pys_of ds (by rw [plain] at h; exact h)
    exact ⟨.list ps, by rw [toPy, h1]; rfl, h2, by rw [dpt, ← h3]; rfl⟩
theorem pys_of : ∀ ds : List D, plains ds = true → ∃ ps, toPys ds = some ps ∧ PyData.canLayAll0 ps = true ∧ PyData.depthAll ps = dpts ds
  | [], _ => ⟨[], rfl, rfl, rfl⟩
  | d :: ds, h => by
    rw [plains, Bool.and_eq_true] at h
    obtain ⟨p, h1, h2, h3⟩ := py_of d h.1
    obtain ⟨ps, g1, g2, g3⟩ := pys_of ds h.2
    refine ⟨p :: ps, by rw [toPys, h1, g1], ?_, by rw [dpts, ← h3, ← g3]; rfl⟩
    rw [PyData.canLayAll0, h2, g2]
    rfl
end
mutual
theorem bel_plain {n : Nat} : ∀ d : D, plain d = true → below n d = true
  | .int i, _ => rfl
  | .tup ds, h => by
    rw [plain] at h
    rw [below, bels_plain ds h]
  | .lst ds, h => by
    rw [plain] at h
    rw [below, bels_plain ds h]
theorem bels_plain {n : Nat} : ∀ ds : List D, plains ds = true → belows n ds = true
  | [], _ => rfl
  | d :: ds, h => by
    rw [plains, Bool.and_eq_true] at h
    rw [belows, bel_plain d h.1, bels_plain ds h.2]
    rfl
end
def pr2 (d : D) : D := .tup [d, d]
theorem pairs_py : ∀ ds : List D, plains ds = true → ∃ ps, toPys (ds.map pr2) = some ps ∧ PyData.canLayAll0 ps = true ∧ PyData.depthAll ps ≤ dpts ds + 1 ∧ ps.length = ds.length
  | [], _ => ⟨[], rfl, rfl, Nat.zero_le _, rfl⟩
  | d :: ds, h => by
    rw [plains, Bool.and_eq_true] at h
    obtain ⟨p, h1, h2, h3⟩ := py_of d h.1
    obtain ⟨ps, g1, g2, g3, g4⟩ := pairs_py ds h.2
    refine ⟨.tuple [p, p] :: ps, ?_, ?_, ?_, by rw [List.length_cons, List.length_cons, g4]⟩
    · rw [List.map_cons, toPys, g1]
      unfold pr2
      rw [toPy, toPys, toPys, toPys, h1]
      rfl
    · rw [PyData.canLayAll0, g2, PyData.canLay0, PyData.canLayAll0, PyData.canLayAll0, PyData.canLayAll0, h2]
      rfl
    · rw [PyData.depthAll, PyData.depth, PyData.depthAll, PyData.depthAll, PyData.depthAll, h3, dpts]
      omega
theorem plains_app : ∀ a b : List D, plains (a ++ b) = (plains a && plains b)
  | [], b => by rw [List.nil_append, plains, Bool.true_and]
  | d :: a, b => by rw [List.cons_append, plains, plains, plains_app a b, Bool.and_assoc]
theorem szs_app : ∀ a b : List D, szs (a ++ b) = szs a + szs b
  | [], b => by rw [List.nil_append, szs, Nat.zero_add]
  | d :: a, b => by rw [List.cons_append, szs, szs, szs_app a b, Nat.add_assoc]
theorem dpts_app : ∀ a b : List D, dpts (a ++ b) = max (dpts a) (dpts b)
  | [], b => by rw [List.nil_append, dpts, Nat.zero_max]
  | d :: a, b => by rw [List.cons_append, dpts, dpts, dpts_app a b, Nat.max_assoc]
theorem sz_pos (d : D) : 1 ≤ sz d := by
  cases d <;> simp [sz] <;> omega
theorem len_szs : ∀ ds : List D, ds.length ≤ szs ds
  | [] => Nat.le_refl _
  | d :: ds => by
    have := sz_pos d
    have := len_szs ds
    rw [List.length_cons, szs]
    omega
section
variable {M : Mem} {st : List D}
theorem fNe_stack (h : plains st = true) (hd : dpts st ≤ 50) : fNe (M ++ [.lst (st.map pr2)]) (.ref M.length) (.lst []) = some (.bl (!st.isEmpty)) := by
  obtain ⟨ps, h1, h2, h3, h4⟩ := pairs_py st h
  unfold fNe eqD
  rw [end_der, show der (M ++ [.lst (st.map pr2)]) (.lst []) = .lst [] from rfl, toPy, h1]
  show ((if SeqAt.shaped (.list ps) = true ∧ SeqAt.shaped (.list []) = true then some (PyData.eqv (.list ps) (.list [])) else none).map fun b => D.bl (!b)) = _
  have hs : SeqAt.shaped (.list ps) = true := by
    unfold SeqAt.shaped
    rw [PyData.canLay0, h2, PyData.depth, Bool.true_and]
    exact decide_eq_true (by omega)
  rw [if_pos ⟨hs, by rfl⟩]
  cases st with
  | nil =>
    have : ps = [] := List.length_eq_zero_iff.mp h4
    subst this
    rfl
  | cons d r =>
    cases ps with
    | nil => cases h4
    | cons p q => rfl
theorem pop_stack {d : D} : mPop (M ++ [.lst ((st ++ [d]).map pr2)]) (.ref M.length) [] = some (pr2 d, M ++ [.lst (st.map pr2)]) := by
  unfold mPop
  rw [end_lst, List.map_append]
  show ((st.map pr2 ++ [pr2 d])[(st.map pr2 ++ [pr2 d]).length - 1]?).map (fun y => (y, List.set (M ++ [Ob.lst (st.map pr2 ++ [pr2 d])]) M.length (Ob.lst (st.map pr2 ++ [pr2 d]).dropLast))) = _
  rw [List.length_append, List.length_singleton, Nat.add_sub_cancel, List.getElem?_append_right (Nat.le_refl _), Nat.sub_self, List.dropLast_concat, end_set]
  rfl
theorem belows_pr {n : Nat} : ∀ ds : List D, plains ds = true → belows n (ds.map pr2) = true
  | [], _ => rfl
  | d :: ds, h => by
    rw [plains, Bool.and_eq_true] at h
    rw [List.map_cons, belows, belows_pr ds h.2, pr2, below, belows, belows, belows, bel_plain d h.1]
    rfl
theorem ext_stack {ds : List D} (h : plains ds = true) (hl : st.length + ds.length ≤ 1000) : mExtend (M ++ [.lst (st.map pr2)]) (.ref M.length) [.lst (ds.map pr2)] = some (.non, M ++ [.lst ((st ++ ds).map pr2)]) := by
  have h2 : 1000 ≤ sizeLine := by decide +kernel
  unfold mExtend
  rw [end_lst]
  show (if (st.map pr2).length + (ds.map pr2).length ≤ sizeLine ∧ belows M.length (ds.map pr2) = true then some (D.non, List.set (M ++ [Ob.lst (st.map pr2)]) M.length (Ob.lst (st.map pr2 ++ ds.map pr2))) else none) = _
  rw [if_pos ⟨by rw [List.length_map, List.length_map]; omega, belows_pr ds h⟩, end_set, List.map_append]
end
end K00

namespace K00
open PySem PySem.Spec PyProof.Rows L2 DI
noncomputable def bSame : EvS := (sSeq (sSet (.tp [(.nm 3), (.nm 4)]) (cM "list" mPop (cVar 2) cNil)) (sIf (cOr (cBin fIs (cVar 4) (cC .non)) (cFn (gIsi anc) (cCons (cVar 4) (cCons (cC (.ty "bool")) cNil)))) (sIf (cIf (cBin fIs (cVar 4) (cC .non)) (cBin fIsNot (cVar 3) (cC .non)) (cNot (cCall f__law_is_truth (cCons (cVar 3) (cCons (cVar 4) cNil))))) (sRet (cC (.bl false))) sNil) (sIf (cFn (gIsi anc) (cCons (cVar 4) (cCons (cFn fTup (cCons (cC (.ty "int")) (cCons (cC (.ty "str")) cNil))) cNil))) (sIf (cOr (cFn (gIsi anc) (cCons (cVar 3) (cCons (cC (.ty "bool")) cNil))) (cOr (cBin fNe (cFn (gIsi anc) (cCons (cVar 3) (cCons (cC (.ty "int")) cNil))) (cFn (gIsi anc) (cCons (cVar 4) (cCons (cC (.ty "int")) cNil)))) (cBin fNe (cVar 3) (cVar 4)))) (sRet (cC (.bl false))) sNil) (sIf (cFn (gIsi anc) (cCons (cVar 4) (cCons (cC (.ty "dict")) cNil))) sStuck (sSeq (sSet (.nm 5) (cFn fLst (cCons (cAnd (cFn (gIsi anc) (cCons (cVar 3) (cCons (cC (.ty "tuple")) cNil))) (cFn (gIsi anc) (cCons (cVar 4) (cCons (cC (.ty "tuple")) cNil)))) (cCons (cAnd (cFn (gIsi anc) (cCons (cVar 3) (cCons (cC (.ty "list")) cNil))) (cFn (gIsi anc) (cCons (cVar 4) (cCons (cC (.ty "list")) cNil)))) cNil)))) (sSeq (sIf (cOr (cBin fNotIn (cC (.bl true)) (cVar 5)) (cBin fNe (cFn gLen (cCons (cVar 3) cNil)) (cFn gLen (cCons (cVar 4) cNil)))) (sRet (cC (.bl false))) sNil) (sDrop (cM "list" mExtend (cVar 2) (cCons (cLc (cItL zipD (cCons (cVar 3) (cCons (cVar 4) cNil))) (.tp [(.nm 7), (.nm 8)]) cYes (cFn fTup (cCons (cVar 7) (cCons (cVar 8) cNil))) [7, 8]) cNil)))))))))
section
variable {M : Mem} {st ds : List D} {x y : D}
theorem isi_seq : gIsi anc M [.tup ds, .ty "bool"] = some (.bl false) ∧ gIsi anc M [.lst ds, .ty "bool"] = some (.bl false) ∧ gIsi anc M [.tup ds, .tup [.ty "int", .ty "str"]] = some (.bl false) ∧ gIsi anc M [.lst ds, .tup [.ty "int", .ty "str"]] = some (.bl false) ∧ gIsi anc M [.tup ds, .ty "dict"] = some (.bl false) ∧ gIsi anc M [.lst ds, .ty "dict"] = some (.bl false) ∧ gIsi anc M [.tup ds, .ty "list"] = some (.bl false) ∧ gIsi anc M [.lst ds, .ty "list"] = some (.bl true) := ⟨rfl, rfl, rfl, rfl, rfl, rfl, rfl, rfl⟩
theorem isi_int_is {i : Int} : gIsi anc M [.int i, .tup [.ty "int", .ty "str"]] = some (.bl true) := rfl
theorem fIs_non {d : D} (h : plain d = true) : fIs M d .non = some (.bl false) := by
  cases d <;> first
    | rfl
    | (simp only [plain] at h; cases h)
theorem fNe_bl {a b : Bool} : fNe M (.bl a) (.bl b) = some (.bl (!(a == b))) := rfl
theorem fNotIn_tf : fNotIn M (.bl true) (.lst [.bl true, .bl false]) = some (.bl false) := rfl
theorem fNotIn_ft : fNotIn M (.bl true) (.lst [.bl false, .bl true]) = some (.bl false) := rfl
theorem fLst2 : fLst M [x, y] = some (.lst [x, y]) := fLst_le (show 2 ≤ 1000 by decide)
theorem fTup_is : fTup M [.ty "int", .ty "str"] = some (.tup [.ty "int", .ty "str"]) := fTup2
theorem zip_tt : zipD M [.tup ds, .tup ds] = some ⟨ds.map pr2, []⟩ := by
  have h := zipL_map (fun d : D => d) (fun d : D => d) ds ds
  have : ∀ l : List D, (l.zip l).map (fun a => D.tup [a.1, a.2]) = l.map pr2 := fun l => by
    induction l with
    | nil => rfl
    | cons a l ih => rw [List.zip_cons_cons, List.map_cons, List.map_cons, ih]; rfl
  rw [List.map_id', this] at h
  show some (ItD.mk (zipL ds ds) []) = _
  rw [h]
theorem zip_ll : zipD M [.lst ds, .lst ds] = some ⟨ds.map pr2, []⟩ := zip_tt (M := M)
theorem lc_same {it : ItD} (h : DepOk it M) (hl : ds.length ≤ 1000) {a0 a1 a2 a3 a4 a5 a6 : Sl} : lcL it (.tp [(.nm 7), (.nm 8)]) cYes (cFn fTup (cCons (cVar 7) (cCons (cVar 8) cNil))) [a0, a1, a2, a3, a4, a5, a6, .none, .none] (ds.map pr2) [] M = .ok (ds.map pr2) M :=
  lcL_map pr2 pr2 h ds (fun d hd => ⟨_, by unfold pr2; simp only [setT_t, eC, eVar, eVar2, eBin, eBin2, eBin3, eUn, eUn2, eNil, eCons, eCons2, eCons3, eFn, eFn2, eTst, eTst2, eIf, eIf_t, eIf_f, eAnd, eAnd_t, eAnd_f, eOr, eOr_t, eOr_f, eNot, eNot2, eCall, eCall2, eCallC, eSl, eSl2, eSl3, eSl4, eNo, ePart, ePart2, sNil_, sSeq_, sBrk_, sCnt_, sDrop_, sDrop2, sDropE, sRet_, sRet2, sRetE, sRetN_, sIf_, sIf_t, sIf_f, sSet_, sSet2, sSetE, setT_nm, setTs_nil, setTs_cons, optS_some, sPar2_, sPar22, sFor_, sFor2, cIter_, cIter_t, cIter_l, cIter_s, cItL_, cItL2, sRaise_, runF_, endR_nx, endR_rt, endR_err, opt_some, seq_nx, seq_rt, seq_bk, seq_ct, seq_err, startE, List.map_cons, List.map_nil, List.length_cons, List.length_nil, List.replicate_succ, List.replicate_zero, List.cons_append, List.nil_append, List.append_nil, List.getElem?_cons_zero, List.getElem?_cons_succ, List.set_cons_zero, List.set_cons_succ, Option.bind_some, Option.map_some, Nat.reduceAdd, Nat.reduceSub, fAdd_int, fSub_int, fNeg_int, gGcd_int, fGt_int, fLt_int, fLe_int, fTup2]; rfl, by simp only [eC, eVar, eVar2, eBin, eBin2, eBin3, eUn, eUn2, eNil, eCons, eCons2, eCons3, eFn, eFn2, eTst, eTst2, eIf, eIf_t, eIf_f, eAnd, eAnd_t, eAnd_f, eOr, eOr_t, eOr_f, eNot, eNot2, eCall, eCall2, eCallC, eSl, eSl2, eSl3, eSl4, eNo, ePart, ePart2, sNil_, sSeq_, sBrk_, sCnt_, sDrop_, sDrop2, sDropE, sRet_, sRet2, sRetE, sRetN_, sIf_, sIf_t, sIf_f, sSet_, sSet2, sSetE, setT_nm, setTs_nil, setTs_cons, optS_some, sPar2_, sPar22, sFor_, sFor2, cIter_, cIter_t, cIter_l, cIter_s, cItL_, cItL2, sRaise_, runF_, endR_nx, endR_rt, endR_err, opt_some, seq_nx, seq_rt, seq_bk, seq_ct, seq_err, startE, List.map_cons, List.map_nil, List.length_cons, List.length_nil, List.replicate_succ, List.replicate_zero, List.cons_append, List.nil_append, List.append_nil, List.getElem?_cons_zero, List.getElem?_cons_succ, List.set_cons_zero, List.set_cons_succ, Option.bind_some, Option.map_some, Nat.reduceAdd, Nat.reduceSub, fAdd_int, fSub_int, fNeg_int, gGcd_int, fGt_int, fLt_int, fLe_int, fTup2]; rfl⟩) hl
/-- one turn -/
theorem same_step {d : D} {a0 a1 e3 e4 e5 e6 : Sl} (hd : plain d = true) (hz : szs st + sz d ≤ 1000) : ∃ e3' e4' e5' st', bSame [a0, a1, .val (.ref M.length), e3, e4, e5, e6, .none, .none] (M ++ [.lst ((st ++ [d]).map pr2)]) = .nx [a0, a1, .val (.ref M.length), e3', e4', e5', e6, .none, .none] (M ++ [.lst ((st ++ st').map pr2)]) ∧
    szs st' + 1 = sz d ∧ plains st' = true ∧ dpts st' ≤ dpt d := by
  have hp := pop_stack (M := M) (st := st) (d := d)
  cases d with
  | int i =>
    refine ⟨.val (.int i), .val (.int i), e5, [], ?_, rfl, rfl, Nat.zero_le _⟩
    unfold bSame
    simp only [eC, eVar, eVar2, eBin, eBin2, eBin3, eUn, eUn2, eNil, eCons, eCons2, eCons3, eFn, eFn2, eTst, eTst2, eIf, eIf_t, eIf_f, eAnd, eAnd_t, eAnd_f, eOr, eOr_t, eOr_f, eNot, eNot2, eCall, eCall2, eCallC, eSl, eSl2, eSl3, eSl4, eNo, ePart, ePart2, sNil_, sSeq_, sBrk_, sCnt_, sDrop_, sDrop2, sDropE, sRet_, sRet2, sRetE, sRetN_, sIf_, sIf_t, sIf_f, sSet_, sSet2, sSetE, setT_nm, setTs_nil, setTs_cons, optS_some, sPar2_, sPar22, sFor_, sFor2, cIter_, cIter_t, cIter_l, cIter_s, cItL_, cItL2, sRaise_, runF_, endR_nx, endR_rt, endR_err, opt_some, seq_nx, seq_rt, seq_bk, seq_ct, seq_err, startE, List.map_cons, List.map_nil, List.length_cons, List.length_nil, List.replicate_succ, List.replicate_zero, List.cons_append, List.nil_append, List.append_nil, List.getElem?_cons_zero, List.getElem?_cons_succ, List.set_cons_zero, List.set_cons_succ, Option.bind_some, Option.map_some, Nat.reduceAdd, Nat.reduceSub, fAdd_int, fSub_int, fNeg_int, gGcd_int, fGt_int, fLt_int, fLe_int, fTup2, eM, eM2 end_ty, eM3, hp, optM_some, pr2, setT_t, fIs_non hd, isi_int_bool, isi_int_is, isi_int_int, fTup_is, fNe_bl, fNe_int, decide_true, Bool.not_true, BEq.rfl]
  | tup ds =>
    have hpl : plains ds = true := by rw [plain] at hd; exact hd
    have hl := len_szs ds
    have hl2 := len_szs st
    have hz2 : szs st + (1 + szs ds) ≤ 1000 := by rw [sz] at hz; exact hz
    obtain ⟨i1, i2, i3, i4, i5, i6, i7, i8⟩ := isi_seq (M := M ++ [.lst (st.map pr2)]) (ds := ds)
    refine ⟨.val (.tup ds), .val (.tup ds), .val (.lst [.bl true, .bl false]), ds, ?_, by rw [sz]; omega, hpl, by rw [dpt]; omega⟩
    unfold bSame
    simp only [eC, eVar, eVar2, eBin, eBin2, eBin3, eUn, eUn2, eNil, eCons, eCons2, eCons3, eFn, eFn2, eTst, eTst2, eIf, eIf_t, eIf_f, eAnd, eAnd_t, eAnd_f, eOr, eOr_t, eOr_f, eNot, eNot2, eCall, eCall2, eCallC, eSl, eSl2, eSl3, eSl4, eNo, ePart, ePart2, sNil_, sSeq_, sBrk_, sCnt_, sDrop_, sDrop2, sDropE, sRet_, sRet2, sRetE, sRetN_, sIf_, sIf_t, sIf_f, sSet_, sSet2, sSetE, setT_nm, setTs_nil, setTs_cons, optS_some, sPar2_, sPar22, sFor_, sFor2, cIter_, cIter_t, cIter_l, cIter_s, cItL_, cItL2, sRaise_, runF_, endR_nx, endR_rt, endR_err, opt_some, seq_nx, seq_rt, seq_bk, seq_ct, seq_err, startE, List.map_cons, List.map_nil, List.length_cons, List.length_nil, List.replicate_succ, List.replicate_zero, List.cons_append, List.nil_append, List.append_nil, List.getElem?_cons_zero, List.getElem?_cons_succ, List.set_cons_zero, List.set_cons_succ, Option.bind_some, Option.map_some, Nat.reduceAdd, Nat.reduceSub, fAdd_int, fSub_int, fNeg_int, gGcd_int, fGt_int, fLt_int, fLe_int, fTup2, eM, eM2 end_ty, eM3, hp, optM_some, show pr2 (.tup ds) = .tup [.tup ds, .tup ds] from rfl, setT_t, fIs_non hd, i1, i2, i3, i4, i5, i6, i7, i8, isi_tup_tup, isi_lst_tup, fTup_is, fLst2, fNotIn_tf, fNotIn_ft, gLen_tup, gLen_lst, fNe_int, decide_true, Bool.not_true, eLc, eLc2, eLc3, wipe_nil, wipe_cons, zip_tt, zip_ll, lc_same depOk_nil (show ds.length ≤ 1000 by omega), ext_stack hpl (show st.length + ds.length ≤ 1000 by omega)]
  | lst ds =>
    have hpl : plains ds = true := by rw [plain] at hd; exact hd
    have hl := len_szs ds
    have hl2 := len_szs st
    have hz2 : szs st + (1 + szs ds) ≤ 1000 := by rw [sz] at hz; exact hz
    obtain ⟨i1, i2, i3, i4, i5, i6, i7, i8⟩ := isi_seq (M := M ++ [.lst (st.map pr2)]) (ds := ds)
    refine ⟨.val (.lst ds), .val (.lst ds), .val (.lst [.bl false, .bl true]), ds, ?_, by rw [sz]; omega, hpl, by rw [dpt]; omega⟩
    unfold bSame
    simp only [eC, eVar, eVar2, eBin, eBin2, eBin3, eUn, eUn2, eNil, eCons, eCons2, eCons3, eFn, eFn2, eTst, eTst2, eIf, eIf_t, eIf_f, eAnd, eAnd_t, eAnd_f, eOr, eOr_t, eOr_f, eNot, eNot2, eCall, eCall2, eCallC, eSl, eSl2, eSl3, eSl4, eNo, ePart, ePart2, sNil_, sSeq_, sBrk_, sCnt_, sDrop_, sDrop2, sDropE, sRet_, sRet2, sRetE, sRetN_, sIf_, sIf_t, sIf_f, sSet_, sSet2, sSetE, setT_nm, setTs_nil, setTs_cons, optS_some, sPar2_, sPar22, sFor_, sFor2, cIter_, cIter_t, cIter_l, cIter_s, cItL_, cItL2, sRaise_, runF_, endR_nx, endR_rt, endR_err, opt_some, seq_nx, seq_rt, seq_bk, seq_ct, seq_err, startE, List.map_cons, List.map_nil, List.length_cons, List.length_nil, List.replicate_succ, List.replicate_zero, List.cons_append, List.nil_append, List.append_nil, List.getElem?_cons_zero, List.getElem?_cons_succ, List.set_cons_zero, List.set_cons_succ, Option.bind_some, Option.map_some, Nat.reduceAdd, Nat.reduceSub, fAdd_int, fSub_int, fNeg_int, gGcd_int, fGt_int, fLt_int, fLe_int, fTup2, eM, eM2 end_ty, eM3, hp, optM_some, show pr2 (.lst ds) = .tup [.lst ds, .lst ds] from rfl, setT_t, fIs_non hd, i1, i2, i3, i4, i5, i6, i7, i8, isi_tup_tup, isi_lst_tup, fTup_is, fLst2, fNotIn_tf, fNotIn_ft, gLen_tup, gLen_lst, fNe_int, decide_true, Bool.not_true, eLc, eLc2, eLc3, wipe_nil, wipe_cons, zip_tt, zip_ll, lc_same depOk_nil (show ds.length ≤ 1000 by omega), ext_stack hpl (show st.length + ds.length ≤ 1000 by omega)]
  | _ => simp [plain] at hd
theorem same_loop {a0 a1 e6 : Sl} : ∀ (n : Nat) (st : List D) (e3 e4 e5 : Sl), szs st ≤ n → szs st ≤ 1000 → plains st = true → dpts st ≤ 50 →
    ∃ e3' e4' e5', sWhile (cBin fNe (cVar 2) (cFn fLst cNil)) bSame [a0, a1, .val (.ref M.length), e3, e4, e5, e6, .none, .none] (M ++ [.lst (st.map pr2)]) = .nx [a0, a1, .val (.ref M.length), e3', e4', e5', e6, .none, .none] (M ++ [.lst []]) := by
  intro n
  induction n with
  | zero =>
    intro st e3 e4 e5 hn _ _ _
    have : st = [] := List.length_eq_zero_iff.mp (by have := len_szs st; omega)
    subst this
    refine ⟨e3, e4, e5, ?_⟩
    have hc : fNe (M ++ [.lst []]) (.ref M.length) (.lst []) = some (.bl false) := fNe_stack (M := M) (st := []) rfl (by decide)
    rw [sWhile_eq]
    simp only [eC, eVar, eVar2, eBin, eBin2, eBin3, eUn, eUn2, eNil, eCons, eCons2, eCons3, eFn, eFn2, eTst, eTst2, eIf, eIf_t, eIf_f, eAnd, eAnd_t, eAnd_f, eOr, eOr_t, eOr_f, eNot, eNot2, eCall, eCall2, eCallC, eSl, eSl2, eSl3, eSl4, eNo, ePart, ePart2, sNil_, sSeq_, sBrk_, sCnt_, sDrop_, sDrop2, sDropE, sRet_, sRet2, sRetE, sRetN_, sIf_, sIf_t, sIf_f, sSet_, sSet2, sSetE, setT_nm, setTs_nil, setTs_cons, optS_some, sPar2_, sPar22, sFor_, sFor2, cIter_, cIter_t, cIter_l, cIter_s, cItL_, cItL2, sRaise_, runF_, endR_nx, endR_rt, endR_err, opt_some, seq_nx, seq_rt, seq_bk, seq_ct, seq_err, startE, List.map_cons, List.map_nil, List.length_cons, List.length_nil, List.replicate_succ, List.replicate_zero, List.cons_append, List.nil_append, List.append_nil, List.getElem?_cons_zero, List.getElem?_cons_succ, List.set_cons_zero, List.set_cons_succ, Option.bind_some, Option.map_some, Nat.reduceAdd, Nat.reduceSub, fAdd_int, fSub_int, fNeg_int, gGcd_int, fGt_int, fLt_int, fLe_int, fTup2, fLst_0, hc, thenS_ok]
    rfl
  | succ n ih =>
    intro st e3 e4 e5 hn hn2 hp hd
    have hc := fNe_stack (M := M) hp hd
    rcases List.eq_nil_or_concat st with rfl | ⟨st', d, rfl⟩
    · refine ⟨e3, e4, e5, ?_⟩
      have hc : fNe (M ++ [.lst []]) (.ref M.length) (.lst []) = some (.bl false) := fNe_stack (M := M) (st := []) rfl (by decide)
      rw [sWhile_eq]
      simp only [eC, eVar, eVar2, eBin, eBin2, eBin3, eUn, eUn2, eNil, eCons, eCons2, eCons3, eFn, eFn2, eTst, eTst2, eIf, eIf_t, eIf_f, eAnd, eAnd_t, eAnd_f, eOr, eOr_t, eOr_f, eNot, eNot2, eCall, eCall2, eCallC, eSl, eSl2, eSl3, eSl4, eNo, ePart, ePart2, sNil_, sSeq_, sBrk_, sCnt_, sDrop_, sDrop2, sDropE, sRet_, sRet2, sRetE, sRetN_, sIf_, sIf_t, sIf_f, sSet_, sSet2, sSetE, setT_nm, setTs_nil, setTs_cons, optS_some, sPar2_, sPar22, sFor_, sFor2, cIter_, cIter_t, cIter_l, cIter_s, cItL_, cItL2, sRaise_, runF_, endR_nx, endR_rt, endR_err, opt_some, seq_nx, seq_rt, seq_bk, seq_ct, seq_err, startE, List.map_cons, List.map_nil, List.length_cons, List.length_nil, List.replicate_succ, List.replicate_zero, List.cons_append, List.nil_append, List.append_nil, List.getElem?_cons_zero, List.getElem?_cons_succ, List.set_cons_zero, List.set_cons_succ, Option.bind_some, Option.map_some, Nat.reduceAdd, Nat.reduceSub, fAdd_int, fSub_int, fNeg_int, gGcd_int, fGt_int, fLt_int, fLe_int, fTup2, fLst_0, hc, thenS_ok]
      rfl
    · rw [List.concat_eq_append] at *
      rw [szs_app, szs, szs, Nat.add_zero] at hn hn2
      rw [plains_app, Bool.and_eq_true, plains, plains, Bool.and_true] at hp
      rw [dpts_app, dpts, dpts] at hd
      obtain ⟨f3, f4, f5, st2, e, g1, g2, g3⟩ := same_step (M := M) (st := st') (d := d) (a0 := a0) (a1 := a1) (e3 := e3) (e4 := e4) (e5 := e5) (e6 := e6) hp.2 hn2
      obtain ⟨h3, h4, h5, e'⟩ := ih (st' ++ st2) f3 f4 f5 (by rw [szs_app]; omega) (by rw [szs_app]; omega) (by rw [plains_app, hp.1, g2]; rfl) (by rw [dpts_app]; omega)
      refine ⟨h3, h4, h5, ?_⟩
      rw [sWhile_eq]
      have ne : (st' ++ [d]).isEmpty = false := by cases st' <;> rfl
      simp only [eC, eVar, eVar2, eBin, eBin2, eBin3, eUn, eUn2, eNil, eCons, eCons2, eCons3, eFn, eFn2, eTst, eTst2, eIf, eIf_t, eIf_f, eAnd, eAnd_t, eAnd_f, eOr, eOr_t, eOr_f, eNot, eNot2, eCall, eCall2, eCallC, eSl, eSl2, eSl3, eSl4, eNo, ePart, ePart2, sNil_, sSeq_, sBrk_, sCnt_, sDrop_, sDrop2, sDropE, sRet_, sRet2, sRetE, sRetN_, sIf_, sIf_t, sIf_f, sSet_, sSet2, sSetE, setT_nm, setTs_nil, setTs_cons, optS_some, sPar2_, sPar22, sFor_, sFor2, cIter_, cIter_t, cIter_l, cIter_s, cItL_, cItL2, sRaise_, runF_, endR_nx, endR_rt, endR_err, opt_some, seq_nx, seq_rt, seq_bk, seq_ct, seq_err, startE, List.map_cons, List.map_nil, List.length_cons, List.length_nil, List.replicate_succ, List.replicate_zero, List.cons_append, List.nil_append, List.append_nil, List.getElem?_cons_zero, List.getElem?_cons_succ, List.set_cons_zero, List.set_cons_succ, Option.bind_some, Option.map_some, Nat.reduceAdd, Nat.reduceSub, fAdd_int, fSub_int, fNeg_int, gGcd_int, fGt_int, fLt_int, fLe_int, fTup2, fLst_0, hc, ne, Bool.not_false, thenS_ok]
      rw [if_pos trivial, e, turn_nx, e']
theorem eLstM1 {env : En} {a : EvE} {x : D} (h : a env M = .ok x M) (hb : below M.length x = true) : cLstM (cCons a cNil) env M = .ok (.ref M.length) (M ++ [.lst [x]]) := by
  unfold cLstM
  rw [eCons, h, eCons2, eNil, eCons3, Res.bind_ok]
  have h2 : 1000 ≤ sizeLine := by decide +kernel
  have h : (([x] : List D).length ≤ sizeLine ∧ belows M.length [x] = true) := ⟨by show 1 ≤ _; omega, by rw [belows, hb]; rfl⟩
  exact if_pos h
/-- what is alike is told alike -/
theorem r_same {d : D} (hp : plain d = true) (hz : sz d ≤ 1000) (hd : dpt d ≤ 50) : f__law_same [d, d] M = .ok (.bl true) M := by
  obtain ⟨e3, e4, e5, e⟩ := same_loop (M := M) (a0 := .val d) (a1 := .val d) (e6 := .none) (szs [d]) [d] .none .none .none (Nat.le_refl _) (by rw [szs, szs]; omega) (by rw [plains, hp]; rfl) (by rw [dpts, dpts]; omega)
  have e : sWhile (cBin fNe (cVar 2) (cFn fLst cNil)) bSame [.val d, .val d, .val (.ref M.length), .none, .none, .none, .none, .none, .none] (M ++ [.lst [.tup [d, d]]]) = _ := e
  unfold bSame at e
  have h1 := eLstM1 (M := M) (env := [.val d, .val d, .none, .none, .none, .none, .none, .none, .none]) (a := cFn fTup (cCons (cVar 0) (cCons (cVar 1) cNil))) (x := .tup [d, d]) (by simp only [eC, eVar, eVar2, eBin, eBin2, eBin3, eUn, eUn2, eNil, eCons, eCons2, eCons3, eFn, eFn2, eTst, eTst2, eIf, eIf_t, eIf_f, eAnd, eAnd_t, eAnd_f, eOr, eOr_t, eOr_f, eNot, eNot2, eCall, eCall2, eCallC, eSl, eSl2, eSl3, eSl4, eNo, ePart, ePart2, sNil_, sSeq_, sBrk_, sCnt_, sDrop_, sDrop2, sDropE, sRet_, sRet2, sRetE, sRetN_, sIf_, sIf_t, sIf_f, sSet_, sSet2, sSetE, setT_nm, setTs_nil, setTs_cons, optS_some, sPar2_, sPar22, sFor_, sFor2, cIter_, cIter_t, cIter_l, cIter_s, cItL_, cItL2, sRaise_, runF_, endR_nx, endR_rt, endR_err, opt_some, seq_nx, seq_rt, seq_bk, seq_ct, seq_err, startE, List.map_cons, List.map_nil, List.length_cons, List.length_nil, List.replicate_succ, List.replicate_zero, List.cons_append, List.nil_append, List.append_nil, List.getElem?_cons_zero, List.getElem?_cons_succ, List.set_cons_zero, List.set_cons_succ, Option.bind_some, Option.map_some, Nat.reduceAdd, Nat.reduceSub, fAdd_int, fSub_int, fNeg_int, gGcd_int, fGt_int, fLt_int, fLe_int, fTup2]) (by rw [below, belows, belows, belows, bel_plain d hp]; rfl)
  unfold f__law_same b__law_same
  rw [runT_]
  simp only [eC, eVar, eVar2, eBin, eBin2, eBin3, eUn, eUn2, eNil, eCons, eCons2, eCons3, eFn, eFn2, eTst, eTst2, eIf, eIf_t, eIf_f, eAnd, eAnd_t, eAnd_f, eOr, eOr_t, eOr_f, eNot, eNot2, eCall, eCall2, eCallC, eSl, eSl2, eSl3, eSl4, eNo, ePart, ePart2, sNil_, sSeq_, sBrk_, sCnt_, sDrop_, sDrop2, sDropE, sRet_, sRet2, sRetE, sRetN_, sIf_, sIf_t, sIf_f, sSet_, sSet2, sSetE, setT_nm, setTs_nil, setTs_cons, optS_some, sPar2_, sPar22, sFor_, sFor2, cIter_, cIter_t, cIter_l, cIter_s, cItL_, cItL2, sRaise_, runF_, endR_nx, endR_rt, endR_err, opt_some, seq_nx, seq_rt, seq_bk, seq_ct, seq_err, startE, List.map_cons, List.map_nil, List.length_cons, List.length_nil, List.replicate_succ, List.replicate_zero, List.cons_append, List.nil_append, List.append_nil, List.getElem?_cons_zero, List.getElem?_cons_succ, List.set_cons_zero, List.set_cons_succ, Option.bind_some, Option.map_some, Nat.reduceAdd, Nat.reduceSub, fAdd_int, fSub_int, fNeg_int, gGcd_int, fGt_int, fLt_int, fLe_int, fTup2, h1, e, finR_ok (show below M.length (.bl true) = true from rfl), end_take]
end
end K00


set_option Elab.async false
set_option linter.all false
set_option maxRecDepth 100000
set_option maxHeartbeats 4000000
namespace K00
open PySem PySem.Spec PyProof.Rows L2 DI
section
variable {m n : Nat} {a b : Rat} {M : Mem}
theorem r_plusK (ha : Sq m a) (hb : Sq n b) (hk : m + n ≤ 8990) : f_plus [qd a, qd b] M = .ok (qd (a + b)) M := by
  unfold f_plus b_plus
  have h : Rat.divInt (a.num * b.den + b.num * a.den) (a.den * b.den) = a + b := by
    conv => rhs; rw [← Rat.num_divInt_den a, ← Rat.num_divInt_den b, Rat.divInt_add_divInt _ _ (den_ne a) (den_ne b)]
  unfold qd
  simp only [eC, eVar, eVar2, eBin, eBin2, eBin3, eUn, eUn2, eNil, eCons, eCons2, eCons3, eFn, eFn2, eTst, eTst2, eIf, eIf_t, eIf_f, eAnd, eAnd_t, eAnd_f, eOr, eOr_t, eOr_f, eNot, eNot2, eCall, eCall2, eCallC, eSl, eSl2, eSl3, eSl4, eNo, ePart, ePart2, sNil_, sSeq_, sBrk_, sCnt_, sDrop_, sDrop2, sDropE, sRet_, sRet2, sRetE, sRetN_, sIf_, sIf_t, sIf_f, sSet_, sSet2, sSetE, setT_nm, setTs_nil, setTs_cons, optS_some, sPar2_, sPar22, sFor_, sFor2, cIter_, cIter_t, cIter_l, cIter_s, cItL_, cItL2, sRaise_, runF_, endR_nx, endR_rt, endR_err, opt_some, seq_nx, seq_rt, seq_bk, seq_ct, seq_err, startE, List.map_cons, List.map_nil, List.length_cons, List.length_nil, List.replicate_succ, List.replicate_zero, List.cons_append, List.nil_append, List.append_nil, List.getElem?_cons_zero, List.getElem?_cons_succ, List.set_cons_zero, List.set_cons_succ, Option.bind_some, Option.map_some, Nat.reduceAdd, Nat.reduceSub, fAdd_int, fSub_int, fNeg_int, gGcd_int, fGt_int, fLt_int, fLe_int, fTup2, fIx_0, fIx_1, fMul_int (mulOk ha.n hb.d (by omega)), fMul_int (mulOk hb.n ha.d (by omega)), fMul_int (mulOk ha.d hb.d (by omega)), r_lowest (Int.mul_ne_zero (den_ne a) (den_ne b)) ((ha.d.mul hb.d).mono (by omega)), h]
  rfl
theorem r__law_plusK (ha : Sq m a) (hb : Sq n b) (hk : m + n ≤ 8990) : f__law_plus [qd a, qd b] M = .ok (qd (a + b)) M := by
  unfold f__law_plus b__law_plus
  have h : Rat.divInt (a.num * b.den + b.num * a.den) (a.den * b.den) = a + b := by
    conv => rhs; rw [← Rat.num_divInt_den a, ← Rat.num_divInt_den b, Rat.divInt_add_divInt _ _ (den_ne a) (den_ne b)]
  unfold qd
  simp only [eC, eVar, eVar2, eBin, eBin2, eBin3, eUn, eUn2, eNil, eCons, eCons2, eCons3, eFn, eFn2, eTst, eTst2, eIf, eIf_t, eIf_f, eAnd, eAnd_t, eAnd_f, eOr, eOr_t, eOr_f, eNot, eNot2, eCall, eCall2, eCallC, eSl, eSl2, eSl3, eSl4, eNo, ePart, ePart2, sNil_, sSeq_, sBrk_, sCnt_, sDrop_, sDrop2, sDropE, sRet_, sRet2, sRetE, sRetN_, sIf_, sIf_t, sIf_f, sSet_, sSet2, sSetE, setT_nm, setTs_nil, setTs_cons, optS_some, sPar2_, sPar22, sFor_, sFor2, cIter_, cIter_t, cIter_l, cIter_s, cItL_, cItL2, sRaise_, runF_, endR_nx, endR_rt, endR_err, opt_some, seq_nx, seq_rt, seq_bk, seq_ct, seq_err, startE, List.map_cons, List.map_nil, List.length_cons, List.length_nil, List.replicate_succ, List.replicate_zero, List.cons_append, List.nil_append, List.append_nil, List.getElem?_cons_zero, List.getElem?_cons_succ, List.set_cons_zero, List.set_cons_succ, Option.bind_some, Option.map_some, Nat.reduceAdd, Nat.reduceSub, fAdd_int, fSub_int, fNeg_int, gGcd_int, fGt_int, fLt_int, fLe_int, fTup2, fIx_0, fIx_1, fMul_int (mulOk ha.n hb.d (by omega)), fMul_int (mulOk hb.n ha.d (by omega)), fMul_int (mulOk ha.d hb.d (by omega)), r__law_q (Int.mul_ne_zero (den_ne a) (den_ne b)) ((ha.d.mul hb.d).mono (by omega)), h]
  rfl
theorem Sq.addK (ha : Sq m a) (hb : Sq n b) : Sq (m + n + 1) (a + b) := by
  have h : Rat.divInt (a.num * b.den + b.num * a.den) (a.den * b.den) = a + b := by
    conv => rhs; rw [← Rat.num_divInt_den a, ← Rat.num_divInt_den b, Rat.divInt_add_divInt _ _ (den_ne a) (den_ne b)]
  rw [← h]
  refine Sq.divInt ?_ ((ha.d.mul hb.d).mono (by omega)) (Int.mul_ne_zero (den_ne a) (den_ne b))
  exact (ha.n.mul hb.d).add ((hb.n.mul ha.d).mono (by omega))
theorem Sq.mulK (ha : Sq m a) (hb : Sq n b) : Sq (m + n) (a * b) := by
  have h : Rat.divInt (a.num * b.num) (a.den * b.den) = a * b := by
    conv => rhs; rw [← Rat.num_divInt_den a, ← Rat.num_divInt_den b, Rat.divInt_mul_divInt]
  rw [← h]
  exact Sq.divInt (ha.n.mul hb.n) (ha.d.mul hb.d) (Int.mul_ne_zero (den_ne a) (den_ne b))
theorem sq_zero : Sq 1 0 := ⟨show (0 : Nat) < 2 ^ 1 by decide, show (1 : Nat) < 2 ^ 1 by decide⟩
theorem forL_sumK {F : FnD} {M : Mem} (hF : ∀ a b, Sq 8500 a → Sq 40 b → F [qd a, qd b] M = .ok (qd (a + b)) M) {it : ItD} (hM : DepOk it M) {l : Sl} : ∀ (rs : List Rat) (a : Rat) (s : Sl) (k : Nat), Sq k a → (∀ r ∈ rs, Sq 40 r) → k + 41 * rs.length ≤ 8500 →
    ∃ s', forL it (.nm 2) (sSet (.nm 1) (cCall F (cCons (cVar 1) (cCons (cVar 2) cNil)))) (rs.map qd) [l, .val (qd a), s] M = .nx [l, .val (qd (a + rsum rs)), s'] M
  | [], a, s, _, _, _, _ => ⟨s, by rw [List.map_nil, forL_nil hM, show a + rsum [] = a from Rat.add_zero a]⟩
  | r :: rs, a, s, k, h1, h2, h3 => by
    rw [List.length_cons] at h3
    have h0 := h2 r List.mem_cons_self
    obtain ⟨s', e⟩ := forL_sumK (l := l) hF hM rs (a + r) (.val (qd r)) (k + 40 + 1) (h1.addK h0) (fun x hx => h2 x (List.mem_cons_of_mem _ hx)) (by omega)
    refine ⟨s', ?_⟩
    rw [List.map_cons, forL_cons hM]
    simp only [eC, eVar, eVar2, eBin, eBin2, eBin3, eUn, eUn2, eNil, eCons, eCons2, eCons3, eFn, eFn2, eTst, eTst2, eIf, eIf_t, eIf_f, eAnd, eAnd_t, eAnd_f, eOr, eOr_t, eOr_f, eNot, eNot2, eCall, eCall2, eCallC, eSl, eSl2, eSl3, eSl4, eNo, ePart, ePart2, sNil_, sSeq_, sBrk_, sCnt_, sDrop_, sDrop2, sDropE, sRet_, sRet2, sRetE, sRetN_, sIf_, sIf_t, sIf_f, sSet_, sSet2, sSetE, setT_nm, setTs_nil, setTs_cons, optS_some, sPar2_, sPar22, sFor_, sFor2, cIter_, cIter_t, cIter_l, cIter_s, cItL_, cItL2, sRaise_, runF_, endR_nx, endR_rt, endR_err, opt_some, seq_nx, seq_rt, seq_bk, seq_ct, seq_err, startE, List.map_cons, List.map_nil, List.length_cons, List.length_nil, List.replicate_succ, List.replicate_zero, List.cons_append, List.nil_append, List.append_nil, List.getElem?_cons_zero, List.getElem?_cons_succ, List.set_cons_zero, List.set_cons_succ, Option.bind_some, Option.map_some, Nat.reduceAdd, Nat.reduceSub, fAdd_int, fSub_int, fNeg_int, gGcd_int, fGt_int, fLt_int, fLe_int, fTup2, hF a r (h1.mono (by omega)) h0]
    rw [turn_nx, e, show a + rsum (r :: rs) = a + r + rsum rs by rw [Rat.add_assoc]; rfl]
theorem r_totalK {rs : List Rat} {M : Mem} (h : ∀ r ∈ rs, Sq 40 r) (hl : rs.length ≤ 205) : f_total [.lst (rs.map qd)] M = .ok (qd (rsum rs)) M := by
  unfold f_total b_total
  obtain ⟨s', e⟩ := forL_sumK (F := f_plus) (M := M) (fun a b ha hb => r_plusK ha hb (by decide)) (it := ⟨rs.map qd, []⟩) depOk_nil (l := .val (.lst (rs.map qd))) rs 0 .none 1 sq_zero h (by omega)
  have e : forL _ _ _ (rs.map qd) [.val (.lst (rs.map qd)), .val d_ZERO, .none] M = _ := e
  simp only [eC, eVar, eVar2, eBin, eBin2, eBin3, eUn, eUn2, eNil, eCons, eCons2, eCons3, eFn, eFn2, eTst, eTst2, eIf, eIf_t, eIf_f, eAnd, eAnd_t, eAnd_f, eOr, eOr_t, eOr_f, eNot, eNot2, eCall, eCall2, eCallC, eSl, eSl2, eSl3, eSl4, eNo, ePart, ePart2, sNil_, sSeq_, sBrk_, sCnt_, sDrop_, sDrop2, sDropE, sRet_, sRet2, sRetE, sRetN_, sIf_, sIf_t, sIf_f, sSet_, sSet2, sSetE, setT_nm, setTs_nil, setTs_cons, optS_some, sPar2_, sPar22, sFor_, sFor2, cIter_, cIter_t, cIter_l, cIter_s, cItL_, cItL2, sRaise_, runF_, endR_nx, endR_rt, endR_err, opt_some, seq_nx, seq_rt, seq_bk, seq_ct, seq_err, startE, List.map_cons, List.map_nil, List.length_cons, List.length_nil, List.replicate_succ, List.replicate_zero, List.cons_append, List.nil_append, List.append_nil, List.getElem?_cons_zero, List.getElem?_cons_succ, List.set_cons_zero, List.set_cons_succ, Option.bind_some, Option.map_some, Nat.reduceAdd, Nat.reduceSub, fAdd_int, fSub_int, fNeg_int, gGcd_int, fGt_int, fLt_int, fLe_int, fTup2, e]
  rw [Rat.zero_add]
theorem r__law_sumK {rs : List Rat} {M : Mem} (h : ∀ r ∈ rs, Sq 40 r) (hl : rs.length ≤ 205) : f__law_sum [.lst (rs.map qd)] M = .ok (qd (rsum rs)) M := by
  unfold f__law_sum b__law_sum
  obtain ⟨s', e⟩ := forL_sumK (F := f__law_plus) (M := M) (fun a b ha hb => r__law_plusK ha hb (by decide)) (it := ⟨rs.map qd, []⟩) depOk_nil (l := .val (.lst (rs.map qd))) rs 0 .none 1 sq_zero h (by omega)
  have e : forL _ _ _ (rs.map qd) [.val (.lst (rs.map qd)), .val (.tup [.int 0, .int 1]), .none] M = _ := e
  have hz : fTup M [.int 0, .int 1] = some (.tup [.int 0, .int 1]) := rfl
  simp only [eC, eVar, eVar2, eBin, eBin2, eBin3, eUn, eUn2, eNil, eCons, eCons2, eCons3, eFn, eFn2, eTst, eTst2, eIf, eIf_t, eIf_f, eAnd, eAnd_t, eAnd_f, eOr, eOr_t, eOr_f, eNot, eNot2, eCall, eCall2, eCallC, eSl, eSl2, eSl3, eSl4, eNo, ePart, ePart2, sNil_, sSeq_, sBrk_, sCnt_, sDrop_, sDrop2, sDropE, sRet_, sRet2, sRetE, sRetN_, sIf_, sIf_t, sIf_f, sSet_, sSet2, sSetE, setT_nm, setTs_nil, setTs_cons, optS_some, sPar2_, sPar22, sFor_, sFor2, cIter_, cIter_t, cIter_l, cIter_s, cItL_, cItL2, sRaise_, runF_, endR_nx, endR_rt, endR_err, opt_some, seq_nx, seq_rt, seq_bk, seq_ct, seq_err, startE, List.map_cons, List.map_nil, List.length_cons, List.length_nil, List.replicate_succ, List.replicate_zero, List.cons_append, List.nil_append, List.append_nil, List.getElem?_cons_zero, List.getElem?_cons_succ, List.set_cons_zero, List.set_cons_succ, Option.bind_some, Option.map_some, Nat.reduceAdd, Nat.reduceSub, fAdd_int, fSub_int, fNeg_int, gGcd_int, fGt_int, fLt_int, fLe_int, fTup2, hz, e]
  rw [Rat.zero_add]
theorem rsum_sq : ∀ (rs : List Rat), (∀ r ∈ rs, Sq 40 r) → Sq (1 + 41 * rs.length) (rsum rs)
  | [], _ => sq_zero
  | r :: rs, h => by
    have := (h r List.mem_cons_self).addK (rsum_sq rs fun x hx => h x (List.mem_cons_of_mem _ hx))
    exact this.mono (by rw [List.length_cons]; omega)
end
/-- n and d at most m -/
structure Sz (m : Nat) (r : Rat) : Prop where
  n : r.num.natAbs ≤ m
  d : r.den ≤ m
theorem Sz.sq {m k : Nat} {r : Rat} (h : Sz m r) (hk : m < 2 ^ k) : Sq k r := ⟨Nat.lt_of_le_of_lt h.n hk, by unfold Sm; rw [Int.natAbs_natCast]; exact Nat.lt_of_le_of_lt h.d hk⟩
theorem Sz.divInt {m : Nat} {n d : Int} (hn : n.natAbs ≤ m) (hd : d.natAbs ≤ m) (h0 : d ≠ 0) : Sz m (Rat.divInt n d) := by
  refine ⟨?_, ?_⟩
  · rw [Rat.num_divInt]
    have : (d.sign * n / (Int.gcd d n : Nat)).natAbs ≤ (d.sign * n).natAbs := Int.natAbs_ediv_le_natAbs _ _
    rw [Int.natAbs_mul, Int.natAbs_sign_of_ne_zero h0, Nat.one_mul] at this
    omega
  · rw [Rat.den_divInt, if_neg h0]
    have := Nat.div_le_self d.natAbs (Int.gcd d n)
    omega
theorem Sz.mono {a b : Nat} {r : Rat} (h : Sz a r) (l : a ≤ b) : Sz b r := ⟨Nat.le_trans h.n l, Nat.le_trans h.d l⟩
theorem sz_zero {m : Nat} (h : 1 ≤ m) : Sz m 0 := ⟨Nat.zero_le _, h⟩
/-- a drawn number -/
theorem r_numberK {s : Dr} {t : Nat} {R : Mem} {z : Nat} (h : s.Ok t) (ht : t + 4 < 2 ^ 39) (hz : 3 ≤ z) (hz2 : z ≤ 2000000) : ∃ (r : Rat) (s' : Dr), f__law_number [.ref 1, .int z] (mm s R) = .ok (qd r) (mm s' R) ∧ Sz z r ∧ s'.Ok (t + 4) := by
  obtain ⟨n, s1, e1, n0, n1, h1⟩ := r_draw (R := R) (room := (z : Int) + 1) h (by omega) (by omega) (by omega)
  obtain ⟨x, s2, e2, hx, h2⟩ := r_pick (R := R) (xs := [.int 1, .int 1, .int 3, .int z]) h1 (by omega) (by simp) (show 4 ≤ 1000 by decide)
  obtain ⟨m, rfl, m0, m1⟩ : ∃ m : Int, x = .int m ∧ 0 < m ∧ m ≤ z := by
    simp only [List.mem_cons, List.not_mem_nil, or_false] at hx
    rcases hx with rfl | rfl | rfl | rfl
    · exact ⟨1, rfl, by decide, by omega⟩
    · exact ⟨1, rfl, by decide, by omega⟩
    · exact ⟨3, rfl, by decide, by omega⟩
    · exact ⟨z, rfl, by omega, Int.le_refl _⟩
  obtain ⟨d, s3, e3, d0, d1, h3⟩ := r_draw (R := R) (room := m) h2 (by omega) m0 (by omega)
  obtain ⟨b, s4, e4, b0, b1, h4⟩ := r_draw (R := R) (room := 2) h3 (by omega) (by decide) (by decide)
  have hl : fLst (mm s1 R) [.int 1, .int 1, .int 3, .int z] = some (.lst [.int 1, .int 1, .int 3, .int z]) := fLst_le (show 4 ≤ 1000 by decide)
  have q1 : ∀ M : Mem, f__law_q [.int n, .int (1 + d)] M = .ok (qd (Rat.divInt n (1 + d))) M := fun M => r__law_q (by omega) (by
    unfold Sm
    have : (1 + d).natAbs < 2 ^ 22 := by omega
    exact Nat.lt_of_lt_of_le this (Nat.pow_le_pow_right (by decide) (by decide)))
  have q2 : ∀ M : Mem, f__law_q [.int (0 - n), .int (1 + d)] M = .ok (qd (Rat.divInt (0 - n) (1 + d))) M := fun M => r__law_q (by omega) (by
    unfold Sm
    have : (1 + d).natAbs < 2 ^ 22 := by omega
    exact Nat.lt_of_lt_of_le this (Nat.pow_le_pow_right (by decide) (by decide)))
  unfold f__law_number b__law_number
  by_cases hb : b = 0
  · subst hb
    refine ⟨Rat.divInt n (1 + d), s4, ?_, .divInt (by omega) (by omega) (by omega), h4⟩
    have := q1 (mm s4 R)
    simp only [eC, eVar, eVar2, eBin, eBin2, eBin3, eUn, eUn2, eNil, eCons, eCons2, eCons3, eFn, eFn2, eTst, eTst2, eIf, eIf_t, eIf_f, eAnd, eAnd_t, eAnd_f, eOr, eOr_t, eOr_f, eNot, eNot2, eCall, eCall2, eCallC, eSl, eSl2, eSl3, eSl4, eNo, ePart, ePart2, sNil_, sSeq_, sBrk_, sCnt_, sDrop_, sDrop2, sDropE, sRet_, sRet2, sRetE, sRetN_, sIf_, sIf_t, sIf_f, sSet_, sSet2, sSetE, setT_nm, setTs_nil, setTs_cons, optS_some, sPar2_, sPar22, sFor_, sFor2, cIter_, cIter_t, cIter_l, cIter_s, cItL_, cItL2, sRaise_, runF_, endR_nx, endR_rt, endR_err, opt_some, seq_nx, seq_rt, seq_bk, seq_ct, seq_err, startE, List.map_cons, List.map_nil, List.length_cons, List.length_nil, List.replicate_succ, List.replicate_zero, List.cons_append, List.nil_append, List.append_nil, List.getElem?_cons_zero, List.getElem?_cons_succ, List.set_cons_zero, List.set_cons_succ, Option.bind_some, Option.map_some, Nat.reduceAdd, Nat.reduceSub, fAdd_int, fSub_int, fNeg_int, gGcd_int, fGt_int, fLt_int, fLe_int, fTup2, e1, hl, e2, e3, e4, fEq_int, decide_true, this]
  · refine ⟨Rat.divInt (0 - n) (1 + d), s4, ?_, .divInt (by omega) (by omega) (by omega), h4⟩
    have := q2 (mm s4 R)
    simp only [eC, eVar, eVar2, eBin, eBin2, eBin3, eUn, eUn2, eNil, eCons, eCons2, eCons3, eFn, eFn2, eTst, eTst2, eIf, eIf_t, eIf_f, eAnd, eAnd_t, eAnd_f, eOr, eOr_t, eOr_f, eNot, eNot2, eCall, eCall2, eCallC, eSl, eSl2, eSl3, eSl4, eNo, ePart, ePart2, sNil_, sSeq_, sBrk_, sCnt_, sDrop_, sDrop2, sDropE, sRet_, sRet2, sRetE, sRetN_, sIf_, sIf_t, sIf_f, sSet_, sSet2, sSetE, setT_nm, setTs_nil, setTs_cons, optS_some, sPar2_, sPar22, sFor_, sFor2, cIter_, cIter_t, cIter_l, cIter_s, cItL_, cItL2, sRaise_, runF_, endR_nx, endR_rt, endR_err, opt_some, seq_nx, seq_rt, seq_bk, seq_ct, seq_err, startE, List.map_cons, List.map_nil, List.length_cons, List.length_nil, List.replicate_succ, List.replicate_zero, List.cons_append, List.nil_append, List.append_nil, List.getElem?_cons_zero, List.getElem?_cons_succ, List.set_cons_zero, List.set_cons_succ, Option.bind_some, Option.map_some, Nat.reduceAdd, Nat.reduceSub, fAdd_int, fSub_int, fNeg_int, gGcd_int, fGt_int, fLt_int, fLe_int, fTup2, e1, hl, e2, e3, e4, fEq_int, decide_eq_false hb, this]
end K00

set_option Elab.async false
set_option linter.all false
set_option maxRecDepth 100000
set_option maxHeartbeats 4000000
namespace K00
open PySem PySem.Spec PyProof.Rows L2 DI
/-- a comprehension that draws -/
theorem lcL_draw {it : ItD} (hit : it.deps = []) {t : Tgt} {e : EvE} {env : En} {R : Mem} {c : Nat} {P : D → Prop}
    (hs : ∀ (d : D) (s : Dr) (k : Nat), s.Ok k → k + c < 2 ^ 39 → ∃ env1 y s', setT (mm s R) t d env = some env1 ∧ e env1 (mm s R) = .ok y (mm s' R) ∧ P y ∧ s'.Ok (k + c)) :
    ∀ (ds : List D) (acc : List D) (s : Dr) (k : Nat), s.Ok k → k + c * ds.length < 2 ^ 39 → acc.length + ds.length ≤ 1000 → ∃ ys s', lcL it t cYes e env ds acc (mm s R) = .ok (acc ++ ys) (mm s' R) ∧ ys.length = ds.length ∧ (∀ y ∈ ys, P y) ∧ s'.Ok (k + c * ds.length)
  | [], acc, s, k, h, _, _ => ⟨[], s, by rw [lcL_nil (by unfold DepOk; rw [hit]; exact (fun p hp => nomatch hp)), List.append_nil], rfl, (fun y hy => nomatch hy), h⟩
  | d :: ds, acc, s, k, h, hk, hl => by
    rw [List.length_cons] at hk hl
    have hm : c * (ds.length + 1) = c * ds.length + c := Nat.mul_succ _ _
    obtain ⟨env1, y, s1, h1, h2, h3, h4⟩ := hs d s k h (by omega)
    obtain ⟨ys, s', e1, e2, e3, e4⟩ := lcL_draw hit hs ds (acc ++ [y]) s1 (k + c) h4 (by omega) (by rw [List.length_append, List.length_singleton]; omega)
    have hs : 1000 ≤ sizeLine := by decide +kernel
    refine ⟨y :: ys, s', ?_, by rw [List.length_cons, e2, List.length_cons], fun z hz => ?_, by rw [List.length_cons, hm]; exact (show k + (c * ds.length + c) = k + c + c * ds.length by omega) ▸ e4⟩
    · rw [lcL_yes (by unfold DepOk; rw [hit]; exact fun p hp => nomatch hp) h1 rfl h2 (by omega), e1, List.append_assoc]
      rfl
    · rcases List.mem_cons.mp hz with rfl | hz
      · exact h3
      · exact e3 z hz
theorem of_qds : ∀ (ys : List D) {P : Rat → Prop}, (∀ y ∈ ys, ∃ r, y = qd r ∧ P r) → ∃ l : List Rat, ys = l.map qd ∧ ∀ r ∈ l, P r
  | [], _, _ => ⟨[], rfl, (fun r hr => nomatch hr)⟩
  | y :: ys, P, h => by
    obtain ⟨r, rfl, hr⟩ := h y List.mem_cons_self
    obtain ⟨l, rfl, hl⟩ := of_qds ys (P := P) fun z hz => h z (List.mem_cons_of_mem _ hz)
    exact ⟨r :: l, rfl, fun x hx => by
      rcases List.mem_cons.mp hx with rfl | hx
      · exact hr
      · exact hl x hx⟩
theorem itR1_n {n : Nat} (h : n ≤ 900) {M : Mem} : opt (itR1 [.int (n : Int)]) M = .ok ⟨rangeD 0 n, []⟩ M := by
  have : itR1 [.int (n : Int)] = some ⟨rangeD 0 n, []⟩ := by
    rw [itR1_int (by omega) (by omega)]
    rfl
  rw [this]
  rfl
theorem gTuple_lst {M : Mem} {ds : List D} : gTuple M [.lst ds] = some (.tup ds) := rfl
theorem r_vector {s : Dr} {t : Nat} {R : Mem} {z n : Nat} (h : s.Ok t) (ht : t + 9 * n < 2 ^ 39) (hz : 3 ≤ z) (hz2 : z ≤ 2000000) (hn : n ≤ 200) : ∃ (l : List Rat) (s' : Dr), f__law_vector [.ref 1, .int n, .int z] (mm s R) = .ok (.tup (l.map qd)) (mm s' R) ∧ l.length = n ∧ (∀ r ∈ l, Sz z r) ∧ s'.Ok (t + 9 * n) := by
  obtain ⟨ys, s', e1, e2, e3, e4⟩ := lcL_draw (it := ⟨rangeD 0 n, []⟩) rfl (t := .nm 3) (R := R) (c := 9) (P := fun y => ∃ r, y = qd r ∧ Sz z r) (env := [.val (.ref 1), .val (.int n), .val (.int z), .none])
    (e := cCall f__law_pick (cCons (cVar 0) (cCons (cFn fLst (cCons (cFn fTup (cCons (cC (.int 0)) (cCons (cC (.int 1)) cNil))) (cCons (cCall f__law_number (cCons (cVar 0) (cCons (cVar 2) cNil))) (cCons (cCall f__law_number (cCons (cVar 0) (cCons (cVar 2) cNil))) cNil)))) cNil)))
    (fun d s k hk hb => by
      obtain ⟨r1, s1, a1, a2, a3⟩ := r_numberK (R := R) (z := z) hk (by omega) hz hz2
      obtain ⟨r2, s2, b1, b2, b3⟩ := r_numberK (R := R) (z := z) a3 (by omega) hz hz2
      obtain ⟨x, s3, c1, c2, c3⟩ := r_pick (R := R) (xs := [qd 0, qd r1, qd r2]) b3 (by omega) (by simp) (show 3 ≤ 1000 by decide)
      have hl : fLst (mm s2 R) [qd 0, qd r1, qd r2] = some (.lst [qd 0, qd r1, qd r2]) := fLst_le (show 3 ≤ 1000 by decide)
      have hz0 : fTup (mm s R) [.int 0, .int 1] = some (qd 0) := rfl
      refine ⟨_, x, s3, setT_nm, ?_, ?_, c3⟩
      · simp only [eC, eVar, eVar2, eBin, eBin2, eBin3, eUn, eUn2, eNil, eCons, eCons2, eCons3, eFn, eFn2, eTst, eTst2, eIf, eIf_t, eIf_f, eAnd, eAnd_t, eAnd_f, eOr, eOr_t, eOr_f, eNot, eNot2, eCall, eCall2, eCallC, eSl, eSl2, eSl3, eSl4, eNo, ePart, ePart2, sNil_, sSeq_, sBrk_, sCnt_, sDrop_, sDrop2, sDropE, sRet_, sRet2, sRetE, sRetN_, sIf_, sIf_t, sIf_f, sSet_, sSet2, sSetE, setT_nm, setTs_nil, setTs_cons, optS_some, sPar2_, sPar22, sFor_, sFor2, cIter_, cIter_t, cIter_l, cIter_s, cItL_, cItL2, sRaise_, runF_, endR_nx, endR_rt, endR_err, opt_some, seq_nx, seq_rt, seq_bk, seq_ct, seq_err, startE, List.map_cons, List.map_nil, List.length_cons, List.length_nil, List.replicate_succ, List.replicate_zero, List.cons_append, List.nil_append, List.append_nil, List.getElem?_cons_zero, List.getElem?_cons_succ, List.set_cons_zero, List.set_cons_succ, Option.bind_some, Option.map_some, Nat.reduceAdd, Nat.reduceSub, fAdd_int, fSub_int, fNeg_int, gGcd_int, fGt_int, fLt_int, fLe_int, fTup2, hz0, a1, b1, hl, c1]
      · simp only [List.mem_cons, List.not_mem_nil, or_false] at c2
        rcases c2 with rfl | rfl | rfl
        · exact ⟨0, rfl, sz_zero (by omega)⟩
        · exact ⟨r1, rfl, a2⟩
        · exact ⟨r2, rfl, b2⟩) (rangeD 0 n) [] s t h (by rw [rangeD_len]; omega) (by rw [rangeD_len, List.length_nil]; omega)
  rw [rangeD_len] at e2 e4
  obtain ⟨l, rfl, hl⟩ := of_qds ys e3
  rw [List.length_map] at e2
  refine ⟨l, s', ?_, e2, hl, e4⟩
  unfold f__law_vector b__law_vector
  have hT : gTuple (mm s' R) [.lst (l.map qd)] = some (.tup (l.map qd)) := gTuple_lst
  rw [List.nil_append] at e1
  simp only [eC, eVar, eVar2, eBin, eBin2, eBin3, eUn, eUn2, eNil, eCons, eCons2, eCons3, eFn, eFn2, eTst, eTst2, eIf, eIf_t, eIf_f, eAnd, eAnd_t, eAnd_f, eOr, eOr_t, eOr_f, eNot, eNot2, eCall, eCall2, eCallC, eSl, eSl2, eSl3, eSl4, eNo, ePart, ePart2, sNil_, sSeq_, sBrk_, sCnt_, sDrop_, sDrop2, sDropE, sRet_, sRet2, sRetE, sRetN_, sIf_, sIf_t, sIf_f, sSet_, sSet2, sSetE, setT_nm, setTs_nil, setTs_cons, optS_some, sPar2_, sPar22, sFor_, sFor2, cIter_, cIter_t, cIter_l, cIter_s, cItL_, cItL2, sRaise_, runF_, endR_nx, endR_rt, endR_err, opt_some, seq_nx, seq_rt, seq_bk, seq_ct, seq_err, startE, List.map_cons, List.map_nil, List.length_cons, List.length_nil, List.replicate_succ, List.replicate_zero, List.cons_append, List.nil_append, List.append_nil, List.getElem?_cons_zero, List.getElem?_cons_succ, List.set_cons_zero, List.set_cons_succ, Option.bind_some, Option.map_some, Nat.reduceAdd, Nat.reduceSub, fAdd_int, fSub_int, fNeg_int, gGcd_int, fGt_int, fLt_int, fLe_int, fTup2, itR1_n (show n ≤ 900 by omega), eLc, eLc2, eLc3, wipe_nil, wipe_cons, e1, hT]
end K00

set_option Elab.async false
set_option linter.all false
set_option maxRecDepth 100000
set_option maxHeartbeats 4000000
namespace K00
open PySem PySem.Spec PyProof.Rows L2 DI
def wh : D → Bool
  | .int _ => true
  | _ => false
/-- a plain value -/
def kd : D → Bool
  | .non => true
  | .bl _ => true
  | .int _ => true
  | .str _ => true
  | .tup _ => true
  | .lst _ => true
  | _ => false
section
variable {M : Mem} {x y : D}
def isiI : D → Bool
  | .int _ => true
  | .bl _ => true
  | _ => false
def isiB : D → Bool
  | .bl _ => true
  | _ => false
def isiT : D → Bool
  | .tup _ => true
  | _ => false
theorem isi_I (h : kd x = true) : gIsi anc M [x, .ty "int"] = some (.bl (isiI x)) := by
  cases x <;> first | rfl | cases h
theorem isi_B (h : kd x = true) : gIsi anc M [x, .ty "bool"] = some (.bl (isiB x)) := by
  cases x <;> first | rfl | cases h
theorem isi_T (h : kd x = true) : gIsi anc M [x, .ty "tuple"] = some (.bl (isiT x)) := by
  cases x <;> first | rfl | cases h
theorem wh_eq : wh x = (isiI x && !isiB x) := by cases x <;> rfl
theorem r_wh (h : kd x = true) : f_is_whole [x] M = .ok (.bl (wh x)) M := by
  unfold f_is_whole b_is_whole
  rw [wh_eq]
  cases hi : isiI x with
  | true => simp only [eC, eVar, eVar2, eBin, eBin2, eBin3, eUn, eUn2, eNil, eCons, eCons2, eCons3, eFn, eFn2, eTst, eTst2, eIf, eIf_t, eIf_f, eAnd, eAnd_t, eAnd_f, eOr, eOr_t, eOr_f, eNot, eNot2, eCall, eCall2, eCallC, eSl, eSl2, eSl3, eSl4, eNo, ePart, ePart2, sNil_, sSeq_, sBrk_, sCnt_, sDrop_, sDrop2, sDropE, sRet_, sRet2, sRetE, sRetN_, sIf_, sIf_t, sIf_f, sSet_, sSet2, sSetE, setT_nm, setTs_nil, setTs_cons, optS_some, sPar2_, sPar22, sFor_, sFor2, cIter_, cIter_t, cIter_l, cIter_s, cItL_, cItL2, sRaise_, runF_, endR_nx, endR_rt, endR_err, opt_some, seq_nx, seq_rt, seq_bk, seq_ct, seq_err, startE, List.map_cons, List.map_nil, List.length_cons, List.length_nil, List.replicate_succ, List.replicate_zero, List.cons_append, List.nil_append, List.append_nil, List.getElem?_cons_zero, List.getElem?_cons_succ, List.set_cons_zero, List.set_cons_succ, Option.bind_some, Option.map_some, Nat.reduceAdd, Nat.reduceSub, fAdd_int, fSub_int, fNeg_int, gGcd_int, fGt_int, fLt_int, fLe_int, fTup2, isi_I h, hi, isi_B h, Bool.true_and]
  | false => simp only [eC, eVar, eVar2, eBin, eBin2, eBin3, eUn, eUn2, eNil, eCons, eCons2, eCons3, eFn, eFn2, eTst, eTst2, eIf, eIf_t, eIf_f, eAnd, eAnd_t, eAnd_f, eOr, eOr_t, eOr_f, eNot, eNot2, eCall, eCall2, eCallC, eSl, eSl2, eSl3, eSl4, eNo, ePart, ePart2, sNil_, sSeq_, sBrk_, sCnt_, sDrop_, sDrop2, sDropE, sRet_, sRet2, sRetE, sRetN_, sIf_, sIf_t, sIf_f, sSet_, sSet2, sSetE, setT_nm, setTs_nil, setTs_cons, optS_some, sPar2_, sPar22, sFor_, sFor2, cIter_, cIter_t, cIter_l, cIter_s, cItL_, cItL2, sRaise_, runF_, endR_nx, endR_rt, endR_err, opt_some, seq_nx, seq_rt, seq_bk, seq_ct, seq_err, startE, List.map_cons, List.map_nil, List.length_cons, List.length_nil, List.replicate_succ, List.replicate_zero, List.cons_append, List.nil_append, List.append_nil, List.getElem?_cons_zero, List.getElem?_cons_succ, List.set_cons_zero, List.set_cons_succ, Option.bind_some, Option.map_some, Nat.reduceAdd, Nat.reduceSub, fAdd_int, fSub_int, fNeg_int, gGcd_int, fGt_int, fLt_int, fLe_int, fTup2, isi_I h, hi, Bool.false_and]
theorem fNe_ones (l : List Int) : fNe M (.lst (l.map D.int)) (.lst []) = some (.bl (!l.isEmpty)) := by
  unfold fNe eqD
  show ((match toPy (.lst (l.map D.int)), toPy (.lst []) with
    | some a, some b => if SeqAt.shaped a = true ∧ SeqAt.shaped b = true then some (PyData.eqv a b) else none
    | _, _ => none).map fun b => D.bl (!b)) = _
  rw [toPy, toPys_ints]
  show ((if SeqAt.shaped (.list (l.map PyData.int)) = true ∧ SeqAt.shaped (.list []) = true then some (PyData.eqv (.list (l.map PyData.int)) (.list [])) else none).map fun b => D.bl (!b)) = _
  rw [if_pos ⟨(PySem.W.ke_shaped_ints _), by rfl⟩]
  cases l with
  | nil => rfl
  | cons a r => rfl
theorem fEq_ones (l : List Int) : fEq M (.lst (l.map D.int)) (.lst []) = some (.bl l.isEmpty) := by
  have := fNe_ones (M := M) l
  unfold fNe at this
  unfold fEq
  cases e : eqD M (.lst (l.map D.int)) (.lst []) with
  | none => rw [e] at this; cases this
  | some b =>
    rw [e] at this
    have h : (!b) = !l.isEmpty := by
      injection this with h
      injection h
    have : b = l.isEmpty := by simpa using h
    rw [this]
    rfl
def ratT : List D → Bool
  | [.int a, .int b] => decide (0 < b) && decide (Nat.gcd a.natAbs b.natAbs = 1)
  | _ => false
/-- the tuple's parts: all wholes? -/
theorem lc_wh {it : ItD} (hit : DepOk it M) {s0 : Sl} (xs : List D) (h : ∀ x ∈ xs, kd x = true) (hl : xs.length ≤ 1000) : lcL it (.nm 1) cYes (cCall f_is_whole (cCons (cVar 1) cNil)) [s0, .none] xs [] M = .ok (xs.map fun x => .bl (wh x)) M := by
  have := lcL_map (M := M) (env := [s0, .none]) (it := it) (t := .nm 1) (e := cCall f_is_whole (cCons (cVar 1) cNil)) (fun x : D => x) (fun x => .bl (wh x)) hit xs (fun x hx => ⟨_, setT_nm, by simp only [eC, eVar, eVar2, eBin, eBin2, eBin3, eUn, eUn2, eNil, eCons, eCons2, eCons3, eFn, eFn2, eTst, eTst2, eIf, eIf_t, eIf_f, eAnd, eAnd_t, eAnd_f, eOr, eOr_t, eOr_f, eNot, eNot2, eCall, eCall2, eCallC, eSl, eSl2, eSl3, eSl4, eNo, ePart, ePart2, sNil_, sSeq_, sBrk_, sCnt_, sDrop_, sDrop2, sDropE, sRet_, sRet2, sRetE, sRetN_, sIf_, sIf_t, sIf_f, sSet_, sSet2, sSetE, setT_nm, setTs_nil, setTs_cons, optS_some, sPar2_, sPar22, sFor_, sFor2, cIter_, cIter_t, cIter_l, cIter_s, cItL_, cItL2, sRaise_, runF_, endR_nx, endR_rt, endR_err, opt_some, seq_nx, seq_rt, seq_bk, seq_ct, seq_err, startE, List.map_cons, List.map_nil, List.length_cons, List.length_nil, List.replicate_succ, List.replicate_zero, List.cons_append, List.nil_append, List.append_nil, List.getElem?_cons_zero, List.getElem?_cons_succ, List.set_cons_zero, List.set_cons_succ, Option.bind_some, Option.map_some, Nat.reduceAdd, Nat.reduceSub, fAdd_int, fSub_int, fNeg_int, gGcd_int, fGt_int, fLt_int, fLe_int, fTup2, r_wh (h x hx)]⟩) hl
  rwa [List.map_id'] at this
theorem lc_law_wh {it : ItD} (hit : DepOk it M) {s0 : Sl} (xs : List D) (h : ∀ x ∈ xs, kd x = true) (hl : xs.length ≤ 1000) : lcL it (.nm 1) (cTst (cOr (cNot (cFn (gIsi anc) (cCons (cVar 1) (cCons (cC (.ty "int")) cNil)))) (cFn (gIsi anc) (cCons (cVar 1) (cCons (cC (.ty "bool")) cNil))))) (cC (.int 1)) [s0, .none] xs [] M = .ok (((xs.filter fun x => !wh x).map fun _ => (1 : Int)).map D.int) M := by
  have := lcL_of (M := M) (env := [s0, .none]) (it := it) (t := .nm 1) (c := cTst (cOr (cNot (cFn (gIsi anc) (cCons (cVar 1) (cCons (cC (.ty "int")) cNil)))) (cFn (gIsi anc) (cCons (cVar 1) (cCons (cC (.ty "bool")) cNil))))) (e := cC (.int 1)) (fun x : D => x) (fun _ => .int 1) (fun x => !wh x) hit xs [] (fun x hx => ⟨_, setT_nm, by
    have h := h x hx
    rw [wh_eq]
    cases hi : isiI x with
    | true => simp only [eC, eVar, eVar2, eBin, eBin2, eBin3, eUn, eUn2, eNil, eCons, eCons2, eCons3, eFn, eFn2, eTst, eTst2, eIf, eIf_t, eIf_f, eAnd, eAnd_t, eAnd_f, eOr, eOr_t, eOr_f, eNot, eNot2, eCall, eCall2, eCallC, eSl, eSl2, eSl3, eSl4, eNo, ePart, ePart2, sNil_, sSeq_, sBrk_, sCnt_, sDrop_, sDrop2, sDropE, sRet_, sRet2, sRetE, sRetN_, sIf_, sIf_t, sIf_f, sSet_, sSet2, sSetE, setT_nm, setTs_nil, setTs_cons, optS_some, sPar2_, sPar22, sFor_, sFor2, cIter_, cIter_t, cIter_l, cIter_s, cItL_, cItL2, sRaise_, runF_, endR_nx, endR_rt, endR_err, opt_some, seq_nx, seq_rt, seq_bk, seq_ct, seq_err, startE, List.map_cons, List.map_nil, List.length_cons, List.length_nil, List.replicate_succ, List.replicate_zero, List.cons_append, List.nil_append, List.append_nil, List.getElem?_cons_zero, List.getElem?_cons_succ, List.set_cons_zero, List.set_cons_succ, Option.bind_some, Option.map_some, Nat.reduceAdd, Nat.reduceSub, fAdd_int, fSub_int, fNeg_int, gGcd_int, fGt_int, fLt_int, fLe_int, fTup2, isi_I h, hi, isi_B h, Bool.true_and, Bool.not_true, Bool.not_not]
    | false => simp only [eC, eVar, eVar2, eBin, eBin2, eBin3, eUn, eUn2, eNil, eCons, eCons2, eCons3, eFn, eFn2, eTst, eTst2, eIf, eIf_t, eIf_f, eAnd, eAnd_t, eAnd_f, eOr, eOr_t, eOr_f, eNot, eNot2, eCall, eCall2, eCallC, eSl, eSl2, eSl3, eSl4, eNo, ePart, ePart2, sNil_, sSeq_, sBrk_, sCnt_, sDrop_, sDrop2, sDropE, sRet_, sRet2, sRetE, sRetN_, sIf_, sIf_t, sIf_f, sSet_, sSet2, sSetE, setT_nm, setTs_nil, setTs_cons, optS_some, sPar2_, sPar22, sFor_, sFor2, cIter_, cIter_t, cIter_l, cIter_s, cItL_, cItL2, sRaise_, runF_, endR_nx, endR_rt, endR_err, opt_some, seq_nx, seq_rt, seq_bk, seq_ct, seq_err, startE, List.map_cons, List.map_nil, List.length_cons, List.length_nil, List.replicate_succ, List.replicate_zero, List.cons_append, List.nil_append, List.append_nil, List.getElem?_cons_zero, List.getElem?_cons_succ, List.set_cons_zero, List.set_cons_succ, Option.bind_some, Option.map_some, Nat.reduceAdd, Nat.reduceSub, fAdd_int, fSub_int, fNeg_int, gGcd_int, fGt_int, fLt_int, fLe_int, fTup2, isi_I h, hi, Bool.false_and, Bool.not_false], fun _ => by simp only [eC, eVar, eVar2, eBin, eBin2, eBin3, eUn, eUn2, eNil, eCons, eCons2, eCons3, eFn, eFn2, eTst, eTst2, eIf, eIf_t, eIf_f, eAnd, eAnd_t, eAnd_f, eOr, eOr_t, eOr_f, eNot, eNot2, eCall, eCall2, eCallC, eSl, eSl2, eSl3, eSl4, eNo, ePart, ePart2, sNil_, sSeq_, sBrk_, sCnt_, sDrop_, sDrop2, sDropE, sRet_, sRet2, sRetE, sRetN_, sIf_, sIf_t, sIf_f, sSet_, sSet2, sSetE, setT_nm, setTs_nil, setTs_cons, optS_some, sPar2_, sPar22, sFor_, sFor2, cIter_, cIter_t, cIter_l, cIter_s, cItL_, cItL2, sRaise_, runF_, endR_nx, endR_rt, endR_err, opt_some, seq_nx, seq_rt, seq_bk, seq_ct, seq_err, startE, List.map_cons, List.map_nil, List.length_cons, List.length_nil, List.replicate_succ, List.replicate_zero, List.cons_append, List.nil_append, List.append_nil, List.getElem?_cons_zero, List.getElem?_cons_succ, List.set_cons_zero, List.set_cons_succ, Option.bind_some, Option.map_some, Nat.reduceAdd, Nat.reduceSub, fAdd_int, fSub_int, fNeg_int, gGcd_int, fGt_int, fLt_int, fLe_int, fTup2]⟩) (by rw [List.length_nil]; omega)
  rw [List.map_id', List.nil_append] at this
  rw [this, List.map_map]
  rfl
theorem r_is_ratio_T {xs : List D} (h : ∀ x ∈ xs, kd x = true) (hl : xs.length ≤ 1000) : f_is_ratio [.tup xs] M = .ok (.bl (ratT xs)) M := by
  by_cases h2 : xs.length = 2
  · match xs, h2, h with
    | [x, y], _, h =>
      have hall := lc_wh (M := M) (it := ⟨[x, y], []⟩) depOk_nil (s0 := .val (.tup [x, y])) [x, y] h (show 2 ≤ 1000 by decide)
      have hg : gAll M [.lst [.bl (wh x), .bl (wh y)]] = some (.bl (wh x && wh y)) := by
        have := gAll_map (M := M) wh [x, y]
        rw [List.all_cons, List.all_cons, List.all_nil, Bool.and_true] at this
        exact this
      by_cases hw : (wh x && wh y) = true
      · rw [Bool.and_eq_true] at hw
        match x, y, hw with
        | .int a, .int b, _ => exact r_is_ratio
      · have hf : (wh x && wh y) = false := by simpa using hw
        have hr : ratT [x, y] = false := by
          cases x <;> cases y <;> first | rfl | (exact absurd rfl hw)
        rw [hr]
        rw [hf] at hg
        unfold f_is_ratio b_is_ratio
        simp only [eC, eVar, eVar2, eBin, eBin2, eBin3, eUn, eUn2, eNil, eCons, eCons2, eCons3, eFn, eFn2, eTst, eTst2, eIf, eIf_t, eIf_f, eAnd, eAnd_t, eAnd_f, eOr, eOr_t, eOr_f, eNot, eNot2, eCall, eCall2, eCallC, eSl, eSl2, eSl3, eSl4, eNo, ePart, ePart2, sNil_, sSeq_, sBrk_, sCnt_, sDrop_, sDrop2, sDropE, sRet_, sRet2, sRetE, sRetN_, sIf_, sIf_t, sIf_f, sSet_, sSet2, sSetE, setT_nm, setTs_nil, setTs_cons, optS_some, sPar2_, sPar22, sFor_, sFor2, cIter_, cIter_t, cIter_l, cIter_s, cItL_, cItL2, sRaise_, runF_, endR_nx, endR_rt, endR_err, opt_some, seq_nx, seq_rt, seq_bk, seq_ct, seq_err, startE, List.map_cons, List.map_nil, List.length_cons, List.length_nil, List.replicate_succ, List.replicate_zero, List.cons_append, List.nil_append, List.append_nil, List.getElem?_cons_zero, List.getElem?_cons_succ, List.set_cons_zero, List.set_cons_succ, Option.bind_some, Option.map_some, Nat.reduceAdd, Nat.reduceSub, fAdd_int, fSub_int, fNeg_int, gGcd_int, fGt_int, fLt_int, fLe_int, fTup2, isi_tup_tup, Bool.not_true, gLen_tup, fNe_int, show decide (((2 : Nat) : Int) = 2) = true from rfl, eLc, eLc2, eLc3, wipe_nil, wipe_cons, hall, hg, Bool.not_false]
  · have hr : ratT xs = false := by
      match xs, h2 with
      | [], _ => rfl
      | [_], _ => cases ‹D› <;> rfl
      | _ :: _ :: _ :: _, _ => rename_i a b c d _; cases a <;> cases b <;> rfl
    rw [hr]
    unfold f_is_ratio b_is_ratio
    have e : decide (((xs.length : Nat) : Int) = 2) = false := decide_eq_false (by omega)
    simp only [eC, eVar, eVar2, eBin, eBin2, eBin3, eUn, eUn2, eNil, eCons, eCons2, eCons3, eFn, eFn2, eTst, eTst2, eIf, eIf_t, eIf_f, eAnd, eAnd_t, eAnd_f, eOr, eOr_t, eOr_f, eNot, eNot2, eCall, eCall2, eCallC, eSl, eSl2, eSl3, eSl4, eNo, ePart, ePart2, sNil_, sSeq_, sBrk_, sCnt_, sDrop_, sDrop2, sDropE, sRet_, sRet2, sRetE, sRetN_, sIf_, sIf_t, sIf_f, sSet_, sSet2, sSetE, setT_nm, setTs_nil, setTs_cons, optS_some, sPar2_, sPar22, sFor_, sFor2, cIter_, cIter_t, cIter_l, cIter_s, cItL_, cItL2, sRaise_, runF_, endR_nx, endR_rt, endR_err, opt_some, seq_nx, seq_rt, seq_bk, seq_ct, seq_err, startE, List.map_cons, List.map_nil, List.length_cons, List.length_nil, List.replicate_succ, List.replicate_zero, List.cons_append, List.nil_append, List.append_nil, List.getElem?_cons_zero, List.getElem?_cons_succ, List.set_cons_zero, List.set_cons_succ, Option.bind_some, Option.map_some, Nat.reduceAdd, Nat.reduceSub, fAdd_int, fSub_int, fNeg_int, gGcd_int, fGt_int, fLt_int, fLe_int, fTup2, isi_tup_tup, Bool.not_true, gLen_tup, fNe_int, e, Bool.not_false]
theorem fEq_ints2 {a b c d : Int} : fEq M (.tup [.int a, .int b]) (.tup [.int c, .int d]) = some (.bl (decide (a = c) && decide (b = d))) := by
  unfold fEq eqD
  show ((if SeqAt.shaped (.tuple [.int a, .int b]) = true ∧ SeqAt.shaped (.tuple [.int c, .int d]) = true then some (PyData.eqv (.tuple [.int a, .int b]) (.tuple [.int c, .int d])) else none).map D.bl) = _
  rw [if_pos ⟨by rfl, by rfl⟩]
  show some (D.bl (a == c && (b == d && true))) = _
  congr 2
  rw [Bool.and_true]
  rfl
theorem rat_same {a b : Int} (hb : 0 < b) : (decide ((Rat.divInt a b).num = a) && decide (((Rat.divInt a b).den : Int) = b)) = decide (Nat.gcd a.natAbs b.natAbs = 1) := by
  rw [Bool.eq_iff_iff, Bool.and_eq_true, decide_eq_true_iff, decide_eq_true_iff, decide_eq_true_iff]
  constructor
  · rintro ⟨h1, h2⟩
    have := (Rat.divInt a b).reduced
    have e : b.natAbs = (Rat.divInt a b).den := by omega
    rw [e, ← h1]
    have h3 : (Rat.divInt a b).num = a := h1
    rw [h1]
    rwa [h1] at this
  · intro h
    rw [Rat.num_divInt, Rat.den_divInt, Int.sign_eq_one_of_pos hb, Int.one_mul, if_neg (by omega)]
    have e : Int.gcd b a = 1 := by rw [Int.gcd_comm]; exact h
    rw [e]
    refine ⟨by simp, ?_⟩
    rw [Nat.div_one, Int.natAbs_of_nonneg (by omega)]
theorem r__law_is_ratio_T {xs : List D} (h : ∀ x ∈ xs, kd x = true) (hl : xs.length ≤ 1000) (hb : ∀ a b, xs = [.int a, .int b] → Sm 9000 b) : f__law_is_ratio [.tup xs] M = .ok (.bl (ratT xs)) M := by
  by_cases h2 : xs.length = 2
  · match xs, h2, h, hb with
    | [x, y], _, h, hb =>
      have hall := lc_law_wh (M := M) (it := ⟨[x, y], []⟩) depOk_nil (s0 := .val (.tup [x, y])) [x, y] h (show 2 ≤ 1000 by decide)
      have hg := fNe_ones (M := M) (([x, y].filter fun x => !wh x).map fun _ => (1 : Int))
      by_cases hw : (wh x && wh y) = true
      · rw [Bool.and_eq_true] at hw
        have he : ((([x, y].filter fun x => !wh x).map fun _ => (1 : Int)).isEmpty) = true := by
          rw [List.filter_cons, hw.1, List.filter_cons, hw.2]
          rfl
        rw [he] at hg
        match x, y, hw, hb, h, hall, hg with
        | .int a, .int b, _, hb, h, hall, hg =>
          have hb := hb a b rfl
          unfold f__law_is_ratio b__law_is_ratio ratT
          by_cases h0 : 0 < b
          · have hq : f__law_q [.int a, .int b] M = .ok (qd (Rat.divInt a b)) M := r__law_q (by omega) hb
            have hq2 : qd (Rat.divInt a b) = .tup [.int (Rat.divInt a b).num, .int (Rat.divInt a b).den] := rfl
            simp only [eC, eVar, eVar2, eBin, eBin2, eBin3, eUn, eUn2, eNil, eCons, eCons2, eCons3, eFn, eFn2, eTst, eTst2, eIf, eIf_t, eIf_f, eAnd, eAnd_t, eAnd_f, eOr, eOr_t, eOr_f, eNot, eNot2, eCall, eCall2, eCallC, eSl, eSl2, eSl3, eSl4, eNo, ePart, ePart2, sNil_, sSeq_, sBrk_, sCnt_, sDrop_, sDrop2, sDropE, sRet_, sRet2, sRetE, sRetN_, sIf_, sIf_t, sIf_f, sSet_, sSet2, sSetE, setT_nm, setTs_nil, setTs_cons, optS_some, sPar2_, sPar22, sFor_, sFor2, cIter_, cIter_t, cIter_l, cIter_s, cItL_, cItL2, sRaise_, runF_, endR_nx, endR_rt, endR_err, opt_some, seq_nx, seq_rt, seq_bk, seq_ct, seq_err, startE, List.map_cons, List.map_nil, List.length_cons, List.length_nil, List.replicate_succ, List.replicate_zero, List.cons_append, List.nil_append, List.append_nil, List.getElem?_cons_zero, List.getElem?_cons_succ, List.set_cons_zero, List.set_cons_succ, Option.bind_some, Option.map_some, Nat.reduceAdd, Nat.reduceSub, fAdd_int, fSub_int, fNeg_int, gGcd_int, fGt_int, fLt_int, fLe_int, fTup2, isi_tup_tup, Bool.not_true, gLen_tup, fNe_int, show decide (((2 : Nat) : Int) = 2) = true from rfl, eLc, eLc2, eLc3, wipe_nil, wipe_cons, hall, fLst_0, hg, Bool.not_true, fIx_0, fIx_1, decide_eq_true h0, hq, hq2, fEq_ints2, rat_same h0, Bool.true_and]
          · simp only [eC, eVar, eVar2, eBin, eBin2, eBin3, eUn, eUn2, eNil, eCons, eCons2, eCons3, eFn, eFn2, eTst, eTst2, eIf, eIf_t, eIf_f, eAnd, eAnd_t, eAnd_f, eOr, eOr_t, eOr_f, eNot, eNot2, eCall, eCall2, eCallC, eSl, eSl2, eSl3, eSl4, eNo, ePart, ePart2, sNil_, sSeq_, sBrk_, sCnt_, sDrop_, sDrop2, sDropE, sRet_, sRet2, sRetE, sRetN_, sIf_, sIf_t, sIf_f, sSet_, sSet2, sSetE, setT_nm, setTs_nil, setTs_cons, optS_some, sPar2_, sPar22, sFor_, sFor2, cIter_, cIter_t, cIter_l, cIter_s, cItL_, cItL2, sRaise_, runF_, endR_nx, endR_rt, endR_err, opt_some, seq_nx, seq_rt, seq_bk, seq_ct, seq_err, startE, List.map_cons, List.map_nil, List.length_cons, List.length_nil, List.replicate_succ, List.replicate_zero, List.cons_append, List.nil_append, List.append_nil, List.getElem?_cons_zero, List.getElem?_cons_succ, List.set_cons_zero, List.set_cons_succ, Option.bind_some, Option.map_some, Nat.reduceAdd, Nat.reduceSub, fAdd_int, fSub_int, fNeg_int, gGcd_int, fGt_int, fLt_int, fLe_int, fTup2, isi_tup_tup, Bool.not_true, gLen_tup, fNe_int, show decide (((2 : Nat) : Int) = 2) = true from rfl, eLc, eLc2, eLc3, wipe_nil, wipe_cons, hall, fLst_0, hg, Bool.not_true, fIx_0, fIx_1, decide_eq_false h0, Bool.false_and]
      · have hf : (wh x && wh y) = false := by simpa using hw
        have hr : ratT [x, y] = false := by
          cases x <;> cases y <;> first | rfl | (exact absurd rfl hw)
        rw [hr]
        have he : ((([x, y].filter fun x => !wh x).map fun _ => (1 : Int)).isEmpty) = false := by
          rw [List.filter_cons, List.filter_cons]
          cases hx : wh x <;> cases hy : wh y <;> simp_all
        rw [he] at hg
        unfold f__law_is_ratio b__law_is_ratio
        simp only [eC, eVar, eVar2, eBin, eBin2, eBin3, eUn, eUn2, eNil, eCons, eCons2, eCons3, eFn, eFn2, eTst, eTst2, eIf, eIf_t, eIf_f, eAnd, eAnd_t, eAnd_f, eOr, eOr_t, eOr_f, eNot, eNot2, eCall, eCall2, eCallC, eSl, eSl2, eSl3, eSl4, eNo, ePart, ePart2, sNil_, sSeq_, sBrk_, sCnt_, sDrop_, sDrop2, sDropE, sRet_, sRet2, sRetE, sRetN_, sIf_, sIf_t, sIf_f, sSet_, sSet2, sSetE, setT_nm, setTs_nil, setTs_cons, optS_some, sPar2_, sPar22, sFor_, sFor2, cIter_, cIter_t, cIter_l, cIter_s, cItL_, cItL2, sRaise_, runF_, endR_nx, endR_rt, endR_err, opt_some, seq_nx, seq_rt, seq_bk, seq_ct, seq_err, startE, List.map_cons, List.map_nil, List.length_cons, List.length_nil, List.replicate_succ, List.replicate_zero, List.cons_append, List.nil_append, List.append_nil, List.getElem?_cons_zero, List.getElem?_cons_succ, List.set_cons_zero, List.set_cons_succ, Option.bind_some, Option.map_some, Nat.reduceAdd, Nat.reduceSub, fAdd_int, fSub_int, fNeg_int, gGcd_int, fGt_int, fLt_int, fLe_int, fTup2, isi_tup_tup, Bool.not_true, gLen_tup, fNe_int, show decide (((2 : Nat) : Int) = 2) = true from rfl, eLc, eLc2, eLc3, wipe_nil, wipe_cons, hall, fLst_0, hg, Bool.not_false]
  · have hr : ratT xs = false := by
      match xs, h2 with
      | [], _ => rfl
      | [_], _ => cases ‹D› <;> rfl
      | _ :: _ :: _ :: _, _ => rename_i a b c d _; cases a <;> cases b <;> rfl
    rw [hr]
    unfold f__law_is_ratio b__law_is_ratio
    have e : decide (((xs.length : Nat) : Int) = 2) = false := decide_eq_false (by omega)
    simp only [eC, eVar, eVar2, eBin, eBin2, eBin3, eUn, eUn2, eNil, eCons, eCons2, eCons3, eFn, eFn2, eTst, eTst2, eIf, eIf_t, eIf_f, eAnd, eAnd_t, eAnd_f, eOr, eOr_t, eOr_f, eNot, eNot2, eCall, eCall2, eCallC, eSl, eSl2, eSl3, eSl4, eNo, ePart, ePart2, sNil_, sSeq_, sBrk_, sCnt_, sDrop_, sDrop2, sDropE, sRet_, sRet2, sRetE, sRetN_, sIf_, sIf_t, sIf_f, sSet_, sSet2, sSetE, setT_nm, setTs_nil, setTs_cons, optS_some, sPar2_, sPar22, sFor_, sFor2, cIter_, cIter_t, cIter_l, cIter_s, cItL_, cItL2, sRaise_, runF_, endR_nx, endR_rt, endR_err, opt_some, seq_nx, seq_rt, seq_bk, seq_ct, seq_err, startE, List.map_cons, List.map_nil, List.length_cons, List.length_nil, List.replicate_succ, List.replicate_zero, List.cons_append, List.nil_append, List.append_nil, List.getElem?_cons_zero, List.getElem?_cons_succ, List.set_cons_zero, List.set_cons_succ, Option.bind_some, Option.map_some, Nat.reduceAdd, Nat.reduceSub, fAdd_int, fSub_int, fNeg_int, gGcd_int, fGt_int, fLt_int, fLe_int, fTup2, isi_tup_tup, Bool.not_true, gLen_tup, fNe_int, e, Bool.not_false]
/-- what is no tuple -/
theorem r_is_ratio_N (h : kd x = true) (ht : isiT x = false) : f_is_ratio [x] M = .ok (.bl false) M := by
  unfold f_is_ratio b_is_ratio
  simp only [eC, eVar, eVar2, eBin, eBin2, eBin3, eUn, eUn2, eNil, eCons, eCons2, eCons3, eFn, eFn2, eTst, eTst2, eIf, eIf_t, eIf_f, eAnd, eAnd_t, eAnd_f, eOr, eOr_t, eOr_f, eNot, eNot2, eCall, eCall2, eCallC, eSl, eSl2, eSl3, eSl4, eNo, ePart, ePart2, sNil_, sSeq_, sBrk_, sCnt_, sDrop_, sDrop2, sDropE, sRet_, sRet2, sRetE, sRetN_, sIf_, sIf_t, sIf_f, sSet_, sSet2, sSetE, setT_nm, setTs_nil, setTs_cons, optS_some, sPar2_, sPar22, sFor_, sFor2, cIter_, cIter_t, cIter_l, cIter_s, cItL_, cItL2, sRaise_, runF_, endR_nx, endR_rt, endR_err, opt_some, seq_nx, seq_rt, seq_bk, seq_ct, seq_err, startE, List.map_cons, List.map_nil, List.length_cons, List.length_nil, List.replicate_succ, List.replicate_zero, List.cons_append, List.nil_append, List.append_nil, List.getElem?_cons_zero, List.getElem?_cons_succ, List.set_cons_zero, List.set_cons_succ, Option.bind_some, Option.map_some, Nat.reduceAdd, Nat.reduceSub, fAdd_int, fSub_int, fNeg_int, gGcd_int, fGt_int, fLt_int, fLe_int, fTup2, isi_T h, ht, Bool.not_false]
theorem r__law_is_ratio_N (h : kd x = true) (ht : isiT x = false) : f__law_is_ratio [x] M = .ok (.bl false) M := by
  unfold f__law_is_ratio b__law_is_ratio
  simp only [eC, eVar, eVar2, eBin, eBin2, eBin3, eUn, eUn2, eNil, eCons, eCons2, eCons3, eFn, eFn2, eTst, eTst2, eIf, eIf_t, eIf_f, eAnd, eAnd_t, eAnd_f, eOr, eOr_t, eOr_f, eNot, eNot2, eCall, eCall2, eCallC, eSl, eSl2, eSl3, eSl4, eNo, ePart, ePart2, sNil_, sSeq_, sBrk_, sCnt_, sDrop_, sDrop2, sDropE, sRet_, sRet2, sRetE, sRetN_, sIf_, sIf_t, sIf_f, sSet_, sSet2, sSetE, setT_nm, setTs_nil, setTs_cons, optS_some, sPar2_, sPar22, sFor_, sFor2, cIter_, cIter_t, cIter_l, cIter_s, cItL_, cItL2, sRaise_, runF_, endR_nx, endR_rt, endR_err, opt_some, seq_nx, seq_rt, seq_bk, seq_ct, seq_err, startE, List.map_cons, List.map_nil, List.length_cons, List.length_nil, List.replicate_succ, List.replicate_zero, List.cons_append, List.nil_append, List.append_nil, List.getElem?_cons_zero, List.getElem?_cons_succ, List.set_cons_zero, List.set_cons_succ, Option.bind_some, Option.map_some, Nat.reduceAdd, Nat.reduceSub, fAdd_int, fSub_int, fNeg_int, gGcd_int, fGt_int, fLt_int, fLe_int, fTup2, isi_T h, ht, Bool.not_false]
end
/-- both judge x to be b -/
structure RatV (x : D) (b : Bool) : Prop where
  kd : kd x = true
  f : ∀ M, f_is_ratio [x] M = .ok (.bl b) M
  l : ∀ M, f__law_is_ratio [x] M = .ok (.bl b) M
theorem RatV.tup {xs : List D} (h : ∀ x ∈ xs, K00.kd x = true) (hl : xs.length ≤ 1000) (hb : ∀ a b, xs = [.int a, .int b] → Sm 9000 b) : RatV (.tup xs) (ratT xs) := ⟨rfl, fun M => r_is_ratio_T h hl, fun M => r__law_is_ratio_T h hl hb⟩
theorem RatV.not {x : D} (h : K00.kd x = true) (ht : isiT x = false) : RatV x false := ⟨h, fun M => r_is_ratio_N h ht, fun M => r__law_is_ratio_N h ht⟩
theorem RatV.qd {r : Rat} {k : Nat} (h : Sq k r) (hk : k ≤ 9000) : RatV (qd r) true := by
  have := RatV.tup (xs := [.int r.num, .int r.den]) (fun x hx => by
    simp only [List.mem_cons, List.not_mem_nil, or_false] at hx
    rcases hx with rfl | rfl <;> rfl) (show 2 ≤ 1000 by decide) (fun a b e => by
    injection e with e1 e2
    injection e2 with e2
    injection e2 with e2
    rw [← e2]
    exact h.d.mono hk)
  have e : ratT [.int r.num, .int r.den] = true := by
    show (decide ((0 : Int) < (r.den : Int)) && decide (Nat.gcd r.num.natAbs (r.den : Int).natAbs = 1)) = true
    rw [decide_eq_true (show (0 : Int) < (r.den : Int) by have := r.den_pos; omega), decide_eq_true (show Nat.gcd r.num.natAbs (r.den : Int).natAbs = 1 from r.reduced)]
    rfl
  rw [e] at this
  exact this
end K00

set_option Elab.async false
set_option linter.all false
set_option maxRecDepth 100000
set_option maxHeartbeats 4000000
namespace K00
open PySem PySem.Spec PyProof.Rows L2 DI
section
variable {M : Mem}
theorem lc_rat {it : ItD} (hit : DepOk it M) {s0 : Sl} {p : D → Bool} (xs : List D) (h : ∀ x ∈ xs, RatV x (p x)) (hl : xs.length ≤ 1000) : lcL it (.nm 1) cYes (cCall f_is_ratio (cCons (cVar 1) cNil)) [s0, .none] xs [] M = .ok (xs.map fun x => .bl (p x)) M := by
  have := lcL_map (M := M) (env := [s0, .none]) (it := it) (t := .nm 1) (e := cCall f_is_ratio (cCons (cVar 1) cNil)) (fun x : D => x) (fun x => .bl (p x)) hit xs (fun x hx => ⟨_, setT_nm, by simp only [eC, eVar, eVar2, eBin, eBin2, eBin3, eUn, eUn2, eNil, eCons, eCons2, eCons3, eFn, eFn2, eTst, eTst2, eIf, eIf_t, eIf_f, eAnd, eAnd_t, eAnd_f, eOr, eOr_t, eOr_f, eNot, eNot2, eCall, eCall2, eCallC, eSl, eSl2, eSl3, eSl4, eNo, ePart, ePart2, sNil_, sSeq_, sBrk_, sCnt_, sDrop_, sDrop2, sDropE, sRet_, sRet2, sRetE, sRetN_, sIf_, sIf_t, sIf_f, sSet_, sSet2, sSetE, setT_nm, setTs_nil, setTs_cons, optS_some, sPar2_, sPar22, sFor_, sFor2, cIter_, cIter_t, cIter_l, cIter_s, cItL_, cItL2, sRaise_, runF_, endR_nx, endR_rt, endR_err, opt_some, seq_nx, seq_rt, seq_bk, seq_ct, seq_err, startE, List.map_cons, List.map_nil, List.length_cons, List.length_nil, List.replicate_succ, List.replicate_zero, List.cons_append, List.nil_append, List.append_nil, List.getElem?_cons_zero, List.getElem?_cons_succ, List.set_cons_zero, List.set_cons_succ, Option.bind_some, Option.map_some, Nat.reduceAdd, Nat.reduceSub, fAdd_int, fSub_int, fNeg_int, gGcd_int, fGt_int, fLt_int, fLe_int, fTup2, (h x hx).f]⟩) hl
  rwa [List.map_id'] at this
theorem r_is_vector_T {p : D → Bool} {xs : List D} (h : ∀ x ∈ xs, RatV x (p x)) : f_is_vector [.tup xs] M = .ok (.bl (decide (1 ≤ xs.length) && (decide (xs.length ≤ 200) && xs.all p))) M := by
  unfold f_is_vector b_is_vector
  have e1 : decide ((1 : Int) ≤ xs.length) = decide (1 ≤ xs.length) := by rw [decide_eq_decide]; omega
  have e2 : decide ((xs.length : Int) ≤ 200) = decide (xs.length ≤ 200) := by rw [decide_eq_decide]; omega
  by_cases h1 : 1 ≤ xs.length
  · by_cases h2 : xs.length ≤ 200
    · simp only [eC, eVar, eVar2, eBin, eBin2, eBin3, eUn, eUn2, eNil, eCons, eCons2, eCons3, eFn, eFn2, eTst, eTst2, eIf, eIf_t, eIf_f, eAnd, eAnd_t, eAnd_f, eOr, eOr_t, eOr_f, eNot, eNot2, eCall, eCall2, eCallC, eSl, eSl2, eSl3, eSl4, eNo, ePart, ePart2, sNil_, sSeq_, sBrk_, sCnt_, sDrop_, sDrop2, sDropE, sRet_, sRet2, sRetE, sRetN_, sIf_, sIf_t, sIf_f, sSet_, sSet2, sSetE, setT_nm, setTs_nil, setTs_cons, optS_some, sPar2_, sPar22, sFor_, sFor2, cIter_, cIter_t, cIter_l, cIter_s, cItL_, cItL2, sRaise_, runF_, endR_nx, endR_rt, endR_err, opt_some, seq_nx, seq_rt, seq_bk, seq_ct, seq_err, startE, List.map_cons, List.map_nil, List.length_cons, List.length_nil, List.replicate_succ, List.replicate_zero, List.cons_append, List.nil_append, List.append_nil, List.getElem?_cons_zero, List.getElem?_cons_succ, List.set_cons_zero, List.set_cons_succ, Option.bind_some, Option.map_some, Nat.reduceAdd, Nat.reduceSub, fAdd_int, fSub_int, fNeg_int, gGcd_int, fGt_int, fLt_int, fLe_int, fTup2, isi_tup_tup, eCh, eChA, eChB, gLen_tup, e1, e2, d_MOST, decide_eq_true h1, decide_eq_true h2, eChC_t, eCh4, eLc, eLc2, eLc3, wipe_nil, wipe_cons, lc_rat depOk_nil xs h (show xs.length ≤ 1000 by omega), gAll_map, Bool.true_and]
    · simp only [eC, eVar, eVar2, eBin, eBin2, eBin3, eUn, eUn2, eNil, eCons, eCons2, eCons3, eFn, eFn2, eTst, eTst2, eIf, eIf_t, eIf_f, eAnd, eAnd_t, eAnd_f, eOr, eOr_t, eOr_f, eNot, eNot2, eCall, eCall2, eCallC, eSl, eSl2, eSl3, eSl4, eNo, ePart, ePart2, sNil_, sSeq_, sBrk_, sCnt_, sDrop_, sDrop2, sDropE, sRet_, sRet2, sRetE, sRetN_, sIf_, sIf_t, sIf_f, sSet_, sSet2, sSetE, setT_nm, setTs_nil, setTs_cons, optS_some, sPar2_, sPar22, sFor_, sFor2, cIter_, cIter_t, cIter_l, cIter_s, cItL_, cItL2, sRaise_, runF_, endR_nx, endR_rt, endR_err, opt_some, seq_nx, seq_rt, seq_bk, seq_ct, seq_err, startE, List.map_cons, List.map_nil, List.length_cons, List.length_nil, List.replicate_succ, List.replicate_zero, List.cons_append, List.nil_append, List.append_nil, List.getElem?_cons_zero, List.getElem?_cons_succ, List.set_cons_zero, List.set_cons_succ, Option.bind_some, Option.map_some, Nat.reduceAdd, Nat.reduceSub, fAdd_int, fSub_int, fNeg_int, gGcd_int, fGt_int, fLt_int, fLe_int, fTup2, isi_tup_tup, eCh, eChA, eChB, gLen_tup, e1, e2, d_MOST, decide_eq_true h1, decide_eq_false h2, eChC_t, eCh4, Bool.true_and, Bool.false_and]
  · simp only [eC, eVar, eVar2, eBin, eBin2, eBin3, eUn, eUn2, eNil, eCons, eCons2, eCons3, eFn, eFn2, eTst, eTst2, eIf, eIf_t, eIf_f, eAnd, eAnd_t, eAnd_f, eOr, eOr_t, eOr_f, eNot, eNot2, eCall, eCall2, eCallC, eSl, eSl2, eSl3, eSl4, eNo, ePart, ePart2, sNil_, sSeq_, sBrk_, sCnt_, sDrop_, sDrop2, sDropE, sRet_, sRet2, sRetE, sRetN_, sIf_, sIf_t, sIf_f, sSet_, sSet2, sSetE, setT_nm, setTs_nil, setTs_cons, optS_some, sPar2_, sPar22, sFor_, sFor2, cIter_, cIter_t, cIter_l, cIter_s, cItL_, cItL2, sRaise_, runF_, endR_nx, endR_rt, endR_err, opt_some, seq_nx, seq_rt, seq_bk, seq_ct, seq_err, startE, List.map_cons, List.map_nil, List.length_cons, List.length_nil, List.replicate_succ, List.replicate_zero, List.cons_append, List.nil_append, List.append_nil, List.getElem?_cons_zero, List.getElem?_cons_succ, List.set_cons_zero, List.set_cons_succ, Option.bind_some, Option.map_some, Nat.reduceAdd, Nat.reduceSub, fAdd_int, fSub_int, fNeg_int, gGcd_int, fGt_int, fLt_int, fLe_int, fTup2, isi_tup_tup, eCh, eChA, eChB, gLen_tup, e1, d_MOST, decide_eq_false h1, eChC_f, Bool.false_and]
theorem r_is_vector_N {x : D} (h : kd x = true) (ht : isiT x = false) : f_is_vector [x] M = .ok (.bl false) M := by
  unfold f_is_vector b_is_vector
  simp only [eC, eVar, eVar2, eBin, eBin2, eBin3, eUn, eUn2, eNil, eCons, eCons2, eCons3, eFn, eFn2, eTst, eTst2, eIf, eIf_t, eIf_f, eAnd, eAnd_t, eAnd_f, eOr, eOr_t, eOr_f, eNot, eNot2, eCall, eCall2, eCallC, eSl, eSl2, eSl3, eSl4, eNo, ePart, ePart2, sNil_, sSeq_, sBrk_, sCnt_, sDrop_, sDrop2, sDropE, sRet_, sRet2, sRetE, sRetN_, sIf_, sIf_t, sIf_f, sSet_, sSet2, sSetE, setT_nm, setTs_nil, setTs_cons, optS_some, sPar2_, sPar22, sFor_, sFor2, cIter_, cIter_t, cIter_l, cIter_s, cItL_, cItL2, sRaise_, runF_, endR_nx, endR_rt, endR_err, opt_some, seq_nx, seq_rt, seq_bk, seq_ct, seq_err, startE, List.map_cons, List.map_nil, List.length_cons, List.length_nil, List.replicate_succ, List.replicate_zero, List.cons_append, List.nil_append, List.append_nil, List.getElem?_cons_zero, List.getElem?_cons_succ, List.set_cons_zero, List.set_cons_succ, Option.bind_some, Option.map_some, Nat.reduceAdd, Nat.reduceSub, fAdd_int, fSub_int, fNeg_int, gGcd_int, fGt_int, fLt_int, fLe_int, fTup2, isi_T h, ht]
/-- a vector -/
def vD (l : List Rat) : D := .tup (l.map qd)
theorem r_is_vector_v {l : List Rat} {k : Nat} (h1 : 1 ≤ l.length) (h2 : l.length ≤ 200) (h : ∀ r ∈ l, Sq k r) (hk : k ≤ 9000) : f_is_vector [vD l] M = .ok (.bl true) M := by
  unfold vD
  rw [r_is_vector_T (p := fun _ => true) (fun x hx => by
    obtain ⟨r, hr, rfl⟩ := List.mem_map.mp hx
    exact RatV.qd (h r hr) hk)]
  rw [List.length_map, decide_eq_true h1, decide_eq_true h2, List.all_eq_true.mpr fun _ _ => rfl]
  rfl
def qdot (a b : List Rat) : Rat := rsum ((a.zip b).map fun p => p.1 * p.2)
theorem zip_vv {a b : List Rat} : zipD M [vD a, vD b] = some ⟨(a.zip b).map fun p => .tup [qd p.1, qd p.2], []⟩ := by
  rw [← zipL_map]
  rfl
theorem zip_sq {a b : List Rat} {k : Nat} (ha : ∀ r ∈ a, Sq k r) (hb : ∀ r ∈ b, Sq k r) : ∀ p ∈ a.zip b, Sq k p.1 ∧ Sq k p.2 := fun p hp => by
  have := List.of_mem_zip hp
  exact ⟨ha _ this.1, hb _ this.2⟩
theorem r_dot {a b : List Rat} (ha : ∀ r ∈ a, Sq 20 r) (hb : ∀ r ∈ b, Sq 20 r) (hl : a.length ≤ 200) : f_dot [vD a, vD b] M = .ok (qd (qdot a b)) M := by
  have hz := zip_sq ha hb
  have hzl : (a.zip b).length ≤ 200 := by rw [List.length_zip]; omega
  have hlc := lcL_map (M := M) (env := [.val (vD a), .val (vD b), .none, .none]) (it := ⟨(a.zip b).map fun p => .tup [qd p.1, qd p.2], []⟩) (t := .tp [(.nm 2), (.nm 3)]) (e := cCall f_times (cCons (cVar 2) (cCons (cVar 3) cNil))) (fun p : Rat × Rat => .tup [qd p.1, qd p.2]) (fun p => qd (p.1 * p.2)) depOk_nil (a.zip b)
    (fun p hp => ⟨_, by simp only [setT_t, eC, eVar, eVar2, eBin, eBin2, eBin3, eUn, eUn2, eNil, eCons, eCons2, eCons3, eFn, eFn2, eTst, eTst2, eIf, eIf_t, eIf_f, eAnd, eAnd_t, eAnd_f, eOr, eOr_t, eOr_f, eNot, eNot2, eCall, eCall2, eCallC, eSl, eSl2, eSl3, eSl4, eNo, ePart, ePart2, sNil_, sSeq_, sBrk_, sCnt_, sDrop_, sDrop2, sDropE, sRet_, sRet2, sRetE, sRetN_, sIf_, sIf_t, sIf_f, sSet_, sSet2, sSetE, setT_nm, setTs_nil, setTs_cons, optS_some, sPar2_, sPar22, sFor_, sFor2, cIter_, cIter_t, cIter_l, cIter_s, cItL_, cItL2, sRaise_, runF_, endR_nx, endR_rt, endR_err, opt_some, seq_nx, seq_rt, seq_bk, seq_ct, seq_err, startE, List.map_cons, List.map_nil, List.length_cons, List.length_nil, List.replicate_succ, List.replicate_zero, List.cons_append, List.nil_append, List.append_nil, List.getElem?_cons_zero, List.getElem?_cons_succ, List.set_cons_zero, List.set_cons_succ, Option.bind_some, Option.map_some, Nat.reduceAdd, Nat.reduceSub, fAdd_int, fSub_int, fNeg_int, gGcd_int, fGt_int, fLt_int, fLe_int, fTup2]; rfl, by simp only [eC, eVar, eVar2, eBin, eBin2, eBin3, eUn, eUn2, eNil, eCons, eCons2, eCons3, eFn, eFn2, eTst, eTst2, eIf, eIf_t, eIf_f, eAnd, eAnd_t, eAnd_f, eOr, eOr_t, eOr_f, eNot, eNot2, eCall, eCall2, eCallC, eSl, eSl2, eSl3, eSl4, eNo, ePart, ePart2, sNil_, sSeq_, sBrk_, sCnt_, sDrop_, sDrop2, sDropE, sRet_, sRet2, sRetE, sRetN_, sIf_, sIf_t, sIf_f, sSet_, sSet2, sSetE, setT_nm, setTs_nil, setTs_cons, optS_some, sPar2_, sPar22, sFor_, sFor2, cIter_, cIter_t, cIter_l, cIter_s, cItL_, cItL2, sRaise_, runF_, endR_nx, endR_rt, endR_err, opt_some, seq_nx, seq_rt, seq_bk, seq_ct, seq_err, startE, List.map_cons, List.map_nil, List.length_cons, List.length_nil, List.replicate_succ, List.replicate_zero, List.cons_append, List.nil_append, List.append_nil, List.getElem?_cons_zero, List.getElem?_cons_succ, List.set_cons_zero, List.set_cons_succ, Option.bind_some, Option.map_some, Nat.reduceAdd, Nat.reduceSub, fAdd_int, fSub_int, fNeg_int, gGcd_int, fGt_int, fLt_int, fLe_int, fTup2, r_times ((hz p hp).1.mono (show 20 ≤ 4000 by decide)) ((hz p hp).2.mono (show 20 ≤ 4000 by decide))]⟩) (by omega)
  have ht := r_totalK (M := M) (rs := (a.zip b).map fun p => p.1 * p.2) (fun r hr => by
    obtain ⟨p, hp, rfl⟩ := List.mem_map.mp hr
    exact (hz p hp).1.mulK (hz p hp).2) (by rw [List.length_map]; omega)
  rw [List.map_map] at ht
  have ht : f_total [.lst ((a.zip b).map fun p => qd (p.1 * p.2))] M = .ok (qd (qdot a b)) M := ht
  unfold f_dot b_dot
  simp only [eC, eVar, eVar2, eBin, eBin2, eBin3, eUn, eUn2, eNil, eCons, eCons2, eCons3, eFn, eFn2, eTst, eTst2, eIf, eIf_t, eIf_f, eAnd, eAnd_t, eAnd_f, eOr, eOr_t, eOr_f, eNot, eNot2, eCall, eCall2, eCallC, eSl, eSl2, eSl3, eSl4, eNo, ePart, ePart2, sNil_, sSeq_, sBrk_, sCnt_, sDrop_, sDrop2, sDropE, sRet_, sRet2, sRetE, sRetN_, sIf_, sIf_t, sIf_f, sSet_, sSet2, sSetE, setT_nm, setTs_nil, setTs_cons, optS_some, sPar2_, sPar22, sFor_, sFor2, cIter_, cIter_t, cIter_l, cIter_s, cItL_, cItL2, sRaise_, runF_, endR_nx, endR_rt, endR_err, opt_some, seq_nx, seq_rt, seq_bk, seq_ct, seq_err, startE, List.map_cons, List.map_nil, List.length_cons, List.length_nil, List.replicate_succ, List.replicate_zero, List.cons_append, List.nil_append, List.append_nil, List.getElem?_cons_zero, List.getElem?_cons_succ, List.set_cons_zero, List.set_cons_succ, Option.bind_some, Option.map_some, Nat.reduceAdd, Nat.reduceSub, fAdd_int, fSub_int, fNeg_int, gGcd_int, fGt_int, fLt_int, fLe_int, fTup2, zip_vv, eLc, eLc2, eLc3, wipe_nil, wipe_cons, hlc, ht]
theorem r__law_dot {a b : List Rat} (ha : ∀ r ∈ a, Sq 20 r) (hb : ∀ r ∈ b, Sq 20 r) (hl : a.length ≤ 200) : f__law_dot [vD a, vD b] M = .ok (qd (qdot a b)) M := by
  have hz := zip_sq ha hb
  have hzl : (a.zip b).length ≤ 200 := by rw [List.length_zip]; omega
  have hlc := lcL_map (M := M) (env := [.val (vD a), .val (vD b), .none, .none]) (it := ⟨(a.zip b).map fun p => .tup [qd p.1, qd p.2], []⟩) (t := .tp [(.nm 2), (.nm 3)]) (e := cCall f__law_times (cCons (cVar 2) (cCons (cVar 3) cNil))) (fun p : Rat × Rat => .tup [qd p.1, qd p.2]) (fun p => qd (p.1 * p.2)) depOk_nil (a.zip b)
    (fun p hp => ⟨_, by simp only [setT_t, eC, eVar, eVar2, eBin, eBin2, eBin3, eUn, eUn2, eNil, eCons, eCons2, eCons3, eFn, eFn2, eTst, eTst2, eIf, eIf_t, eIf_f, eAnd, eAnd_t, eAnd_f, eOr, eOr_t, eOr_f, eNot, eNot2, eCall, eCall2, eCallC, eSl, eSl2, eSl3, eSl4, eNo, ePart, ePart2, sNil_, sSeq_, sBrk_, sCnt_, sDrop_, sDrop2, sDropE, sRet_, sRet2, sRetE, sRetN_, sIf_, sIf_t, sIf_f, sSet_, sSet2, sSetE, setT_nm, setTs_nil, setTs_cons, optS_some, sPar2_, sPar22, sFor_, sFor2, cIter_, cIter_t, cIter_l, cIter_s, cItL_, cItL2, sRaise_, runF_, endR_nx, endR_rt, endR_err, opt_some, seq_nx, seq_rt, seq_bk, seq_ct, seq_err, startE, List.map_cons, List.map_nil, List.length_cons, List.length_nil, List.replicate_succ, List.replicate_zero, List.cons_append, List.nil_append, List.append_nil, List.getElem?_cons_zero, List.getElem?_cons_succ, List.set_cons_zero, List.set_cons_succ, Option.bind_some, Option.map_some, Nat.reduceAdd, Nat.reduceSub, fAdd_int, fSub_int, fNeg_int, gGcd_int, fGt_int, fLt_int, fLe_int, fTup2]; rfl, by simp only [eC, eVar, eVar2, eBin, eBin2, eBin3, eUn, eUn2, eNil, eCons, eCons2, eCons3, eFn, eFn2, eTst, eTst2, eIf, eIf_t, eIf_f, eAnd, eAnd_t, eAnd_f, eOr, eOr_t, eOr_f, eNot, eNot2, eCall, eCall2, eCallC, eSl, eSl2, eSl3, eSl4, eNo, ePart, ePart2, sNil_, sSeq_, sBrk_, sCnt_, sDrop_, sDrop2, sDropE, sRet_, sRet2, sRetE, sRetN_, sIf_, sIf_t, sIf_f, sSet_, sSet2, sSetE, setT_nm, setTs_nil, setTs_cons, optS_some, sPar2_, sPar22, sFor_, sFor2, cIter_, cIter_t, cIter_l, cIter_s, cItL_, cItL2, sRaise_, runF_, endR_nx, endR_rt, endR_err, opt_some, seq_nx, seq_rt, seq_bk, seq_ct, seq_err, startE, List.map_cons, List.map_nil, List.length_cons, List.length_nil, List.replicate_succ, List.replicate_zero, List.cons_append, List.nil_append, List.append_nil, List.getElem?_cons_zero, List.getElem?_cons_succ, List.set_cons_zero, List.set_cons_succ, Option.bind_some, Option.map_some, Nat.reduceAdd, Nat.reduceSub, fAdd_int, fSub_int, fNeg_int, gGcd_int, fGt_int, fLt_int, fLe_int, fTup2, r__law_times ((hz p hp).1.mono (show 20 ≤ 4000 by decide)) ((hz p hp).2.mono (show 20 ≤ 4000 by decide))]⟩) (by omega)
  have ht := r__law_sumK (M := M) (rs := (a.zip b).map fun p => p.1 * p.2) (fun r hr => by
    obtain ⟨p, hp, rfl⟩ := List.mem_map.mp hr
    exact (hz p hp).1.mulK (hz p hp).2) (by rw [List.length_map]; omega)
  rw [List.map_map] at ht
  have ht : f__law_sum [.lst ((a.zip b).map fun p => qd (p.1 * p.2))] M = .ok (qd (qdot a b)) M := ht
  unfold f__law_dot b__law_dot
  simp only [eC, eVar, eVar2, eBin, eBin2, eBin3, eUn, eUn2, eNil, eCons, eCons2, eCons3, eFn, eFn2, eTst, eTst2, eIf, eIf_t, eIf_f, eAnd, eAnd_t, eAnd_f, eOr, eOr_t, eOr_f, eNot, eNot2, eCall, eCall2, eCallC, eSl, eSl2, eSl3, eSl4, eNo, ePart, ePart2, sNil_, sSeq_, sBrk_, sCnt_, sDrop_, sDrop2, sDropE, sRet_, sRet2, sRetE, sRetN_, sIf_, sIf_t, sIf_f, sSet_, sSet2, sSetE, setT_nm, setTs_nil, setTs_cons, optS_some, sPar2_, sPar22, sFor_, sFor2, cIter_, cIter_t, cIter_l, cIter_s, cItL_, cItL2, sRaise_, runF_, endR_nx, endR_rt, endR_err, opt_some, seq_nx, seq_rt, seq_bk, seq_ct, seq_err, startE, List.map_cons, List.map_nil, List.length_cons, List.length_nil, List.replicate_succ, List.replicate_zero, List.cons_append, List.nil_append, List.append_nil, List.getElem?_cons_zero, List.getElem?_cons_succ, List.set_cons_zero, List.set_cons_succ, Option.bind_some, Option.map_some, Nat.reduceAdd, Nat.reduceSub, fAdd_int, fSub_int, fNeg_int, gGcd_int, fGt_int, fLt_int, fLe_int, fTup2, zip_vv, eLc, eLc2, eLc3, wipe_nil, wipe_cons, hlc, ht]
theorem len_v {l : List Rat} : gLen M [vD l] = some (.int l.length) := by
  unfold vD
  rw [gLen_tup, List.length_map]
theorem r_inner {a b : List Rat} (ha : ∀ r ∈ a, Sq 20 r) (hb : ∀ r ∈ b, Sq 20 r) (h1 : 1 ≤ a.length) (h2 : a.length ≤ 200) (hl : a.length = b.length) : f_inner [vD a, vD b] M = .ok (qd (qdot a b)) M := by
  unfold f_inner b_inner
  have va := r_is_vector_v (M := M) h1 h2 ha (by decide)
  have vb := r_is_vector_v (M := M) (l := b) (by omega) (by omega) hb (by decide)
  simp only [eC, eVar, eVar2, eBin, eBin2, eBin3, eUn, eUn2, eNil, eCons, eCons2, eCons3, eFn, eFn2, eTst, eTst2, eIf, eIf_t, eIf_f, eAnd, eAnd_t, eAnd_f, eOr, eOr_t, eOr_f, eNot, eNot2, eCall, eCall2, eCallC, eSl, eSl2, eSl3, eSl4, eNo, ePart, ePart2, sNil_, sSeq_, sBrk_, sCnt_, sDrop_, sDrop2, sDropE, sRet_, sRet2, sRetE, sRetN_, sIf_, sIf_t, sIf_f, sSet_, sSet2, sSetE, setT_nm, setTs_nil, setTs_cons, optS_some, sPar2_, sPar22, sFor_, sFor2, cIter_, cIter_t, cIter_l, cIter_s, cItL_, cItL2, sRaise_, runF_, endR_nx, endR_rt, endR_err, opt_some, seq_nx, seq_rt, seq_bk, seq_ct, seq_err, startE, List.map_cons, List.map_nil, List.length_cons, List.length_nil, List.replicate_succ, List.replicate_zero, List.cons_append, List.nil_append, List.append_nil, List.getElem?_cons_zero, List.getElem?_cons_succ, List.set_cons_zero, List.set_cons_succ, Option.bind_some, Option.map_some, Nat.reduceAdd, Nat.reduceSub, fAdd_int, fSub_int, fNeg_int, gGcd_int, fGt_int, fLt_int, fLe_int, fTup2, va, vb, len_v, fNe_int, decide_eq_true (show (a.length : Int) = b.length by omega), Bool.not_true, r_dot ha hb h2]
theorem same_qd {r : Rat} : f__law_same [qd r, qd r] M = .ok (.bl true) M := r_same rfl (by show 3 ≤ 1000; decide) (by show 1 ≤ 50; decide)
end
end K00

set_option Elab.async false
set_option linter.all false
set_option maxRecDepth 100000
set_option maxHeartbeats 4000000
namespace K00
open PySem PySem.Spec PyProof.Rows L2 DI
section
variable {M : Mem}
theorem r_scaled {c : Rat} {l : List Rat} (hc : Sq 4000 c) (hl : ∀ r ∈ l, Sq 4000 r) (hn : l.length ≤ 1000) : f_scaled [qd c, vD l] M = .ok (vD (l.map fun r => c * r)) M := by
  have hlc := lcL_map (M := M) (env := [.val (qd c), .val (vD l), .none]) (it := ⟨l.map qd, []⟩) (t := .nm 2) (e := cCall f_times (cCons (cVar 0) (cCons (cVar 2) cNil))) qd (fun r => qd (c * r)) depOk_nil l
    (fun r hr => ⟨_, setT_nm, by simp only [eC, eVar, eVar2, eBin, eBin2, eBin3, eUn, eUn2, eNil, eCons, eCons2, eCons3, eFn, eFn2, eTst, eTst2, eIf, eIf_t, eIf_f, eAnd, eAnd_t, eAnd_f, eOr, eOr_t, eOr_f, eNot, eNot2, eCall, eCall2, eCallC, eSl, eSl2, eSl3, eSl4, eNo, ePart, ePart2, sNil_, sSeq_, sBrk_, sCnt_, sDrop_, sDrop2, sDropE, sRet_, sRet2, sRetE, sRetN_, sIf_, sIf_t, sIf_f, sSet_, sSet2, sSetE, setT_nm, setTs_nil, setTs_cons, optS_some, sPar2_, sPar22, sFor_, sFor2, cIter_, cIter_t, cIter_l, cIter_s, cItL_, cItL2, sRaise_, runF_, endR_nx, endR_rt, endR_err, opt_some, seq_nx, seq_rt, seq_bk, seq_ct, seq_err, startE, List.map_cons, List.map_nil, List.length_cons, List.length_nil, List.replicate_succ, List.replicate_zero, List.cons_append, List.nil_append, List.append_nil, List.getElem?_cons_zero, List.getElem?_cons_succ, List.set_cons_zero, List.set_cons_succ, Option.bind_some, Option.map_some, Nat.reduceAdd, Nat.reduceSub, fAdd_int, fSub_int, fNeg_int, gGcd_int, fGt_int, fLt_int, fLe_int, fTup2, r_times hc (hl r hr)]⟩) hn
  have hT : gTuple M [.lst (l.map fun r => qd (c * r))] = some (vD (l.map fun r => c * r)) := by
    unfold vD
    rw [List.map_map]
    rfl
  have hv : vD l = .tup (l.map qd) := rfl
  unfold f_scaled b_scaled
  rw [hv] at hlc ⊢
  simp only [eC, eVar, eVar2, eBin, eBin2, eBin3, eUn, eUn2, eNil, eCons, eCons2, eCons3, eFn, eFn2, eTst, eTst2, eIf, eIf_t, eIf_f, eAnd, eAnd_t, eAnd_f, eOr, eOr_t, eOr_f, eNot, eNot2, eCall, eCall2, eCallC, eSl, eSl2, eSl3, eSl4, eNo, ePart, ePart2, sNil_, sSeq_, sBrk_, sCnt_, sDrop_, sDrop2, sDropE, sRet_, sRet2, sRetE, sRetN_, sIf_, sIf_t, sIf_f, sSet_, sSet2, sSetE, setT_nm, setTs_nil, setTs_cons, optS_some, sPar2_, sPar22, sFor_, sFor2, cIter_, cIter_t, cIter_l, cIter_s, cItL_, cItL2, sRaise_, runF_, endR_nx, endR_rt, endR_err, opt_some, seq_nx, seq_rt, seq_bk, seq_ct, seq_err, startE, List.map_cons, List.map_nil, List.length_cons, List.length_nil, List.replicate_succ, List.replicate_zero, List.cons_append, List.nil_append, List.append_nil, List.getElem?_cons_zero, List.getElem?_cons_succ, List.set_cons_zero, List.set_cons_succ, Option.bind_some, Option.map_some, Nat.reduceAdd, Nat.reduceSub, fAdd_int, fSub_int, fNeg_int, gGcd_int, fGt_int, fLt_int, fLe_int, fTup2, eLc, eLc2, eLc3, wipe_nil, wipe_cons, hlc, hT]
theorem r_added {a b : List Rat} {m n : Nat} (ha : ∀ r ∈ a, Sq m r) (hb : ∀ r ∈ b, Sq n r) (hk : m + n ≤ 8990) (hn : a.length ≤ 1000) : f_added [vD a, vD b] M = .ok (vD (List.zipWith (· + ·) a b)) M := by
  have hzl : (a.zip b).length ≤ 1000 := by rw [List.length_zip]; omega
  have hlc := lcL_map (M := M) (env := [.val (vD a), .val (vD b), .none, .none]) (it := ⟨(a.zip b).map fun p => .tup [qd p.1, qd p.2], []⟩) (t := .tp [(.nm 2), (.nm 3)]) (e := cCall f_plus (cCons (cVar 2) (cCons (cVar 3) cNil))) (fun p : Rat × Rat => .tup [qd p.1, qd p.2]) (fun p => qd (p.1 + p.2)) depOk_nil (a.zip b)
    (fun p hp => ⟨_, by simp only [setT_t, eC, eVar, eVar2, eBin, eBin2, eBin3, eUn, eUn2, eNil, eCons, eCons2, eCons3, eFn, eFn2, eTst, eTst2, eIf, eIf_t, eIf_f, eAnd, eAnd_t, eAnd_f, eOr, eOr_t, eOr_f, eNot, eNot2, eCall, eCall2, eCallC, eSl, eSl2, eSl3, eSl4, eNo, ePart, ePart2, sNil_, sSeq_, sBrk_, sCnt_, sDrop_, sDrop2, sDropE, sRet_, sRet2, sRetE, sRetN_, sIf_, sIf_t, sIf_f, sSet_, sSet2, sSetE, setT_nm, setTs_nil, setTs_cons, optS_some, sPar2_, sPar22, sFor_, sFor2, cIter_, cIter_t, cIter_l, cIter_s, cItL_, cItL2, sRaise_, runF_, endR_nx, endR_rt, endR_err, opt_some, seq_nx, seq_rt, seq_bk, seq_ct, seq_err, startE, List.map_cons, List.map_nil, List.length_cons, List.length_nil, List.replicate_succ, List.replicate_zero, List.cons_append, List.nil_append, List.append_nil, List.getElem?_cons_zero, List.getElem?_cons_succ, List.set_cons_zero, List.set_cons_succ, Option.bind_some, Option.map_some, Nat.reduceAdd, Nat.reduceSub, fAdd_int, fSub_int, fNeg_int, gGcd_int, fGt_int, fLt_int, fLe_int, fTup2]; rfl, by
      have := List.of_mem_zip hp
      simp only [eC, eVar, eVar2, eBin, eBin2, eBin3, eUn, eUn2, eNil, eCons, eCons2, eCons3, eFn, eFn2, eTst, eTst2, eIf, eIf_t, eIf_f, eAnd, eAnd_t, eAnd_f, eOr, eOr_t, eOr_f, eNot, eNot2, eCall, eCall2, eCallC, eSl, eSl2, eSl3, eSl4, eNo, ePart, ePart2, sNil_, sSeq_, sBrk_, sCnt_, sDrop_, sDrop2, sDropE, sRet_, sRet2, sRetE, sRetN_, sIf_, sIf_t, sIf_f, sSet_, sSet2, sSetE, setT_nm, setTs_nil, setTs_cons, optS_some, sPar2_, sPar22, sFor_, sFor2, cIter_, cIter_t, cIter_l, cIter_s, cItL_, cItL2, sRaise_, runF_, endR_nx, endR_rt, endR_err, opt_some, seq_nx, seq_rt, seq_bk, seq_ct, seq_err, startE, List.map_cons, List.map_nil, List.length_cons, List.length_nil, List.replicate_succ, List.replicate_zero, List.cons_append, List.nil_append, List.append_nil, List.getElem?_cons_zero, List.getElem?_cons_succ, List.set_cons_zero, List.set_cons_succ, Option.bind_some, Option.map_some, Nat.reduceAdd, Nat.reduceSub, fAdd_int, fSub_int, fNeg_int, gGcd_int, fGt_int, fLt_int, fLe_int, fTup2, r_plusK (ha _ this.1) (hb _ this.2) hk]⟩) hzl
  have hT : gTuple M [.lst ((a.zip b).map fun p => qd (p.1 + p.2))] = some (vD (List.zipWith (· + ·) a b)) := by
    unfold vD
    rw [← List.map_uncurry_zip_eq_zipWith, List.map_map]
    rfl
  unfold f_added b_added
  simp only [eC, eVar, eVar2, eBin, eBin2, eBin3, eUn, eUn2, eNil, eCons, eCons2, eCons3, eFn, eFn2, eTst, eTst2, eIf, eIf_t, eIf_f, eAnd, eAnd_t, eAnd_f, eOr, eOr_t, eOr_f, eNot, eNot2, eCall, eCall2, eCallC, eSl, eSl2, eSl3, eSl4, eNo, ePart, ePart2, sNil_, sSeq_, sBrk_, sCnt_, sDrop_, sDrop2, sDropE, sRet_, sRet2, sRetE, sRetN_, sIf_, sIf_t, sIf_f, sSet_, sSet2, sSetE, setT_nm, setTs_nil, setTs_cons, optS_some, sPar2_, sPar22, sFor_, sFor2, cIter_, cIter_t, cIter_l, cIter_s, cItL_, cItL2, sRaise_, runF_, endR_nx, endR_rt, endR_err, opt_some, seq_nx, seq_rt, seq_bk, seq_ct, seq_err, startE, List.map_cons, List.map_nil, List.length_cons, List.length_nil, List.replicate_succ, List.replicate_zero, List.cons_append, List.nil_append, List.append_nil, List.getElem?_cons_zero, List.getElem?_cons_succ, List.set_cons_zero, List.set_cons_succ, Option.bind_some, Option.map_some, Nat.reduceAdd, Nat.reduceSub, fAdd_int, fSub_int, fNeg_int, gGcd_int, fGt_int, fLt_int, fLe_int, fTup2, zip_vv, eLc, eLc2, eLc3, wipe_nil, wipe_cons, hlc, hT]
def mixL (acc : List Rat) (ps : List (Rat × List Rat)) : List Rat := ps.foldl (fun acc p => List.zipWith (· + ·) acc (p.2.map fun r => p.1 * r)) acc
def dW (p : Rat × List Rat) : D := .tup [qd p.1, vD p.2]
theorem zw_sq {a b : List Rat} {m n : Nat} (ha : ∀ r ∈ a, Sq m r) (hb : ∀ r ∈ b, Sq n r) : ∀ r ∈ List.zipWith (· + ·) a b, Sq (m + n + 1) r := fun r hr => by
  rw [← List.map_uncurry_zip_eq_zipWith] at hr
  obtain ⟨p, hp, rfl⟩ := List.mem_map.mp hr
  have := List.of_mem_zip hp
  exact (ha _ this.1).addK (hb _ this.2)
theorem mix_loop {it : ItD} (hM : DepOk it M) {e0 e1 : Sl} : ∀ (ps : List (Rat × List Rat)) (acc : List Rat) (k : Nat) (e3 e4 : Sl), (∀ p ∈ ps, Sq 7 p.1 ∧ (∀ r ∈ p.2, Sq 7 r) ∧ p.2.length ≤ 1000) → (∀ r ∈ acc, Sq k r) → k + 15 * ps.length ≤ 8900 → acc.length ≤ 1000 →
    ∃ s3 s4, forL it (.tp [(.nm 3), (.nm 4)]) (sSet (.nm 2) (cCall f_added (cCons (cVar 2) (cCons (cCall f_scaled (cCons (cVar 3) (cCons (cVar 4) cNil))) cNil)))) (ps.map dW) [e0, e1, .val (vD acc), e3, e4] M = .nx [e0, e1, .val (vD (mixL acc ps)), s3, s4] M
  | [], acc, k, e3, e4, _, _, _, _ => ⟨e3, e4, by rw [List.map_nil, forL_nil hM]; rfl⟩
  | p :: ps, acc, k, e3, e4, h1, h2, h3, h4 => by
    rw [List.length_cons] at h3
    obtain ⟨c1, c2, c3⟩ := h1 p List.mem_cons_self
    have hsc : ∀ r ∈ p.2.map (fun r => p.1 * r), Sq 14 r := fun r hr => by
      obtain ⟨x, hx, rfl⟩ := List.mem_map.mp hr
      exact c1.mulK (c2 x hx)
    obtain ⟨s3, s4, e⟩ := mix_loop hM (e0 := e0) (e1 := e1) ps (List.zipWith (· + ·) acc (p.2.map fun r => p.1 * r)) (k + 14 + 1) (.val (qd p.1)) (.val (vD p.2)) (fun q hq => h1 q (List.mem_cons_of_mem _ hq)) (zw_sq h2 hsc) (by omega) (by rw [List.length_zipWith]; omega)
    refine ⟨s3, s4, ?_⟩
    rw [List.map_cons, forL_cons hM]
    have hd : dW p = .tup [qd p.1, vD p.2] := rfl
    simp only [hd, setT_t, eC, eVar, eVar2, eBin, eBin2, eBin3, eUn, eUn2, eNil, eCons, eCons2, eCons3, eFn, eFn2, eTst, eTst2, eIf, eIf_t, eIf_f, eAnd, eAnd_t, eAnd_f, eOr, eOr_t, eOr_f, eNot, eNot2, eCall, eCall2, eCallC, eSl, eSl2, eSl3, eSl4, eNo, ePart, ePart2, sNil_, sSeq_, sBrk_, sCnt_, sDrop_, sDrop2, sDropE, sRet_, sRet2, sRetE, sRetN_, sIf_, sIf_t, sIf_f, sSet_, sSet2, sSetE, setT_nm, setTs_nil, setTs_cons, optS_some, sPar2_, sPar22, sFor_, sFor2, cIter_, cIter_t, cIter_l, cIter_s, cItL_, cItL2, sRaise_, runF_, endR_nx, endR_rt, endR_err, opt_some, seq_nx, seq_rt, seq_bk, seq_ct, seq_err, startE, List.map_cons, List.map_nil, List.length_cons, List.length_nil, List.replicate_succ, List.replicate_zero, List.cons_append, List.nil_append, List.append_nil, List.getElem?_cons_zero, List.getElem?_cons_succ, List.set_cons_zero, List.set_cons_succ, Option.bind_some, Option.map_some, Nat.reduceAdd, Nat.reduceSub, fAdd_int, fSub_int, fNeg_int, gGcd_int, fGt_int, fLt_int, fLe_int, fTup2, r_scaled (c1.mono (show 7 ≤ 4000 by decide)) (fun r hr => (c2 r hr).mono (show 7 ≤ 4000 by decide)) c3, r_added h2 hsc (show k + 14 ≤ 8990 by omega) h4]
    rw [turn_nx, e]
    rfl
def mixR (w : Nat) (ps : List (Rat × List Rat)) : List Rat := (List.range w).map fun at' => rsum (ps.map fun p => p.1 * p.2.getD at' 0)
theorem mixL_eq {w : Nat} : ∀ (ps : List (Rat × List Rat)) (acc : List Rat), acc.length = w → (∀ p ∈ ps, p.2.length = w) → mixL acc ps = (List.range w).map fun i => acc.getD i 0 + rsum (ps.map fun p => p.1 * p.2.getD i 0)
  | [], acc, h, _ => by
    show acc = _
    refine List.ext_getElem (by rw [List.length_map, List.length_range, h]) fun i h1 h2 => ?_
    rw [List.getElem_map, List.getElem_range]
    show acc[i] = acc.getD i 0 + 0
    rw [Rat.add_zero, List.getD_eq_getElem?_getD, List.getElem?_eq_getElem h1]
    rfl
  | p :: ps, acc, h, hp => by
    have hw := hp p List.mem_cons_self
    show mixL (List.zipWith (· + ·) acc (p.2.map fun r => p.1 * r)) ps = _
    rw [mixL_eq ps _ (by rw [List.length_zipWith, List.length_map, h, hw, Nat.min_self]) fun q hq => hp q (List.mem_cons_of_mem _ hq)]
    refine List.map_congr_left fun i hi => ?_
    have hi : i < w := List.mem_range.mp hi
    have e : (List.zipWith (· + ·) acc (p.2.map fun r => p.1 * r)).getD i 0 = acc.getD i 0 + p.1 * p.2.getD i 0 := by
      rw [List.getD_eq_getElem?_getD, List.getD_eq_getElem?_getD, List.getD_eq_getElem?_getD, List.getElem?_zipWith, List.getElem?_map, List.getElem?_eq_getElem (show i < acc.length by omega), List.getElem?_eq_getElem (show i < p.2.length by omega)]
      rfl
    rw [e, List.map_cons, Rat.add_assoc]
    rfl
theorem mixL_zero {w : Nat} {ps : List (Rat × List Rat)} (hp : ∀ p ∈ ps, p.2.length = w) : mixL (List.replicate w 0) ps = mixR w ps := by
  rw [mixL_eq ps _ List.length_replicate hp]
  refine List.map_congr_left fun i hi => ?_
  have hi : i < w := List.mem_range.mp hi
  rw [List.getD_eq_getElem?_getD, List.getElem?_replicate, if_pos hi]
  exact Rat.zero_add _
end
end K00

set_option Elab.async false
set_option linter.all false
set_option maxRecDepth 100000
set_option maxHeartbeats 4000000
namespace K00
open PySem PySem.Spec PyProof.Rows L2 DI
section
variable {M : Mem}
/-- rows, in a list or in a tuple -/
def rD (b : Bool) (rows : List D) : D := if b then .tup rows else .lst rows
theorem rD_isi {b : Bool} {rows : List D} : gIsi anc M [rD b rows, .tup [.ty "list", .ty "tuple"]] = some (.bl true) := by cases b <;> rfl
theorem rD_len {b : Bool} {rows : List D} : gLen M [rD b rows] = some (.int rows.length) := by cases b <;> rfl
theorem rD_0 {b : Bool} {rows : List D} {d : D} (h : rows[0]? = some d) : fIx M (rD b rows) (.int 0) = some d := by
  have : atI rows (0 : Nat) = some d := atI_nat h
  cases b <;> exact this
theorem rD_seq {b : Bool} {rows : List D} : seqD M (rD b rows) = some ⟨rows, []⟩ := by cases b <;> rfl
theorem rD_zip {b : Bool} {ws : List Rat} {rows : List (List Rat)} : zipD M [vD ws, rD b (rows.map vD)] = some ⟨(ws.zip rows).map dW, []⟩ := by
  have h := zipL_map qd vD ws rows
  have e : (fun a : Rat × List Rat => D.tup [qd a.1, vD a.2]) = dW := rfl
  rw [e] at h
  rw [← h]
  cases b <;> rfl
theorem rD_enum {b : Bool} {rows : List D} : enumD M [rD b rows] = some ⟨enumL 0 rows, []⟩ := by cases b <;> rfl
/-- rows of one length -/
structure RowsOk (w : Nat) (rows : List (List Rat)) : Prop where
  len : ∀ r ∈ rows, r.length = w
  sq : ∀ r ∈ rows, ∀ x ∈ r, Sq 7 x
  w1 : 1 ≤ w
  w2 : w ≤ 200
theorem need_loop {it : ItD} (hM : DepOk it M) {b : Bool} {rows : List D} {d0 : D} {w : Nat} (h0 : rows[0]? = some d0) (hd0 : gLen M [d0] = some (.int w)) : ∀ (ds : List D) (n : Nat) (e1 e2 : Sl), (∀ d ∈ ds, f_is_vector [d] M = .ok (.bl true) M ∧ gLen M [d] = some (.int w)) →
    ∃ s1 s2, forL it (.tp [(.nm 1), (.nm 2)]) (sIf (cOr (cNot (cCall f_is_vector (cCons (cVar 2) cNil))) (cBin fNe (cFn gLen (cCons (cVar 2) cNil)) (cFn gLen (cCons (cBin fIx (cVar 0) (cC (.int 0))) cNil)))) (sRaiseI "BadRows" "index" (cVar 1)) sNil) (enumL n ds) [.val (rD b rows), e1, e2] M = .nx [.val (rD b rows), s1, s2] M
  | [], n, e1, e2, _ => ⟨e1, e2, by unfold enumL; rw [forL_nil hM]⟩
  | d :: ds, n, e1, e2, h => by
    obtain ⟨v, l⟩ := h d List.mem_cons_self
    obtain ⟨s1, s2, e⟩ := need_loop hM (b := b) h0 hd0 ds (n + 1) (.val (.int (n : Nat))) (.val d) (fun x hx => h x (List.mem_cons_of_mem _ hx))
    refine ⟨s1, s2, ?_⟩
    unfold enumL
    rw [forL_cons hM]
    simp only [setT_t, eC, eVar, eVar2, eBin, eBin2, eBin3, eUn, eUn2, eNil, eCons, eCons2, eCons3, eFn, eFn2, eTst, eTst2, eIf, eIf_t, eIf_f, eAnd, eAnd_t, eAnd_f, eOr, eOr_t, eOr_f, eNot, eNot2, eCall, eCall2, eCallC, eSl, eSl2, eSl3, eSl4, eNo, ePart, ePart2, sNil_, sSeq_, sBrk_, sCnt_, sDrop_, sDrop2, sDropE, sRet_, sRet2, sRetE, sRetN_, sIf_, sIf_t, sIf_f, sSet_, sSet2, sSetE, setT_nm, setTs_nil, setTs_cons, optS_some, sPar2_, sPar22, sFor_, sFor2, cIter_, cIter_t, cIter_l, cIter_s, cItL_, cItL2, sRaise_, runF_, endR_nx, endR_rt, endR_err, opt_some, seq_nx, seq_rt, seq_bk, seq_ct, seq_err, startE, List.map_cons, List.map_nil, List.length_cons, List.length_nil, List.replicate_succ, List.replicate_zero, List.cons_append, List.nil_append, List.append_nil, List.getElem?_cons_zero, List.getElem?_cons_succ, List.set_cons_zero, List.set_cons_succ, Option.bind_some, Option.map_some, Nat.reduceAdd, Nat.reduceSub, fAdd_int, fSub_int, fNeg_int, gGcd_int, fGt_int, fLt_int, fLe_int, fTup2, v, Bool.not_true, l, rD_0 h0, hd0, fNe_int, decide_true]
    rw [turn_nx, e]
theorem r_need_rows {b : Bool} {w : Nat} {rows : List (List Rat)} (h : RowsOk w rows) (h1 : 1 ≤ rows.length) (h2 : rows.length ≤ 200) : f_need_rows [rD b (rows.map vD)] M = .ok .non M := by
  have h0 : (rows.map vD)[0]? = some (vD (rows[0]'h1)) := by rw [List.getElem?_map, List.getElem?_eq_getElem h1]; rfl
  have hd0 : gLen M [vD (rows[0]'h1)] = some (.int w) := by rw [len_v, h.len _ (List.getElem_mem h1)]
  obtain ⟨s1, s2, e⟩ := need_loop (M := M) (it := ⟨enumL 0 (rows.map vD), []⟩) depOk_nil (b := b) h0 hd0 (rows.map vD) 0 .none .none (fun d hd => by
    obtain ⟨r, hr, rfl⟩ := List.mem_map.mp hd
    have := h.len r hr
    have w1 := h.w1
    have w2 := h.w2
    exact ⟨r_is_vector_v (by omega) (by omega) (h.sq r hr) (by decide), by rw [len_v, this]⟩)
  unfold f_need_rows b_need_rows
  have e1 : decide ((1 : Int) ≤ rows.length) = true := decide_eq_true (by omega)
  have e2 : decide ((rows.length : Int) ≤ 200) = true := decide_eq_true (by omega)
  have ht : fTup M [.ty "list", .ty "tuple"] = some (.tup [.ty "list", .ty "tuple"]) := rfl
  simp only [eC, eVar, eVar2, eBin, eBin2, eBin3, eUn, eUn2, eNil, eCons, eCons2, eCons3, eFn, eFn2, eTst, eTst2, eIf, eIf_t, eIf_f, eAnd, eAnd_t, eAnd_f, eOr, eOr_t, eOr_f, eNot, eNot2, eCall, eCall2, eCallC, eSl, eSl2, eSl3, eSl4, eNo, ePart, ePart2, sNil_, sSeq_, sBrk_, sCnt_, sDrop_, sDrop2, sDropE, sRet_, sRet2, sRetE, sRetN_, sIf_, sIf_t, sIf_f, sSet_, sSet2, sSetE, setT_nm, setTs_nil, setTs_cons, optS_some, sPar2_, sPar22, sFor_, sFor2, cIter_, cIter_t, cIter_l, cIter_s, cItL_, cItL2, sRaise_, runF_, endR_nx, endR_rt, endR_err, opt_some, seq_nx, seq_rt, seq_bk, seq_ct, seq_err, startE, List.map_cons, List.map_nil, List.length_cons, List.length_nil, List.replicate_succ, List.replicate_zero, List.cons_append, List.nil_append, List.append_nil, List.getElem?_cons_zero, List.getElem?_cons_succ, List.set_cons_zero, List.set_cons_succ, Option.bind_some, Option.map_some, Nat.reduceAdd, Nat.reduceSub, fAdd_int, fSub_int, fNeg_int, gGcd_int, fGt_int, fLt_int, fLe_int, fTup2, ht, rD_isi, Bool.not_true, eCh, eChA, eChB, rD_len, List.length_map, e1, e2, d_MOST, eChC_t, eCh4, rD_enum, e]
theorem zeros {w : Nat} (hw : w ≤ 1000) : fMul M (.tup [d_ZERO]) (.int w) = some (vD (List.replicate w 0)) := by
  show (if (0 : Int) ≤ w ∧ (w : Int) ≤ 1000 ∧ 1 ≤ [d_ZERO].length ∧ [d_ZERO].length ≤ 1000 then some (D.tup (List.replicate (w : Int).toNat [d_ZERO]).flatten) else none) = _
  rw [if_pos ⟨by omega, by omega, by show 1 ≤ 1; omega, by show 1 ≤ 1000; omega⟩]
  unfold vD
  rw [List.map_replicate, Int.toNat_natCast]
  congr 2
  have : ∀ n : Nat, (List.replicate n [d_ZERO]).flatten = List.replicate n (qd 0) := fun n => by
    induction n with
    | zero => rfl
    | succ n ih => rw [List.replicate_succ, List.flatten_cons, ih, List.replicate_succ]; rfl
  exact this w
theorem r_mixed {b : Bool} {w : Nat} {ws : List Rat} {rows : List (List Rat)} (hw : ∀ x ∈ ws, Sq 7 x) (h : RowsOk w rows) (h1 : 1 ≤ rows.length) (hl : ws.length ≤ 200) : f_mixed [vD ws, rD b (rows.map vD)] M = .ok (vD (mixR w (ws.zip rows))) M := by
  have h0 : (rows.map vD)[0]? = some (vD (rows[0]'h1)) := by rw [List.getElem?_map, List.getElem?_eq_getElem h1]; rfl
  have hd0 : gLen M [vD (rows[0]'h1)] = some (.int w) := by rw [len_v, h.len _ (List.getElem_mem h1)]
  have w2 := h.w2
  have hz : ∀ p ∈ ws.zip rows, Sq 7 p.1 ∧ (∀ r ∈ p.2, Sq 7 r) ∧ p.2.length ≤ 1000 := fun p hp => by
    have := List.of_mem_zip hp
    exact ⟨hw _ this.1, h.sq _ this.2, by have := h.len _ this.2; omega⟩
  have hzl : (ws.zip rows).length ≤ 200 := by rw [List.length_zip]; omega
  obtain ⟨s3, s4, e⟩ := mix_loop (M := M) (it := ⟨(ws.zip rows).map dW, []⟩) depOk_nil (e0 := .val (vD ws)) (e1 := .val (rD b (rows.map vD))) (ws.zip rows) (List.replicate w 0) 1 .none .none hz (fun r hr => by rw [List.eq_of_mem_replicate hr]; exact sq_zero) (by omega) (by rw [List.length_replicate]; omega)
  rw [mixL_zero fun p hp => h.len _ (List.of_mem_zip hp).2] at e
  unfold f_mixed b_mixed
  have ht : fTup M [d_ZERO] = some (.tup [d_ZERO]) := rfl
  simp only [eC, eVar, eVar2, eBin, eBin2, eBin3, eUn, eUn2, eNil, eCons, eCons2, eCons3, eFn, eFn2, eTst, eTst2, eIf, eIf_t, eIf_f, eAnd, eAnd_t, eAnd_f, eOr, eOr_t, eOr_f, eNot, eNot2, eCall, eCall2, eCallC, eSl, eSl2, eSl3, eSl4, eNo, ePart, ePart2, sNil_, sSeq_, sBrk_, sCnt_, sDrop_, sDrop2, sDropE, sRet_, sRet2, sRetE, sRetN_, sIf_, sIf_t, sIf_f, sSet_, sSet2, sSetE, setT_nm, setTs_nil, setTs_cons, optS_some, sPar2_, sPar22, sFor_, sFor2, cIter_, cIter_t, cIter_l, cIter_s, cItL_, cItL2, sRaise_, runF_, endR_nx, endR_rt, endR_err, opt_some, seq_nx, seq_rt, seq_bk, seq_ct, seq_err, startE, List.map_cons, List.map_nil, List.length_cons, List.length_nil, List.replicate_succ, List.replicate_zero, List.cons_append, List.nil_append, List.append_nil, List.getElem?_cons_zero, List.getElem?_cons_succ, List.set_cons_zero, List.set_cons_succ, Option.bind_some, Option.map_some, Nat.reduceAdd, Nat.reduceSub, fAdd_int, fSub_int, fNeg_int, gGcd_int, fGt_int, fLt_int, fLe_int, fTup2, ht, rD_0 h0, hd0, zeros (show w ≤ 1000 by omega), rD_zip, e]
theorem r_combined {b : Bool} {w : Nat} {ws : List Rat} {rows : List (List Rat)} (hw : ∀ x ∈ ws, Sq 7 x) (h : RowsOk w rows) (h1 : 1 ≤ rows.length) (hl : ws.length = rows.length) (hl2 : ws.length ≤ 200) : f_combined [vD ws, rD b (rows.map vD)] M = .ok (vD (mixR w (ws.zip rows))) M := by
  have hv := r_is_vector_v (M := M) (l := ws) (by omega) hl2 hw (by decide)
  unfold f_combined b_combined
  have ht : fTup M [.ty "list", .ty "tuple"] = some (.tup [.ty "list", .ty "tuple"]) := rfl
  simp only [eC, eVar, eVar2, eBin, eBin2, eBin3, eUn, eUn2, eNil, eCons, eCons2, eCons3, eFn, eFn2, eTst, eTst2, eIf, eIf_t, eIf_f, eAnd, eAnd_t, eAnd_f, eOr, eOr_t, eOr_f, eNot, eNot2, eCall, eCall2, eCallC, eSl, eSl2, eSl3, eSl4, eNo, ePart, ePart2, sNil_, sSeq_, sBrk_, sCnt_, sDrop_, sDrop2, sDropE, sRet_, sRet2, sRetE, sRetN_, sIf_, sIf_t, sIf_f, sSet_, sSet2, sSetE, setT_nm, setTs_nil, setTs_cons, optS_some, sPar2_, sPar22, sFor_, sFor2, cIter_, cIter_t, cIter_l, cIter_s, cItL_, cItL2, sRaise_, runF_, endR_nx, endR_rt, endR_err, opt_some, seq_nx, seq_rt, seq_bk, seq_ct, seq_err, startE, List.map_cons, List.map_nil, List.length_cons, List.length_nil, List.replicate_succ, List.replicate_zero, List.cons_append, List.nil_append, List.append_nil, List.getElem?_cons_zero, List.getElem?_cons_succ, List.set_cons_zero, List.set_cons_succ, Option.bind_some, Option.map_some, Nat.reduceAdd, Nat.reduceSub, fAdd_int, fSub_int, fNeg_int, gGcd_int, fGt_int, fLt_int, fLe_int, fTup2, hv, Bool.not_true, ht, rD_isi, rD_len, List.length_map, len_v, fNe_int, decide_eq_true (show (rows.length : Int) = ws.length by omega), r_need_rows (M := M) (b := b) h h1 (show rows.length ≤ 200 by omega), r_mixed (M := M) (b := b) hw h h1 hl2]
theorem r__law_mixed {w : Nat} {ws : List Rat} {rows : List (List Rat)} (hw : ∀ x ∈ ws, Sq 7 x) (h : RowsOk w rows) (hl2 : ws.length ≤ 200) : f__law_mixed [vD ws, .lst (rows.map vD), .int w] M = .ok (vD (mixR w (ws.zip rows))) M := by
  have w2 := h.w2
  have hzl : (ws.zip rows).length ≤ 200 := by rw [List.length_zip]; omega
  have hz : zipD M [vD ws, .lst (rows.map vD)] = some ⟨(ws.zip rows).map dW, []⟩ := rD_zip (b := false)
  have hout := lcL_map (M := M) (env := [.val (vD ws), .val (.lst (rows.map vD)), .val (.int w), .none, .none, .none]) (it := ⟨rangeD 0 w, []⟩) (t := .nm 3)
    (e := cCall f__law_sum (cCons (cLc (cItL zipD (cCons (cVar 0) (cCons (cVar 1) cNil))) (.tp [(.nm 4), (.nm 5)]) cYes (cCall f__law_times (cCons (cVar 4) (cCons (cBin fIx (cVar 5) (cVar 3)) cNil))) [4, 5]) cNil))
    (fun i : Nat => .int (0 + (i : Nat))) (fun i => qd (rsum ((ws.zip rows).map fun p => p.1 * p.2.getD i 0))) depOk_nil (List.range w)
    (fun i hi => ⟨_, setT_nm, by
      have hi : i < w := List.mem_range.mp hi
      have hin := lcL_map (M := M) (env := [.val (vD ws), .val (.lst (rows.map vD)), .val (.int w), .val (.int (0 + (i : Nat))), .none, .none]) (it := ⟨(ws.zip rows).map dW, []⟩) (t := .tp [(.nm 4), (.nm 5)]) (e := cCall f__law_times (cCons (cVar 4) (cCons (cBin fIx (cVar 5) (cVar 3)) cNil))) dW (fun p => qd (p.1 * p.2.getD i 0)) depOk_nil (ws.zip rows)
        (fun p hp => ⟨_, by
          have hd : dW p = .tup [qd p.1, vD p.2] := rfl
          rw [hd]
          simp only [setT_t, eC, eVar, eVar2, eBin, eBin2, eBin3, eUn, eUn2, eNil, eCons, eCons2, eCons3, eFn, eFn2, eTst, eTst2, eIf, eIf_t, eIf_f, eAnd, eAnd_t, eAnd_f, eOr, eOr_t, eOr_f, eNot, eNot2, eCall, eCall2, eCallC, eSl, eSl2, eSl3, eSl4, eNo, ePart, ePart2, sNil_, sSeq_, sBrk_, sCnt_, sDrop_, sDrop2, sDropE, sRet_, sRet2, sRetE, sRetN_, sIf_, sIf_t, sIf_f, sSet_, sSet2, sSetE, setT_nm, setTs_nil, setTs_cons, optS_some, sPar2_, sPar22, sFor_, sFor2, cIter_, cIter_t, cIter_l, cIter_s, cItL_, cItL2, sRaise_, runF_, endR_nx, endR_rt, endR_err, opt_some, seq_nx, seq_rt, seq_bk, seq_ct, seq_err, startE, List.map_cons, List.map_nil, List.length_cons, List.length_nil, List.replicate_succ, List.replicate_zero, List.cons_append, List.nil_append, List.append_nil, List.getElem?_cons_zero, List.getElem?_cons_succ, List.set_cons_zero, List.set_cons_succ, Option.bind_some, Option.map_some, Nat.reduceAdd, Nat.reduceSub, fAdd_int, fSub_int, fNeg_int, gGcd_int, fGt_int, fLt_int, fLe_int, fTup2]
          rfl, by
          have hm := List.of_mem_zip hp
          have hlen := h.len _ hm.2
          have hx : fIx M (vD p.2) (.int (0 + (i : Nat))) = some (qd (p.2.getD i 0)) := by
            rw [Int.zero_add]
            show atI (p.2.map qd) (i : Nat) = _
            refine atI_nat ?_
            rw [List.getElem?_map, List.getElem?_eq_getElem (show i < p.2.length by omega), List.getD_eq_getElem?_getD, List.getElem?_eq_getElem (show i < p.2.length by omega)]
            rfl
          have hs : Sq 7 (p.2.getD i 0) := by
            rw [List.getD_eq_getElem?_getD, List.getElem?_eq_getElem (show i < p.2.length by omega)]
            exact h.sq _ hm.2 _ (List.getElem_mem _)
          simp only [eC, eVar, eVar2, eBin, eBin2, eBin3, eUn, eUn2, eNil, eCons, eCons2, eCons3, eFn, eFn2, eTst, eTst2, eIf, eIf_t, eIf_f, eAnd, eAnd_t, eAnd_f, eOr, eOr_t, eOr_f, eNot, eNot2, eCall, eCall2, eCallC, eSl, eSl2, eSl3, eSl4, eNo, ePart, ePart2, sNil_, sSeq_, sBrk_, sCnt_, sDrop_, sDrop2, sDropE, sRet_, sRet2, sRetE, sRetN_, sIf_, sIf_t, sIf_f, sSet_, sSet2, sSetE, setT_nm, setTs_nil, setTs_cons, optS_some, sPar2_, sPar22, sFor_, sFor2, cIter_, cIter_t, cIter_l, cIter_s, cItL_, cItL2, sRaise_, runF_, endR_nx, endR_rt, endR_err, opt_some, seq_nx, seq_rt, seq_bk, seq_ct, seq_err, startE, List.map_cons, List.map_nil, List.length_cons, List.length_nil, List.replicate_succ, List.replicate_zero, List.cons_append, List.nil_append, List.append_nil, List.getElem?_cons_zero, List.getElem?_cons_succ, List.set_cons_zero, List.set_cons_succ, Option.bind_some, Option.map_some, Nat.reduceAdd, Nat.reduceSub, fAdd_int, fSub_int, fNeg_int, gGcd_int, fGt_int, fLt_int, fLe_int, fTup2, hx, r__law_times ((hw _ hm.1).mono (show 7 ≤ 4000 by decide)) (hs.mono (show 7 ≤ 4000 by decide))]⟩) (by omega)
      have ht := r__law_sumK (M := M) (rs := (ws.zip rows).map fun p => p.1 * p.2.getD i 0) (fun r hr => by
        obtain ⟨p, hp, rfl⟩ := List.mem_map.mp hr
        have hm := List.of_mem_zip hp
        have hlen := h.len _ hm.2
        have hs : Sq 7 (p.2.getD i 0) := by
          rw [List.getD_eq_getElem?_getD, List.getElem?_eq_getElem (show i < p.2.length by omega)]
          exact h.sq _ hm.2 _ (List.getElem_mem _)
        exact ((hw _ hm.1).mulK hs).mono (by decide)) (by rw [List.length_map]; omega)
      rw [List.map_map] at ht
      have ht : f__law_sum [.lst ((ws.zip rows).map fun p => qd (p.1 * p.2.getD i 0))] M = .ok (qd (rsum ((ws.zip rows).map fun p => p.1 * p.2.getD i 0))) M := ht
      simp only [eC, eVar, eVar2, eBin, eBin2, eBin3, eUn, eUn2, eNil, eCons, eCons2, eCons3, eFn, eFn2, eTst, eTst2, eIf, eIf_t, eIf_f, eAnd, eAnd_t, eAnd_f, eOr, eOr_t, eOr_f, eNot, eNot2, eCall, eCall2, eCallC, eSl, eSl2, eSl3, eSl4, eNo, ePart, ePart2, sNil_, sSeq_, sBrk_, sCnt_, sDrop_, sDrop2, sDropE, sRet_, sRet2, sRetE, sRetN_, sIf_, sIf_t, sIf_f, sSet_, sSet2, sSetE, setT_nm, setTs_nil, setTs_cons, optS_some, sPar2_, sPar22, sFor_, sFor2, cIter_, cIter_t, cIter_l, cIter_s, cItL_, cItL2, sRaise_, runF_, endR_nx, endR_rt, endR_err, opt_some, seq_nx, seq_rt, seq_bk, seq_ct, seq_err, startE, List.map_cons, List.map_nil, List.length_cons, List.length_nil, List.replicate_succ, List.replicate_zero, List.cons_append, List.nil_append, List.append_nil, List.getElem?_cons_zero, List.getElem?_cons_succ, List.set_cons_zero, List.set_cons_succ, Option.bind_some, Option.map_some, Nat.reduceAdd, Nat.reduceSub, fAdd_int, fSub_int, fNeg_int, gGcd_int, fGt_int, fLt_int, fLe_int, fTup2, hz, eLc, eLc2, eLc3, wipe_nil, wipe_cons, hin, ht]⟩) (by rw [List.length_range]; omega)
  have hout : lcL _ _ _ _ _ (rangeD 0 w) [] M = _ := hout
  have hT : gTuple M [.lst ((List.range w).map fun i => qd (rsum ((ws.zip rows).map fun p => p.1 * p.2.getD i 0)))] = some (vD (mixR w (ws.zip rows))) := by
    unfold vD mixR
    rw [List.map_map]
    rfl
  unfold f__law_mixed b__law_mixed
  simp only [eC, eVar, eVar2, eBin, eBin2, eBin3, eUn, eUn2, eNil, eCons, eCons2, eCons3, eFn, eFn2, eTst, eTst2, eIf, eIf_t, eIf_f, eAnd, eAnd_t, eAnd_f, eOr, eOr_t, eOr_f, eNot, eNot2, eCall, eCall2, eCallC, eSl, eSl2, eSl3, eSl4, eNo, ePart, ePart2, sNil_, sSeq_, sBrk_, sCnt_, sDrop_, sDrop2, sDropE, sRet_, sRet2, sRetE, sRetN_, sIf_, sIf_t, sIf_f, sSet_, sSet2, sSetE, setT_nm, setTs_nil, setTs_cons, optS_some, sPar2_, sPar22, sFor_, sFor2, cIter_, cIter_t, cIter_l, cIter_s, cItL_, cItL2, sRaise_, runF_, endR_nx, endR_rt, endR_err, opt_some, seq_nx, seq_rt, seq_bk, seq_ct, seq_err, startE, List.map_cons, List.map_nil, List.length_cons, List.length_nil, List.replicate_succ, List.replicate_zero, List.cons_append, List.nil_append, List.append_nil, List.getElem?_cons_zero, List.getElem?_cons_succ, List.set_cons_zero, List.set_cons_succ, Option.bind_some, Option.map_some, Nat.reduceAdd, Nat.reduceSub, fAdd_int, fSub_int, fNeg_int, gGcd_int, fGt_int, fLt_int, fLe_int, fTup2, itR1_n (show w ≤ 900 by omega), eLc, eLc2, eLc3, wipe_nil, wipe_cons, hout, hT]
end
end K00

set_option Elab.async false
set_option linter.all false
set_option maxRecDepth 100000
set_option maxHeartbeats 4000000
namespace K00
open PySem PySem.Spec PyProof.Rows L2 DI
section
variable {env : En} {M : Mem} {x y : D} {ds : List D}
noncomputable def callK3 (F : FnD) (pm : List Nat) (ds : List D) (r : Res (List D)) : Res D := r.bind fun es M2 => if belows M2.length (ds ++ pick pm es) = true then F (ds ++ pick pm es) M2 else .stuck
noncomputable def callK2 (F : FnD) (pm : List Nat) (r : Res (List D)) (c : EvL) (env : En) : Res D := r.bind fun ds M1 => callK3 F pm ds (c env M1)
theorem eCallKC {F pm b c} {env : En} : cCallKC F pm b c env M = callK2 F pm (b env M) c env := rfl
theorem eCallK2 {F pm c} {env : En} : callK2 F pm (.ok ds M) c env = callK3 F pm ds (c env M) := rfl
theorem eCallK_1 {F : FnD} (h : belows M.length [x] = true) : callK3 F [0] [] (.ok [x] M) = F [x] M := if_pos h
theorem eCallK_2 {F : FnD} (h : belows M.length [y, x] = true) : callK3 F [1, 0] [] (.ok [x, y] M) = F [y, x] M := if_pos h
theorem truth_bb {b : Bool} : f__law_is_truth [.bl b, .bl b] M = .ok (.bl true) M := by
  unfold f__law_is_truth b__law_is_truth
  cases b with
  | true =>
    have : fIs M (.bl true) (.bl true) = some (.bl true) := rfl
    simp only [eC, eVar, eVar2, eBin, eBin2, eBin3, eUn, eUn2, eNil, eCons, eCons2, eCons3, eFn, eFn2, eTst, eTst2, eIf, eIf_t, eIf_f, eAnd, eAnd_t, eAnd_f, eOr, eOr_t, eOr_f, eNot, eNot2, eCall, eCall2, eCallC, eSl, eSl2, eSl3, eSl4, eNo, ePart, ePart2, sNil_, sSeq_, sBrk_, sCnt_, sDrop_, sDrop2, sDropE, sRet_, sRet2, sRetE, sRetN_, sIf_, sIf_t, sIf_f, sSet_, sSet2, sSetE, setT_nm, setTs_nil, setTs_cons, optS_some, sPar2_, sPar22, sFor_, sFor2, cIter_, cIter_t, cIter_l, cIter_s, cItL_, cItL2, sRaise_, runF_, endR_nx, endR_rt, endR_err, opt_some, seq_nx, seq_rt, seq_bk, seq_ct, seq_err, startE, List.map_cons, List.map_nil, List.length_cons, List.length_nil, List.replicate_succ, List.replicate_zero, List.cons_append, List.nil_append, List.append_nil, List.getElem?_cons_zero, List.getElem?_cons_succ, List.set_cons_zero, List.set_cons_succ, Option.bind_some, Option.map_some, Nat.reduceAdd, Nat.reduceSub, fAdd_int, fSub_int, fNeg_int, gGcd_int, fGt_int, fLt_int, fLe_int, fTup2, this]
  | false =>
    have : fIs M (.bl false) (.bl false) = some (.bl true) := rfl
    simp only [eC, eVar, eVar2, eBin, eBin2, eBin3, eUn, eUn2, eNil, eCons, eCons2, eCons3, eFn, eFn2, eTst, eTst2, eIf, eIf_t, eIf_f, eAnd, eAnd_t, eAnd_f, eOr, eOr_t, eOr_f, eNot, eNot2, eCall, eCall2, eCallC, eSl, eSl2, eSl3, eSl4, eNo, ePart, ePart2, sNil_, sSeq_, sBrk_, sCnt_, sDrop_, sDrop2, sDropE, sRet_, sRet2, sRetE, sRetN_, sIf_, sIf_t, sIf_f, sSet_, sSet2, sSetE, setT_nm, setTs_nil, setTs_cons, optS_some, sPar2_, sPar22, sFor_, sFor2, cIter_, cIter_t, cIter_l, cIter_s, cItL_, cItL2, sRaise_, runF_, endR_nx, endR_rt, endR_err, opt_some, seq_nx, seq_rt, seq_bk, seq_ct, seq_err, startE, List.map_cons, List.map_nil, List.length_cons, List.length_nil, List.replicate_succ, List.replicate_zero, List.cons_append, List.nil_append, List.append_nil, List.getElem?_cons_zero, List.getElem?_cons_succ, List.set_cons_zero, List.set_cons_succ, Option.bind_some, Option.map_some, Nat.reduceAdd, Nat.reduceSub, fAdd_int, fSub_int, fNeg_int, gGcd_int, fGt_int, fLt_int, fLe_int, fTup2, this]
mutual
/-- a tree without references -/
def tree : D → Bool
  | .non => true
  | .bl _ => true
  | .int _ => true
  | .str _ => true
  | .tup xs => trees xs
  | .lst xs => trees xs
  | _ => false
def trees : List D → Bool
  | [] => true
  | x :: xs => tree x && trees xs
end
mutual
theorem below_tree {n : Nat} : ∀ x : D, tree x = true → below n x = true
  | .non, _ => rfl
  | .bl _, _ => rfl
  | .int _, _ => rfl
  | .str _, _ => rfl
  | .tup xs, h => by rw [below]; exact belows_trees xs (by rw [tree] at h; exact h)
  | .lst xs, h => by rw [below]; exact belows_trees xs (by rw [tree] at h; exact h)
theorem belows_trees {n : Nat} : ∀ xs : List D, trees xs = true → belows n xs = true
  | [], _ => rfl
  | x :: xs, h => by
    rw [trees, Bool.and_eq_true] at h
    rw [belows, below_tree x h.1, belows_trees xs h.2]
    rfl
end
theorem tree_qd {r : Rat} : tree (qd r) = true := rfl
theorem trees_of : ∀ {xs : List D}, (∀ x ∈ xs, tree x = true) → trees xs = true
  | [], _ => rfl
  | x :: xs, h => by rw [trees, h x List.mem_cons_self, trees_of fun y hy => h y (List.mem_cons_of_mem _ hy)]; rfl
theorem trees_mem : ∀ {xs : List D}, trees xs = true → ∀ x ∈ xs, tree x = true
  | x :: xs, h, y, hy => by
    rw [trees, Bool.and_eq_true] at h
    rcases List.mem_cons.mp hy with rfl | hy
    · exact h.1
    · exact trees_mem h.2 y hy
theorem tree_vD {l : List Rat} : tree (vD l) = true := by
  unfold vD
  rw [tree]
  exact trees_of fun x hx => by
    obtain ⟨r, _, rfl⟩ := List.mem_map.mp hx
    exact tree_qd
theorem kd_tree (h : tree x = true) : kd x = true := by
  cases x <;> first | rfl | (simp [tree] at h)
end
section
variable {M : Mem}
noncomputable def dueE : EvE := (cAnd (cFn (gIsi anc) (cCons (cVar 7) (cCons (cC (.ty "tuple")) cNil))) (cAnd (cChain fLe fLe (cC (.int 1)) (cFn gLen (cCons (cVar 7) cNil)) (cC (.int 200))) (cBin fEq (cLc (cIter (cVar 7)) (.nm 9) (cTst (cNot (cCall f__law_is_ratio (cCons (cVar 9) cNil)))) (cC (.int 1)) [9]) (cFn fLst cNil))))
theorem lc_due {it : ItD} (hit : DepOk it M) {a0 a1 a2 a3 a4 a5 a6 a7 a8 : Sl} {p : D → Bool} (xs : List D) (h : ∀ x ∈ xs, RatV x (p x)) (hl : xs.length ≤ 1000) : lcL it (.nm 9) (cTst (cNot (cCall f__law_is_ratio (cCons (cVar 9) cNil)))) (cC (.int 1)) [a0, a1, a2, a3, a4, a5, a6, a7, a8, .none] xs [] M = .ok (((xs.filter fun x => !p x).map fun _ => (1 : Int)).map D.int) M := by
  have := lcL_of (M := M) (env := [a0, a1, a2, a3, a4, a5, a6, a7, a8, .none]) (it := it) (t := .nm 9) (c := cTst (cNot (cCall f__law_is_ratio (cCons (cVar 9) cNil)))) (e := cC (.int 1)) (fun x : D => x) (fun _ => .int 1) (fun x => !p x) hit xs [] (fun x hx => ⟨_, setT_nm, by
    simp only [eC, eVar, eVar2, eBin, eBin2, eBin3, eUn, eUn2, eNil, eCons, eCons2, eCons3, eFn, eFn2, eTst, eTst2, eIf, eIf_t, eIf_f, eAnd, eAnd_t, eAnd_f, eOr, eOr_t, eOr_f, eNot, eNot2, eCall, eCall2, eCallC, eSl, eSl2, eSl3, eSl4, eNo, ePart, ePart2, sNil_, sSeq_, sBrk_, sCnt_, sDrop_, sDrop2, sDropE, sRet_, sRet2, sRetE, sRetN_, sIf_, sIf_t, sIf_f, sSet_, sSet2, sSetE, setT_nm, setTs_nil, setTs_cons, optS_some, sPar2_, sPar22, sFor_, sFor2, cIter_, cIter_t, cIter_l, cIter_s, cItL_, cItL2, sRaise_, runF_, endR_nx, endR_rt, endR_err, opt_some, seq_nx, seq_rt, seq_bk, seq_ct, seq_err, startE, List.map_cons, List.map_nil, List.length_cons, List.length_nil, List.replicate_succ, List.replicate_zero, List.cons_append, List.nil_append, List.append_nil, List.getElem?_cons_zero, List.getElem?_cons_succ, List.set_cons_zero, List.set_cons_succ, Option.bind_some, Option.map_some, Nat.reduceAdd, Nat.reduceSub, fAdd_int, fSub_int, fNeg_int, gGcd_int, fGt_int, fLt_int, fLe_int, fTup2, (h x hx).l], fun _ => by simp only [eC, eVar, eVar2, eBin, eBin2, eBin3, eUn, eUn2, eNil, eCons, eCons2, eCons3, eFn, eFn2, eTst, eTst2, eIf, eIf_t, eIf_f, eAnd, eAnd_t, eAnd_f, eOr, eOr_t, eOr_f, eNot, eNot2, eCall, eCall2, eCallC, eSl, eSl2, eSl3, eSl4, eNo, ePart, ePart2, sNil_, sSeq_, sBrk_, sCnt_, sDrop_, sDrop2, sDropE, sRet_, sRet2, sRetE, sRetN_, sIf_, sIf_t, sIf_f, sSet_, sSet2, sSetE, setT_nm, setTs_nil, setTs_cons, optS_some, sPar2_, sPar22, sFor_, sFor2, cIter_, cIter_t, cIter_l, cIter_s, cItL_, cItL2, sRaise_, runF_, endR_nx, endR_rt, endR_err, opt_some, seq_nx, seq_rt, seq_bk, seq_ct, seq_err, startE, List.map_cons, List.map_nil, List.length_cons, List.length_nil, List.replicate_succ, List.replicate_zero, List.cons_append, List.nil_append, List.append_nil, List.getElem?_cons_zero, List.getElem?_cons_succ, List.set_cons_zero, List.set_cons_succ, Option.bind_some, Option.map_some, Nat.reduceAdd, Nat.reduceSub, fAdd_int, fSub_int, fNeg_int, gGcd_int, fGt_int, fLt_int, fLe_int, fTup2]⟩) (by rw [List.length_nil]; omega)
  rw [List.map_id', List.nil_append] at this
  rw [this, List.map_map]
  rfl
theorem ones_all {p : D → Bool} : ∀ xs : List D, (((xs.filter fun x => !p x).map fun _ => (1 : Int)).isEmpty) = xs.all p
  | [] => rfl
  | x :: xs => by
    rw [List.filter_cons, List.all_cons]
    cases hp : p x with
    | true => rw [Bool.not_true, if_neg (by decide), ones_all xs, Bool.true_and]
    | false => rw [Bool.not_false, if_pos rfl, Bool.false_and]; rfl
def vecT (p : D → Bool) (xs : List D) : Bool := decide (1 ≤ xs.length) && (decide (xs.length ≤ 200) && xs.all p)
theorem due_T {a0 a1 a2 a3 a4 a5 a6 a8 a9 : Sl} {p : D → Bool} {xs : List D} (h : ∀ x ∈ xs, RatV x (p x)) : dueE [a0, a1, a2, a3, a4, a5, a6, .val (.tup xs), a8, a9] M = .ok (.bl (vecT p xs)) M := by
  unfold dueE vecT
  have e1 : decide ((1 : Int) ≤ xs.length) = decide (1 ≤ xs.length) := by rw [decide_eq_decide]; omega
  have e2 : decide ((xs.length : Int) ≤ 200) = decide (xs.length ≤ 200) := by rw [decide_eq_decide]; omega
  by_cases h1 : 1 ≤ xs.length
  · by_cases h2 : xs.length ≤ 200
    · simp only [eC, eVar, eVar2, eBin, eBin2, eBin3, eUn, eUn2, eNil, eCons, eCons2, eCons3, eFn, eFn2, eTst, eTst2, eIf, eIf_t, eIf_f, eAnd, eAnd_t, eAnd_f, eOr, eOr_t, eOr_f, eNot, eNot2, eCall, eCall2, eCallC, eSl, eSl2, eSl3, eSl4, eNo, ePart, ePart2, sNil_, sSeq_, sBrk_, sCnt_, sDrop_, sDrop2, sDropE, sRet_, sRet2, sRetE, sRetN_, sIf_, sIf_t, sIf_f, sSet_, sSet2, sSetE, setT_nm, setTs_nil, setTs_cons, optS_some, sPar2_, sPar22, sFor_, sFor2, cIter_, cIter_t, cIter_l, cIter_s, cItL_, cItL2, sRaise_, runF_, endR_nx, endR_rt, endR_err, opt_some, seq_nx, seq_rt, seq_bk, seq_ct, seq_err, startE, List.map_cons, List.map_nil, List.length_cons, List.length_nil, List.replicate_succ, List.replicate_zero, List.cons_append, List.nil_append, List.append_nil, List.getElem?_cons_zero, List.getElem?_cons_succ, List.set_cons_zero, List.set_cons_succ, Option.bind_some, Option.map_some, Nat.reduceAdd, Nat.reduceSub, fAdd_int, fSub_int, fNeg_int, gGcd_int, fGt_int, fLt_int, fLe_int, fTup2, isi_tup_tup, eCh, eChA, eChB, gLen_tup, e1, e2, decide_eq_true h1, decide_eq_true h2, eChC_t, eCh4, eLc, eLc2, eLc3, wipe_nil, wipe_cons, lc_due depOk_nil xs h (show xs.length ≤ 1000 by omega), fLst_0, fEq_ones, ones_all, Bool.true_and]
    · simp only [eC, eVar, eVar2, eBin, eBin2, eBin3, eUn, eUn2, eNil, eCons, eCons2, eCons3, eFn, eFn2, eTst, eTst2, eIf, eIf_t, eIf_f, eAnd, eAnd_t, eAnd_f, eOr, eOr_t, eOr_f, eNot, eNot2, eCall, eCall2, eCallC, eSl, eSl2, eSl3, eSl4, eNo, ePart, ePart2, sNil_, sSeq_, sBrk_, sCnt_, sDrop_, sDrop2, sDropE, sRet_, sRet2, sRetE, sRetN_, sIf_, sIf_t, sIf_f, sSet_, sSet2, sSetE, setT_nm, setTs_nil, setTs_cons, optS_some, sPar2_, sPar22, sFor_, sFor2, cIter_, cIter_t, cIter_l, cIter_s, cItL_, cItL2, sRaise_, runF_, endR_nx, endR_rt, endR_err, opt_some, seq_nx, seq_rt, seq_bk, seq_ct, seq_err, startE, List.map_cons, List.map_nil, List.length_cons, List.length_nil, List.replicate_succ, List.replicate_zero, List.cons_append, List.nil_append, List.append_nil, List.getElem?_cons_zero, List.getElem?_cons_succ, List.set_cons_zero, List.set_cons_succ, Option.bind_some, Option.map_some, Nat.reduceAdd, Nat.reduceSub, fAdd_int, fSub_int, fNeg_int, gGcd_int, fGt_int, fLt_int, fLe_int, fTup2, isi_tup_tup, eCh, eChA, eChB, gLen_tup, e1, e2, decide_eq_true h1, decide_eq_false h2, eChC_t, eCh4, Bool.true_and, Bool.false_and]
  · simp only [eC, eVar, eVar2, eBin, eBin2, eBin3, eUn, eUn2, eNil, eCons, eCons2, eCons3, eFn, eFn2, eTst, eTst2, eIf, eIf_t, eIf_f, eAnd, eAnd_t, eAnd_f, eOr, eOr_t, eOr_f, eNot, eNot2, eCall, eCall2, eCallC, eSl, eSl2, eSl3, eSl4, eNo, ePart, ePart2, sNil_, sSeq_, sBrk_, sCnt_, sDrop_, sDrop2, sDropE, sRet_, sRet2, sRetE, sRetN_, sIf_, sIf_t, sIf_f, sSet_, sSet2, sSetE, setT_nm, setTs_nil, setTs_cons, optS_some, sPar2_, sPar22, sFor_, sFor2, cIter_, cIter_t, cIter_l, cIter_s, cItL_, cItL2, sRaise_, runF_, endR_nx, endR_rt, endR_err, opt_some, seq_nx, seq_rt, seq_bk, seq_ct, seq_err, startE, List.map_cons, List.map_nil, List.length_cons, List.length_nil, List.replicate_succ, List.replicate_zero, List.cons_append, List.nil_append, List.append_nil, List.getElem?_cons_zero, List.getElem?_cons_succ, List.set_cons_zero, List.set_cons_succ, Option.bind_some, Option.map_some, Nat.reduceAdd, Nat.reduceSub, fAdd_int, fSub_int, fNeg_int, gGcd_int, fGt_int, fLt_int, fLe_int, fTup2, isi_tup_tup, eCh, eChA, eChB, gLen_tup, e1, decide_eq_false h1, eChC_f, Bool.false_and]
theorem due_N {a0 a1 a2 a3 a4 a5 a6 a8 a9 : Sl} {x : D} (h : kd x = true) (ht : isiT x = false) : dueE [a0, a1, a2, a3, a4, a5, a6, .val x, a8, a9] M = .ok (.bl false) M := by
  unfold dueE
  simp only [eC, eVar, eVar2, eBin, eBin2, eBin3, eUn, eUn2, eNil, eCons, eCons2, eCons3, eFn, eFn2, eTst, eTst2, eIf, eIf_t, eIf_f, eAnd, eAnd_t, eAnd_f, eOr, eOr_t, eOr_f, eNot, eNot2, eCall, eCall2, eCallC, eSl, eSl2, eSl3, eSl4, eNo, ePart, ePart2, sNil_, sSeq_, sBrk_, sCnt_, sDrop_, sDrop2, sDropE, sRet_, sRet2, sRetE, sRetN_, sIf_, sIf_t, sIf_f, sSet_, sSet2, sSetE, setT_nm, setTs_nil, setTs_cons, optS_some, sPar2_, sPar22, sFor_, sFor2, cIter_, cIter_t, cIter_l, cIter_s, cItL_, cItL2, sRaise_, runF_, endR_nx, endR_rt, endR_err, opt_some, seq_nx, seq_rt, seq_bk, seq_ct, seq_err, startE, List.map_cons, List.map_nil, List.length_cons, List.length_nil, List.replicate_succ, List.replicate_zero, List.cons_append, List.nil_append, List.append_nil, List.getElem?_cons_zero, List.getElem?_cons_succ, List.set_cons_zero, List.set_cons_succ, Option.bind_some, Option.map_some, Nat.reduceAdd, Nat.reduceSub, fAdd_int, fSub_int, fNeg_int, gGcd_int, fGt_int, fLt_int, fLe_int, fTup2, isi_T h, ht]
/-- both judge x to be b -/
structure VecV (x : D) (b : Bool) : Prop where
  t : tree x = true
  f : ∀ M, f_is_vector [x] M = .ok (.bl b) M
  l : ∀ M a0 a1 a2 a3 a4 a5 a6 a8 a9, dueE [a0, a1, a2, a3, a4, a5, a6, .val x, a8, a9] M = .ok (.bl b) M
theorem VecV.tup {p : D → Bool} {xs : List D} (ht : trees xs = true) (h : ∀ x ∈ xs, RatV x (p x)) : VecV (.tup xs) (vecT p xs) := ⟨by rw [tree]; exact ht, fun M => r_is_vector_T h, fun M _ _ _ _ _ _ _ _ _ => due_T h⟩
theorem VecV.not {x : D} (h : tree x = true) (ht : isiT x = false) : VecV x false := ⟨h, fun M => r_is_vector_N (kd_tree h) ht, fun M _ _ _ _ _ _ _ _ _ => due_N (kd_tree h) ht⟩
noncomputable def bV : EvS := (sSeq (sSet (.nm 6) dueE) (sIf (cOr (cNot (cCall f__law_is_truth (cCons (cCall f_is_vector (cCons (cVar 7) cNil)) (cCons (cVar 6) cNil)))) (cBin fNe (cCallKC f_is_vector [0] cNil (cCons (cVar 7) cNil)) (cVar 6))) (sRet (cC (.bl false))) sNil))
theorem bV_ok {x : D} {b : Bool} (h : VecV x b) {a0 a1 a2 a3 a4 a5 a6 a8 a9 : Sl} : bV [a0, a1, a2, a3, a4, a5, a6, .val x, a8, a9] M = .nx [a0, a1, a2, a3, a4, a5, .val (.bl b), .val x, a8, a9] M := by
  unfold bV
  have hb : belows M.length [x] = true := by rw [belows, below_tree x h.t]; rfl
  have hn : fNe M (.bl b) (.bl b) = some (.bl false) := by cases b <;> rfl
  simp only [eC, eVar, eVar2, eBin, eBin2, eBin3, eUn, eUn2, eNil, eCons, eCons2, eCons3, eFn, eFn2, eTst, eTst2, eIf, eIf_t, eIf_f, eAnd, eAnd_t, eAnd_f, eOr, eOr_t, eOr_f, eNot, eNot2, eCall, eCall2, eCallC, eSl, eSl2, eSl3, eSl4, eNo, ePart, ePart2, sNil_, sSeq_, sBrk_, sCnt_, sDrop_, sDrop2, sDropE, sRet_, sRet2, sRetE, sRetN_, sIf_, sIf_t, sIf_f, sSet_, sSet2, sSetE, setT_nm, setTs_nil, setTs_cons, optS_some, sPar2_, sPar22, sFor_, sFor2, cIter_, cIter_t, cIter_l, cIter_s, cItL_, cItL2, sRaise_, runF_, endR_nx, endR_rt, endR_err, opt_some, seq_nx, seq_rt, seq_bk, seq_ct, seq_err, startE, List.map_cons, List.map_nil, List.length_cons, List.length_nil, List.replicate_succ, List.replicate_zero, List.cons_append, List.nil_append, List.append_nil, List.getElem?_cons_zero, List.getElem?_cons_succ, List.set_cons_zero, List.set_cons_succ, Option.bind_some, Option.map_some, Nat.reduceAdd, Nat.reduceSub, fAdd_int, fSub_int, fNeg_int, gGcd_int, fGt_int, fLt_int, fLe_int, fTup2, h.l, h.f, truth_bb, Bool.not_true, eCallKC, eCallK2, eCallK_1 hb, hn]
theorem bV_loop {it : ItD} (hM : DepOk it M) {a0 a1 a2 a3 a4 a5 a8 a9 : Sl} : ∀ (ds : List D) (a6 a7 : Sl), (∀ d ∈ ds, ∃ b, VecV d b) → ∃ s6 s7, forL it (.nm 7) bV ds [a0, a1, a2, a3, a4, a5, a6, a7, a8, a9] M = .nx [a0, a1, a2, a3, a4, a5, s6, s7, a8, a9] M
  | [], a6, a7, _ => ⟨a6, a7, forL_nil hM⟩
  | d :: ds, a6, a7, h => by
    obtain ⟨b, hb⟩ := h d List.mem_cons_self
    obtain ⟨s6, s7, e⟩ := bV_loop hM ds (.val (.bl b)) (.val d) fun x hx => h x (List.mem_cons_of_mem _ hx)
    refine ⟨s6, s7, ?_⟩
    rw [forL_cons hM, setT_nm]
    simp only [optS_some, seq_nx, List.set_cons_succ, List.set_cons_zero, bV_ok hb]
    rw [turn_nx, e]
end
end K00

set_option Elab.async false
set_option linter.all false
set_option maxRecDepth 100000
set_option maxHeartbeats 4000000
namespace K00
open PySem PySem.Spec PyProof.Rows L2 DI
theorem Dr.Ok.mono {s : Dr} {a b : Nat} (h : s.Ok a) (l : a ≤ b) : s.Ok b := ⟨h.gr, h.cells, h.rest, h.turn, by have := h.le; omega⟩
theorem qdot_comm : ∀ a b : List Rat, qdot a b = qdot b a
  | [], [] => rfl
  | [], _ :: _ => rfl
  | _ :: _, [] => rfl
  | x :: a, y :: b => by
    show x * y + qdot a b = y * x + qdot b a
    rw [Rat.mul_comm, qdot_comm a b]
section
variable {M : Mem}
theorem pow6 : fPow M (.int 10) (.int 6) = some (.int ((1000000 : Nat) : Int)) := by
  show (if (0 : Int) ≤ 6 ∧ (6 : Int) ≤ 1000000 ∧ (10 : Int).natAbs < 2 ^ 64 then some (D.int ((10 : Int) ^ (6 : Int).toNat)) else none) = _
  rw [if_pos (by decide)]
  rfl
theorem min8 {n : Nat} : gMin M [.int (n : Nat), .int 8] = some (.int ((min n 8 : Nat) : Int)) := by
  show some (D.int (if (8 : Int) < (n : Int) then 8 else (n : Int))) = _
  congr 2
  split <;> omega
theorem same_v {l : List Rat} (h : l.length ≤ 100) : f__law_same [vD l, vD l] M = .ok (.bl true) M := by
  have h1 : ∀ l : List Rat, plains (l.map qd) = true := fun l => by
    induction l with
    | nil => rfl
    | cons a l ih => rw [List.map_cons, plains, ih]; rfl
  have h2 : ∀ l : List Rat, szs (l.map qd) = 3 * l.length := fun l => by
    induction l with
    | nil => rfl
    | cons a l ih => rw [List.map_cons, szs, ih, List.length_cons]; show 3 + _ = _; omega
  have h3 : ∀ l : List Rat, dpts (l.map qd) ≤ 1 := fun l => by
    induction l with
    | nil => exact Nat.zero_le _
    | cons a l ih => rw [List.map_cons, dpts]; exact Nat.max_le.mpr ⟨Nat.le_refl _, ih⟩
  refine r_same ?_ ?_ ?_
  · unfold vD; rw [plain]; exact h1 l
  · unfold vD; rw [sz, h2]; omega
  · unfold vD; rw [dpt]; have := h3 l; omega
theorem cut0 {α : Type} {l : List α} {k : Nat} : DI.cutD l none (some (k : Int)) = l.take k := by
  unfold DI.cutD
  rw [HT.sIx_none, show HT.sIx l.length l.length (some (k : Int)) = min k l.length from HT.sIx_nat l.length _ k, List.drop_zero, Nat.sub_zero]
  rcases Nat.le_total k l.length with h | h
  · rw [Nat.min_eq_left h]
  · rw [Nat.min_eq_right h, List.take_length, List.take_of_length_le h]
end
end K00

set_option Elab.async false
set_option linter.all false
set_option maxRecDepth 100000
set_option maxHeartbeats 4000000
namespace K00
open PySem PySem.Spec PyProof.Rows L2 DI
theorem trees_v {l : List Rat} : trees (l.map qd) = true := by
  have := tree_vD (l := l)
  unfold vD at this
  rw [tree] at this
  exact this
theorem rat_all {l : List Rat} (h : ∀ r ∈ l, Sq 20 r) : ∀ x ∈ l.map qd, RatV x true := fun x hx => by
  obtain ⟨r, hr, rfl⟩ := List.mem_map.mp hx
  exact RatV.qd (h r hr) (by decide)
theorem trees_app : ∀ {a b : List D}, trees a = true → trees b = true → trees (a ++ b) = true
  | [], _, _, h => h
  | x :: a, b, h1, h2 => by
    rw [trees, Bool.and_eq_true] at h1
    rw [List.cons_append, trees, h1.1, trees_app h1.2 h2]
    rfl
/-- a value that is judged so or so: each part is -/
theorem VecV.of {xs : List D} (ht : trees xs = true) (h : ∀ x ∈ xs, ∃ b, RatV x b) : ∃ b, VecV (.tup xs) b := by
  have : ∃ p : D → Bool, ∀ x ∈ xs, RatV x (p x) := by
    classical
    refine ⟨fun x => if h : ∃ b, RatV x b then h.choose else false, fun x hx => ?_⟩
    have hb := h x hx
    show RatV x (if h : ∃ b, RatV x b then h.choose else false)
    rw [dif_pos hb]
    exact hb.choose_spec
  obtain ⟨p, hp⟩ := this
  exact ⟨_, VecV.tup ht hp⟩
theorem rat_tup {xs : List D} (ht : trees xs = true) (hl : xs.length ≤ 1000) (hb : ∀ a b, xs = [.int a, .int b] → Sm 9000 b) : ∃ b, RatV (.tup xs) b := ⟨_, RatV.tup (fun x hx => kd_tree (trees_mem ht x hx)) hl hb⟩
theorem trees_rep : ∀ {n : Nat} {a : List D}, trees a = true → trees (List.replicate n a).flatten = true
  | 0, _, _ => rfl
  | n + 1, a, h => by rw [List.replicate_succ, List.flatten_cons]; exact trees_app h (trees_rep h)
/-- the values that are tried -/
theorem vals_ok {l : List Rat} (h : ∀ r ∈ l, Sq 20 r) (h1 : 1 ≤ l.length) (h2 : l.length ≤ 200) : ∀ d ∈ [vD l, .lst (l.map qd), .tup (l.map qd ++ [.non]), .tup (l.map qd ++ [.tup [.int 2, .int 4]]), .tup (List.replicate 201 (l.map qd)).flatten, .tup [], .tup [vD l], .non, .tup ((l.map qd).take 1)], ∃ b, VecV d b := by
  have ha := rat_all h
  have hne : l.map qd ≠ [] := by
    intro z
    rw [List.map_eq_nil_iff] at z
    rw [z] at h1
    exact absurd h1 (by decide)
  intro d hd
  simp only [List.mem_cons, List.not_mem_nil, or_false] at hd
  rcases hd with rfl | rfl | rfl | rfl | rfl | rfl | rfl | rfl | rfl
  · exact VecV.of trees_v fun x hx => ⟨_, ha x hx⟩
  · exact ⟨_, VecV.not (by rw [tree]; exact trees_v) rfl⟩
  · exact VecV.of (trees_app trees_v rfl) fun x hx => by
      rcases List.mem_append.mp hx with hx | hx
      · exact ⟨_, ha x hx⟩
      · rw [List.mem_singleton.mp hx]; exact ⟨_, RatV.not rfl rfl⟩
  · exact VecV.of (trees_app trees_v rfl) fun x hx => by
      rcases List.mem_append.mp hx with hx | hx
      · exact ⟨_, ha x hx⟩
      · rw [List.mem_singleton.mp hx]
        refine rat_tup rfl (show 2 ≤ 1000 by decide) fun a b e => ?_
        injection e with e1 e2
        injection e2 with e2
        injection e2 with e2
        rw [← e2]
        exact Nat.lt_of_lt_of_le (show (4 : Nat) < 2 ^ 3 by decide) (Nat.pow_le_pow_right (by decide) (by decide))
  · exact VecV.of (trees_rep trees_v) fun x hx => by
      obtain ⟨y, hy, hx⟩ := List.mem_flatten.mp hx
      rw [List.eq_of_mem_replicate hy] at hx
      exact ⟨_, ha x hx⟩
  · exact VecV.of rfl fun x hx => nomatch hx
  · refine VecV.of ?_ fun x hx => ?_
    · rw [trees, tree_vD]; rfl
    · rw [List.mem_singleton.mp hx]
      refine rat_tup trees_v (by rw [List.length_map]; omega) fun a b e => ?_
      match l, e with
      | r :: _, e =>
        rw [List.map_cons] at e
        injection e with e1 e2
        cases e1
  · exact ⟨_, VecV.not rfl rfl⟩
  · exact VecV.of (by
      have : ∀ a : List D, trees a = true → trees (a.take 1) = true := fun a h => by
        cases a with
        | nil => rfl
        | cons x a => rw [trees, Bool.and_eq_true] at h; show (tree x && trees (a.take 0)) = true; rw [h.1, List.take_zero]; rfl
      exact this _ trees_v) fun x hx => ⟨_, ha x (List.mem_of_mem_take hx)⟩
end K00

set_option Elab.async false
set_option linter.all false
set_option maxRecDepth 100000
set_option maxHeartbeats 4000000
namespace K00
open PySem PySem.Spec PyProof.Rows L2 DI
theorem of_vs : ∀ (ys : List D) {P : List Rat → Prop}, (∀ y ∈ ys, ∃ r, y = vD r ∧ P r) → ∃ l : List (List Rat), ys = l.map vD ∧ ∀ r ∈ l, P r
  | [], _, _ => ⟨[], rfl, (fun r hr => nomatch hr)⟩
  | y :: ys, P, h => by
    obtain ⟨r, rfl, hr⟩ := h y List.mem_cons_self
    obtain ⟨l, rfl, hl⟩ := of_vs ys (P := P) fun z hz => h z (List.mem_cons_of_mem _ hz)
    exact ⟨r :: l, rfl, fun x hx => by
      rcases List.mem_cons.mp hx with rfl | hx
      · exact hr
      · exact hl x hx⟩
theorem fNe9 {M : Mem} {x1 x2 x3 x4 x5 x6 x7 x8 x9 : D} : fLst M [x1, x2, x3, x4, x5, x6, x7, x8, x9] = some (.lst [x1, x2, x3, x4, x5, x6, x7, x8, x9]) := fLst_le (show 9 ≤ 1000 by decide)
theorem r_sums_right {s : Dr} {t : Nat} {R : Mem} (h : s.Ok t) (ht : t + 5000 < 2 ^ 39) : ∃ s', f__law_sums_right [.ref 1] (mm s R) = .ok (.bl true) (mm s' R) ∧ s'.Ok (t + 5000) := by
  obtain ⟨x, s1, e1, hx, h1⟩ := r_pick (R := R) (xs := [.int 1, .int 2, .int 3, .int 8, .int 8, .int 200]) h (by omega) (by simp) (show 6 ≤ 1000 by decide)
  obtain ⟨n, rfl, n1, n2⟩ : ∃ n : Nat, x = .int (n : Nat) ∧ 1 ≤ n ∧ n ≤ 200 := by
    simp only [List.mem_cons, List.not_mem_nil, or_false] at hx
    rcases hx with rfl | rfl | rfl | rfl | rfl | rfl
    · exact ⟨1, rfl, by omega, by omega⟩
    · exact ⟨2, rfl, by omega, by omega⟩
    · exact ⟨3, rfl, by omega, by omega⟩
    · exact ⟨8, rfl, by omega, by omega⟩
    · exact ⟨8, rfl, by omega, by omega⟩
    · exact ⟨200, rfl, by omega, by omega⟩
  obtain ⟨a, s2, e2, a1, a2, h2⟩ := r_vector (R := R) (z := 1000000) (n := n) h1 (by omega) (by decide) (by decide) n2
  obtain ⟨b, s3, e3, b1, b2, h3⟩ := r_vector (R := R) (z := 1000000) (n := n) h2 (by omega) (by decide) (by decide) n2
  have e2 : f__law_vector [.ref 1, .int n, .int ((1000000 : Nat) : Int)] (mm s1 R) = .ok (vD a) (mm s2 R) := e2
  have e3 : f__law_vector [.ref 1, .int n, .int ((1000000 : Nat) : Int)] (mm s2 R) = .ok (vD b) (mm s3 R) := e3
  have sa : ∀ r ∈ a, Sq 20 r := fun r hr => (a2 r hr).sq (by decide)
  have sb : ∀ r ∈ b, Sq 20 r := fun r hr => (b2 r hr).sq (by decide)
  have i1 : ∀ M, f_inner [vD a, vD b] M = .ok (qd (qdot a b)) M := fun M => r_inner sa sb (by omega) (by omega) (by omega)
  have i2 : ∀ M, f_inner [vD b, vD a] M = .ok (qd (qdot a b)) M := fun M => by rw [r_inner sb sa (by omega) (by omega) (by omega), qdot_comm]
  have i3 : ∀ M, f__law_dot [vD a, vD b] M = .ok (qd (qdot a b)) M := fun M => r__law_dot sa sb (by omega)
  have hab : ∀ M : Mem, belows M.length [vD b, vD a] = true := fun M => by rw [belows, belows, below_tree _ tree_vD, below_tree _ tree_vD]; rfl
  obtain ⟨v, s4, e4, v0, v1, h4⟩ := r_draw (R := R) (room := 6) h3 (by omega) (by decide) (by decide)
  obtain ⟨k, hk⟩ : ∃ k : Nat, (1 : Int) + v = (k : Int) := ⟨(1 + v).toNat, by omega⟩
  have k1 : 1 ≤ k := by omega
  have k2 : k ≤ 6 := by omega
  have w1 : 1 ≤ min n 8 := by omega
  have w2 : min n 8 ≤ 8 := by omega
  obtain ⟨ys, s5, e5, y1, y2, h5⟩ := lcL_draw (it := ⟨rangeD 0 k, []⟩) rfl (t := .nm 8) (R := R) (c := 72) (P := fun y => ∃ r : List Rat, y = vD r ∧ r.length = min n 8 ∧ ∀ q ∈ r, Sz 99 q) (env := [.val (.ref 1), .val (.int (n : Nat)), .val (vD a), .val (vD b), .none, .none, .none, .none, .none, .none])
    (e := cCall f__law_vector (cCons (cVar 0) (cCons (cFn gMin (cCons (cVar 1) (cCons (cC (.int 8)) cNil))) (cCons (cC (.int 99)) cNil))))
    (fun d s k hk hb => by
      obtain ⟨l, s', q1, q2, q3, q4⟩ := r_vector (R := R) (z := 99) (n := min n 8) hk (by omega) (by decide) (by decide) (by omega)
      have q1 : f__law_vector [.ref 1, .int ((min n 8 : Nat) : Int), .int 99] (mm s R) = .ok (vD l) (mm s' R) := q1
      exact ⟨_, vD l, s', setT_nm, by simp only [eC, eVar, eVar2, eBin, eBin2, eBin3, eUn, eUn2, eNil, eCons, eCons2, eCons3, eFn, eFn2, eTst, eTst2, eIf, eIf_t, eIf_f, eAnd, eAnd_t, eAnd_f, eOr, eOr_t, eOr_f, eNot, eNot2, eCall, eCall2, eCallC, eSl, eSl2, eSl3, eSl4, eNo, ePart, ePart2, sNil_, sSeq_, sBrk_, sCnt_, sDrop_, sDrop2, sDropE, sRet_, sRet2, sRetE, sRetN_, sIf_, sIf_t, sIf_f, sSet_, sSet2, sSetE, setT_nm, setTs_nil, setTs_cons, optS_some, sPar2_, sPar22, sFor_, sFor2, cIter_, cIter_t, cIter_l, cIter_s, cItL_, cItL2, sRaise_, runF_, endR_nx, endR_rt, endR_err, opt_some, seq_nx, seq_rt, seq_bk, seq_ct, seq_err, startE, List.map_cons, List.map_nil, List.length_cons, List.length_nil, List.replicate_succ, List.replicate_zero, List.cons_append, List.nil_append, List.append_nil, List.getElem?_cons_zero, List.getElem?_cons_succ, List.set_cons_zero, List.set_cons_succ, Option.bind_some, Option.map_some, Nat.reduceAdd, Nat.reduceSub, fAdd_int, fSub_int, fNeg_int, gGcd_int, fGt_int, fLt_int, fLe_int, fTup2, min8, q1], ⟨l, rfl, q2, q3⟩, q4.mono (by omega)⟩) (rangeD 0 k) [] s4 _ h4 (by rw [rangeD_len]; omega) (by rw [rangeD_len, List.length_nil]; omega)
  rw [rangeD_len] at y1 h5
  rw [List.nil_append] at e5
  obtain ⟨rows, rfl, hrows⟩ := of_vs ys y2
  rw [List.length_map] at y1
  obtain ⟨c, s6, e6, c1, c2, h6⟩ := r_vector (R := R) (z := 99) (n := rows.length) h5 (by omega) (by decide) (by decide) (by omega)
  have e6 : f__law_vector [.ref 1, .int (rows.length : Nat), .int 99] (mm s5 R) = .ok (vD c) (mm s6 R) := e6
  have hc : ∀ r ∈ c, Sq 7 r := fun r hr => (c2 r hr).sq (by decide)
  have ro : RowsOk (min n 8) rows := ⟨fun r hr => (hrows r hr).1, fun r hr q hq => ((hrows r hr).2 q hq).sq (by decide), w1, by omega⟩
  have m1 : ∀ M, f__law_mixed [vD c, .lst (rows.map vD), .int ((min n 8 : Nat) : Int)] M = .ok (vD (mixR (min n 8) (c.zip rows))) M := fun M => r__law_mixed hc ro (by omega)
  have m2 : ∀ M, f_combined [vD c, .lst (rows.map vD)] M = .ok (vD (mixR (min n 8) (c.zip rows))) M := fun M => r_combined (b := false) hc ro (by omega) (by omega) (by omega)
  have m3 : ∀ M, f_combined [vD c, .tup (rows.map vD)] M = .ok (vD (mixR (min n 8) (c.zip rows))) M := fun M => r_combined (b := true) hc ro (by omega) (by omega) (by omega)
  have sm : ∀ M, f__law_same [vD (mixR (min n 8) (c.zip rows)), vD (mixR (min n 8) (c.zip rows))] M = .ok (.bl true) M := fun M => same_v (by unfold mixR; rw [List.length_map, List.length_range]; omega)
  have trv : trees (rows.map vD) = true := trees_of fun x hx => by
    obtain ⟨r, _, rfl⟩ := List.mem_map.mp hx
    exact tree_vD
  have hcr : ∀ M : Mem, belows M.length [vD c, .tup (rows.map vD)] = true := fun M => by rw [belows, belows, below_tree _ tree_vD, below_tree (.tup (rows.map vD)) (by rw [tree]; exact trv)]; rfl
  obtain ⟨z6, z7, e7⟩ := bV_loop (M := mm s6 R) (it := ⟨[vD a, .lst (a.map qd), .tup (a.map qd ++ [.non]), .tup (a.map qd ++ [.tup [.int 2, .int 4]]), .tup (List.replicate 201 (a.map qd)).flatten, .tup [], .tup [vD a], .non, .tup ((a.map qd).take 1)], []⟩) depOk_nil (a0 := .val (.ref 1)) (a1 := .val (.int (n : Nat))) (a2 := .val (vD a)) (a3 := .val (vD b)) (a4 := .val (.lst (rows.map vD))) (a5 := .val (vD c)) (a8 := .none) (a9 := .none) _ (.val (vD (mixR (min n 8) (c.zip rows)))) .none (vals_ok sa (by omega) (by omega))
  have hl : fLst (mm s R) [.int 1, .int 2, .int 3, .int 8, .int 8, .int 200] = some (.lst [.int 1, .int 2, .int 3, .int 8, .int 8, .int 200]) := fLst_le (show 6 ≤ 1000 by decide)
  have szl : ∀ a : Nat, a ≤ 100000 → a ≤ sizeLine := fun a ha => Nat.le_trans ha (by decide +kernel)
  have p1 : gList (mm s6 R) [vD a] = some (.lst (a.map qd)) := rfl
  have p2 : fTup (mm s6 R) [.non] = some (.tup [.non]) := rfl
  have p3 : fAdd (mm s6 R) (vD a) (.tup [.non]) = some (.tup (a.map qd ++ [.non])) := if_pos (szl _ (by rw [List.length_map]; show _ + 1 ≤ _; omega))
  have p4 : fTup (mm s6 R) [.int 2, .int 4] = some (.tup [.int 2, .int 4]) := rfl
  have p5 : fTup (mm s6 R) [.tup [.int 2, .int 4]] = some (.tup [.tup [.int 2, .int 4]]) := rfl
  have p6 : fAdd (mm s6 R) (vD a) (.tup [.tup [.int 2, .int 4]]) = some (.tup (a.map qd ++ [.tup [.int 2, .int 4]])) := if_pos (szl _ (by rw [List.length_map]; show _ + 1 ≤ _; omega))
  have p7 : fMul (mm s6 R) (vD a) (.int 201) = some (.tup (List.replicate 201 (a.map qd)).flatten) := if_pos ⟨by decide, by decide, by rw [List.length_map]; omega, by rw [List.length_map]; omega⟩
  have p8 : fTup (mm s6 R) [] = some (.tup []) := rfl
  have p9 : fTup (mm s6 R) [vD a] = some (.tup [vD a]) := rfl
  have p10 : fSl (mm s6 R) (vD a) none (some 1) = some (.tup ((a.map qd).take 1)) := by
    show some (D.tup (DI.cutD (a.map qd) none (some ((1 : Nat) : Int)))) = _
    rw [cut0]
  have lr : gLen (mm s5 R) [.lst (rows.map vD)] = some (.int (rows.length : Nat)) := by
    show some (D.int ((rows.map vD).length : Nat)) = _
    rw [List.length_map]
  have gt : ∀ M, gTuple M [.lst (rows.map vD)] = some (.tup (rows.map vD)) := fun M => rfl
  have hbV : (sSeq (sSet (.nm 6) dueE) (sIf (cOr (cNot (cCall f__law_is_truth (cCons (cCall f_is_vector (cCons (cVar 7) cNil)) (cCons (cVar 6) cNil)))) (cBin fNe (cCallKC f_is_vector [0] cNil (cCons (cVar 7) cNil)) (cVar 6))) (sRet (cC (.bl false))) sNil)) = bV := rfl
  refine ⟨s6, ?_, h6.mono (by omega)⟩
  unfold f__law_sums_right b__law_sums_right
  simp only [eC, eVar, eVar2, eBin, eBin2, eBin3, eUn, eUn2, eNil, eCons, eCons2, eCons3, eFn, eFn2, eTst, eTst2, eIf, eIf_t, eIf_f, eAnd, eAnd_t, eAnd_f, eOr, eOr_t, eOr_f, eNot, eNot2, eCall, eCall2, eCallC, eSl, eSl2, eSl3, eSl4, eNo, ePart, ePart2, sNil_, sSeq_, sBrk_, sCnt_, sDrop_, sDrop2, sDropE, sRet_, sRet2, sRetE, sRetN_, sIf_, sIf_t, sIf_f, sSet_, sSet2, sSetE, setT_nm, setTs_nil, setTs_cons, optS_some, sPar2_, sPar22, sFor_, sFor2, cIter_, cIter_t, cIter_l, cIter_s, cItL_, cItL2, sRaise_, runF_, endR_nx, endR_rt, endR_err, opt_some, seq_nx, seq_rt, seq_bk, seq_ct, seq_err, startE, List.map_cons, List.map_nil, List.length_cons, List.length_nil, List.replicate_succ, List.replicate_zero, List.cons_append, List.nil_append, List.append_nil, List.getElem?_cons_zero, List.getElem?_cons_succ, List.set_cons_zero, List.set_cons_succ, Option.bind_some, Option.map_some, Nat.reduceAdd, Nat.reduceSub, fAdd_int, fSub_int, fNeg_int, gGcd_int, fGt_int, fLt_int, fLe_int, fTup2, hl, e1, pow6, e2, e3, i1, i2, i3, same_qd, Bool.not_true, eCallKC, eCallK2, eCallK_2 (hab _), e4, hk, itR1_n (show k ≤ 900 by omega), eLc, eLc2, eLc3, wipe_nil, wipe_cons, e5, lr, e6, min8, m1, m2, m3, sm, gt, eCallK_2 (hcr _), p1, p2, p3, p4, p5, p6, p7, p8, p9, p10, fNe9]
  refine (congrArg (fun r => endR (RS.seq r _)) e7).trans ?_
  simp only [eC, eVar, eVar2, eBin, eBin2, eBin3, eUn, eUn2, eNil, eCons, eCons2, eCons3, eFn, eFn2, eTst, eTst2, eIf, eIf_t, eIf_f, eAnd, eAnd_t, eAnd_f, eOr, eOr_t, eOr_f, eNot, eNot2, eCall, eCall2, eCallC, eSl, eSl2, eSl3, eSl4, eNo, ePart, ePart2, sNil_, sSeq_, sBrk_, sCnt_, sDrop_, sDrop2, sDropE, sRet_, sRet2, sRetE, sRetN_, sIf_, sIf_t, sIf_f, sSet_, sSet2, sSetE, setT_nm, setTs_nil, setTs_cons, optS_some, sPar2_, sPar22, sFor_, sFor2, cIter_, cIter_t, cIter_l, cIter_s, cItL_, cItL2, sRaise_, runF_, endR_nx, endR_rt, endR_err, opt_some, seq_nx, seq_rt, seq_bk, seq_ct, seq_err, startE, List.map_cons, List.map_nil, List.length_cons, List.length_nil, List.replicate_succ, List.replicate_zero, List.cons_append, List.nil_append, List.append_nil, List.getElem?_cons_zero, List.getElem?_cons_succ, List.set_cons_zero, List.set_cons_succ, Option.bind_some, Option.map_some, Nat.reduceAdd, Nat.reduceSub, fAdd_int, fSub_int, fNeg_int, gGcd_int, fGt_int, fLt_int, fLe_int, fTup2]
end K00

set_option Elab.async false
set_option linter.all false
set_option maxRecDepth 100000
set_option maxHeartbeats 4000000
namespace K00
open PySem PySem.Spec PyProof.Rows L2 DI
theorem pow14 {M : Mem} : fPow M (.int 10) (.int 14) = some (.int 100000000000000) := by
  show (if (0 : Int) ≤ 14 ∧ (14 : Int) ≤ 1000000 ∧ (10 : Int).natAbs < 2 ^ 64 then some (D.int ((10 : Int) ^ (14 : Int).toNat)) else none) = _
  rw [if_pos (by decide)]
  rfl
theorem pow15 {M : Mem} : fPow M (.int 10) (.int 15) = some (.int 1000000000000000) := by
  show (if (0 : Int) ≤ 15 ∧ (15 : Int) ≤ 1000000 ∧ (10 : Int).natAbs < 2 ^ 64 then some (D.int ((10 : Int) ^ (15 : Int).toNat)) else none) = _
  rw [if_pos (by decide)]
  rfl
theorem sm_of {i : Int} {k : Nat} (h : i.natAbs < 2 ^ 60) (hk : 60 ≤ k) : Sm k i := Nat.lt_of_lt_of_le h (Nat.pow_le_pow_right (by decide) hk)
theorem rat2 {a b : Int} (h : b.natAbs < 2 ^ 60) : ∃ t, RatV (.tup [.int a, .int b]) t := rat_tup rfl (show 2 ≤ 1000 by decide) fun x y e => by
  injection e with e1 e2
  injection e2 with e2
  injection e2 with e2
  rw [← e2]
  exact sm_of h (by decide)
theorem fLst15 {M : Mem} {x1 x2 x3 x4 x5 x6 x7 x8 x9 y1 y2 y3 y4 y5 y6 : D} : fLst M [x1, x2, x3, x4, x5, x6, x7, x8, x9, y1, y2, y3, y4, y5, y6] = some (.lst [x1, x2, x3, x4, x5, x6, x7, x8, x9, y1, y2, y3, y4, y5, y6]) := fLst_le (show 15 ≤ 1000 by decide)
theorem r_near {s : Dr} {t : Nat} {R : Mem} (h : s.Ok t) (ht : t + 3 < 2 ^ 39) : ∃ (x : D) (s' : Dr), f__law_near [.ref 1] (mm s R) = .ok x (mm s' R) ∧ tree x = true ∧ (∃ b, RatV x b) ∧ s'.Ok (t + 3) := by
  obtain ⟨n, s1, e1, n0, n1, h1⟩ := r_draw (R := R) (room := 100000000000000) h (by omega) (by decide) (by decide)
  obtain ⟨d, s2, e2, d0, d1, h2⟩ := r_draw (R := R) (room := 100000000000000) h1 (by omega) (by decide) (by decide)
  have hdn : (1 + d).natAbs < 2 ^ 60 := by omega
  have hnn : n.natAbs < 2 ^ 60 := by omega
  have q1 : ∀ M, f__law_q [.int n, .int (1 + d)] M = .ok (qd (Rat.divInt n (1 + d))) M := fun M => r__law_q (by omega) (sm_of hdn (by decide))
  have q2 : ∀ M, f__law_q [.int (0 - n), .int (1 + d)] M = .ok (qd (Rat.divInt (0 - n) (1 + d))) M := fun M => r__law_q (by omega) (sm_of hdn (by decide))
  have m1 : ∀ M, fMul M (.int n) (.int 6) = some (.int (n * 6)) := fun M => fMul_int (mulOk (a := 60) (b := 60) (sm_of hnn (by decide)) (sm_of (by decide) (by decide)) (by decide))
  have m2 : ∀ M, fMul M (.int (1 + d)) (.int 6) = some (.int ((1 + d) * 6)) := fun M => fMul_int (mulOk (a := 60) (b := 60) (sm_of hdn (by decide)) (sm_of (by decide) (by decide)) (by decide))
  obtain ⟨z, hz⟩ : ∃ z : Str, ∀ M, gStr M [.int n] = some (.str z) := ⟨toString n, fun M => if_pos (by
    have : n.natAbs < 2 ^ 60 := hnn
    rcases Nat.eq_zero_or_pos n.natAbs with h0 | h0
    · rw [h0]; decide
    · exact Nat.lt_of_lt_of_le ((Nat.log2_lt (by omega)).mpr this) (by decide))⟩
  obtain ⟨x, s3, e3, hx, h3⟩ := r_pick (R := R) (xs := [qd (Rat.divInt n (1 + d)), qd (Rat.divInt (0 - n) (1 + d)), .tup [.int n, .int (1 + d)], .tup [.int (n * 6), .int ((1 + d) * 6)], .tup [.int n, .int (0 - (1 + d))], .lst [.int n, .int (1 + d)], .tup [.int n], .tup [.int n, .int (1 + d), .int 1], .tup [.bl true, .int 1], .tup [.int 0, .int 1], .tup [.int 0, .int 2], .tup [.int 1, .int 0], .non, .int n, .tup [.str z, .int (1 + d)]]) h2 (by omega) (by simp) (show 15 ≤ 1000 by decide)
  have t1 : ∀ {M : Mem} {a : D}, fTup M [a] = some (.tup [a]) := if_pos (Nat.le_trans (show 1 ≤ 1000 by decide) (by decide +kernel))
  have t3 : ∀ {M : Mem} {a b c : D}, fTup M [a, b, c] = some (.tup [a, b, c]) := if_pos (Nat.le_trans (show 3 ≤ 1000 by decide) (by decide +kernel))
  have l2 : fLst (mm s2 R) [.int n, .int (1 + d)] = some (.lst [.int n, .int (1 + d)]) := fLst_le (show 2 ≤ 1000 by decide)
  refine ⟨x, s3, ?_, ?_, ?_, h3⟩
  · unfold f__law_near b__law_near
    simp only [eC, eVar, eVar2, eBin, eBin2, eBin3, eUn, eUn2, eNil, eCons, eCons2, eCons3, eFn, eFn2, eTst, eTst2, eIf, eIf_t, eIf_f, eAnd, eAnd_t, eAnd_f, eOr, eOr_t, eOr_f, eNot, eNot2, eCall, eCall2, eCallC, eSl, eSl2, eSl3, eSl4, eNo, ePart, ePart2, sNil_, sSeq_, sBrk_, sCnt_, sDrop_, sDrop2, sDropE, sRet_, sRet2, sRetE, sRetN_, sIf_, sIf_t, sIf_f, sSet_, sSet2, sSetE, setT_nm, setTs_nil, setTs_cons, optS_some, sPar2_, sPar22, sFor_, sFor2, cIter_, cIter_t, cIter_l, cIter_s, cItL_, cItL2, sRaise_, runF_, endR_nx, endR_rt, endR_err, opt_some, seq_nx, seq_rt, seq_bk, seq_ct, seq_err, startE, List.map_cons, List.map_nil, List.length_cons, List.length_nil, List.replicate_succ, List.replicate_zero, List.cons_append, List.nil_append, List.append_nil, List.getElem?_cons_zero, List.getElem?_cons_succ, List.set_cons_zero, List.set_cons_succ, Option.bind_some, Option.map_some, Nat.reduceAdd, Nat.reduceSub, fAdd_int, fSub_int, fNeg_int, gGcd_int, fGt_int, fLt_int, fLe_int, fTup2, pow14, e1, e2, q1, q2, m1, m2, l2, t1, t3, hz, fLst15, e3]
  · simp only [List.mem_cons, List.not_mem_nil, or_false] at hx
    rcases hx with rfl | rfl | rfl | rfl | rfl | rfl | rfl | rfl | rfl | rfl | rfl | rfl | rfl | rfl | rfl <;> rfl
  · have s1 : ∀ i : Int, i.natAbs < 2 ^ 60 → Sq 60 (Rat.divInt i (1 + d)) := fun i hi => Sq.divInt (sm_of hi (Nat.le_refl _)) (sm_of hdn (Nat.le_refl _)) (by omega)
    simp only [List.mem_cons, List.not_mem_nil, or_false] at hx
    rcases hx with rfl | rfl | rfl | rfl | rfl | rfl | rfl | rfl | rfl | rfl | rfl | rfl | rfl | rfl | rfl
    · exact ⟨_, RatV.qd (s1 n hnn) (by decide)⟩
    · exact ⟨_, RatV.qd (s1 (0 - n) (by omega)) (by decide)⟩
    · exact rat2 hdn
    · exact rat2 (by omega)
    · exact rat2 (by omega)
    · exact ⟨_, RatV.not rfl rfl⟩
    · exact rat_tup rfl (show 1 ≤ 1000 by decide) fun x y e => by injection e with _ e; cases e
    · exact rat_tup rfl (show 3 ≤ 1000 by decide) fun x y e => by injection e with _ e; injection e with _ e; cases e
    · exact rat_tup rfl (show 2 ≤ 1000 by decide) fun x y e => by injection e with e; cases e
    · exact rat2 (by decide)
    · exact rat2 (by decide)
    · exact rat2 (by decide)
    · exact ⟨_, RatV.not rfl rfl⟩
    · exact ⟨_, RatV.not rfl rfl⟩
    · exact rat_tup rfl (show 2 ≤ 1000 by decide) fun x y e => by injection e with e; cases e
/-! ### ratio -/
section
variable {M : Mem}
theorem r_ratio {n d : Int} (hd : d ≠ 0) (hs : Sm 9000 d) : f_ratio [.int n, .int d] M = .ok (qd (Rat.divInt n d)) M := by
  unfold f_ratio b_ratio
  simp only [eC, eVar, eVar2, eBin, eBin2, eBin3, eUn, eUn2, eNil, eCons, eCons2, eCons3, eFn, eFn2, eTst, eTst2, eIf, eIf_t, eIf_f, eAnd, eAnd_t, eAnd_f, eOr, eOr_t, eOr_f, eNot, eNot2, eCall, eCall2, eCallC, eSl, eSl2, eSl3, eSl4, eNo, ePart, ePart2, sNil_, sSeq_, sBrk_, sCnt_, sDrop_, sDrop2, sDropE, sRet_, sRet2, sRetE, sRetN_, sIf_, sIf_t, sIf_f, sSet_, sSet2, sSetE, setT_nm, setTs_nil, setTs_cons, optS_some, sPar2_, sPar22, sFor_, sFor2, cIter_, cIter_t, cIter_l, cIter_s, cItL_, cItL2, sRaise_, runF_, endR_nx, endR_rt, endR_err, opt_some, seq_nx, seq_rt, seq_bk, seq_ct, seq_err, startE, List.map_cons, List.map_nil, List.length_cons, List.length_nil, List.replicate_succ, List.replicate_zero, List.cons_append, List.nil_append, List.append_nil, List.getElem?_cons_zero, List.getElem?_cons_succ, List.set_cons_zero, List.set_cons_succ, Option.bind_some, Option.map_some, Nat.reduceAdd, Nat.reduceSub, fAdd_int, fSub_int, fNeg_int, gGcd_int, fGt_int, fLt_int, fLe_int, fTup2, r_is_whole, Bool.not_true, fEq_int, decide_eq_false hd, r_lowest hd hs]
theorem fNe_qd {r : Rat} : fNe M (qd r) (qd r) = some (.bl false) := by
  have := fEq_qd (M := M) (a := r) (b := r)
  unfold fEq at this
  unfold fNe
  cases e : eqD M (qd r) (qd r) with
  | none => rw [e] at this; cases this
  | some b =>
    rw [e] at this
    have h : b = decide (r = r) := by
      injection this with h
      injection h
    rw [h, decide_eq_true rfl]
    rfl
end
end K00

set_option Elab.async false
set_option linter.all false
set_option maxRecDepth 100000
set_option maxHeartbeats 4000000
namespace K00
open PySem PySem.Spec PyProof.Rows L2 DI
abbrev z0 : Str := "abcdefghijklmnopqrstuvwxyz"
def LET : List Nat := z0.cps.toList
def ch (c : Nat) : D := .str ⟨#[c]⟩
section
variable {M : Mem}
theorem cIter_str {z : Str} : it2 (.ok (.str z) M) = .ok ⟨z.cps.toList.map ch, []⟩ M := rfl
theorem fIn_let {c : Nat} : fIn M (ch c) (.str z0) = some (.bl (decide (c ∈ LET))) := rfl
theorem fNotIn_let {c : Nat} : fNotIn M (ch c) (.str z0) = some (.bl (!decide (c ∈ LET))) := rfl
theorem isi_str {s : Str} : gIsi anc M [.str s, .ty "str"] = some (.bl true) := rfl
theorem gLen_str {z : Str} (h : z.length ≤ 1000000) : gLen M [.str z] = some (.int z.length) := if_pos (Nat.le_trans h (by decide +kernel))
def wordB (z : Str) : Bool := decide (1 ≤ z.length) && (decide (z.length ≤ 8) && z.cps.toList.all fun c => decide (c ∈ LET))
theorem r_is_word_S {z : Str} (h : z.length ≤ 1000000) : f_is_word [.str z] M = .ok (.bl (wordB z)) M := by
  unfold f_is_word b_is_word wordB
  have e1 : decide ((1 : Int) ≤ z.length) = decide (1 ≤ z.length) := by rw [decide_eq_decide]; omega
  have e2 : decide ((z.length : Int) ≤ 8) = decide (z.length ≤ 8) := by rw [decide_eq_decide]; omega
  have hzl : z.cps.toList.length = z.length := rfl
  by_cases h1 : 1 ≤ z.length
  · by_cases h2 : z.length ≤ 8
    · have hlc := lcL_map (M := M) (env := [.val (.str z), .none]) (it := ⟨z.cps.toList.map ch, []⟩) (t := .nm 1) (e := cBin fIn (cVar 1) (cC d_LETTERS)) ch (fun c => .bl (decide (c ∈ LET))) depOk_nil z.cps.toList (fun c hc => ⟨_, setT_nm, by
        have : d_LETTERS = .str z0 := rfl
        simp only [eC, eVar, eVar2, eBin, eBin2, eBin3, eUn, eUn2, eNil, eCons, eCons2, eCons3, eFn, eFn2, eTst, eTst2, eIf, eIf_t, eIf_f, eAnd, eAnd_t, eAnd_f, eOr, eOr_t, eOr_f, eNot, eNot2, eCall, eCall2, eCallC, eSl, eSl2, eSl3, eSl4, eNo, ePart, ePart2, sNil_, sSeq_, sBrk_, sCnt_, sDrop_, sDrop2, sDropE, sRet_, sRet2, sRetE, sRetN_, sIf_, sIf_t, sIf_f, sSet_, sSet2, sSetE, setT_nm, setTs_nil, setTs_cons, optS_some, sPar2_, sPar22, sFor_, sFor2, cIter_, cIter_t, cIter_l, cIter_s, cItL_, cItL2, sRaise_, runF_, endR_nx, endR_rt, endR_err, opt_some, seq_nx, seq_rt, seq_bk, seq_ct, seq_err, startE, List.map_cons, List.map_nil, List.length_cons, List.length_nil, List.replicate_succ, List.replicate_zero, List.cons_append, List.nil_append, List.append_nil, List.getElem?_cons_zero, List.getElem?_cons_succ, List.set_cons_zero, List.set_cons_succ, Option.bind_some, Option.map_some, Nat.reduceAdd, Nat.reduceSub, fAdd_int, fSub_int, fNeg_int, gGcd_int, fGt_int, fLt_int, fLe_int, fTup2, this, fIn_let]⟩) (by omega)
      simp only [eC, eVar, eVar2, eBin, eBin2, eBin3, eUn, eUn2, eNil, eCons, eCons2, eCons3, eFn, eFn2, eTst, eTst2, eIf, eIf_t, eIf_f, eAnd, eAnd_t, eAnd_f, eOr, eOr_t, eOr_f, eNot, eNot2, eCall, eCall2, eCallC, eSl, eSl2, eSl3, eSl4, eNo, ePart, ePart2, sNil_, sSeq_, sBrk_, sCnt_, sDrop_, sDrop2, sDropE, sRet_, sRet2, sRetE, sRetN_, sIf_, sIf_t, sIf_f, sSet_, sSet2, sSetE, setT_nm, setTs_nil, setTs_cons, optS_some, sPar2_, sPar22, sFor_, sFor2, cIter_, cIter_t, cIter_l, cIter_s, cItL_, cItL2, sRaise_, runF_, endR_nx, endR_rt, endR_err, opt_some, seq_nx, seq_rt, seq_bk, seq_ct, seq_err, startE, List.map_cons, List.map_nil, List.length_cons, List.length_nil, List.replicate_succ, List.replicate_zero, List.cons_append, List.nil_append, List.append_nil, List.getElem?_cons_zero, List.getElem?_cons_succ, List.set_cons_zero, List.set_cons_succ, Option.bind_some, Option.map_some, Nat.reduceAdd, Nat.reduceSub, fAdd_int, fSub_int, fNeg_int, gGcd_int, fGt_int, fLt_int, fLe_int, fTup2, isi_str, eCh, eChA, eChB, gLen_str h, e1, e2, decide_eq_true h1, decide_eq_true h2, eChC_t, eCh4, cIter_str, eLc, eLc2, eLc3, wipe_nil, wipe_cons, hlc, gAll_map, Bool.true_and]
    · simp only [eC, eVar, eVar2, eBin, eBin2, eBin3, eUn, eUn2, eNil, eCons, eCons2, eCons3, eFn, eFn2, eTst, eTst2, eIf, eIf_t, eIf_f, eAnd, eAnd_t, eAnd_f, eOr, eOr_t, eOr_f, eNot, eNot2, eCall, eCall2, eCallC, eSl, eSl2, eSl3, eSl4, eNo, ePart, ePart2, sNil_, sSeq_, sBrk_, sCnt_, sDrop_, sDrop2, sDropE, sRet_, sRet2, sRetE, sRetN_, sIf_, sIf_t, sIf_f, sSet_, sSet2, sSetE, setT_nm, setTs_nil, setTs_cons, optS_some, sPar2_, sPar22, sFor_, sFor2, cIter_, cIter_t, cIter_l, cIter_s, cItL_, cItL2, sRaise_, runF_, endR_nx, endR_rt, endR_err, opt_some, seq_nx, seq_rt, seq_bk, seq_ct, seq_err, startE, List.map_cons, List.map_nil, List.length_cons, List.length_nil, List.replicate_succ, List.replicate_zero, List.cons_append, List.nil_append, List.append_nil, List.getElem?_cons_zero, List.getElem?_cons_succ, List.set_cons_zero, List.set_cons_succ, Option.bind_some, Option.map_some, Nat.reduceAdd, Nat.reduceSub, fAdd_int, fSub_int, fNeg_int, gGcd_int, fGt_int, fLt_int, fLe_int, fTup2, isi_str, eCh, eChA, eChB, gLen_str h, e1, e2, decide_eq_true h1, decide_eq_false h2, eChC_t, eCh4, Bool.true_and, Bool.false_and]
  · simp only [eC, eVar, eVar2, eBin, eBin2, eBin3, eUn, eUn2, eNil, eCons, eCons2, eCons3, eFn, eFn2, eTst, eTst2, eIf, eIf_t, eIf_f, eAnd, eAnd_t, eAnd_f, eOr, eOr_t, eOr_f, eNot, eNot2, eCall, eCall2, eCallC, eSl, eSl2, eSl3, eSl4, eNo, ePart, ePart2, sNil_, sSeq_, sBrk_, sCnt_, sDrop_, sDrop2, sDropE, sRet_, sRet2, sRetE, sRetN_, sIf_, sIf_t, sIf_f, sSet_, sSet2, sSetE, setT_nm, setTs_nil, setTs_cons, optS_some, sPar2_, sPar22, sFor_, sFor2, cIter_, cIter_t, cIter_l, cIter_s, cItL_, cItL2, sRaise_, runF_, endR_nx, endR_rt, endR_err, opt_some, seq_nx, seq_rt, seq_bk, seq_ct, seq_err, startE, List.map_cons, List.map_nil, List.length_cons, List.length_nil, List.replicate_succ, List.replicate_zero, List.cons_append, List.nil_append, List.append_nil, List.getElem?_cons_zero, List.getElem?_cons_succ, List.set_cons_zero, List.set_cons_succ, Option.bind_some, Option.map_some, Nat.reduceAdd, Nat.reduceSub, fAdd_int, fSub_int, fNeg_int, gGcd_int, fGt_int, fLt_int, fLe_int, fTup2, isi_str, eCh, eChA, eChB, gLen_str h, e1, decide_eq_false h1, eChC_f, Bool.false_and]
theorem r_is_word_N {x : D} (h : gIsi anc M [x, .ty "str"] = some (.bl false)) : f_is_word [x] M = .ok (.bl false) M := by
  unfold f_is_word b_is_word
  simp only [eC, eVar, eVar2, eBin, eBin2, eBin3, eUn, eUn2, eNil, eCons, eCons2, eCons3, eFn, eFn2, eTst, eTst2, eIf, eIf_t, eIf_f, eAnd, eAnd_t, eAnd_f, eOr, eOr_t, eOr_f, eNot, eNot2, eCall, eCall2, eCallC, eSl, eSl2, eSl3, eSl4, eNo, ePart, ePart2, sNil_, sSeq_, sBrk_, sCnt_, sDrop_, sDrop2, sDropE, sRet_, sRet2, sRetE, sRetN_, sIf_, sIf_t, sIf_f, sSet_, sSet2, sSetE, setT_nm, setTs_nil, setTs_cons, optS_some, sPar2_, sPar22, sFor_, sFor2, cIter_, cIter_t, cIter_l, cIter_s, cItL_, cItL2, sRaise_, runF_, endR_nx, endR_rt, endR_err, opt_some, seq_nx, seq_rt, seq_bk, seq_ct, seq_err, startE, List.map_cons, List.map_nil, List.length_cons, List.length_nil, List.replicate_succ, List.replicate_zero, List.cons_append, List.nil_append, List.append_nil, List.getElem?_cons_zero, List.getElem?_cons_succ, List.set_cons_zero, List.set_cons_succ, Option.bind_some, Option.map_some, Nat.reduceAdd, Nat.reduceSub, fAdd_int, fSub_int, fNeg_int, gGcd_int, fGt_int, fLt_int, fLe_int, fTup2, h]
theorem toPys_ch : ∀ cs : List Nat, toPys (cs.map ch) = some (cs.map fun c => PyData.str ⟨#[c]⟩)
  | [] => rfl
  | c :: cs => by
    rw [List.map_cons, toPys, toPys_ch cs]
    rfl
theorem lay_ch : ∀ cs : List Nat, (∀ c ∈ cs, c < 0x110000) → PyData.canLayAll0 (cs.map fun c => PyData.str ⟨#[c]⟩) = true
  | [], _ => rfl
  | c :: cs, h => by
    have h0 := h c List.mem_cons_self
    rw [List.map_cons, PyData.canLayAll0, lay_ch cs fun x hx => h x (List.mem_cons_of_mem _ hx), PyData.canLay0]
    simp [PyData.strOk, h0]
theorem dep_ch : ∀ cs : List Nat, PyData.depthAll (cs.map fun c => PyData.str ⟨#[c]⟩) = 0
  | [] => rfl
  | c :: cs => by rw [List.map_cons, PyData.depthAll, dep_ch cs]; rfl
theorem fEq_ch (cs : List Nat) (h : ∀ c ∈ cs, c < 0x110000) : fEq M (.lst (cs.map ch)) (.lst []) = some (.bl cs.isEmpty) := by
  unfold fEq eqD
  show ((match toPy (.lst (cs.map ch)), toPy (.lst []) with
    | some a, some b => if SeqAt.shaped a = true ∧ SeqAt.shaped b = true then some (PyData.eqv a b) else none
    | _, _ => none).map D.bl) = _
  rw [toPy, toPys_ch]
  show ((if SeqAt.shaped (.list (cs.map fun c => PyData.str ⟨#[c]⟩)) = true ∧ SeqAt.shaped (.list []) = true then some (PyData.eqv (.list (cs.map fun c => PyData.str ⟨#[c]⟩)) (.list [])) else none).map D.bl) = _
  have hs : SeqAt.shaped (.list (cs.map fun c => PyData.str ⟨#[c]⟩)) = true := by
    simp [SeqAt.shaped, PyData.canLay0, PyData.depth, lay_ch cs h, dep_ch]
  rw [if_pos ⟨hs, by rfl⟩]
  cases cs with
  | nil => rfl
  | cons a r => rfl
/-- what the law says of a word -/
noncomputable def wdE : EvE := (cAnd (cFn (gIsi anc) (cCons (cVar 4) (cCons (cC (.ty "str")) cNil))) (cAnd (cChain fLe fLe (cC (.int 1)) (cFn gLen (cCons (cVar 4) cNil)) (cC (.int 8))) (cBin fEq (cLc (cIter (cVar 4)) (.nm 9) (cTst (cBin fNotIn (cVar 9) (cC (.str "abcdefghijklmnopqrstuvwxyz")))) (cVar 9) [9]) (cFn fLst cNil))))
theorem wd_S {a0 a1 a2 a3 a5 a6 a7 a8 a9 : Sl} {z : Str} (h : z.length ≤ 1000000) (hc : ∀ c ∈ z.cps.toList, c < 0x110000) : wdE [a0, a1, a2, a3, .val (.str z), a5, a6, a7, a8, a9] M = .ok (.bl (wordB z)) M := by
  unfold wdE wordB
  have e1 : decide ((1 : Int) ≤ z.length) = decide (1 ≤ z.length) := by rw [decide_eq_decide]; omega
  have e2 : decide ((z.length : Int) ≤ 8) = decide (z.length ≤ 8) := by rw [decide_eq_decide]; omega
  have hzl : z.cps.toList.length = z.length := rfl
  by_cases h1 : 1 ≤ z.length
  · by_cases h2 : z.length ≤ 8
    · have hlc := lcL_of (M := M) (env := [a0, a1, a2, a3, .val (.str z), a5, a6, a7, a8, .none]) (it := ⟨z.cps.toList.map ch, []⟩) (t := .nm 9) (c := cTst (cBin fNotIn (cVar 9) (cC (.str "abcdefghijklmnopqrstuvwxyz")))) (e := cVar 9) ch ch (fun c => !decide (c ∈ LET)) depOk_nil z.cps.toList [] (fun c hc => ⟨_, setT_nm, by
        have := fNotIn_let (M := M) (c := c)
        simp only [eC, eVar, eVar2, eBin, eBin2, eBin3, eUn, eUn2, eNil, eCons, eCons2, eCons3, eFn, eFn2, eTst, eTst2, eIf, eIf_t, eIf_f, eAnd, eAnd_t, eAnd_f, eOr, eOr_t, eOr_f, eNot, eNot2, eCall, eCall2, eCallC, eSl, eSl2, eSl3, eSl4, eNo, ePart, ePart2, sNil_, sSeq_, sBrk_, sCnt_, sDrop_, sDrop2, sDropE, sRet_, sRet2, sRetE, sRetN_, sIf_, sIf_t, sIf_f, sSet_, sSet2, sSetE, setT_nm, setTs_nil, setTs_cons, optS_some, sPar2_, sPar22, sFor_, sFor2, cIter_, cIter_t, cIter_l, cIter_s, cItL_, cItL2, sRaise_, runF_, endR_nx, endR_rt, endR_err, opt_some, seq_nx, seq_rt, seq_bk, seq_ct, seq_err, startE, List.map_cons, List.map_nil, List.length_cons, List.length_nil, List.replicate_succ, List.replicate_zero, List.cons_append, List.nil_append, List.append_nil, List.getElem?_cons_zero, List.getElem?_cons_succ, List.set_cons_zero, List.set_cons_succ, Option.bind_some, Option.map_some, Nat.reduceAdd, Nat.reduceSub, fAdd_int, fSub_int, fNeg_int, gGcd_int, fGt_int, fLt_int, fLe_int, fTup2, this], fun _ => by simp only [eC, eVar, eVar2, eBin, eBin2, eBin3, eUn, eUn2, eNil, eCons, eCons2, eCons3, eFn, eFn2, eTst, eTst2, eIf, eIf_t, eIf_f, eAnd, eAnd_t, eAnd_f, eOr, eOr_t, eOr_f, eNot, eNot2, eCall, eCall2, eCallC, eSl, eSl2, eSl3, eSl4, eNo, ePart, ePart2, sNil_, sSeq_, sBrk_, sCnt_, sDrop_, sDrop2, sDropE, sRet_, sRet2, sRetE, sRetN_, sIf_, sIf_t, sIf_f, sSet_, sSet2, sSetE, setT_nm, setTs_nil, setTs_cons, optS_some, sPar2_, sPar22, sFor_, sFor2, cIter_, cIter_t, cIter_l, cIter_s, cItL_, cItL2, sRaise_, runF_, endR_nx, endR_rt, endR_err, opt_some, seq_nx, seq_rt, seq_bk, seq_ct, seq_err, startE, List.map_cons, List.map_nil, List.length_cons, List.length_nil, List.replicate_succ, List.replicate_zero, List.cons_append, List.nil_append, List.append_nil, List.getElem?_cons_zero, List.getElem?_cons_succ, List.set_cons_zero, List.set_cons_succ, Option.bind_some, Option.map_some, Nat.reduceAdd, Nat.reduceSub, fAdd_int, fSub_int, fNeg_int, gGcd_int, fGt_int, fLt_int, fLe_int, fTup2]⟩) (by rw [List.length_nil]; omega)
      rw [List.nil_append] at hlc
      have hE := fEq_ch (M := M) (z.cps.toList.filter fun c => !decide (c ∈ LET)) fun c hx => hc c (List.mem_filter.mp hx).1
      have hA : ∀ l : List Nat, (l.filter fun c => !decide (c ∈ LET)).isEmpty = l.all fun c => decide (c ∈ LET) := fun l => by
        induction l with
        | nil => rfl
        | cons c l ih =>
          rw [List.filter_cons, List.all_cons]
          cases hp : decide (c ∈ LET) with
          | true => rw [Bool.not_true, if_neg (by decide), ih, Bool.true_and]
          | false => rw [Bool.not_false, if_pos rfl, Bool.false_and]; rfl
      rw [hA] at hE
      simp only [eC, eVar, eVar2, eBin, eBin2, eBin3, eUn, eUn2, eNil, eCons, eCons2, eCons3, eFn, eFn2, eTst, eTst2, eIf, eIf_t, eIf_f, eAnd, eAnd_t, eAnd_f, eOr, eOr_t, eOr_f, eNot, eNot2, eCall, eCall2, eCallC, eSl, eSl2, eSl3, eSl4, eNo, ePart, ePart2, sNil_, sSeq_, sBrk_, sCnt_, sDrop_, sDrop2, sDropE, sRet_, sRet2, sRetE, sRetN_, sIf_, sIf_t, sIf_f, sSet_, sSet2, sSetE, setT_nm, setTs_nil, setTs_cons, optS_some, sPar2_, sPar22, sFor_, sFor2, cIter_, cIter_t, cIter_l, cIter_s, cItL_, cItL2, sRaise_, runF_, endR_nx, endR_rt, endR_err, opt_some, seq_nx, seq_rt, seq_bk, seq_ct, seq_err, startE, List.map_cons, List.map_nil, List.length_cons, List.length_nil, List.replicate_succ, List.replicate_zero, List.cons_append, List.nil_append, List.append_nil, List.getElem?_cons_zero, List.getElem?_cons_succ, List.set_cons_zero, List.set_cons_succ, Option.bind_some, Option.map_some, Nat.reduceAdd, Nat.reduceSub, fAdd_int, fSub_int, fNeg_int, gGcd_int, fGt_int, fLt_int, fLe_int, fTup2, isi_str, eCh, eChA, eChB, gLen_str h, e1, e2, decide_eq_true h1, decide_eq_true h2, eChC_t, eCh4, cIter_str, eLc, eLc2, eLc3, wipe_nil, wipe_cons, hlc, fLst_0, hE, Bool.true_and]
    · simp only [eC, eVar, eVar2, eBin, eBin2, eBin3, eUn, eUn2, eNil, eCons, eCons2, eCons3, eFn, eFn2, eTst, eTst2, eIf, eIf_t, eIf_f, eAnd, eAnd_t, eAnd_f, eOr, eOr_t, eOr_f, eNot, eNot2, eCall, eCall2, eCallC, eSl, eSl2, eSl3, eSl4, eNo, ePart, ePart2, sNil_, sSeq_, sBrk_, sCnt_, sDrop_, sDrop2, sDropE, sRet_, sRet2, sRetE, sRetN_, sIf_, sIf_t, sIf_f, sSet_, sSet2, sSetE, setT_nm, setTs_nil, setTs_cons, optS_some, sPar2_, sPar22, sFor_, sFor2, cIter_, cIter_t, cIter_l, cIter_s, cItL_, cItL2, sRaise_, runF_, endR_nx, endR_rt, endR_err, opt_some, seq_nx, seq_rt, seq_bk, seq_ct, seq_err, startE, List.map_cons, List.map_nil, List.length_cons, List.length_nil, List.replicate_succ, List.replicate_zero, List.cons_append, List.nil_append, List.append_nil, List.getElem?_cons_zero, List.getElem?_cons_succ, List.set_cons_zero, List.set_cons_succ, Option.bind_some, Option.map_some, Nat.reduceAdd, Nat.reduceSub, fAdd_int, fSub_int, fNeg_int, gGcd_int, fGt_int, fLt_int, fLe_int, fTup2, isi_str, eCh, eChA, eChB, gLen_str h, e1, e2, decide_eq_true h1, decide_eq_false h2, eChC_t, eCh4, Bool.true_and, Bool.false_and]
  · simp only [eC, eVar, eVar2, eBin, eBin2, eBin3, eUn, eUn2, eNil, eCons, eCons2, eCons3, eFn, eFn2, eTst, eTst2, eIf, eIf_t, eIf_f, eAnd, eAnd_t, eAnd_f, eOr, eOr_t, eOr_f, eNot, eNot2, eCall, eCall2, eCallC, eSl, eSl2, eSl3, eSl4, eNo, ePart, ePart2, sNil_, sSeq_, sBrk_, sCnt_, sDrop_, sDrop2, sDropE, sRet_, sRet2, sRetE, sRetN_, sIf_, sIf_t, sIf_f, sSet_, sSet2, sSetE, setT_nm, setTs_nil, setTs_cons, optS_some, sPar2_, sPar22, sFor_, sFor2, cIter_, cIter_t, cIter_l, cIter_s, cItL_, cItL2, sRaise_, runF_, endR_nx, endR_rt, endR_err, opt_some, seq_nx, seq_rt, seq_bk, seq_ct, seq_err, startE, List.map_cons, List.map_nil, List.length_cons, List.length_nil, List.replicate_succ, List.replicate_zero, List.cons_append, List.nil_append, List.append_nil, List.getElem?_cons_zero, List.getElem?_cons_succ, List.set_cons_zero, List.set_cons_succ, Option.bind_some, Option.map_some, Nat.reduceAdd, Nat.reduceSub, fAdd_int, fSub_int, fNeg_int, gGcd_int, fGt_int, fLt_int, fLe_int, fTup2, isi_str, eCh, eChA, eChB, gLen_str h, e1, decide_eq_false h1, eChC_f, Bool.false_and]
theorem wd_N {a0 a1 a2 a3 a5 a6 a7 a8 a9 : Sl} {x : D} (h : gIsi anc M [x, .ty "str"] = some (.bl false)) : wdE [a0, a1, a2, a3, .val x, a5, a6, a7, a8, a9] M = .ok (.bl false) M := by
  unfold wdE
  simp only [eC, eVar, eVar2, eBin, eBin2, eBin3, eUn, eUn2, eNil, eCons, eCons2, eCons3, eFn, eFn2, eTst, eTst2, eIf, eIf_t, eIf_f, eAnd, eAnd_t, eAnd_f, eOr, eOr_t, eOr_f, eNot, eNot2, eCall, eCall2, eCallC, eSl, eSl2, eSl3, eSl4, eNo, ePart, ePart2, sNil_, sSeq_, sBrk_, sCnt_, sDrop_, sDrop2, sDropE, sRet_, sRet2, sRetE, sRetN_, sIf_, sIf_t, sIf_f, sSet_, sSet2, sSetE, setT_nm, setTs_nil, setTs_cons, optS_some, sPar2_, sPar22, sFor_, sFor2, cIter_, cIter_t, cIter_l, cIter_s, cItL_, cItL2, sRaise_, runF_, endR_nx, endR_rt, endR_err, opt_some, seq_nx, seq_rt, seq_bk, seq_ct, seq_err, startE, List.map_cons, List.map_nil, List.length_cons, List.length_nil, List.replicate_succ, List.replicate_zero, List.cons_append, List.nil_append, List.append_nil, List.getElem?_cons_zero, List.getElem?_cons_succ, List.set_cons_zero, List.set_cons_succ, Option.bind_some, Option.map_some, Nat.reduceAdd, Nat.reduceSub, fAdd_int, fSub_int, fNeg_int, gGcd_int, fGt_int, fLt_int, fLe_int, fTup2, h]
structure WdV (x : D) (b : Bool) : Prop where
  f : ∀ M, f_is_word [x] M = .ok (.bl b) M
  l : ∀ M a0 a1 a2 a3 a5 a6 a7 a8 a9, wdE [a0, a1, a2, a3, .val x, a5, a6, a7, a8, a9] M = .ok (.bl b) M
theorem WdV.str {z : Str} (h : z.length ≤ 1000000) (hc : ∀ c ∈ z.cps.toList, c < 0x110000) : WdV (.str z) (wordB z) := ⟨fun M => r_is_word_S h, fun M _ _ _ _ _ _ _ _ _ => wd_S h hc⟩
theorem WdV.not {x : D} (h : ∀ M, gIsi anc M [x, .ty "str"] = some (.bl false)) : WdV x false := ⟨fun M => r_is_word_N (h M), fun M _ _ _ _ _ _ _ _ _ => wd_N (h M)⟩
noncomputable def bW : EvS := (sSeq (sSet (.nm 8) wdE) (sIf (cNot (cCall f__law_is_truth (cCons (cCall f_is_word (cCons (cVar 4) cNil)) (cCons (cVar 8) cNil)))) (sRet (cC (.bl false))) sNil))
theorem bW_loop {it : ItD} (hM : DepOk it M) {a0 a1 a2 a3 a5 a6 a7 a9 : Sl} : ∀ (ds : List D) (a4 a8 : Sl), (∀ d ∈ ds, ∃ b, WdV d b) → ∃ s4 s8, forL it (.nm 4) bW ds [a0, a1, a2, a3, a4, a5, a6, a7, a8, a9] M = .nx [a0, a1, a2, a3, s4, a5, a6, a7, s8, a9] M
  | [], a4, a8, _ => ⟨a4, a8, forL_nil hM⟩
  | d :: ds, a4, a8, h => by
    obtain ⟨b, hb⟩ := h d List.mem_cons_self
    obtain ⟨s4, s8, e⟩ := bW_loop hM ds (.val d) (.val (.bl b)) fun x hx => h x (List.mem_cons_of_mem _ hx)
    refine ⟨s4, s8, ?_⟩
    rw [forL_cons hM, setT_nm]
    have hB : bW [a0, a1, a2, a3, .val d, a5, a6, a7, a8, a9] M = .nx [a0, a1, a2, a3, .val d, a5, a6, a7, .val (.bl b), a9] M := by
      unfold bW
      simp only [eC, eVar, eVar2, eBin, eBin2, eBin3, eUn, eUn2, eNil, eCons, eCons2, eCons3, eFn, eFn2, eTst, eTst2, eIf, eIf_t, eIf_f, eAnd, eAnd_t, eAnd_f, eOr, eOr_t, eOr_f, eNot, eNot2, eCall, eCall2, eCallC, eSl, eSl2, eSl3, eSl4, eNo, ePart, ePart2, sNil_, sSeq_, sBrk_, sCnt_, sDrop_, sDrop2, sDropE, sRet_, sRet2, sRetE, sRetN_, sIf_, sIf_t, sIf_f, sSet_, sSet2, sSetE, setT_nm, setTs_nil, setTs_cons, optS_some, sPar2_, sPar22, sFor_, sFor2, cIter_, cIter_t, cIter_l, cIter_s, cItL_, cItL2, sRaise_, runF_, endR_nx, endR_rt, endR_err, opt_some, seq_nx, seq_rt, seq_bk, seq_ct, seq_err, startE, List.map_cons, List.map_nil, List.length_cons, List.length_nil, List.replicate_succ, List.replicate_zero, List.cons_append, List.nil_append, List.append_nil, List.getElem?_cons_zero, List.getElem?_cons_succ, List.set_cons_zero, List.set_cons_succ, Option.bind_some, Option.map_some, Nat.reduceAdd, Nat.reduceSub, fAdd_int, fSub_int, fNeg_int, gGcd_int, fGt_int, fLt_int, fLe_int, fTup2, hb.l, hb.f, truth_bb, Bool.not_true]
    simp only [optS_some, seq_nx, List.set_cons_succ, List.set_cons_zero, hB]
    rw [turn_nx, e]
end
end K00

set_option Elab.async false
set_option linter.all false
set_option maxRecDepth 100000
set_option maxHeartbeats 4000000
namespace K00
open PySem PySem.Spec PyProof.Rows L2 DI
/-- a text of small letters -/
structure Wd1 (w : Str) : Prop where
  len : w.length ≤ 8
  let_ : ∀ c ∈ w.cps.toList, c ∈ LET
theorem let_lt {c : Nat} (h : c ∈ LET) : c < 128 := by
  have : ∀ c ∈ LET, c < 128 := by decide
  exact this c h
theorem strs_ch : ∀ cs : List Nat, strsD (cs.map ch) = some (cs.map fun c => (⟨#[c]⟩ : Str))
  | [] => rfl
  | c :: cs => by
    rw [List.map_cons]
    show (strsD (cs.map ch)).map (_ :: ·) = _
    rw [strs_ch cs]
    rfl
theorem glue_ch : ∀ cs : List Nat, (Str.join ("" : Str) (cs.map fun c => (⟨#[c]⟩ : Str))).cps.toList = cs
  | [] => rfl
  | [c] => rfl
  | c :: d :: cs => by
    have := glue_ch (d :: cs)
    show ((#[c] ++ ("" : Str).cps) ++ (Str.join ("" : Str) ((d :: cs).map fun c => (⟨#[c]⟩ : Str))).cps).toList = _
    rw [Array.toList_append, this]
    rfl
theorem join_ch (cs : List Nat) : (Txt.join ("" : Str) (cs.map fun c => (⟨#[c]⟩ : Str))).cps.toList = cs := by
  show (Builtin.Str.glued ("" : Str) _).cps.toList = _
  rw [StrLaws.glued_eq_join]
  exact glue_ch cs
theorem join_len {cs : List Nat} : (Txt.join ("" : Str) (cs.map fun c => (⟨#[c]⟩ : Str))).length = cs.length := by
  show (Txt.join ("" : Str) (cs.map fun c => (⟨#[c]⟩ : Str))).cps.size = _
  rw [← Array.length_toList, join_ch]
section
variable {M : Mem}
theorem join_ok {cs : List Nat} (h : cs.length ≤ 8) : mJoin M (.str "") [.lst (cs.map ch)] = some (.str (Txt.join ("" : Str) (cs.map fun c => (⟨#[c]⟩ : Str))), M) := by
  show (match strsD (cs.map ch) with
      | some ys => if (ys.map fun y : Str => y.length).sum + ys.length * ("" : Str).length ≤ 16777216 then some (D.str (Txt.join "" ys), M) else none
      | none => none) = _
  rw [strs_ch]
  have : ((cs.map fun c => (⟨#[c]⟩ : Str)).map fun y : Str => y.length).sum = cs.length := by
    clear h
    induction cs with
    | nil => rfl
    | cons c cs ih => rw [List.map_cons, List.map_cons, List.sum_cons, ih, List.length_cons]; show 1 + _ = _; omega
  show (if ((cs.map fun c => (⟨#[c]⟩ : Str)).map fun y : Str => y.length).sum + (cs.map fun c => (⟨#[c]⟩ : Str)).length * ("" : Str).length ≤ 16777216 then some (D.str (Txt.join "" (cs.map fun c => (⟨#[c]⟩ : Str))), M) else none) = _
  rw [if_pos (by rw [this, List.length_map]; show cs.length + cs.length * 0 ≤ _; omega)]
theorem of_chs : ∀ (ys : List D), (∀ y ∈ ys, ∃ c ∈ LET, y = ch c) → ∃ cs : List Nat, ys = cs.map ch ∧ ∀ c ∈ cs, c ∈ LET
  | [], _ => ⟨[], rfl, (fun r hr => nomatch hr)⟩
  | y :: ys, h => by
    obtain ⟨r, hr, rfl⟩ := h y List.mem_cons_self
    obtain ⟨l, rfl, hl⟩ := of_chs ys fun z hz => h z (List.mem_cons_of_mem _ hz)
    exact ⟨r :: l, rfl, fun x hx => by
      rcases List.mem_cons.mp hx with rfl | hx
      · exact hr
      · exact hl x hx⟩
theorem strOk_let {w : Str} (h : ∀ c ∈ w.cps.toList, c ∈ LET) : PyData.strOk w = true := by
  unfold PyData.strOk
  rw [Array.all_eq_true]
  intro i hi
  have := let_lt (h _ (Array.getElem_mem_toList hi))
  exact decide_eq_true (by omega)
theorem fNotIn_nil {w : Str} (h : PyData.strOk w = true) : fNotIn M (.str w) (.lst []) = some (.bl true) := by
  unfold fNotIn inD
  show ((if SeqAt.shaped (.str w) = true ∧ SeqAt.shaped (.list []) = true then some (([] : List PyData).any fun z => PyData.eqv z (.str w)) else none).map fun b => D.bl (!b)) = _
  have hs : SeqAt.shaped (.str w) = true := by
    unfold SeqAt.shaped
    rw [PyData.canLay0, h]
    rfl
  rw [if_pos ⟨hs, by rfl⟩]
  rfl
open Classical in
theorem sorted1 {w : Str} : gSorted M [.lst [.str w]] = some (.lst [.str w]) := by
  have hm : ([D.str w]).mergeSort (PySem.W.dataLe false pyOf) = [.str w] := by simp [List.mergeSort]
  have hc : (∀ d ∈ [D.str w], (toPy d).isSome = true ∧ (pyOf d).depth ≤ 60) ∧ PySem.W.AllAlike ([D.str w].map pyOf) ∧ PySem.W.Sortable ([D.str w].map pyOf) := by
    refine ⟨fun d hd => ?_, fun d hd d' hd' => ?_, .inr fun d hd => ?_⟩
    · rw [List.mem_singleton.mp hd]; exact ⟨rfl, Nat.zero_le _⟩
    · rw [List.mem_singleton.mp hd, List.mem_singleton.mp hd']; rfl
    · rw [List.mem_singleton.mp hd]; exact (show PyData.str w ≠ .none ∧ ∀ xs, PyData.str w ≠ .tuple xs from ⟨(fun z => nomatch z), (fun xs z => nomatch z)⟩)
  show (if (∀ d ∈ [D.str w], (toPy d).isSome = true ∧ (pyOf d).depth ≤ 60) ∧ PySem.W.AllAlike ([D.str w].map pyOf) ∧ PySem.W.Sortable ([D.str w].map pyOf) then some (D.lst (([D.str w]).mergeSort (PySem.W.dataLe false pyOf))) else none) = _
  rw [if_pos hc, hm]
end
theorem r_words1 {s : Dr} {t : Nat} {R : Mem} (h : s.Ok t) (ht : t + 9 < 2 ^ 39) : ∃ (w : Str) (s' : Dr), f__law_words [.ref 1, .int 1] (mm s R) = .ok (.lst [.str w]) (mm s' R) ∧ Wd1 w ∧ 1 ≤ w.length ∧ s'.Ok (t + 9) := by
  obtain ⟨v, s1, e1, v0, v1, h1⟩ := r_draw (R := R) (room := 8) h (by omega) (by decide) (by decide)
  obtain ⟨k, hk⟩ : ∃ k : Nat, (1 : Int) + v = (k : Int) := ⟨(1 + v).toNat, by omega⟩
  have k1 : 1 ≤ k := by omega
  have k2 : k ≤ 8 := by omega
  have hL : ∀ M : Mem, gList M [.str "abcdefghijklmnopqrstuvwxyz"] = some (.lst (LET.map ch)) := fun M => (show (if (z0.cps.size ≤ sizeLine) then some (D.lst (LET.map ch)) else none) = _ from if_pos (by decide +kernel))
  have hLl : (LET.map ch).length ≤ 1000 := by rw [List.length_map]; decide
  obtain ⟨ys, s2, e2, y1, y2, h2⟩ := lcL_draw (it := ⟨rangeD 0 k, []⟩) rfl (t := .nm 4) (R := R) (c := 1) (P := fun y => ∃ c ∈ LET, y = ch c) (env := [.val (.ref 1), .val (.int 1), .val (.lst []), .none, .none])
    (e := cCall f__law_pick (cCons (cVar 0) (cCons (cFn gList (cCons (cC (.str "abcdefghijklmnopqrstuvwxyz")) cNil)) cNil)))
    (fun d s k hk hb => by
      obtain ⟨x, s', q1, q2, q3⟩ := r_pick (R := R) (xs := LET.map ch) hk (by omega) (by simp [LET]; decide) hLl
      obtain ⟨c, hc, rfl⟩ := List.mem_map.mp q2
      exact ⟨_, ch c, s', setT_nm, by simp only [eC, eVar, eVar2, eBin, eBin2, eBin3, eUn, eUn2, eNil, eCons, eCons2, eCons3, eFn, eFn2, eTst, eTst2, eIf, eIf_t, eIf_f, eAnd, eAnd_t, eAnd_f, eOr, eOr_t, eOr_f, eNot, eNot2, eCall, eCall2, eCallC, eSl, eSl2, eSl3, eSl4, eNo, ePart, ePart2, sNil_, sSeq_, sBrk_, sCnt_, sDrop_, sDrop2, sDropE, sRet_, sRet2, sRetE, sRetN_, sIf_, sIf_t, sIf_f, sSet_, sSet2, sSetE, setT_nm, setTs_nil, setTs_cons, optS_some, sPar2_, sPar22, sFor_, sFor2, cIter_, cIter_t, cIter_l, cIter_s, cItL_, cItL2, sRaise_, runF_, endR_nx, endR_rt, endR_err, opt_some, seq_nx, seq_rt, seq_bk, seq_ct, seq_err, startE, List.map_cons, List.map_nil, List.length_cons, List.length_nil, List.replicate_succ, List.replicate_zero, List.cons_append, List.nil_append, List.append_nil, List.getElem?_cons_zero, List.getElem?_cons_succ, List.set_cons_zero, List.set_cons_succ, Option.bind_some, Option.map_some, Nat.reduceAdd, Nat.reduceSub, fAdd_int, fSub_int, fNeg_int, gGcd_int, fGt_int, fLt_int, fLe_int, fTup2, hL, q1], ⟨c, hc, rfl⟩, q3⟩) (rangeD 0 k) [] s1 _ h1 (by rw [rangeD_len]; omega) (by rw [rangeD_len, List.length_nil]; omega)
  rw [rangeD_len] at y1 h2
  rw [List.nil_append] at e2
  obtain ⟨cs, rfl, hcs⟩ := of_chs ys y2
  rw [List.length_map] at y1
  have hw : ∀ c ∈ (Txt.join ("" : Str) (cs.map fun c => (⟨#[c]⟩ : Str))).cps.toList, c ∈ LET := by rw [join_ch]; exact hcs
  refine ⟨Txt.join ("" : Str) (cs.map fun c => (⟨#[c]⟩ : Str)), s2, ?_, ⟨by rw [join_len]; omega, hw⟩, by rw [join_len]; omega, h2.mono (by omega)⟩
  have hj := join_ok (M := mm s2 R) (cs := cs) (by omega)
  have hty : tyM (mm s2 R) (.str "") = some "str" := rfl
  have hty0 : tyM (mm s R) (.str "") = some "str" := rfl
  have hni := fNotIn_nil (M := mm s2 R) (strOk_let hw)
  generalize Txt.join ("" : Str) (cs.map fun c => (⟨#[c]⟩ : Str)) = w at hj hni
  have l1 : fLst (mm s2 R) [.str w] = some (.lst [.str w]) := fLst_le (show 1 ≤ 1000 by decide)
  have ha : fAdd (mm s2 R) (.lst []) (.lst [.str w]) = some (.lst [.str w]) := (show (if (0 + 1 ≤ sizeLine) then some (D.lst [.str w]) else none) = _ from if_pos (by decide +kernel))
  have g0 : gLen (mm s R) [.lst []] = some (.int 0) := rfl
  have g1 : gLen (mm s2 R) [.lst [.str w]] = some (.int 1) := rfl
  unfold f__law_words b__law_words
  simp only [eC, eVar, eVar2, eBin, eBin2, eBin3, eUn, eUn2, eNil, eCons, eCons2, eCons3, eFn, eFn2, eTst, eTst2, eIf, eIf_t, eIf_f, eAnd, eAnd_t, eAnd_f, eOr, eOr_t, eOr_f, eNot, eNot2, eCall, eCall2, eCallC, eSl, eSl2, eSl3, eSl4, eNo, ePart, ePart2, sNil_, sSeq_, sBrk_, sCnt_, sDrop_, sDrop2, sDropE, sRet_, sRet2, sRetE, sRetN_, sIf_, sIf_t, sIf_f, sSet_, sSet2, sSetE, setT_nm, setTs_nil, setTs_cons, optS_some, sPar2_, sPar22, sFor_, sFor2, cIter_, cIter_t, cIter_l, cIter_s, cItL_, cItL2, sRaise_, runF_, endR_nx, endR_rt, endR_err, opt_some, seq_nx, seq_rt, seq_bk, seq_ct, seq_err, startE, List.map_cons, List.map_nil, List.length_cons, List.length_nil, List.replicate_succ, List.replicate_zero, List.cons_append, List.nil_append, List.append_nil, List.getElem?_cons_zero, List.getElem?_cons_succ, List.set_cons_zero, List.set_cons_succ, Option.bind_some, Option.map_some, Nat.reduceAdd, Nat.reduceSub, fAdd_int, fSub_int, fNeg_int, gGcd_int, fGt_int, fLt_int, fLe_int, fTup2, fLst_0]
  rw [sWhile_eq]
  simp only [eC, eVar, eVar2, eBin, eBin2, eBin3, eUn, eUn2, eNil, eCons, eCons2, eCons3, eFn, eFn2, eTst, eTst2, eIf, eIf_t, eIf_f, eAnd, eAnd_t, eAnd_f, eOr, eOr_t, eOr_f, eNot, eNot2, eCall, eCall2, eCallC, eSl, eSl2, eSl3, eSl4, eNo, ePart, ePart2, sNil_, sSeq_, sBrk_, sCnt_, sDrop_, sDrop2, sDropE, sRet_, sRet2, sRetE, sRetN_, sIf_, sIf_t, sIf_f, sSet_, sSet2, sSetE, setT_nm, setTs_nil, setTs_cons, optS_some, sPar2_, sPar22, sFor_, sFor2, cIter_, cIter_t, cIter_l, cIter_s, cItL_, cItL2, sRaise_, runF_, endR_nx, endR_rt, endR_err, opt_some, seq_nx, seq_rt, seq_bk, seq_ct, seq_err, startE, List.map_cons, List.map_nil, List.length_cons, List.length_nil, List.replicate_succ, List.replicate_zero, List.cons_append, List.nil_append, List.append_nil, List.getElem?_cons_zero, List.getElem?_cons_succ, List.set_cons_zero, List.set_cons_succ, Option.bind_some, Option.map_some, Nat.reduceAdd, Nat.reduceSub, fAdd_int, fSub_int, fNeg_int, gGcd_int, fGt_int, fLt_int, fLe_int, fTup2, g0, decide_eq_true (show (0 : Int) < 1 by decide), thenS_ok, eM, eM2 hty0, eM3, e1, hk, itR1_n (show k ≤ 900 by omega), eLc, eLc2, eLc3, wipe_nil, wipe_cons, e2, hj, optM_some, hni, l1, ha]
  rw [if_pos trivial, turn_nx, sWhile_eq]
  simp only [eC, eVar, eVar2, eBin, eBin2, eBin3, eUn, eUn2, eNil, eCons, eCons2, eCons3, eFn, eFn2, eTst, eTst2, eIf, eIf_t, eIf_f, eAnd, eAnd_t, eAnd_f, eOr, eOr_t, eOr_f, eNot, eNot2, eCall, eCall2, eCallC, eSl, eSl2, eSl3, eSl4, eNo, ePart, ePart2, sNil_, sSeq_, sBrk_, sCnt_, sDrop_, sDrop2, sDropE, sRet_, sRet2, sRetE, sRetN_, sIf_, sIf_t, sIf_f, sSet_, sSet2, sSetE, setT_nm, setTs_nil, setTs_cons, optS_some, sPar2_, sPar22, sFor_, sFor2, cIter_, cIter_t, cIter_l, cIter_s, cItL_, cItL2, sRaise_, runF_, endR_nx, endR_rt, endR_err, opt_some, seq_nx, seq_rt, seq_bk, seq_ct, seq_err, startE, List.map_cons, List.map_nil, List.length_cons, List.length_nil, List.replicate_succ, List.replicate_zero, List.cons_append, List.nil_append, List.append_nil, List.getElem?_cons_zero, List.getElem?_cons_succ, List.set_cons_zero, List.set_cons_succ, Option.bind_some, Option.map_some, Nat.reduceAdd, Nat.reduceSub, fAdd_int, fSub_int, fNeg_int, gGcd_int, fGt_int, fLt_int, fLe_int, fTup2, g1, decide_eq_false (show ¬ (1 : Int) < 1 by decide), thenS_ok]
  rw [if_neg Bool.false_ne_true]
  simp only [eC, eVar, eVar2, eBin, eBin2, eBin3, eUn, eUn2, eNil, eCons, eCons2, eCons3, eFn, eFn2, eTst, eTst2, eIf, eIf_t, eIf_f, eAnd, eAnd_t, eAnd_f, eOr, eOr_t, eOr_f, eNot, eNot2, eCall, eCall2, eCallC, eSl, eSl2, eSl3, eSl4, eNo, ePart, ePart2, sNil_, sSeq_, sBrk_, sCnt_, sDrop_, sDrop2, sDropE, sRet_, sRet2, sRetE, sRetN_, sIf_, sIf_t, sIf_f, sSet_, sSet2, sSetE, setT_nm, setTs_nil, setTs_cons, optS_some, sPar2_, sPar22, sFor_, sFor2, cIter_, cIter_t, cIter_l, cIter_s, cItL_, cItL2, sRaise_, runF_, endR_nx, endR_rt, endR_err, opt_some, seq_nx, seq_rt, seq_bk, seq_ct, seq_err, startE, List.map_cons, List.map_nil, List.length_cons, List.length_nil, List.replicate_succ, List.replicate_zero, List.cons_append, List.nil_append, List.append_nil, List.getElem?_cons_zero, List.getElem?_cons_succ, List.set_cons_zero, List.set_cons_succ, Option.bind_some, Option.map_some, Nat.reduceAdd, Nat.reduceSub, fAdd_int, fSub_int, fNeg_int, gGcd_int, fGt_int, fLt_int, fLe_int, fTup2, sorted1]
end K00

set_option Elab.async false
set_option linter.all false
set_option maxRecDepth 100000
set_option maxHeartbeats 4000000
namespace K00
open PySem PySem.Spec PyProof.Rows L2 DI
section
variable {env : En} {M : Mem} {x y : D}
noncomputable def raiseI2 (c f : Str) (r : Res D) (env : En) : RS := r.thenS env fun d M1 => .err c [f] [d] env M1
theorem sRaiseI_ {c f : Str} {a : EvE} : sRaiseI c f a env M = raiseI2 c f (a env M) env := rfl
theorem sRaiseI2 {c f : Str} : raiseI2 c f (.ok x M) env = .err c [f] [x] env M := rfl
theorem sRaise1 {c : Str} : raise2 c (.ok [x] M) env = .err c [] [] env M := sRaise2 (Nat.le_trans (show 1 ≤ 1000 by decide) (by decide +kernel))
theorem inner_bad1 (h : f_is_vector [x] M = .ok (.bl false) M) : f_inner [x, y] M = .err "BadVector" [] [] M := by
  unfold f_inner b_inner
  simp only [eC, eVar, eVar2, eBin, eBin2, eBin3, eUn, eUn2, eNil, eCons, eCons2, eCons3, eFn, eFn2, eTst, eTst2, eIf, eIf_t, eIf_f, eAnd, eAnd_t, eAnd_f, eOr, eOr_t, eOr_f, eNot, eNot2, eCall, eCall2, eCallC, eSl, eSl2, eSl3, eSl4, eNo, ePart, ePart2, sNil_, sSeq_, sBrk_, sCnt_, sDrop_, sDrop2, sDropE, sRet_, sRet2, sRetE, sRetN_, sIf_, sIf_t, sIf_f, sSet_, sSet2, sSetE, setT_nm, setTs_nil, setTs_cons, optS_some, sPar2_, sPar22, sFor_, sFor2, cIter_, cIter_t, cIter_l, cIter_s, cItL_, cItL2, sRaise_, runF_, endR_nx, endR_rt, endR_err, opt_some, seq_nx, seq_rt, seq_bk, seq_ct, seq_err, startE, List.map_cons, List.map_nil, List.length_cons, List.length_nil, List.replicate_succ, List.replicate_zero, List.cons_append, List.nil_append, List.append_nil, List.getElem?_cons_zero, List.getElem?_cons_succ, List.set_cons_zero, List.set_cons_succ, Option.bind_some, Option.map_some, Nat.reduceAdd, Nat.reduceSub, fAdd_int, fSub_int, fNeg_int, gGcd_int, fGt_int, fLt_int, fLe_int, fTup2, h, Bool.not_false, sRaise1]
theorem inner_bad2 (h : f_is_vector [x] M = .ok (.bl true) M) (h2 : f_is_vector [y] M = .ok (.bl false) M) : f_inner [x, y] M = .err "BadVector" [] [] M := by
  unfold f_inner b_inner
  simp only [eC, eVar, eVar2, eBin, eBin2, eBin3, eUn, eUn2, eNil, eCons, eCons2, eCons3, eFn, eFn2, eTst, eTst2, eIf, eIf_t, eIf_f, eAnd, eAnd_t, eAnd_f, eOr, eOr_t, eOr_f, eNot, eNot2, eCall, eCall2, eCallC, eSl, eSl2, eSl3, eSl4, eNo, ePart, ePart2, sNil_, sSeq_, sBrk_, sCnt_, sDrop_, sDrop2, sDropE, sRet_, sRet2, sRetE, sRetN_, sIf_, sIf_t, sIf_f, sSet_, sSet2, sSetE, setT_nm, setTs_nil, setTs_cons, optS_some, sPar2_, sPar22, sFor_, sFor2, cIter_, cIter_t, cIter_l, cIter_s, cItL_, cItL2, sRaise_, runF_, endR_nx, endR_rt, endR_err, opt_some, seq_nx, seq_rt, seq_bk, seq_ct, seq_err, startE, List.map_cons, List.map_nil, List.length_cons, List.length_nil, List.replicate_succ, List.replicate_zero, List.cons_append, List.nil_append, List.append_nil, List.getElem?_cons_zero, List.getElem?_cons_succ, List.set_cons_zero, List.set_cons_succ, Option.bind_some, Option.map_some, Nat.reduceAdd, Nat.reduceSub, fAdd_int, fSub_int, fNeg_int, gGcd_int, fGt_int, fLt_int, fLe_int, fTup2, h, h2, Bool.not_true, Bool.not_false, sRaise1]
theorem inner_wide {a b : List Rat} (ha : ∀ r ∈ a, Sq 20 r) (hb : ∀ r ∈ b, Sq 20 r) (h1 : 1 ≤ a.length) (h2 : a.length ≤ 200) (h3 : 1 ≤ b.length) (h4 : b.length ≤ 200) (hl : a.length ≠ b.length) : f_inner [vD a, vD b] M = .err "BadWidth" [] [] M := by
  unfold f_inner b_inner
  have va := r_is_vector_v (M := M) h1 h2 ha (by decide)
  have vb := r_is_vector_v (M := M) h3 h4 hb (by decide)
  simp only [eC, eVar, eVar2, eBin, eBin2, eBin3, eUn, eUn2, eNil, eCons, eCons2, eCons3, eFn, eFn2, eTst, eTst2, eIf, eIf_t, eIf_f, eAnd, eAnd_t, eAnd_f, eOr, eOr_t, eOr_f, eNot, eNot2, eCall, eCall2, eCallC, eSl, eSl2, eSl3, eSl4, eNo, ePart, ePart2, sNil_, sSeq_, sBrk_, sCnt_, sDrop_, sDrop2, sDropE, sRet_, sRet2, sRetE, sRetN_, sIf_, sIf_t, sIf_f, sSet_, sSet2, sSetE, setT_nm, setTs_nil, setTs_cons, optS_some, sPar2_, sPar22, sFor_, sFor2, cIter_, cIter_t, cIter_l, cIter_s, cItL_, cItL2, sRaise_, runF_, endR_nx, endR_rt, endR_err, opt_some, seq_nx, seq_rt, seq_bk, seq_ct, seq_err, startE, List.map_cons, List.map_nil, List.length_cons, List.length_nil, List.replicate_succ, List.replicate_zero, List.cons_append, List.nil_append, List.append_nil, List.getElem?_cons_zero, List.getElem?_cons_succ, List.set_cons_zero, List.set_cons_succ, Option.bind_some, Option.map_some, Nat.reduceAdd, Nat.reduceSub, fAdd_int, fSub_int, fNeg_int, gGcd_int, fGt_int, fLt_int, fLe_int, fTup2, va, vb, len_v, fNe_int, decide_eq_false (show ¬ (a.length : Int) = b.length by omega), Bool.not_true, Bool.not_false, sRaise1]
theorem comb_bad1 (h : f_is_vector [x] M = .ok (.bl false) M) : f_combined [x, y] M = .err "BadVector" [] [] M := by
  unfold f_combined b_combined
  simp only [eC, eVar, eVar2, eBin, eBin2, eBin3, eUn, eUn2, eNil, eCons, eCons2, eCons3, eFn, eFn2, eTst, eTst2, eIf, eIf_t, eIf_f, eAnd, eAnd_t, eAnd_f, eOr, eOr_t, eOr_f, eNot, eNot2, eCall, eCall2, eCallC, eSl, eSl2, eSl3, eSl4, eNo, ePart, ePart2, sNil_, sSeq_, sBrk_, sCnt_, sDrop_, sDrop2, sDropE, sRet_, sRet2, sRetE, sRetN_, sIf_, sIf_t, sIf_f, sSet_, sSet2, sSetE, setT_nm, setTs_nil, setTs_cons, optS_some, sPar2_, sPar22, sFor_, sFor2, cIter_, cIter_t, cIter_l, cIter_s, cItL_, cItL2, sRaise_, runF_, endR_nx, endR_rt, endR_err, opt_some, seq_nx, seq_rt, seq_bk, seq_ct, seq_err, startE, List.map_cons, List.map_nil, List.length_cons, List.length_nil, List.replicate_succ, List.replicate_zero, List.cons_append, List.nil_append, List.append_nil, List.getElem?_cons_zero, List.getElem?_cons_succ, List.set_cons_zero, List.set_cons_succ, Option.bind_some, Option.map_some, Nat.reduceAdd, Nat.reduceSub, fAdd_int, fSub_int, fNeg_int, gGcd_int, fGt_int, fLt_int, fLe_int, fTup2, h, Bool.not_false, sRaise1]
theorem lt2 : fTup M [.ty "list", .ty "tuple"] = some (.tup [.ty "list", .ty "tuple"]) := rfl
theorem comb_badN (h : f_is_vector [x] M = .ok (.bl true) M) (hy : gIsi anc M [y, .tup [.ty "list", .ty "tuple"]] = some (.bl false)) : f_combined [x, y] M = .err "BadRows" ["index"] [.non] M := by
  unfold f_combined b_combined
  simp only [eC, eVar, eVar2, eBin, eBin2, eBin3, eUn, eUn2, eNil, eCons, eCons2, eCons3, eFn, eFn2, eTst, eTst2, eIf, eIf_t, eIf_f, eAnd, eAnd_t, eAnd_f, eOr, eOr_t, eOr_f, eNot, eNot2, eCall, eCall2, eCallC, eSl, eSl2, eSl3, eSl4, eNo, ePart, ePart2, sNil_, sSeq_, sBrk_, sCnt_, sDrop_, sDrop2, sDropE, sRet_, sRet2, sRetE, sRetN_, sIf_, sIf_t, sIf_f, sSet_, sSet2, sSetE, setT_nm, setTs_nil, setTs_cons, optS_some, sPar2_, sPar22, sFor_, sFor2, cIter_, cIter_t, cIter_l, cIter_s, cItL_, cItL2, sRaise_, runF_, endR_nx, endR_rt, endR_err, opt_some, seq_nx, seq_rt, seq_bk, seq_ct, seq_err, startE, List.map_cons, List.map_nil, List.length_cons, List.length_nil, List.replicate_succ, List.replicate_zero, List.cons_append, List.nil_append, List.append_nil, List.getElem?_cons_zero, List.getElem?_cons_succ, List.set_cons_zero, List.set_cons_succ, Option.bind_some, Option.map_some, Nat.reduceAdd, Nat.reduceSub, fAdd_int, fSub_int, fNeg_int, gGcd_int, fGt_int, fLt_int, fLe_int, fTup2, h, Bool.not_true, lt2, hy, Bool.not_false, sRaiseI_, sRaiseI2]
theorem comb_badL {a : List Rat} {rows : List D} (h : f_is_vector [vD a] M = .ok (.bl true) M) (hl : rows.length ≠ a.length) : f_combined [vD a, .lst rows] M = .err "BadRows" ["index"] [.non] M := by
  unfold f_combined b_combined
  have hy := rD_isi (M := M) (b := false) (rows := rows)
  have hn := rD_len (M := M) (b := false) (rows := rows)
  unfold rD at hy hn
  rw [if_neg (by decide)] at hy hn
  simp only [eC, eVar, eVar2, eBin, eBin2, eBin3, eUn, eUn2, eNil, eCons, eCons2, eCons3, eFn, eFn2, eTst, eTst2, eIf, eIf_t, eIf_f, eAnd, eAnd_t, eAnd_f, eOr, eOr_t, eOr_f, eNot, eNot2, eCall, eCall2, eCallC, eSl, eSl2, eSl3, eSl4, eNo, ePart, ePart2, sNil_, sSeq_, sBrk_, sCnt_, sDrop_, sDrop2, sDropE, sRet_, sRet2, sRetE, sRetN_, sIf_, sIf_t, sIf_f, sSet_, sSet2, sSetE, setT_nm, setTs_nil, setTs_cons, optS_some, sPar2_, sPar22, sFor_, sFor2, cIter_, cIter_t, cIter_l, cIter_s, cItL_, cItL2, sRaise_, runF_, endR_nx, endR_rt, endR_err, opt_some, seq_nx, seq_rt, seq_bk, seq_ct, seq_err, startE, List.map_cons, List.map_nil, List.length_cons, List.length_nil, List.replicate_succ, List.replicate_zero, List.cons_append, List.nil_append, List.append_nil, List.getElem?_cons_zero, List.getElem?_cons_succ, List.set_cons_zero, List.set_cons_succ, Option.bind_some, Option.map_some, Nat.reduceAdd, Nat.reduceSub, fAdd_int, fSub_int, fNeg_int, gGcd_int, fGt_int, fLt_int, fLe_int, fTup2, h, Bool.not_true, lt2, hy, hn, len_v, fNe_int, decide_eq_false (show ¬ (rows.length : Int) = a.length by omega), Bool.not_false, sRaiseI_, sRaiseI2]
theorem ratio_n {d : D} (h : f_is_whole [x] M = .ok (.bl false) M) : f_ratio [x, d] M = .err "BadNumber" ["part"] [.str "n"] M := by
  unfold f_ratio b_ratio
  simp only [eC, eVar, eVar2, eBin, eBin2, eBin3, eUn, eUn2, eNil, eCons, eCons2, eCons3, eFn, eFn2, eTst, eTst2, eIf, eIf_t, eIf_f, eAnd, eAnd_t, eAnd_f, eOr, eOr_t, eOr_f, eNot, eNot2, eCall, eCall2, eCallC, eSl, eSl2, eSl3, eSl4, eNo, ePart, ePart2, sNil_, sSeq_, sBrk_, sCnt_, sDrop_, sDrop2, sDropE, sRet_, sRet2, sRetE, sRetN_, sIf_, sIf_t, sIf_f, sSet_, sSet2, sSetE, setT_nm, setTs_nil, setTs_cons, optS_some, sPar2_, sPar22, sFor_, sFor2, cIter_, cIter_t, cIter_l, cIter_s, cItL_, cItL2, sRaise_, runF_, endR_nx, endR_rt, endR_err, opt_some, seq_nx, seq_rt, seq_bk, seq_ct, seq_err, startE, List.map_cons, List.map_nil, List.length_cons, List.length_nil, List.replicate_succ, List.replicate_zero, List.cons_append, List.nil_append, List.append_nil, List.getElem?_cons_zero, List.getElem?_cons_succ, List.set_cons_zero, List.set_cons_succ, Option.bind_some, Option.map_some, Nat.reduceAdd, Nat.reduceSub, fAdd_int, fSub_int, fNeg_int, gGcd_int, fGt_int, fLt_int, fLe_int, fTup2, h, Bool.not_false, sRaiseI_, sRaiseI2]
theorem ratio_d {n : Int} {d : D} (h : f_is_whole [d] M = .ok (.bl false) M) : f_ratio [.int n, d] M = .err "BadNumber" ["part"] [.str "d"] M := by
  unfold f_ratio b_ratio
  simp only [eC, eVar, eVar2, eBin, eBin2, eBin3, eUn, eUn2, eNil, eCons, eCons2, eCons3, eFn, eFn2, eTst, eTst2, eIf, eIf_t, eIf_f, eAnd, eAnd_t, eAnd_f, eOr, eOr_t, eOr_f, eNot, eNot2, eCall, eCall2, eCallC, eSl, eSl2, eSl3, eSl4, eNo, ePart, ePart2, sNil_, sSeq_, sBrk_, sCnt_, sDrop_, sDrop2, sDropE, sRet_, sRet2, sRetE, sRetN_, sIf_, sIf_t, sIf_f, sSet_, sSet2, sSetE, setT_nm, setTs_nil, setTs_cons, optS_some, sPar2_, sPar22, sFor_, sFor2, cIter_, cIter_t, cIter_l, cIter_s, cItL_, cItL2, sRaise_, runF_, endR_nx, endR_rt, endR_err, opt_some, seq_nx, seq_rt, seq_bk, seq_ct, seq_err, startE, List.map_cons, List.map_nil, List.length_cons, List.length_nil, List.replicate_succ, List.replicate_zero, List.cons_append, List.nil_append, List.append_nil, List.getElem?_cons_zero, List.getElem?_cons_succ, List.set_cons_zero, List.set_cons_succ, Option.bind_some, Option.map_some, Nat.reduceAdd, Nat.reduceSub, fAdd_int, fSub_int, fNeg_int, gGcd_int, fGt_int, fLt_int, fLe_int, fTup2, h, r_is_whole, Bool.not_true, Bool.not_false, sRaiseI_, sRaiseI2]
theorem ratio_0 {n : Int} : f_ratio [.int n, .int 0] M = .err "BadNumber" ["part"] [.str "d"] M := by
  unfold f_ratio b_ratio
  simp only [eC, eVar, eVar2, eBin, eBin2, eBin3, eUn, eUn2, eNil, eCons, eCons2, eCons3, eFn, eFn2, eTst, eTst2, eIf, eIf_t, eIf_f, eAnd, eAnd_t, eAnd_f, eOr, eOr_t, eOr_f, eNot, eNot2, eCall, eCall2, eCallC, eSl, eSl2, eSl3, eSl4, eNo, ePart, ePart2, sNil_, sSeq_, sBrk_, sCnt_, sDrop_, sDrop2, sDropE, sRet_, sRet2, sRetE, sRetN_, sIf_, sIf_t, sIf_f, sSet_, sSet2, sSetE, setT_nm, setTs_nil, setTs_cons, optS_some, sPar2_, sPar22, sFor_, sFor2, cIter_, cIter_t, cIter_l, cIter_s, cItL_, cItL2, sRaise_, runF_, endR_nx, endR_rt, endR_err, opt_some, seq_nx, seq_rt, seq_bk, seq_ct, seq_err, startE, List.map_cons, List.map_nil, List.length_cons, List.length_nil, List.replicate_succ, List.replicate_zero, List.cons_append, List.nil_append, List.append_nil, List.getElem?_cons_zero, List.getElem?_cons_succ, List.set_cons_zero, List.set_cons_succ, Option.bind_some, Option.map_some, Nat.reduceAdd, Nat.reduceSub, fAdd_int, fSub_int, fNeg_int, gGcd_int, fGt_int, fLt_int, fLe_int, fTup2, r_is_whole, Bool.not_true, fEq_int, decide_true, sRaiseI_, sRaiseI2]
end
section
variable {M : Mem}
noncomputable def bN : EvS := (sIf (cOr (cNot (cCall f_is_vector (cCons (cVar 2) cNil))) (cBin fNe (cFn gLen (cCons (cVar 2) cNil)) (cFn gLen (cCons (cBin fIx (cVar 0) (cC (.int 0))) cNil)))) (sRaiseI "BadRows" "index" (cVar 1)) sNil)
/-- a row that stands: a vector of the first row's length -/
theorem need_pass {rows : List D} {d0 d : D} {w : Nat} {n : Int} (h0 : rows[0]? = some d0) (hd0 : gLen M [d0] = some (.int w)) (v : f_is_vector [d] M = .ok (.bl true) M) (l : gLen M [d] = some (.int w)) : bN [.val (.lst rows), .val (.int n), .val d] M = .nx [.val (.lst rows), .val (.int n), .val d] M := by
  unfold bN
  have hx := rD_0 (M := M) (b := false) h0
  unfold rD at hx
  rw [if_neg (by decide)] at hx
  simp only [eC, eVar, eVar2, eBin, eBin2, eBin3, eUn, eUn2, eNil, eCons, eCons2, eCons3, eFn, eFn2, eTst, eTst2, eIf, eIf_t, eIf_f, eAnd, eAnd_t, eAnd_f, eOr, eOr_t, eOr_f, eNot, eNot2, eCall, eCall2, eCallC, eSl, eSl2, eSl3, eSl4, eNo, ePart, ePart2, sNil_, sSeq_, sBrk_, sCnt_, sDrop_, sDrop2, sDropE, sRet_, sRet2, sRetE, sRetN_, sIf_, sIf_t, sIf_f, sSet_, sSet2, sSetE, setT_nm, setTs_nil, setTs_cons, optS_some, sPar2_, sPar22, sFor_, sFor2, cIter_, cIter_t, cIter_l, cIter_s, cItL_, cItL2, sRaise_, runF_, endR_nx, endR_rt, endR_err, opt_some, seq_nx, seq_rt, seq_bk, seq_ct, seq_err, startE, List.map_cons, List.map_nil, List.length_cons, List.length_nil, List.replicate_succ, List.replicate_zero, List.cons_append, List.nil_append, List.append_nil, List.getElem?_cons_zero, List.getElem?_cons_succ, List.set_cons_zero, List.set_cons_succ, Option.bind_some, Option.map_some, Nat.reduceAdd, Nat.reduceSub, fAdd_int, fSub_int, fNeg_int, gGcd_int, fGt_int, fLt_int, fLe_int, fTup2, v, Bool.not_true, l, hx, hd0, fNe_int, decide_true]
theorem need_novec {rows : List D} {d : D} {n : Int} (v : f_is_vector [d] M = .ok (.bl false) M) : bN [.val (.lst rows), .val (.int n), .val d] M = .err "BadRows" ["index"] [.int n] [.val (.lst rows), .val (.int n), .val d] M := by
  unfold bN
  simp only [eC, eVar, eVar2, eBin, eBin2, eBin3, eUn, eUn2, eNil, eCons, eCons2, eCons3, eFn, eFn2, eTst, eTst2, eIf, eIf_t, eIf_f, eAnd, eAnd_t, eAnd_f, eOr, eOr_t, eOr_f, eNot, eNot2, eCall, eCall2, eCallC, eSl, eSl2, eSl3, eSl4, eNo, ePart, ePart2, sNil_, sSeq_, sBrk_, sCnt_, sDrop_, sDrop2, sDropE, sRet_, sRet2, sRetE, sRetN_, sIf_, sIf_t, sIf_f, sSet_, sSet2, sSetE, setT_nm, setTs_nil, setTs_cons, optS_some, sPar2_, sPar22, sFor_, sFor2, cIter_, cIter_t, cIter_l, cIter_s, cItL_, cItL2, sRaise_, runF_, endR_nx, endR_rt, endR_err, opt_some, seq_nx, seq_rt, seq_bk, seq_ct, seq_err, startE, List.map_cons, List.map_nil, List.length_cons, List.length_nil, List.replicate_succ, List.replicate_zero, List.cons_append, List.nil_append, List.append_nil, List.getElem?_cons_zero, List.getElem?_cons_succ, List.set_cons_zero, List.set_cons_succ, Option.bind_some, Option.map_some, Nat.reduceAdd, Nat.reduceSub, fAdd_int, fSub_int, fNeg_int, gGcd_int, fGt_int, fLt_int, fLe_int, fTup2, v, Bool.not_false, sRaiseI_, sRaiseI2]
theorem need_wide {rows : List D} {d0 d : D} {w u : Nat} {n : Int} (h0 : rows[0]? = some d0) (hd0 : gLen M [d0] = some (.int w)) (v : f_is_vector [d] M = .ok (.bl true) M) (l : gLen M [d] = some (.int u)) (hu : u ≠ w) : bN [.val (.lst rows), .val (.int n), .val d] M = .err "BadRows" ["index"] [.int n] [.val (.lst rows), .val (.int n), .val d] M := by
  unfold bN
  have hx := rD_0 (M := M) (b := false) h0
  unfold rD at hx
  rw [if_neg (by decide)] at hx
  simp only [eC, eVar, eVar2, eBin, eBin2, eBin3, eUn, eUn2, eNil, eCons, eCons2, eCons3, eFn, eFn2, eTst, eTst2, eIf, eIf_t, eIf_f, eAnd, eAnd_t, eAnd_f, eOr, eOr_t, eOr_f, eNot, eNot2, eCall, eCall2, eCallC, eSl, eSl2, eSl3, eSl4, eNo, ePart, ePart2, sNil_, sSeq_, sBrk_, sCnt_, sDrop_, sDrop2, sDropE, sRet_, sRet2, sRetE, sRetN_, sIf_, sIf_t, sIf_f, sSet_, sSet2, sSetE, setT_nm, setTs_nil, setTs_cons, optS_some, sPar2_, sPar22, sFor_, sFor2, cIter_, cIter_t, cIter_l, cIter_s, cItL_, cItL2, sRaise_, runF_, endR_nx, endR_rt, endR_err, opt_some, seq_nx, seq_rt, seq_bk, seq_ct, seq_err, startE, List.map_cons, List.map_nil, List.length_cons, List.length_nil, List.replicate_succ, List.replicate_zero, List.cons_append, List.nil_append, List.append_nil, List.getElem?_cons_zero, List.getElem?_cons_succ, List.set_cons_zero, List.set_cons_succ, Option.bind_some, Option.map_some, Nat.reduceAdd, Nat.reduceSub, fAdd_int, fSub_int, fNeg_int, gGcd_int, fGt_int, fLt_int, fLe_int, fTup2, v, Bool.not_true, l, hx, hd0, fNe_int, decide_eq_false (show ¬ (u : Int) = w by omega), Bool.not_false, sRaiseI_, sRaiseI2]
/-- three rows: what is said of them -/
theorem comb_rows3 {a : List Rat} {x0 x1 x2 : D} {i : Int} (h : f_is_vector [vD a] M = .ok (.bl true) M) (ha : a.length = 3)
    (hn : ∃ env, forL ⟨enumL 0 [x0, x1, x2], []⟩ (.tp [(.nm 1), (.nm 2)]) bN (enumL 0 [x0, x1, x2]) [.val (.lst [x0, x1, x2]), .none, .none] M = .err "BadRows" ["index"] [.int i] env M) : f_combined [vD a, .lst [x0, x1, x2]] M = .err "BadRows" ["index"] [.int i] M := by
  obtain ⟨env, hn⟩ := hn
  have hy := rD_isi (M := M) (b := false) (rows := [x0, x1, x2])
  have hl := rD_len (M := M) (b := false) (rows := [x0, x1, x2])
  have he := rD_enum (M := M) (b := false) (rows := [x0, x1, x2])
  unfold rD at hy hl he
  rw [if_neg (by decide)] at hy hl he
  have hl : gLen M [.lst [x0, x1, x2]] = some (.int 3) := hl
  have hnr : f_need_rows [.lst [x0, x1, x2]] M = .err "BadRows" ["index"] [.int i] M := by
    unfold f_need_rows b_need_rows
    simp only [eC, eVar, eVar2, eBin, eBin2, eBin3, eUn, eUn2, eNil, eCons, eCons2, eCons3, eFn, eFn2, eTst, eTst2, eIf, eIf_t, eIf_f, eAnd, eAnd_t, eAnd_f, eOr, eOr_t, eOr_f, eNot, eNot2, eCall, eCall2, eCallC, eSl, eSl2, eSl3, eSl4, eNo, ePart, ePart2, sNil_, sSeq_, sBrk_, sCnt_, sDrop_, sDrop2, sDropE, sRet_, sRet2, sRetE, sRetN_, sIf_, sIf_t, sIf_f, sSet_, sSet2, sSetE, setT_nm, setTs_nil, setTs_cons, optS_some, sPar2_, sPar22, sFor_, sFor2, cIter_, cIter_t, cIter_l, cIter_s, cItL_, cItL2, sRaise_, runF_, endR_nx, endR_rt, endR_err, opt_some, seq_nx, seq_rt, seq_bk, seq_ct, seq_err, startE, List.map_cons, List.map_nil, List.length_cons, List.length_nil, List.replicate_succ, List.replicate_zero, List.cons_append, List.nil_append, List.append_nil, List.getElem?_cons_zero, List.getElem?_cons_succ, List.set_cons_zero, List.set_cons_succ, Option.bind_some, Option.map_some, Nat.reduceAdd, Nat.reduceSub, fAdd_int, fSub_int, fNeg_int, gGcd_int, fGt_int, fLt_int, fLe_int, fTup2, lt2, hy, Bool.not_true, eCh, eChA, eChB, hl, d_MOST, decide_eq_true (show (1 : Int) ≤ 3 by decide), decide_eq_true (show (3 : Int) ≤ 200 by decide), eChC_t, eCh4, he]
    exact congrArg endR hn
  unfold f_combined b_combined
  simp only [eC, eVar, eVar2, eBin, eBin2, eBin3, eUn, eUn2, eNil, eCons, eCons2, eCons3, eFn, eFn2, eTst, eTst2, eIf, eIf_t, eIf_f, eAnd, eAnd_t, eAnd_f, eOr, eOr_t, eOr_f, eNot, eNot2, eCall, eCall2, eCallC, eSl, eSl2, eSl3, eSl4, eNo, ePart, ePart2, sNil_, sSeq_, sBrk_, sCnt_, sDrop_, sDrop2, sDropE, sRet_, sRet2, sRetE, sRetN_, sIf_, sIf_t, sIf_f, sSet_, sSet2, sSetE, setT_nm, setTs_nil, setTs_cons, optS_some, sPar2_, sPar22, sFor_, sFor2, cIter_, cIter_t, cIter_l, cIter_s, cItL_, cItL2, sRaise_, runF_, endR_nx, endR_rt, endR_err, opt_some, seq_nx, seq_rt, seq_bk, seq_ct, seq_err, startE, List.map_cons, List.map_nil, List.length_cons, List.length_nil, List.replicate_succ, List.replicate_zero, List.cons_append, List.nil_append, List.append_nil, List.getElem?_cons_zero, List.getElem?_cons_succ, List.set_cons_zero, List.set_cons_succ, Option.bind_some, Option.map_some, Nat.reduceAdd, Nat.reduceSub, fAdd_int, fSub_int, fNeg_int, gGcd_int, fGt_int, fLt_int, fLe_int, fTup2, h, Bool.not_true, lt2, hy, hl, len_v, fNe_int, decide_eq_true (show (3 : Int) = a.length by omega), hnr, sDropE]
end
end K00

set_option Elab.async false
set_option linter.all false
set_option maxRecDepth 100000
set_option maxHeartbeats 4000000
namespace K00
open PySem PySem.Spec PyProof.Rows L2 DI
section
variable {env : En} {M M' : Mem} {x y v : D} {c f : Str}
noncomputable def exF2 (ok : Str → Bool) (f : Str) (r : Res D) : Res D := r.bind fun d M1 => match d with
  | .exc c ns vs => if ok c = true then (match (ns.zip vs).lookup f with
    | some v => .ok v M1
    | none => .stuck) else .stuck
  | _ => .stuck
theorem eExF {ok a} : cExF ok f a env M = exF2 ok f (a env M) := rfl
theorem exF2_ok {ok} (h : ok c = true) : exF2 ok f (.ok (.exc c [f] [v]) M) = .ok v M := by
  unfold exF2
  simp [h, List.lookup]
theorem caught_k {k : Nat} {ns : List Str} {vs : List D} (hk : ks__law_refused k = true) (he : bd__law_refused k env M = .err c ns vs M') (hc : catB c = true) : cCaught ks__law_refused bd__law_refused catB (cLam k) env M = .ok (.exc c ns vs) M' := by
  show caughtD ks__law_refused bd__law_refused catB env (.cl k) M = _
  unfold caughtD
  simp only [hk, he, hc, if_true]
theorem caught_v {k i : Nat} {ns : List Str} {vs : List D} (hv : env[i]? = some (.val (.cl k))) (hk : ks__law_refused k = true) (he : bd__law_refused k env M = .err c ns vs M') (hc : catB c = true) : cCaught ks__law_refused bd__law_refused catB (cVar i) env M = .ok (.exc c ns vs) M' := by
  unfold cCaught
  have : cVar i env M = .ok (.cl k) M := by rw [eVar, hv]; rfl
  rw [this, Res.bind_ok]
  unfold caughtD
  simp only [hk, he, hc, if_true]
theorem bel_1 {s : Dr} {R : Mem} : below (mm s R).length (.ref 1) = true := by
  show decide (1 < (mm s R).length) = true
  exact decide_eq_true (by show 1 < R.length + 1 + 1; omega)
theorem bel_r {s : Dr} {R : Mem} {xs : List D} (h : trees xs = true) : belows (mm s R).length (.ref 1 :: xs) = true := by rw [belows, bel_1, belows_trees xs h]; rfl
theorem bel_2 (h1 : tree x = true) (h2 : tree y = true) : belows M.length [x, y] = true := by rw [belows, belows, below_tree x h1, below_tree y h2]; rfl
theorem fAdd_l {a b : List D} (h : a.length + b.length ≤ 1000) : fAdd M (.lst a) (.lst b) = some (.lst (a ++ b)) := (show (if a.length + b.length ≤ sizeLine then some (D.lst (a ++ b)) else none) = _ from if_pos (Nat.le_trans h (by decide +kernel)))
theorem fAdd_t {a b : List D} (h : a.length + b.length ≤ 1000) : fAdd M (.tup a) (.tup b) = some (.tup (a ++ b)) := (show (if a.length + b.length ≤ sizeLine then some (D.tup (a ++ b)) else none) = _ from if_pos (Nat.le_trans h (by decide +kernel)))
end
section
variable {M : Mem}
theorem bad_ok : ∀ bad ∈ [D.non, .tup [], .lst [.tup [.int 1, .int 1]], .tup [.tup [.int 2, .int 4]], .int 5, .tup [.tup [.int 1, .int 1], .non]], tree bad = true ∧ ∀ M, f_is_vector [bad] M = .ok (.bl false) M := by
  have r24 : RatV (.tup [.int 2, .int 4]) false := RatV.tup (fun x hx => by
    simp only [List.mem_cons, List.not_mem_nil, or_false] at hx
    rcases hx with rfl | rfl <;> rfl) (show 2 ≤ 1000 by decide) (fun a b e => by
      injection e with e1 e2
      injection e2 with e2
      injection e2 with e2
      rw [← e2]
      exact sm_of (by decide) (by decide))
  have r11 : RatV (.tup [.int 1, .int 1]) true := RatV.tup (fun x hx => by
    simp only [List.mem_cons, List.not_mem_nil, or_false] at hx
    rcases hx with rfl | rfl <;> rfl) (show 2 ≤ 1000 by decide) (fun a b e => by
      injection e with e1 e2
      injection e2 with e2
      injection e2 with e2
      rw [← e2]
      exact sm_of (by decide) (by decide))
  intro bad hb
  simp only [List.mem_cons, List.not_mem_nil, or_false] at hb
  rcases hb with rfl | rfl | rfl | rfl | rfl | rfl
  · exact ⟨rfl, fun M => r_is_vector_N rfl rfl⟩
  · exact ⟨rfl, fun M => r_is_vector_T (p := fun _ => true) (fun x hx => nomatch hx)⟩
  · exact ⟨rfl, fun M => r_is_vector_N rfl rfl⟩
  · exact ⟨rfl, fun M => r_is_vector_T (p := fun _ => false) (fun x hx => by rw [List.mem_singleton.mp hx]; exact r24)⟩
  · exact ⟨rfl, fun M => r_is_vector_N rfl rfl⟩
  · refine ⟨rfl, fun M => r_is_vector_T (p := fun x => match x with | .non => false | _ => true) (fun x hx => ?_)⟩
    simp only [List.mem_cons, List.not_mem_nil, or_false] at hx
    rcases hx with rfl | rfl
    · exact r11
    · exact RatV.not rfl rfl
end
end K00

set_option Elab.async false
set_option linter.all false
set_option maxRecDepth 100000
set_option maxHeartbeats 4000000
namespace K00
open PySem PySem.Spec PyProof.Rows L2 DI
noncomputable def bO : EvS := (sSeq (sSet (.nm 9) (cBin fAdd (cBin fAdd (cSl (cVar 2) cNo (cPart (cVar 3))) (cFn fLst (cCons (cVar 4) cNil))) (cSl (cVar 2) (cPart (cBin fAdd (cVar 3) (cC (.int 1)))) cNo))) (sSeq (sSet (.nm 5) (cCaught ks__law_refused bd__law_refused catB (cLam 4))) (sSeq (sSet (.nm 6) (cVar 3)) (sSeq (sIf (cAnd (cBin fEq (cVar 3) (cC (.int 0))) (cAnd (cFn (gIsi anc) (cCons (cVar 4) (cCons (cC (.ty "tuple")) cNil))) (cBin fIn (cFn gLen (cCons (cVar 4) cNil)) (cFn fLst (cCons (cC (.int 2)) (cCons (cC (.int 4)) cNil)))))) (sSet (.nm 6) (cC (.int 1))) sNil) (sIf (cOr (cNot (cFn (gIsi anc) (cCons (cVar 5) (cCons (cC (.fn "BadRows")) cNil)))) (cBin fNe (cExF (okAt "BadRows") "index" (cVar 5)) (cVar 6))) (sRet (cC (.bl false))) sNil)))))
section
variable {M : Mem}
/-- the odd row: no vector (k = none), or one of k places -/
structure OddV (odd : D) (k : Option Nat) : Prop where
  t : tree odd = true
  v : ∀ M, f_is_vector [odd] M = .ok (.bl k.isSome) M
  l : ∀ n, k = some n → isiT odd = true ∧ (∀ M, gLen M [odd] = some (.int n)) ∧ (n = 2 ∨ n = 4)
  z : k = none → isiT odd = false ∨ odd = .tup []
theorem cut_a {o : D} : fSl M (.lst [o, o, o]) none (some 0) = some (.lst []) := rfl
theorem cut_b {o : D} : fSl M (.lst [o, o, o]) none (some 1) = some (.lst [o]) := rfl
theorem cut_c {o : D} : fSl M (.lst [o, o, o]) none (some 2) = some (.lst [o, o]) := rfl
theorem cut_d {o : D} : fSl M (.lst [o, o, o]) (some 1) none = some (.lst [o, o]) := rfl
theorem cut_e {o : D} : fSl M (.lst [o, o, o]) (some 2) none = some (.lst [o]) := rfl
theorem cut_f {o : D} : fSl M (.lst [o, o, o]) (some 3) none = some (.lst []) := rfl
theorem isRows {i : Int} : gIsi anc M [.exc "BadRows" ["index"] [.int i], .fn "BadRows"] = some (.bl true) := rfl
theorem isRowsN : gIsi anc M [.exc "BadRows" ["index"] [.non], .fn "BadRows"] = some (.bl true) := rfl
theorem turn_err {c : Str} {ns : List Str} {vs : List D} {env : En} {k : EvS} : (RS.err c ns vs env M).turn k = .err c ns vs env M := rfl
/-- which row is told -/
def told (at' : Nat) (k : Option Nat) : Int := if at' = 0 ∧ k.isSome = true then 1 else at'
theorem comb4 {a : List Rat} {odd : D} {k : Option Nat} (ha : a.length = 3) (hv : ∀ M, f_is_vector [vD a] M = .ok (.bl true) M) (ho : OddV odd k) (at' : Nat) (hat : at' < 3) : f_combined [vD a, .lst ([vD a, vD a, vD a].set at' odd)] M = .err "BadRows" ["index"] [.int (told at' k)] M := by
  have la : gLen M [vD a] = some (.int (3 : Nat)) := by rw [len_v, ha]
  have dep : ∀ xs : List D, DepOk ⟨xs, []⟩ M := fun xs => depOk_nil
  have hE : enumL 0 ([vD a, vD a, vD a].set at' odd) = enumL 0 ([vD a, vD a, vD a].set at' odd) := rfl
  match at', hat with
  | 0, _ =>
    refine comb_rows3 (hv M) ha ?_
    show ∃ env, forL ⟨enumL 0 [odd, vD a, vD a], []⟩ _ bN [.tup [.int (0 : Nat), odd], .tup [.int (1 : Nat), vD a], .tup [.int (2 : Nat), vD a]] [.val (.lst [odd, vD a, vD a]), .none, .none] M = _
    cases k with
    | none =>
      have := ho.v M
      refine ⟨[.val (.lst [odd, vD a, vD a]), .val (.int (0 : Nat)), .val odd], ?_⟩
      rw [forL_cons (dep _)]
      simp only [setT_t, eC, eVar, eVar2, eBin, eBin2, eBin3, eUn, eUn2, eNil, eCons, eCons2, eCons3, eFn, eFn2, eTst, eTst2, eIf, eIf_t, eIf_f, eAnd, eAnd_t, eAnd_f, eOr, eOr_t, eOr_f, eNot, eNot2, eCall, eCall2, eCallC, eSl, eSl2, eSl3, eSl4, eNo, ePart, ePart2, sNil_, sSeq_, sBrk_, sCnt_, sDrop_, sDrop2, sDropE, sRet_, sRet2, sRetE, sRetN_, sIf_, sIf_t, sIf_f, sSet_, sSet2, sSetE, setT_nm, setTs_nil, setTs_cons, optS_some, sPar2_, sPar22, sFor_, sFor2, cIter_, cIter_t, cIter_l, cIter_s, cItL_, cItL2, sRaise_, runF_, endR_nx, endR_rt, endR_err, opt_some, seq_nx, seq_rt, seq_bk, seq_ct, seq_err, startE, List.map_cons, List.map_nil, List.length_cons, List.length_nil, List.replicate_succ, List.replicate_zero, List.cons_append, List.nil_append, List.append_nil, List.getElem?_cons_zero, List.getElem?_cons_succ, List.set_cons_zero, List.set_cons_succ, Option.bind_some, Option.map_some, Nat.reduceAdd, Nat.reduceSub, fAdd_int, fSub_int, fNeg_int, gGcd_int, fGt_int, fLt_int, fLe_int, fTup2, need_novec this, turn_err]
      rfl
    | some n =>
      obtain ⟨q1, q2, q3⟩ := ho.l n rfl
      refine ⟨[.val (.lst [odd, vD a, vD a]), .val (.int (1 : Nat)), .val (vD a)], ?_⟩
      have p0 := need_pass (M := M) (rows := [odd, vD a, vD a]) (d0 := odd) (n := ((0 : Nat) : Int)) rfl (q2 M) (ho.v M) (q2 M)
      have p1 := need_wide (M := M) (rows := [odd, vD a, vD a]) (d0 := odd) (d := vD a) (n := ((1 : Nat) : Int)) rfl (q2 M) (hv M) la (by omega)
      rw [forL_cons (dep _)]
      simp only [setT_t, eC, eVar, eVar2, eBin, eBin2, eBin3, eUn, eUn2, eNil, eCons, eCons2, eCons3, eFn, eFn2, eTst, eTst2, eIf, eIf_t, eIf_f, eAnd, eAnd_t, eAnd_f, eOr, eOr_t, eOr_f, eNot, eNot2, eCall, eCall2, eCallC, eSl, eSl2, eSl3, eSl4, eNo, ePart, ePart2, sNil_, sSeq_, sBrk_, sCnt_, sDrop_, sDrop2, sDropE, sRet_, sRet2, sRetE, sRetN_, sIf_, sIf_t, sIf_f, sSet_, sSet2, sSetE, setT_nm, setTs_nil, setTs_cons, optS_some, sPar2_, sPar22, sFor_, sFor2, cIter_, cIter_t, cIter_l, cIter_s, cItL_, cItL2, sRaise_, runF_, endR_nx, endR_rt, endR_err, opt_some, seq_nx, seq_rt, seq_bk, seq_ct, seq_err, startE, List.map_cons, List.map_nil, List.length_cons, List.length_nil, List.replicate_succ, List.replicate_zero, List.cons_append, List.nil_append, List.append_nil, List.getElem?_cons_zero, List.getElem?_cons_succ, List.set_cons_zero, List.set_cons_succ, Option.bind_some, Option.map_some, Nat.reduceAdd, Nat.reduceSub, fAdd_int, fSub_int, fNeg_int, gGcd_int, fGt_int, fLt_int, fLe_int, fTup2, p0, turn_nx]
      rw [forL_cons (dep _)]
      simp only [setT_t, eC, eVar, eVar2, eBin, eBin2, eBin3, eUn, eUn2, eNil, eCons, eCons2, eCons3, eFn, eFn2, eTst, eTst2, eIf, eIf_t, eIf_f, eAnd, eAnd_t, eAnd_f, eOr, eOr_t, eOr_f, eNot, eNot2, eCall, eCall2, eCallC, eSl, eSl2, eSl3, eSl4, eNo, ePart, ePart2, sNil_, sSeq_, sBrk_, sCnt_, sDrop_, sDrop2, sDropE, sRet_, sRet2, sRetE, sRetN_, sIf_, sIf_t, sIf_f, sSet_, sSet2, sSetE, setT_nm, setTs_nil, setTs_cons, optS_some, sPar2_, sPar22, sFor_, sFor2, cIter_, cIter_t, cIter_l, cIter_s, cItL_, cItL2, sRaise_, runF_, endR_nx, endR_rt, endR_err, opt_some, seq_nx, seq_rt, seq_bk, seq_ct, seq_err, startE, List.map_cons, List.map_nil, List.length_cons, List.length_nil, List.replicate_succ, List.replicate_zero, List.cons_append, List.nil_append, List.append_nil, List.getElem?_cons_zero, List.getElem?_cons_succ, List.set_cons_zero, List.set_cons_succ, Option.bind_some, Option.map_some, Nat.reduceAdd, Nat.reduceSub, fAdd_int, fSub_int, fNeg_int, gGcd_int, fGt_int, fLt_int, fLe_int, fTup2, p1, turn_err]
      rfl
  | 1, _ =>
    refine comb_rows3 (hv M) ha ?_
    show ∃ env, forL ⟨enumL 0 [vD a, odd, vD a], []⟩ _ bN [.tup [.int (0 : Nat), vD a], .tup [.int (1 : Nat), odd], .tup [.int (2 : Nat), vD a]] [.val (.lst [vD a, odd, vD a]), .none, .none] M = _
    refine ⟨[.val (.lst [vD a, odd, vD a]), .val (.int (1 : Nat)), .val odd], ?_⟩
    have p0 := need_pass (M := M) (rows := [vD a, odd, vD a]) (d0 := vD a) (n := ((0 : Nat) : Int)) rfl la (hv M) la
    have p1 : bN [.val (.lst [vD a, odd, vD a]), .val (.int ((1 : Nat) : Int)), .val odd] M = .err "BadRows" ["index"] [.int ((1 : Nat) : Int)] [.val (.lst [vD a, odd, vD a]), .val (.int ((1 : Nat) : Int)), .val odd] M := by
      cases k with
      | none => exact need_novec (ho.v M)
      | some n =>
        obtain ⟨q1, q2, q3⟩ := ho.l n rfl
        exact need_wide (d0 := vD a) rfl la (ho.v M) (q2 M) (by omega)
    rw [forL_cons (dep _)]
    simp only [setT_t, eC, eVar, eVar2, eBin, eBin2, eBin3, eUn, eUn2, eNil, eCons, eCons2, eCons3, eFn, eFn2, eTst, eTst2, eIf, eIf_t, eIf_f, eAnd, eAnd_t, eAnd_f, eOr, eOr_t, eOr_f, eNot, eNot2, eCall, eCall2, eCallC, eSl, eSl2, eSl3, eSl4, eNo, ePart, ePart2, sNil_, sSeq_, sBrk_, sCnt_, sDrop_, sDrop2, sDropE, sRet_, sRet2, sRetE, sRetN_, sIf_, sIf_t, sIf_f, sSet_, sSet2, sSetE, setT_nm, setTs_nil, setTs_cons, optS_some, sPar2_, sPar22, sFor_, sFor2, cIter_, cIter_t, cIter_l, cIter_s, cItL_, cItL2, sRaise_, runF_, endR_nx, endR_rt, endR_err, opt_some, seq_nx, seq_rt, seq_bk, seq_ct, seq_err, startE, List.map_cons, List.map_nil, List.length_cons, List.length_nil, List.replicate_succ, List.replicate_zero, List.cons_append, List.nil_append, List.append_nil, List.getElem?_cons_zero, List.getElem?_cons_succ, List.set_cons_zero, List.set_cons_succ, Option.bind_some, Option.map_some, Nat.reduceAdd, Nat.reduceSub, fAdd_int, fSub_int, fNeg_int, gGcd_int, fGt_int, fLt_int, fLe_int, fTup2, p0, turn_nx]
    rw [forL_cons (dep _)]
    simp only [setT_t, eC, eVar, eVar2, eBin, eBin2, eBin3, eUn, eUn2, eNil, eCons, eCons2, eCons3, eFn, eFn2, eTst, eTst2, eIf, eIf_t, eIf_f, eAnd, eAnd_t, eAnd_f, eOr, eOr_t, eOr_f, eNot, eNot2, eCall, eCall2, eCallC, eSl, eSl2, eSl3, eSl4, eNo, ePart, ePart2, sNil_, sSeq_, sBrk_, sCnt_, sDrop_, sDrop2, sDropE, sRet_, sRet2, sRetE, sRetN_, sIf_, sIf_t, sIf_f, sSet_, sSet2, sSetE, setT_nm, setTs_nil, setTs_cons, optS_some, sPar2_, sPar22, sFor_, sFor2, cIter_, cIter_t, cIter_l, cIter_s, cItL_, cItL2, sRaise_, runF_, endR_nx, endR_rt, endR_err, opt_some, seq_nx, seq_rt, seq_bk, seq_ct, seq_err, startE, List.map_cons, List.map_nil, List.length_cons, List.length_nil, List.replicate_succ, List.replicate_zero, List.cons_append, List.nil_append, List.append_nil, List.getElem?_cons_zero, List.getElem?_cons_succ, List.set_cons_zero, List.set_cons_succ, Option.bind_some, Option.map_some, Nat.reduceAdd, Nat.reduceSub, fAdd_int, fSub_int, fNeg_int, gGcd_int, fGt_int, fLt_int, fLe_int, fTup2, p1, turn_err]
    rfl
  | 2, _ =>
    refine comb_rows3 (hv M) ha ?_
    show ∃ env, forL ⟨enumL 0 [vD a, vD a, odd], []⟩ _ bN [.tup [.int (0 : Nat), vD a], .tup [.int (1 : Nat), vD a], .tup [.int (2 : Nat), odd]] [.val (.lst [vD a, vD a, odd]), .none, .none] M = _
    refine ⟨[.val (.lst [vD a, vD a, odd]), .val (.int (2 : Nat)), .val odd], ?_⟩
    have p0 := need_pass (M := M) (rows := [vD a, vD a, odd]) (d0 := vD a) (n := ((0 : Nat) : Int)) rfl la (hv M) la
    have p1 := need_pass (M := M) (rows := [vD a, vD a, odd]) (d0 := vD a) (n := ((1 : Nat) : Int)) rfl la (hv M) la
    have p2 : bN [.val (.lst [vD a, vD a, odd]), .val (.int ((2 : Nat) : Int)), .val odd] M = .err "BadRows" ["index"] [.int ((2 : Nat) : Int)] [.val (.lst [vD a, vD a, odd]), .val (.int ((2 : Nat) : Int)), .val odd] M := by
      cases k with
      | none => exact need_novec (ho.v M)
      | some n =>
        obtain ⟨q1, q2, q3⟩ := ho.l n rfl
        exact need_wide (d0 := vD a) rfl la (ho.v M) (q2 M) (by omega)
    rw [forL_cons (dep _)]
    simp only [setT_t, eC, eVar, eVar2, eBin, eBin2, eBin3, eUn, eUn2, eNil, eCons, eCons2, eCons3, eFn, eFn2, eTst, eTst2, eIf, eIf_t, eIf_f, eAnd, eAnd_t, eAnd_f, eOr, eOr_t, eOr_f, eNot, eNot2, eCall, eCall2, eCallC, eSl, eSl2, eSl3, eSl4, eNo, ePart, ePart2, sNil_, sSeq_, sBrk_, sCnt_, sDrop_, sDrop2, sDropE, sRet_, sRet2, sRetE, sRetN_, sIf_, sIf_t, sIf_f, sSet_, sSet2, sSetE, setT_nm, setTs_nil, setTs_cons, optS_some, sPar2_, sPar22, sFor_, sFor2, cIter_, cIter_t, cIter_l, cIter_s, cItL_, cItL2, sRaise_, runF_, endR_nx, endR_rt, endR_err, opt_some, seq_nx, seq_rt, seq_bk, seq_ct, seq_err, startE, List.map_cons, List.map_nil, List.length_cons, List.length_nil, List.replicate_succ, List.replicate_zero, List.cons_append, List.nil_append, List.append_nil, List.getElem?_cons_zero, List.getElem?_cons_succ, List.set_cons_zero, List.set_cons_succ, Option.bind_some, Option.map_some, Nat.reduceAdd, Nat.reduceSub, fAdd_int, fSub_int, fNeg_int, gGcd_int, fGt_int, fLt_int, fLe_int, fTup2, p0, turn_nx]
    rw [forL_cons (dep _)]
    simp only [setT_t, eC, eVar, eVar2, eBin, eBin2, eBin3, eUn, eUn2, eNil, eCons, eCons2, eCons3, eFn, eFn2, eTst, eTst2, eIf, eIf_t, eIf_f, eAnd, eAnd_t, eAnd_f, eOr, eOr_t, eOr_f, eNot, eNot2, eCall, eCall2, eCallC, eSl, eSl2, eSl3, eSl4, eNo, ePart, ePart2, sNil_, sSeq_, sBrk_, sCnt_, sDrop_, sDrop2, sDropE, sRet_, sRet2, sRetE, sRetN_, sIf_, sIf_t, sIf_f, sSet_, sSet2, sSetE, setT_nm, setTs_nil, setTs_cons, optS_some, sPar2_, sPar22, sFor_, sFor2, cIter_, cIter_t, cIter_l, cIter_s, cItL_, cItL2, sRaise_, runF_, endR_nx, endR_rt, endR_err, opt_some, seq_nx, seq_rt, seq_bk, seq_ct, seq_err, startE, List.map_cons, List.map_nil, List.length_cons, List.length_nil, List.replicate_succ, List.replicate_zero, List.cons_append, List.nil_append, List.append_nil, List.getElem?_cons_zero, List.getElem?_cons_succ, List.set_cons_zero, List.set_cons_succ, Option.bind_some, Option.map_some, Nat.reduceAdd, Nat.reduceSub, fAdd_int, fSub_int, fNeg_int, gGcd_int, fGt_int, fLt_int, fLe_int, fTup2, p1, turn_nx]
    rw [forL_cons (dep _)]
    simp only [setT_t, eC, eVar, eVar2, eBin, eBin2, eBin3, eUn, eUn2, eNil, eCons, eCons2, eCons3, eFn, eFn2, eTst, eTst2, eIf, eIf_t, eIf_f, eAnd, eAnd_t, eAnd_f, eOr, eOr_t, eOr_f, eNot, eNot2, eCall, eCall2, eCallC, eSl, eSl2, eSl3, eSl4, eNo, ePart, ePart2, sNil_, sSeq_, sBrk_, sCnt_, sDrop_, sDrop2, sDropE, sRet_, sRet2, sRetE, sRetN_, sIf_, sIf_t, sIf_f, sSet_, sSet2, sSetE, setT_nm, setTs_nil, setTs_cons, optS_some, sPar2_, sPar22, sFor_, sFor2, cIter_, cIter_t, cIter_l, cIter_s, cItL_, cItL2, sRaise_, runF_, endR_nx, endR_rt, endR_err, opt_some, seq_nx, seq_rt, seq_bk, seq_ct, seq_err, startE, List.map_cons, List.map_nil, List.length_cons, List.length_nil, List.replicate_succ, List.replicate_zero, List.cons_append, List.nil_append, List.append_nil, List.getElem?_cons_zero, List.getElem?_cons_succ, List.set_cons_zero, List.set_cons_succ, Option.bind_some, Option.map_some, Nat.reduceAdd, Nat.reduceSub, fAdd_int, fSub_int, fNeg_int, gGcd_int, fGt_int, fLt_int, fLe_int, fTup2, p2, turn_err]
    rfl
end
end K00

set_option Elab.async false
set_option linter.all false
set_option maxRecDepth 100000
set_option maxHeartbeats 4000000
namespace K00
open PySem PySem.Spec PyProof.Rows L2 DI
section
variable {M : Mem}
theorem in24 {n : Nat} (h : n = 2 ∨ n = 4) : fIn M (.int (n : Nat)) (.lst [.int 2, .int 4]) = some (.bl true) := by
  rcases h with rfl | rfl <;> rfl
theorem in24_0 : fIn M (.int 0) (.lst [.int 2, .int 4]) = some (.bl false) := rfl
noncomputable def cO : EvE := (cAnd (cBin fEq (cVar 3) (cC (.int 0))) (cAnd (cFn (gIsi anc) (cCons (cVar 4) (cCons (cC (.ty "tuple")) cNil))) (cBin fIn (cFn gLen (cCons (cVar 4) cNil)) (cFn fLst (cCons (cC (.int 2)) (cCons (cC (.int 4)) cNil))))))
theorem cO_ok {odd : D} {k : Option Nat} (ho : OddV odd k) {at' : Nat} {r0 r1 r2 r5 r6 r7 r8 r9 : Sl} : cO [r0, r1, r2, .val (.int (at' : Nat)), .val odd, r5, r6, r7, r8, r9] M = .ok (.bl (decide (at' = 0) && k.isSome)) M := by
  unfold cO
  have hl : fLst M [.int 2, .int 4] = some (.lst [.int 2, .int 4]) := fLst_le (show 2 ≤ 1000 by decide)
  have e : decide ((at' : Int) = 0) = decide (at' = 0) := by rw [decide_eq_decide]; omega
  by_cases h0 : at' = 0
  · cases k with
    | none =>
      rcases ho.z rfl with hz | rfl
      · simp only [eC, eVar, eVar2, eBin, eBin2, eBin3, eUn, eUn2, eNil, eCons, eCons2, eCons3, eFn, eFn2, eTst, eTst2, eIf, eIf_t, eIf_f, eAnd, eAnd_t, eAnd_f, eOr, eOr_t, eOr_f, eNot, eNot2, eCall, eCall2, eCallC, eSl, eSl2, eSl3, eSl4, eNo, ePart, ePart2, sNil_, sSeq_, sBrk_, sCnt_, sDrop_, sDrop2, sDropE, sRet_, sRet2, sRetE, sRetN_, sIf_, sIf_t, sIf_f, sSet_, sSet2, sSetE, setT_nm, setTs_nil, setTs_cons, optS_some, sPar2_, sPar22, sFor_, sFor2, cIter_, cIter_t, cIter_l, cIter_s, cItL_, cItL2, sRaise_, runF_, endR_nx, endR_rt, endR_err, opt_some, seq_nx, seq_rt, seq_bk, seq_ct, seq_err, startE, List.map_cons, List.map_nil, List.length_cons, List.length_nil, List.replicate_succ, List.replicate_zero, List.cons_append, List.nil_append, List.append_nil, List.getElem?_cons_zero, List.getElem?_cons_succ, List.set_cons_zero, List.set_cons_succ, Option.bind_some, Option.map_some, Nat.reduceAdd, Nat.reduceSub, fAdd_int, fSub_int, fNeg_int, gGcd_int, fGt_int, fLt_int, fLe_int, fTup2, fEq_int, e, decide_eq_true h0, isi_T (kd_tree ho.t), hz, Option.isSome_none, Bool.and_false]
      · have g0 : gLen M [.tup []] = some (.int 0) := rfl
        simp only [eC, eVar, eVar2, eBin, eBin2, eBin3, eUn, eUn2, eNil, eCons, eCons2, eCons3, eFn, eFn2, eTst, eTst2, eIf, eIf_t, eIf_f, eAnd, eAnd_t, eAnd_f, eOr, eOr_t, eOr_f, eNot, eNot2, eCall, eCall2, eCallC, eSl, eSl2, eSl3, eSl4, eNo, ePart, ePart2, sNil_, sSeq_, sBrk_, sCnt_, sDrop_, sDrop2, sDropE, sRet_, sRet2, sRetE, sRetN_, sIf_, sIf_t, sIf_f, sSet_, sSet2, sSetE, setT_nm, setTs_nil, setTs_cons, optS_some, sPar2_, sPar22, sFor_, sFor2, cIter_, cIter_t, cIter_l, cIter_s, cItL_, cItL2, sRaise_, runF_, endR_nx, endR_rt, endR_err, opt_some, seq_nx, seq_rt, seq_bk, seq_ct, seq_err, startE, List.map_cons, List.map_nil, List.length_cons, List.length_nil, List.replicate_succ, List.replicate_zero, List.cons_append, List.nil_append, List.append_nil, List.getElem?_cons_zero, List.getElem?_cons_succ, List.set_cons_zero, List.set_cons_succ, Option.bind_some, Option.map_some, Nat.reduceAdd, Nat.reduceSub, fAdd_int, fSub_int, fNeg_int, gGcd_int, fGt_int, fLt_int, fLe_int, fTup2, fEq_int, e, decide_eq_true h0, isi_tup_tup, g0, hl, in24_0, Option.isSome_none, Bool.and_false]
    | some n =>
      obtain ⟨q1, q2, q3⟩ := ho.l n rfl
      simp only [eC, eVar, eVar2, eBin, eBin2, eBin3, eUn, eUn2, eNil, eCons, eCons2, eCons3, eFn, eFn2, eTst, eTst2, eIf, eIf_t, eIf_f, eAnd, eAnd_t, eAnd_f, eOr, eOr_t, eOr_f, eNot, eNot2, eCall, eCall2, eCallC, eSl, eSl2, eSl3, eSl4, eNo, ePart, ePart2, sNil_, sSeq_, sBrk_, sCnt_, sDrop_, sDrop2, sDropE, sRet_, sRet2, sRetE, sRetN_, sIf_, sIf_t, sIf_f, sSet_, sSet2, sSetE, setT_nm, setTs_nil, setTs_cons, optS_some, sPar2_, sPar22, sFor_, sFor2, cIter_, cIter_t, cIter_l, cIter_s, cItL_, cItL2, sRaise_, runF_, endR_nx, endR_rt, endR_err, opt_some, seq_nx, seq_rt, seq_bk, seq_ct, seq_err, startE, List.map_cons, List.map_nil, List.length_cons, List.length_nil, List.replicate_succ, List.replicate_zero, List.cons_append, List.nil_append, List.append_nil, List.getElem?_cons_zero, List.getElem?_cons_succ, List.set_cons_zero, List.set_cons_succ, Option.bind_some, Option.map_some, Nat.reduceAdd, Nat.reduceSub, fAdd_int, fSub_int, fNeg_int, gGcd_int, fGt_int, fLt_int, fLe_int, fTup2, fEq_int, e, decide_eq_true h0, isi_T (kd_tree ho.t), q1, q2, hl, in24 q3, Option.isSome_some, Bool.and_true]
  · simp only [eC, eVar, eVar2, eBin, eBin2, eBin3, eUn, eUn2, eNil, eCons, eCons2, eCons3, eFn, eFn2, eTst, eTst2, eIf, eIf_t, eIf_f, eAnd, eAnd_t, eAnd_f, eOr, eOr_t, eOr_f, eNot, eNot2, eCall, eCall2, eCallC, eSl, eSl2, eSl3, eSl4, eNo, ePart, ePart2, sNil_, sSeq_, sBrk_, sCnt_, sDrop_, sDrop2, sDropE, sRet_, sRet2, sRetE, sRetN_, sIf_, sIf_t, sIf_f, sSet_, sSet2, sSetE, setT_nm, setTs_nil, setTs_cons, optS_some, sPar2_, sPar22, sFor_, sFor2, cIter_, cIter_t, cIter_l, cIter_s, cItL_, cItL2, sRaise_, runF_, endR_nx, endR_rt, endR_err, opt_some, seq_nx, seq_rt, seq_bk, seq_ct, seq_err, startE, List.map_cons, List.map_nil, List.length_cons, List.length_nil, List.replicate_succ, List.replicate_zero, List.cons_append, List.nil_append, List.append_nil, List.getElem?_cons_zero, List.getElem?_cons_succ, List.set_cons_zero, List.set_cons_succ, Option.bind_some, Option.map_some, Nat.reduceAdd, Nat.reduceSub, fAdd_int, fSub_int, fNeg_int, gGcd_int, fGt_int, fLt_int, fLe_int, fTup2, fEq_int, e, decide_eq_false h0, Bool.false_and]
theorem wrong_ok {o odd : D} (at' : Nat) (h : at' < 3) {r0 r1 r5 r6 r7 r8 r9 : Sl} : (cBin fAdd (cBin fAdd (cSl (cVar 2) cNo (cPart (cVar 3))) (cFn fLst (cCons (cVar 4) cNil))) (cSl (cVar 2) (cPart (cBin fAdd (cVar 3) (cC (.int 1)))) cNo)) [r0, r1, .val (.lst [o, o, o]), .val (.int (at' : Nat)), .val odd, r5, r6, r7, r8, r9] M = .ok (.lst ([o, o, o].set at' odd)) M := by
  have l1 : fLst M [odd] = some (.lst [odd]) := fLst_le (show 1 ≤ 1000 by decide)
  match at', h with
  | 0, _ =>
    have e : (((0 : Nat) : Int)) = 0 := rfl
    have a1 := fAdd_l (M := M) (a := []) (b := [odd]) (show 0 + 1 ≤ 1000 by decide)
    have a2 := fAdd_l (M := M) (a := [odd]) (b := [o, o]) (show 1 + 2 ≤ 1000 by decide)
    rw [List.nil_append] at a1
    simp only [eC, eVar, eVar2, eBin, eBin2, eBin3, eUn, eUn2, eNil, eCons, eCons2, eCons3, eFn, eFn2, eTst, eTst2, eIf, eIf_t, eIf_f, eAnd, eAnd_t, eAnd_f, eOr, eOr_t, eOr_f, eNot, eNot2, eCall, eCall2, eCallC, eSl, eSl2, eSl3, eSl4, eNo, ePart, ePart2, sNil_, sSeq_, sBrk_, sCnt_, sDrop_, sDrop2, sDropE, sRet_, sRet2, sRetE, sRetN_, sIf_, sIf_t, sIf_f, sSet_, sSet2, sSetE, setT_nm, setTs_nil, setTs_cons, optS_some, sPar2_, sPar22, sFor_, sFor2, cIter_, cIter_t, cIter_l, cIter_s, cItL_, cItL2, sRaise_, runF_, endR_nx, endR_rt, endR_err, opt_some, seq_nx, seq_rt, seq_bk, seq_ct, seq_err, startE, List.map_cons, List.map_nil, List.length_cons, List.length_nil, List.replicate_succ, List.replicate_zero, List.cons_append, List.nil_append, List.append_nil, List.getElem?_cons_zero, List.getElem?_cons_succ, List.set_cons_zero, List.set_cons_succ, Option.bind_some, Option.map_some, Nat.reduceAdd, Nat.reduceSub, fAdd_int, fSub_int, fNeg_int, gGcd_int, fGt_int, fLt_int, fLe_int, fTup2, e, cut_a, l1, a1, Int.zero_add, cut_d, a2]
  | 1, _ =>
    have e : (((1 : Nat) : Int)) = 1 := rfl
    have a1 := fAdd_l (M := M) (a := [o]) (b := [odd]) (show 1 + 1 ≤ 1000 by decide)
    have a2 := fAdd_l (M := M) (a := [o, odd]) (b := [o]) (show 2 + 1 ≤ 1000 by decide)
    simp only [eC, eVar, eVar2, eBin, eBin2, eBin3, eUn, eUn2, eNil, eCons, eCons2, eCons3, eFn, eFn2, eTst, eTst2, eIf, eIf_t, eIf_f, eAnd, eAnd_t, eAnd_f, eOr, eOr_t, eOr_f, eNot, eNot2, eCall, eCall2, eCallC, eSl, eSl2, eSl3, eSl4, eNo, ePart, ePart2, sNil_, sSeq_, sBrk_, sCnt_, sDrop_, sDrop2, sDropE, sRet_, sRet2, sRetE, sRetN_, sIf_, sIf_t, sIf_f, sSet_, sSet2, sSetE, setT_nm, setTs_nil, setTs_cons, optS_some, sPar2_, sPar22, sFor_, sFor2, cIter_, cIter_t, cIter_l, cIter_s, cItL_, cItL2, sRaise_, runF_, endR_nx, endR_rt, endR_err, opt_some, seq_nx, seq_rt, seq_bk, seq_ct, seq_err, startE, List.map_cons, List.map_nil, List.length_cons, List.length_nil, List.replicate_succ, List.replicate_zero, List.cons_append, List.nil_append, List.append_nil, List.getElem?_cons_zero, List.getElem?_cons_succ, List.set_cons_zero, List.set_cons_succ, Option.bind_some, Option.map_some, Nat.reduceAdd, Nat.reduceSub, fAdd_int, fSub_int, fNeg_int, gGcd_int, fGt_int, fLt_int, fLe_int, fTup2, e, cut_b, l1, a1, show (1 : Int) + 1 = 2 from rfl, cut_e, a2]
  | 2, _ =>
    have e : (((2 : Nat) : Int)) = 2 := rfl
    have a1 := fAdd_l (M := M) (a := [o, o]) (b := [odd]) (show 2 + 1 ≤ 1000 by decide)
    have a2 := fAdd_l (M := M) (a := [o, o, odd]) (b := []) (show 3 + 0 ≤ 1000 by decide)
    rw [List.append_nil] at a2
    simp only [eC, eVar, eVar2, eBin, eBin2, eBin3, eUn, eUn2, eNil, eCons, eCons2, eCons3, eFn, eFn2, eTst, eTst2, eIf, eIf_t, eIf_f, eAnd, eAnd_t, eAnd_f, eOr, eOr_t, eOr_f, eNot, eNot2, eCall, eCall2, eCallC, eSl, eSl2, eSl3, eSl4, eNo, ePart, ePart2, sNil_, sSeq_, sBrk_, sCnt_, sDrop_, sDrop2, sDropE, sRet_, sRet2, sRetE, sRetN_, sIf_, sIf_t, sIf_f, sSet_, sSet2, sSetE, setT_nm, setTs_nil, setTs_cons, optS_some, sPar2_, sPar22, sFor_, sFor2, cIter_, cIter_t, cIter_l, cIter_s, cItL_, cItL2, sRaise_, runF_, endR_nx, endR_rt, endR_err, opt_some, seq_nx, seq_rt, seq_bk, seq_ct, seq_err, startE, List.map_cons, List.map_nil, List.length_cons, List.length_nil, List.replicate_succ, List.replicate_zero, List.cons_append, List.nil_append, List.append_nil, List.getElem?_cons_zero, List.getElem?_cons_succ, List.set_cons_zero, List.set_cons_succ, Option.bind_some, Option.map_some, Nat.reduceAdd, Nat.reduceSub, fAdd_int, fSub_int, fNeg_int, gGcd_int, fGt_int, fLt_int, fLe_int, fTup2, e, cut_c, l1, a1, show (2 : Int) + 1 = 3 from rfl, cut_f, a2]
theorem bO_ok {a : List Rat} {odd : D} {k : Option Nat} (ha : a.length = 3) (hv : ∀ M, f_is_vector [vD a] M = .ok (.bl true) M) (ho : OddV odd k) (at' : Nat) (hat : at' < 3) {r0 r1 r5 r6 r7 r9 : Sl} :
    ∃ s5 s6 s9, bO [r0, r1, .val (.lst [vD a, vD a, vD a]), .val (.int (at' : Nat)), .val odd, r5, r6, r7, .val (vD a), r9] M = .nx [r0, r1, .val (.lst [vD a, vD a, vD a]), .val (.int (at' : Nat)), .val odd, s5, s6, r7, .val (vD a), s9] M := by
  have hc := comb4 (M := M) ha hv ho at' hat
  have htr : trees ([vD a, vD a, vD a].set at' odd) = true := by
    match at', hat with
    | 0, _ => show (tree odd && (tree (vD a) && (tree (vD a) && true))) = true; rw [ho.t, tree_vD]; rfl
    | 1, _ => show (tree (vD a) && (tree odd && (tree (vD a) && true))) = true; rw [ho.t, tree_vD]; rfl
    | 2, _ => show (tree (vD a) && (tree (vD a) && (tree odd && true))) = true; rw [ho.t, tree_vD]; rfl
  have hw := wrong_ok (M := M) (o := vD a) (odd := odd) at' hat (r0 := r0) (r1 := r1) (r5 := r5) (r6 := r6) (r7 := r7) (r8 := .val (vD a)) (r9 := r9)
  generalize [vD a, vD a, vD a].set at' odd = wr at hc htr hw
  have hb : belows M.length [vD a, .lst wr] = true := bel_2 tree_vD (by rw [tree]; exact htr)
  have h4 : bd__law_refused 4 [r0, r1, .val (.lst [vD a, vD a, vD a]), .val (.int (at' : Nat)), .val odd, r5, r6, r7, .val (vD a), .val (.lst wr)] M = .err "BadRows" ["index"] [.int (told at' k)] M := by
    show cCallC f_combined (cCons (cVar 8) (cCons (cVar 9) cNil)) _ M = _
    simp only [eC, eVar, eVar2, eBin, eBin2, eBin3, eUn, eUn2, eNil, eCons, eCons2, eCons3, eFn, eFn2, eTst, eTst2, eIf, eIf_t, eIf_f, eAnd, eAnd_t, eAnd_f, eOr, eOr_t, eOr_f, eNot, eNot2, eCall, eCall2, eCallC, eSl, eSl2, eSl3, eSl4, eNo, ePart, ePart2, sNil_, sSeq_, sBrk_, sCnt_, sDrop_, sDrop2, sDropE, sRet_, sRet2, sRetE, sRetN_, sIf_, sIf_t, sIf_f, sSet_, sSet2, sSetE, setT_nm, setTs_nil, setTs_cons, optS_some, sPar2_, sPar22, sFor_, sFor2, cIter_, cIter_t, cIter_l, cIter_s, cItL_, cItL2, sRaise_, runF_, endR_nx, endR_rt, endR_err, opt_some, seq_nx, seq_rt, seq_bk, seq_ct, seq_err, startE, List.map_cons, List.map_nil, List.length_cons, List.length_nil, List.replicate_succ, List.replicate_zero, List.cons_append, List.nil_append, List.append_nil, List.getElem?_cons_zero, List.getElem?_cons_succ, List.set_cons_zero, List.set_cons_succ, Option.bind_some, Option.map_some, Nat.reduceAdd, Nat.reduceSub, fAdd_int, fSub_int, fNeg_int, gGcd_int, fGt_int, fLt_int, fLe_int, fTup2, eCallC2 hb, hc]
  have hca := caught_k (k := 4) rfl h4 rfl
  have hco := cO_ok (M := M) ho (at' := at') (r0 := r0) (r1 := r1) (r2 := .val (.lst [vD a, vD a, vD a])) (r5 := .val (.exc "BadRows" ["index"] [.int (told at' k)])) (r6 := .val (.int (at' : Nat))) (r7 := r7) (r8 := .val (vD a)) (r9 := .val (.lst wr))
  have hcO : (cAnd (cBin fEq (cVar 3) (cC (.int 0))) (cAnd (cFn (gIsi anc) (cCons (cVar 4) (cCons (cC (.ty "tuple")) cNil))) (cBin fIn (cFn gLen (cCons (cVar 4) cNil)) (cFn fLst (cCons (cC (.int 2)) (cCons (cC (.int 4)) cNil)))))) = cO := rfl
  have hx : okAt "BadRows" "BadRows" = true := rfl
  unfold bO
  rw [hcO]
  by_cases hk : at' = 0 ∧ k.isSome = true
  · have ht : told at' k = 1 := if_pos hk
    rw [ht] at hca hco
    have hd : (decide (at' = 0) && k.isSome) = true := by rw [decide_eq_true hk.1, hk.2]; rfl
    rw [hd] at hco
    refine ⟨.val (.exc "BadRows" ["index"] [.int 1]), .val (.int 1), .val (.lst wr), ?_⟩
    simp only [sSeq_, sSet_, hw, sSet2, setT_nm, optS_some, seq_nx, List.set_cons_succ, List.set_cons_zero, hca, eVar, List.getElem?_cons_succ, List.getElem?_cons_zero, eVar2, sIf_, eTst, eTst2, hco, sIf_t, eC]
    simp only [eC, eVar, eVar2, eBin, eBin2, eBin3, eUn, eUn2, eNil, eCons, eCons2, eCons3, eFn, eFn2, eTst, eTst2, eIf, eIf_t, eIf_f, eAnd, eAnd_t, eAnd_f, eOr, eOr_t, eOr_f, eNot, eNot2, eCall, eCall2, eCallC, eSl, eSl2, eSl3, eSl4, eNo, ePart, ePart2, sNil_, sSeq_, sBrk_, sCnt_, sDrop_, sDrop2, sDropE, sRet_, sRet2, sRetE, sRetN_, sIf_, sIf_t, sIf_f, sSet_, sSet2, sSetE, setT_nm, setTs_nil, setTs_cons, optS_some, sPar2_, sPar22, sFor_, sFor2, cIter_, cIter_t, cIter_l, cIter_s, cItL_, cItL2, sRaise_, runF_, endR_nx, endR_rt, endR_err, opt_some, seq_nx, seq_rt, seq_bk, seq_ct, seq_err, startE, List.map_cons, List.map_nil, List.length_cons, List.length_nil, List.replicate_succ, List.replicate_zero, List.cons_append, List.nil_append, List.append_nil, List.getElem?_cons_zero, List.getElem?_cons_succ, List.set_cons_zero, List.set_cons_succ, Option.bind_some, Option.map_some, Nat.reduceAdd, Nat.reduceSub, fAdd_int, fSub_int, fNeg_int, gGcd_int, fGt_int, fLt_int, fLe_int, fTup2, isRows, eExF, exF2_ok hx, fNe_int, decide_true, Bool.not_true]
  · have ht : told at' k = at' := if_neg hk
    rw [ht] at hca hco
    have hd : (decide (at' = 0) && k.isSome) = false := by
      rw [Bool.eq_false_iff]
      intro z
      rw [Bool.and_eq_true, decide_eq_true_iff] at z
      exact hk z
    rw [hd] at hco
    refine ⟨.val (.exc "BadRows" ["index"] [.int (at' : Nat)]), .val (.int (at' : Nat)), .val (.lst wr), ?_⟩
    simp only [sSeq_, sSet_, hw, sSet2, setT_nm, optS_some, seq_nx, List.set_cons_succ, List.set_cons_zero, hca, eVar, List.getElem?_cons_succ, List.getElem?_cons_zero, eVar2, sIf_, eTst, eTst2, hco, sIf_f, sNil_]
    simp only [eC, eVar, eVar2, eBin, eBin2, eBin3, eUn, eUn2, eNil, eCons, eCons2, eCons3, eFn, eFn2, eTst, eTst2, eIf, eIf_t, eIf_f, eAnd, eAnd_t, eAnd_f, eOr, eOr_t, eOr_f, eNot, eNot2, eCall, eCall2, eCallC, eSl, eSl2, eSl3, eSl4, eNo, ePart, ePart2, sNil_, sSeq_, sBrk_, sCnt_, sDrop_, sDrop2, sDropE, sRet_, sRet2, sRetE, sRetN_, sIf_, sIf_t, sIf_f, sSet_, sSet2, sSetE, setT_nm, setTs_nil, setTs_cons, optS_some, sPar2_, sPar22, sFor_, sFor2, cIter_, cIter_t, cIter_l, cIter_s, cItL_, cItL2, sRaise_, runF_, endR_nx, endR_rt, endR_err, opt_some, seq_nx, seq_rt, seq_bk, seq_ct, seq_err, startE, List.map_cons, List.map_nil, List.length_cons, List.length_nil, List.replicate_succ, List.replicate_zero, List.cons_append, List.nil_append, List.append_nil, List.getElem?_cons_zero, List.getElem?_cons_succ, List.set_cons_zero, List.set_cons_succ, Option.bind_some, Option.map_some, Nat.reduceAdd, Nat.reduceSub, fAdd_int, fSub_int, fNeg_int, gGcd_int, fGt_int, fLt_int, fLe_int, fTup2, isRows, eExF, exF2_ok hx, fNe_int, decide_true, Bool.not_true]
end
end K00

set_option Elab.async false
set_option linter.all false
set_option maxRecDepth 100000
set_option maxHeartbeats 4000000
namespace K00
open PySem PySem.Spec PyProof.Rows L2 DI
section
variable {M : Mem}
theorem bO_loop {it : ItD} (hM : DepOk it M) {a : List Rat} (ha : a.length = 3) (hv : ∀ M, f_is_vector [vD a] M = .ok (.bl true) M) (at' : Nat) (hat : at' < 3) {r0 r1 r7 : Sl} : ∀ (ds : List D) (r4 r5 r6 r9 : Sl), (∀ d ∈ ds, ∃ k, OddV d k) →
    ∃ s4 s5 s6 s9, forL it (.nm 4) bO ds [r0, r1, .val (.lst [vD a, vD a, vD a]), .val (.int (at' : Nat)), r4, r5, r6, r7, .val (vD a), r9] M = .nx [r0, r1, .val (.lst [vD a, vD a, vD a]), .val (.int (at' : Nat)), s4, s5, s6, r7, .val (vD a), s9] M
  | [], r4, r5, r6, r9, _ => ⟨r4, r5, r6, r9, forL_nil hM⟩
  | d :: ds, r4, r5, r6, r9, h => by
    obtain ⟨k, hk⟩ := h d List.mem_cons_self
    obtain ⟨t5, t6, t9, e0⟩ := bO_ok (M := M) ha hv hk at' hat (r0 := r0) (r1 := r1) (r5 := r5) (r6 := r6) (r7 := r7) (r9 := r9)
    obtain ⟨s4, s5, s6, s9, e⟩ := bO_loop hM ha hv at' hat (r0 := r0) (r1 := r1) (r7 := r7) ds (.val d) t5 t6 t9 fun x hx => h x (List.mem_cons_of_mem _ hx)
    refine ⟨s4, s5, s6, s9, ?_⟩
    rw [forL_cons hM, setT_nm]
    simp only [optS_some, seq_nx, List.set_cons_succ, List.set_cons_zero, e0]
    rw [turn_nx, e]
/-- the odd rows that are tried -/
theorem odd_ok {a : List Rat} (ha : a.length = 3) (hs : ∀ r ∈ a, Sq 20 r) : ∀ d ∈ [D.non, .lst (a.map qd), .tup ((a.map qd).take 2), .tup (a.map qd ++ [.tup [.int 1, .int 1]]), .tup []], ∃ k, OddV d k := by
  match a, ha, hs with
  | [x, y, z], _, hs =>
    have hx := hs x (by simp)
    have hy := hs y (by simp)
    have hz := hs z (by simp)
    have q1 : qd 1 = .tup [.int 1, .int 1] := rfl
    have h1 : Sq 20 1 := ⟨show (1 : Nat) < 2 ^ 20 by decide, show (1 : Nat) < 2 ^ 20 by decide⟩
    intro d hd
    simp only [List.mem_cons, List.not_mem_nil, or_false] at hd
    rcases hd with rfl | rfl | rfl | rfl | rfl
    · exact ⟨none, ⟨rfl, fun M => r_is_vector_N rfl rfl, (fun n e => nomatch e), fun _ => .inl rfl⟩⟩
    · exact ⟨none, ⟨rfl, fun M => r_is_vector_N rfl rfl, (fun n e => nomatch e), fun _ => .inl rfl⟩⟩
    · refine ⟨some 2, ⟨rfl, fun M => ?_, fun n e => ?_, (fun e => nomatch e)⟩⟩
      · exact r_is_vector_v (l := [x, y]) (show 1 ≤ 2 by decide) (show 2 ≤ 200 by decide) (k := 20) (fun r hr => by
          simp only [List.mem_cons, List.not_mem_nil, or_false] at hr
          rcases hr with rfl | rfl
          · exact hx
          · exact hy) (by decide)
      · cases e
        exact ⟨rfl, fun M => rfl, .inl rfl⟩
    · refine ⟨some 4, ⟨rfl, fun M => ?_, fun n e => ?_, (fun e => nomatch e)⟩⟩
      · exact r_is_vector_v (l := [x, y, z, 1]) (show 1 ≤ 4 by decide) (show 4 ≤ 200 by decide) (k := 20) (fun r hr => by
          simp only [List.mem_cons, List.not_mem_nil, or_false] at hr
          rcases hr with rfl | rfl | rfl | rfl
          · exact hx
          · exact hy
          · exact hz
          · exact h1) (by decide)
      · cases e
        exact ⟨rfl, fun M => rfl, .inr rfl⟩
    · exact ⟨none, ⟨rfl, (fun M => r_is_vector_T (p := fun _ => true) (fun x hx => nomatch hx)), (fun n e => nomatch e), fun _ => .inr rfl⟩⟩
/-! ### what is no list of rows -/
noncomputable def bU : EvS := (sSeq (sSet (.nm 5) (cCaught ks__law_refused bd__law_refused catB (cLam 5))) (sIf (cOr (cNot (cFn (gIsi anc) (cCons (cVar 5) (cCons (cC (.fn "BadRows")) cNil)))) (cBin fIsNot (cExF (okAt "BadRows") "index" (cVar 5)) (cC .non))) (sRet (cC (.bl false))) sNil))
structure UnV (a : List Rat) (M : Mem) (x : D) : Prop where
  b : belows M.length [vD a, x] = true
  e : f_combined [vD a, x] M = .err "BadRows" ["index"] [.non] M
theorem bU_loop {it : ItD} (hM : DepOk it M) {a : List Rat} {r0 r1 r2 r3 r4 r6 r7 : Sl} : ∀ (ds : List D) (r5 r9 : Sl), (∀ d ∈ ds, UnV a M d) →
    ∃ s5 s9, forL it (.nm 9) bU ds [r0, r1, r2, r3, r4, r5, r6, r7, .val (vD a), r9] M = .nx [r0, r1, r2, r3, r4, s5, r6, r7, .val (vD a), s9] M
  | [], r5, r9, _ => ⟨r5, r9, forL_nil hM⟩
  | d :: ds, r5, r9, h => by
    have hd := h d List.mem_cons_self
    obtain ⟨s5, s9, e⟩ := bU_loop hM (a := a) (r0 := r0) (r1 := r1) (r2 := r2) (r3 := r3) (r4 := r4) (r6 := r6) (r7 := r7) ds (.val (.exc "BadRows" ["index"] [.non])) (.val d) fun x hx => h x (List.mem_cons_of_mem _ hx)
    refine ⟨s5, s9, ?_⟩
    have h5 : bd__law_refused 5 [r0, r1, r2, r3, r4, r5, r6, r7, .val (vD a), .val d] M = .err "BadRows" ["index"] [.non] M := by
      show cCallC f_combined (cCons (cVar 8) (cCons (cVar 9) cNil)) _ M = _
      simp only [eC, eVar, eVar2, eBin, eBin2, eBin3, eUn, eUn2, eNil, eCons, eCons2, eCons3, eFn, eFn2, eTst, eTst2, eIf, eIf_t, eIf_f, eAnd, eAnd_t, eAnd_f, eOr, eOr_t, eOr_f, eNot, eNot2, eCall, eCall2, eCallC, eSl, eSl2, eSl3, eSl4, eNo, ePart, ePart2, sNil_, sSeq_, sBrk_, sCnt_, sDrop_, sDrop2, sDropE, sRet_, sRet2, sRetE, sRetN_, sIf_, sIf_t, sIf_f, sSet_, sSet2, sSetE, setT_nm, setTs_nil, setTs_cons, optS_some, sPar2_, sPar22, sFor_, sFor2, cIter_, cIter_t, cIter_l, cIter_s, cItL_, cItL2, sRaise_, runF_, endR_nx, endR_rt, endR_err, opt_some, seq_nx, seq_rt, seq_bk, seq_ct, seq_err, startE, List.map_cons, List.map_nil, List.length_cons, List.length_nil, List.replicate_succ, List.replicate_zero, List.cons_append, List.nil_append, List.append_nil, List.getElem?_cons_zero, List.getElem?_cons_succ, List.set_cons_zero, List.set_cons_succ, Option.bind_some, Option.map_some, Nat.reduceAdd, Nat.reduceSub, fAdd_int, fSub_int, fNeg_int, gGcd_int, fGt_int, fLt_int, fLe_int, fTup2, eCallC2 hd.b, hd.e]
    have hca := caught_k (k := 5) rfl h5 rfl
    have hx : okAt "BadRows" "BadRows" = true := rfl
    have hin : fIsNot M .non .non = some (.bl false) := rfl
    have e0 : bU [r0, r1, r2, r3, r4, r5, r6, r7, .val (vD a), .val d] M = .nx [r0, r1, r2, r3, r4, .val (.exc "BadRows" ["index"] [.non]), r6, r7, .val (vD a), .val d] M := by
      unfold bU
      simp only [sSeq_, sSet_, sSet2, setT_nm, optS_some, seq_nx, List.set_cons_succ, List.set_cons_zero, hca]
      simp only [eC, eVar, eVar2, eBin, eBin2, eBin3, eUn, eUn2, eNil, eCons, eCons2, eCons3, eFn, eFn2, eTst, eTst2, eIf, eIf_t, eIf_f, eAnd, eAnd_t, eAnd_f, eOr, eOr_t, eOr_f, eNot, eNot2, eCall, eCall2, eCallC, eSl, eSl2, eSl3, eSl4, eNo, ePart, ePart2, sNil_, sSeq_, sBrk_, sCnt_, sDrop_, sDrop2, sDropE, sRet_, sRet2, sRetE, sRetN_, sIf_, sIf_t, sIf_f, sSet_, sSet2, sSetE, setT_nm, setTs_nil, setTs_cons, optS_some, sPar2_, sPar22, sFor_, sFor2, cIter_, cIter_t, cIter_l, cIter_s, cItL_, cItL2, sRaise_, runF_, endR_nx, endR_rt, endR_err, opt_some, seq_nx, seq_rt, seq_bk, seq_ct, seq_err, startE, List.map_cons, List.map_nil, List.length_cons, List.length_nil, List.replicate_succ, List.replicate_zero, List.cons_append, List.nil_append, List.append_nil, List.getElem?_cons_zero, List.getElem?_cons_succ, List.set_cons_zero, List.set_cons_succ, Option.bind_some, Option.map_some, Nat.reduceAdd, Nat.reduceSub, fAdd_int, fSub_int, fNeg_int, gGcd_int, fGt_int, fLt_int, fLe_int, fTup2, isRowsN, eExF, exF2_ok hx, hin, Bool.not_true]
    rw [forL_cons hM, setT_nm]
    simp only [optS_some, seq_nx, List.set_cons_succ, List.set_cons_zero, e0]
    rw [turn_nx, e]
end
end K00

set_option Elab.async false
set_option linter.all false
set_option maxRecDepth 100000
set_option maxHeartbeats 4000000
namespace K00
open PySem PySem.Spec PyProof.Rows L2 DI
theorem eDict0 {env : En} {M : Mem} : cDict0 env M = .ok (.ref M.length) (M ++ [.dct []]) := rfl
theorem eLam {env : En} {M : Mem} {k : Nat} : cLam k env M = .ok (.cl k) M := rfl
theorem runCT_ {n : Nat} {b : EvS} {ds : List D} {M : Mem} : runCT n b ds M = finR M.length (closeR (endR (b (startE n ds) M))) := rfl
noncomputable def bA : EvS := (sIf (cNot (cFn (gIsi anc) (cCons (cCaught ks__law_refused bd__law_refused catB (cVar 1)) (cCons (cC (.fn "BadVector")) cNil)))) (sRet (cC (.bl false))) sNil)
section
variable {M : Mem}
theorem isVec : gIsi anc M [.exc "BadVector" [] [], .fn "BadVector"] = some (.bl true) := rfl
theorem isWid : gIsi anc M [.exc "BadWidth" [] [], .fn "BadWidth"] = some (.bl true) := rfl
theorem isNum {x : D} : gIsi anc M [.exc "BadNumber" ["part"] [x], .fn "BadNumber"] = some (.bl true) := rfl
theorem shp_str {s : Str} (h : PyData.strOk s = true) : SeqAt.shaped (.str s) = true := by
  unfold SeqAt.shaped
  rw [PyData.canLay0, h]
  rfl
theorem fEq_ss {s : Str} (hs : PyData.strOk s = true) : fEq M (.str s) (.str s) = some (.bl true) := by
  unfold fEq eqD
  show ((if SeqAt.shaped (.str s) = true ∧ SeqAt.shaped (.str s) = true then some (PyData.eqv (.str s) (.str s)) else none).map D.bl) = _
  rw [if_pos ⟨shp_str hs, shp_str hs⟩]
  show some (D.bl (s == s)) = _
  rw [beq_self_eq_true]
theorem fNe_n : fNe M (.str "n") (.str "n") = some (.bl false) := by
  have := fEq_ss (M := M) (s := "n") (by decide +kernel)
  unfold fEq at this
  unfold fNe
  cases e : eqD M (.str "n") (.str "n") with
  | none => rw [e] at this; cases this
  | some b => rw [e] at this; cases this; rfl
theorem fEq_d : fEq M (.str "d") (.str "d") = some (.bl true) := fEq_ss (by decide +kernel)
theorem isi_dct {i : Nat} {ks : List (Key × D)} (h : M[i]? = some (.dct ks)) : gIsi anc M [.ref i, .tup [.ty "list", .ty "tuple"]] = some (.bl false) := by
  have hk : kindD M (.ref i) = some "dict" := by
    show (match M[i]? with
      | some (.lst _) => some "list"
      | some (.dct _) => some "dict"
      | _ => none) = _
    rw [h]
  simp only [gIsi, isiAny, isi1, hk]
  rfl
theorem bA_ok {k : Nat} {r0 r2 r3 r4 r5 r6 r7 r8 r9 : Sl} (hk : ks__law_refused k = true) (he : bd__law_refused k [r0, .val (.cl k), r2, r3, r4, r5, r6, r7, r8, r9] M = .err "BadVector" [] [] M) : bA [r0, .val (.cl k), r2, r3, r4, r5, r6, r7, r8, r9] M = .nx [r0, .val (.cl k), r2, r3, r4, r5, r6, r7, r8, r9] M := by
  have h := caught_v (i := 1) (env := [r0, .val (.cl k), r2, r3, r4, r5, r6, r7, r8, r9]) rfl hk he rfl
  unfold bA
  simp only [sIf_, eTst, eNot, eFn, eCons, h]
  simp only [eC, eVar, eVar2, eBin, eBin2, eBin3, eUn, eUn2, eNil, eCons, eCons2, eCons3, eFn, eFn2, eTst, eTst2, eIf, eIf_t, eIf_f, eAnd, eAnd_t, eAnd_f, eOr, eOr_t, eOr_f, eNot, eNot2, eCall, eCall2, eCallC, eSl, eSl2, eSl3, eSl4, eNo, ePart, ePart2, sNil_, sSeq_, sBrk_, sCnt_, sDrop_, sDrop2, sDropE, sRet_, sRet2, sRetE, sRetN_, sIf_, sIf_t, sIf_f, sSet_, sSet2, sSetE, setT_nm, setTs_nil, setTs_cons, optS_some, sPar2_, sPar22, sFor_, sFor2, cIter_, cIter_t, cIter_l, cIter_s, cItL_, cItL2, sRaise_, runF_, endR_nx, endR_rt, endR_err, opt_some, seq_nx, seq_rt, seq_bk, seq_ct, seq_err, startE, List.map_cons, List.map_nil, List.length_cons, List.length_nil, List.replicate_succ, List.replicate_zero, List.cons_append, List.nil_append, List.append_nil, List.getElem?_cons_zero, List.getElem?_cons_succ, List.set_cons_zero, List.set_cons_succ, Option.bind_some, Option.map_some, Nat.reduceAdd, Nat.reduceSub, fAdd_int, fSub_int, fNeg_int, gGcd_int, fGt_int, fLt_int, fLe_int, fTup2, isVec, Bool.not_true]
theorem bA_loop {a : List Rat} {bad : D} (ha : a.length = 3) (hs : ∀ r ∈ a, Sq 20 r) (hb : tree bad = true) (hv : ∀ M, f_is_vector [bad] M = .ok (.bl false) M) {r0 r1 r2 r3 r4 r5 r6 r9 : Sl} :
    forL ⟨[.cl 0, .cl 1, .cl 2], []⟩ (.nm 1) bA [.cl 0, .cl 1, .cl 2] [r0, r1, r2, r3, r4, r5, r6, .val bad, .val (vD a), r9] M = .nx [r0, .val (.cl 2), r2, r3, r4, r5, r6, .val bad, .val (vD a), r9] M := by
  have va : ∀ M, f_is_vector [vD a] M = .ok (.bl true) M := fun M => r_is_vector_v (by omega) (by omega) hs (by decide)
  have h0 : ∀ r1, bd__law_refused 0 [r0, r1, r2, r3, r4, r5, r6, .val bad, .val (vD a), r9] M = .err "BadVector" [] [] M := fun r1 => by
    show cCallC f_inner (cCons (cVar 7) (cCons (cC .non) cNil)) _ M = _
    simp only [eC, eVar, eVar2, eBin, eBin2, eBin3, eUn, eUn2, eNil, eCons, eCons2, eCons3, eFn, eFn2, eTst, eTst2, eIf, eIf_t, eIf_f, eAnd, eAnd_t, eAnd_f, eOr, eOr_t, eOr_f, eNot, eNot2, eCall, eCall2, eCallC, eSl, eSl2, eSl3, eSl4, eNo, ePart, ePart2, sNil_, sSeq_, sBrk_, sCnt_, sDrop_, sDrop2, sDropE, sRet_, sRet2, sRetE, sRetN_, sIf_, sIf_t, sIf_f, sSet_, sSet2, sSetE, setT_nm, setTs_nil, setTs_cons, optS_some, sPar2_, sPar22, sFor_, sFor2, cIter_, cIter_t, cIter_l, cIter_s, cItL_, cItL2, sRaise_, runF_, endR_nx, endR_rt, endR_err, opt_some, seq_nx, seq_rt, seq_bk, seq_ct, seq_err, startE, List.map_cons, List.map_nil, List.length_cons, List.length_nil, List.replicate_succ, List.replicate_zero, List.cons_append, List.nil_append, List.append_nil, List.getElem?_cons_zero, List.getElem?_cons_succ, List.set_cons_zero, List.set_cons_succ, Option.bind_some, Option.map_some, Nat.reduceAdd, Nat.reduceSub, fAdd_int, fSub_int, fNeg_int, gGcd_int, fGt_int, fLt_int, fLe_int, fTup2, eCallC2 (bel_2 hb (show tree .non = true from rfl)), inner_bad1 (hv M)]
  have h1 : ∀ r1, bd__law_refused 1 [r0, r1, r2, r3, r4, r5, r6, .val bad, .val (vD a), r9] M = .err "BadVector" [] [] M := fun r1 => by
    show cCallC f_inner (cCons (cVar 8) (cCons (cVar 7) cNil)) _ M = _
    simp only [eC, eVar, eVar2, eBin, eBin2, eBin3, eUn, eUn2, eNil, eCons, eCons2, eCons3, eFn, eFn2, eTst, eTst2, eIf, eIf_t, eIf_f, eAnd, eAnd_t, eAnd_f, eOr, eOr_t, eOr_f, eNot, eNot2, eCall, eCall2, eCallC, eSl, eSl2, eSl3, eSl4, eNo, ePart, ePart2, sNil_, sSeq_, sBrk_, sCnt_, sDrop_, sDrop2, sDropE, sRet_, sRet2, sRetE, sRetN_, sIf_, sIf_t, sIf_f, sSet_, sSet2, sSetE, setT_nm, setTs_nil, setTs_cons, optS_some, sPar2_, sPar22, sFor_, sFor2, cIter_, cIter_t, cIter_l, cIter_s, cItL_, cItL2, sRaise_, runF_, endR_nx, endR_rt, endR_err, opt_some, seq_nx, seq_rt, seq_bk, seq_ct, seq_err, startE, List.map_cons, List.map_nil, List.length_cons, List.length_nil, List.replicate_succ, List.replicate_zero, List.cons_append, List.nil_append, List.append_nil, List.getElem?_cons_zero, List.getElem?_cons_succ, List.set_cons_zero, List.set_cons_succ, Option.bind_some, Option.map_some, Nat.reduceAdd, Nat.reduceSub, fAdd_int, fSub_int, fNeg_int, gGcd_int, fGt_int, fLt_int, fLe_int, fTup2, eCallC2 (bel_2 tree_vD hb), inner_bad2 (va M) (hv M)]
  have h2 : ∀ r1, bd__law_refused 2 [r0, r1, r2, r3, r4, r5, r6, .val bad, .val (vD a), r9] M = .err "BadVector" [] [] M := fun r1 => by
    show cCallC f_combined (cCons (cVar 7) (cCons (cC .non) cNil)) _ M = _
    simp only [eC, eVar, eVar2, eBin, eBin2, eBin3, eUn, eUn2, eNil, eCons, eCons2, eCons3, eFn, eFn2, eTst, eTst2, eIf, eIf_t, eIf_f, eAnd, eAnd_t, eAnd_f, eOr, eOr_t, eOr_f, eNot, eNot2, eCall, eCall2, eCallC, eSl, eSl2, eSl3, eSl4, eNo, ePart, ePart2, sNil_, sSeq_, sBrk_, sCnt_, sDrop_, sDrop2, sDropE, sRet_, sRet2, sRetE, sRetN_, sIf_, sIf_t, sIf_f, sSet_, sSet2, sSetE, setT_nm, setTs_nil, setTs_cons, optS_some, sPar2_, sPar22, sFor_, sFor2, cIter_, cIter_t, cIter_l, cIter_s, cItL_, cItL2, sRaise_, runF_, endR_nx, endR_rt, endR_err, opt_some, seq_nx, seq_rt, seq_bk, seq_ct, seq_err, startE, List.map_cons, List.map_nil, List.length_cons, List.length_nil, List.replicate_succ, List.replicate_zero, List.cons_append, List.nil_append, List.append_nil, List.getElem?_cons_zero, List.getElem?_cons_succ, List.set_cons_zero, List.set_cons_succ, Option.bind_some, Option.map_some, Nat.reduceAdd, Nat.reduceSub, fAdd_int, fSub_int, fNeg_int, gGcd_int, fGt_int, fLt_int, fLe_int, fTup2, eCallC2 (bel_2 hb (show tree .non = true from rfl)), comb_bad1 (hv M)]
  rw [forL_cons depOk_nil, setT_nm]
  simp only [optS_some, seq_nx, List.set_cons_succ, List.set_cons_zero, bA_ok (k := 0) rfl (h0 _)]
  rw [turn_nx, forL_cons depOk_nil, setT_nm]
  simp only [optS_some, seq_nx, List.set_cons_succ, List.set_cons_zero, bA_ok (k := 1) rfl (h1 _)]
  rw [turn_nx, forL_cons depOk_nil, setT_nm]
  simp only [optS_some, seq_nx, List.set_cons_succ, List.set_cons_zero, bA_ok (k := 2) rfl (h2 _)]
  rw [turn_nx, forL_nil depOk_nil]
end
theorem r_refused {s : Dr} {t : Nat} {R : Mem} (h : s.Ok t) (ht : t + 40 < 2 ^ 39) : ∃ s', f__law_refused [.ref 1] (mm s R) = .ok (.bl true) (mm s' R) ∧ s'.Ok (t + 40) := by
  obtain ⟨a, s1, e1, a1, a2, h1⟩ := r_vector (R := R) (z := 9) (n := 3) h (by omega) (by decide) (by decide) (by decide)
  have e1 : f__law_vector [.ref 1, .int 3, .int 9] (mm s R) = .ok (vD a) (mm s1 R) := e1
  have sa : ∀ r ∈ a, Sq 20 r := fun r hr => (a2 r hr).sq (by decide)
  have va : ∀ M, f_is_vector [vD a] M = .ok (.bl true) M := fun M => r_is_vector_v (by omega) (by omega) sa (by decide)
  obtain ⟨bad, s2, e2, b1, h2⟩ := r_pick (R := R) (xs := [.non, .tup [], .lst [.tup [.int 1, .int 1]], .tup [.tup [.int 2, .int 4]], .int 5, .tup [.tup [.int 1, .int 1], .non]]) h1 (by omega) (by simp) (show 6 ≤ 1000 by decide)
  obtain ⟨tb, vb⟩ := bad_ok bad b1
  obtain ⟨v, s3, e3, v0, v1, h3⟩ := r_draw (R := R) (room := 3) h2 (by omega) (by decide) (by decide)
  obtain ⟨k, rfl⟩ : ∃ k : Nat, v = (k : Int) := ⟨v.toNat, by omega⟩
  have k3 : k < 3 := by omega
  obtain ⟨x, s4, e4, x1, h4⟩ := r_pick (R := R ++ [.dct []]) (xs := [.non, .bl true, .str "1", .tup [.int 1, .int 1]]) h3 (by omega) (by simp) (show 4 ≤ 1000 by decide)
  obtain ⟨y, s5, e5, y1, h5⟩ := r_pick (R := R ++ [.dct []]) (xs := [.int 0, .non, .bl false]) h4 (by omega) (by simp) (show 3 ≤ 1000 by decide)
  obtain ⟨s4', s5', s6', s9', eO⟩ := bO_loop (M := mm s3 R) (it := ⟨[D.non, .lst (a.map qd), .tup ((a.map qd).take 2), .tup (a.map qd ++ [.tup [.int 1, .int 1]]), .tup []], []⟩) depOk_nil a1 va k k3 (r0 := .val (.ref 1)) (r1 := .val (.cl 2)) (r7 := .val bad) _ .none .none .none .none (odd_ok a1 sa)
  have hU : ∀ d ∈ [D.non, .lst [], .lst [vD a, vD a], .ref (mm s3 R).length, .lst [vD a, vD a, vD a, vD a, vD a, vD a]], UnV a (mm s3 (R ++ [.dct []])) d := fun d hd => by
    have n1 : ∀ rows : List D, trees rows = true → rows.length ≠ a.length → UnV a (mm s3 (R ++ [.dct []])) (.lst rows) := fun rows ht hl => ⟨bel_2 tree_vD (by rw [tree]; exact ht), comb_badL (va _) hl⟩
    simp only [List.mem_cons, List.not_mem_nil, or_false] at hd
    rcases hd with rfl | rfl | rfl | rfl | rfl
    · exact ⟨bel_2 tree_vD rfl, comb_badN (va _) rfl⟩
    · exact n1 _ rfl (by rw [a1]; decide)
    · exact n1 _ (by rw [trees, trees, tree_vD]; rfl) (by rw [a1]; show 2 ≠ 3; decide)
    · refine ⟨?_, comb_badN (va _) (isi_dct (ks := []) ?_)⟩
      · rw [belows, belows, below_tree _ tree_vD]
        show (true && (decide ((mm s3 R).length < (mm s3 (R ++ [.dct []])).length) && true)) = true
        rw [decide_eq_true (by rw [mm_len, mm_len, List.length_append]; show _ < _ + 1 + 2; omega)]
        rfl
      · rw [mm_len]
        show (R ++ [Ob.dct []])[R.length]? = _
        rw [List.getElem?_append_right (Nat.le_refl _), Nat.sub_self]
        rfl
    · exact n1 _ (by rw [trees, trees, trees, trees, trees, trees, tree_vD]; rfl) (by rw [a1]; show 6 ≠ 3; decide)
  obtain ⟨u5, u9, eU⟩ := bU_loop (M := mm s3 (R ++ [.dct []])) (it := ⟨[D.non, .lst [], .lst [vD a, vD a], .ref (mm s3 R).length, .lst [vD a, vD a, vD a, vD a, vD a, vD a]], []⟩) depOk_nil (a := a) (r0 := .val (.ref 1)) (r1 := .val (.cl 2)) (r2 := .val (.lst [vD a, vD a, vD a])) (r3 := .val (.int (k : Nat))) (r4 := s4') (r6 := s6') (r7 := .val bad) _ s5' s9' hU
  have v4 : f_is_whole [x] (mm s4 (R ++ [.dct []])) = .ok (.bl false) (mm s4 (R ++ [.dct []])) ∧ tree x = true := by
    simp only [List.mem_cons, List.not_mem_nil, or_false] at x1
    rcases x1 with rfl | rfl | rfl | rfl <;> exact ⟨r_wh rfl, rfl⟩
  have v5 : f_ratio [.int 4, y] (mm s5 (R ++ [.dct []])) = .err "BadNumber" ["part"] [.str "d"] (mm s5 (R ++ [.dct []])) ∧ tree y = true := by
    simp only [List.mem_cons, List.not_mem_nil, or_false] at y1
    rcases y1 with rfl | rfl | rfl
    · exact ⟨ratio_0, rfl⟩
    · exact ⟨ratio_d (r_wh rfl), rfl⟩
    · exact ⟨ratio_d (r_wh rfl), rfl⟩
  have h3w : ∀ r1, bd__law_refused 3 [.val (.ref 1), r1, .none, .none, .none, .none, .none, .val bad, .val (vD a), .none] (mm s2 R) = .err "BadWidth" [] [] (mm s2 R) := fun r1 => by
    have t1 : fTup (mm s2 R) [.int 1, .int 1] = some (.tup [.int 1, .int 1]) := rfl
    have t2 : fTup (mm s2 R) [.tup [.int 1, .int 1]] = some (.tup [.tup [.int 1, .int 1]]) := rfl
    have ad : fAdd (mm s2 R) (vD a) (.tup [.tup [.int 1, .int 1]]) = some (vD (a ++ [1])) := by
      have := fAdd_t (M := mm s2 R) (a := a.map qd) (b := [.tup [.int 1, .int 1]]) (by rw [List.length_map, a1]; decide)
      unfold vD
      rw [this, List.map_append]
      rfl
    have hw := inner_wide (M := mm s2 R) (a := a) (b := a ++ [1]) sa (fun r hr => by
      rcases List.mem_append.mp hr with hr | hr
      · exact sa r hr
      · rw [List.mem_singleton.mp hr]; exact ⟨show (1 : Nat) < 2 ^ 20 by decide, show (1 : Nat) < 2 ^ 20 by decide⟩) (by omega) (by omega) (by rw [List.length_append]; show 1 ≤ _ + 1; omega) (by rw [List.length_append, a1]; decide) (by rw [List.length_append]; show _ ≠ _ + 1; omega)
    show cCallC f_inner (cCons (cVar 8) (cCons (cBin fAdd (cVar 8) (cFn fTup (cCons (cFn fTup (cCons (cC (.int 1)) (cCons (cC (.int 1)) cNil))) cNil))) cNil)) _ _ = _
    simp only [eC, eVar, eVar2, eBin, eBin2, eBin3, eUn, eUn2, eNil, eCons, eCons2, eCons3, eFn, eFn2, eTst, eTst2, eIf, eIf_t, eIf_f, eAnd, eAnd_t, eAnd_f, eOr, eOr_t, eOr_f, eNot, eNot2, eCall, eCall2, eCallC, eSl, eSl2, eSl3, eSl4, eNo, ePart, ePart2, sNil_, sSeq_, sBrk_, sCnt_, sDrop_, sDrop2, sDropE, sRet_, sRet2, sRetE, sRetN_, sIf_, sIf_t, sIf_f, sSet_, sSet2, sSetE, setT_nm, setTs_nil, setTs_cons, optS_some, sPar2_, sPar22, sFor_, sFor2, cIter_, cIter_t, cIter_l, cIter_s, cItL_, cItL2, sRaise_, runF_, endR_nx, endR_rt, endR_err, opt_some, seq_nx, seq_rt, seq_bk, seq_ct, seq_err, startE, List.map_cons, List.map_nil, List.length_cons, List.length_nil, List.replicate_succ, List.replicate_zero, List.cons_append, List.nil_append, List.append_nil, List.getElem?_cons_zero, List.getElem?_cons_succ, List.set_cons_zero, List.set_cons_succ, Option.bind_some, Option.map_some, Nat.reduceAdd, Nat.reduceSub, fAdd_int, fSub_int, fNeg_int, gGcd_int, fGt_int, fLt_int, fLe_int, fTup2, t1, t2, ad, eCallC2 (bel_2 tree_vD tree_vD), hw]
  have h6 : ∀ r1 r2 r3 r4 r5 r6 r7 r8 r9, bd__law_refused 6 [.val (.ref 1), r1, r2, r3, r4, r5, r6, r7, r8, r9] (mm s3 (R ++ [.dct []])) = .err "BadNumber" ["part"] [.str "n"] (mm s4 (R ++ [.dct []])) := fun r1 r2 r3 r4 r5 r6 r7 r8 r9 => by
    have t1 : fTup (mm s3 (R ++ [.dct []])) [.int 1, .int 1] = some (.tup [.int 1, .int 1]) := rfl
    have l4 : fLst (mm s3 (R ++ [.dct []])) [.non, .bl true, .str "1", .tup [.int 1, .int 1]] = some (.lst [.non, .bl true, .str "1", .tup [.int 1, .int 1]]) := fLst_le (show 4 ≤ 1000 by decide)
    show cCallC f_ratio (cCons (cCallC f__law_pick (cCons (cVar 0) (cCons (cFn fLst (cCons (cC .non) (cCons (cC (.bl true)) (cCons (cC (.str "1")) (cCons (cFn fTup (cCons (cC (.int 1)) (cCons (cC (.int 1)) cNil))) cNil))))) cNil))) (cCons (cC (.int 0)) cNil)) _ _ = _
    simp only [eC, eVar, eVar2, eBin, eBin2, eBin3, eUn, eUn2, eNil, eCons, eCons2, eCons3, eFn, eFn2, eTst, eTst2, eIf, eIf_t, eIf_f, eAnd, eAnd_t, eAnd_f, eOr, eOr_t, eOr_f, eNot, eNot2, eCall, eCall2, eCallC, eSl, eSl2, eSl3, eSl4, eNo, ePart, ePart2, sNil_, sSeq_, sBrk_, sCnt_, sDrop_, sDrop2, sDropE, sRet_, sRet2, sRetE, sRetN_, sIf_, sIf_t, sIf_f, sSet_, sSet2, sSetE, setT_nm, setTs_nil, setTs_cons, optS_some, sPar2_, sPar22, sFor_, sFor2, cIter_, cIter_t, cIter_l, cIter_s, cItL_, cItL2, sRaise_, runF_, endR_nx, endR_rt, endR_err, opt_some, seq_nx, seq_rt, seq_bk, seq_ct, seq_err, startE, List.map_cons, List.map_nil, List.length_cons, List.length_nil, List.replicate_succ, List.replicate_zero, List.cons_append, List.nil_append, List.append_nil, List.getElem?_cons_zero, List.getElem?_cons_succ, List.set_cons_zero, List.set_cons_succ, Option.bind_some, Option.map_some, Nat.reduceAdd, Nat.reduceSub, fAdd_int, fSub_int, fNeg_int, gGcd_int, fGt_int, fLt_int, fLe_int, fTup2, t1, l4, eCallC2 (bel_r (s := s3) (R := R ++ [.dct []]) (xs := [.lst [.non, .bl true, .str "1", .tup [.int 1, .int 1]]]) rfl), e4, eCallC2 (bel_2 v4.2 (show tree (.int 0) = true from rfl)), ratio_n v4.1]
  have h7 : ∀ r1 r2 r3 r4 r5 r6 r7 r8 r9, bd__law_refused 7 [.val (.ref 1), r1, r2, r3, r4, r5, r6, r7, r8, r9] (mm s4 (R ++ [.dct []])) = .err "BadNumber" ["part"] [.str "d"] (mm s5 (R ++ [.dct []])) := fun r1 r2 r3 r4 r5 r6 r7 r8 r9 => by
    have l3 : fLst (mm s4 (R ++ [.dct []])) [.int 0, .non, .bl false] = some (.lst [.int 0, .non, .bl false]) := fLst_le (show 3 ≤ 1000 by decide)
    show cCallC f_ratio (cCons (cC (.int 4)) (cCons (cCallC f__law_pick (cCons (cVar 0) (cCons (cFn fLst (cCons (cC (.int 0)) (cCons (cC .non) (cCons (cC (.bl false)) cNil)))) cNil))) cNil)) _ _ = _
    simp only [eC, eVar, eVar2, eBin, eBin2, eBin3, eUn, eUn2, eNil, eCons, eCons2, eCons3, eFn, eFn2, eTst, eTst2, eIf, eIf_t, eIf_f, eAnd, eAnd_t, eAnd_f, eOr, eOr_t, eOr_f, eNot, eNot2, eCall, eCall2, eCallC, eSl, eSl2, eSl3, eSl4, eNo, ePart, ePart2, sNil_, sSeq_, sBrk_, sCnt_, sDrop_, sDrop2, sDropE, sRet_, sRet2, sRetE, sRetN_, sIf_, sIf_t, sIf_f, sSet_, sSet2, sSetE, setT_nm, setTs_nil, setTs_cons, optS_some, sPar2_, sPar22, sFor_, sFor2, cIter_, cIter_t, cIter_l, cIter_s, cItL_, cItL2, sRaise_, runF_, endR_nx, endR_rt, endR_err, opt_some, seq_nx, seq_rt, seq_bk, seq_ct, seq_err, startE, List.map_cons, List.map_nil, List.length_cons, List.length_nil, List.replicate_succ, List.replicate_zero, List.cons_append, List.nil_append, List.append_nil, List.getElem?_cons_zero, List.getElem?_cons_succ, List.set_cons_zero, List.set_cons_succ, Option.bind_some, Option.map_some, Nat.reduceAdd, Nat.reduceSub, fAdd_int, fSub_int, fNeg_int, gGcd_int, fGt_int, fLt_int, fLe_int, fTup2, l3, eCallC2 (bel_r (s := s4) (R := R ++ [.dct []]) (xs := [.lst [.int 0, .non, .bl false]]) rfl), e5, eCallC2 (bel_2 (show tree (.int 4) = true from rfl) v5.2), v5.1]
  have c3 := fun r1 => caught_k (k := 3) rfl (h3w r1) rfl
  have c6 := fun r1 r2 r3 r4 r5 r6 r7 r8 r9 => caught_k (k := 6) rfl (h6 r1 r2 r3 r4 r5 r6 r7 r8 r9) rfl
  have c7 := fun r1 r2 r3 r4 r5 r6 r7 r8 r9 => caught_k (k := 7) rfl (h7 r1 r2 r3 r4 r5 r6 r7 r8 r9) rfl
  have hA := bA_loop (M := mm s2 R) a1 sa tb vb (r0 := .val (.ref 1)) (r1 := .none) (r2 := .none) (r3 := .none) (r4 := .none) (r5 := .none) (r6 := .none) (r9 := .none)
  refine ⟨s5, ?_, h5.mono (by omega)⟩
  unfold f__law_refused
  rw [runCT_]
  have key : endR (b__law_refused (startE 10 [.ref 1]) (mm s R)) = .ok (.bl true) (mm s5 (R ++ [.dct []])) := by
    unfold bA at hA
    unfold bO at eO
    unfold bU at eU
    have t1 : ∀ {M : Mem} {x : D}, fTup M [x] = some (.tup [x]) := if_pos (Nat.le_trans (show 1 ≤ 1000 by decide) (by decide +kernel))
    have t0 : ∀ {M : Mem}, fTup M [] = some (.tup []) := rfl
    have l1 : ∀ {M : Mem} {x : D}, fLst M [x] = some (.lst [x]) := fLst_le (show 1 ≤ 1000 by decide)
    have l3 : ∀ {M : Mem} {x y z : D}, fLst M [x, y, z] = some (.lst [x, y, z]) := fLst_le (show 3 ≤ 1000 by decide)
    have l5 : ∀ {M : Mem} {x y z u v : D}, fLst M [x, y, z, u, v] = some (.lst [x, y, z, u, v]) := fLst_le (show 5 ≤ 1000 by decide)
    have l6 : ∀ {M : Mem} {x y z u v w : D}, fLst M [x, y, z, u, v, w] = some (.lst [x, y, z, u, v, w]) := fLst_le (show 6 ≤ 1000 by decide)
    have gl : gList (mm s3 R) [vD a] = some (.lst (a.map qd)) := rfl
    have sl : fSl (mm s3 R) (vD a) none (some 2) = some (.tup ((a.map qd).take 2)) := by
      show some (D.tup (DI.cutD (a.map qd) none (some ((2 : Nat) : Int)))) = _
      rw [cut0]
    have ad : fAdd (mm s3 R) (vD a) (.tup [.tup [.int 1, .int 1]]) = some (.tup (a.map qd ++ [.tup [.int 1, .int 1]])) := fAdd_t (by rw [List.length_map, a1]; decide)
    have ar : fAdd (mm s3 (R ++ [.dct []])) (.lst [vD a, vD a, vD a]) (.lst [vD a, vD a, vD a]) = some (.lst [vD a, vD a, vD a, vD a, vD a, vD a]) := fAdd_l (show 3 + 3 ≤ 1000 by decide)
    have hx : okAt "BadNumber" "BadNumber" = true := rfl
    unfold b__law_refused
    simp only [eC, eVar, eVar2, eBin, eBin2, eBin3, eUn, eUn2, eNil, eCons, eCons2, eCons3, eFn, eFn2, eTst, eTst2, eIf, eIf_t, eIf_f, eAnd, eAnd_t, eAnd_f, eOr, eOr_t, eOr_f, eNot, eNot2, eCall, eCall2, eCallC, eSl, eSl2, eSl3, eSl4, eNo, ePart, ePart2, sNil_, sSeq_, sBrk_, sCnt_, sDrop_, sDrop2, sDropE, sRet_, sRet2, sRetE, sRetN_, sIf_, sIf_t, sIf_f, sSet_, sSet2, sSetE, setT_nm, setTs_nil, setTs_cons, optS_some, sPar2_, sPar22, sFor_, sFor2, cIter_, cIter_t, cIter_l, cIter_s, cItL_, cItL2, sRaise_, runF_, endR_nx, endR_rt, endR_err, opt_some, seq_nx, seq_rt, seq_bk, seq_ct, seq_err, startE, List.map_cons, List.map_nil, List.length_cons, List.length_nil, List.replicate_succ, List.replicate_zero, List.cons_append, List.nil_append, List.append_nil, List.getElem?_cons_zero, List.getElem?_cons_succ, List.set_cons_zero, List.set_cons_succ, Option.bind_some, Option.map_some, Nat.reduceAdd, Nat.reduceSub, fAdd_int, fSub_int, fNeg_int, gGcd_int, fGt_int, fLt_int, fLe_int, fTup2, t0, t1, l1, l3, l6, eCallC2 (bel_r (s := s) (R := R) (xs := [.int 3, .int 9]) rfl), e1, eCallC2 (bel_r (s := s1) (R := R) (xs := [.lst [.non, .tup [], .lst [.tup [.int 1, .int 1]], .tup [.tup [.int 2, .int 4]], .int 5, .tup [.tup [.int 1, .int 1], .non]]]) rfl), e2, setT_t, eLam, hA, c3, isWid, Bool.not_true, eCallC2 (bel_r (s := s2) (R := R) (xs := [.int 3]) rfl), e3, gl, sl, ad, l5, eO, fLst_0, cut_c, eDict0, mm_app, ar, eU, c6, isNum, eExF, exF2_ok hx, fNe_n, c7, fEq_d]
  have hc : closeR (.ok (.bl true) (mm s5 (R ++ [.dct []]))) = .ok (.bl true) (mm s5 (R ++ [.dct []])) := by
    show (if below (mm s5 (R ++ [.dct []])).length (.bl true) = true then (Res.ok (.bl true) (mm s5 (R ++ [.dct []])) : Res D) else .stuck) = _
    exact if_pos (below_tree (.bl true) rfl)
  rw [key, hc]
  exact (finR_ok rfl).trans (by rw [mm_len, mm_take])
end K00

set_option Elab.async false
set_option linter.all false
set_option maxRecDepth 100000
set_option maxHeartbeats 4000000
namespace K00
open PySem PySem.Spec PyProof.Rows L2 DI
section
variable {M : Mem}
theorem gAbs_i {i : Int} : gAbs M [.int i] = some (.int ((i.natAbs : Nat) : Int)) := by
  show some (D.int (if i < 0 then -i else i)) = _
  rw [abs_if]
end
theorem bel_ints {n : Nat} : ∀ l : List Int, belows n (l.map D.int) = true
  | [] => rfl
  | i :: l => by rw [List.map_cons, belows, bel_ints l]; rfl
theorem fPow_18 {M : Mem} : fPow M (.int 10) (.int 18) = some (.int 1000000000000000000) := by
  unfold fPow
  exact if_pos ⟨by decide, by decide, by decide⟩
theorem fGe_int {M : Mem} {x y : Int} : fGe M (.int x) (.int y) = some (.bl (decide (y ≤ x))) := rfl
theorem r_begun {ns : List Int} (h : ns.length ≤ 63) : ∃ s : Dr, f__law_begun [.scr ns] [] = .ok (.ref 1) (mm s []) ∧ s.Ok 0 := by
  refine ⟨⟨(ns.filter fun n => decide ((1000000000000000000 : Int) ≤ ((n.natAbs : Nat) : Int))).map fun n => ((n.natAbs : Nat) : Int) - 1000000000000000000, ns.map fun n => ((n.natAbs : Nat) : Int), 0, 0⟩, ?_, ⟨?_, ?_, Int.le_refl _, Int.le_refl _, Int.le_refl _⟩⟩
  · have m1 := lcL_of (M := []) (env := [.val (.scr ns), .none, .none]) (it := ⟨ns.map D.int, []⟩) (t := .nm 2) (c := (cTst (cBin fGe (cFn gAbs (cCons (cVar 2) cNil)) (cBin fPow (cC (.int 10)) (cC (.int 18)))))) (e := (cBin fSub (cFn gAbs (cCons (cVar 2) cNil)) (cBin fPow (cC (.int 10)) (cC (.int 18))))) D.int (fun n => .int (((n.natAbs : Nat) : Int) - 1000000000000000000)) (fun n => decide ((1000000000000000000 : Int) ≤ ((n.natAbs : Nat) : Int))) depOk_nil ns [] (fun n hn => ⟨_, setT_nm, by simp only [eC, eVar, eVar2, eBin, eBin2, eBin3, eUn, eUn2, eNil, eCons, eCons2, eCons3, eFn, eFn2, eTst, eTst2, eIf, eIf_t, eIf_f, eAnd, eAnd_t, eAnd_f, eOr, eOr_t, eOr_f, eNot, eNot2, eCall, eCall2, eCallC, eSl, eSl2, eSl3, eSl4, eNo, ePart, ePart2, sNil_, sSeq_, sBrk_, sCnt_, sDrop_, sDrop2, sDropE, sRet_, sRet2, sRetE, sRetN_, sIf_, sIf_t, sIf_f, sSet_, sSet2, sSetE, setT_nm, setTs_nil, setTs_cons, optS_some, sPar2_, sPar22, sFor_, sFor2, cIter_, cIter_t, cIter_l, cIter_s, cItL_, cItL2, sRaise_, runF_, endR_nx, endR_rt, endR_err, opt_some, seq_nx, seq_rt, seq_bk, seq_ct, seq_err, startE, List.map_cons, List.map_nil, List.length_cons, List.length_nil, List.replicate_succ, List.replicate_zero, List.cons_append, List.nil_append, List.append_nil, List.getElem?_cons_zero, List.getElem?_cons_succ, List.set_cons_zero, List.set_cons_succ, Option.bind_some, Option.map_some, Nat.reduceAdd, Nat.reduceSub, fAdd_int, fSub_int, fNeg_int, gGcd_int, fGt_int, fLt_int, fLe_int, fTup2, gAbs_i, fPow_18, fGe_int], fun _ => by simp only [eC, eVar, eVar2, eBin, eBin2, eBin3, eUn, eUn2, eNil, eCons, eCons2, eCons3, eFn, eFn2, eTst, eTst2, eIf, eIf_t, eIf_f, eAnd, eAnd_t, eAnd_f, eOr, eOr_t, eOr_f, eNot, eNot2, eCall, eCall2, eCallC, eSl, eSl2, eSl3, eSl4, eNo, ePart, ePart2, sNil_, sSeq_, sBrk_, sCnt_, sDrop_, sDrop2, sDropE, sRet_, sRet2, sRetE, sRetN_, sIf_, sIf_t, sIf_f, sSet_, sSet2, sSetE, setT_nm, setTs_nil, setTs_cons, optS_some, sPar2_, sPar22, sFor_, sFor2, cIter_, cIter_t, cIter_l, cIter_s, cItL_, cItL2, sRaise_, runF_, endR_nx, endR_rt, endR_err, opt_some, seq_nx, seq_rt, seq_bk, seq_ct, seq_err, startE, List.map_cons, List.map_nil, List.length_cons, List.length_nil, List.replicate_succ, List.replicate_zero, List.cons_append, List.nil_append, List.append_nil, List.getElem?_cons_zero, List.getElem?_cons_succ, List.set_cons_zero, List.set_cons_succ, Option.bind_some, Option.map_some, Nat.reduceAdd, Nat.reduceSub, fAdd_int, fSub_int, fNeg_int, gGcd_int, fGt_int, fLt_int, fLe_int, fTup2, gAbs_i, fPow_18]⟩) (by rw [List.length_nil]; omega)
    rw [List.nil_append] at m1
    have m2 := fun (M : Mem) (a1 : Sl) => lcL_map (M := M) (env := [.val (.scr ns), a1, .none]) (it := ⟨ns.map D.int, []⟩) (t := .nm 2) (e := cFn gAbs (cCons (cVar 2) cNil)) D.int (fun n => .int ((n.natAbs : Nat) : Int)) depOk_nil ns (fun n hn => ⟨_, setT_nm, by simp only [eC, eVar, eVar2, eBin, eBin2, eBin3, eUn, eUn2, eNil, eCons, eCons2, eCons3, eFn, eFn2, eTst, eTst2, eIf, eIf_t, eIf_f, eAnd, eAnd_t, eAnd_f, eOr, eOr_t, eOr_f, eNot, eNot2, eCall, eCall2, eCallC, eSl, eSl2, eSl3, eSl4, eNo, ePart, ePart2, sNil_, sSeq_, sBrk_, sCnt_, sDrop_, sDrop2, sDropE, sRet_, sRet2, sRetE, sRetN_, sIf_, sIf_t, sIf_f, sSet_, sSet2, sSetE, setT_nm, setTs_nil, setTs_cons, optS_some, sPar2_, sPar22, sFor_, sFor2, cIter_, cIter_t, cIter_l, cIter_s, cItL_, cItL2, sRaise_, runF_, endR_nx, endR_rt, endR_err, opt_some, seq_nx, seq_rt, seq_bk, seq_ct, seq_err, startE, List.map_cons, List.map_nil, List.length_cons, List.length_nil, List.replicate_succ, List.replicate_zero, List.cons_append, List.nil_append, List.append_nil, List.getElem?_cons_zero, List.getElem?_cons_succ, List.set_cons_zero, List.set_cons_succ, Option.bind_some, Option.map_some, Nat.reduceAdd, Nat.reduceSub, fAdd_int, fSub_int, fNeg_int, gGcd_int, fGt_int, fLt_int, fLe_int, fTup2, gAbs_i]⟩) (by omega)
    have g1 : (List.map (fun n : Int => D.int (((n.natAbs : Nat) : Int) - 1000000000000000000)) (ns.filter fun n => decide ((1000000000000000000 : Int) ≤ ((n.natAbs : Nat) : Int)))) = ((ns.filter fun n => decide ((1000000000000000000 : Int) ≤ ((n.natAbs : Nat) : Int))).map fun n => ((n.natAbs : Nat) : Int) - 1000000000000000000).map D.int := by rw [List.map_map]; rfl
    have g2 : (List.map (fun n : Int => D.int ((n.natAbs : Nat) : Int)) ns) = (ns.map fun n => ((n.natAbs : Nat) : Int)).map D.int := by rw [List.map_map]; rfl
    rw [g1] at m1
    rw [g2] at m2
    generalize (ns.filter fun n => decide ((1000000000000000000 : Int) ≤ ((n.natAbs : Nat) : Int))).map (fun n => ((n.natAbs : Nat) : Int) - 1000000000000000000) = gr at *
    generalize ns.map (fun n => ((n.natAbs : Nat) : Int)) = cs at *
    have k1 : cLcM (cIter (cVar 0)) (.nm 2) (cTst (cBin fGe (cFn gAbs (cCons (cVar 2) cNil)) (cBin fPow (cC (.int 10)) (cC (.int 18))))) (cBin fSub (cFn gAbs (cCons (cVar 2) cNil)) (cBin fPow (cC (.int 10)) (cC (.int 18)))) [2] [.val (.scr ns), .none, .none] [] = .ok (.ref 0) [.lst (gr.map D.int)] := by
      unfold cLcM
      have : cIter (cVar 0) [.val (.scr ns), .none, .none] [] = .ok ⟨ns.map D.int, []⟩ [] := by simp only [eC, eVar, eVar2, eBin, eBin2, eBin3, eUn, eUn2, eNil, eCons, eCons2, eCons3, eFn, eFn2, eTst, eTst2, eIf, eIf_t, eIf_f, eAnd, eAnd_t, eAnd_f, eOr, eOr_t, eOr_f, eNot, eNot2, eCall, eCall2, eCallC, eSl, eSl2, eSl3, eSl4, eNo, ePart, ePart2, sNil_, sSeq_, sBrk_, sCnt_, sDrop_, sDrop2, sDropE, sRet_, sRet2, sRetE, sRetN_, sIf_, sIf_t, sIf_f, sSet_, sSet2, sSetE, setT_nm, setTs_nil, setTs_cons, optS_some, sPar2_, sPar22, sFor_, sFor2, cIter_, cIter_t, cIter_l, cIter_s, cItL_, cItL2, sRaise_, runF_, endR_nx, endR_rt, endR_err, opt_some, seq_nx, seq_rt, seq_bk, seq_ct, seq_err, startE, List.map_cons, List.map_nil, List.length_cons, List.length_nil, List.replicate_succ, List.replicate_zero, List.cons_append, List.nil_append, List.append_nil, List.getElem?_cons_zero, List.getElem?_cons_succ, List.set_cons_zero, List.set_cons_succ, Option.bind_some, Option.map_some, Nat.reduceAdd, Nat.reduceSub, fAdd_int, fSub_int, fNeg_int, gGcd_int, fGt_int, fLt_int, fLe_int, fTup2]
      rw [this, Res.bind_ok]
      rw [show wipeE [.val (.scr ns), .none, .none] [2] = [.val (.scr ns), .none, .none] from rfl, m1, Res.bind_ok, if_pos (bel_ints gr)]
      rfl
    have k2 : cLc (cIter (cVar 0)) (.nm 2) cYes (cFn gAbs (cCons (cVar 2) cNil)) [2] [.val (.scr ns), .val (.ref 0), .none] [.lst (gr.map D.int)] = .ok (.lst (cs.map D.int)) [.lst (gr.map D.int)] := by
      simp only [eC, eVar, eVar2, eBin, eBin2, eBin3, eUn, eUn2, eNil, eCons, eCons2, eCons3, eFn, eFn2, eTst, eTst2, eIf, eIf_t, eIf_f, eAnd, eAnd_t, eAnd_f, eOr, eOr_t, eOr_f, eNot, eNot2, eCall, eCall2, eCallC, eSl, eSl2, eSl3, eSl4, eNo, ePart, ePart2, sNil_, sSeq_, sBrk_, sCnt_, sDrop_, sDrop2, sDropE, sRet_, sRet2, sRetE, sRetN_, sIf_, sIf_t, sIf_f, sSet_, sSet2, sSetE, setT_nm, setTs_nil, setTs_cons, optS_some, sPar2_, sPar22, sFor_, sFor2, cIter_, cIter_t, cIter_l, cIter_s, cItL_, cItL2, sRaise_, runF_, endR_nx, endR_rt, endR_err, opt_some, seq_nx, seq_rt, seq_bk, seq_ct, seq_err, startE, List.map_cons, List.map_nil, List.length_cons, List.length_nil, List.replicate_succ, List.replicate_zero, List.cons_append, List.nil_append, List.append_nil, List.getElem?_cons_zero, List.getElem?_cons_succ, List.set_cons_zero, List.set_cons_succ, Option.bind_some, Option.map_some, Nat.reduceAdd, Nat.reduceSub, fAdd_int, fSub_int, fNeg_int, gGcd_int, fGt_int, fLt_int, fLe_int, fTup2, eLc, eLc2, eLc3, wipe_nil, wipe_cons, m2]
    have k3 : cDisp [((cC (.str "great")), (cVar 1)), ((cC (.str "cells")), (cLc (cIter (cVar 0)) (.nm 2) cYes (cFn gAbs (cCons (cVar 2) cNil)) [2])), ((cC (.str "rest")), (cC (.int 0))), ((cC (.str "turn")), (cC (.int 0)))] [.val (.scr ns), .val (.ref 0), .none] [.lst (gr.map D.int)] = .ok (.ref 1) (mm ⟨gr, cs, 0, 0⟩ []) := by
      have p : cPairs [((cC (.str "great")), (cVar 1)), ((cC (.str "cells")), (cLc (cIter (cVar 0)) (.nm 2) cYes (cFn gAbs (cCons (cVar 2) cNil)) [2])), ((cC (.str "rest")), (cC (.int 0))), ((cC (.str "turn")), (cC (.int 0)))] [.val (.scr ns), .val (.ref 0), .none] [.lst (gr.map D.int)] = .ok [(.str "great", .ref 0), (.str "cells", .lst (cs.map D.int)), (.str "rest", .int 0), (.str "turn", .int 0)] [.lst (gr.map D.int)] := by
        simp only [cPairs, eC, eVar, eVar2, eBin, eBin2, eBin3, eUn, eUn2, eNil, eCons, eCons2, eCons3, eFn, eFn2, eTst, eTst2, eIf, eIf_t, eIf_f, eAnd, eAnd_t, eAnd_f, eOr, eOr_t, eOr_f, eNot, eNot2, eCall, eCall2, eCallC, eSl, eSl2, eSl3, eSl4, eNo, ePart, ePart2, sNil_, sSeq_, sBrk_, sCnt_, sDrop_, sDrop2, sDropE, sRet_, sRet2, sRetE, sRetN_, sIf_, sIf_t, sIf_f, sSet_, sSet2, sSetE, setT_nm, setTs_nil, setTs_cons, optS_some, sPar2_, sPar22, sFor_, sFor2, cIter_, cIter_t, cIter_l, cIter_s, cItL_, cItL2, sRaise_, runF_, endR_nx, endR_rt, endR_err, opt_some, seq_nx, seq_rt, seq_bk, seq_ct, seq_err, startE, List.map_cons, List.map_nil, List.length_cons, List.length_nil, List.replicate_succ, List.replicate_zero, List.cons_append, List.nil_append, List.append_nil, List.getElem?_cons_zero, List.getElem?_cons_succ, List.set_cons_zero, List.set_cons_succ, Option.bind_some, Option.map_some, Nat.reduceAdd, Nat.reduceSub, fAdd_int, fSub_int, fNeg_int, gGcd_int, fGt_int, fLt_int, fLe_int, fTup2, k2, Res.bind_ok]
      unfold cDisp
      rw [p, Res.bind_ok]
      show (if _ then _ else _) = _
      rw [if_pos ⟨show 4 ≤ 15 by decide, by
        show (true && (below 1 (.lst (cs.map D.int)) && (true && (true && true)))) = true
        rw [below, bel_ints]
        rfl⟩]
      rfl
    unfold f__law_begun b__law_begun
    rw [runF_, show startE 3 [.scr ns] = [.val (.scr ns), .none, .none] from rfl, sSeq_, sSet_, k1, sSet2, setT_nm, optS_some]
    show endR (sRet _ [.val (.scr ns), .val (.ref 0), .none] _) = _
    rw [sRet_, k3, sRet2, endR_rt]
  · intro x hx
    obtain ⟨n, hn, rfl⟩ := List.mem_map.mp hx
    have := of_decide_eq_true (List.mem_filter.mp hn).2
    omega
  · intro x hx
    obtain ⟨n, hn, rfl⟩ := List.mem_map.mp hx
    omega


noncomputable def bL : EvS := (sSeq (sSet (.nm 4) (cCall f__law_near (cCons (cVar 1) cNil))) (sIf (cOr (cNot (cCall f__law_is_truth (cCons (cCall f_is_ratio (cCons (cVar 4) cNil)) (cCons (cCall f__law_is_ratio (cCons (cVar 4) cNil)) cNil)))) (cBin fNe (cCallKC f_is_ratio [0] cNil (cCons (cVar 4) cNil)) (cCall f__law_is_ratio (cCons (cVar 4) cNil)))) (sRet (cC (.bl false))) sNil))
theorem bL_loop {it : ItD} (hit : it.deps = []) {R : Mem} {a0 a2 a5 a6 a7 a8 a9 : Sl} : ∀ (ds : List D) (s : Dr) (t : Nat) (r3 r4 : Sl), s.Ok t → t + 3 * ds.length < 2 ^ 39 →
    ∃ s' s3 s4, forL it (.nm 3) bL ds [a0, .val (.ref 1), a2, r3, r4, a5, a6, a7, a8, a9] (mm s R) = .nx [a0, .val (.ref 1), a2, s3, s4, a5, a6, a7, a8, a9] (mm s' R) ∧ s'.Ok (t + 3 * ds.length)
  | [], s, t, r3, r4, h, _ => ⟨s, r3, r4, forL_nil (by unfold DepOk; rw [hit]; exact (fun p hp => nomatch hp)), h⟩
  | d :: ds, s, t, r3, r4, h, ht => by
    rw [List.length_cons] at ht
    obtain ⟨x, s1, e1, tx, ⟨b, rb⟩, h1⟩ := r_near (R := R) h (by omega)
    obtain ⟨s', s3, s4, e2, h2⟩ := bL_loop hit (R := R) (a0 := a0) (a2 := a2) (a5 := a5) (a6 := a6) (a7 := a7) (a8 := a8) (a9 := a9) ds s1 (t + 3) (.val d) (.val x) h1 (by omega)
    have hb : belows (mm s1 R).length [x] = true := by rw [belows, below_tree x tx]; rfl
    have hn : fNe (mm s1 R) (.bl b) (.bl b) = some (.bl false) := by cases b <;> rfl
    refine ⟨s', s3, s4, ?_, by rw [List.length_cons]; exact (show t + 3 * (ds.length + 1) = t + 3 + 3 * ds.length by omega) ▸ h2⟩
    have e0 : bL [a0, .val (.ref 1), a2, .val d, r4, a5, a6, a7, a8, a9] (mm s R) = .nx [a0, .val (.ref 1), a2, .val d, .val x, a5, a6, a7, a8, a9] (mm s1 R) := by
      unfold bL
      simp only [eC, eVar, eVar2, eBin, eBin2, eBin3, eUn, eUn2, eNil, eCons, eCons2, eCons3, eFn, eFn2, eTst, eTst2, eIf, eIf_t, eIf_f, eAnd, eAnd_t, eAnd_f, eOr, eOr_t, eOr_f, eNot, eNot2, eCall, eCall2, eCallC, eSl, eSl2, eSl3, eSl4, eNo, ePart, ePart2, sNil_, sSeq_, sBrk_, sCnt_, sDrop_, sDrop2, sDropE, sRet_, sRet2, sRetE, sRetN_, sIf_, sIf_t, sIf_f, sSet_, sSet2, sSetE, setT_nm, setTs_nil, setTs_cons, optS_some, sPar2_, sPar22, sFor_, sFor2, cIter_, cIter_t, cIter_l, cIter_s, cItL_, cItL2, sRaise_, runF_, endR_nx, endR_rt, endR_err, opt_some, seq_nx, seq_rt, seq_bk, seq_ct, seq_err, startE, List.map_cons, List.map_nil, List.length_cons, List.length_nil, List.replicate_succ, List.replicate_zero, List.cons_append, List.nil_append, List.append_nil, List.getElem?_cons_zero, List.getElem?_cons_succ, List.set_cons_zero, List.set_cons_succ, Option.bind_some, Option.map_some, Nat.reduceAdd, Nat.reduceSub, fAdd_int, fSub_int, fNeg_int, gGcd_int, fGt_int, fLt_int, fLe_int, fTup2, e1, rb.f, rb.l, truth_bb, Bool.not_true, eCallKC, eCallK2, eCallK_1 hb, hn]
    rw [forL_cons (by unfold DepOk; rw [hit]; exact (fun p hp => nomatch hp)), setT_nm]
    simp only [optS_some, seq_nx, List.set_cons_succ, List.set_cons_zero, e0]
    rw [turn_nx, e2]
/-! ### the words that are tried -/
theorem lt_of_let {w : Str} (h : ∀ c ∈ w.cps.toList, c ∈ LET) : ∀ c ∈ w.cps.toList, c < 0x110000 := fun c hc => by
  have := let_lt (h c hc)
  omega
theorem rep_mem (a : Array Nat) : ∀ (n : Nat) (acc : Array Nat), ∀ c ∈ ((List.replicate n a).foldl (· ++ ·) acc).toList, c ∈ acc.toList ∨ c ∈ a.toList
  | 0, acc, c, hc => .inl hc
  | n + 1, acc, c, hc => by
    rw [List.replicate_succ, List.foldl_cons] at hc
    rcases rep_mem a n _ c hc with h | h
    · rw [Array.toList_append, List.mem_append] at h
      exact h
    · exact .inr h
theorem rep_len (a : Array Nat) : ∀ (n : Nat) (acc : Array Nat), ((List.replicate n a).foldl (· ++ ·) acc).size = acc.size + n * a.size
  | 0, acc => by simp
  | n + 1, acc => by
    rw [List.replicate_succ, List.foldl_cons, rep_len a n, Array.size_append, Nat.succ_mul]
    omega
end K00

set_option Elab.async false
set_option linter.all false
set_option maxRecDepth 100000
set_option maxHeartbeats 4000000
namespace K00
open PySem PySem.Spec PyProof.Rows L2 DI
section
variable {M : Mem}
theorem len_tl (z : Str) : z.cps.toList.length = z.length := rfl
theorem words_ok {w : Str} (hw : Wd1 w) : ∀ d ∈ [D.str w, .str (w ++ "A"), .str (strRep w 9), .str "", .tup [.str w], .non, .str (cutS w none (some 1) ++ " "), .str (Txt.upper w)], ∃ b, WdV d b := by
  have hl := hw.len
  have hc := lt_of_let hw.let_
  have happ : ∀ (a b : Str), a.length ≤ 1000 → b.length ≤ 1000 → (∀ c ∈ a.cps.toList, c < 0x110000) → (∀ c ∈ b.cps.toList, c < 0x110000) → ∃ t, WdV (.str (a ++ b)) t := fun a b h1 h2 h3 h4 => ⟨_, WdV.str (by show (a.cps ++ b.cps).size ≤ _; rw [Array.size_append]; have h1 : a.cps.size ≤ 1000 := h1; have h2 : b.cps.size ≤ 1000 := h2; omega) (fun c hc => by
    have hc : c ∈ (a.cps ++ b.cps).toList := hc
    rw [Array.toList_append, List.mem_append] at hc
    exact hc.elim (h3 c) (h4 c))⟩
  intro d hd
  simp only [List.mem_cons, List.not_mem_nil, or_false] at hd
  rcases hd with rfl | rfl | rfl | rfl | rfl | rfl | rfl | rfl
  · exact ⟨_, WdV.str (by omega) hc⟩
  · exact happ w "A" (by omega) (by decide) hc (by decide)
  · refine ⟨_, WdV.str ?_ fun c h => ?_⟩
    · show ((List.replicate 9 w.cps).foldl (· ++ ·) #[]).size ≤ _
      rw [rep_len]
      have hl : w.cps.size ≤ 8 := hl
      show 0 + 9 * w.cps.size ≤ _
      omega
    · rcases rep_mem w.cps 9 #[] c h with h | h
      · exact nomatch h
      · exact hc c h
  · exact ⟨_, WdV.str (by decide) (by decide)⟩
  · exact ⟨_, WdV.not fun M => rfl⟩
  · exact ⟨_, WdV.not fun M => rfl⟩
  · refine happ _ " " ?_ (by decide) (fun c h => ?_) (by decide)
    · show (List.toArray _).size ≤ _
      rw [List.size_toArray, List.length_take, List.length_drop]
      have : w.cps.toList.length ≤ 8 := hl
      omega
    · have h : c ∈ ((w.cps.toList.drop (HT.sIx w.length 0 none)).take (HT.sIx w.length w.length (some 1) - HT.sIx w.length 0 none)) := h
      exact hc c (List.mem_of_mem_drop (List.mem_of_mem_take h))
  · have e := SX.upper_S (a := w.cps.toList) (List.all_eq_true.mpr fun c h => decide_eq_true (let_lt (hw.let_ c h)))
    have e2 : SX.S w.cps.toList = w := SX.S_tl w
    rw [e2] at e
    rw [e]
    refine ⟨_, WdV.str ?_ fun c h => ?_⟩
    · show (List.toArray _).size ≤ _
      rw [List.size_toArray, List.length_map]
      have : w.cps.toList.length ≤ 8 := hl
      omega
    · have h : c ∈ w.cps.toList.map PyProof.Rows.up1 := h
      obtain ⟨x, hx, rfl⟩ := List.mem_map.mp h
      have : ∀ x ∈ LET, PyProof.Rows.up1 x < 0x110000 := by decide
      exact this x (hw.let_ x hx)
end
end K00

set_option Elab.async false
set_option linter.all false
set_option maxRecDepth 100000
set_option maxHeartbeats 4000000
namespace K00
open PySem PySem.Spec PyProof.Rows L2 DI
noncomputable def bT : EvS := (sSeq (sFor (cItL (fun _ => itR1) (cCons (cC (.int 6)) cNil)) (.nm 3) bL) (sSeq (sPar2 5 6 (cCons (cBin fSub (cCall f__law_draw (cCons (cVar 1) (cCons (cBin fPow (cC (.int 10)) (cC (.int 15))) cNil))) (cBin fPow (cC (.int 10)) (cC (.int 14)))) (cCons (cBin fSub (cCall f__law_draw (cCons (cVar 1) (cCons (cBin fPow (cC (.int 10)) (cC (.int 15))) cNil))) (cBin fMul (cC (.int 5)) (cBin fPow (cC (.int 10)) (cC (.int 14))))) cNil))) (sSeq (sIf (cAnd (cBin fNe (cVar 6) (cC (.int 0))) (cOr (cNot (cCall f__law_same (cCons (cCall f_ratio (cCons (cVar 5) (cCons (cVar 6) cNil))) (cCons (cCall f__law_q (cCons (cVar 5) (cCons (cVar 6) cNil))) cNil)))) (cBin fNe (cCallKC f_ratio [1, 0] cNil (cCons (cVar 6) (cCons (cVar 5) cNil))) (cCall f__law_q (cCons (cVar 5) (cCons (cVar 6) cNil)))))) (sRet (cC (.bl false))) sNil) (sSeq (sSet (.nm 7) (cBin fIx (cCall f__law_words (cCons (cVar 1) (cCons (cC (.int 1)) cNil))) (cC (.int 0)))) (sSeq (sFor (cIter (cFn fLst (cCons (cVar 7) (cCons (cBin fAdd (cVar 7) (cC (.str "A"))) (cCons (cBin fMul (cVar 7) (cC (.int 9))) (cCons (cC (.str "")) (cCons (cFn fTup (cCons (cVar 7) cNil)) (cCons (cC .non) (cCons (cBin fAdd (cSl (cVar 7) cNo (cPart (cC (.int 1)))) (cC (.str " "))) (cCons (cM "str" mUpper (cVar 7) cNil) cNil)))))))))) (.nm 4) bW) (sIf (cOr (cNot (cCall f__law_sums_right (cCons (cVar 1) cNil))) (cNot (cCall f__law_refused (cCons (cVar 1) cNil)))) (sRet (cC (.bl false))) sNil))))))
theorem b_law_eq : b_law = sSeq (sSet (.nm 1) (cCall f__law_begun (cCons (cVar 0) cNil))) (sSeq (sFor (cItL (fun _ => itR1) (cCons (cBin fAdd (cC (.int 2)) (cFn gMin (cCons (cFn gLen (cCons (cVar 0) cNil)) (cCons (cC (.int 5)) cNil)))) cNil)) (.nm 2) bT) (sRet (cC (.bl true)))) := rfl
theorem bT_ok {s : Dr} {t : Nat} {R : Mem} (h : s.Ok t) (ht : t + 6000 < 2 ^ 39) {a0 a2 r3 r4 r5 r6 r7 r8 r9 : Sl} : ∃ s' s3 s4 s5 s6 s7 s8, bT [a0, .val (.ref 1), a2, r3, r4, r5, r6, r7, r8, r9] (mm s R) = .nx [a0, .val (.ref 1), a2, s3, s4, s5, s6, s7, s8, r9] (mm s' R) ∧ s'.Ok (t + 6000) := by
  have hL6 : (rangeD 0 6).length = 6 := rangeD_len
  obtain ⟨s1, l3, l4, e1, h1⟩ := bL_loop (it := ⟨rangeD 0 6, []⟩) rfl (R := R) (a0 := a0) (a2 := a2) (a5 := r5) (a6 := r6) (a7 := r7) (a8 := r8) (a9 := r9) (rangeD 0 6) s t r3 r4 h (by rw [hL6]; omega)
  rw [hL6] at h1
  obtain ⟨n, s2, e2, n0, n1, h2⟩ := r_draw (R := R) (room := 1000000000000000) h1 (by omega) (by decide) (by decide)
  obtain ⟨d, s3, e3, d0, d1, h3⟩ := r_draw (R := R) (room := 1000000000000000) h2 (by omega) (by decide) (by decide)
  obtain ⟨w, s4, e4, w1, w2, h4⟩ := r_words1 (R := R) h3 (by omega)
  obtain ⟨u4, u8, e5⟩ := bW_loop (M := mm s4 R) (it := ⟨[D.str w, .str (w ++ "A"), .str (strRep w 9), .str "", .tup [.str w], .non, .str (cutS w none (some 1) ++ " "), .str (Txt.upper w)], []⟩) depOk_nil (a0 := a0) (a1 := .val (.ref 1)) (a2 := a2) (a3 := l3) (a5 := .val (.int (n - 100000000000000))) (a6 := .val (.int (d - 500000000000000))) (a7 := .val (.str w)) (a9 := r9) _ l4 r8 (words_ok w1)
  obtain ⟨s5, e6, h5⟩ := r_sums_right (R := R) h4 (by omega)
  obtain ⟨s6, e7, h6⟩ := r_refused (R := R) h5 (by omega)
  have r6' : ∀ M : Mem, opt (itR1 [.int 6]) M = .ok ⟨rangeD 0 6, []⟩ M := fun M => itR1_n (n := 6) (by decide)
  have m5 : ∀ M : Mem, fMul M (.int 5) (.int 100000000000000) = some (.int 500000000000000) := fun M => fMul_int (mulOk (a := 60) (b := 60) (sm_of (by decide) (by decide)) (sm_of (by decide) (by decide)) (by decide))
  have wl := w1.len
  have szl : ∀ a : Nat, a ≤ 100000 → a ≤ sizeLine := fun a ha => Nat.le_trans ha (by decide +kernel)
  have q1 : ∀ M : Mem, fAdd M (.str w) (.str "A") = some (.str (w ++ "A")) := fun M => (show (if w.length + ("A" : Str).length ≤ sizeLine then some (D.str (w ++ "A")) else none) = _ from if_pos (szl _ (by show _ + 1 ≤ _; omega)))
  have q2 : ∀ M : Mem, fMul M (.str w) (.int 9) = some (.str (strRep w 9)) := fun M => (show (if (1 : Int) ≤ 9 ∧ (9 : Int) ≤ 1000 ∧ w.length ≤ 1000 then some (D.str (strRep w 9)) else none) = _ from if_pos ⟨by decide, by decide, by omega⟩)
  have q3 : ∀ M : Mem, fSl M (.str w) none (some 1) = some (.str (cutS w none (some 1))) := fun M => (show (if w.length ≤ sizeLine then some (D.str (cutS w none (some 1))) else none) = _ from if_pos (szl _ (by omega)))
  have cl : (cutS w none (some 1)).length ≤ 8 := by
    show (List.toArray _).size ≤ _
    rw [List.size_toArray, List.length_take, List.length_drop]
    have : w.cps.toList.length ≤ 8 := wl
    omega
  have q4 : ∀ M : Mem, fAdd M (.str (cutS w none (some 1))) (.str " ") = some (.str (cutS w none (some 1) ++ " ")) := fun M => (show (if (cutS w none (some 1)).length + (" " : Str).length ≤ sizeLine then some (D.str (cutS w none (some 1) ++ " ")) else none) = _ from if_pos (szl _ (by show _ + 1 ≤ _; omega)))
  have q5 : ∀ M : Mem, mUpper M (.str w) [] = some (.str (Txt.upper w), M) := fun M => (show (if w.length ≤ 5592405 then some (D.str (Txt.upper w), M) else none) = _ from if_pos (by omega))
  have ty : ∀ M : Mem, tyM M (.str w) = some "str" := fun M => rfl
  have t1 : ∀ {M : Mem} {x : D}, fTup M [x] = some (.tup [x]) := if_pos (szl 1 (by decide))
  have l8 : ∀ {M : Mem} {x1 x2 x3 x4 x5 x6 x7 x8 : D}, fLst M [x1, x2, x3, x4, x5, x6, x7, x8] = some (.lst [x1, x2, x3, x4, x5, x6, x7, x8]) := fLst_le (show 8 ≤ 1000 by decide)
  have ix : ∀ M : Mem, fIx M (.lst [.str w]) (.int 0) = some (.str w) := fun M => (show atI [D.str w] ((0 : Nat) : Int) = some (D.str w) from atI_nat (xs := [D.str w]) (j := 0) rfl)
  have hbn : ∀ M : Mem, belows M.length [.int (n - 100000000000000), .int (d - 500000000000000)] = true := fun M => rfl
  refine ⟨s6, l3, u4, .val (.int (n - 100000000000000)), .val (.int (d - 500000000000000)), .val (.str w), u8, ?_, h6.mono (by omega)⟩
  unfold bT
  by_cases hd : d - 500000000000000 = 0
  · simp only [eC, eVar, eVar2, eBin, eBin2, eBin3, eUn, eUn2, eNil, eCons, eCons2, eCons3, eFn, eFn2, eTst, eTst2, eIf, eIf_t, eIf_f, eAnd, eAnd_t, eAnd_f, eOr, eOr_t, eOr_f, eNot, eNot2, eCall, eCall2, eCallC, eSl, eSl2, eSl3, eSl4, eNo, ePart, ePart2, sNil_, sSeq_, sBrk_, sCnt_, sDrop_, sDrop2, sDropE, sRet_, sRet2, sRetE, sRetN_, sIf_, sIf_t, sIf_f, sSet_, sSet2, sSetE, setT_nm, setTs_nil, setTs_cons, optS_some, sPar2_, sPar22, sFor_, sFor2, cIter_, cIter_t, cIter_l, cIter_s, cItL_, cItL2, sRaise_, runF_, endR_nx, endR_rt, endR_err, opt_some, seq_nx, seq_rt, seq_bk, seq_ct, seq_err, startE, List.map_cons, List.map_nil, List.length_cons, List.length_nil, List.replicate_succ, List.replicate_zero, List.cons_append, List.nil_append, List.append_nil, List.getElem?_cons_zero, List.getElem?_cons_succ, List.set_cons_zero, List.set_cons_succ, Option.bind_some, Option.map_some, Nat.reduceAdd, Nat.reduceSub, fAdd_int, fSub_int, fNeg_int, gGcd_int, fGt_int, fLt_int, fLe_int, fTup2, r6', e1, pow15, pow14, e2, e3, m5, fNe_int, decide_eq_true hd, Bool.not_true, e4, ix, q1, q2, q3, q4, eM, eM2 (ty _), eM3, q5, optM_some, t1, l8, e5, e6, e7]
  · have hs : Sm 9000 (d - 500000000000000) := sm_of (by omega) (by decide)
    have p1 : ∀ M, f_ratio [.int (n - 100000000000000), .int (d - 500000000000000)] M = .ok (qd (Rat.divInt (n - 100000000000000) (d - 500000000000000))) M := fun M => r_ratio hd hs
    have p2 : ∀ M, f__law_q [.int (n - 100000000000000), .int (d - 500000000000000)] M = .ok (qd (Rat.divInt (n - 100000000000000) (d - 500000000000000))) M := fun M => r__law_q hd hs
    simp only [eC, eVar, eVar2, eBin, eBin2, eBin3, eUn, eUn2, eNil, eCons, eCons2, eCons3, eFn, eFn2, eTst, eTst2, eIf, eIf_t, eIf_f, eAnd, eAnd_t, eAnd_f, eOr, eOr_t, eOr_f, eNot, eNot2, eCall, eCall2, eCallC, eSl, eSl2, eSl3, eSl4, eNo, ePart, ePart2, sNil_, sSeq_, sBrk_, sCnt_, sDrop_, sDrop2, sDropE, sRet_, sRet2, sRetE, sRetN_, sIf_, sIf_t, sIf_f, sSet_, sSet2, sSetE, setT_nm, setTs_nil, setTs_cons, optS_some, sPar2_, sPar22, sFor_, sFor2, cIter_, cIter_t, cIter_l, cIter_s, cItL_, cItL2, sRaise_, runF_, endR_nx, endR_rt, endR_err, opt_some, seq_nx, seq_rt, seq_bk, seq_ct, seq_err, startE, List.map_cons, List.map_nil, List.length_cons, List.length_nil, List.replicate_succ, List.replicate_zero, List.cons_append, List.nil_append, List.append_nil, List.getElem?_cons_zero, List.getElem?_cons_succ, List.set_cons_zero, List.set_cons_succ, Option.bind_some, Option.map_some, Nat.reduceAdd, Nat.reduceSub, fAdd_int, fSub_int, fNeg_int, gGcd_int, fGt_int, fLt_int, fLe_int, fTup2, r6', e1, pow15, pow14, e2, e3, m5, fNe_int, decide_eq_false hd, Bool.not_false, p1, p2, same_qd, Bool.not_true, eCallKC, eCallK2, eCallK_2 (hbn _), fNe_qd, e4, ix, q1, q2, q3, q4, eM, eM2 (ty _), eM3, q5, optM_some, t1, l8, e5, e6, e7]
theorem bT_loop {it : ItD} (hit : it.deps = []) {a0 : Sl} : ∀ (ds : List D) (s : Dr) (t : Nat) (r2 r3 r4 r5 r6 r7 r8 r9 : Sl), s.Ok t → t + 6000 * ds.length < 2 ^ 39 →
    ∃ s' env, forL it (.nm 2) bT ds [a0, .val (.ref 1), r2, r3, r4, r5, r6, r7, r8, r9] (mm s []) = .nx env (mm s' [])
  | [], s, t, r2, r3, r4, r5, r6, r7, r8, r9, h, _ => ⟨s, _, forL_nil (by unfold DepOk; rw [hit]; exact (fun p hp => nomatch hp))⟩
  | d :: ds, s, t, r2, r3, r4, r5, r6, r7, r8, r9, h, ht => by
    rw [List.length_cons] at ht
    obtain ⟨s1, u3, u4, u5, u6, u7, u8, e1, h1⟩ := bT_ok (R := []) h (by omega) (a0 := a0) (a2 := .val d) (r3 := r3) (r4 := r4) (r5 := r5) (r6 := r6) (r7 := r7) (r8 := r8) (r9 := r9)
    obtain ⟨s', env, e2⟩ := bT_loop hit (a0 := a0) ds s1 (t + 6000) (.val d) u3 u4 u5 u6 u7 u8 r9 h1 (by omega)
    refine ⟨s', env, ?_⟩
    rw [forL_cons (by unfold DepOk; rw [hit]; exact (fun p hp => nomatch hp)), setT_nm]
    simp only [optS_some, seq_nx, List.set_cons_succ, List.set_cons_zero, e1]
    rw [turn_nx, e2]
theorem law_ok {ns : List Int} (h : ns.length ≤ 63) : ∃ M', f_law [.scr ns] [] = .ok (.bl true) M' := by
  obtain ⟨s, e, hs⟩ := r_begun h
  have hn : ∃ k : Nat, k ≤ 10 ∧ (2 : Int) + (if (5 : Int) < (ns.length : Nat) then 5 else ((ns.length : Nat) : Int)) = (k : Nat) := by
    split
    · exact ⟨7, by decide, rfl⟩
    · exact ⟨2 + ns.length, by omega, by omega⟩
  obtain ⟨k, hk, ek⟩ := hn
  obtain ⟨s', env, et⟩ := bT_loop (it := ⟨rangeD 0 k, []⟩) rfl (a0 := .val (.scr ns)) (rangeD 0 k) s 0 .none .none .none .none .none .none .none .none hs (by rw [rangeD_len]; omega)
  have g1 : ∀ M : Mem, gLen M [.scr ns] = some (.int (ns.length : Nat)) := fun _ => rfl
  have g2 : ∀ (M : Mem) (i : Int), gMin M [.int i, .int 5] = some (.int (if (5 : Int) < i then 5 else i)) := fun _ _ => rfl
  refine ⟨mm s' [], ?_⟩
  unfold f_law
  rw [b_law_eq]
  simp only [eC, eVar, eVar2, eBin, eBin2, eBin3, eUn, eUn2, eNil, eCons, eCons2, eCons3, eFn, eFn2, eTst, eTst2, eIf, eIf_t, eIf_f, eAnd, eAnd_t, eAnd_f, eOr, eOr_t, eOr_f, eNot, eNot2, eCall, eCall2, eCallC, eSl, eSl2, eSl3, eSl4, eNo, ePart, ePart2, sNil_, sSeq_, sBrk_, sCnt_, sDrop_, sDrop2, sDropE, sRet_, sRet2, sRetE, sRetN_, sIf_, sIf_t, sIf_f, sSet_, sSet2, sSetE, setT_nm, setTs_nil, setTs_cons, optS_some, sPar2_, sPar22, sFor_, sFor2, cIter_, cIter_t, cIter_l, cIter_s, cItL_, cItL2, sRaise_, runF_, endR_nx, endR_rt, endR_err, opt_some, seq_nx, seq_rt, seq_bk, seq_ct, seq_err, startE, List.map_cons, List.map_nil, List.length_cons, List.length_nil, List.replicate_succ, List.replicate_zero, List.cons_append, List.nil_append, List.append_nil, List.getElem?_cons_zero, List.getElem?_cons_succ, List.set_cons_zero, List.set_cons_succ, Option.bind_some, Option.map_some, Nat.reduceAdd, Nat.reduceSub, fAdd_int, fSub_int, fNeg_int, gGcd_int, fGt_int, fLt_int, fLe_int, fTup2, e, g1, g2, ek, itR1_n (show k ≤ 900 by omega), et]
end K00

set_option Elab.async false
set_option linter.all false
set_option maxRecDepth 100000
set_option maxHeartbeats 0
namespace K00
open PySem PySem.Spec PyProof.Rows L2 DI
def hd (x : Str) (st : Stmt) : He.DefD := ⟨(x, none), x, x, defArgs st, defBody st, defScope st, [], []⟩
def ancL : List (Str × List Str) := [(("BoundError" : Str), [("BoundError" : Str)]), (("BadNumber" : Str), [("BadNumber" : Str), ("BoundError" : Str)]), (("BadRows" : Str), [("BadRows" : Str), ("BoundError" : Str)]), (("BadVector" : Str), [("BadVector" : Str), ("BoundError" : Str)]), (("BadWidth" : Str), [("BadWidth" : Str), ("BoundError" : Str)])]
def hfn : List He.DefD := ([hd "is_whole" t_is_whole, hd "is_ratio" t_is_ratio, hd "lowest" t_lowest, hd "plus" t_plus, hd "times" t_times, hd "total" t_total, hd "ratio" t_ratio, hd "is_vector" t_is_vector, hd "dot" t_dot, hd "scaled" t_scaled, hd "added" t_added, hd "mixed" t_mixed, hd "inner" t_inner, hd "need_rows" t_need_rows, hd "combined" t_combined, hd "is_word" t_is_word, hd "_law_begun" t__law_begun, hd "_law_blended" t__law_blended, hd "_law_draw" t__law_draw, hd "_law_pick" t__law_pick, hd "_law_is_truth" t__law_is_truth, hd "_law_same" t__law_same, hd "_law_q" t__law_q, hd "_law_plus" t__law_plus, hd "_law_times" t__law_times, hd "_law_sum" t__law_sum, hd "_law_words" t__law_words, hd "_law_number" t__law_number, hd "_law_vector" t__law_vector, hd "_law_dot" t__law_dot, hd "_law_mixed" t__law_mixed, hd "_law_is_ratio" t__law_is_ratio, hd "_law_near" t__law_near, hd "_law_sums_right" t__law_sums_right, hd "_law_refused" t__law_refused] : List He.DefD) ++ ([hd "law" t_law, hd "_law_caught" t__law_caught] : List He.DefD)
def hfa : List He.Fa := ([.glo "is_whole", .glo "is_ratio", .glo "lowest", .glo "plus", .glo "times", .glo "total", .glo "ratio", .glo "is_vector", .glo "dot", .glo "scaled", .glo "added", .glo "mixed", .glo "inner", .glo "need_rows", .glo "combined", .glo "is_word", .glo "_law_begun", .glo "_law_blended", .glo "_law_draw", .glo "_law_pick", .glo "_law_is_truth", .glo "_law_same", .glo "_law_q", .glo "_law_plus", .glo "_law_times", .glo "_law_sum", .glo "_law_words", .glo "_law_number", .glo "_law_vector", .glo "_law_dot", .glo "_law_mixed", .glo "_law_is_ratio", .glo "_law_near", .glo "_law_sums_right", .glo "_law_refused"] : List He.Fa) ++ ([.glo "law", .glo "_law_caught", .glo "BoundError", .glo "BadNumber", .glo "BadRows", .glo "BadVector", .glo "BadWidth", .glo "ZERO", .free "abs", .free "all", .free "bool", .free "dict", .free "enumerate", .free "int", .free "isinstance", .free "len", .free "list", .free "min", .free "range", .free "sorted", .free "str", .free "super", .free "tuple", .free "zip", .int "MOST" 200, .exc "BoundError", .exc "BadVector", .exc "BadWidth", .str "LETTERS" "abcdefghijklmnopqrstuvwxyz", .exm "BoundError" "BoundError" true, .exm "BadNumber" "BoundError" true, .exm "BadRows" "BoundError" true, .exm "BadVector" "BoundError" true, .exm "BadWidth" "BoundError" true] : List He.Fa)
def excCB (K : PySem.W.Frag) (D : Addr) : Bool :=
  decide (PySem.W.findIn K (.ref D) "__getattribute__" = some (some (.builtin "BaseException.__getattribute__"))) &&
  (decide (PySem.W.findIn K (.ref D) "__getattr__" = some none) &&
  (decide (PySem.W.subIn K (.ref D) (.type "BaseException") = some true) &&
  (PySem.W.hasDictIn K D &&
  (decide (PySem.W.findIn K (.ref D) "__class__" = some (some (.builtin "object.__class__"))) &&
  (decide (PySem.W.specialIn K (.builtin "object.__class__") "__get__" = some (some (.builtin "getset_descriptor.__get__"))) &&
  (decide (PySem.W.takesIn K (.builtin "object.__class__") = some true) &&
  decide (PySem.W.mroIn K D (.type "object") = some true)))))))
def ancB (L : List (Str × List Str)) (K : PySem.W.Frag) : Bool := L.all fun p => (L.all fun r => decide (PySem.W.kitOne K (.ref (He.ga K p.1)) (.ref (He.ga K r.1)) = some (p.2.contains r.1))) && ((kinds0.all fun a => decide (PySem.W.kitOne K (.type a) (.ref (He.ga K p.1)) = some false)) && excCB K (He.ga K p.1))
def tfs : List He.Defn := [("_law_refused", none)]
def hex (K : PySem.W.Frag) : Bool := He.tupB K "ZERO" [.int 0, .int 1] && (He.eqO (PySem.W.nsIn K mainGlobals "gcd") (some (some (.builtin "math.gcd"))) && (decide ((tfs.map fun p => (He.cT K p).2).Nodup) && (ancB ancL K)))
abbrev R : PySem.W.OpenRow := PySem.W.OpenLaw.row PySem.Challenge.rw_chancebounds_k00_ratios_and_vectors
def ini : List IniD := [⟨"BadNumber", "BadNumber.__init__", "part", "part", defArgs i_BadNumber, defBody i_BadNumber, defScope i_BadNumber⟩, ⟨"BadRows", "BadRows.__init__", "index", "index", defArgs i_BadRows, defBody i_BadRows, defScope i_BadRows⟩]
def hexI (K : PySem.W.Frag) : Bool := hex K && ini.all (initB PySem.Challenge.rw_chancebounds_k00_ratios_and_vectors.prog.main.file K)
abbrev hk : PySem.W.Hook := hookI 4 hfa hfn tfs hexI ini
def ob (s : PySem.W.SharedT) : AlI := obsI 4 hfa hfn tfs hexI ini (HandSHeadRun.getT s)
theorem ob_eq (s : PySem.W.SharedT) : ob s = hk.obs s.abs := obsI_eq (HandSHeadRun.getT_eq s)
def loose : List PySem.Str := ([("BoundError" : PySem.Str), ("BadNumber" : PySem.Str), ("BadRows" : PySem.Str), ("BadVector" : PySem.Str), ("BadWidth" : PySem.Str), ("ZERO" : PySem.Str), ("is_whole" : PySem.Str), ("is_ratio" : PySem.Str), ("lowest" : PySem.Str), ("plus" : PySem.Str), ("times" : PySem.Str), ("total" : PySem.Str), ("ratio" : PySem.Str), ("MOST" : PySem.Str), ("is_vector" : PySem.Str), ("dot" : PySem.Str), ("scaled" : PySem.Str), ("added" : PySem.Str), ("mixed" : PySem.Str), ("inner" : PySem.Str), ("need_rows" : PySem.Str), ("combined" : PySem.Str), ("LETTERS" : PySem.Str), ("is_word" : PySem.Str), ("_law_begun" : PySem.Str), ("_law_blended" : PySem.Str), ("_law_draw" : PySem.Str), ("_law_pick" : PySem.Str), ("_law_caught" : PySem.Str), ("_law_is_truth" : PySem.Str), ("_law_same" : PySem.Str), ("_law_q" : PySem.Str), ("_law_plus" : PySem.Str), ("_law_times" : PySem.Str), ("_law_sum" : PySem.Str)] : List PySem.Str) ++ ([("_law_words" : PySem.Str), ("_law_number" : PySem.Str), ("_law_vector" : PySem.Str), ("_law_dot" : PySem.Str), ("_law_mixed" : PySem.Str), ("_law_is_ratio" : PySem.Str), ("_law_near" : PySem.Str), ("_law_sums_right" : PySem.Str), ("_law_refused" : PySem.Str)] : List PySem.Str)
theorem run (w : World) : HandSHeadRun.RunEqI R (PySem.W.view R.prog [0, 50]) hk ob 3000 loose w := by
  unfold HandSHeadRun.RunEqI
  kernel_rfl
end K00

set_option Elab.async false
set_option linter.all false
set_option maxRecDepth 100000
set_option maxHeartbeats 0
namespace K00
open PySem PySem.Spec PyProof.Rows L2 DI
def gb (K : PySem.W.Frag) (mg : Str → Option Value) : Gb where
  K := K
  mg := mg
  T := [((He.cT K ("_law_refused", none)).2, (envOfC "_law_refused" (defScope t__law_refused) 0 0 .none).qual ++ "<lambda>")]
  lam := fun k => match k with
    | 0 => some ⟨(envOfC "_law_refused" (defScope t__law_refused) 0 0 .none).qual, (lamAt (defBody t__law_refused) 0).args, (lamAt (defBody t__law_refused) 0).body, (lamAt (defBody t__law_refused) 0).scope⟩
    | 1 => some ⟨(envOfC "_law_refused" (defScope t__law_refused) 0 0 .none).qual, (lamAt (defBody t__law_refused) 1).args, (lamAt (defBody t__law_refused) 1).body, (lamAt (defBody t__law_refused) 1).scope⟩
    | 2 => some ⟨(envOfC "_law_refused" (defScope t__law_refused) 0 0 .none).qual, (lamAt (defBody t__law_refused) 2).args, (lamAt (defBody t__law_refused) 2).body, (lamAt (defBody t__law_refused) 2).scope⟩
    | 3 => some ⟨(envOfC "_law_refused" (defScope t__law_refused) 0 0 .none).qual, (lamAt (defBody t__law_refused) 3).args, (lamAt (defBody t__law_refused) 3).body, (lamAt (defBody t__law_refused) 3).scope⟩
    | 4 => some ⟨(envOfC "_law_refused" (defScope t__law_refused) 0 0 .none).qual, (lamAt (defBody t__law_refused) 4).args, (lamAt (defBody t__law_refused) 4).body, (lamAt (defBody t__law_refused) 4).scope⟩
    | 5 => some ⟨(envOfC "_law_refused" (defScope t__law_refused) 0 0 .none).qual, (lamAt (defBody t__law_refused) 5).args, (lamAt (defBody t__law_refused) 5).body, (lamAt (defBody t__law_refused) 5).scope⟩
    | 6 => some ⟨(envOfC "_law_refused" (defScope t__law_refused) 0 0 .none).qual, (lamAt (defBody t__law_refused) 6).args, (lamAt (defBody t__law_refused) 6).body, (lamAt (defBody t__law_refused) 6).scope⟩
    | 7 => some ⟨(envOfC "_law_refused" (defScope t__law_refused) 0 0 .none).qual, (lamAt (defBody t__law_refused) 7).args, (lamAt (defBody t__law_refused) 7).body, (lamAt (defBody t__law_refused) 7).scope⟩
    | _ => none
section
variable {w : World} {K : PySem.W.Frag} {h : Heap} {mg : Str → Option Value}
theorem excCB_ok {D : Addr} (e : excCB K D = true) : ExcC K D := by
  unfold excCB at e
  simp only [Bool.and_eq_true, decide_eq_true_eq] at e
  obtain ⟨h1, h2, h3, h4, h5, h6, h7, h8⟩ := e
  exact ⟨h1, h2, h3, h4, h5, h6, h7, h8⟩
theorem lookup_memS {β : Type} {x : Str} {l : β} : ∀ {L : List (Str × β)}, L.lookup x = some l → (x, l) ∈ L
  | [], e => nomatch e
  | (y, m) :: r, e => by
    rw [List.lookup_cons] at e
    cases q : (x == y) with
    | true =>
      rw [q] at e
      cases e
      rw [eq_of_beq q]
      exact List.mem_cons_self
    | false =>
      rw [q] at e
      exact List.mem_cons_of_mem _ (lookup_memS e)
theorem ancB_ok {G : Gb} {L : List (Str × List Str)} (hg : ∀ p ∈ L, G.mg p.1 = some (.ref (He.ga G.K p.1))) (e : ancB L G.K = true) : AncOk G (fun x => L.lookup x) := by
  have e1 : ∀ p ∈ L, _ := List.all_eq_true.mp e
  refine ⟨fun c l d l' h1 h2 => ?_, fun a d l ha h2 => ?_, fun c l C h1 hC => ?_⟩
  · have m1 := lookup_memS h1
    have m2 := lookup_memS h2
    obtain ⟨z, _⟩ := He.ba (e1 _ m1)
    exact ⟨_, _, hg _ m1, hg _ m2, of_decide_eq_true (List.all_eq_true.mp z _ m2)⟩
  · have m2 := lookup_memS h2
    obtain ⟨_, z⟩ := He.ba (e1 _ m2)
    obtain ⟨z, _⟩ := He.ba z
    exact ⟨_, hg _ m2, of_decide_eq_true (List.all_eq_true.mp z _ ha)⟩
  · have m1 := lookup_memS h1
    obtain ⟨_, z⟩ := He.ba (e1 _ m1)
    obtain ⟨_, z⟩ := He.ba z
    have := (hg _ m1).symm.trans hC
    cases this
    exact excCB_ok z
theorem con_tup2 {G : Gb} {mg : Str → Option Value} {x : Str} {a b : Int} (e : He.tupB G.K x [.int a, .int b] = true) (hm : mg x = some (.ref (He.ga G.K x))) : ConD G mg x (.tup [.int a, .int b]) :=
  ⟨_, .ref (He.ga G.K x), hm, rfl, fun w => .tup (vs := [.int a, .int b]) (.inr (He.tupB_ok e Hp0)) (.cons (.int a) (.cons (.int b) .nil))⟩
theorem hf_of (X : K.In h) (N : h.Ns mainGlobals mg) (c : SaysI hfa hfn tfs hexI ini w h K) : HF PySem.Challenge.rw_chancebounds_k00_ratios_and_vectors.prog (gb K mg) K mg := by
  have cI := c
  have c := cI.x
  obtain ⟨cm0, cini⟩ := He.ba (show (hex K && ini.all (initB PySem.Challenge.rw_chancebounds_k00_ratios_and_vectors.prog.main.file K)) = true from c.more)
  have cd := c.t.d
  have cm := cm0
  unfold hex at cm
  simp only [Bool.and_eq_true] at cm
  obtain ⟨z1, z2, z3, z4⟩ := cm
  obtain ⟨fd0, F0⟩ := cd.def_ 0 (d := hd "is_whole" t_is_whole) rfl
  obtain ⟨fd1, F1⟩ := cd.def_ 1 (d := hd "is_ratio" t_is_ratio) rfl
  obtain ⟨fd2, F2⟩ := cd.def_ 2 (d := hd "lowest" t_lowest) rfl
  obtain ⟨fd3, F3⟩ := cd.def_ 3 (d := hd "plus" t_plus) rfl
  obtain ⟨fd4, F4⟩ := cd.def_ 4 (d := hd "times" t_times) rfl
  obtain ⟨fd5, F5⟩ := cd.def_ 5 (d := hd "total" t_total) rfl
  obtain ⟨fd6, F6⟩ := cd.def_ 6 (d := hd "ratio" t_ratio) rfl
  obtain ⟨fd7, F7⟩ := cd.def_ 7 (d := hd "is_vector" t_is_vector) rfl
  obtain ⟨fd8, F8⟩ := cd.def_ 8 (d := hd "dot" t_dot) rfl
  obtain ⟨fd9, F9⟩ := cd.def_ 9 (d := hd "scaled" t_scaled) rfl
  obtain ⟨fd10, F10⟩ := cd.def_ 10 (d := hd "added" t_added) rfl
  obtain ⟨fd11, F11⟩ := cd.def_ 11 (d := hd "mixed" t_mixed) rfl
  obtain ⟨fd12, F12⟩ := cd.def_ 12 (d := hd "inner" t_inner) rfl
  obtain ⟨fd13, F13⟩ := cd.def_ 13 (d := hd "need_rows" t_need_rows) rfl
  obtain ⟨fd14, F14⟩ := cd.def_ 14 (d := hd "combined" t_combined) rfl
  obtain ⟨fd15, F15⟩ := cd.def_ 15 (d := hd "is_word" t_is_word) rfl
  obtain ⟨fd16, F16⟩ := cd.def_ 16 (d := hd "_law_begun" t__law_begun) rfl
  obtain ⟨fd17, F17⟩ := cd.def_ 17 (d := hd "_law_blended" t__law_blended) rfl
  obtain ⟨fd18, F18⟩ := cd.def_ 18 (d := hd "_law_draw" t__law_draw) rfl
  obtain ⟨fd19, F19⟩ := cd.def_ 19 (d := hd "_law_pick" t__law_pick) rfl
  obtain ⟨fd20, F20⟩ := cd.def_ 20 (d := hd "_law_is_truth" t__law_is_truth) rfl
  obtain ⟨fd21, F21⟩ := cd.def_ 21 (d := hd "_law_same" t__law_same) rfl
  obtain ⟨fd22, F22⟩ := cd.def_ 22 (d := hd "_law_q" t__law_q) rfl
  obtain ⟨fd23, F23⟩ := cd.def_ 23 (d := hd "_law_plus" t__law_plus) rfl
  obtain ⟨fd24, F24⟩ := cd.def_ 24 (d := hd "_law_times" t__law_times) rfl
  obtain ⟨fd25, F25⟩ := cd.def_ 25 (d := hd "_law_sum" t__law_sum) rfl
  obtain ⟨fd26, F26⟩ := cd.def_ 26 (d := hd "_law_words" t__law_words) rfl
  obtain ⟨fd27, F27⟩ := cd.def_ 27 (d := hd "_law_number" t__law_number) rfl
  obtain ⟨fd28, F28⟩ := cd.def_ 28 (d := hd "_law_vector" t__law_vector) rfl
  obtain ⟨fd29, F29⟩ := cd.def_ 29 (d := hd "_law_dot" t__law_dot) rfl
  obtain ⟨fd30, F30⟩ := cd.def_ 30 (d := hd "_law_mixed" t__law_mixed) rfl
  obtain ⟨fd31, F31⟩ := cd.def_ 31 (d := hd "_law_is_ratio" t__law_is_ratio) rfl
  obtain ⟨fd32, F32⟩ := cd.def_ 32 (d := hd "_law_near" t__law_near) rfl
  obtain ⟨fd33, F33⟩ := cd.def_ 33 (d := hd "_law_sums_right" t__law_sums_right) rfl
  obtain ⟨fd34, F34⟩ := cd.def_ 34 (d := hd "_law_refused" t__law_refused) rfl
  obtain ⟨fd35, F35⟩ := cd.def_ 35 (d := hd "law" t_law) rfl
  obtain ⟨fd36, F36⟩ := cd.def_ 36 (d := hd "_law_caught" t__law_caught) rfl
  refine {
    hK := rfl,
    hm := rfl,
    d_is_whole := ⟨_, fd0, F0, He.glo_ok X N (cd.fact 0 (f := .glo "is_whole") rfl)⟩,
    d_is_ratio := ⟨_, fd1, F1, He.glo_ok X N (cd.fact 1 (f := .glo "is_ratio") rfl)⟩,
    d_lowest := ⟨_, fd2, F2, He.glo_ok X N (cd.fact 2 (f := .glo "lowest") rfl)⟩,
    d_plus := ⟨_, fd3, F3, He.glo_ok X N (cd.fact 3 (f := .glo "plus") rfl)⟩,
    d_times := ⟨_, fd4, F4, He.glo_ok X N (cd.fact 4 (f := .glo "times") rfl)⟩,
    d_total := ⟨_, fd5, F5, He.glo_ok X N (cd.fact 5 (f := .glo "total") rfl)⟩,
    d_ratio := ⟨_, fd6, F6, He.glo_ok X N (cd.fact 6 (f := .glo "ratio") rfl)⟩,
    d_is_vector := ⟨_, fd7, F7, He.glo_ok X N (cd.fact 7 (f := .glo "is_vector") rfl)⟩,
    d_dot := ⟨_, fd8, F8, He.glo_ok X N (cd.fact 8 (f := .glo "dot") rfl)⟩,
    d_scaled := ⟨_, fd9, F9, He.glo_ok X N (cd.fact 9 (f := .glo "scaled") rfl)⟩,
    d_added := ⟨_, fd10, F10, He.glo_ok X N (cd.fact 10 (f := .glo "added") rfl)⟩,
    d_mixed := ⟨_, fd11, F11, He.glo_ok X N (cd.fact 11 (f := .glo "mixed") rfl)⟩,
    d_inner := ⟨_, fd12, F12, He.glo_ok X N (cd.fact 12 (f := .glo "inner") rfl)⟩,
    d_need_rows := ⟨_, fd13, F13, He.glo_ok X N (cd.fact 13 (f := .glo "need_rows") rfl)⟩,
    d_combined := ⟨_, fd14, F14, He.glo_ok X N (cd.fact 14 (f := .glo "combined") rfl)⟩,
    d_is_word := ⟨_, fd15, F15, He.glo_ok X N (cd.fact 15 (f := .glo "is_word") rfl)⟩,
    d__law_begun := ⟨_, fd16, F16, He.glo_ok X N (cd.fact 16 (f := .glo "_law_begun") rfl)⟩,
    d__law_blended := ⟨_, fd17, F17, He.glo_ok X N (cd.fact 17 (f := .glo "_law_blended") rfl)⟩,
    d__law_draw := ⟨_, fd18, F18, He.glo_ok X N (cd.fact 18 (f := .glo "_law_draw") rfl)⟩,
    d__law_pick := ⟨_, fd19, F19, He.glo_ok X N (cd.fact 19 (f := .glo "_law_pick") rfl)⟩,
    d__law_is_truth := ⟨_, fd20, F20, He.glo_ok X N (cd.fact 20 (f := .glo "_law_is_truth") rfl)⟩,
    d__law_same := ⟨_, fd21, F21, He.glo_ok X N (cd.fact 21 (f := .glo "_law_same") rfl)⟩,
    d__law_q := ⟨_, fd22, F22, He.glo_ok X N (cd.fact 22 (f := .glo "_law_q") rfl)⟩,
    d__law_plus := ⟨_, fd23, F23, He.glo_ok X N (cd.fact 23 (f := .glo "_law_plus") rfl)⟩,
    d__law_times := ⟨_, fd24, F24, He.glo_ok X N (cd.fact 24 (f := .glo "_law_times") rfl)⟩,
    d__law_sum := ⟨_, fd25, F25, He.glo_ok X N (cd.fact 25 (f := .glo "_law_sum") rfl)⟩,
    d__law_words := ⟨_, fd26, F26, He.glo_ok X N (cd.fact 26 (f := .glo "_law_words") rfl)⟩,
    d__law_number := ⟨_, fd27, F27, He.glo_ok X N (cd.fact 27 (f := .glo "_law_number") rfl)⟩,
    d__law_vector := ⟨_, fd28, F28, He.glo_ok X N (cd.fact 28 (f := .glo "_law_vector") rfl)⟩,
    d__law_dot := ⟨_, fd29, F29, He.glo_ok X N (cd.fact 29 (f := .glo "_law_dot") rfl)⟩,
    d__law_mixed := ⟨_, fd30, F30, He.glo_ok X N (cd.fact 30 (f := .glo "_law_mixed") rfl)⟩,
    d__law_is_ratio := ⟨_, fd31, F31, He.glo_ok X N (cd.fact 31 (f := .glo "_law_is_ratio") rfl)⟩,
    d__law_near := ⟨_, fd32, F32, He.glo_ok X N (cd.fact 32 (f := .glo "_law_near") rfl)⟩,
    d__law_sums_right := ⟨_, fd33, F33, He.glo_ok X N (cd.fact 33 (f := .glo "_law_sums_right") rfl)⟩,
    d__law_refused := ⟨_, fd34, F34, He.glo_ok X N (cd.fact 34 (f := .glo "_law_refused") rfl)⟩,
    d_law := ⟨_, fd35, F35, He.glo_ok X N (cd.fact 35 (f := .glo "law") rfl)⟩,
    d__law_caught := ⟨_, fd36, F36, He.glo_ok X N (cd.fact 36 (f := .glo "_law_caught") rfl)⟩,
    n_abs := He.free_ok X N (cd.fact 43 (f := .free "abs") rfl),
    n_all := He.free_ok X N (cd.fact 44 (f := .free "all") rfl),
    n_bool := He.free_ok X N (cd.fact 45 (f := .free "bool") rfl),
    n_dict := He.free_ok X N (cd.fact 46 (f := .free "dict") rfl),
    n_enumerate := He.free_ok X N (cd.fact 47 (f := .free "enumerate") rfl),
    n_int := He.free_ok X N (cd.fact 48 (f := .free "int") rfl),
    n_isinstance := He.free_ok X N (cd.fact 49 (f := .free "isinstance") rfl),
    n_len := He.free_ok X N (cd.fact 50 (f := .free "len") rfl),
    n_list := He.free_ok X N (cd.fact 51 (f := .free "list") rfl),
    n_min := He.free_ok X N (cd.fact 52 (f := .free "min") rfl),
    n_range := He.free_ok X N (cd.fact 53 (f := .free "range") rfl),
    n_sorted := He.free_ok X N (cd.fact 54 (f := .free "sorted") rfl),
    n_str := He.free_ok X N (cd.fact 55 (f := .free "str") rfl),
    n_super := He.free_ok X N (cd.fact 56 (f := .free "super") rfl),
    n_tuple := He.free_ok X N (cd.fact 57 (f := .free "tuple") rfl),
    n_zip := He.free_ok X N (cd.fact 58 (f := .free "zip") rfl),
    m_gcd := PySem.W.mg_of X N (He.eqO_ok z2),
    c_ZERO := con_tup2 z1 (He.glo_ok X N (cd.fact 42 (f := .glo "ZERO") rfl)),
    c_MOST := (He.int_ok X N (cd.fact 59 (f := .int "MOST" 200) rfl)).elim fun t e => ⟨_, .int 200, e, ⟨t, rfl⟩, fun w => .int 200⟩,
    c_LETTERS := (He.str_ok X N (cd.fact 63 (f := .str "LETTERS" "abcdefghijklmnopqrstuvwxyz") rfl)).elim fun t e => ⟨_, .str "abcdefghijklmnopqrstuvwxyz", e, ⟨t, rfl⟩, fun w => .str "abcdefghijklmnopqrstuvwxyz"⟩,
    i_BadNumber := let z := initB_ok (List.all_eq_true.mp cini _ (List.mem_of_getElem? (i := 0) (l := ini) rfl)) (cI.at 0 rfl); z.1.elim fun fd z1 => ⟨⟨_, _, fd, He.glo_ok X N (cd.fact 38 (f := .glo "BadNumber") rfl), z1, z.2.1, z.2.2⟩⟩,
    i_BadRows := let z := initB_ok (List.all_eq_true.mp cini _ (List.mem_of_getElem? (i := 1) (l := ini) rfl)) (cI.at 1 rfl); z.1.elim fun fd z1 => ⟨⟨_, _, fd, He.glo_ok X N (cd.fact 39 (f := .glo "BadRows") rfl), z1, z.2.1, z.2.2⟩⟩,
    t_super := by kernel_rfl,
    e_BoundError := (He.exc_ok (cd.fact 60 (f := .exc "BoundError") rfl)).elim fun h1 h2 => ⟨_, He.glo_ok X N (cd.fact 37 (f := .glo "BoundError") rfl), h1, h2⟩,
    e_BadVector := (He.exc_ok (cd.fact 61 (f := .exc "BadVector") rfl)).elim fun h1 h2 => ⟨_, He.glo_ok X N (cd.fact 40 (f := .glo "BadVector") rfl), h1, h2⟩,
    e_BadWidth := (He.exc_ok (cd.fact 62 (f := .exc "BadWidth") rfl)).elim fun h1 h2 => ⟨_, He.glo_ok X N (cd.fact 41 (f := .glo "BadWidth") rfl), h1, h2⟩,
    anc := ancB_ok (L := ancL) (fun p hp => ?A) z4,
    cat := fun CB hCB c hc C hC => ?B,
    lam_0 := rfl,
    lam_1 := rfl,
    lam_2 := rfl,
    lam_3 := rfl,
    lam_4 := rfl,
    lam_5 := rfl,
    lam_6 := rfl,
    lam_7 := rfl }
  case A =>
    have hp : p ∈ ([(("BoundError" : Str), [("BoundError" : Str)]), (("BadNumber" : Str), [("BadNumber" : Str), ("BoundError" : Str)]), (("BadRows" : Str), [("BadRows" : Str), ("BoundError" : Str)]), (("BadVector" : Str), [("BadVector" : Str), ("BoundError" : Str)]), (("BadWidth" : Str), [("BadWidth" : Str), ("BoundError" : Str)])] : List (Str × List Str)) := hp
    simp only [List.mem_cons, List.not_mem_nil, or_false] at hp
    rcases hp with rfl | rfl | rfl | rfl | rfl
    · exact He.glo_ok X N (cd.fact 37 (f := .glo "BoundError") rfl)
    · exact He.glo_ok X N (cd.fact 38 (f := .glo "BadNumber") rfl)
    · exact He.glo_ok X N (cd.fact 39 (f := .glo "BadRows") rfl)
    · exact He.glo_ok X N (cd.fact 40 (f := .glo "BadVector") rfl)
    · exact He.glo_ok X N (cd.fact 41 (f := .glo "BadWidth") rfl)
  case B =>
    have eB := (He.glo_ok X N (cd.fact 37 (f := .glo "BoundError") rfl)).symm.trans hCB
    cases eB
    have hc2 : ((ancL.lookup c).isSome) = true := hc
    obtain ⟨l, hl⟩ := Option.isSome_iff_exists.mp hc2
    have hp := lookup_memS hl
    have hp : (c, l) ∈ ([(("BoundError" : Str), [("BoundError" : Str)]), (("BadNumber" : Str), [("BadNumber" : Str), ("BoundError" : Str)]), (("BadRows" : Str), [("BadRows" : Str), ("BoundError" : Str)]), (("BadVector" : Str), [("BadVector" : Str), ("BoundError" : Str)]), (("BadWidth" : Str), [("BadWidth" : Str), ("BoundError" : Str)])] : List (Str × List Str)) := hp
    simp only [List.mem_cons, List.not_mem_nil, or_false, Prod.mk.injEq] at hp
    rcases hp with ⟨rfl, _⟩ | ⟨rfl, _⟩ | ⟨rfl, _⟩ | ⟨rfl, _⟩ | ⟨rfl, _⟩
    · have eC := (He.glo_ok X N (cd.fact 37 (f := .glo "BoundError") rfl)).symm.trans hC
      cases eC
      exact He.exm_ok (cd.fact 64 (f := .exm "BoundError" "BoundError" true) rfl)
    · have eC := (He.glo_ok X N (cd.fact 38 (f := .glo "BadNumber") rfl)).symm.trans hC
      cases eC
      exact He.exm_ok (cd.fact 65 (f := .exm "BadNumber" "BoundError" true) rfl)
    · have eC := (He.glo_ok X N (cd.fact 39 (f := .glo "BadRows") rfl)).symm.trans hC
      cases eC
      exact He.exm_ok (cd.fact 66 (f := .exm "BadRows" "BoundError" true) rfl)
    · have eC := (He.glo_ok X N (cd.fact 40 (f := .glo "BadVector") rfl)).symm.trans hC
      cases eC
      exact He.exm_ok (cd.fact 67 (f := .exm "BadVector" "BoundError" true) rfl)
    · have eC := (He.glo_ok X N (cd.fact 41 (f := .glo "BadWidth") rfl)).symm.trans hC
      cases eC
      exact He.exm_ok (cd.fact 68 (f := .exm "BadWidth" "BoundError" true) rfl)
theorem nodup_of (c : SaysI hfa hfn tfs hexI ini w h K) : (tfs.map fun p => (He.cT K p).2).Nodup := by
  have cm := (He.ba (show (hex K && ini.all (initB PySem.Challenge.rw_chancebounds_k00_ratios_and_vectors.prog.main.file K)) = true from c.x.more)).1
  unfold hex at cm
  simp only [Bool.and_eq_true, decide_eq_true_eq] at cm
  obtain ⟨z1, z2, z3, z4⟩ := cm
  exact z3
/-- at the law's start -/
theorem entry (hf : HF PySem.Challenge.rw_chancebounds_k00_ratios_and_vectors.prog (gb K mg) K mg) {H : Hp} {a : Addr} {ns : List Int} {M' : Mem} (hT : ∀ p ∈ (tfs).map (He.cT K), H p.2 = some (.tbl #[])) (hS : SqL K H a (ns.map V.int)) (e : f_law [.scr ns] [] = .ok (.bl true) M') :
    spOf (gb K mg) 1 f_law [.ref a] H (fun v _ => v = .bl true) fun _ _ _ => False := by
  have hP : ∀ p ∈ (gb K mg).T, H p.1 = some (.tbl #[]) := fun p hp => by
    simp only [gb, List.mem_cons, List.not_mem_nil, or_false] at hp
    rcases hp with rfl <;> exact hT _ (List.mem_map_of_mem (f := He.cT K) (by simp [tfs]))
  have fin : ∀ w : Wd, OkC (gb K mg) w (f_law [.scr ns] []) (fun v _ => v = .bl true) fun _ _ _ => False := fun w => by
    rw [e]
    intro w' H' v _ _ r
    cases r
    rfl
  have tb : LamX.Tabs (gb K mg).T H := fun p hp => LamX.TabS.nil (hP p hp)
  rcases hS with hR | hK
  · have ne : ∀ p ∈ (gb K mg).T, p.1 ≠ a := fun p hp z => by
      have hP := hP p hp
      rw [z] at hP
      rcases hR with q | ⟨o, q⟩
      · rw [hP] at q
        cases q
      · rw [hP] at q
        cases q
    refine ⟨rfl, ⟨fun b => if b = a then some (.lst (ns.map V.int)) else none, Hp0, 0, fun _ => 0, none⟩, [.scr ns], [], rfl, ⟨fun b u z => ?_, fun b u z => (nomatch z), fun b u z => (nomatch z), fun b u z => (nomatch z), rfl, fun i j hi => absurd hi (Nat.not_lt_zero _), fun i hi => absurd hi (Nat.not_lt_zero _), fun i o z => (nomatch z), tb, fun p hp => ⟨if_neg (ne p hp), rfl, fun i hi => absurd hi (Nat.not_lt_zero _)⟩⟩, .cons (.scr (.inl (if_pos rfl))) .nil, fin _⟩
    by_cases hb : b = a
    · subst hb
      have z := (if_pos rfl).symm.trans z
      cases z
      exact hR
    · have z := (if_neg hb).symm.trans z
      cases z
  · exact ⟨rfl, ⟨Hp0, Hp0, 0, fun _ => 0, none⟩, [.scr ns], [], rfl, ⟨fun b u z => (nomatch z), fun b u z => (nomatch z), fun b u z => (nomatch z), fun b u z => (nomatch z), rfl, fun i j hi => absurd hi (Nat.not_lt_zero _), fun i hi => absurd hi (Nat.not_lt_zero _), fun i o z => (nomatch z), tb, fun p hp => ⟨rfl, rfl, fun i hi => absurd hi (Nat.not_lt_zero _)⟩⟩, .cons (.scr (.inr (.inr hK))) .nil, fin _⟩
theorem lawAt (plain : ∀ ns : List Int, ns.length ≤ 63 → (∀ z ∈ ns, Builtin.Int.intBits z ≤ 1048576) → ∃ M', f_law [.scr ns] [] = .ok (.bl true) M') {fa : Addr} (X : K.In h) (N : h.Ns mainGlobals mg) (hla : mg ("law" : Str) = some (.ref fa)) (c : SaysI hfa hfn tfs hexI ini w h K) :
    LamX.LawAtS PySem.Challenge.rw_chancebounds_k00_ratios_and_vectors w K (L2.CX PySem.Challenge.rw_chancebounds_k00_ratios_and_vectors.prog w) 9 63 "script" mg fa h := by
  have hf := hf_of X N c
  obtain ⟨fd, F⟩ := c.x.t.d.def_ 35 (d := hd "law" t_law) rfl
  have hm := He.glo_ok X N (c.x.t.d.fact 35 (f := .glo "law") rfl)
  have e := hla.symm.trans hm
  cases e
  have b := FunD.bindsA (ps := ["script"]) F fun _ _ _ _ _ _ us hl => match us, hl with | [_], _ => rfl
  refine ⟨fd, (tfs).map (He.cT K), spOf (gb K mg) 1 f_law, fun p hp => ?_, fun p hp => ?_, fun p hp => ?_, fun s v => b s [v] rfl, fun H a ns hl hbits hT hS => ?_, fun base hKb hNb TB => ?_⟩
  · obtain ⟨q, hq, rfl⟩ := List.mem_map.mp hp
    exact c.x.empty _ hq
  · obtain ⟨q, hq, rfl⟩ := List.mem_map.mp hp
    exact c.x.out _ hq
  · obtain ⟨q, hq, rfl⟩ := List.mem_map.mp hp
    exact PySem.W.codeHd_of_K X (c.x.hd _ hq)
  · obtain ⟨M', e⟩ := plain ns hl hbits
    exact entry hf hT hS e
  · exact ok_law hf ⟨fun f2 fd2 hm2 F2 => by
      have e := hm2.symm.trans (He.glo_ok X N (c.x.t.d.fact 34 (f := .glo "_law_refused") rfl))
      cases e
      obtain ⟨oc, od, dV, kV, doc, pm, an, cdv, ct, osl, rfl, lk, hcd, _, _⟩ := F2.ex
      obtain ⟨cc, rfl⟩ := He.codeIn_ref hcd
      have ec : He.codeOf K ("_law_refused", none) = cc := He.codeOf_eq lk rfl
      have tb := TB _ (List.mem_map_of_mem (f := He.cT K) (show (("_law_refused", none) : He.Defn) ∈ tfs by simp [tfs]))
      refine ⟨cc, (He.cT K ("_law_refused", none)).2, rfl, ec ▸ tb, by simp [gb], fun p hp e1 => ?_⟩
      simp only [gb, List.mem_cons, List.not_mem_nil, or_false] at hp
      have nd := nodup_of c
      rcases hp with rfl
      · rfl⟩ hm F
end

end K00

set_option Elab.async false
set_option linter.all false
set_option maxRecDepth 100000
set_option maxHeartbeats 0
namespace K00
def Plain : Prop := ∀ ns : List Int, ns.length ≤ 63 → (∀ z ∈ ns, PySem.Builtin.Int.intBits z ≤ 1048576) → ∃ M', f_law [.scr ns] [] = .ok (.bl true) M'
end K00
open PySem PySem.W PySem.Calls PyProof.Rows
theorem k00_holds_of (plain : K00.Plain) : PySem.Challenge.rw_chancebounds_k00_ratios_and_vectors.Holds := by
  w_on; o_law
  refine HandSHeadRun.head_imp (r := OpenLaw.row PySem.Challenge.rw_chancebounds_k00_ratios_and_vectors) (q := view (OpenLaw.row PySem.Challenge.rw_chancebounds_k00_ratios_and_vectors).prog [0, 50]) (H := K00.hk) (ob := K00.ob) (M := 3000) (loose := K00.loose) (d := HandSHeadRun.topDef (OpenLaw.row PySem.Challenge.rw_chancebounds_k00_ratios_and_vectors).prog 50) (kwd := []) K00.ob_eq
    K00.run (by kernel_rfl) (by kernel_rfl) (by kernel_rfl) (by rfl) (by first | assumption | decide +kernel) (by decide +kernel) ⟨rfl, rfl, rfl, rfl, rfl, by decide +kernel⟩ ?hw ?hc
  case hw => w_witness2
  case hc =>
    refine LamX.walk_ofTsE (l := PySem.Challenge.rw_chancebounds_k00_ratios_and_vectors) (n := 63) (k := 9) (x := "script") (CX := fun w => L2.CX PySem.Challenge.rw_chancebounds_k00_ratios_and_vectors.prog w) rfl (by decide) (by kernel_rfl) ⟨rfl, by decide, by decide⟩ ?F ?X
    case X =>
      intro w H s e s' h
      obtain ⟨_, _, _, _, _, _, _, _, _, _, _, _, h⟩ := h
      exact h
    intro w mg fa h Y G hmg0
    obtain ⟨K, KX, c⟩ := Y
    have hmg : mg ("law" : PySem.Str) = some (.ref fa) := by
      have e : (HandSHeadRun.topDef (OpenLaw.row PySem.Challenge.rw_chancebounds_k00_ratios_and_vectors).prog 50).name = ("law" : PySem.Str) := by kernel_rfl
      rw [← e]
      exact hmg0
    exact ⟨K, KX, K00.lawAt plain KX G hmg c⟩

set_option maxRecDepth 100000 in
theorem PySem.Challenge.cw_chancebounds_k00_ratios_and_vectors_holds : PySem.Challenge.rw_chancebounds_k00_ratios_and_vectors.Holds := by
  exact k00_holds_of fun ns h _ => K00.law_ok h
