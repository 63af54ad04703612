import PyProof.Rows.All
import Wide.All
import OpenK.AllK
import Wide.FinOn
import HandS.ForMost
import HandS.Exc
import HandS.TryOnly
import HandS.ExcOwn
import HandS.WordsExc
import HandS.Star
import HandS.TupAny
import HandS.TupMul
import HandS.IsInst
import HandS.Style
import HandS.Flow
import HandS.Conv
import HandS.Deep
import HandS.SortInts
import HandS.Codes
import HandS.DictComp
import HandS.ListItems
import HandS.SetKeys
import HandS.SortKw
import HandS.Zip
import HandS.TupLe
import HandS.Lambda
import HandS.ClsMeth
import HandS.Property
import HandS.Defaults
import HandS.ExcSuper
import HandS.Head0
import HandS.Head1
import HandS.Head2
import HandS.HeadEnd
import HandS.HeadHook1
import HandS.HeadHook2
import KE.DataEq
import KE.GoesMore
import KE.GoesEnum
import HandS.NoneIn
import HandS.Replace
import KE.DataCmp
import KE.DataMinMax
import KE.SortData
import PyProof.Rows.RowBridgeK
import HandS.More
import HandS.TryMany
import KE.KFromBytes
import KE.KExcSuper
import HandS.ExcInit
import HandS.ExcField
import HandS.Nested
import HandS.ExcIs
import KE.KExcIs
import HandS.Strs
import HandS.SetFor
import KE.KTupSum
import PySem.Challenge.RW_tidebase_k01_whole_rows
section
set_option Elab.async false
set_option linter.all false
set_option maxRecDepth 100000
/-! L3: plain values (PV), plain environments, a plain store; what a heap bears of them; the judgements «this text computes that plain function». -/
namespace L3
open PySem PySem.Spec L2
set_option autoImplicit false

/-- a plain value. tup, lst, dct: never changed again; ref: an object of the store; ol, od: a list, a dict that its one owner may change -/
inductive PV where
  | non | bl (b : Bool) | int (i : Int) | str (x : Str) | ty (n : String)
  | tup (xs : List PV) | lst (xs : List PV) | dct (kvs : List (Key × PV))
  | ref (n : Nat) | kl (xs : List PV)
  | xv (c : Str) (fs : List (Str × PV))
  | ol (xs : List PV) | od (kvs : List (Key × PV))

/-- never changed again -/
def fz : PV → Bool
  | .ol _ => false
  | .od _ => false
  | _ => true

/-- an object of the store -/
inductive SO where
  | ins (c : Str) (fs : List (Str × PV))
  | lst (xs : List PV)
  | dct (kvs : List (Key × PV))
abbrev Store := List SO
abbrev Env := List (Option PV)

/-- the ghost: what stands still (F), where the store's objects stand (mu), how many there are (k), what belongs to them (M) -/
structure G where
  F : Hp
  mu : Nat → Addr
  k : Nat
  M : Addr → Prop

/-- an exception that was caught, an object of the class cls with the dict d -/
def xob (a : Addr) (cls : Value) (d : Option Addr) : HO := .ext fun h => ∃ (o : Obj) (vs : Array Value), h.get? a = some o ∧ o.cls = cls ∧ o.dict = d ∧ o.data = .fields vs
section
variable (K : PySem.W.Frag)
mutual
/-- at rest: v is pv, for ever -/
inductive FR (g : G) : PV → V → Prop
  | non : FR g .non .non
  | bl (b : Bool) : FR g (.bl b) (.bl b)
  | int (i : Int) : FR g (.int i) (.int i)
  | str (x : Str) : FR g (.str x) (.str x)
  | ty (n : String) : FR g (.ty n) (.ty n)
  | tup {a : Addr} {xs : List PV} {vs : List V} : SqT K g.F a vs → FRs g xs vs → FR g (.tup xs) (.ref a)
  | lst {a : Addr} {xs : List PV} {vs : List V} : Rd g.F a (.lst vs) → FRs g xs vs → FR g (.lst xs) (.ref a)
  | dct {a : Addr} {xs : List (Key × PV)} {vs : List (Key × V)} : Rd g.F a (.dK vs) → FRk g xs vs → FR g (.dct xs) (.ref a)
  | ref {n : Nat} : n < g.k → FR g (.ref n) (.ref (g.mu n))
  | kl {a : Addr} {xs : List PV} {vs : List V} : SqL K g.F a vs → FRs g xs vs → FR g (.kl xs) (.ref a)
  | xv {a : Addr} {c : Str} {d : Option Addr} {fs : List (Str × PV)} {vs : List (Str × V)} : Rd g.F a (xob a (.ref (He.ga K c)) d) → (∀ dd, d = some dd → Rd g.F dd (.xd vs)) → (d = none → fs = []) → FRf g fs vs → FR g (.xv c fs) (.ref a)
inductive FRs (g : G) : List PV → List V → Prop
  | nil : FRs g [] []
  | cons {x : PV} {xs : List PV} {v : V} {vs : List V} : FR g x v → FRs g xs vs → FRs g (x :: xs) (v :: vs)
inductive FRk (g : G) : List (Key × PV) → List (Key × V) → Prop
  | nil : FRk g [] []
  | cons {k : Key} {x : PV} {xs : List (Key × PV)} {v : V} {vs : List (Key × V)} : FR g x v → FRk g xs vs → FRk g ((k, x) :: xs) ((k, v) :: vs)
inductive FRf (g : G) : List (Str × PV) → List (Str × V) → Prop
  | nil : FRf g [] []
  | cons {n : Str} {x : PV} {xs : List (Str × PV)} {v : V} {vs : List (Str × V)} : FR g x v → FRf g xs vs → FRf g ((n, x) :: xs) ((n, v) :: vs)
end
mutual
/-- at present: v is pv now -/
inductive OV (g : G) (H : Hp) : PV → V → Prop
  | frz {x : PV} {v : V} : FR K g x v → OV g H x v
  | ol {a : Addr} {xs : List PV} {vs : List V} : Rd H a (.lst vs) → FRs K g xs vs → OV g H (.ol xs) (.ref a)
  | od {a : Addr} {xs : List (Key × PV)} {vs : List (Key × V)} : Rd H a (.dK vs) → OVk g H xs vs → OV g H (.od xs) (.ref a)
inductive OVk (g : G) (H : Hp) : List (Key × PV) → List (Key × V) → Prop
  | nil : OVk g H [] []
  | cons {k : Key} {x : PV} {xs : List (Key × PV)} {v : V} {vs : List (Key × V)} : OV g H x v → OVk g H xs vs → OVk g H ((k, x) :: xs) ((k, v) :: vs)
end
inductive OVs (g : G) (H : Hp) : List PV → List V → Prop
  | nil : OVs g H [] []
  | cons {x : PV} {xs : List PV} {v : V} {vs : List V} : OV K g H x v → OVs g H xs vs → OVs g H (x :: xs) (v :: vs)
end

/-- what may be read in F may be read in H -/
def RdLe (F H : Hp) : Prop := ∀ a u, Rd F a u → Rd H a u
theorem RdLe.refl (F : Hp) : RdLe F F := fun _ _ h => h
theorem RdLe.trans {F H J : Hp} (a : RdLe F H) (b : RdLe H J) : RdLe F J := fun x u h => b x u (a x u h)
theorem RdLe.of_same {F H : Hp} (h : Same F H) : RdLe F H := fun a u r => by
  rcases r with r | ⟨o, r⟩
  · exact .inl (h _ _ r)
  · exact .inr ⟨o, h _ _ r⟩
theorem RdLe.sqT {K : PySem.W.Frag} {F H : Hp} (h : RdLe F H) {a : Addr} {xs : List V} (q : SqT K F a xs) : SqT K H a xs := q.elim (fun r => .inl (h _ _ r)) .inr
theorem RdLe.sqL {K : PySem.W.Frag} {F H : Hp} (h : RdLe F H) {a : Addr} {xs : List V} (q : SqL K F a xs) : SqL K H a xs := q.elim (fun r => .inl (h _ _ r)) .inr

/-- g' knows all that g knows -/
structure GLe (g g' : G) : Prop where
  f : Same g.F g'.F
  k : g.k ≤ g'.k
  m : ∀ n, n < g.k → g'.mu n = g.mu n
theorem GLe.refl (g : G) : GLe g g := ⟨Same.refl _, Nat.le_refl _, fun _ _ => rfl⟩
theorem GLe.trans {a b c : G} (h : GLe a b) (k : GLe b c) : GLe a c := ⟨h.f.trans k.f, Nat.le_trans h.k k.k, fun n hn => (k.m n (Nat.lt_of_lt_of_le hn h.k)).trans (h.m n hn)⟩

section
variable {K : PySem.W.Frag} {g g' : G} {H H' : Hp}
mutual
theorem FR.mono (h : GLe g g') : ∀ (x : PV) (v : V), FR K g x v → FR K g' x v
  | .non, _, q => by cases q; exact .non
  | .bl _, _, q => by cases q; exact .bl _
  | .int _, _, q => by cases q; exact .int _
  | .str _, _, q => by cases q; exact .str _
  | .ty _, _, q => by cases q; exact .ty _
  | .tup xs, _, q => by cases q with | tup s r => exact .tup ((RdLe.of_same h.f).sqT s) (FRs.mono h xs _ r)
  | .lst xs, _, q => by cases q with | lst s r => exact .lst (RdLe.of_same h.f _ _ s) (FRs.mono h xs _ r)
  | .dct xs, _, q => by cases q with | dct s r => exact .dct (RdLe.of_same h.f _ _ s) (FRk.mono h xs _ r)
  | .ref n, _, q => by cases q with | ref hn => rw [← h.m n hn]; exact .ref (Nat.lt_of_lt_of_le hn h.k)
  | .kl xs, _, q => by cases q with | kl s r => exact .kl ((RdLe.of_same h.f).sqL s) (FRs.mono h xs _ r)
  | .xv c fs, _, q => by cases q with | xv s r z t => exact .xv (RdLe.of_same h.f _ _ s) (fun dd e => RdLe.of_same h.f _ _ (r dd e)) z (FRf.mono h fs _ t)
  | .ol _, _, q => by cases q
  | .od _, _, q => by cases q
theorem FRs.mono (h : GLe g g') : ∀ (x : List PV) (v : List V), FRs K g x v → FRs K g' x v
  | [], _, q => by cases q; exact .nil
  | x :: xs, _, q => by cases q with | cons a b => exact .cons (FR.mono h x _ a) (FRs.mono h xs _ b)
theorem FRk.mono (h : GLe g g') : ∀ (x : List (Key × PV)) (v : List (Key × V)), FRk K g x v → FRk K g' x v
  | [], _, q => by cases q; exact .nil
  | (k, x) :: xs, _, q => by cases q with | cons a b => exact .cons (FR.mono h x _ a) (FRk.mono h xs _ b)
theorem FRf.mono (h : GLe g g') : ∀ (x : List (Str × PV)) (v : List (Str × V)), FRf K g x v → FRf K g' x v
  | [], _, q => by cases q; exact .nil
  | (k, x) :: xs, _, q => by cases q with | cons a b => exact .cons (FR.mono h x _ a) (FRf.mono h xs _ b)
end
mutual
theorem OV.mono (h : GLe g g') (hh : RdLe H H') : ∀ (x : PV) (v : V), OV K g H x v → OV K g' H' x v
  | .ol xs, _, q => by
    cases q with
    | frz z => cases z
    | ol a b => exact .ol (hh _ _ a) (FRs.mono h _ _ b)
  | .od xs, _, q => by
    cases q with
    | frz z => cases z
    | od a b => exact .od (hh _ _ a) (OVk.mono h hh xs _ b)
  | .non, _, q => by cases q with | frz z => exact .frz (FR.mono h _ _ z)
  | .bl _, _, q => by cases q with | frz z => exact .frz (FR.mono h _ _ z)
  | .int _, _, q => by cases q with | frz z => exact .frz (FR.mono h _ _ z)
  | .str _, _, q => by cases q with | frz z => exact .frz (FR.mono h _ _ z)
  | .ty _, _, q => by cases q with | frz z => exact .frz (FR.mono h _ _ z)
  | .kl _, _, q => by cases q with | frz z => exact .frz (FR.mono h _ _ z)
  | .xv _ _, _, q => by cases q with | frz z => exact .frz (FR.mono h _ _ z)
  | .tup _, _, q => by cases q with | frz z => exact .frz (FR.mono h _ _ z)
  | .lst _, _, q => by cases q with | frz z => exact .frz (FR.mono h _ _ z)
  | .dct _, _, q => by cases q with | frz z => exact .frz (FR.mono h _ _ z)
  | .ref _, _, q => by cases q with | frz z => exact .frz (FR.mono h _ _ z)
theorem OVk.mono (h : GLe g g') (hh : RdLe H H') : ∀ (x : List (Key × PV)) (v : List (Key × V)), OVk K g H x v → OVk K g' H' x v
  | [], _, q => by cases q; exact .nil
  | (k, x) :: xs, _, q => by cases q with | cons a b => exact .cons (OV.mono h hh x _ a) (OVk.mono h hh xs _ b)
end
theorem OVs.mono (h : GLe g g') (hh : RdLe H H') : ∀ {x : List PV} {v : List V}, OVs K g H x v → OVs K g' H' x v
  | _, _, .nil => .nil
  | _, _, .cons a b => .cons (OV.mono h hh _ _ a) (OVs.mono h hh b)
theorem OV.fr {x : PV} {v : V} (q : OV K g H x v) (h : fz x = true) : FR K g x v := by
  cases q with
  | frz z => exact z
  | ol _ _ => cases h
  | od _ _ => cases h
theorem FRs.length {x : List PV} {v : List V} (q : FRs K g x v) : x.length = v.length := by
  induction x generalizing v with
  | nil => cases q; rfl
  | cons a r ih => cases q with | cons _ b => simp [ih b]
theorem FRs.ovs {x : List PV} {v : List V} (q : FRs K g x v) : OVs K g H x v := by
  induction x generalizing v with
  | nil => cases q; exact .nil
  | cons a r ih => cases q with | cons c b => exact .cons (.frz c) (ih b)
theorem OVs.frs {x : List PV} {v : List V} (q : OVs K g H x v) (h : x.all fz = true) : FRs K g x v := by
  induction x generalizing v with
  | nil => cases q; exact .nil
  | cons a r ih =>
    cases q with
    | cons c b =>
      simp only [List.all_cons, Bool.and_eq_true] at h
      exact .cons (c.fr h.1) (ih b h.2)
theorem FRs.get {x : List PV} {v : List V} (q : FRs K g x v) : ∀ {i : Nat} {p : PV}, x[i]? = some p → ∃ u, v[i]? = some u ∧ FR K g p u := by
  induction x generalizing v with
  | nil => intro i p h; simp at h
  | cons a r ih =>
    cases q with
    | cons c b =>
      intro i p h
      cases i with
      | zero => simp at h; subst h; exact ⟨_, rfl, c⟩
      | succ i => simpa using ih b (by simpa using h)
theorem FRs.append {x y : List PV} {v w : List V} (q : FRs K g x v) (r : FRs K g y w) : FRs K g (x ++ y) (v ++ w) := by
  induction x generalizing v with
  | nil => cases q; exact r
  | cons a t ih => cases q with | cons c b => exact .cons c (ih b)
theorem FRs.take {x : List PV} {v : List V} (q : FRs K g x v) (n : Nat) : FRs K g (x.take n) (v.take n) := by
  induction n generalizing x v with
  | zero => simp; exact .nil
  | succ n ih =>
    cases q with
    | nil => simp; exact .nil
    | cons c b => simp only [List.take_succ_cons]; exact .cons c (ih b)
theorem FRs.drop {x : List PV} {v : List V} (q : FRs K g x v) (n : Nat) : FRs K g (x.drop n) (v.drop n) := by
  induction n generalizing x v with
  | zero => exact q
  | succ n ih =>
    cases q with
    | nil => simp; exact .nil
    | cons c b => simp only [List.drop_succ_cons]; exact ih b
theorem FRs.reverse {x : List PV} {v : List V} (q : FRs K g x v) : FRs K g x.reverse v.reverse := by
  induction x generalizing v with
  | nil => cases q; exact .nil
  | cons a t ih =>
    cases q with
    | cons c b =>
      simp only [List.reverse_cons]
      exact (ih b).append (.cons c .nil)
end

/-- the fields of an instance, its class's name c standing at C -/
inductive OVf (K : PySem.W.Frag) (g : G) (H : Hp) : List (Str × PV) → List (Str × V) → Prop
  | nil : OVf K g H [] []
  | cons {n : Str} {x : PV} {xs : List (Str × PV)} {v : V} {vs : List (Str × V)} : OV K g H x v → OVf K g H xs vs → OVf K g H ((n, x) :: xs) ((n, v) :: vs)
theorem OVf.mono {K : PySem.W.Frag} {g g' : G} {H H' : Hp} (h : GLe g g') (hh : RdLe H H') : ∀ {x : List (Str × PV)} {v : List (Str × V)}, OVf K g H x v → OVf K g' H' x v
  | _, _, .nil => .nil
  | _, _, .cons a b => .cons (OV.mono h hh _ _ a) (OVf.mono h hh b)
/-- an object of the store, as it may be read -/
def SOr (K : PySem.W.Frag) (g : G) (H : Hp) (a : Addr) : SO → Prop
  | .ins c fs => ∃ dx vs, H a = some (.ins (He.ga K c) dx vs) ∧ OVf K g H fs vs
  | .lst xs => ∃ vs, Rd H a (.lst vs) ∧ FRs K g xs vs
  | .dct kvs => ∃ vs, Rd H a (.dK vs) ∧ OVk K g H kvs vs
theorem SOr.mono {K : PySem.W.Frag} {g g' : G} {H H' : Hp} {a : Addr} (h : GLe g g') (hh : Same H H') : ∀ {o : SO}, SOr K g H a o → SOr K g' H' a o
  | .ins c fs, ⟨dx, vs, e, q⟩ => ⟨dx, vs, hh _ _ e, q.mono h (RdLe.of_same hh)⟩
  | .lst xs, ⟨vs, e, q⟩ => ⟨vs, RdLe.of_same hh _ _ e, FRs.mono h _ _ q⟩
  | .dct xs, ⟨vs, e, q⟩ => ⟨vs, RdLe.of_same hh _ _ e, OVk.mono h (RdLe.of_same hh) _ _ q⟩
/-- the heap bears the ghost and the store, to be read -/
structure WR (K : PySem.W.Frag) (g : G) (S : Store) (H : Hp) : Prop where
  f : RdLe g.F H
  k : S.length ≤ g.k
  s : ∀ (n : Nat) (o : SO), S[n]? = some o → SOr K g H (g.mu n) o

/-- the heap has grown; what was there stands; what is at rest now was at rest, or is new -/
structure Grow (g : G) (H : Hp) (g' : G) (H' : Hp) : Prop where
  le : GLe g g'
  mu : g'.mu = g.mu
  k : g'.k = g.k
  m : g'.M = g.M
  h : Same H H'
  f : RdLe g'.F H'
  n : ∀ a, g'.F a ≠ none → g.F a ≠ none ∨ H a = none
theorem Grow.refl {K : PySem.W.Frag} {g : G} {S : Store} {H : Hp} (w : WR K g S H) : Grow g H g H := ⟨.refl _, rfl, rfl, rfl, Same.refl _, w.f, fun _ h => .inl h⟩
theorem Grow.trans {a b c : G} {H J L : Hp} (x : Grow a H b J) (y : Grow b J c L) : Grow a H c L :=
  ⟨x.le.trans y.le, y.mu.trans x.mu, y.k.trans x.k, y.m.trans x.m, x.h.trans y.h, y.f, fun p h => (y.n p h).elim (x.n p) fun q => .inr (x.h.free q)⟩
theorem Grow.wr {K : PySem.W.Frag} {a b : G} {S : Store} {H J : Hp} (x : Grow a H b J) (w : WR K a S H) : WR K b S J :=
  ⟨x.f, by rw [x.k]; exact w.k, fun n o e => by rw [x.mu]; exact (w.s n o e).mono x.le x.h⟩
theorem Grow.ov {K : PySem.W.Frag} {a b : G} {H J : Hp} (x : Grow a H b J) {p : PV} {v : V} (q : OV K a H p v) : OV K b J p v := OV.mono x.le (RdLe.of_same x.h) _ _ q
theorem Grow.fr {K : PySem.W.Frag} {a b : G} {H J : Hp} (x : Grow a H b J) {p : PV} {v : V} (q : FR K a p v) : FR K b p v := FR.mono x.le _ _ q
theorem Grow.ovs {K : PySem.W.Frag} {a b : G} {H J : Hp} (x : Grow a H b J) {p : List PV} {v : List V} (q : OVs K a H p v) : OVs K b J p v := OVs.mono x.le (RdLe.of_same x.h) q
theorem Grow.frs {K : PySem.W.Frag} {a b : G} {H J : Hp} (x : Grow a H b J) {p : List PV} {v : List V} (q : FRs K a p v) : FRs K b p v := FRs.mono x.le _ _ q
/-- a new object that stands still from now on -/
theorem Grow.laid {K : PySem.W.Frag} {g : G} {S : Store} {H : Hp} (w : WR K g S H) {p : Addr} {o : HO} (hp : H p = none) : Grow g H { g with F := upd g.F p o } (upd H p o) := by
  have fp : g.F p = none := by
    cases e : g.F p with
    | none => rfl
    | some u =>
      rcases w.f p u (.inl e) with q | ⟨_, q⟩ <;> rw [hp] at q <;> cases q
  refine ⟨⟨fun b u e => ?_, Nat.le_refl _, fun _ _ => rfl⟩, rfl, rfl, rfl, fun b u e => ?_, fun b u e => ?_, fun b e => ?_⟩
  · show upd g.F p o b = some u
    rw [upd_ne (ne_of_none e fp)]; exact e
  · rw [upd_ne (ne_of_none e hp)]; exact e
  · by_cases hb : b = p
    · subst hb
      rcases e with e | ⟨ob, e⟩
      · have e : upd g.F b o b = some u := e
        rw [upd_same] at e; exact .inl (by rw [upd_same]; exact e)
      · have e : upd g.F b o b = some (.frz ob u) := e
        rw [upd_same] at e; exact .inr ⟨ob, by rw [upd_same]; exact e⟩
    · have e' : Rd g.F b u := by
        rcases e with e | ⟨ob, e⟩
        · have e : upd g.F p o b = some u := e
          rw [upd_ne hb] at e; exact .inl e
        · have e : upd g.F p o b = some (.frz ob u) := e
          rw [upd_ne hb] at e; exact .inr ⟨ob, e⟩
      rcases w.f b u e' with q | ⟨ob, q⟩
      · exact .inl (by rw [upd_ne hb]; exact q)
      · exact .inr ⟨ob, by rw [upd_ne hb]; exact q⟩
  · by_cases hb : b = p
    · subst hb; exact .inr hp
    · left
      have e : upd g.F p o b ≠ none := e
      rw [upd_ne hb] at e; exact e
/-- a new object that an owner may change -/
theorem Grow.loose {K : PySem.W.Frag} {g : G} {S : Store} {H : Hp} (w : WR K g S H) {p : Addr} {o : HO} (hp : H p = none) : Grow g H g (upd H p o) := by
  have hs : Same H (upd H p o) := fun b u e => by rw [upd_ne (ne_of_none e hp)]; exact e
  exact ⟨.refl _, rfl, rfl, rfl, hs, w.f.trans (RdLe.of_same hs), fun b e => .inl e⟩

/-- one slot -/
def SlR (K : PySem.W.Frag) (g : G) (H : Hp) (v : V) : PV → Prop
  | .ol xs => ∃ a vs, v = .ref a ∧ H a = some (.lst vs) ∧ FRs K g xs vs ∧ g.F a = none
  | .od kvs => ∃ a vs, v = .ref a ∧ H a = some (.dK vs) ∧ FRk K g kvs vs ∧ g.F a = none
  | x => FR K g x v
theorem SlR.ov {K : PySem.W.Frag} {g : G} {H : Hp} {v : V} : ∀ {x : PV}, SlR K g H v x → OV K g H x v
  | .ol xs, ⟨a, vs, e, h, q, _⟩ => by subst e; exact .ol (.inl h) q
  | .od xs, ⟨a, vs, e, h, q, _⟩ => by
    subst e
    have z : ∀ {xs : List (Key × PV)} {vs : List (Key × V)}, FRk K g xs vs → OVk K g H xs vs := fun {xs} => by
      induction xs with
      | nil => intro vs q; cases q; exact .nil
      | cons a r ih => intro vs q; cases q with | cons c d => exact .cons (.frz c) (ih d)
    exact .od (.inl h) (z q)
  | .non, h => .frz h | .bl _, h => .frz h | .int _, h => .frz h | .str _, h => .frz h | .ty _, h => .frz h
  | .tup _, h => .frz h | .lst _, h => .frz h | .dct _, h => .frz h | .ref _, h => .frz h | .kl _, h => .frz h | .xv _ _, h => .frz h
theorem SlR.of_fr {K : PySem.W.Frag} {g : G} {H : Hp} {v : V} {x : PV} (h : FR K g x v) : SlR K g H v x := by
  cases h
  all_goals first
    | exact FR.non | exact FR.bl _ | exact FR.int _ | exact FR.str _ | exact FR.ty _ | exact FR.tup (by assumption) (by assumption) | exact FR.lst (by assumption) (by assumption) | exact FR.dct (by assumption) (by assumption) | exact FR.ref (by assumption) | exact FR.kl (by assumption) (by assumption) | exact FR.xv (by assumption) (by assumption) (by assumption) (by assumption)
theorem Grow.none {a b : G} {H J : Hp} (x : Grow a H b J) {p : Addr} {o : HO} (h : H p = some o) (e : a.F p = none) : b.F p = none := by
  cases q : b.F p with
  | none => rfl
  | some u =>
    rcases x.n p (by rw [q]; simp) with z | z
    · exact absurd e z
    · rw [h] at z; cases z
theorem SlR.mono {K : PySem.W.Frag} {g g' : G} {H H' : Hp} {v : V} (r : Grow g H g' H') : ∀ {x : PV}, SlR K g H v x → SlR K g' H' v x
  | .ol xs, ⟨a, vs, e, h, q, f⟩ => ⟨a, vs, e, r.h _ _ h, FRs.mono r.le _ _ q, r.none h f⟩
  | .od xs, ⟨a, vs, e, h, q, f⟩ => ⟨a, vs, e, r.h _ _ h, FRk.mono r.le _ _ q, r.none h f⟩
  | .non, h => FR.mono r.le _ _ h | .bl _, h => FR.mono r.le _ _ h | .int _, h => FR.mono r.le _ _ h | .str _, h => FR.mono r.le _ _ h | .ty _, h => FR.mono r.le _ _ h
  | .tup _, h => FR.mono r.le _ _ h | .lst _, h => FR.mono r.le _ _ h | .dct _, h => FR.mono r.le _ _ h | .ref _, h => FR.mono r.le _ _ h | .kl _, h => FR.mono r.le _ _ h | .xv _ _, h => FR.mono r.le _ _ h
/-- the slots -/
structure EnvR (K : PySem.W.Frag) (g : G) (H : Hp) (σ : St) (ρ : Env) : Prop where
  len : ρ.length = σ.length
  at_ : ∀ (i : Nat) (x : PV), ρ[i]? = some (some x) → ∃ v, σ[i]? = some (some v) ∧ SlR K g H v x
  inj : ∀ (i j : Nat) (x y : PV) (v : V), ρ[i]? = some (some x) → ρ[j]? = some (some y) → fz x = false → fz y = false → σ[i]? = some (some v) → σ[j]? = some (some v) → i = j
theorem EnvR.mono {K : PySem.W.Frag} {g g' : G} {H H' : Hp} {σ : St} {ρ : Env} (e : EnvR K g H σ ρ) (r : Grow g H g' H') : EnvR K g' H' σ ρ :=
  ⟨e.len, fun i x h => by obtain ⟨v, q, z⟩ := e.at_ i x h; exact ⟨v, q, z.mono r⟩, e.inj⟩
end L3

end
section
set_option Elab.async false
set_option linter.all false
set_option maxRecDepth 100000
set_option maxHeartbeats 4000000
namespace L3
open PySem PySem.Spec L2
set_option autoImplicit false

/-- a result: a value, or an own exception by its class's name and fields -/
inductive Res (α : Type) where
  | ok (a : α)
  | ex (c : Str) (fs : List (Str × PV))
abbrev M (α : Type) := Option (Res α)
def mb {α β : Type} (x : M α) (f : α → M β) : M β := match x with
  | some (.ok a) => f a
  | some (.ex c fs) => some (.ex c fs)
  | none => none
def mo {α : Type} (x : Option α) : M α := match x with
  | some a => some (.ok a)
  | none => none
abbrev Ex := Env → Store → M PV
abbrev Te := Env → Store → M Bool
abbrev Ar := Env → Store → M (List PV)
abbrev WX0 : WX := fun _ _ _ _ => False

/-- an exception of the class c with these fields -/
def XR (K : PySem.W.Frag) (g : G) (H : Hp) (c : Str) (fs : List (Str × PV)) (cls : Value) (d : Option Addr) : Prop :=
  cls = .ref (He.ga K c) ∧ ((fs = [] ∧ d = none) ∨ ∃ dd vs, d = some dd ∧ Rd g.F dd (.xd vs) ∧ FRf K g fs vs)
/-- what is wanted of a result -/
def Po {α β : Type} (K : PySem.W.Frag) (R : G → Hp → α → β → Prop) (g : G) (H : Hp) (σ : St) (W : WX) (Q : β → Hp → Prop) : Res α → Prop
  | .ok r => ∀ v g' H', Grow g H g' H' → R g' H' r v → Q v H'
  | .ex c fs => ∀ cls d g' H', Grow g H g' H' → XR K g' H' c fs cls d → W cls d σ H'
/-- «this reading is reached by that plain function» -/
def Rch {α β : Type} (K : PySem.W.Frag) (R : G → Hp → α → β → Prop) (W : WX) (t : St → Hp → (β → Hp → Prop) → Prop) (m : Env → Store → M α) : Prop :=
  ∀ (σ : St) (H : Hp) (g : G) (S : Store) (ρ : Env) (Q : β → Hp → Prop) (r : Res α), WR K g S H → EnvR K g H σ ρ → m ρ S = some r → Po K R g H σ W Q r → t σ H Q
abbrev RV (K : PySem.W.Frag) : G → Hp → PV → V → Prop := fun g H r v => OV K g H r v
abbrev RB : G → Hp → Bool → Bool → Prop := fun _ _ r v => r = v
abbrev RL (K : PySem.W.Frag) : G → Hp → List PV → List V → Prop := fun g H r v => OVs K g H r v
structure SimE (X : Cx) (W : WX) (e : Expr) (m : Ex) : Prop where
  ex : ∃ t : TE, PE X e t ∧ Rch X.K (RV X.K) W t m
structure SimT (X : Cx) (W : WX) (e : Expr) (m : Te) : Prop where
  ex : ∃ t : TT, PT X e t ∧ Rch X.K RB W t m
structure SimW (X : Cx) (W : WX) (e : Expr) (m : Te) : Prop where
  ex : ∃ t : TT, PW X e t ∧ Rch X.K RB W t m
structure SimA (X : Cx) (W : WX) (es : List Expr) (m : Ar) : Prop where
  ex : ∃ t : TA, PA X es t ∧ Rch X.K (RL X.K) W t m

section
variable {K : PySem.W.Frag} {α β γ δ : Type} {R : G → Hp → α → β → Prop} {R' : G → Hp → γ → δ → Prop} {W : WX}
/-- one reading, then another -/
theorem Rch.bind {t : St → Hp → (β → Hp → Prop) → Prop} {m : Env → Store → M α} (h : Rch K R W t m) {k : α → Env → Store → M γ}
    {tk : β → St → Hp → (δ → Hp → Prop) → Prop}
    (hk : ∀ (a : α) (b : β) (σ : St) (H : Hp) (g : G) (S : Store) (ρ : Env) (Q : δ → Hp → Prop) (r : Res γ), WR K g S H → EnvR K g H σ ρ → R g H a b → k a ρ S = some r → Po K R' g H σ W Q r → tk b σ H Q) :
    Rch K R' W (fun σ H Q => t σ H fun x H1 => tk x σ H1 Q) (fun ρ S => mb (m ρ S) fun a => k a ρ S) := by
  intro σ H g S ρ Q r w e hm po
  have hm : mb (m ρ S) (fun a => k a ρ S) = some r := hm
  cases q : m ρ S with
  | none => rw [q] at hm; cases hm
  | some res =>
    rw [q] at hm
    cases res with
    | ok a =>
      refine h σ H g S ρ _ (.ok a) w e q fun v g' H' gr rv => ?_
      refine hk a v σ H' g' S ρ Q r (gr.wr w) (e.mono gr) rv hm ?_
      cases r with
      | ok z => exact fun v2 g2 H2 gr2 r2 => po v2 g2 H2 (gr.trans gr2) r2
      | ex c fs => exact fun cls d g2 H2 gr2 x2 => po cls d g2 H2 (gr.trans gr2) x2
    | ex c fs =>
      have e2 : r = .ex c fs := (Option.some.inj hm).symm
      subst e2
      exact h σ H g S ρ _ (.ex c fs) w e q po
end

/-- an operation on plain values, and the layer's rule for it -/
def OpOk (K : PySem.W.Frag) (op : PV → PV → Option PV) (r : R2) : Prop :=
  ∀ (g : G) (S : Store) (H : Hp) (x y z : PV) (u v : V) (Q : VK), WR K g S H → OV K g H x u → OV K g H y v → op x y = some z → (∀ w g' H', Grow g H g' H' → OV K g' H' z w → Q w H') → r u v H Q
def oE (a b : PV → PV → Option PV) : PV → PV → Option PV := fun x y => match a x y with
  | some z => some z
  | none => b x y
theorem OpOk.or {K : PySem.W.Frag} {a b : PV → PV → Option PV} {r r' : R2} (h : OpOk K a r) (h' : OpOk K b r') : OpOk K (oE a b) (fun x y H Q => r x y H Q ∨ r' x y H Q) := by
  intro g S H x y z u v Q w hx hy e q
  unfold oE at e
  cases c : a x y with
  | some t =>
    rw [c] at e
    exact .inl (h g S H x y z u v Q w hx hy (c.trans e) q)
  | none =>
    rw [c] at e
    exact .inr (h' g S H x y z u v Q w hx hy e q)
/-- .. on one value; on a list of arguments; a method -/
def UnOk (K : PySem.W.Frag) (op : PV → Option PV) (r : V → Hp → VK → Prop) : Prop :=
  ∀ (g : G) (S : Store) (H : Hp) (x z : PV) (u : V) (Q : VK), WR K g S H → OV K g H x u → op x = some z → (∀ w g' H', Grow g H g' H' → OV K g' H' z w → Q w H') → r u H Q
def CallOk (K : PySem.W.Frag) (op : List PV → Option PV) (r : List V → Hp → VK → Prop) : Prop :=
  ∀ (g : G) (S : Store) (H : Hp) (xs : List PV) (z : PV) (us : List V) (Q : VK), WR K g S H → OVs K g H xs us → op xs = some z → (∀ w g' H', Grow g H g' H' → OV K g' H' z w → Q w H') → r us H Q
def MtOk (K : PySem.W.Frag) (op : PV → List PV → Option PV) (r : V → List V → Hp → VK → Prop) : Prop :=
  ∀ (g : G) (S : Store) (H : Hp) (x : PV) (xs : List PV) (z : PV) (u : V) (us : List V) (Q : VK), WR K g S H → OV K g H x u → OVs K g H xs us → op x xs = some z → (∀ w g' H', Grow g H g' H' → OV K g' H' z w → Q w H') → r u us H Q

section
variable {X : Cx} {W : WX} {a b c e : Expr} {es rest : List Expr} {pos : Pos}

/-! ### names, constants -/
def xVar (i : Nat) : Ex := fun ρ _ => match ρ[i]? with
  | some (some x) => some (.ok x)
  | _ => none
theorem e_var {i : Nat} {x : Str} (hN : X.N[i]? = some x) (hv : Vis X.env.scope x) (hd : (x == ("__debug__" : Str)) = false := by decide) (hcd : (x == ("__classdict__" : Str)) = false := by decide) : SimE X W (.Name x pos) (xVar i) := by
  refine ⟨_, pe_var hN hv hd hcd, fun σ H g S ρ Q r w er hm po => ?_⟩
  unfold xVar at hm
  split at hm
  · rename_i y hy
    cases hm
    obtain ⟨v, hv, sl⟩ := er.at_ i y hy
    exact ⟨v, hv, po v g H (.refl w) sl.ov⟩
  · cases hm
def xC (x : PV) : Ex := fun _ _ => some (.ok x)
theorem c_of {t : TE} {v : V} {x : PV} (h : PE X e t) (ht : t = tC v) (hx : ∀ g, FR X.K g x v) : SimE X W e (xC x) := by
  subst ht
  refine ⟨_, h, fun σ H g S ρ Q r w er hm po => ?_⟩
  cases hm
  exact po v g H (.refl w) (.frz (hx g))
theorem e_int {i : Int} {j : Nat} : SimE X W (.Constant (.int i) j pos) (xC (.int i)) := c_of pe_int rfl fun _ => .int i
theorem e_bl {i : Bool} {j : Nat} : SimE X W (.Constant (.bool i) j pos) (xC (.bl i)) := c_of pe_bl rfl fun _ => .bl i
theorem e_non {j : Nat} : SimE X W (.Constant .none j pos) (xC .non) := c_of pe_non rfl fun _ => .non
theorem e_str {x : Str} {j : Nat} : SimE X W (.Constant (.str x) j pos) (xC (.str x)) := c_of pe_str rfl fun _ => .str x
/-- a module's constant -/
structure Con (X : Cx) (x : Str) (p : PV) : Prop where
  ex : ∃ u v, X.mg x = some u ∧ RelV v u ∧ ∀ g, FR X.K g p v
theorem e_con {x : Str} {p : PV} (hg : Gl X x) (hc : Con X x p) (hd : (x == ("__debug__" : Str)) = false := by decide) : SimE X W (.Name x pos) (xC p) := by
  obtain ⟨u, v, hm, r, hf⟩ := hc.ex
  exact c_of (pe_glob hg hm r hd) rfl hf
theorem e_ty {x : Str} {T : String} (hg : Gl X x) (hm : X.mg x = none) (hv : bootBuiltins x = some (.type T)) (hn : x ≠ "__name__" := by decide) (hd : (x == ("__debug__" : Str)) = false := by decide) : SimE X W (.Name x pos) (xC (.ty T)) :=
  c_of (pe_bltn (v := .ty T) hg hm hv rfl hn hd) rfl fun _ => .ty T

/-! ### operators -/
def xOp (op : PV → PV → Option PV) (ma mb' : Ex) : Ex := fun ρ S => mb (ma ρ S) fun x => mb (mb' ρ S) fun y => mo (op x y)
theorem rch_op {r : R2} {op : PV → PV → Option PV} {ta tb : TE} {ma mb' : Ex} (hk : OpOk X.K op r) (ha : Rch X.K (RV X.K) W ta ma) (hb : Rch X.K (RV X.K) W tb mb') : Rch X.K (RV X.K) W (tOp r ta tb) (xOp op ma mb') := by
  refine Rch.bind (k := fun x ρ S => mb (mb' ρ S) fun y => mo (op x y)) ha fun x u σ H g S ρ Q res w er hx hm po => ?_
  cases q : mb' ρ S with
  | none => rw [q] at hm; cases hm
  | some r2 =>
    rw [q] at hm
    cases r2 with
    | ex c fs =>
      have e2 : res = .ex c fs := (Option.some.inj hm).symm
      subst e2
      exact hb σ H g S ρ _ (.ex c fs) w er q po
    | ok y =>
      refine hb σ H g S ρ _ (.ok y) w er q fun v g' H' gr hy => ?_
      have hm : mo (op x y) = some res := hm
      cases z : op x y with
      | none => rw [z] at hm; cases hm
      | some zz =>
        rw [z] at hm
        have e2 : res = .ok zz := (Option.some.inj hm).symm
        subst e2
        exact hk g' S H' x y zz u v Q (gr.wr w) (gr.ov hx) hy z fun w2 g2 H2 gr2 r2 => po w2 g2 H2 (gr.trans gr2) r2
theorem e_op {o : Operator} {r : R2} {op : PV → PV → Option PV} {ma mb' : Ex} (ho : OpR X (binaryOp o) r) (hk : OpOk X.K op r) (ha : SimE X W a ma) (hb : SimE X W b mb') : SimE X W (.BinOp a o b pos) (xOp op ma mb') := by
  obtain ⟨ta, pa, ra⟩ := ha.ex
  obtain ⟨tb, pb, rb⟩ := hb.ex
  exact ⟨_, pe_op ho pa pb, rch_op hk ra rb⟩
theorem e_cmp {o : CmpOp} {r : R2} {op : PV → PV → Option PV} {ma mb' : Ex} (ho : OpR X (compareOp o) r) (hk : OpOk X.K op r) (ha : SimE X W a ma) (hb : SimE X W b mb') (hm : behindInMarks o b = false) : SimE X W (.Compare a [o] [b] pos) (xOp op ma mb') := by
  obtain ⟨ta, pa, ra⟩ := ha.ex
  obtain ⟨tb, pb, rb⟩ := hb.ex
  exact ⟨_, pe_cmpR ho pa pb hm, rch_op hk ra rb⟩
/-- a bool as a test -/
def bT (m : Ex) : Te := fun ρ S => mb (m ρ S) fun x => match x with
  | .bl k => some (.ok k)
  | _ => none
theorem rch_bT {t : TE} {m : Ex} (h : Rch X.K (RV X.K) W t m) : Rch X.K RB W (fun σ H Q => t σ H fun x H1 => ∃ c, x = .bl c ∧ Q c H1) (bT m) := by
  refine Rch.bind (k := fun x _ _ => match x with | .bl k => some (.ok k) | _ => none) (tk := fun x _ H1 Q => ∃ c, x = .bl c ∧ Q c H1) h fun x u σ H g S ρ Q res w er hx hm po => ?_
  cases x with
  | bl k =>
    cases hm
    have z := hx.fr rfl
    cases z
    exact ⟨k, rfl, po k g H (.refl w) rfl⟩
  | _ => cases hm
theorem t_cmp {o : CmpOp} {r : R2} {op : PV → PV → Option PV} {ma mb' : Ex} (ho : OpR X (compareOp o) r) (hk : OpOk X.K op r) (ha : SimE X W a ma) (hb : SimE X W b mb') (hm : behindInMarks o b = false) : SimT X W (.Compare a [o] [b] pos) (bT (xOp op ma mb')) := by
  obtain ⟨ta, pa, ra⟩ := ha.ex
  obtain ⟨tb, pb, rb⟩ := hb.ex
  exact ⟨_, pt_cmpR ho pa pb hm, rch_bT (rch_op hk ra rb)⟩
theorem t_val {m : Ex} (h : SimE X W e m) (he : ∀ whole, isTrue e X.env whole = (do let v ← whole; standAt e.pos; holding [v] (truthy v)) := by intro _; rfl) : SimT X W e (bT m) := by
  obtain ⟨t, p, r⟩ := h.ex
  exact ⟨_, pt_val p he, rch_bT r⟩
def xUn (op : PV → Option PV) (m : Ex) : Ex := fun ρ S => mb (m ρ S) fun x => mo (op x)
theorem rch_un {r : V → Hp → VK → Prop} {op : PV → Option PV} {t : TE} {m : Ex} (hk : UnOk X.K op r) (h : Rch X.K (RV X.K) W t m) : Rch X.K (RV X.K) W (fun σ H Q => t σ H fun x H1 => r x H1 Q) (xUn op m) := by
  refine Rch.bind (k := fun x _ _ => mo (op x)) (tk := fun x _ H1 Q => r x H1 Q) h fun x u σ H g S ρ Q res w er hx hm po => ?_
  cases z : op x with
  | none => rw [z] at hm; cases hm
  | some zz =>
    rw [z] at hm
    have e2 : res = .ok zz := (Option.some.inj hm).symm
    subst e2
    exact hk g S H x zz u Q w hx z po
theorem e_un {o : UnaryOp} {r : V → Hp → VK → Prop} {op : PV → Option PV} {m : Ex} (ho : UnR X (unaryOp o) r) (hk : UnOk X.K op r) (h : SimE X W a m) : SimE X W (.UnaryOp o a pos) (xUn op m) := by
  obtain ⟨t, p, q⟩ := h.ex
  exact ⟨tUn r t, pe_un ho p, rch_un (r := r) hk q⟩
/-- a op b op' c -/
def xChain (op op' : PV → PV → Option PV) (ma mb' mc : Ex) : Ex := fun ρ S => mb (ma ρ S) fun x => mb (mb' ρ S) fun y => match op x y with
  | some (.bl true) => mb (mc ρ S) fun z => mo (op' y z)
  | some (.bl false) => some (.ok (.bl false))
  | _ => none
theorem rch_chain {r r' : R2} {op op' : PV → PV → Option PV} {ta tb tc : TE} {ma mb' mc : Ex} (hk : OpOk X.K op r) (hk' : OpOk X.K op' r') (ha : Rch X.K (RV X.K) W ta ma) (hb : Rch X.K (RV X.K) W tb mb') (hc : Rch X.K (RV X.K) W tc mc) :
    Rch X.K (RV X.K) W (tChain r r' ta tb tc) (xChain op op' ma mb' mc) := by
  refine Rch.bind (tk := fun x σ H1 Q => tb σ H1 fun y H2 => r x y H2 fun z H3 => ∃ k, z = .bl k ∧ (if k = true then tc σ H3 fun w' H4 => r' y w' H4 Q else Q (.bl false) H3)) (k := fun x ρ S => mb (mb' ρ S) fun y => match op x y with
    | some (.bl true) => mb (mc ρ S) fun z => mo (op' y z)
    | some (.bl false) => some (.ok (.bl false))
    | _ => none) ha fun x u σ H g S ρ Q res w er hx hm po => ?_
  cases q : mb' ρ S with
  | none => rw [q] at hm; cases hm
  | some r2 =>
    rw [q] at hm
    cases r2 with
    | ex c fs =>
      have e2 : res = .ex c fs := (Option.some.inj hm).symm
      subst e2
      exact hb σ H g S ρ _ (.ex c fs) w er q po
    | ok y =>
      refine hb σ H g S ρ _ (.ok y) w er q fun v g' H' gr hy => ?_
      have hm : (match op x y with
        | some (.bl true) => mb (mc ρ S) fun z => mo (op' y z)
        | some (.bl false) => some (.ok (.bl false))
        | _ => none) = some res := hm
      split at hm
      · rename_i z
        refine hk g' S H' x y _ u v _ (gr.wr w) (gr.ov hx) hy z fun w2 g2 H2 gr2 r2 => ?_
        cases r2.fr rfl
        refine ⟨true, rfl, ?_⟩
        rw [if_pos rfl]
        cases q3 : mc ρ S with
        | none => rw [q3] at hm; cases hm
        | some r3 =>
          rw [q3] at hm
          cases r3 with
          | ex c fs =>
            have e2 : res = .ex c fs := (Option.some.inj hm).symm
            subst e2
            exact hc σ H2 g2 S ρ _ (.ex c fs) (gr2.wr (gr.wr w)) ((er.mono gr).mono gr2) q3 fun cls d g4 H4 gr4 x4 => po cls d g4 H4 ((gr.trans gr2).trans gr4) x4
          | ok zc =>
            refine hc σ H2 g2 S ρ _ (.ok zc) (gr2.wr (gr.wr w)) ((er.mono gr).mono gr2) q3 fun v3 g3 H3 gr3 hz => ?_
            have hm : mo (op' y zc) = some res := hm
            cases z4 : op' y zc with
            | none => rw [z4] at hm; cases hm
            | some zz =>
              rw [z4] at hm
              have e2 : res = .ok zz := (Option.some.inj hm).symm
              subst e2
              exact hk' g3 S H3 y zc zz v v3 Q (gr3.wr (gr2.wr (gr.wr w))) (gr3.ov (gr2.ov hy)) hz z4 fun w5 g5 H5 gr5 r5 => po w5 g5 H5 (((gr.trans gr2).trans gr3).trans gr5) r5
      · rename_i z
        cases hm
        refine hk g' S H' x y _ u v _ (gr.wr w) (gr.ov hx) hy z fun w2 g2 H2 gr2 r2 => ?_
        cases r2.fr rfl
        refine ⟨false, rfl, ?_⟩
        rw [if_neg Bool.false_ne_true]
        exact po _ g2 H2 (gr.trans gr2) (.frz (.bl false))
      · cases hm
theorem e_chain {o o' : CmpOp} {r r' : R2} {op op' : PV → PV → Option PV} {ma mb' mc : Ex} (ho : OpR X (compareOp o) r) (ho' : OpR X (compareOp o') r') (hk : OpOk X.K op r) (hk' : OpOk X.K op' r') (ha : SimE X W a ma) (hb : SimE X W b mb') (hc : SimE X W c mc)
    (hm : lastMarks [o, o'] [b, c] = false := by with_unfolding_all rfl) : SimE X W (.Compare a [o, o'] [b, c] pos) (xChain op op' ma mb' mc) := by
  obtain ⟨ta, pa, ra⟩ := ha.ex
  obtain ⟨tb, pb, rb⟩ := hb.ex
  obtain ⟨tc, pc, rc⟩ := hc.ex
  exact ⟨_, pe_chain ho ho' pa pb pc hm, rch_chain hk hk' ra rb rc⟩
theorem t_chain {o o' : CmpOp} {r r' : R2} {op op' : PV → PV → Option PV} {ma mb' mc : Ex} (ho : OpR X (compareOp o) r) (ho' : OpR X (compareOp o') r') (hk : OpOk X.K op r) (hk' : OpOk X.K op' r') (ha : SimE X W a ma) (hb : SimE X W b mb') (hc : SimE X W c mc)
    (hm : lastMarks [o, o'] [b, c] = false := by with_unfolding_all rfl) : SimT X W (.Compare a [o, o'] [b, c] pos) (bT (xChain op op' ma mb' mc)) := by
  obtain ⟨ta, pa, ra⟩ := ha.ex
  obtain ⟨tb, pb, rb⟩ := hb.ex
  obtain ⟨tc, pc, rc⟩ := hc.ex
  exact ⟨_, pt_chain ho ho' pa pb pc hm, rch_bT (rch_chain hk hk' ra rb rc)⟩

/-! ### and, or, not, if -/
def yAnd (m n : Te) : Te := fun ρ S => mb (m ρ S) fun k => match k with
  | true => n ρ S
  | false => some (.ok false)
def yOr (m n : Te) : Te := fun ρ S => mb (m ρ S) fun k => match k with
  | true => some (.ok true)
  | false => n ρ S
def yNot (m : Te) : Te := fun ρ S => mb (m ρ S) fun k => some (.ok (!k))
theorem w_and1 {m : Te} (h : SimT X W a m) : SimW X W (.BoolOp .And [a] pos) m := by
  obtain ⟨t, p, r⟩ := h.ex
  exact ⟨_, pw_and1 p, r⟩
theorem w_or1 {m : Te} (h : SimT X W a m) : SimW X W (.BoolOp .Or [a] pos) m := by
  obtain ⟨t, p, r⟩ := h.ex
  exact ⟨_, pw_or1 p, r⟩
theorem rch_and {t u : TT} {m n : Te} (h : Rch X.K RB W t m) (h' : Rch X.K RB W u n) : Rch X.K RB W (tAnd t u) (yAnd m n) := by
  refine Rch.bind (k := fun k ρ S => match k with | true => n ρ S | false => some (.ok false)) (tk := fun c σ H1 Q => if c = true then u σ H1 Q else Q false H1) h fun x c σ H g S ρ Q res w er hx hm po => ?_
  subst hx
  cases x with
  | true => rw [if_pos rfl]; exact h' σ H g S ρ Q res w er hm po
  | false => rw [if_neg Bool.false_ne_true]; cases hm; exact po false g H (.refl w) rfl
theorem rch_or {t u : TT} {m n : Te} (h : Rch X.K RB W t m) (h' : Rch X.K RB W u n) : Rch X.K RB W (tOr t u) (yOr m n) := by
  refine Rch.bind (k := fun k ρ S => match k with | true => some (.ok true) | false => n ρ S) (tk := fun c σ H1 Q => if c = true then Q true H1 else u σ H1 Q) h fun x c σ H g S ρ Q res w er hx hm po => ?_
  subst hx
  cases x with
  | true => rw [if_pos rfl]; cases hm; exact po true g H (.refl w) rfl
  | false => rw [if_neg Bool.false_ne_true]; exact h' σ H g S ρ Q res w er hm po
theorem w_and {m n : Te} (h : SimT X W a m) (h' : SimW X W (.BoolOp .And (b :: rest) pos) n) : SimW X W (.BoolOp .And (a :: b :: rest) pos) (yAnd m n) := by
  obtain ⟨t, p, r⟩ := h.ex
  obtain ⟨t', p', r'⟩ := h'.ex
  exact ⟨_, pw_and p p', rch_and r r'⟩
theorem w_or {m n : Te} (h : SimT X W a m) (h' : SimW X W (.BoolOp .Or (b :: rest) pos) n) : SimW X W (.BoolOp .Or (a :: b :: rest) pos) (yOr m n) := by
  obtain ⟨t, p, r⟩ := h.ex
  obtain ⟨t', p', r'⟩ := h'.ex
  exact ⟨_, pw_or p p', rch_or r r'⟩
theorem t_w {m : Te} (h : SimW X W e m) : SimT X W e m := by
  obtain ⟨t, p, r⟩ := h.ex
  exact ⟨_, p.pt, r⟩
theorem t_not {m : Te} (h : SimT X W a m) : SimT X W (.UnaryOp .Not a pos) (yNot m) := by
  obtain ⟨t, p, r⟩ := h.ex
  refine ⟨_, pt_not p, ?_⟩
  refine Rch.bind (k := fun k _ _ => some (.ok (!k))) (tk := fun c _ H1 Q => Q (!c) H1) r fun x c σ H g S ρ Q res w er hx hm po => ?_
  subst hx
  cases hm
  exact po (!x) g H (.refl w) rfl
/-- as values -/
def xAnd (m n : Ex) : Ex := fun ρ S => mb (m ρ S) fun k => match k with
  | .bl true => n ρ S
  | .bl false => some (.ok (.bl false))
  | _ => none
def xOr (m n : Ex) : Ex := fun ρ S => mb (m ρ S) fun k => match k with
  | .bl true => some (.ok (.bl true))
  | .bl false => n ρ S
  | _ => none
def xNot (m : Ex) : Ex := fun ρ S => mb (m ρ S) fun k => match k with
  | .bl k => some (.ok (.bl (!k)))
  | _ => none
theorem e_one {o : BoolOp} {m : Ex} (h : SimE X W a m) : SimE X W (.BoolOp o [a] pos) m := by
  obtain ⟨t, p, r⟩ := h.ex
  exact ⟨_, pe_one p, r⟩
theorem e_and {m n : Ex} (h : SimE X W a m) (h' : SimE X W (.BoolOp .And (b :: rest) pos) n) : SimE X W (.BoolOp .And (a :: b :: rest) pos) (xAnd m n) := by
  obtain ⟨t, p, r⟩ := h.ex
  obtain ⟨t', p', r'⟩ := h'.ex
  refine ⟨_, pe_and p p', ?_⟩
  refine Rch.bind (k := fun k ρ S => match k with | .bl true => n ρ S | .bl false => some (.ok (.bl false)) | _ => none) (tk := fun x σ H1 Q => ∃ c, x = .bl c ∧ if c = true then t' σ H1 Q else Q (.bl false) H1) r fun x c σ H g S ρ Q res w er hx hm po => ?_
  split at hm
  · cases hx.fr rfl; exact ⟨true, rfl, by rw [if_pos rfl]; exact r' σ H g S ρ Q res w er hm po⟩
  · cases hx.fr rfl; cases hm; exact ⟨false, rfl, by rw [if_neg Bool.false_ne_true]; exact po _ g H (.refl w) (.frz (.bl false))⟩
  · cases hm
theorem e_or {m n : Ex} (h : SimE X W a m) (h' : SimE X W (.BoolOp .Or (b :: rest) pos) n) : SimE X W (.BoolOp .Or (a :: b :: rest) pos) (xOr m n) := by
  obtain ⟨t, p, r⟩ := h.ex
  obtain ⟨t', p', r'⟩ := h'.ex
  refine ⟨_, pe_or p p', ?_⟩
  refine Rch.bind (k := fun k ρ S => match k with | .bl true => some (.ok (.bl true)) | .bl false => n ρ S | _ => none) (tk := fun x σ H1 Q => ∃ c, x = .bl c ∧ if c = true then Q (.bl true) H1 else t' σ H1 Q) r fun x c σ H g S ρ Q res w er hx hm po => ?_
  split at hm
  · cases hx.fr rfl; cases hm; exact ⟨true, rfl, by rw [if_pos rfl]; exact po _ g H (.refl w) (.frz (.bl true))⟩
  · cases hx.fr rfl; exact ⟨false, rfl, by rw [if_neg Bool.false_ne_true]; exact r' σ H g S ρ Q res w er hm po⟩
  · cases hm
theorem e_not {m : Ex} (h : SimE X W a m) : SimE X W (.UnaryOp .Not a pos) (xNot m) := by
  obtain ⟨t, p, r⟩ := h.ex
  refine ⟨_, pe_not p, ?_⟩
  refine Rch.bind (R' := RV X.K) (k := fun k _ _ => match k with | PV.bl k => some (.ok (PV.bl (!k))) | _ => none) (tk := fun x _ H1 Q => ∃ c, x = V.bl c ∧ Q (V.bl (!c)) H1) r fun x c σ H g S ρ Q res w er hx hm po => ?_
  split at hm
  · cases hx.fr rfl; cases hm; exact ⟨_, rfl, po _ g H (.refl w) (.frz (.bl _))⟩
  · cases hm
def xIf (c : Te) (m n : Ex) : Ex := fun ρ S => mb (c ρ S) fun k => match k with
  | true => m ρ S
  | false => n ρ S
theorem e_if {k : Te} {m n : Ex} (hc : SimT X W c k) (h : SimE X W a m) (h' : SimE X W b n) : SimE X W (.IfExp c a b pos) (xIf k m n) := by
  obtain ⟨tc, pc, rc⟩ := hc.ex
  obtain ⟨t, p, r⟩ := h.ex
  obtain ⟨t', p', r'⟩ := h'.ex
  refine ⟨_, pe_ifExp pc p p', ?_⟩
  refine Rch.bind (k := fun k ρ S => match k with | true => m ρ S | false => n ρ S) (tk := fun c σ H1 Q => if c = true then t σ H1 Q else t' σ H1 Q) rc fun x c σ H g S ρ Q res w er hx hm po => ?_
  subst hx
  cases x with
  | true => rw [if_pos rfl]; exact r σ H g S ρ Q res w er hm po
  | false => rw [if_neg Bool.false_ne_true]; exact r' σ H g S ρ Q res w er hm po

/-! ### lists of expressions, displays -/
def aNil : Ar := fun _ _ => some (.ok [])
def aCons (m : Ex) (n : Ar) : Ar := fun ρ S => mb (m ρ S) fun x => mb (n ρ S) fun xs => some (.ok (x :: xs))
def aStar (m : Ex) (n : Ar) : Ar := fun ρ S => mb (m ρ S) fun x => match x with
  | .tup ys => mb (n ρ S) fun xs => some (.ok (ys ++ xs))
  | .lst ys => mb (n ρ S) fun xs => some (.ok (ys ++ xs))
  | .ol ys => mb (n ρ S) fun xs => some (.ok (ys ++ xs))
  | _ => none
theorem a_nil : SimA X W [] aNil := ⟨_, pa_nil, fun σ H g S ρ Q r w er hm po => by cases hm; exact po [] g H (.refl w) .nil⟩
theorem a_cons {m : Ex} {n : Ar} (h : SimE X W e m) (h' : SimA X W es n) (hs : starEach (e :: es) X.env = (false, eval e X.env) :: starEach es X.env := by rfl) : SimA X W (e :: es) (aCons m n) := by
  obtain ⟨t, p, r⟩ := h.ex
  obtain ⟨t', p', r'⟩ := h'.ex
  refine ⟨_, pa_cons p p' hs, ?_⟩
  refine Rch.bind (k := fun x ρ S => mb (n ρ S) fun xs => some (.ok (x :: xs))) (tk := fun x σ H1 Q => t' σ H1 fun xs H2 => Q (x :: xs) H2) r fun x u σ H g S ρ Q res w er hx hm po => ?_
  cases q : n ρ S with
  | none => rw [q] at hm; cases hm
  | some r2 =>
    rw [q] at hm
    cases r2 with
    | ex c fs =>
      have e2 : res = .ex c fs := (Option.some.inj hm).symm
      subst e2
      exact r' σ H g S ρ _ (.ex c fs) w er q po
    | ok ys =>
      have e2 : res = .ok (x :: ys) := (Option.some.inj hm).symm
      subst e2
      exact r' σ H g S ρ _ (.ok ys) w er q fun v g' H' gr hy => po _ g' H' gr (.cons (gr.ov hx) hy)
theorem FRs.ovsg {K : PySem.W.Frag} {g : G} {H : Hp} {x : List PV} {v : List V} (q : FRs K g x v) {y : List PV} {u : List V} (r : OVs K g H y u) : OVs K g H (x ++ y) (v ++ u) := by
  induction x generalizing v with
  | nil => cases q; exact r
  | cons a t ih => cases q with | cons c b => exact .cons (.frz c) (ih b)
theorem a_star {m : Ex} {n : Ar} {p0 : Pos} (h : SimE X W e m) (h' : SimA X W es n) (hs : starEach (.Starred e p0 :: es) X.env = (true, eval e X.env) :: starEach es X.env := by rfl) : SimA X W (.Starred e p0 :: es) (aStar m n) := by
  obtain ⟨t, p, r⟩ := h.ex
  obtain ⟨t', p', r'⟩ := h'.ex
  refine ⟨_, StX.pa_star p p' hs, ?_⟩
  refine Rch.bind (k := fun x ρ S => match x with
    | .tup ys => mb (n ρ S) fun xs => some (.ok (ys ++ xs))
    | .lst ys => mb (n ρ S) fun xs => some (.ok (ys ++ xs))
    | .ol ys => mb (n ρ S) fun xs => some (.ok (ys ++ xs))
    | _ => none) (tk := fun x σ H1 Q => ∃ p xs, x = V.ref p ∧ (SqT X.K H1 p xs ∨ SqL X.K H1 p xs) ∧ t' σ H1 fun ys H2 => Q (xs ++ ys) H2) r fun x u σ H g S ρ Q res w er hx hm po => ?_
  have main : ∀ (ys : List PV) (vs : List V), FRs X.K g ys vs → mb (n ρ S) (fun xs => some (.ok (ys ++ xs))) = some res → t' σ H fun zs H2 => Q (vs ++ zs) H2 := fun ys vs hf hm => by
    cases q : n ρ S with
    | none => rw [q] at hm; cases hm
    | some r2 =>
      rw [q] at hm
      cases r2 with
      | ex c fs =>
        have e2 : res = .ex c fs := (Option.some.inj hm).symm
        subst e2
        exact r' σ H g S ρ _ (.ex c fs) w er q po
      | ok zs =>
        have e2 : res = .ok (ys ++ zs) := (Option.some.inj hm).symm
        subst e2
        exact r' σ H g S ρ _ (.ok zs) w er q fun v g' H' gr hy => po _ g' H' gr ((gr.frs hf).ovsg hy)
  split at hm
  · rename_i ys
    have z := hx.fr rfl
    cases z with
    | tup sq fr => exact ⟨_, _, rfl, .inl (w.f.sqT sq), main _ _ fr hm⟩
  · rename_i ys
    have z := hx.fr rfl
    cases z with
    | lst sq fr => exact ⟨_, _, rfl, .inr (.inl (w.f _ _ sq)), main _ _ fr hm⟩
  · rename_i ys
    cases hx with
    | frz z => cases z
    | ol rd fr => exact ⟨_, _, rfl, .inr (.inl rd), main _ _ fr hm⟩
  · cases hm
/-- a tuple, a list that stands still; at most a thousand times a thousand items -/
def most : Nat := 1000000
theorem most_le : most ≤ sizeLine := by rw [sizeLine_eq]; decide
def xTup (m : Ar) : Ex := fun ρ S => mb (m ρ S) fun xs => if xs.all fz && decide (xs.length ≤ most) then some (.ok (.tup xs)) else none
def xLst (m : Ar) : Ex := fun ρ S => mb (m ρ S) fun xs => if xs.all fz && decide (xs.length ≤ most) then some (.ok (.lst xs)) else none
theorem new_tup {K : PySem.W.Frag} {g : G} {S : Store} {H : Hp} (w : WR K g S H) {p : Addr} (hp : H p = none) {xs : List PV} {vs : List V} (q : FRs K g xs vs) :
    Grow g H { g with F := upd g.F p (.tup vs) } (upd H p (.tup vs)) ∧ FR K { g with F := upd g.F p (.tup vs) } (.tup xs) (.ref p) :=
  ⟨.laid w hp, .tup (.inl (.inl upd_same)) ((Grow.laid w hp).frs q)⟩
theorem new_lst {K : PySem.W.Frag} {g : G} {S : Store} {H : Hp} (w : WR K g S H) {p : Addr} (hp : H p = none) {xs : List PV} {vs : List V} (q : FRs K g xs vs) :
    Grow g H { g with F := upd g.F p (.lst vs) } (upd H p (.lst vs)) ∧ FR K { g with F := upd g.F p (.lst vs) } (.lst xs) (.ref p) :=
  ⟨.laid w hp, .lst (.inl upd_same) ((Grow.laid w hp).frs q)⟩
theorem e_tup {x1 : Nat} {m : Ar} (h : SimA X W es m) : SimE X W (.Tuple es x1 pos) (xTup m) := by
  obtain ⟨t, p, r⟩ := h.ex
  refine ⟨_, pe_tup p, ?_⟩
  refine Rch.bind (R' := RV X.K) (k := fun xs _ _ => if xs.all fz && decide (xs.length ≤ most) then some (.ok (PV.tup xs)) else none) (tk := fun xs _ H1 Q => xs.length ≤ sizeLine ∧ ∀ p, H1 p = none → Q (V.ref p) (upd H1 p (.tup xs))) r fun xs us σ H g S ρ Q res w er hx hm po => ?_
  split at hm
  · rename_i hc
    cases hm
    simp only [Bool.and_eq_true, decide_eq_true_eq] at hc
    have fr := OVs.frs hx hc.1
    refine ⟨by rw [← fr.length]; exact Nat.le_trans hc.2 most_le, fun q hq => ?_⟩
    obtain ⟨gr, f2⟩ := new_tup w hq fr
    exact po _ _ _ gr (.frz f2)
  · cases hm
theorem e_lst {m : Ar} (h : SimA X W es m) : SimE X W (.List es pos) (xLst m) := by
  obtain ⟨t, p, r⟩ := h.ex
  refine ⟨_, pe_lst p, ?_⟩
  refine Rch.bind (R' := RV X.K) (k := fun xs _ _ => if xs.all fz && decide (xs.length ≤ most) then some (.ok (PV.lst xs)) else none) (tk := fun xs _ H1 Q => xs.length ≤ sizeLine ∧ ∀ p, H1 p = none → Q (V.ref p) (upd H1 p (.lst xs))) r fun xs us σ H g S ρ Q res w er hx hm po => ?_
  split at hm
  · rename_i hc
    cases hm
    simp only [Bool.and_eq_true, decide_eq_true_eq] at hc
    have fr := OVs.frs hx hc.1
    refine ⟨by rw [← fr.length]; exact Nat.le_trans hc.2 most_le, fun q hq => ?_⟩
    obtain ⟨gr, f2⟩ := new_lst w hq fr
    exact po _ _ _ gr (.frz f2)
  · cases hm

/-! ### calls of built-ins by name -/
def xCall (op : List PV → Option PV) (m : Ar) : Ex := fun ρ S => mb (m ρ S) fun xs => mo (op xs)
theorem rch_call {r : List V → Hp → VK → Prop} {op : List PV → Option PV} {t : TA} {m : Ar} (hk : CallOk X.K op r) (h : Rch X.K (RL X.K) W t m) : Rch X.K (RV X.K) W (tCB r t) (xCall op m) := by
  refine Rch.bind (k := fun xs _ _ => mo (op xs)) (tk := fun xs _ H1 Q => r xs H1 Q) h fun x u σ H g S ρ Q res w er hx hm po => ?_
  cases z : op x with
  | none => rw [z] at hm; cases hm
  | some zz =>
    rw [z] at hm
    have e2 : res = .ok zz := (Option.some.inj hm).symm
    subst e2
    exact hk g S H x zz u Q w hx z po
theorem e_callB {x : Str} {p : Pos} {id : String} {r : List V → Hp → VK → Prop} {op : List PV → Option PV} {m : Ar} (hc : CallR X (.builtin id) r) (hk : CallOk X.K op r) (hg : Gl X x) (hm : X.mg x = none) (hv : bootBuiltins x = some (.builtin id)) (ha : SimA X W (e :: es) m)
    (hn : x ≠ "__name__" := by decide) (hdb : (x == ("__debug__" : Str)) = false := by decide)
    (he : starEach (e :: es) X.env = (false, eval e X.env) :: starEach es X.env := by rfl) (hpl : (backTo pos (starEach es X.env)).any (·.1) = false := by rfl) : SimE X W (.Call (.Name x p) (e :: es) [] pos) (xCall op m) := by
  obtain ⟨t, pp, rr⟩ := ha.ex
  exact ⟨_, pe_callB hc hg hm hv pp hn hdb he hpl, rch_call hk rr⟩
theorem e_callTy {x : Str} {p : Pos} {T : String} {r : List V → Hp → VK → Prop} {op : List PV → Option PV} {m : Ar} (hc : CallR X (.type T) r) (hk : CallOk X.K op r) (hg : Gl X x) (hm : X.mg x = none) (hv : bootBuiltins x = some (.type T)) (ha : SimA X W (e :: es) m)
    (hn : x ≠ "__name__" := by decide) (hdb : (x == ("__debug__" : Str)) = false := by decide)
    (he : starEach (e :: es) X.env = (false, eval e X.env) :: starEach es X.env := by rfl) (hpl : (backTo pos (starEach es X.env)).any (·.1) = false := by rfl) : SimE X W (.Call (.Name x p) (e :: es) [] pos) (xCall op m) := by
  obtain ⟨t, pp, rr⟩ := ha.ex
  exact ⟨_, pe_callTy hc hg hm hv pp hn hdb he hpl, rch_call hk rr⟩

/-! ### items, slices -/
theorem e_ix {r : R2} {op : PV → PV → Option PV} {ma mb' : Ex} (hr : IxR X r) (hk : OpOk X.K op r) (ha : SimE X W a ma) (hb : SimE X W b mb') (hs : PlainIx b := by intro _ _; rfl) : SimE X W (.Subscript a b pos) (xOp op ma mb') := by
  obtain ⟨ta, pa, ra⟩ := ha.ex
  obtain ⟨tb, pb, rb⟩ := hb.ex
  exact ⟨_, pe_ix hr pa pb hs, rch_op hk ra rb⟩
end
end L3

end
section
set_option Elab.async false
set_option linter.all false
set_option maxRecDepth 100000
set_option maxHeartbeats 4000000
namespace L3
open PySem PySem.Spec L2
set_option autoImplicit false

/-! ### whole numbers -/
def oI (C : Int → Int → Bool) (f : Int → Int → PV) : PV → PV → Option PV
  | .int i, .int j => if C i j then some (f i j) else none
  | _, _ => none
theorem oI_ok {K : PySem.W.Frag} {P : Int → Int → Prop} {C : Int → Int → Bool} {f : Int → Int → PV} {fv : Int → Int → V} (hP : ∀ i j, C i j = true → P i j) (hf : ∀ g i j, FR K g (f i j) (fv i j)) : OpOk K (oI C f) (rI P fv) := by
  intro g S H x y z u v Q w hx hy e q
  unfold oI at e
  split at e
  · rename_i i j
    split at e
    · rename_i hc
      cases e
      cases hx.fr rfl
      cases hy.fr rfl
      exact ⟨i, j, rfl, rfl, hP i j hc, q _ g H (.refl w) (.frz (hf g i j))⟩
    · cases e
  · cases e
def oI0 (f : Int → Int → PV) : PV → PV → Option PV
  | .int i, .int j => some (f i j)
  | _, _ => none
theorem oI0_ok {K : PySem.W.Frag} {f : Int → Int → PV} {fv : Int → Int → V} (hf : ∀ g i j, FR K g (f i j) (fv i j)) : OpOk K (oI0 f) (rI0 fv) := by
  intro g S H x y z u v Q w hx hy e q
  unfold oI0 at e
  split at e
  · rename_i i j
    cases e
    cases hx.fr rfl
    cases hy.fr rfl
    exact ⟨i, j, rfl, rfl, q _ g H (.refl w) (.frz (hf g i j))⟩
  · cases e
def two64 : Int := 18446744073709551616
def cMul (i j : Int) : Bool := (decide (-two64 < i) && decide (i < two64)) || (decide (-two64 < j) && decide (j < two64))
def cDiv (_ j : Int) : Bool := decide (0 < j) && decide (j < 1073741824)
def cPos (_ j : Int) : Bool := decide (0 < j)
theorem cMul_ok (i j : Int) (h : cMul i j = true) : CMul i j := by
  simp only [cMul, Bool.or_eq_true, Bool.and_eq_true, decide_eq_true_eq, two64] at h
  have e : (2 : Int) ^ 64 = 18446744073709551616 := by decide
  unfold CMul
  rw [e]
  rcases h with ⟨h1, h2⟩ | ⟨h1, h2⟩
  · exact .inl ⟨of_decide_eq_true h1, of_decide_eq_true h2⟩
  · exact .inr ⟨of_decide_eq_true h1, of_decide_eq_true h2⟩
theorem cDiv_ok (i j : Int) (h : cDiv i j = true) : CDiv i j := by
  simp only [cDiv, Bool.and_eq_true, decide_eq_true_eq] at h
  exact h
theorem cPos_ok (i j : Int) (h : cPos i j = true) : 0 < j := by
  simpa [cPos] using h

/-! ### texts, tuples, lists: + -/
def oSAdd : PV → PV → Option PV
  | .str a, .str b => if decide (a.length + b.length ≤ most) then some (.str (a ++ b)) else none
  | _, _ => none
theorem oSAdd_ok {K : PySem.W.Frag} : OpOk K oSAdd (fun x y H Q => ∃ i j, x = .str i ∧ y = .str j ∧ i.length + j.length ≤ sizeLine ∧ Q (.str (i ++ j)) H) := by
  intro g S H x y z u v Q w hx hy e q
  unfold oSAdd at e
  split at e
  · rename_i a b
    split at e
    · rename_i hc
      cases e
      cases hx.fr rfl
      cases hy.fr rfl
      exact ⟨a, b, rfl, rfl, Nat.le_trans (of_decide_eq_true hc) most_le, q _ g H (.refl w) (.frz (.str _))⟩
    · cases e
  · cases e
def oTCat : PV → PV → Option PV
  | .tup a, .tup b => if decide (a.length + b.length ≤ most) then some (.tup (a ++ b)) else none
  | _, _ => none
theorem oTCat_ok {K : PySem.W.Frag} : OpOk K oTCat (rCatA K) := by
  intro g S H x y z u v Q w hx hy e q
  unfold oTCat at e
  split at e
  · rename_i a b
    split at e
    · rename_i hc
      cases e
      cases hx.fr rfl with
      | tup sa fa =>
        cases hy.fr rfl with
        | tup sb fb =>
          rename_i pa va pb vb
          have hl : va.length + vb.length ≤ sizeLine := by rw [← fa.length, ← fb.length]; exact Nat.le_trans (of_decide_eq_true hc) most_le
          refine ⟨pa, pb, va, vb, rfl, rfl, w.f.sqT sa, w.f.sqT sb, hl, fun h => ?_, fun _ h => ?_, fun _ _ p hp => ?_⟩
          · subst h
            cases fa
            exact q _ g H (.refl w) (.frz (.tup sb fb))
          · subst h
            cases fb
            rw [List.append_nil] at q
            exact q _ g H (.refl w) (.frz (.tup sa fa))
          · obtain ⟨gr, f2⟩ := new_tup w hp (fa.append fb)
            exact q _ _ _ gr (.frz f2)
    · cases e
  · cases e
/-- a list that may be read here: its items at rest -/
theorem OV.list {K : PySem.W.Frag} {g : G} {S : Store} {H : Hp} {x : PV} {u : V} (w : WR K g S H) (h : OV K g H x u) {xs : List PV} (e : x = .lst xs ∨ x = .ol xs) : ∃ a vs, u = .ref a ∧ Rd H a (.lst vs) ∧ FRs K g xs vs := by
  rcases e with rfl | rfl
  · cases h.fr rfl with
    | lst s f => exact ⟨_, _, rfl, w.f _ _ s, f⟩
  · cases h with
    | frz z => cases z
    | ol r f => exact ⟨_, _, rfl, r, f⟩
def lsOf : PV → Option (List PV)
  | .lst xs => some xs
  | .ol xs => some xs
  | _ => none
theorem lsOf_ok {K : PySem.W.Frag} {g : G} {S : Store} {H : Hp} {x : PV} {u : V} {xs : List PV} (w : WR K g S H) (h : OV K g H x u) (e : lsOf x = some xs) : ∃ a vs, u = .ref a ∧ Rd H a (.lst vs) ∧ FRs K g xs vs := by
  unfold lsOf at e
  split at e
  · cases e; exact h.list w (.inl rfl)
  · cases e; exact h.list w (.inr rfl)
  · cases e
/-- the items of a list or tuple -/
def sqOf : PV → Option (List PV)
  | .kl xs => some xs
  | .lst xs => some xs
  | .ol xs => some xs
  | .tup xs => some xs
  | _ => none
theorem sqOf_ok {K : PySem.W.Frag} {g : G} {S : Store} {H : Hp} {x : PV} {u : V} {xs : List PV} (w : WR K g S H) (h : OV K g H x u) (e : sqOf x = some xs) : ∃ a vs, u = .ref a ∧ (SqL K H a vs ∨ SqT K H a vs) ∧ FRs K g xs vs := by
  unfold sqOf at e
  split at e
  · cases e
    cases h.fr rfl with
    | kl s f => exact ⟨_, _, rfl, .inl (w.f.sqL s), f⟩
  · cases e; obtain ⟨a, vs, e1, e2, e3⟩ := h.list w (.inl rfl); exact ⟨a, vs, e1, .inl (.inl e2), e3⟩
  · cases e; obtain ⟨a, vs, e1, e2, e3⟩ := h.list w (.inr rfl); exact ⟨a, vs, e1, .inl (.inl e2), e3⟩
  · cases e
    cases h.fr rfl with
    | tup s f => exact ⟨_, _, rfl, .inr (w.f.sqT s), f⟩
  · cases e
def oLCat : PV → PV → Option PV := fun x y => match lsOf x, lsOf y with
  | some a, some b => if decide (a.length + b.length ≤ most) then some (.lst (a ++ b)) else none
  | _, _ => none
def rCatR : R2 := fun x y H Q => ∃ l b xs zs, x = .ref l ∧ y = .ref b ∧ Rd H l (.lst xs) ∧ Rd H b (.lst zs) ∧ xs.length + zs.length ≤ sizeLine ∧ ∀ p, H p = none → Q (.ref p) (upd H p (.lst (xs ++ zs)))
theorem op_catR {X : Cx} : OpR X (binaryOp .Add) rCatR := by
  intro pins s σ H x y v u Q I rx ry h
  obtain ⟨l, b, xs, zs, rfl, rfl, hH, hB, hz, q⟩ := h
  cases rx
  cases ry
  obtain ⟨z, its, n, r, e⟩ := hH.ok I.hok
  obtain ⟨z2, its2, n2, r2, e2⟩ := hB.ok I.hok
  have hl := r.length
  have hl2 := r2.length
  refine PySem.P.add_list e e2 ?_ (by rw [List.size_toArray, List.size_toArray]; omega)
  have ea : its.toArray ++ its2.toArray = (its ++ its2).toArray := by simp
  rw [ea]
  exact ⟨.ref _, _, I.lnew (t' := s.toks) (r.append r2) (by rw [List.length_append]; omega), rfl, q _ I.fresh⟩
theorem oLCat_ok {K : PySem.W.Frag} : OpOk K oLCat rCatR := by
  intro g S H x y z u v Q w hx hy e q
  unfold oLCat at e
  split at e
  · rename_i a b ea eb
    split at e
    · rename_i hc
      cases e
      obtain ⟨pa, va, rfl, ra, fa⟩ := lsOf_ok w hx ea
      obtain ⟨pb, vb, rfl, rb, fb⟩ := lsOf_ok w hy eb
      refine ⟨pa, pb, va, vb, rfl, rfl, ra, rb, by rw [← fa.length, ← fb.length]; exact Nat.le_trans (of_decide_eq_true hc) most_le, fun p hp => ?_⟩
      obtain ⟨gr, f2⟩ := new_lst w hp (fa.append fb)
      exact q _ _ _ gr (.frz f2)
    · cases e
  · cases e
def oAdd : PV → PV → Option PV := oE (oI0 fun i j => .int (i + j)) (oE oSAdd (oE oTCat oLCat))
def oSub : PV → PV → Option PV := oI0 fun i j => .int (i - j)
def oFdiv : PV → PV → Option PV := oI cDiv fun i j => .int (i / j)
def oMod : PV → PV → Option PV := oI cPos fun i j => .int (i % j)
def oMulI : PV → PV → Option PV := oI cMul fun i j => .int (i * j)

/-! ### items -/
def ixP {α : Type} (xs : List α) (i : Int) : Option α := atI xs i
theorem FRs.atI {K : PySem.W.Frag} {g : G} {xs : List PV} {vs : List V} (f : FRs K g xs vs) {i : Int} {x : PV} (h : L2.atI xs i = some x) : ∃ v, L2.atI vs i = some v ∧ FR K g x v := by
  unfold L2.atI at h ⊢
  rw [← f.length]
  cases e : ixN xs.length i with
  | none => rw [e] at h; cases h
  | some j =>
    rw [e] at h
    exact f.get h
def oIx : PV → PV → Option PV := fun x y => match y with
  | .int i => (match x with
    | .str z => if decide (z.length ≤ most) then (atI z.cps.toList i).map fun c => .str ⟨#[c]⟩ else none
    | _ => match sqOf x with
      | some xs => atI xs i
      | none => none)
  | _ => none
theorem oIx_ok {K : PySem.W.Frag} : OpOk K oIx (rIx K) := by
  intro g S H x y z u v Q w hx hy e q
  unfold oIx at e
  split at e
  · rename_i i
    cases hy.fr rfl
    split at e
    · rename_i s
      split at e
      · rename_i hc
        cases hx.fr rfl
        cases e2 : atI s.cps.toList i with
        | none => rw [e2] at e; cases e
        | some c =>
          rw [e2] at e
          have e3 : z = .str ⟨#[c]⟩ := (Option.some.inj e).symm
          subst e3
          exact .inr (.inr ⟨s, i, c, rfl, rfl, Nat.le_trans (of_decide_eq_true hc) most_le, e2, q _ g H (.refl w) (.frz (.str _))⟩)
      · cases e
    · split at e
      · rename_i xs es
        obtain ⟨a, vs, rfl, sq, f⟩ := sqOf_ok w hx es
        obtain ⟨v, e4, fv⟩ := f.atI e
        rcases sq with sq | sq
        · exact .inl ⟨a, vs, i, v, rfl, rfl, sq, e4, q _ g H (.refl w) (.frz fv)⟩
        · exact .inr (.inl ⟨a, vs, i, v, rfl, rfl, sq, e4, q _ g H (.refl w) (.frz fv)⟩)
      · cases e
  · cases e

/-! ### equality -/
mutual
def toD : PV → PyData
  | .non => .none
  | .bl b => .bool b
  | .int i => .int i
  | .str x => .str x
  | .tup xs => .tuple (toDs xs)
  | .lst xs => .list (toDs xs)
  | .ol xs => .list (toDs xs)
  | .kl xs => .list (toDs xs)
  | _ => .dict []
def toDs : List PV → List PyData
  | [] => []
  | x :: xs => toD x :: toDs xs
end
mutual
/-- data alone: no object, no dict, no class within -/
def isD : PV → Bool
  | .non => true
  | .bl _ => true
  | .int _ => true
  | .str _ => true
  | .tup xs => isDs xs
  | .lst xs => isDs xs
  | .ol xs => isDs xs
  | .kl xs => isDs xs
  | _ => false
def isDs : List PV → Bool
  | [] => true
  | x :: xs => isD x && isDs xs
end
mutual
def dep : PV → Nat
  | .tup xs => 1 + deps xs
  | .lst xs => 1 + deps xs
  | .ol xs => 1 + deps xs
  | .kl xs => 1 + deps xs
  | _ => 0
def deps : List PV → Nat
  | [] => 0
  | x :: xs => max (dep x) (deps xs)
end
section
variable {K : PySem.W.Frag} {g : G} {H : Hp}
mutual
theorem FR.dp (hr : RdLe g.F H) : ∀ (x : PV) (v : V), FR K g x v → isD x = true → Dp K H v (toD x)
  | .non, _, q, _ => by cases q; exact .non
  | .bl _, _, q, _ => by cases q; exact .bl _
  | .int _, _, q, _ => by cases q; exact .int _
  | .str _, _, q, _ => by cases q; exact .str _
  | .tup xs, _, q, h => by
    cases q with
    | tup s f => rw [toD]; exact .tup (hr.sqT s) (FRs.dp hr xs _ f (by simpa [isD] using h))
  | .lst xs, _, q, h => by
    cases q with
    | lst s f => rw [toD]; exact .lst (.inl (hr _ _ s)) (FRs.dp hr xs _ f (by simpa [isD] using h))
  | .kl xs, _, q, h => by
    cases q with
    | kl s f => rw [toD]; exact .lst (hr.sqL s) (FRs.dp hr xs _ f (by simpa [isD] using h))
  | .ty _, _, _, h => by simp [isD] at h
  | .dct _, _, _, h => by simp [isD] at h
  | .ref _, _, _, h => by simp [isD] at h
  | .xv _ _, _, _, h => by simp [isD] at h
  | .od _, _, _, h => by simp [isD] at h
  | .ol _, _, q, _ => by cases q
theorem FRs.dp (hr : RdLe g.F H) : ∀ (x : List PV) (v : List V), FRs K g x v → isDs x = true → DpAll K H v (toDs x)
  | [], _, q, _ => by cases q; rw [toDs]; exact .nil
  | x :: xs, _, q, h => by
    cases q with
    | cons a b =>
      have h' : isD x = true ∧ isDs xs = true := by simpa [isDs] using h
      rw [toDs]
      exact .cons (FR.dp hr x _ a h'.1) (FRs.dp hr xs _ b h'.2)
end
theorem OV.dp (hr : RdLe g.F H) {x : PV} {v : V} (q : OV K g H x v) (h : isD x = true) : Dp K H v (toD x) := by
  cases q with
  | frz z => exact z.dp hr _ _ h
  | ol r f => rw [toD]; exact .lst (.inl r) (f.dp hr _ _ (by simpa [isD] using h))
  | od _ _ => simp [isD] at h
mutual
theorem plain_toD : ∀ (x : PV), isD x = true → (toD x).plain = true
  | .non, _ => rfl
  | .bl _, _ => rfl
  | .int _, _ => rfl
  | .str _, _ => rfl
  | .tup xs, h => by rw [toD, PyData.plain]; exact plain_toDs xs (by simpa [isD] using h)
  | .lst xs, h => by rw [toD, PyData.plain]; exact plain_toDs xs (by simpa [isD] using h)
  | .ol xs, h => by rw [toD, PyData.plain]; exact plain_toDs xs (by simpa [isD] using h)
  | .kl xs, h => by rw [toD, PyData.plain]; exact plain_toDs xs (by simpa [isD] using h)
  | .ty _, h => by simp [isD] at h
  | .dct _, h => by simp [isD] at h
  | .ref _, h => by simp [isD] at h
  | .xv _ _, h => by simp [isD] at h
  | .od _, h => by simp [isD] at h
theorem plain_toDs : ∀ (x : List PV), isDs x = true → PyData.plainAll (toDs x) = true
  | [], _ => by rw [toDs]; rfl
  | x :: xs, h => by
    have h' : isD x = true ∧ isDs xs = true := by simpa [isDs] using h
    rw [toDs, PyData.plainAll, plain_toD x h'.1, plain_toDs xs h'.2]; rfl
end
end
end L3

end
section
set_option Elab.async false
set_option linter.all false
set_option maxRecDepth 100000
set_option maxHeartbeats 4000000
namespace L3
open PySem PySem.Spec L2
set_option autoImplicit false

/-! ### == and != of data -/
mutual
theorem depth_toD : ∀ (x : PV), isD x = true → (toD x).depth = dep x
  | .non, _ => rfl
  | .bl _, _ => rfl
  | .int _, _ => rfl
  | .str _, _ => rfl
  | .tup xs, h => by rw [toD, PyData.depth, dep, depth_toDs xs (by simpa [isD] using h), Nat.add_comm]
  | .lst xs, h => by rw [toD, PyData.depth, dep, depth_toDs xs (by simpa [isD] using h), Nat.add_comm]
  | .ol xs, h => by rw [toD, PyData.depth, dep, depth_toDs xs (by simpa [isD] using h), Nat.add_comm]
  | .kl xs, h => by rw [toD, PyData.depth, dep, depth_toDs xs (by simpa [isD] using h), Nat.add_comm]
  | .ty _, h => by simp [isD] at h
  | .dct _, h => by simp [isD] at h
  | .ref _, h => by simp [isD] at h
  | .xv _ _, h => by simp [isD] at h
  | .od _, h => by simp [isD] at h
theorem depth_toDs : ∀ (x : List PV), isDs x = true → PyData.depthAll (toDs x) = deps x
  | [], _ => by rw [toDs, PyData.depthAll, deps]
  | x :: xs, h => by
    have h' : isD x = true ∧ isDs xs = true := by simpa [isDs] using h
    rw [toDs, PyData.depthAll, deps, depth_toD x h'.1, depth_toDs xs h'.2]
end
/-- both are data, one of them at most sixty deep -/
def eqvP (x y : PV) : Option Bool := if isD x && isD y && decide (min (dep x) (dep y) ≤ 60) then some (PyData.eqv (toD x) (toD y)) else none
def oEq : PV → PV → Option PV := fun x y => (eqvP x y).map .bl
def oNe : PV → PV → Option PV := fun x y => (eqvP x y).map fun b => .bl (!b)
def rEqP (K : PySem.W.Frag) (f : Bool → Bool) : R2 := fun x y H Q => ∃ d e, Dp K H x d ∧ Dp K H y e ∧ d.plain = true ∧ e.plain = true ∧ min d.depth e.depth ≤ 60 ∧ Q (.bl (f (PyData.eqv d e))) H
theorem op_eqP {X : Cx} (hu : X.A.units + 64 < cLine) : OpR X (compareOp .Eq) (rEqP X.K fun b => b) := by
  intro pins s σ H x y v u Q I rx ry h
  obtain ⟨d, e, hd, he, sd, se, hm, q⟩ := h
  obtain ⟨as, r1⟩ := Dp.reads I d x v hd rx
  obtain ⟨bs, r2⟩ := Dp.reads I e y u he ry
  exact PySem.SeqAt.eq_plain r1 r2 sd se (by omega) ⟨.bl _, H, I, rfl, q⟩
theorem op_neP {X : Cx} (hu : X.A.units + 64 < cLine) : OpR X (compareOp .NotEq) (rEqP X.K fun b => !b) := by
  intro pins s σ H x y v u Q I rx ry h
  obtain ⟨d, e, hd, he, sd, se, hm, q⟩ := h
  obtain ⟨as, r1⟩ := Dp.reads I d x v hd rx
  obtain ⟨bs, r2⟩ := Dp.reads I e y u he ry
  exact PySem.SeqAt.ne_plain r1 r2 sd se (by omega) ⟨.bl _, H, I, rfl, q⟩
theorem eqP_ok {K : PySem.W.Frag} {f : Bool → Bool} : OpOk K (fun x y => (eqvP x y).map fun b => .bl (f b)) (rEqP K f) := by
  intro g S H x y z u v Q w hx hy e q
  replace e : (eqvP x y).map (fun b => PV.bl (f b)) = some z := e
  unfold eqvP at e
  split at e
  · rename_i hc
    simp only [Bool.and_eq_true, decide_eq_true_eq] at hc
    obtain ⟨⟨h1, h2⟩, h3⟩ := hc
    cases e
    refine ⟨_, _, hx.dp w.f h1, hy.dp w.f h2, plain_toD _ h1, plain_toD _ h2, ?_, q _ g H (.refl w) (.frz (.bl _))⟩
    rw [depth_toD x h1, depth_toD y h2]
    exact h3
  · cases e
theorem oEq_ok {K : PySem.W.Frag} : OpOk K oEq (rEqP K fun b => b) := eqP_ok
theorem oNe_ok {K : PySem.W.Frag} : OpOk K oNe (rEqP K fun b => !b) := eqP_ok

/-! ### order of whole numbers -/
def oLtI : PV → PV → Option PV := oI0 fun i j => .bl (decide (i < j))
def oLeI : PV → PV → Option PV := oI0 fun i j => .bl (decide (i ≤ j))
def oGtI : PV → PV → Option PV := oI0 fun i j => .bl (decide (j < i))
def oGeI : PV → PV → Option PV := oI0 fun i j => .bl (decide (j ≤ i))

/-! ### is None -/
def isNon : PV → Bool
  | .non => true
  | _ => false
def oIsN : PV → PV → Option PV := fun x y => match y with
  | .non => some (.bl (isNon x))
  | _ => none
def oNotN : PV → PV → Option PV := fun x y => match y with
  | .non => some (.bl (!isNon x))
  | _ => none
theorem isNon_ok {K : PySem.W.Frag} {g : G} {H : Hp} {x : PV} {u : V} (h : OV K g H x u) : decide (u = .non) = isNon x := by
  cases h with
  | frz z => cases z <;> first | rfl | exact decide_eq_false (fun e => by cases e)
  | ol _ _ => exact decide_eq_false (fun e => by cases e)
  | od _ _ => exact decide_eq_false (fun e => by cases e)
theorem oIsN_ok {K : PySem.W.Frag} : OpOk K oIsN (fun x y H Q => y = .non ∧ Q (.bl (decide (x = .non))) H) := by
  intro g S H x y z u v Q w hx hy e q
  unfold oIsN at e
  split at e
  · cases e
    cases hy.fr rfl
    exact ⟨rfl, by rw [isNon_ok hx]; exact q _ g H (.refl w) (.frz (.bl _))⟩
  · cases e
theorem oNotN_ok {K : PySem.W.Frag} : OpOk K oNotN (fun x y H Q => y = .non ∧ Q (.bl (!decide (x = .non))) H) := by
  intro g S H x y z u v Q w hx hy e q
  unfold oNotN at e
  split at e
  · cases e
    cases hy.fr rfl
    exact ⟨rfl, by rw [isNon_ok hx]; exact q _ g H (.refl w) (.frz (.bl _))⟩
  · cases e


/-! ### in -/
def inP (x : PV) (xs : List PV) : Bool := (toDs xs).any fun y => PyData.eqv y (toD x)
def inO (x y : PV) : Option Bool := match sqOf y with
  | some xs => if isD x && isDs xs && decide (min (deps xs) (dep x) ≤ 60) then some (inP x xs) else none
  | none => (match x, y with
    | .str a, .str z => (match a.cps.toList with
      | [c] => some (decide (c ∈ z.cps.toList))
      | _ => none)
    | _, _ => none)
def oIn : PV → PV → Option PV := fun x y => (inO x y).map fun b => .bl b
def oNotIn : PV → PV → Option PV := fun x y => (inO x y).map fun b => .bl (!b)
def rInP (K : PySem.W.Frag) (f : Bool → Bool) : R2 := fun x y H Q => (∃ d ds, Dp K H x d ∧ (Dp K H y (.list ds) ∨ Dp K H y (.tuple ds)) ∧ d.plain = true ∧ PyData.plainAll ds = true ∧ min (PyData.depthAll ds) d.depth ≤ 60 ∧ Q (.bl (f (ds.any fun z => PyData.eqv z d))) H) ∨
  ∃ (c : Nat) (z : Str), x = .str ⟨#[c]⟩ ∧ y = .str z ∧ Q (.bl (f (decide (c ∈ z.cps.toList)))) H
theorem op_inP {X : Cx} (hu : X.A.units + 64 < cLine) : OpR X (compareOp .In) (rInP X.K fun b => b) := by
  intro pins s σ H x y v u Q I rx ry h
  rcases h with ⟨d, ds, hd, hy, pd, pds, hm, q⟩ | h
  · obtain ⟨as, r1⟩ := Dp.reads I d x v hd rx
    rcases hy with hy | hy
    · obtain ⟨bs, r2⟩ := Dp.reads I _ y u hy ry
      exact PySem.SeqAt.in_list_data r2 r1 pds pd (by omega) ⟨.bl _, H, I, rfl, q⟩
    · obtain ⟨bs, r2⟩ := Dp.reads I _ y u hy ry
      exact PySem.SeqAt.in_tuple_data r2 r1 pds pd (by omega) ⟨.bl _, H, I, rfl, q⟩
  · exact op_in_sign pins s σ H x y v u Q I rx ry h
theorem op_notInP {X : Cx} (hu : X.A.units + 64 < cLine) : OpR X (compareOp .NotIn) (rInP X.K fun b => !b) := by
  intro pins s σ H x y v u Q I rx ry h
  rcases h with ⟨d, ds, hd, hy, pd, pds, hm, q⟩ | h
  · obtain ⟨as, r1⟩ := Dp.reads I d x v hd rx
    rcases hy with hy | hy
    · obtain ⟨bs, r2⟩ := Dp.reads I _ y u hy ry
      exact PySem.SeqAt.notIn_list_data r2 r1 pds pd (by omega) ⟨.bl _, H, I, rfl, q⟩
    · obtain ⟨bs, r2⟩ := Dp.reads I _ y u hy ry
      exact PySem.SeqAt.notIn_tuple_data r2 r1 pds pd (by omega) ⟨.bl _, H, I, rfl, q⟩
  · exact op_notIn_sign pins s σ H x y v u Q I rx ry h
theorem sq_dp {K : PySem.W.Frag} {g : G} {H : Hp} {y : PV} {v : V} {xs : List PV} (hr : RdLe g.F H) (hy : OV K g H y v) (e : sqOf y = some xs) (h : isDs xs = true) : Dp K H v (.list (toDs xs)) ∨ Dp K H v (.tuple (toDs xs)) := by
  unfold sqOf at e
  split at e
  · cases e; have := hy.dp hr (by rw [isD]; exact h); rw [toD] at this; exact .inl this
  · cases e; have := hy.dp hr (by rw [isD]; exact h); rw [toD] at this; exact .inl this
  · cases e; have := hy.dp hr (by rw [isD]; exact h); rw [toD] at this; exact .inl this
  · cases e; have := hy.dp hr (by rw [isD]; exact h); rw [toD] at this; exact .inr this
  · cases e
theorem sign_of {a : Str} {c : Nat} (h : a.cps.toList = [c]) : V.str a = .str ⟨#[c]⟩ := by
  obtain ⟨⟨l⟩⟩ := a
  have h : l = [c] := h
  rw [h]
theorem inP_ok {K : PySem.W.Frag} {f : Bool → Bool} : OpOk K (fun x y => (inO x y).map fun b => .bl (f b)) (rInP K f) := by
  intro g S H x y z u v Q w hx hy e q
  replace e : (inO x y).map (fun b => PV.bl (f b)) = some z := e
  unfold inO at e
  split at e
  · rename_i xs es
    split at e
    · rename_i hc
      simp only [Bool.and_eq_true, decide_eq_true_eq] at hc
      obtain ⟨⟨h1, h2⟩, h3⟩ := hc
      cases e
      refine .inl ⟨_, _, hx.dp w.f h1, sq_dp w.f hy es h2, plain_toD _ h1, plain_toDs _ h2, ?_, q _ g H (.refl w) (.frz (.bl _))⟩
      rw [depth_toD x h1, depth_toDs xs h2]
      exact h3
    · cases e
  · split at e
    · split at e
      · rename_i c hc
        cases e
        cases hx.fr rfl
        cases hy.fr rfl
        refine .inr ⟨c, _, ?_, rfl, q _ g H (.refl w) (.frz (.bl _))⟩
        exact sign_of hc
      · cases e
    · cases e
theorem oIn_ok {K : PySem.W.Frag} : OpOk K oIn (rInP K fun b => b) := inP_ok
theorem oNotIn_ok {K : PySem.W.Frag} : OpOk K oNotIn (rInP K fun b => !b) := inP_ok

/-! ### built-ins -/
theorem ovs1 {K : PySem.W.Frag} {g : G} {H : Hp} {x : PV} {us : List V} (h : OVs K g H [x] us) : ∃ u, us = [u] ∧ OV K g H x u := by
  cases h with
  | cons a b => cases b; exact ⟨_, rfl, a⟩
theorem ovs2 {K : PySem.W.Frag} {g : G} {H : Hp} {x y : PV} {us : List V} (h : OVs K g H [x, y] us) : ∃ u v, us = [u, v] ∧ OV K g H x u ∧ OV K g H y v := by
  cases h with
  | cons a b => cases b with | cons c d => cases d; exact ⟨_, _, rfl, a, c⟩
def bLen : List PV → Option PV
  | [.str z] => if decide (z.length ≤ most) then some (.int z.length) else none
  | [x] => (sqOf x).map fun xs => .int xs.length
  | _ => none
theorem bLen_ok {K : PySem.W.Frag} : CallOk K bLen (fun xs H Q => ∃ x n, xs = [x] ∧ LenV K x H n ∧ Q (.int n) H) := by
  intro g S H xs z us Q w hx e q
  unfold bLen at e
  split at e
  · obtain ⟨u, rfl, hu⟩ := ovs1 hx
    split at e
    · rename_i hc
      cases e
      cases hu.fr rfl
      exact ⟨_, _, rfl, ⟨Nat.le_trans (of_decide_eq_true hc) most_le, rfl⟩, q _ g H (.refl w) (.frz (.int _))⟩
    · cases e
  · obtain ⟨u, rfl, hu⟩ := ovs1 hx
    rename_i x _
    cases e2 : sqOf x with
    | none => rw [e2] at e; cases e
    | some xs =>
      rw [e2] at e
      have e3 : z = .int xs.length := (Option.some.inj e).symm
      subst e3
      obtain ⟨a, vs, rfl, sq, f⟩ := sqOf_ok w hu e2
      refine ⟨_, vs.length, rfl, ?_, q _ g H (.refl w) (by rw [f.length]; exact .frz (.int _))⟩
      exact sq.elim (fun s => .inl ⟨vs, s, rfl⟩) (fun s => .inr ⟨vs, s, rfl⟩)
  · cases e
def bTuple : List PV → Option PV
  | [x] => (sqOf x).map .tup
  | _ => none
theorem bTuple_ok {K : PySem.W.Frag} : CallOk K bTuple (fun xs H Q => ∃ p ys, xs = [.ref p] ∧ ((SqL K H p ys ∧ ∀ l, H l = none → Q (.ref l) (upd H l (.tup ys))) ∨ (SqT K H p ys ∧ Q (.ref p) H))) := by
  intro g S H xs z us Q w hx e q
  unfold bTuple at e
  split at e
  · obtain ⟨u, rfl, hu⟩ := ovs1 hx
    rename_i x
    cases e2 : sqOf x with
    | none => rw [e2] at e; cases e
    | some xs =>
      rw [e2] at e
      have e3 : z = .tup xs := (Option.some.inj e).symm
      subst e3
      cases x with
      | tup ys =>
        have e4 : ys = xs := Option.some.inj e2
        subst e4
        cases hu.fr rfl with
        | tup s f => exact ⟨_, _, rfl, .inr ⟨w.f.sqT s, q _ g H (.refl w) (.frz (.tup s f))⟩⟩
      | lst ys =>
        have e4 : ys = xs := Option.some.inj e2
        subst e4
        obtain ⟨a, vs, rfl, r, f⟩ := hu.list w (.inl rfl)
        refine ⟨_, _, rfl, .inl ⟨.inl r, fun p hp => ?_⟩⟩
        obtain ⟨gr, f2⟩ := new_tup w hp f
        exact q _ _ _ gr (.frz f2)
      | kl ys =>
        have e4 : ys = xs := Option.some.inj e2
        subst e4
        cases hu.fr rfl with
        | kl s f =>
          refine ⟨_, _, rfl, .inl ⟨w.f.sqL s, fun p hp => ?_⟩⟩
          obtain ⟨gr, f2⟩ := new_tup w hp f
          exact q _ _ _ gr (.frz f2)
      | ol ys =>
        have e4 : ys = xs := Option.some.inj e2
        subst e4
        obtain ⟨a, vs, rfl, r, f⟩ := hu.list w (.inr rfl)
        refine ⟨_, _, rfl, .inl ⟨.inl r, fun p hp => ?_⟩⟩
        obtain ⟨gr, f2⟩ := new_tup w hp f
        exact q _ _ _ gr (.frz f2)
      | _ => cases e2
  · cases e
def bInt : List PV → Option PV
  | [.int i] => some (.int i)
  | [.bl b] => some (.int (if b then 1 else 0))
  | _ => none
theorem bInt_ok {K : PySem.W.Frag} : CallOk K bInt (fun xs H Q => (∃ i, xs = [.int i] ∧ Q (.int i) H) ∨ ∃ k, xs = [.bl k] ∧ Q (.int (if k then 1 else 0)) H) := by
  intro g S H xs z us Q w hx e q
  unfold bInt at e
  split at e
  · obtain ⟨u, rfl, hu⟩ := ovs1 hx
    cases e; cases hu.fr rfl
    exact .inl ⟨_, rfl, q _ g H (.refl w) (.frz (.int _))⟩
  · obtain ⟨u, rfl, hu⟩ := ovs1 hx
    cases e; cases hu.fr rfl
    exact .inr ⟨_, rfl, q _ g H (.refl w) (.frz (.int _))⟩
  · cases e
def bAbs : List PV → Option PV
  | [.int i] => some (.int (if i < 0 then -i else i))
  | _ => none
theorem bAbs_ok {K : PySem.W.Frag} : CallOk K bAbs (fun xs H Q => ∃ i, xs = [.int i] ∧ Q (.int (if i < 0 then -i else i)) H) := by
  intro g S H xs z us Q w hx e q
  unfold bAbs at e
  split at e
  · obtain ⟨u, rfl, hu⟩ := ovs1 hx
    cases e; cases hu.fr rfl
    exact ⟨_, rfl, q _ g H (.refl w) (.frz (.int _))⟩
  · cases e
/-- a list of whole numbers; of bools -/
def intsOf : List PV → Option (List Int)
  | [] => some []
  | .int i :: r => (intsOf r).map (i :: ·)
  | _ => none
def blsOf : List PV → Option (List Bool)
  | [] => some []
  | .bl i :: r => (blsOf r).map (i :: ·)
  | _ => none
theorem intsOf_ok {K : PySem.W.Frag} {g : G} : ∀ {xs : List PV} {vs : List V} {ns : List Int}, FRs K g xs vs → intsOf xs = some ns → vs = ns.map V.int
  | [], _, _, h, e => by cases h; cases e; rfl
  | .int i :: r, _, _, h, e => by
    cases h with
    | cons a b =>
      cases a
      unfold intsOf at e
      cases e2 : intsOf r with
      | none => rw [e2] at e; cases e
      | some ms => rw [e2] at e; cases e; rw [intsOf_ok b e2]; rfl
  | .non :: _, _, _, _, e => by simp [intsOf] at e
  | .bl _ :: _, _, _, _, e => by simp [intsOf] at e
  | .str _ :: _, _, _, _, e => by simp [intsOf] at e
  | .ty _ :: _, _, _, _, e => by simp [intsOf] at e
  | .tup _ :: _, _, _, _, e => by simp [intsOf] at e
  | .lst _ :: _, _, _, _, e => by simp [intsOf] at e
  | .dct _ :: _, _, _, _, e => by simp [intsOf] at e
  | .ref _ :: _, _, _, _, e => by simp [intsOf] at e
  | .xv _ _ :: _, _, _, _, e => by simp [intsOf] at e
  | .ol _ :: _, _, _, _, e => by simp [intsOf] at e
  | .od _ :: _, _, _, _, e => by simp [intsOf] at e
theorem blsOf_ok {K : PySem.W.Frag} {g : G} : ∀ {xs : List PV} {vs : List V} {ns : List Bool}, FRs K g xs vs → blsOf xs = some ns → vs = ns.map V.bl
  | [], _, _, h, e => by cases h; cases e; rfl
  | .bl i :: r, _, _, h, e => by
    cases h with
    | cons a b =>
      cases a
      unfold blsOf at e
      cases e2 : blsOf r with
      | none => rw [e2] at e; cases e
      | some ms => rw [e2] at e; cases e; rw [blsOf_ok b e2]; rfl
  | .non :: _, _, _, _, e => by simp [blsOf] at e
  | .int _ :: _, _, _, _, e => by simp [blsOf] at e
  | .str _ :: _, _, _, _, e => by simp [blsOf] at e
  | .ty _ :: _, _, _, _, e => by simp [blsOf] at e
  | .tup _ :: _, _, _, _, e => by simp [blsOf] at e
  | .lst _ :: _, _, _, _, e => by simp [blsOf] at e
  | .dct _ :: _, _, _, _, e => by simp [blsOf] at e
  | .ref _ :: _, _, _, _, e => by simp [blsOf] at e
  | .xv _ _ :: _, _, _, _, e => by simp [blsOf] at e
  | .ol _ :: _, _, _, _, e => by simp [blsOf] at e
  | .od _ :: _, _, _, _, e => by simp [blsOf] at e
/-- of one list, its numbers -/
def onInts (f : List Int → Option PV) : List PV → Option PV
  | [x] => (lsOf x).bind fun xs => (intsOf xs).bind f
  | _ => none
theorem onInts_ok {K : PySem.W.Frag} {f : List Int → Option PV} {r : List V → Hp → VK → Prop} (h : ∀ (g : G) (S : Store) (H : Hp) (a : Addr) (ns : List Int) (z : PV) (Q : VK), WR K g S H → SqL K H a (ns.map V.int) → f ns = some z → (∀ w g' H', Grow g H g' H' → OV K g' H' z w → Q w H') → r [.ref a] H Q) : CallOk K (onInts f) r := by
  intro g S H xs z us Q w hx e q
  unfold onInts at e
  split at e
  · obtain ⟨u, rfl, hu⟩ := ovs1 hx
    rename_i x
    cases e2 : lsOf x with
    | none => rw [e2] at e; cases e
    | some ys =>
      rw [e2] at e
      have e : (intsOf ys).bind f = some z := e
      cases e3 : intsOf ys with
      | none => rw [e3] at e; cases e
      | some ns =>
        rw [e3] at e
        obtain ⟨a, vs, rfl, rd, fr⟩ := lsOf_ok w hu e2
        have e4 := intsOf_ok fr e3
        subst e4
        exact h g S H a ns z Q w (.inl rd) e q
  · cases e
def onBls (f : List Bool → Option PV) : List PV → Option PV
  | [x] => (lsOf x).bind fun xs => (blsOf xs).bind f
  | _ => none
theorem onBls_ok {K : PySem.W.Frag} {f : List Bool → Option PV} {r : List V → Hp → VK → Prop} (h : ∀ (g : G) (S : Store) (H : Hp) (a : Addr) (ns : List Bool) (z : PV) (Q : VK), WR K g S H → SqL K H a (ns.map V.bl) → f ns = some z → (∀ w g' H', Grow g H g' H' → OV K g' H' z w → Q w H') → r [.ref a] H Q) : CallOk K (onBls f) r := by
  intro g S H xs z us Q w hx e q
  unfold onBls at e
  split at e
  · obtain ⟨u, rfl, hu⟩ := ovs1 hx
    rename_i x
    cases e2 : lsOf x with
    | none => rw [e2] at e; cases e
    | some ys =>
      rw [e2] at e
      have e : (blsOf ys).bind f = some z := e
      cases e3 : blsOf ys with
      | none => rw [e3] at e; cases e
      | some ns =>
        rw [e3] at e
        obtain ⟨a, vs, rfl, rd, fr⟩ := lsOf_ok w hu e2
        have e4 := blsOf_ok fr e3
        subst e4
        exact h g S H a ns z Q w (.inl rd) e q
  · cases e
def bSum : List PV → Option PV := onInts fun ns => some (.int ns.sum)
theorem bSum_ok {K : PySem.W.Frag} : CallOk K bSum (rSum K) := onInts_ok fun g S H a ns z Q w sq e q => by cases e; exact ⟨a, ns, rfl, sq, q _ g H (.refl w) (.frz (.int _))⟩
def bAll : List PV → Option PV := onBls fun ns => some (.bl (ns.all id))
theorem bAll_ok {K : PySem.W.Frag} : CallOk K bAll (rAll K) := onBls_ok fun g S H a ns z Q w sq e q => by cases e; exact ⟨a, ns, rfl, sq, q _ g H (.refl w) (.frz (.bl _))⟩
def bAny : List PV → Option PV := onBls fun ns => some (.bl (ns.any id))
theorem bAny_ok {K : PySem.W.Frag} : CallOk K bAny (rAny K) := onBls_ok fun g S H a ns z Q w sq e q => by cases e; exact ⟨a, ns, rfl, sq, q _ g H (.refl w) (.frz (.bl _))⟩
end L3

end
section
set_option Elab.async false
set_option linter.all false
set_option maxRecDepth 100000
set_option maxHeartbeats 4000000
namespace L3
open PySem PySem.Spec L2
set_option autoImplicit false

theorem GLe.laid {g : G} {a : Addr} {o : HO} (e : g.F a = none) : GLe g { g with F := upd g.F a o } := ⟨fun b v q => by show upd g.F a o b = some v; rw [upd_ne (ne_of_none q e)]; exact q, Nat.le_refl _, fun _ _ => rfl⟩
/-! ### modes: the store is read alone (Pm), or changed -/
structure Md (K : PySem.W.Frag) where
  R : G → Store → Hp → Prop
  T : G → Hp → Store → G → Hp → Store → Prop
  fr : G → Addr → Prop
  wr : ∀ {g : G} {S : Store} {H : Hp}, R g S H → WR K g S H
  refl : ∀ {g : G} {S : Store} {H : Hp}, R g S H → T g H S g H S
  trans : ∀ {a b c : G} {H J L : Hp} {S S1 S2 : Store}, T a H S b J S1 → T b J S1 c L S2 → T a H S c L S2
  grow : ∀ {g g' : G} {S : Store} {H H' : Hp}, R g S H → Grow g H g' H' → R g' S H' ∧ T g H S g' H' S
  le : ∀ {g g' : G} {H H' : Hp} {S S' : Store}, T g H S g' H' S' → GLe g g'
  free : ∀ {g g' : G} {H H' : Hp} {S S' : Store} {a : Addr}, T g H S g' H' S' → H' a = none → H a = none
  own : ∀ {g g' : G} {H H' : Hp} {S S' : Store} {a : Addr} {o : HO}, T g H S g' H' S' → H a = some o → g.F a = none → fr g a → H' a = some o ∧ g'.F a = none ∧ fr g' a
  new : ∀ {g g' : G} {S : Store} {H H' : Hp} {p : Addr}, R g S H → Grow g H g' H' → H p = none → fr g' p
  put : ∀ {g0 g : G} {H0 H : Hp} {S0 S : Store} {a : Addr} {u : HO} (o : HO), R g0 S0 H0 → T g0 H0 S0 g H S → R g S H → H a = some u → H0 a = none → g.F a = none → fr g a → R g S (upd H a o) ∧ T g0 H0 S0 g (upd H a o) S
  rest : ∀ {g0 g : G} {H0 H : Hp} {S0 S : Store} {a : Addr} {o : HO}, T g0 H0 S0 g H S → R g S H → H a = some o → H0 a = none → g.F a = none → fr g a → R { g with F := upd g.F a o } S H ∧ T g0 H0 S0 { g with F := upd g.F a o } H S

/-- the store is read alone -/
def Pm (K : PySem.W.Frag) : Md K where
  R := WR K
  T := fun g H S g' H' S' => Grow g H g' H' ∧ S' = S
  fr := fun _ _ => True
  wr := fun h => h
  refl := fun h => ⟨.refl h, rfl⟩
  trans := fun x y => ⟨x.1.trans y.1, y.2.trans x.2⟩
  grow := fun r x => ⟨x.wr r, x, rfl⟩
  le := fun x => x.1.le
  free := fun x h => x.1.h.free h
  own := fun x h e _ => ⟨x.1.h _ _ h, x.1.none h e, trivial⟩
  new := fun _ _ _ => trivial
  put := fun {g0 g H0 H S0 S a u} o r0 x r h h0 e _ => by
    obtain ⟨x, rfl⟩ := x
    have z : Grow g0 H0 g (upd H a o) := by
      refine ⟨x.le, x.mu, x.k, x.m, fun b v q => ?_, fun b v q => ?_, x.n⟩
      · rw [upd_ne (ne_of_none q h0)]; exact x.h _ _ q
      · have nb : b ≠ a := by
          rintro rfl
          rcases q with q | ⟨_, q⟩ <;> rw [e] at q <;> cases q
        rcases x.f b v q with q | ⟨ob, q⟩
        · exact .inl (by rw [upd_ne nb]; exact q)
        · exact .inr ⟨ob, by rw [upd_ne nb]; exact q⟩
    exact ⟨z.wr r0, z, rfl⟩
  rest := fun {g0 g H0 H S0 S a o} x r h h0 e _ => by
    obtain ⟨x, rfl⟩ := x
    have hs : Same g.F (upd g.F a o) := fun b v q => by rw [upd_ne (ne_of_none q e)]; exact q
    have hf : RdLe (upd g.F a o) H := fun b v q => by
      by_cases hb : b = a
      · subst hb
        rcases q with q | ⟨ob, q⟩
        · rw [upd_same] at q; cases q; exact .inl h
        · rw [upd_same] at q; cases q; exact .inr ⟨ob, h⟩
      · rcases q with q | ⟨ob, q⟩
        · rw [upd_ne hb] at q; exact x.f _ _ (.inl q)
        · rw [upd_ne hb] at q; exact x.f _ _ (.inr ⟨ob, q⟩)
    refine ⟨⟨hf, r.k, fun n ob q => (r.s n ob q).mono (GLe.laid e) (Same.refl _)⟩, ⟨⟨x.le.f.trans hs, x.le.k, x.le.m⟩, x.mu, x.k, x.m, x.h, hf, fun b q => ?_⟩, rfl⟩
    by_cases hb : b = a
    · subst hb; exact .inr h0
    · have q : upd g.F a o b ≠ none := q
      rw [upd_ne hb] at q
      exact x.n b q

/-! ### environments -/
structure EnvF {K : PySem.W.Frag} (md : Md K) (g : G) (H : Hp) (σ : St) (ρ : Env) : Prop where
  r : EnvR K g H σ ρ
  o : ∀ (i : Nat) (x : PV) (a : Addr), ρ[i]? = some (some x) → fz x = false → σ[i]? = some (some (.ref a)) → md.fr g a
theorem EnvF.step {K : PySem.W.Frag} {md : Md K} {g g' : G} {H H' : Hp} {S S' : Store} {σ : St} {ρ : Env} (e : EnvF md g H σ ρ) (t : md.T g H S g' H' S') : EnvF md g' H' σ ρ := by
  have le := md.le t
  have key : ∀ (i : Nat) (x : PV), ρ[i]? = some (some x) → ∃ v, σ[i]? = some (some v) ∧ SlR K g' H' v x ∧ (fz x = false → ∀ a, v = .ref a → md.fr g' a) := fun i x h => by
    obtain ⟨v, hv, sl⟩ := e.r.at_ i x h
    refine ⟨v, hv, ?_⟩
    cases x with
    | ol xs =>
      obtain ⟨a, vs, e1, e2, e3, e4⟩ := sl
      obtain ⟨q1, q2, q3⟩ := md.own t e2 e4 (e.o i _ a h rfl (e1 ▸ hv))
      exact ⟨⟨a, vs, e1, q1, FRs.mono le _ _ e3, q2⟩, fun _ b eb => by rw [e1] at eb; cases eb; exact q3⟩
    | od xs =>
      obtain ⟨a, vs, e1, e2, e3, e4⟩ := sl
      obtain ⟨q1, q2, q3⟩ := md.own t e2 e4 (e.o i _ a h rfl (e1 ▸ hv))
      exact ⟨⟨a, vs, e1, q1, FRk.mono le _ _ e3, q2⟩, fun _ b eb => by rw [e1] at eb; cases eb; exact q3⟩
    | _ => exact ⟨FR.mono le _ _ sl, fun z => by cases z⟩
  refine ⟨⟨e.r.len, fun i x h => ?_, e.r.inj⟩, fun i x a h hf hs => ?_⟩
  · obtain ⟨v, h1, h2, _⟩ := key i x h; exact ⟨v, h1, h2⟩
  · obtain ⟨v, h1, _, h3⟩ := key i x h
    rw [h1] at hs
    exact h3 hf a (Option.some.inj (Option.some.inj hs))
/-- .. of a def's body that began at H0 -/
structure EnvS {K : PySem.W.Frag} (md : Md K) (H0 : Hp) (g : G) (H : Hp) (σ : St) (ρ : Env) : Prop where
  f : EnvF md g H σ ρ
  n : ∀ (i : Nat) (x : PV) (a : Addr), ρ[i]? = some (some x) → fz x = false → σ[i]? = some (some (.ref a)) → H0 a = none
theorem EnvS.step {K : PySem.W.Frag} {md : Md K} {H0 : Hp} {g g' : G} {H H' : Hp} {S S' : Store} {σ : St} {ρ : Env} (e : EnvS md H0 g H σ ρ) (t : md.T g H S g' H' S') : EnvS md H0 g' H' σ ρ := ⟨e.f.step t, e.n⟩
theorem get_set {α : Type} {l : List α} {i j : Nat} {x y : α} (h : (l.set i x)[j]? = some y) : (j = i ∧ i < l.length ∧ y = x) ∨ (j ≠ i ∧ l[j]? = some y) := by
  by_cases e : j = i
  · subst e
    by_cases hl : j < l.length
    · rw [List.getElem?_set_self hl] at h; exact .inl ⟨rfl, hl, (Option.some.inj h).symm⟩
    · rw [List.getElem?_eq_none (by simpa using hl)] at h; cases h
  · rw [List.getElem?_set_ne (Ne.symm e)] at h; exact .inr ⟨e, h⟩
/-- a value at rest is stored -/
theorem EnvS.set {K : PySem.W.Frag} {md : Md K} {H0 : Hp} {g : G} {H : Hp} {σ : St} {ρ : Env} (e : EnvS md H0 g H σ ρ) {i : Nat} {x : PV} {v : V} (f : FR K g x v) (hx : fz x = true) : EnvS md H0 g H (σ.set i (some v)) (ρ.set i (some x)) := by
  have hl := e.f.r.len
  have old : ∀ (j : Nat) (y : PV), j ≠ i → (σ.set i (some v))[j]? = σ[j]? := fun j y h => by rw [List.getElem?_set_ne (Ne.symm h)]
  refine ⟨⟨⟨by simp [hl], fun j y h => ?_, fun j k y z u h1 h2 f1 f2 s1 s2 => ?_⟩, fun j y a h hf hs => ?_⟩, fun j y a h hf hs => ?_⟩
  · rcases get_set h with ⟨rfl, hlt, hy⟩ | ⟨ne, h⟩
    · cases hy
      exact ⟨v, by rw [List.getElem?_set_self (by omega)], SlR.of_fr f⟩
    · rw [old j y ne]; exact e.f.r.at_ j y h
  · rcases get_set h1 with ⟨_, _, hy⟩ | ⟨n1, h1⟩
    · cases hy; rw [hx] at f1; cases f1
    · rcases get_set h2 with ⟨_, _, hy⟩ | ⟨n2, h2⟩
      · cases hy; rw [hx] at f2; cases f2
      · rw [old j y n1] at s1; rw [old k z n2] at s2
        exact e.f.r.inj j k y z u h1 h2 f1 f2 s1 s2
  · rcases get_set h with ⟨_, _, hy⟩ | ⟨n1, h⟩
    · cases hy; rw [hx] at hf; cases hf
    · rw [old j y n1] at hs; exact e.f.o j y a h hf hs
  · rcases get_set h with ⟨_, _, hy⟩ | ⟨n1, h⟩
    · cases hy; rw [hx] at hf; cases hf
    · rw [old j y n1] at hs; exact e.n j y a h hf hs
/-- a new list or dict that the slot owns is stored; a stands in no other slot -/
theorem EnvS.setO {K : PySem.W.Frag} {md : Md K} {H0 : Hp} {g : G} {H : Hp} {σ : St} {ρ : Env} (e : EnvS md H0 g H σ ρ) {i : Nat} {x : PV} {a : Addr} (f : SlR K g H (.ref a) x) (hx : fz x = false) (h0 : H0 a = none) (hf : md.fr g a)
    (hn : ∀ (j : Nat) (y : PV), j ≠ i → ρ[j]? = some (some y) → fz y = false → σ[j]? ≠ some (some (.ref a))) : EnvS md H0 g H (σ.set i (some (.ref a))) (ρ.set i (some x)) := by
  have hl := e.f.r.len
  have old : ∀ (j : Nat), j ≠ i → (σ.set i (some (.ref a)))[j]? = σ[j]? := fun j h => by rw [List.getElem?_set_ne (Ne.symm h)]
  refine ⟨⟨⟨by simp [hl], fun j y h => ?_, fun j k y z u h1 h2 f1 f2 s1 s2 => ?_⟩, fun j y b h hfz hs => ?_⟩, fun j y b h hfz hs => ?_⟩
  · rcases get_set h with ⟨rfl, hlt, hy⟩ | ⟨ne, h⟩
    · cases hy
      exact ⟨_, by rw [List.getElem?_set_self (by omega)], f⟩
    · rw [old j ne]; exact e.f.r.at_ j y h
  · rcases get_set h1 with ⟨e1, l1, hy1⟩ | ⟨n1, h1⟩
    · rcases get_set h2 with ⟨e2, _, _⟩ | ⟨n2, h2⟩
      · rw [e1, e2]
      · subst e1
        rw [List.getElem?_set_self (by omega)] at s1
        rw [old k n2, ← s1] at s2
        exact absurd s2 (hn k z n2 (by assumption) f2)
    · rcases get_set h2 with ⟨e2, l2, _⟩ | ⟨n2, h2⟩
      · subst e2
        rw [List.getElem?_set_self (by omega)] at s2
        rw [old j n1, ← s2] at s1
        exact absurd s1 (hn j y n1 (by assumption) f1)
      · rw [old j n1] at s1; rw [old k n2] at s2
        exact e.f.r.inj j k y z u h1 h2 f1 f2 s1 s2
  · rcases get_set h with ⟨e1, l1, _⟩ | ⟨n1, h⟩
    · subst e1; rw [List.getElem?_set_self (by omega)] at hs; cases hs; exact hf
    · rw [old j n1] at hs; exact e.f.o j y b h hfz hs
  · rcases get_set h with ⟨e1, l1, _⟩ | ⟨n1, h⟩
    · subst e1; rw [List.getElem?_set_self (by omega)] at hs; cases hs; exact h0
    · rw [old j n1] at hs; exact e.n j y b h hfz hs

/-! ### expressions in a mode -/
abbrev Xm := Env → Store → Option (Res PV × Store)
def PoX {K : PySem.W.Frag} (md : Md K) (g : G) (H : Hp) (S : Store) (σ : St) (W : WX) (Q : VK) : Res PV × Store → Prop
  | (.ok r, S') => ∀ v g' H', md.R g' S' H' → md.T g H S g' H' S' → OV K g' H' r v → Q v H'
  | (.ex c fs, S') => ∀ cls d g' H', md.R g' S' H' → md.T g H S g' H' S' → XR K g' H' c fs cls d → W cls d σ H'
def RchX {K : PySem.W.Frag} (md : Md K) (W : WX) (t : TE) (m : Xm) : Prop :=
  ∀ (σ : St) (H : Hp) (g : G) (S : Store) (ρ : Env) (Q : VK) (r : Res PV × Store), md.R g S H → EnvF md g H σ ρ → m ρ S = some r → PoX md g H S σ W Q r → t σ H Q
structure SimX (X : Cx) (md : Md X.K) (W : WX) (e : Expr) (m : Xm) : Prop where
  ex : ∃ t : TE, PE X e t ∧ RchX md W t m
def xP (m : Ex) : Xm := fun ρ S => (m ρ S).map fun r => (r, S)
theorem x_p {X : Cx} {md : Md X.K} {W : WX} {e : Expr} {m : Ex} (h : SimE X W e m) : SimX X md W e (xP m) := by
  obtain ⟨t, p, r⟩ := h.ex
  refine ⟨t, p, fun σ H g S ρ Q res rr er hm po => ?_⟩
  unfold xP at hm
  cases q : m ρ S with
  | none => rw [q] at hm; cases hm
  | some z =>
    rw [q] at hm
    have e2 : res = (z, S) := (Option.some.inj hm).symm
    subst e2
    refine r σ H g S ρ Q z (md.wr rr) er.r q ?_
    cases z with
    | ok x => exact fun v g' H' gr ov => by obtain ⟨a, b⟩ := md.grow rr gr; exact po v g' H' a b ov
    | ex c fs => exact fun cls d g' H' gr ov => by obtain ⟨a, b⟩ := md.grow rr gr; exact po cls d g' H' a b ov

/-- from a body's beginning to here; what gb knew is known still -/
structure Tr {K : PySem.W.Frag} (md : Md K) (gb g0 : G) (H0 : Hp) (S0 : Store) (g : G) (H : Hp) (S : Store) : Prop where
  t : md.T g0 H0 S0 g H S
  l : GLe gb g
theorem Tr.step {K : PySem.W.Frag} {md : Md K} {gb g0 g g' : G} {H0 H H' : Hp} {S0 S S' : Store} (x : Tr md gb g0 H0 S0 g H S) (y : md.T g H S g' H' S') : Tr md gb g0 H0 S0 g' H' S' := ⟨md.trans x.t y, x.l.trans (md.le y)⟩
/-! ### statements -/
inductive SR where
  | nx (ρ : Env) | rt (x : PV) | bk (ρ : Env) | ct (ρ : Env) | xx (c : Str) (fs : List (Str × PV)) (ρ : Env)
abbrev Sm := Env → Store → Option (SR × Store)
def PoS {K : PySem.W.Frag} (md : Md K) (gb g0 : G) (H0 : Hp) (S0 : Store) (W : WX) (D : Ends) : SR × Store → Prop
  | (.nx ρ, S) => ∀ σ g H, md.R g S H → Tr md gb g0 H0 S0 g H S → EnvS md H0 g H σ ρ → D.nx σ H
  | (.bk ρ, S) => ∀ σ g H, md.R g S H → Tr md gb g0 H0 S0 g H S → EnvS md H0 g H σ ρ → D.bk σ H
  | (.ct ρ, S) => ∀ σ g H, md.R g S H → Tr md gb g0 H0 S0 g H S → EnvS md H0 g H σ ρ → D.ct σ H
  | (.rt x, S) => ∀ v g H, md.R g S H → Tr md gb g0 H0 S0 g H S → FR K g x v → D.rt v H
  | (.xx c fs ρ, S) => ∀ cls d σ g H, md.R g S H → Tr md gb g0 H0 S0 g H S → EnvS md H0 g H σ ρ → XR K g H c fs cls d → W cls d σ H
def RchS {K : PySem.W.Frag} (md : Md K) (W : WX) (t : TS) (m : Sm) : Prop :=
  ∀ (σ : St) (H : Hp) (g : G) (S : Store) (ρ : Env) (gb g0 : G) (H0 : Hp) (S0 : Store) (D : Ends) (r : SR × Store), md.R g0 S0 H0 → md.R g S H → Tr md gb g0 H0 S0 g H S → EnvS md H0 g H σ ρ → m ρ S = some r → PoS md gb g0 H0 S0 W D r → t D σ H
structure SimS (X : Cx) (md : Md X.K) (W : WX) (st : Stmt) (m : Sm) : Prop where
  ex : ∃ t : TS, PS X st t ∧ RchS md W t m
structure SimB (X : Cx) (md : Md X.K) (W : WX) (st : List Stmt) (m : Sm) : Prop where
  ex : ∃ t : TS, PSs X st t ∧ RchS md W t m

section
variable {X : Cx} {md : Md X.K} {W : WX} {st : Stmt} {sts : List Stmt} {e : Expr} {pos : Pos}
def sNil : Sm := fun ρ S => some (.nx ρ, S)
theorem b_nil : SimB X md W [] sNil := ⟨_, pss_nil, fun σ H g S ρ gb g0 H0 S0 D r r0 rr t er hm po => by cases hm; exact po σ g H rr t er⟩
def sSeq (m n : Sm) : Sm := fun ρ S => match m ρ S with
  | some (.nx ρ', S') => n ρ' S'
  | r => r
theorem RchS.seq {t u : TS} {m n : Sm} (h : RchS md W t m) (k : RchS md W u n) : RchS md W (tSeq t u) (sSeq m n) := by
  intro σ H g S ρ gb g0 H0 S0 D r r0 rr tt er hm po
  unfold sSeq at hm
  split at hm
  · rename_i ρ' S' q
    refine h σ H g S ρ gb g0 H0 S0 _ (.nx ρ', S') r0 rr tt er q ?_
    exact fun σ' g' H' r' t' e' => k σ' H' g' S' ρ' gb g0 H0 S0 D r r0 r' t' e' hm po
  · rename_i q nq
    refine h σ H g S ρ gb g0 H0 S0 _ r r0 rr tt er hm ?_
    obtain ⟨r1, S1⟩ := r
    cases r1 with
    | nx ρ' => exact absurd hm (nq ρ' S1)
    | _ => exact po
theorem b_one {m : Sm} (h : SimS X md W st m) : SimB X md W [st] m := by
  obtain ⟨t, p, r⟩ := h.ex
  exact ⟨_, pss_one p, r⟩
theorem b_cons {m n : Sm} (h : SimS X md W st m) (k : SimB X md W sts n) : SimB X md W (st :: sts) (sSeq m n) := by
  obtain ⟨t, p, r⟩ := h.ex
  obtain ⟨t', p', r'⟩ := k.ex
  exact ⟨_, pss_cons p p', r.seq r'⟩
/-- what is never come to -/
def sNever : Sm := fun _ _ => none
theorem s_never : SimS X md W st sNever := ⟨_, ps_never, fun _ _ _ _ _ _ _ _ _ _ _ _ _ _ _ hm => by cases hm⟩
def sPass : Sm := fun ρ S => some (.nx ρ, S)
theorem s_pass : SimS X md W (.Pass pos) sPass := ⟨_, ps_pass, fun σ H g S ρ gb g0 H0 S0 D r r0 rr t er hm po => by cases hm; exact po σ g H rr t er⟩
def sBreak : Sm := fun ρ S => some (.bk ρ, S)
theorem s_break : SimS X md W (.Break pos) sBreak := ⟨_, ps_break, fun σ H g S ρ gb g0 H0 S0 D r r0 rr t er hm po => by cases hm; exact po σ g H rr t er⟩
def sCont : Sm := fun ρ S => some (.ct ρ, S)
theorem s_cont : SimS X md W (.Continue pos) sCont := ⟨_, ps_continue, fun σ H g S ρ gb g0 H0 S0 D r r0 rr t er hm po => by cases hm; exact po σ g H rr t er⟩

/-- an expression, then a statement's end by its value -/
def xThen (m : Xm) (k : PV → Env → Store → Option (SR × Store)) : Sm := fun ρ S => match m ρ S with
  | some (.ok x, S') => k x ρ S'
  | some (.ex c fs, S') => some (.xx c fs ρ, S')
  | none => none
theorem RchX.thn {t : TE} {m : Xm} (h : RchX md W t m) {k : PV → Env → Store → Option (SR × Store)} {tk : V → TS}
    (hk : ∀ (x : PV) (v : V) (σ : St) (H : Hp) (g : G) (S : Store) (ρ : Env) (gb g0 : G) (H0 : Hp) (S0 : Store) (D : Ends) (r : SR × Store), md.R g0 S0 H0 → md.R g S H → Tr md gb g0 H0 S0 g H S → EnvS md H0 g H σ ρ → OV X.K g H x v → k x ρ S = some r → PoS md gb g0 H0 S0 W D r → tk v D σ H) :
    RchS md W (fun D σ H => t σ H fun v H1 => tk v D σ H1) (xThen m k) := by
  intro σ H g S ρ gb g0 H0 S0 D r r0 rr tt er hm po
  unfold xThen at hm
  split at hm
  · rename_i x S' q
    refine h σ H g S ρ _ (.ok x, S') rr er.f q fun v g' H' r' t' ov => ?_
    exact hk x v σ H' g' S' ρ gb g0 H0 S0 D r r0 r' (tt.step t') (er.step t') ov hm po
  · rename_i c fs S' q
    cases hm
    refine h σ H g S ρ _ (.ex c fs, S') rr er.f q fun cls d g' H' r' t' xr => ?_
    exact po cls d σ g' H' r' (tt.step t') (er.step t') xr
  · cases hm
/-- e -/
def sExpr (m : Xm) : Sm := xThen m fun _ ρ S => some (.nx ρ, S)
theorem s_expr {m : Xm} (h : SimX X md W e m) (hs : swapsWith e none pos.line X.env = pure false := by rfl) : SimS X md W (.Expr e pos) (sExpr m) := by
  obtain ⟨t, p, r⟩ := h.ex
  refine ⟨_, ps_expr p hs, RchX.thn (tk := fun _ D σ H => D.nx σ H) r fun x v σ H g S ρ gb g0 H0 S0 D r r0 rr tt er ov hm po => ?_⟩
  cases hm
  exact po σ g H rr tt er
/-- return e -/
def sRet (m : Xm) : Sm := xThen m fun x _ S => if fz x then some (.rt x, S) else none
theorem s_ret {m : Xm} (h : SimX X md W e m) : SimS X md W (.Return (some e) pos) (sRet m) := by
  obtain ⟨t, p, r⟩ := h.ex
  refine ⟨_, ps_ret p, RchX.thn (tk := fun v D _ H => D.rt v H) r fun x v σ H g S ρ gb g0 H0 S0 D r r0 rr tt er ov hm po => ?_⟩
  split at hm
  · rename_i hf
    cases hm
    exact po v g H rr tt (ov.fr hf)
  · cases hm
def sRetN : Sm := fun _ S => some (.rt .non, S)
theorem s_retN : SimS X md W (.Return none pos) sRetN := ⟨_, ps_retN, fun σ H g S ρ gb g0 H0 S0 D r r0 rr t er hm po => by cases hm; exact po _ g H rr t .non⟩
/-- return x, a list that x owned -/
def sRetO (i : Nat) : Sm := fun ρ S => match ρ[i]? with
  | some (some (.ol xs)) => some (.rt (.lst xs), S)
  | some (some (.od xs)) => some (.rt (.dct xs), S)
  | _ => none
theorem s_retO {i : Nat} {x : Str} {pos' : Pos} (hN : X.N[i]? = some x) (hv : Vis X.env.scope x) (hd : (x == ("__debug__" : Str)) = false := by decide) (hcd : (x == ("__classdict__" : Str)) = false := by decide) : SimS X md W (.Return (some (.Name x pos')) pos) (sRetO i) := by
  refine ⟨_, ps_ret (pe_var hN hv hd hcd), fun σ H g S ρ gb g0 H0 S0 D r r0 rr t er hm po => ?_⟩
  unfold sRetO at hm
  split at hm
  · rename_i xs hi
    cases hm
    obtain ⟨v, hv, a, vs, rfl, h1, h2, h3⟩ := er.f.r.at_ i _ hi
    obtain ⟨ra, ta⟩ := md.rest t.t rr h1 (er.n i _ a hi rfl hv) h3 (er.f.o i _ a hi rfl hv)
    refine ⟨_, hv, po _ _ H ra ⟨ta, t.l.trans (GLe.laid h3)⟩ (.lst (.inl upd_same) (FRs.mono (GLe.laid h3) _ _ h2))⟩
  · rename_i xs hi
    cases hm
    obtain ⟨v, hv, a, vs, rfl, h1, h2, h3⟩ := er.f.r.at_ i _ hi
    obtain ⟨ra, ta⟩ := md.rest t.t rr h1 (er.n i _ a hi rfl hv) h3 (er.f.o i _ a hi rfl hv)
    refine ⟨_, hv, po _ _ H ra ⟨ta, t.l.trans (GLe.laid h3)⟩ (.dct (.inl upd_same) (FRk.mono (GLe.laid h3) _ _ h2))⟩
  · cases hm
end
end L3

end
section
set_option Elab.async false
set_option linter.all false
set_option maxRecDepth 100000
set_option maxHeartbeats 4000000
namespace L3
open PySem PySem.Spec L2
set_option autoImplicit false

/-! ### targets -/
abbrev Tg := PV → Env → Option Env
abbrev Tgs := List PV → Env → Option Env
/-- the slots ks alone may have been stored to, values at rest -/
structure Tgt (K : PySem.W.Frag) (g : G) (H : Hp) (σ : St) (ρ : Env) (σ' : St) (ρ' : Env) (ks : List Nat) : Prop where
  r : EnvR K g H σ' ρ'
  l : σ'.length = σ.length
  s : ∀ i, i ∉ ks → σ'[i]? = σ[i]?
  o : ∀ (i : Nat) (x : PV), ρ'[i]? = some (some x) → fz x = false → ρ[i]? = some (some x) ∧ σ'[i]? = σ[i]?
theorem EnvS.tgt {K : PySem.W.Frag} {md : Md K} {H0 : Hp} {g : G} {H : Hp} {σ σ' : St} {ρ ρ' : Env} {ks : List Nat} (e : EnvS md H0 g H σ ρ) (t : Tgt K g H σ ρ σ' ρ' ks) : EnvS md H0 g H σ' ρ' :=
  ⟨⟨t.r, fun i x a h hf hs => by obtain ⟨h1, h2⟩ := t.o i x h hf; exact e.f.o i x a h1 hf (h2 ▸ hs)⟩, fun i x a h hf hs => by obtain ⟨h1, h2⟩ := t.o i x h hf; exact e.n i x a h1 hf (h2 ▸ hs)⟩
theorem EnvR.set {K : PySem.W.Frag} {g : G} {H : Hp} {σ : St} {ρ : Env} (e : EnvR K g H σ ρ) {i : Nat} {x : PV} {v : V} (f : FR K g x v) (hx : fz x = true) : Tgt K g H σ ρ (σ.set i (some v)) (ρ.set i (some x)) [i] := by
  have hl := e.len
  have old : ∀ (j : Nat), j ≠ i → (σ.set i (some v))[j]? = σ[j]? := fun j h => by rw [List.getElem?_set_ne (Ne.symm h)]
  refine ⟨⟨by simp [hl], fun j y h => ?_, fun j k y z u h1 h2 f1 f2 s1 s2 => ?_⟩, by simp, fun j hj => old j (by simpa using hj), fun j y h hf => ?_⟩
  · rcases get_set h with ⟨rfl, hlt, hy⟩ | ⟨ne, h⟩
    · cases hy
      exact ⟨v, by rw [List.getElem?_set_self (by omega)], SlR.of_fr f⟩
    · rw [old j ne]; exact e.at_ j y h
  · rcases get_set h1 with ⟨_, _, hy⟩ | ⟨n1, h1⟩
    · cases hy; rw [hx] at f1; cases f1
    · rcases get_set h2 with ⟨_, _, hy⟩ | ⟨n2, h2⟩
      · cases hy; rw [hx] at f2; cases f2
      · rw [old j n1] at s1; rw [old k n2] at s2
        exact e.inj j k y z u h1 h2 f1 f2 s1 s2
  · rcases get_set h with ⟨_, _, hy⟩ | ⟨n1, h⟩
    · cases hy; rw [hx] at hf; cases hf
    · exact ⟨h, old j n1⟩
theorem Tgt.refl {K : PySem.W.Frag} {g : G} {H : Hp} {σ : St} {ρ : Env} (e : EnvR K g H σ ρ) : Tgt K g H σ ρ σ ρ [] := ⟨e, rfl, fun _ _ => rfl, fun _ _ h _ => ⟨h, rfl⟩⟩
theorem Tgt.trans {K : PySem.W.Frag} {g : G} {H : Hp} {σ σ' σ2 : St} {ρ ρ' ρ2 : Env} {ks ls : List Nat} (a : Tgt K g H σ ρ σ' ρ' ks) (b : Tgt K g H σ' ρ' σ2 ρ2 ls) : Tgt K g H σ ρ σ2 ρ2 (ks ++ ls) :=
  ⟨b.r, b.l.trans a.l, fun i h => by simp only [List.mem_append, not_or] at h; exact (b.s i h.2).trans (a.s i h.1), fun i x h hf => by obtain ⟨h1, h2⟩ := b.o i x h hf; obtain ⟨h3, h4⟩ := a.o i x h1 hf; exact ⟨h3, h2.trans h4⟩⟩
def RchG (K : PySem.W.Frag) (t : TG) (ks : List Nat) (tg : Tg) : Prop :=
  ∀ (v : V) (σ : St) (H : Hp) (g : G) (S : Store) (ρ ρ' : Env) (x : PV) (Q : St → Hp → Prop), WR K g S H → EnvR K g H σ ρ → FR K g x v → tg x ρ = some ρ' → (∀ σ', Tgt K g H σ ρ σ' ρ' ks → Q σ' H) → t v σ H Q
def RchGs (K : PySem.W.Frag) (t : TGs) (ks : List Nat) (tg : Tgs) : Prop :=
  ∀ (vs : List V) (σ : St) (H : Hp) (g : G) (S : Store) (ρ ρ' : Env) (xs : List PV) (Q : St → Hp → Prop), WR K g S H → EnvR K g H σ ρ → FRs K g xs vs → tg xs ρ = some ρ' → (∀ σ', Tgt K g H σ ρ σ' ρ' ks → Q σ' H) → t vs σ H Q
structure SimG (X : Cx) (target : Expr) (ks : List Nat) (tg : Tg) : Prop where
  ex : ∃ t : TG, PG X target t ∧ RchG X.K t ks tg
structure SimGs (X : Cx) (ts : List Expr) (ks : List Nat) (tg : Tgs) : Prop where
  ex : ∃ t : TGs, PGs X ts t ∧ RchGs X.K t ks tg
theorem FR.fz {K : PySem.W.Frag} {g : G} {x : PV} {v : V} (h : FR K g x v) : fz x = true := by cases h <;> rfl
section
variable {X : Cx} {md : Md X.K} {W : WX} {st : Stmt} {sts : List Stmt} {e : Expr} {es : List Expr} {pos : Pos}
def gN (i : Nat) : Tg := fun x ρ => some (ρ.set i (some x))
theorem rch_gN {i : Nat} : RchG X.K (gName i) [i] (gN i) := fun v σ H g S ρ ρ' x Q w er f hm q => by
  cases hm
  exact q _ (er.set f f.fz)
theorem g_name {i : Nat} {x : Str} (hN : X.N.Nodup) (hi : X.N[i]? = some x) (hx : Loc X.env.scope x) (hf : X.fn x = true ∨ X.env.scope.names.lookup x = some .local := by first | exact .inl rfl | exact .inr rfl | assumption) : SimG X (.Name x pos) [i] (gN i) :=
  ⟨_, pg_name hN hi hx hf, rch_gN⟩
def gsNil : Tgs := fun xs ρ => match xs with
  | [] => some ρ
  | _ => none
def gsCons (a : Tg) (b : Tgs) : Tgs := fun xs ρ => match xs with
  | x :: r => (a x ρ).bind fun ρ' => b r ρ'
  | [] => none
theorem gs_nil : SimGs X [] [] gsNil := by
  refine ⟨_, pgs_nil, fun vs σ H g S ρ ρ' xs Q w er f hm q => ?_⟩
  unfold gsNil at hm
  split at hm
  · cases hm; cases f; exact ⟨rfl, q _ (.refl er)⟩
  · cases hm
theorem gs_cons {a : Tg} {b : Tgs} {ks ls : List Nat} (h : SimG X e ks a) (k : SimGs X es ls b) (hs : (assignEach (e :: es) X.env).map (·.2) = assign e X.env :: (assignEach es X.env).map (·.2) := by rfl) : SimGs X (e :: es) (ks ++ ls) (gsCons a b) := by
  obtain ⟨t, p, r⟩ := h.ex
  obtain ⟨t', p', r'⟩ := k.ex
  refine ⟨_, pgs_cons p p' hs, fun vs σ H g S ρ ρ' xs Q w er f hm q => ?_⟩
  unfold gsCons at hm
  split at hm
  · rename_i x xr
    cases f with
    | cons fa fb =>
      cases z : a x ρ with
      | none => rw [z] at hm; cases hm
      | some ρ1 =>
        rw [z] at hm
        exact ⟨_, _, rfl, r _ σ H g S ρ ρ1 x _ w er fa z fun σ' er' => r' _ σ' H g S ρ1 ρ' xr Q w er'.r fb hm fun σ2 e2 => q σ2 (er'.trans e2)⟩
  · cases hm
def gT (n : Nat) (b : Tgs) : Tg := fun x ρ => match x with
  | .tup xs => if xs.length == n then b xs ρ else none
  | _ => none
theorem g_tup {k : Nat} {n : Nat} {b : Tgs} {ks : List Nat} (hc : X.calm = true) (h : SimGs X es ks b) (hn : (assignEach es X.env).length = n := by rfl) (hst : (assignEach es X.env).findIdx? (·.1) = none := by rfl) : SimG X (.Tuple es k pos) ks (gT n b) := by
  obtain ⟨t, p, r⟩ := h.ex
  refine ⟨_, pg_tup hc p hn hst, fun v σ H g S ρ ρ' x Q w er f hm q => ?_⟩
  unfold gT at hm
  split at hm
  · rename_i xs
    split at hm
    · rename_i hl
      cases f with
      | tup s fr => exact ⟨_, _, rfl, w.f.sqT s, by rw [← fr.length]; exact eq_of_beq hl, r _ σ H g S ρ ρ' xs Q w er fr hm q⟩
    · cases hm
  · cases hm

/-! ### target = e -/
def sAsg (tg : Tg) (m : Xm) : Sm := xThen m fun x ρ S => if fz x then (tg x ρ).map fun ρ' => (.nx ρ', S) else none
theorem RchS.asg {t : TE} {m : Xm} {tt : TG} {tg : Tg} {ks : List Nat} (h : RchX md W t m) (k : RchG X.K tt ks tg) : RchS md W (tAsg t tt) (sAsg tg m) := by
  refine RchX.thn (tk := fun v D σ H => tt v σ H D.nx) h fun x v σ H g S ρ gb g0 H0 S0 D r r0 rr tt' er ov hm po => ?_
  split at hm
  · rename_i hf
    cases z : tg x ρ with
    | none => rw [z] at hm; cases hm
    | some ρ' =>
      rw [z] at hm
      have e2 : r = (.nx ρ', S) := (Option.some.inj hm).symm
      subst e2
      exact k v σ H g S ρ ρ' x _ (md.wr rr) er.f.r (ov.fr hf) z fun σ' er' => po σ' g H rr tt' (er.tgt er')
  · cases hm
theorem s_set {i : Nat} {x : Str} {pos' : Pos} {m : Xm} (hN : X.N.Nodup) (hi : X.N[i]? = some x) (hx : Loc X.env.scope x) (he : SimX X md W e m) (hs : swapsWith e (some (.Name x pos')) pos.line X.env = pure false := by rfl)
    (hf : X.fn x = true ∨ X.env.scope.names.lookup x = some .local := by first | exact .inl rfl | exact .inr rfl | assumption) : SimS X md W (.Assign [.Name x pos'] e pos) (sAsg (gN i) m) := by
  obtain ⟨t, p, r⟩ := he.ex
  exact ⟨_, ps_set hN hi hx p hs hf, RchS.asg r rch_gN⟩
theorem s_asg {tg : Expr} {g : Tg} {m : Xm} {ks : List Nat} (he : SimX X md W e m) (hg : SimG X tg ks g) (hs : swapsWithSole [tg] e pos.line X.env = pure false := by rfl) (hw : swappedStores [tg] e X.env = pure none := by rfl)
    (h1 : (assignEach [tg] X.env).map (·.2) = [assign tg X.env] := by rfl) : SimS X md W (.Assign [tg] e pos) (sAsg g m) := by
  obtain ⟨t, p, r⟩ := he.ex
  obtain ⟨t', p', r'⟩ := hg.ex
  exact ⟨_, ps_asg p p' hs hw h1, RchS.asg r r'⟩
/-- name op= e -/
def sAug (op : PV → PV → Option PV) (i : Nat) (m : Ex) : Sm := fun ρ S => match ρ[i]? with
  | some (some x) => (match m ρ S with
    | some (.ok y) => (match op x y with
      | some z => if fz z then some (.nx (ρ.set i (some z)), S) else none
      | none => none)
    | some (.ex c fs) => some (.xx c fs ρ, S)
    | none => none)
  | _ => none
theorem s_aug {i : Nat} {x : Str} {pos' : Pos} {o : Operator} {r : R2} {op : PV → PV → Option PV} {m : Ex} (hN : X.N.Nodup) (hi : X.N[i]? = some x) (hx : Loc X.env.scope x) (ho : PIp X o r) (hk : OpOk X.K op r) (he : SimE X W e m)
    (hf : X.fn x = true ∨ X.env.scope.names.lookup x = some .local := by first | exact .inl rfl | exact .inr rfl | assumption) : SimS X md W (.AugAssign (.Name x pos') o e pos) (sAug op i m) := by
  obtain ⟨t, p, rc⟩ := he.ex
  refine ⟨_, ps_aug hN hi hx p ho hf, fun σ H g S ρ gb g0 H0 S0 D res r0 rr tt er hm po => ?_⟩
  unfold sAug at hm
  split at hm
  · rename_i y hy
    obtain ⟨v, hv, sl⟩ := er.f.r.at_ i y hy
    refine ⟨v, hv, ?_⟩
    split at hm
    · rename_i z hz
      refine rc σ H g S ρ _ (.ok z) (md.wr rr) er.f.r hz fun u g' H' gr ov => ?_
      split at hm
      · rename_i zz hzz
        split at hm
        · rename_i hfz
          cases hm
          obtain ⟨r1, t1⟩ := md.grow rr gr
          refine hk g' S H' y z zz v u _ (md.wr r1) (gr.ov sl.ov) ov hzz fun w2 g2 H2 gr2 o2 => ?_
          obtain ⟨r2, t2⟩ := md.grow r1 gr2
          exact po _ g2 H2 r2 ((tt.step t1).step t2) (((er.step t1).step t2).set (o2.fr hfz) hfz)
        · cases hm
      · cases hm
    · rename_i c fs hz
      cases hm
      refine rc σ H g S ρ _ (.ex c fs) (md.wr rr) er.f.r hz fun cls d g' H' gr xr => ?_
      obtain ⟨r1, t1⟩ := md.grow rr gr
      exact po cls d σ g' H' r1 (tt.step t1) (er.step t1) xr
    · cases hm
  · cases hm

/-! ### if, while -/
abbrev Tm := Env → Store → Option (Res Bool × Store)
def PoT {K : PySem.W.Frag} (md : Md K) (g : G) (H : Hp) (S : Store) (σ : St) (W : WX) (Q : Bool → Hp → Prop) : Res Bool × Store → Prop
  | (.ok r, S') => ∀ g' H', md.R g' S' H' → md.T g H S g' H' S' → Q r H'
  | (.ex c fs, S') => ∀ cls d g' H', md.R g' S' H' → md.T g H S g' H' S' → XR K g' H' c fs cls d → W cls d σ H'
def RchT {K : PySem.W.Frag} (md : Md K) (W : WX) (t : TT) (m : Tm) : Prop :=
  ∀ (σ : St) (H : Hp) (g : G) (S : Store) (ρ : Env) (Q : Bool → Hp → Prop) (r : Res Bool × Store), md.R g S H → EnvF md g H σ ρ → m ρ S = some r → PoT md g H S σ W Q r → t σ H Q
structure SimTX (X : Cx) (md : Md X.K) (W : WX) (e : Expr) (m : Tm) : Prop where
  ex : ∃ t : TT, PT X e t ∧ RchT md W t m
def tP (m : Te) : Tm := fun ρ S => (m ρ S).map fun r => (r, S)
theorem t_p {m : Te} (h : SimT X W e m) : SimTX X md W e (tP m) := by
  obtain ⟨t, p, r⟩ := h.ex
  refine ⟨t, p, fun σ H g S ρ Q res rr er hm po => ?_⟩
  unfold tP at hm
  cases q : m ρ S with
  | none => rw [q] at hm; cases hm
  | some z =>
    rw [q] at hm
    have e2 : res = (z, S) := (Option.some.inj hm).symm
    subst e2
    refine r σ H g S ρ Q z (md.wr rr) er.r q ?_
    cases z with
    | ok x => exact fun v g' H' gr ov => by obtain ⟨a, b⟩ := md.grow rr gr; cases ov; exact po g' H' a b
    | ex c fs => exact fun cls d g' H' gr ov => by obtain ⟨a, b⟩ := md.grow rr gr; exact po cls d g' H' a b ov
def sIf (c : Tm) (m n : Sm) : Sm := fun ρ S => match c ρ S with
  | some (.ok true, S') => m ρ S'
  | some (.ok false, S') => n ρ S'
  | some (.ex c fs, S') => some (.xx c fs ρ, S')
  | none => none
theorem s_if {c : Expr} {body orelse : List Stmt} {k : Tm} {m n : Sm} (hc : SimTX X md W c k) (h : SimB X md W body m) (h' : SimB X md W orelse n) : SimS X md W (.If c body orelse pos) (sIf k m n) := by
  obtain ⟨tc, pc, rc⟩ := hc.ex
  obtain ⟨t, p, r⟩ := h.ex
  obtain ⟨t', p', r'⟩ := h'.ex
  refine ⟨_, ps_if pc p p', fun σ H g S ρ gb g0 H0 S0 D res r0 rr tt er hm po => ?_⟩
  unfold sIf at hm
  split at hm
  · rename_i S' q
    refine rc σ H g S ρ _ (.ok true, S') rr er.f q fun g' H' r1 t1 => ?_
    rw [if_pos rfl]
    exact r σ H' g' S' ρ gb g0 H0 S0 D res r0 r1 (tt.step t1) (er.step t1) hm po
  · rename_i S' q
    refine rc σ H g S ρ _ (.ok false, S') rr er.f q fun g' H' r1 t1 => ?_
    rw [if_neg Bool.false_ne_true]
    exact r' σ H' g' S' ρ gb g0 H0 S0 D res r0 r1 (tt.step t1) (er.step t1) hm po
  · rename_i c fs S' q
    cases hm
    exact rc σ H g S ρ _ (.ex c fs, S') rr er.f q fun cls d g' H' r1 t1 xr => po cls d σ g' H' r1 (tt.step t1) (er.step t1) xr
  · cases hm
def sWhile (c : Tm) (m : Sm) : Nat → Sm
  | 0, _, _ => none
  | n + 1, ρ, S => match c ρ S with
    | some (.ok true, S') => (match m ρ S' with
      | some (.nx ρ', S2) => sWhile c m n ρ' S2
      | some (.ct ρ', S2) => sWhile c m n ρ' S2
      | some (.bk ρ', S2) => some (.nx ρ', S2)
      | r => r)
    | some (.ok false, S') => some (.nx ρ, S')
    | some (.ex c fs, S') => some (.xx c fs ρ, S')
    | none => none
theorem s_while {c : Expr} {body : List Stmt} {k : Tm} {m : Sm} (n : Nat) (hp : PassesOwn (model X.prog X.w) X.A X.env X.xe) (hc : SimTX X md W c k) (h : SimB X md W body m) : SimS X md W (.While c body [] pos) (sWhile k m n) := by
  obtain ⟨tc, pc, rc⟩ := hc.ex
  obtain ⟨t, p, r⟩ := h.ex
  refine ⟨_, ps_while hp pc p, fun σ H g S ρ gb g0 H0 S0 D res r0 rr tt er hm po => ?_⟩
  refine ⟨fun j σ H => ∃ g S ρ, md.R g S H ∧ Tr md gb g0 H0 S0 g H S ∧ EnvS md H0 g H σ ρ ∧ sWhile k m j ρ S = some res, ⟨n, g, S, ρ, rr, tt, er, hm⟩, ?_⟩
  rintro j σ H ⟨g, S, ρ, rr, tt, er, hm⟩
  cases j with
  | zero => cases hm
  | succ j =>
    unfold sWhile at hm
    split at hm
    · rename_i S' q
      refine rc σ H g S ρ _ (.ok true, S') rr er.f q fun g' H' r1 t1 => ?_
      rw [if_pos rfl]
      refine ⟨fun σ H => ∃ g S ρ, md.R g S H ∧ Tr md gb g0 H0 S0 g H S ∧ EnvS md H0 g H σ ρ ∧ sWhile k m j ρ S = some res, fun σ' H' z => ⟨j, Nat.lt_succ_self j, z⟩, ?_⟩
      split at hm
      · rename_i ρ' S2 q2
        exact r σ H' g' S' ρ gb g0 H0 S0 _ (.nx ρ', S2) r0 r1 (tt.step t1) (er.step t1) q2 fun σ2 g2 H2 r2 t2 e2 => ⟨g2, S2, ρ', r2, t2, e2, hm⟩
      · rename_i ρ' S2 q2
        exact r σ H' g' S' ρ gb g0 H0 S0 _ (.ct ρ', S2) r0 r1 (tt.step t1) (er.step t1) q2 fun σ2 g2 H2 r2 t2 e2 => ⟨g2, S2, ρ', r2, t2, e2, hm⟩
      · rename_i ρ' S2 q2
        cases hm
        exact r σ H' g' S' ρ gb g0 H0 S0 _ (.bk ρ', S2) r0 r1 (tt.step t1) (er.step t1) q2 po
      · rename_i n1 n2 n3
        obtain ⟨res1, S1⟩ := res
        refine r σ H' g' S' ρ gb g0 H0 S0 _ (res1, S1) r0 r1 (tt.step t1) (er.step t1) hm ?_
        cases res1 with
        | nx ρ' => exact absurd hm (n1 ρ' S1)
        | ct ρ' => exact absurd hm (n2 ρ' S1)
        | bk ρ' => exact absurd hm (n3 ρ' S1)
        | rt x => exact po
        | xx c fs ρ' => exact po
    · rename_i S' q
      cases hm
      refine rc σ H g S ρ _ (.ok false, S') rr er.f q fun g' H' r1 t1 => ?_
      rw [if_neg Bool.false_ne_true]
      exact po σ g' H' r1 (tt.step t1) (er.step t1)
    · rename_i c fs S' q
      cases hm
      exact rc σ H g S ρ _ (.ex c fs, S') rr er.f q fun cls d g' H' r1 t1 xr => po cls d σ g' H' r1 (tt.step t1) (er.step t1) xr
    · cases hm

/-! ### for -/
/-- the iterator J yields the items xs, at rest, whatever else is laid meanwhile -/
structure Wk (K : PySem.W.Frag) (g : G) (J : It) (xs : List PV) : Prop where
  go : ∀ (g' : G) (H : Hp) (i : Nat) (x : PV), GLe g g' → RdLe g'.F H → xs[i]? = some x → J.go i H
  yld : ∀ (g' : G) (S : Store) (H : Hp) (i : Nat) (x : PV) (v : V) (H' : Hp), GLe g g' → WR K g' S H → xs[i]? = some x → J.yld i H v H' → ∃ g2, Grow g' H g2 H' ∧ FR K g2 x v
  stop : ∀ (g' : G) (H : Hp), GLe g g' → RdLe g'.F H → J.stop xs.length H
/-- what a for walks: the items -/
structure SimI (X : Cx) (W : WX) (tg iter : Expr) (m : Ar) : Prop where
  ex : ∃ wi : TI, PI X tg iter wi ∧ ∀ (σ : St) (H : Hp) (g : G) (S : Store) (ρ : Env) (R : It → Hp → Prop) (r : Res (List PV)), WR X.K g S H → EnvR X.K g H σ ρ → m ρ S = some r →
    Po X.K (fun g' _ xs J => Wk X.K g' J xs) g H σ W R r → wi σ H R
def sLoop (tg : Tg) (m : Sm) : List PV → Sm
  | [], ρ, S => some (.nx ρ, S)
  | x :: xs, ρ, S => match tg x ρ with
    | none => none
    | some ρ1 => match m ρ1 S with
      | some (.nx ρ', S2) => sLoop tg m xs ρ' S2
      | some (.ct ρ', S2) => sLoop tg m xs ρ' S2
      | some (.bk ρ', S2) => some (.nx ρ', S2)
      | r => r
def sFor (it : Ar) (tg : Tg) (m : Sm) : Sm := fun ρ S => match it ρ S with
  | some (.ok xs) => sLoop tg m xs ρ S
  | some (.ex c fs) => some (.xx c fs ρ, S)
  | none => none
theorem PoS.weak {K : PySem.W.Frag} {md : Md K} {gb gb' g0 : G} {H0 : Hp} {S0 : Store} {W : WX} {D : Ends} (l : GLe gb gb') : ∀ {r : SR × Store}, PoS md gb g0 H0 S0 W D r → PoS md gb' g0 H0 S0 W D r
  | (.nx _, _), po => fun σ g H r t e => po σ g H r ⟨t.t, l.trans t.l⟩ e
  | (.bk _, _), po => fun σ g H r t e => po σ g H r ⟨t.t, l.trans t.l⟩ e
  | (.ct _, _), po => fun σ g H r t e => po σ g H r ⟨t.t, l.trans t.l⟩ e
  | (.rt _, _), po => fun v g H r t e => po v g H r ⟨t.t, l.trans t.l⟩ e
  | (.xx _ _ _, _), po => fun c d σ g H r t e x => po c d σ g H r ⟨t.t, l.trans t.l⟩ e x
theorem s_for {tg iter : Expr} {body : List Stmt} {it : Ar} {g1 : Tg} {m : Sm} {ks : List Nat} (hp : PassesOwn (model X.prog X.w) X.A X.env X.xe) (hc : X.calm = true) (hi : SimI X W tg iter it) (hg : SimG X tg ks g1) (h : SimB X md W body m)
    (hs : ∀ x, foldedSetIterable iter X.env x = pure x := by intro _; rfl) : SimS X md W (.For tg iter body [] pos) (sFor it g1 m) := by
  obtain ⟨wi, pi, ri⟩ := hi.ex
  obtain ⟨tt1, pg, rg⟩ := hg.ex
  obtain ⟨t, p, r⟩ := h.ex
  refine ⟨_, ps_for hp hc pi pg p hs, fun σ H g S ρ gb g0 H0 S0 D res r0 rr tt er hm po => ?_⟩
  unfold sFor at hm
  split at hm
  · rename_i xs q
    refine ri σ H g S ρ _ (.ok xs) (md.wr rr) er.f.r q fun J gJ H1 grJ wk => ?_
    obtain ⟨r1, t1⟩ := md.grow rr grJ
    have po : PoS md gJ g0 H0 S0 W D res := po.weak (tt.l.trans grJ.le)
    refine ⟨fun i j σ H => ∃ g S ρ, md.R g S H ∧ Tr md gJ g0 H0 S0 g H S ∧ EnvS md H0 g H σ ρ ∧ sLoop g1 m (xs.drop i) ρ S = some res ∧ i + j = xs.length, ⟨xs.length, gJ, S, ρ, r1, ⟨md.trans tt.t t1, .refl _⟩, er.step t1, by simpa using hm, by omega⟩, ?_⟩
    rintro i j σ H ⟨g, S, ρ, rr, tt, er, hm, hj⟩
    by_cases hi : i < xs.length
    · have hd : xs.drop i = xs[i] :: xs.drop (i + 1) := List.drop_eq_getElem_cons hi
      have hx : xs[i]? = some xs[i] := List.getElem?_eq_getElem hi
      rw [hd] at hm
      unfold sLoop at hm
      refine .inr ⟨wk.go g H i _ tt.l (md.wr rr).f hx, fun σ' H' => ∃ g S ρ, md.R g S H' ∧ Tr md gJ g0 H0 S0 g H' S ∧ EnvS md H0 g H' σ' ρ ∧ sLoop g1 m (xs.drop (i + 1)) ρ S = some res, fun σ' H' ⟨g', S', ρ', a2, a3, a4, a5⟩ => ⟨j - 1, by omega, g', S', ρ', a2, a3, a4, a5, by omega⟩, fun v H' hy => ?_⟩
      obtain ⟨g2, gr2, fx⟩ := wk.yld g S H i _ v H' tt.l (md.wr rr) hx hy
      obtain ⟨r2, t2⟩ := md.grow rr gr2
      split at hm
      · cases hm
      · rename_i ρ1 q1
        refine rg v σ H' g2 S ρ ρ1 _ _ (md.wr r2) (er.step t2).f.r fx q1 fun σ3 tg3 => ?_
        have er3 := (er.step t2).tgt tg3
        split at hm
        · rename_i ρ' S2 q2
          exact r σ3 H' g2 S ρ1 gJ g0 H0 S0 _ (.nx ρ', S2) r0 r2 (tt.step t2) er3 q2 fun σ4 g4 H4 r4 t4 e4 => ⟨g4, S2, ρ', r4, t4, e4, hm⟩
        · rename_i ρ' S2 q2
          exact r σ3 H' g2 S ρ1 gJ g0 H0 S0 _ (.ct ρ', S2) r0 r2 (tt.step t2) er3 q2 fun σ4 g4 H4 r4 t4 e4 => ⟨g4, S2, ρ', r4, t4, e4, hm⟩
        · rename_i ρ' S2 q2
          cases hm
          exact r σ3 H' g2 S ρ1 gJ g0 H0 S0 _ (.bk ρ', S2) r0 r2 (tt.step t2) er3 q2 po
        · rename_i n1 n2 n3
          obtain ⟨res1, S1⟩ := res
          refine r σ3 H' g2 S ρ1 gJ g0 H0 S0 _ (res1, S1) r0 r2 (tt.step t2) er3 hm ?_
          cases res1 with
          | nx ρ' => exact absurd hm (n1 ρ' S1)
          | ct ρ' => exact absurd hm (n2 ρ' S1)
          | bk ρ' => exact absurd hm (n3 ρ' S1)
          | rt x => exact po
          | xx c fs ρ' => exact po
    · have hi2 : i = xs.length := by omega
      rw [List.drop_of_length_le (by omega)] at hm
      unfold sLoop at hm
      cases hm
      subst hi2
      exact .inl ⟨wk.stop g H tt.l (md.wr rr).f, po σ g H rr tt er⟩
  · rename_i c fs q
    cases hm
    refine ri σ H g S ρ _ (.ex c fs) (md.wr rr) er.f.r q fun cls d g' H' gr xr => ?_
    obtain ⟨r1, t1⟩ := md.grow rr gr
    exact po cls d σ g' H' r1 (tt.step t1) (er.step t1) xr
  · cases hm
end
end L3

end
section
set_option Elab.async false
set_option linter.all false
set_option maxRecDepth 100000
set_option maxHeartbeats 4000000
namespace L3
open PySem PySem.Spec L2 PySem.P
set_option autoImplicit false
section
variable {X : Cx} {md : Md X.K} {W : WX} {st : Stmt} {sts : List Stmt} {e tg iter : Expr} {es : List Expr} {pos : Pos}

/-! ### what is walked -/
theorem PI.or {a b : TI} (h : PI X tg iter a) (k : PI X tg iter b) : PI X tg iter (fun σ H R => a σ H R ∨ b σ H R) := by
  refine ⟨fun pins s σ H R I q => ?_⟩
  rcases q with q | q
  · exact h.run pins s σ H R I q
  · exact k.run pins s σ H R I q
def signs (x : Str) : List PV := x.cps.toList.map fun c => .str ⟨#[c]⟩
def itemsOf : PV → Option (List PV)
  | .kl xs => some xs
  | .lst xs => some xs
  | .tup xs => some xs
  | .str x => some (signs x)
  | _ => none
/-- a list, a tuple, a text -/
def iSeq (m : Ex) : Ar := fun ρ S => mb (m ρ S) fun x => mo (itemsOf x)
theorem wk_list {K : PySem.W.Frag} {g : G} {a : Addr} {xs : List PV} {vs : List V} (r : SqL K g.F a vs) (f : FRs K g xs vs) : Wk K g (Itl K a) xs where
  go := fun g' H i x le rd hx => by
    obtain ⟨v, hv, _⟩ := f.get hx
    exact ⟨vs, v, rd.sqL ((RdLe.of_same le.f).sqL r), hv⟩
  yld := fun g' S H i x v H' le w hx hy => by
    obtain ⟨rfl, hy⟩ := hy
    obtain ⟨u, hu, fu⟩ := f.get hx
    have e := hy vs (w.f.sqL ((RdLe.of_same le.f).sqL r))
    rw [hu] at e
    cases e
    exact ⟨g', .refl w, FR.mono le _ _ fu⟩
  stop := fun g' H le rd => ⟨vs, rd.sqL ((RdLe.of_same le.f).sqL r), by rw [f.length]; exact Nat.le_refl _⟩
theorem wk_tup {K : PySem.W.Frag} {g : G} {a : Addr} {xs : List PV} {vs : List V} (r : SqT K g.F a vs) (f : FRs K g xs vs) : Wk K g (Itt K a) xs where
  go := fun g' H i x le rd hx => by
    obtain ⟨v, hv, _⟩ := f.get hx
    exact ⟨vs, v, rd.sqT ((RdLe.of_same le.f).sqT r), hv⟩
  yld := fun g' S H i x v H' le w hx hy => by
    obtain ⟨rfl, hy⟩ := hy
    obtain ⟨u, hu, fu⟩ := f.get hx
    have e := hy vs (w.f.sqT ((RdLe.of_same le.f).sqT r))
    rw [hu] at e
    cases e
    exact ⟨g', .refl w, FR.mono le _ _ fu⟩
  stop := fun g' H le rd => ⟨vs, rd.sqT ((RdLe.of_same le.f).sqT r), by rw [f.length]; exact Nat.le_refl _⟩
theorem wk_str {K : PySem.W.Frag} {g : G} (x : Str) : Wk K g (Its x) (signs x) where
  go := fun g' H i p le rd hx => by
    have h : i < (signs x).length := (List.getElem?_eq_some_iff.mp hx).1
    show i < x.cps.size
    simpa [signs] using h
  yld := fun g' S H i p v H' le w hx hy => by
    obtain ⟨rfl, c, hc, rfl⟩ := hy
    have hc : x.cps.toList[i]? = some c := by simpa using hc
    unfold signs at hx
    rw [List.getElem?_map, hc] at hx
    cases hx
    exact ⟨g', .refl w, .str _⟩
  stop := fun g' H le rd => by
    show x.cps.size ≤ (signs x).length
    simp [signs]
theorem i_seq {m : Ex} (h : SimE X W iter m) : SimI X W tg iter (iSeq m) := by
  obtain ⟨t, p, r⟩ := h.ex
  refine ⟨_, PI.or (pi_list p) (PI.or (pi_tup p) (pi_str p)), fun σ H g S ρ R res w er hm po => ?_⟩
  unfold iSeq at hm
  cases q : m ρ S with
  | none => rw [q] at hm; cases hm
  | some z =>
    rw [q] at hm
    cases z with
    | ex c fs =>
      have e2 : res = .ex c fs := (Option.some.inj hm).symm
      subst e2
      exact .inl (r σ H g S ρ _ (.ex c fs) w er q po)
    | ok x =>
      have hm : mo (itemsOf x) = some res := hm
      cases x with
      | lst xs =>
        cases hm
        refine .inl (r σ H g S ρ _ (.ok (.lst xs)) w er q fun v g' H' gr ov => ?_)
        cases ov.fr rfl with
        | lst s f => exact ⟨_, rfl, ⟨_, .inl (gr.f _ _ s)⟩, po _ g' H' gr (wk_list (.inl s) f)⟩
      | kl xs =>
        cases hm
        refine .inl (r σ H g S ρ _ (.ok (.kl xs)) w er q fun v g' H' gr ov => ?_)
        cases ov.fr rfl with
        | kl s f => exact ⟨_, rfl, ⟨_, gr.f.sqL s⟩, po _ g' H' gr (wk_list s f)⟩
      | tup xs =>
        cases hm
        refine .inr (.inl (r σ H g S ρ _ (.ok (.tup xs)) w er q fun v g' H' gr ov => ?_))
        cases ov.fr rfl with
        | tup s f => exact ⟨_, rfl, ⟨_, gr.f.sqT s⟩, po _ g' H' gr (wk_tup s f)⟩
      | str xs =>
        cases hm
        refine .inr (.inr (r σ H g S ρ _ (.ok (.str xs)) w er q fun v g' H' gr ov => ?_))
        cases ov.fr rfl
        exact ⟨_, rfl, po _ g' H' gr (wk_str xs)⟩
      | _ => cases hm
/-- range -/
def rngP (lo : Int) (n : Nat) : List PV := (List.range n).map fun (i : Nat) => .int (lo + (i : Int))
theorem wk_rng {K : PySem.W.Frag} {g : G} (lo : Int) (n : Nat) : Wk K g (Itr lo n) (rngP lo n) where
  go := fun g' H i p le rd hx => by
    have h : i < (rngP lo n).length := (List.getElem?_eq_some_iff.mp hx).1
    show i < n
    simpa [rngP] using h
  yld := fun g' S H i p v H' le w hx hy => by
    obtain ⟨rfl, rfl⟩ := hy
    unfold rngP at hx
    rw [List.getElem?_map] at hx
    by_cases hi : i < n
    · rw [List.getElem?_range hi] at hx
      cases hx
      exact ⟨g', .refl w, .int _⟩
    · rw [List.getElem?_eq_none (by simpa using hi)] at hx; cases hx
  stop := fun g' H le rd => by
    show n ≤ (rngP lo n).length
    simp [rngP]
def two62 : Int := 4611686018427387904
theorem two62_eq : (2 : Int) ^ 62 = two62 := by decide
def rOk (j : Int) : Bool := decide (-two62 ≤ j) && decide (j < two62)
theorem rOk_ok {j : Int} (h : rOk j = true) : -(2 ^ 62) ≤ j ∧ j < 2 ^ 62 := by
  simp only [rOk, Bool.and_eq_true, decide_eq_true_eq] at h
  rw [two62_eq]
  exact h
def iRange1 (m : Ar) : Ar := fun ρ S => mb (m ρ S) fun xs => match xs with
  | [.int j] => if rOk j then some (.ok (rngP 0 j.toNat)) else none
  | _ => none
theorem i_range1 {a : Expr} {m : Ar} {p : Pos} (hg : Gl X "range") (hm : X.mg "range" = none) (ha : SimA X W [a] m) (hs : starEach [a] X.env = [(false, eval a X.env)] := by rfl) : SimI X W tg (.Call (.Name "range" p) [a] [] pos) (iRange1 m) := by
  obtain ⟨t, pp, r⟩ := ha.ex
  refine ⟨_, pi_range1 hg hm pp hs, fun σ H g S ρ R res w er hm po => ?_⟩
  refine Rch.bind (R' := fun g' _ xs J => Wk X.K g' J xs) (k := fun xs _ _ => match xs with | [.int j] => if rOk j then some (.ok (rngP 0 j.toNat)) else none | _ => none) (tk := fun vs _ H1 R => ∃ j : Int, vs = [.int j] ∧ -(2 ^ 62) ≤ j ∧ j < 2 ^ 62 ∧ R (Itr 0 j.toNat) H1) r (fun xs us σ H g S ρ Q res w er hx hm po => ?_) σ H g S ρ R res w er hm po
  split at hm
  · obtain ⟨u, rfl, hu⟩ := ovs1 hx
    split at hm
    · rename_i hc
      cases hm
      cases hu.fr rfl
      obtain ⟨h1, h2⟩ := rOk_ok hc
      exact ⟨_, rfl, h1, h2, po _ g H (.refl w) (wk_rng _ _)⟩
    · cases hm
  · cases hm
def iRange2 (m : Ar) : Ar := fun ρ S => mb (m ρ S) fun xs => match xs with
  | [.int i, .int j] => if rOk i && rOk j then some (.ok (rngP i (j - i).toNat)) else none
  | _ => none
theorem i_range2 {a b : Expr} {m : Ar} {p : Pos} (hg : Gl X "range") (hm : X.mg "range" = none) (ha : SimA X W [a, b] m) (hs : starEach [a, b] X.env = [(false, eval a X.env), (false, eval b X.env)] := by rfl) (hs2 : starEach [b] X.env = [(false, eval b X.env)] := by rfl) : SimI X W tg (.Call (.Name "range" p) [a, b] [] pos) (iRange2 m) := by
  obtain ⟨t, pp, r⟩ := ha.ex
  refine ⟨_, pi_range2 hg hm pp hs hs2, fun σ H g S ρ R res w er hm po => ?_⟩
  refine Rch.bind (R' := fun g' _ xs J => Wk X.K g' J xs) (k := fun xs _ _ => match xs with | [.int i, .int j] => if rOk i && rOk j then some (.ok (rngP i (j - i).toNat)) else none | _ => none) (tk := fun vs _ H1 R => ∃ i j : Int, vs = [.int i, .int j] ∧ (-(2 ^ 62) ≤ i ∧ i < 2 ^ 62 ∧ -(2 ^ 62) ≤ j ∧ j < 2 ^ 62) ∧ R (Itr i (j - i).toNat) H1) r (fun xs us σ H g S ρ Q res w er hx hm po => ?_) σ H g S ρ R res w er hm po
  split at hm
  · obtain ⟨u, v, rfl, hu, hv⟩ := ovs2 hx
    split at hm
    · rename_i hc
      cases hm
      cases hu.fr rfl
      cases hv.fr rfl
      simp only [Bool.and_eq_true] at hc
      obtain ⟨h1, h2⟩ := rOk_ok hc.1
      obtain ⟨h3, h4⟩ := rOk_ok hc.2
      exact ⟨_, _, rfl, ⟨h1, h2, h3, h4⟩, po _ g H (.refl w) (wk_rng _ _)⟩
    · cases hm
  · cases hm

/-! ### new lists -/
/-- an expression that makes a new list -/
structure SimL (X : Cx) (W : WX) (e : Expr) (m : Ar) : Prop where
  ex : ∃ t : TE, PE X e t ∧ ∀ (σ : St) (H : Hp) (g : G) (S : Store) (ρ : Env) (Q : VK) (r : Res (List PV)), WR X.K g S H → EnvR X.K g H σ ρ → m ρ S = some r →
    (match r with
      | .ok xs => ∀ p vs g' H', Grow g H g' H' → H p = none → H' p = some (.lst vs) → g'.F p = none → FRs X.K g' xs vs → Q (.ref p) H'
      | .ex c fs => ∀ cls d g' H', Grow g H g' H' → XR X.K g' H' c fs cls d → W cls d σ H') → t σ H Q
theorem l_lst {m : Ar} (h : SimA X W es m) : SimL X W (.List es pos) (fun ρ S => mb (m ρ S) fun xs => if xs.all fz && decide (xs.length ≤ most) then some (.ok xs) else none) := by
  obtain ⟨t, p, r⟩ := h.ex
  refine ⟨_, pe_lst p, fun σ H g S ρ Q res w er hm po => ?_⟩
  cases q : m ρ S with
  | none => rw [q] at hm; cases hm
  | some z =>
    rw [q] at hm
    cases z with
    | ex c fs =>
      have e2 : res = .ex c fs := (Option.some.inj hm).symm
      subst e2
      exact r σ H g S ρ _ (.ex c fs) w er q po
    | ok xs =>
      have hm : (if xs.all fz && decide (xs.length ≤ most) then some (.ok xs) else none) = some res := hm
      split at hm
      · rename_i hc
        cases hm
        simp only [Bool.and_eq_true, decide_eq_true_eq] at hc
        refine r σ H g S ρ _ (.ok xs) w er q fun vs g' H' gr hx => ?_
        have fr := OVs.frs hx hc.1
        refine ⟨by rw [← fr.length]; exact Nat.le_trans hc.2 most_le, fun p hp => ?_⟩
        have w' := gr.wr w
        have fp : g'.F p = none := by
          cases e : g'.F p with
          | none => rfl
          | some u => rcases w'.f p u (.inl e) with q | ⟨_, q⟩ <;> rw [hp] at q <;> cases q
        exact po p vs g' _ (gr.trans (.loose w' hp)) (gr.h.free hp) upd_same fp fr
      · cases hm
/-- it is never changed -/
def xFz (m : Ar) : Ex := fun ρ S => mb (m ρ S) fun xs => some (.ok (.lst xs))
theorem e_fz {m : Ar} (h : SimL X W e m) : SimE X W e (xFz m) := by
  obtain ⟨t, p, r⟩ := h.ex
  refine ⟨t, p, fun σ H g S ρ Q res w er hm po => ?_⟩
  unfold xFz at hm
  cases q : m ρ S with
  | none => rw [q] at hm; cases hm
  | some z =>
    rw [q] at hm
    cases z with
    | ex c fs =>
      have e2 : res = .ex c fs := (Option.some.inj hm).symm
      subst e2
      exact r σ H g S ρ _ (.ex c fs) w er q po
    | ok xs =>
      have e2 : res = .ok (.lst xs) := (Option.some.inj hm).symm
      subst e2
      refine r σ H g S ρ _ (.ok xs) w er q fun p vs g' H' gr hp hp' fp fr => ?_
      have w' := gr.wr w
      have tt : (Pm X.K).T g H S g' H' S := ⟨gr, rfl⟩
      obtain ⟨_, z, _⟩ := (Pm X.K).rest tt w' hp' hp fp trivial
      exact po _ _ H' z (.frz (.lst (.inl upd_same) (FRs.mono (GLe.laid fp) _ _ fr)))
/-- x = e, x owns the new list -/
def sOwn (i : Nat) (m : Ar) : Sm := fun ρ S => match m ρ S with
  | some (.ok xs) => some (.nx (ρ.set i (some (.ol xs))), S)
  | some (.ex c fs) => some (.xx c fs ρ, S)
  | none => none
theorem EnvS.laidO {K : PySem.W.Frag} {md : Md K} {H0 : Hp} {g g' : G} {H H' : Hp} {S : Store} {σ : St} {ρ : Env} (er : EnvS md H0 g H σ ρ) (rr : md.R g S H) (gr : Grow g H g' H') {p : Addr} {vs : List V} {xs : List PV} (h0 : H0 p = none) (hp : H p = none) (hp' : H' p = some (.lst vs)) (fp : g'.F p = none) (fr : FRs K g' xs vs) (i : Nat) :
    EnvS md H0 g' H' (σ.set i (some (.ref p))) (ρ.set i (some (.ol xs))) := by
  obtain ⟨r1, t1⟩ := md.grow rr gr
  refine (er.step t1).setO (x := .ol xs) ⟨p, vs, rfl, hp', fr, fp⟩ rfl h0 (md.new rr gr hp) fun j y hj hy hfy hs => ?_
  obtain ⟨v, hv, sl⟩ := er.f.r.at_ j y hy
  rw [hv] at hs
  have e1 : v = .ref p := Option.some.inj (Option.some.inj hs)
  subst e1
  cases y with
  | ol ys => obtain ⟨a, vs, e, h, _⟩ := sl; cases e; rw [hp] at h; cases h
  | od ys => obtain ⟨a, vs, e, h, _⟩ := sl; cases e; rw [hp] at h; cases h
  | _ => cases hfy
theorem s_own {i : Nat} {x : Str} {pos' : Pos} {m : Ar} (hN : X.N.Nodup) (hi : X.N[i]? = some x) (hx : Loc X.env.scope x) (he : SimL X W e m) (hs : swapsWith e (some (.Name x pos')) pos.line X.env = pure false := by rfl)
    (hf : X.fn x = true ∨ X.env.scope.names.lookup x = some .local := by first | exact .inl rfl | exact .inr rfl | assumption) : SimS X md W (.Assign [.Name x pos'] e pos) (sOwn i m) := by
  obtain ⟨t, p, r⟩ := he.ex
  refine ⟨_, ps_set hN hi hx p hs hf, fun σ H g S ρ gb g0 H0 S0 D res r0 rr tt er hm po => ?_⟩
  unfold sOwn at hm
  split at hm
  · rename_i xs q
    cases hm
    refine r σ H g S ρ _ (.ok xs) (md.wr rr) er.f.r q fun p vs g' H' gr hp hp' fp fr => ?_
    obtain ⟨r1, t1⟩ := md.grow rr gr
    exact po _ g' H' r1 (tt.step t1) (er.laidO rr gr (md.free tt.t hp) hp hp' fp fr i)
  · rename_i c fs q
    cases hm
    refine r σ H g S ρ _ (.ex c fs) (md.wr rr) er.f.r q fun cls d g' H' gr xr => ?_
    obtain ⟨r1, t1⟩ := md.grow rr gr
    exact po cls d σ g' H' r1 (tt.step t1) (er.step t1) xr
  · cases hm
/-- what a slot owns is changed in place -/
theorem EnvS.upd {K : PySem.W.Frag} {md : Md K} {H0 : Hp} {g : G} {H : Hp} {σ : St} {ρ : Env} (e : EnvS md H0 g H σ ρ) {i : Nat} {x y : PV} {a : Addr} {o : HO} (hi : ρ[i]? = some (some x)) (hx : fz x = false) (hs : σ[i]? = some (some (.ref a))) (hy : fz y = false) (f : SlR K g (L2.upd H a o) (.ref a) y) :
    EnvS md H0 g (L2.upd H a o) σ (ρ.set i (some y)) := by
  have hl := e.f.r.len
  have hlt : i < ρ.length := (List.getElem?_eq_some_iff.mp hi).1
  refine ⟨⟨⟨by simp [hl], fun j z h => ?_, fun j k z u v h1 h2 f1 f2 s1 s2 => ?_⟩, fun j z b h hfz hs' => ?_⟩, fun j z b h hfz hs' => ?_⟩
  · rcases get_set h with ⟨rfl, _, hz⟩ | ⟨ne, h⟩
    · cases hz; exact ⟨_, hs, f⟩
    · obtain ⟨v, hv, sl⟩ := e.f.r.at_ j z h
      refine ⟨v, hv, ?_⟩
      cases z with
      | ol ys =>
        obtain ⟨b, vs, e1, e2, e3, e4⟩ := sl
        have nb : b ≠ a := fun eb => ne (e.f.r.inj j i _ x (.ref a) h hi rfl hx (by rw [hv, e1, eb]) hs)
        exact ⟨b, vs, e1, by rw [upd_ne nb]; exact e2, e3, e4⟩
      | od ys =>
        obtain ⟨b, vs, e1, e2, e3, e4⟩ := sl
        have nb : b ≠ a := fun eb => ne (e.f.r.inj j i _ x (.ref a) h hi rfl hx (by rw [hv, e1, eb]) hs)
        exact ⟨b, vs, e1, by rw [upd_ne nb]; exact e2, e3, e4⟩
      | _ => exact sl
  · have old : ∀ (j : Nat) (z : PV), (ρ.set i (some y))[j]? = some (some z) → fz z = false → ∃ z', ρ[j]? = some (some z') ∧ fz z' = false := fun j z h hf => by
      rcases get_set h with ⟨rfl, _, _⟩ | ⟨_, h⟩
      · exact ⟨x, hi, hx⟩
      · exact ⟨z, h, hf⟩
    obtain ⟨z', a1, a2⟩ := old j z h1 f1
    obtain ⟨u', b1, b2⟩ := old k u h2 f2
    exact e.f.r.inj j k z' u' v a1 b1 a2 b2 s1 s2
  · rcases get_set h with ⟨rfl, _, _⟩ | ⟨_, h⟩
    · exact e.f.o _ x b hi hx hs'
    · exact e.f.o j z b h hfz hs'
  · rcases get_set h with ⟨rfl, _, _⟩ | ⟨_, h⟩
    · exact e.n _ x b hi hx hs'
    · exact e.n j z b h hfz hs'
/-- x.append(e) -/
def sAppend (i : Nat) (m : Ex) : Sm := fun ρ S => match ρ[i]? with
  | some (some (.ol xs)) => (match m ρ S with
    | some (.ok y) => if fz y && decide (xs.length < most) then some (.nx (ρ.set i (some (.ol (xs ++ [y])))), S) else none
    | some (.ex c fs) => some (.xx c fs ρ, S)
    | none => none)
  | _ => none
theorem s_append {i : Nat} {x : Str} {pos' apos : Pos} {epos : Pos} {m : Ex} (hN : X.N[i]? = some x) (hv : Vis X.env.scope x) (he : SimE X W e m) (hd : (x == ("__debug__" : Str)) = false := by decide) (hcd : (x == ("__classdict__" : Str)) = false := by decide)
    (hbase : attributeBase (.Name x pos') "append" X.env (eval (.Name x pos') X.env) = eval (.Name x pos') X.env := by rfl)
    (hfew : ((backTo pos (starEach [e] X.env)).all (fun x => !x.1) && (backToKw pos (keywordEach [] X.env)).all (fun x => x.1.isSome)
      && decide ([e].length + ([] : List Keyword).length + (if ([] : List Keyword).isEmpty then 0 else 1) < 30)) = true := by rfl)
    (hline : (apos.endLine == pos.line) = true := by rfl) (hs : starEach [e] X.env = (false, eval e X.env) :: starEach [] X.env := by rfl) (hplain : (backTo pos (starEach [] X.env)).any (·.1) = false := by rfl)
    (hsw : swapsWith (.Call (.Attribute (.Name x pos') "append" apos) [e] [] pos) none epos.line X.env = pure false := by rfl) :
    SimS X md W (.Expr (.Call (.Attribute (.Name x pos') "append" apos) [e] [] pos) epos) (sAppend i m) := by
  obtain ⟨t, p, r⟩ := he.ex
  refine ⟨_, ps_expr (pe_bm PySem.F.plainAttrs_list PySem.F.slot_list_append PySem.F.type_list_append mt_append (pe_var hN hv hd hcd) (pa_cons p pa_nil hs) hbase hfew hline hs hplain) hsw, fun σ H g S ρ gb g0 H0 S0 D res r0 rr tt er hm po => ?_⟩
  unfold sAppend at hm
  split at hm
  · rename_i xs hi
    obtain ⟨v, hv, a, vs, rfl, h1, h2, h3⟩ := er.f.r.at_ i _ hi
    refine ⟨_, hv, .inl ⟨rfl, _, .inl (.inl h1)⟩, ?_⟩
    split at hm
    · rename_i y q
      split at hm
      · rename_i hc
        cases hm
        simp only [Bool.and_eq_true, decide_eq_true_eq] at hc
        refine r σ H g S ρ _ (.ok y) (md.wr rr) er.f.r q fun u g' H' gr ov => ?_
        obtain ⟨r1, t1⟩ := md.grow rr gr
        have er1 := er.step t1
        obtain ⟨q1, q2, q3⟩ := md.own t1 h1 h3 (er.f.o i _ a hi rfl hv)
        have f2 : FRs X.K g' (xs ++ [y]) (vs ++ [u]) := (FRs.mono gr.le _ _ h2).append (.cons (ov.fr hc.1) .nil)
        refine ⟨a, vs, u, rfl, rfl, q1, ?_, ?_⟩
        · rw [← h2.length]; exact Nat.lt_of_lt_of_le hc.2 most_le
        · obtain ⟨r2, t2⟩ := md.put (.lst (vs ++ [u])) r0 (tt.step t1).t r1 q1 (er.n i _ a hi rfl hv) q2 q3
          refine po σ g' _ r2 ⟨t2, (tt.step t1).l⟩ (er1.upd hi rfl hv rfl ⟨a, _, rfl, upd_same, f2, q2⟩)
      · cases hm
    · rename_i c fs q
      cases hm
      refine r σ H g S ρ _ (.ex c fs) (md.wr rr) er.f.r q fun cls d g' H' gr xr => ?_
      obtain ⟨r1, t1⟩ := md.grow rr gr
      exact po cls d σ g' H' r1 (tt.step t1) (er.step t1) xr
    · cases hm
  · cases hm
theorem ext_tupW (l : Addr) (items : Array Value) (n : Nat) (b : Addr) (items2 : Array Value) (n2 : Nat) (dd : Option Addr) (sl : Array (Option Value)) (hs0 : ¬(!items.isEmpty && Builtin.List.listTooLong (items.size + items2.size)) = true) (hs1 : items.size ≤ sizeLine) (hs2 : items.size + items2.size ≤ sizeLine + 1) :
    Meets (Builtin.«list.extend» ⟨[.ref l, .ref b], []⟩) (fun _ R s => s.heap.get? l = some { cls := .type "list", dict := none, data := .seq items n, slots := #[] } ∧ s.heap.get? b = some { cls := .type "tuple", dict := dd, data := .seq items2 n2, slots := sl } ∧ R (.ok (.ret Value.none)) { s with heap := s.heap.update l (Obj.mapSeq fun x => x ++ items2), toks := s.toks }) :=
  .of_wp fun prog w A R s h => by
    obtain ⟨hp, g, d, tk, os⟩ := s; obtain ⟨hl, hb, h⟩ := h; have f1 := AutoSeq1.idx_int; have f2 := AutoSeq1.sub_tuple_tuple; have f3 := AutoSeq1.sub_list_list; have f4 := AutoSeq1.sub_tuple_list; have f5 := AutoSeq1.sub_list_tuple;
    have hz' : (items ++ items2).size ≤ sizeLine + 1 := by rw [Array.size_append]; exact hs2
    wp_walk using (wpAny_updateSeq hl rfl (hz := hs1) (_hz' := hz')), AutoSeq1.wpAny_loadPart' hl, AutoSeq1.wpAny_loadPart' hb; exact ⟨_, rfl, h⟩
/-- x.extend(e), e a list or a tuple -/
def rExtR (K : PySem.W.Frag) : V → List V → Hp → VK → Prop := fun x vs H Q => ∃ l b xs zs, x = .ref l ∧ vs = [.ref b] ∧ H l = some (.lst xs) ∧ (Rd H b (.lst zs) ∨ SqT K H b zs) ∧ xs.length + zs.length ≤ sizeLine ∧ Q .non (L2.upd H l (.lst (xs ++ zs)))
theorem mt_extR : MtR X "list.extend" (rExtR X.K) := by
  intro pins s σ H x vs v us Q I rx rv h
  obtain ⟨l, b, xs, zs, rfl, rfl, hH, hB, hz, q⟩ := h
  cases rx
  obtain ⟨u, rfl, ru⟩ := rv.one
  cases ru
  obtain ⟨z, its, n, r, hl, e⟩ := I.lstM hH
  rcases hB with hB | hB
  · obtain ⟨z2, its2, n2, r2, e2⟩ := hB.ok I.hok
    have hl2 := r2.length
    have hsz : its.toArray.size + its2.toArray.size ≤ sizeLine := by rw [List.size_toArray, List.size_toArray]; omega
    have hlong : ¬ (!its.toArray.isEmpty && Builtin.List.listTooLong (its.toArray.size + its2.toArray.size)) = true := by
      rw [notLongL hsz, Bool.and_false]
      exact Bool.false_ne_true
    refine call_meets F.slot_list_extend ⟨_, e, rfl⟩ F.entry_list_extend (F.args_list_extend_2 _ _)
      (AutoSeq1.list_extend_list_list_0 l its.toArray n b its2.toArray n2 hlong (by rw [List.size_toArray]; omega) (by omega)) ⟨e, e2, ?_⟩
    refine ⟨.non, _, I.lset (its' := its ++ its2) hH e (by simp) (r.append r2) ?_, rfl, q⟩
    rw [List.length_append]
    omega
  · obtain ⟨its2, r2, ⟨⟨cls, dd, data, sl⟩, e2, hc, n2, hd⟩, z2⟩ := I.tuple hB
    simp only at hc hd
    subst hc hd
    have hl2 := r2.length
    have hsz : its.toArray.size + its2.toArray.size ≤ sizeLine := by rw [List.size_toArray, List.size_toArray]; omega
    have hlong : ¬ (!its.toArray.isEmpty && Builtin.List.listTooLong (its.toArray.size + its2.toArray.size)) = true := by
      rw [notLongL hsz, Bool.and_false]
      exact Bool.false_ne_true
    refine call_meets F.slot_list_extend ⟨_, e, rfl⟩ F.entry_list_extend (F.args_list_extend_2 _ _)
      (ext_tupW l its.toArray n b its2.toArray n2 dd sl hlong (by rw [List.size_toArray]; omega) (by omega)) ⟨e, e2, ?_⟩
    refine ⟨.non, _, I.lset (its' := its ++ its2) hH e (by simp) (r.append r2) ?_, rfl, q⟩
    rw [List.length_append]
    omega
def sExtend (i : Nat) (m : Ex) : Sm := fun ρ S => match ρ[i]? with
  | some (some (.ol xs)) => (match m ρ S with
    | some (.ok y) => (match y with
      | .lst ys => if decide (xs.length + ys.length ≤ most) then some (.nx (ρ.set i (some (.ol (xs ++ ys)))), S) else none
      | .tup ys => if decide (xs.length + ys.length ≤ most) then some (.nx (ρ.set i (some (.ol (xs ++ ys)))), S) else none
      | _ => none)
    | some (.ex c fs) => some (.xx c fs ρ, S)
    | none => none)
  | _ => none
theorem s_extend {i : Nat} {x : Str} {pos' apos : Pos} {epos : Pos} {m : Ex} (hN : X.N[i]? = some x) (hv : Vis X.env.scope x) (he : SimE X W e m) (hd : (x == ("__debug__" : Str)) = false := by decide) (hcd : (x == ("__classdict__" : Str)) = false := by decide)
    (hbase : attributeBase (.Name x pos') "extend" X.env (eval (.Name x pos') X.env) = eval (.Name x pos') X.env := by rfl)
    (hfew : ((backTo pos (starEach [e] X.env)).all (fun x => !x.1) && (backToKw pos (keywordEach [] X.env)).all (fun x => x.1.isSome)
      && decide ([e].length + ([] : List Keyword).length + (if ([] : List Keyword).isEmpty then 0 else 1) < 30)) = true := by rfl)
    (hline : (apos.endLine == pos.line) = true := by rfl) (hs : starEach [e] X.env = (false, eval e X.env) :: starEach [] X.env := by rfl) (hplain : (backTo pos (starEach [] X.env)).any (·.1) = false := by rfl)
    (hsw : swapsWith (.Call (.Attribute (.Name x pos') "extend" apos) [e] [] pos) none epos.line X.env = pure false := by rfl) :
    SimS X md W (.Expr (.Call (.Attribute (.Name x pos') "extend" apos) [e] [] pos) epos) (sExtend i m) := by
  obtain ⟨t, p, r⟩ := he.ex
  refine ⟨_, ps_expr (pe_bm PySem.F.plainAttrs_list PySem.F.slot_list_extend PySem.F.type_list_extend mt_extR (pe_var hN hv hd hcd) (pa_cons p pa_nil hs) hbase hfew hline hs hplain) hsw, fun σ H g S ρ gb g0 H0 S0 D res r0 rr tt er hm po => ?_⟩
  unfold sExtend at hm
  split at hm
  · rename_i xs hi
    obtain ⟨v, hv, a, vs, rfl, h1, h2, h3⟩ := er.f.r.at_ i _ hi
    refine ⟨_, hv, .inl ⟨rfl, _, .inl (.inl h1)⟩, ?_⟩
    split at hm
    · rename_i y q
      refine r σ H g S ρ _ (.ok y) (md.wr rr) er.f.r q fun u g' H' gr ov => ?_
      obtain ⟨r1, t1⟩ := md.grow rr gr
      have er1 := er.step t1
      obtain ⟨q1, q2, q3⟩ := md.own t1 h1 h3 (er.f.o i _ a hi rfl hv)
      have main : ∀ (ys : List PV) (zs : List V) (b : Addr), u = .ref b → (Rd H' b (.lst zs) ∨ SqT X.K H' b zs) → FRs X.K g' ys zs → (if decide (xs.length + ys.length ≤ most) = true then some (SR.nx (ρ.set i (some (.ol (xs ++ ys)))), S) else none) = some res → rExtR X.K (.ref a) [u] H' (fun _ H1 => D.nx σ H1) := fun ys zs b hu hb hf hm => by
        split at hm
        · rename_i hc
          cases hm
          have f2 : FRs X.K g' (xs ++ ys) (vs ++ zs) := (FRs.mono gr.le _ _ h2).append hf
          refine ⟨a, b, vs, zs, rfl, by rw [hu], q1, hb, by rw [← h2.length, ← hf.length]; exact Nat.le_trans (of_decide_eq_true hc) most_le, ?_⟩
          obtain ⟨r2, t2⟩ := md.put (.lst (vs ++ zs)) r0 (tt.step t1).t r1 q1 (er.n i _ a hi rfl hv) q2 q3
          exact po σ g' _ r2 ⟨t2, (tt.step t1).l⟩ (er1.upd hi rfl hv rfl ⟨a, _, rfl, upd_same, f2, q2⟩)
        · cases hm
      split at hm
      · rename_i ys
        cases ov.fr rfl with
        | lst s f => exact main ys _ _ rfl (.inl ((md.wr r1).f _ _ s)) f hm
      · rename_i ys
        cases ov.fr rfl with
        | tup s f => exact main ys _ _ rfl (.inr ((md.wr r1).f.sqT s)) f hm
      · cases hm
    · rename_i c fs q
      cases hm
      refine r σ H g S ρ _ (.ex c fs) (md.wr rr) er.f.r q fun cls d g' H' gr xr => ?_
      obtain ⟨r1, t1⟩ := md.grow rr gr
      exact po cls d σ g' H' r1 (tt.step t1) (er.step t1) xr
    · cases hm
  · cases hm
end
end L3

end
section
set_option Elab.async false
set_option linter.all false
set_option maxRecDepth 100000
set_option maxHeartbeats 4000000
namespace L3
open PySem PySem.Spec L2
set_option autoImplicit false

/-! ### defs -/
abbrev Fm := List PV → Store → Option (Res PV × Store)
/-- what a def promises: it computes m, in the mode md -/
def spM {K : PySem.W.Frag} (md : Md K) (n : Nat) (m : Fm) : Sp := fun vs H Q E => ∃ (g : G) (S : Store) (xs : List PV) (r : Res PV × Store), md.R g S H ∧ FRs K g xs vs ∧ xs.length = n ∧ m xs S = some r ∧
  match r with
  | (.ok z, S') => ∀ v g' H', md.R g' S' H' → md.T g H S g' H' S' → FR K g' z v → Q v H'
  | (.ex c fs, S') => ∀ cls d g' H', md.R g' S' H' → md.T g H S g' H' S' → XR K g' H' c fs cls d → E cls d H'
/-- a body as a function of its arguments; l slots in all -/
def fBody (l : Nat) (m : Sm) : Fm := fun xs S => match m (xs.map some ++ List.replicate (l - xs.length) none) S with
  | some (.rt z, S') => some (.ok z, S')
  | some (.nx _, S') => some (.ok .non, S')
  | some (.xx c fs _, S') => some (.ex c fs, S')
  | _ => none
section
variable {P : Program} {w : World} {K : PySem.W.Frag} {mg : Str → Option Value} {base : Heap}
theorem env_start {md : Md K} {H0 : Hp} {g : G} {H : Hp} {N : List Str} {xs : List PV} {vs : List V} (f : FRs K g xs vs) : EnvS md H0 g H (L2.start N vs) (xs.map some ++ List.replicate (N.length - xs.length) none) := by
  have hl := f.length
  have key : ∀ (i : Nat) (x : PV), (xs.map some ++ List.replicate (N.length - xs.length) none)[i]? = some (some x) → xs[i]? = some x := fun i x h => by
    by_cases hi : i < xs.length
    · rw [List.getElem?_append_left (by simpa using hi), List.getElem?_map] at h
      cases e : xs[i]? with
      | none => rw [e] at h; cases h
      | some y => rw [e] at h; cases h; rfl
    · rw [List.getElem?_append_right (by simpa using hi), List.getElem?_replicate] at h
      split at h <;> cases h
  have fzk : ∀ (i : Nat) (x : PV), (xs.map some ++ List.replicate (N.length - xs.length) none)[i]? = some (some x) → fz x = true := fun i x h => by
    obtain ⟨v, _, fv⟩ := f.get (key i x h)
    exact fv.fz
  refine ⟨⟨⟨?_, fun i x h => ?_, fun i j x y v h1 h2 f1 => ?_⟩, fun i x a h hf => ?_⟩, fun i x a h hf => ?_⟩
  · unfold L2.start
    rw [List.length_append, List.length_append, List.length_map, List.length_map, List.length_replicate, List.length_replicate]
    omega
  · obtain ⟨v, hv, fv⟩ := f.get (key i x h)
    refine ⟨v, ?_, SlR.of_fr fv⟩
    unfold L2.start
    have hi : i < vs.length := (List.getElem?_eq_some_iff.mp hv).1
    rw [List.getElem?_append_left (by simpa using hi), List.getElem?_map, hv]
    rfl
  · rw [fzk i x h1] at f1; cases f1
  · rw [fzk i x h] at hf; cases hf
  · rw [fzk i x h] at hf; cases hf
/-- a def that may raise an own exception: its body computes m -/
theorem fn_sim {x qual : Str} {st : Stmt} {f : Addr} {fd : FuncData} {N ps : List Str} {k n : Nat} {dvs : List V} {kws : List (Str × V)} {md : Md K} {m : Sm} (F : FunD K x qual (defArgs st) (defBody st) (defScope st) dvs kws f fd) (S : FnScope N ps (defScope st)) (hn : ps.length = n)
    (hbody : ∀ (cdv : Value) (A : Around) (outer : List PySem.Env) (s : Shared) (H : Hp) (E : XK), Room k (A.deeper (PyProof.Rows.envOfC qual (defScope st) s.heap.objs.size f cdv)) →
      Takes (cxOf (L2.CX P w) P w K mg base N qual (defScope st) f cdv A outer s H E) (fun cls d _ H => E cls d H) →
      PassesOwn (model P w) (A.deeper (PyProof.Rows.envOfC qual (defScope st) s.heap.objs.size f cdv)) (PyProof.Rows.envOfC qual (defScope st) s.heap.objs.size f cdv) (cxOf (L2.CX P w) P w K mg base N qual (defScope st) f cdv A outer s H E).xe →
      SimB (cxOf (L2.CX P w) P w K mg base N qual (defScope st) f cdv A outer s H E) md (fun cls d _ H => E cls d H) (defBody st) m) : FnOk P w K mg base (L2.CX P w) (k + 1) f fd ps (spM md n (fBody N.length m)) := by
  refine F.ok S (fun vs H Q E h => ?_) (fun cdv A outer s H vs Q E hr h => ?_)
  · obtain ⟨g, S', xs, r, _, f, hl, _⟩ := h
    rw [← f.length, hl, hn]
  · obtain ⟨g, S', xs, r, rr, f, hl, hm, po⟩ := h
    obtain ⟨t, p, rc⟩ := (hbody cdv A outer s H E hr (takes_of rfl rfl rfl rfl) (passes_of rfl)).ex
    refine ⟨t, p, ?_⟩
    unfold fBody at hm
    split at hm
    · rename_i z S2 q
      cases hm
      exact rc _ H g S' _ g g H S' _ (.rt z, S2) rr rr ⟨md.refl rr, .refl _⟩ (env_start f) q fun v g' H' r1 t1 fz => po v g' H' r1 t1.t fz
    · rename_i ρ S2 q
      cases hm
      exact rc _ H g S' _ g g H S' _ (.nx ρ, S2) rr rr ⟨md.refl rr, .refl _⟩ (env_start f) q fun σ g' H' r1 t1 fz => po _ g' H' r1 t1.t .non
    · rename_i c fs ρ S2 q
      cases hm
      exact rc _ H g S' _ g g H S' _ (.xx c fs ρ, S2) rr rr ⟨md.refl rr, .refl _⟩ (env_start f) q fun cls d σ g' H' r1 t1 _ xr => po cls d g' H' r1 t1.t xr
    · cases hm
/-- a def from which nothing is raised (the law itself) -/
theorem fn_sim0 {x qual : Str} {st : Stmt} {f : Addr} {fd : FuncData} {N ps : List Str} {k n : Nat} {dvs : List V} {kws : List (Str × V)} {md : Md K} {m : Sm} (F : FunD K x qual (defArgs st) (defBody st) (defScope st) dvs kws f fd) (S : FnScope N ps (defScope st)) (hn : ps.length = n)
    (hbody : ∀ (cdv : Value) (A : Around) (outer : List PySem.Env) (s : Shared) (H : Hp) (E : XK), Room k (A.deeper (PyProof.Rows.envOfC qual (defScope st) s.heap.objs.size f cdv)) →
      Takes (cxOf CX0 P w K mg base N qual (defScope st) f cdv A outer s H E).nox WX0 →
      PassesOwn (model P w) (A.deeper (PyProof.Rows.envOfC qual (defScope st) s.heap.objs.size f cdv)) (PyProof.Rows.envOfC qual (defScope st) s.heap.objs.size f cdv) (cxOf CX0 P w K mg base N qual (defScope st) f cdv A outer s H E).nox.xe →
      SimB (cxOf CX0 P w K mg base N qual (defScope st) f cdv A outer s H E).nox md WX0 (defBody st) m) : FnOk P w K mg base CX0 (k + 1) f fd ps (spM md n fun xs S => match fBody N.length m xs S with
        | some (.ok z, S') => some (.ok z, S')
        | _ => none) := by
  refine F.ok S (fun vs H Q E h => ?_) (fun cdv A outer s H vs Q E hr h => ?_)
  · obtain ⟨g, S', xs, r, _, f, hl, _⟩ := h
    rw [← f.length, hl, hn]
  · obtain ⟨g, S', xs, r, rr, f, hl, hm, po⟩ := h
    obtain ⟨t, p, rc⟩ := (hbody cdv A outer s H E hr takes0 PassesOwn.never).ex
    refine ⟨t, p.nox, ?_⟩
    replace hm : (match fBody N.length m xs S' with
        | some (.ok z, S') => some (.ok z, S')
        | _ => none) = some r := hm
    split at hm
    · rename_i z0 S0 q0
      cases hm
      unfold fBody at q0
      split at q0
      · rename_i z S2 q
        cases q0
        exact rc _ H g S' _ g g H S' _ (.rt z0, S0) rr rr ⟨md.refl rr, .refl _⟩ (env_start f) q fun v g' H' r1 t1 fz => po v g' H' r1 t1.t fz
      · rename_i ρ S2 q
        cases q0
        exact rc _ H g S' _ g g H S' _ (.nx ρ, S0) rr rr ⟨md.refl rr, .refl _⟩ (env_start f) q fun σ g' H' r1 t1 fz => po _ g' H' r1 t1.t .non
      · cases q0
      · cases q0
    · cases hm
end

/-! ### calls of own defs -/
/-- a def of the module, in the mode md, below the level j -/
structure Fn (X : Cx) (md : Md X.K) (j : Nat) (x : Str) (n : Nat) (m : Fm) : Prop where
  ex : ∃ (k : Nat) (f : Addr) (fd : FuncData) (ps : List Str), k ≤ j ∧ FnOk X.prog X.w X.K X.mg X.base (L2.CX X.prog X.w) k f fd ps (spM md n m) ∧ X.mg x = some (.ref f) ∧ PySem.W.keepIn X.K (.ref f) = true ∧ Binds X.K fd ps []
section
variable {X : Cx} {md : Md X.K} {W : WX} {e : Expr} {es : List Expr} {pos : Pos}
/-- f(..), f reads the store alone -/
def xFn (m : Fm) (n : Nat) (a : Ar) : Ex := fun ρ S => mb (a ρ S) fun xs => if xs.all fz && xs.length == n then (m xs S).map (·.1) else none
theorem rch_fn {t : TA} {a : Ar} {n : Nat} {m : Fm} (ra : Rch X.K (RL X.K) W t a) : Rch X.K (RV X.K) W (tCallS (spM (Pm X.K) n m) (WE W) t) (xFn m n a) := by
  refine Rch.bind (R' := RV X.K) (k := fun xs _ S => if xs.all fz && xs.length == n then (m xs S).map (·.1) else none) (tk := fun vs σ H1 Q => spM (Pm X.K) n m vs H1 Q (WE W σ)) ra fun xs us σ H g S ρ Q res w er hx hm po => ?_
  split at hm
  · rename_i hc
    simp only [Bool.and_eq_true] at hc
    cases q : m xs S with
    | none => rw [q] at hm; cases hm
    | some z =>
      rw [q] at hm
      obtain ⟨z1, z2⟩ := z
      have e2 : res = z1 := (Option.some.inj hm).symm
      subst e2
      refine ⟨g, S, xs, (res, z2), w, OVs.frs hx hc.1, eq_of_beq hc.2, q, ?_⟩
      cases res with
      | ok y => exact fun v g' H' r1 t1 f1 => po v g' H' t1.1 (.frz f1)
      | ex c fs => exact fun cls d g' H' r1 t1 x1 => po cls d g' H' t1.1 x1
  · cases hm
theorem e_fn {x : Str} {p : Pos} {j n : Nat} {m : Fm} {a : Ar} (F : Fn X (Pm X.K) j x n m) (hr : Room j X.A) (tk : Takes X W) (hg : Gl X x) (ha : SimA X W (e :: es) a) (hdb : (x == ("__debug__" : Str)) = false := by decide)
    (he : starEach (e :: es) X.env = (false, eval e X.env) :: starEach es X.env := by rfl) (hpl : (backTo pos (starEach es X.env)).any (·.1) = false := by rfl) : SimE X W (.Call (.Name x p) (e :: es) [] pos) (xFn m n a) := by
  obtain ⟨k, f, fd, ps, hk, F, hm, kp, hb⟩ := F.ex
  obtain ⟨t, pa, ra⟩ := ha.ex
  exact ⟨_, pe_callS F (hr.mono hk) hg hm kp hb (fun σ => passAt tk σ) pa hdb he hpl, rch_fn ra⟩
theorem call0S {CX : CXT} {k : Nat} {f : Addr} {fd : FuncData} {ps : List Str} {sp : Sp} {E : St → XK} {x : Str} {p : Pos} (F : FnOk X.prog X.w X.K X.mg X.base CX k f fd ps sp) (hr : Room k X.A) (hg : Gl X x) (hm : X.mg x = some (.ref f)) (hk : PySem.W.keepIn X.K (.ref f) = true) (hb : Binds X.K fd ps []) (hx : ∀ σ, PassesAt CX X σ (E σ)) (hdb : (x == ("__debug__" : Str)) = false := by decide) :
    PE X (.Call (.Name x p) [] [] pos) (tCallS sp E tNil) := by
  refine ⟨fun pins s σ H Q I h => ?_⟩
  refine wpAny_Call_Name_kw (ld_glob I hg hm ?_ hdb)
  exact PySem.W.callWith_K0 I.kIn hk (run_fnS (us := []) F hr hb (hx σ) I .nil h)
theorem e_fn0 {x : Str} {p : Pos} {j n : Nat} {m : Fm} (F : Fn X (Pm X.K) j x n m) (hr : Room j X.A) (tk : Takes X W) (hg : Gl X x) (hdb : (x == ("__debug__" : Str)) = false := by decide) : SimE X W (.Call (.Name x p) [] [] pos) (xFn m n aNil) := by
  obtain ⟨k, f, fd, ps, hk, F, hm, kp, hb⟩ := F.ex
  exact ⟨_, call0S F (hr.mono hk) hg hm kp hb (fun σ => passAt tk σ) hdb, rch_fn (fun σ H g S ρ Q r w er hm po => by cases hm; exact po [] g H (.refl w) .nil)⟩
end
end L3

end
section
set_option Elab.async false
set_option linter.all false
set_option maxRecDepth 100000
set_option maxHeartbeats 4000000
namespace L3
open PySem PySem.Spec L2
set_option autoImplicit false

/-! ### the one reading of a plain function -/
def cE {α β : Type} (K : PySem.W.Frag) (R : G → Hp → α → β → Prop) (W : WX) (m : Env → Store → M α) : St → Hp → (β → Hp → Prop) → Prop :=
  fun σ H Q => ∃ (g : G) (S : Store) (ρ : Env) (r : Res α), WR K g S H ∧ EnvR K g H σ ρ ∧ m ρ S = some r ∧ Po K R g H σ W Q r
theorem Rch.c {α β : Type} {K : PySem.W.Frag} {R : G → Hp → α → β → Prop} {W : WX} {t : St → Hp → (β → Hp → Prop) → Prop} {m : Env → Store → M α} (h : Rch K R W t m) {σ : St} {H : Hp} {Q : β → Hp → Prop} (q : cE K R W m σ H Q) : t σ H Q := by
  obtain ⟨g, S, ρ, r, w, e, hm, po⟩ := q
  exact h σ H g S ρ Q r w e hm po
theorem SimE.c {X : Cx} {W : WX} {e : Expr} {m : Ex} (h : SimE X W e m) : PE X e (cE X.K (RV X.K) W m) := by
  obtain ⟨t, p, r⟩ := h.ex
  exact ⟨fun pins s σ H Q I q => p.run pins s σ H Q I (r.c q)⟩
theorem SimT.c {X : Cx} {W : WX} {e : Expr} {m : Te} (h : SimT X W e m) : PT X e (cE X.K RB W m) := by
  obtain ⟨t, p, r⟩ := h.ex
  exact ⟨fun pins s σ H Q I q => p.run pins s σ H Q I (r.c q)⟩
def cG (K : PySem.W.Frag) (ks : List Nat) (tg : Tg) : TG := fun v σ H Q => ∃ (g : G) (S : Store) (ρ ρ' : Env) (x : PV), WR K g S H ∧ EnvR K g H σ ρ ∧ FR K g x v ∧ tg x ρ = some ρ' ∧ ∀ σ', Tgt K g H σ ρ σ' ρ' ks → Q σ' H
theorem SimG.c {X : Cx} {e : Expr} {ks : List Nat} {tg : Tg} (h : SimG X e ks tg) : PG X e (cG X.K ks tg) := by
  obtain ⟨t, p, r⟩ := h.ex
  refine ⟨fun pins s σ H v u Q I rv q => p.run pins s σ H v u Q I rv ?_⟩
  obtain ⟨g, S, ρ, ρ', x, w, e, f, hm, k⟩ := q
  exact r v σ H g S ρ ρ' x Q w e f hm k
/-- the tests of a clause: none, or one -/
structure SimTs (X : Cx) (W : WX) (ifs : List Expr) (m : Te) : Prop where
  ex : PTs X ifs (cE X.K RB W m)
def yYes : Te := fun _ _ => some (.ok true)
theorem ts_nil {X : Cx} {W : WX} : SimTs X W [] yYes := ⟨⟨fun pins s σ H Q I q => by
  obtain ⟨g, S, ρ, r, w, e, hm, po⟩ := q
  cases hm
  exact pts_nil.run pins s σ H Q I (po true g H (.refl w) rfl)⟩⟩
theorem ts_one {X : Cx} {W : WX} {c : Expr} {m : Te} (h : SimT X W c m) : SimTs X W [c] m := ⟨pts_one h.c⟩

/-! ### slots wiped -/
theorem wipe_get (σ : St) : ∀ (vs : List Nat) (i : Nat), (wipe σ vs)[i]? = if i ∈ vs ∧ i < σ.length then some none else σ[i]?
  | [], i => by simp [wipe]
  | v :: vs, i => by
    unfold wipe
    by_cases h : i = v
    · subst h
      by_cases hl : i < σ.length
      · rw [List.getElem?_set_self (by rw [wipe_length]; exact hl), if_pos ⟨by simp, hl⟩]
      · rw [List.getElem?_eq_none (by simp [wipe_length]; omega), if_neg (by simp [hl]), List.getElem?_eq_none (by omega)]
    · rw [List.getElem?_set_ne (Ne.symm h), wipe_get σ vs i]
      have : (i ∈ v :: vs) ↔ i ∈ vs := by simp [h]
      simp only [this]
theorem wipe_same {σ σ' : St} {vs : List Nat} (hl : σ'.length = σ.length) (h : ∀ i, i ∉ vs → σ'[i]? = σ[i]?) : wipe σ' vs = wipe σ vs := by
  apply List.ext_getElem?
  intro i
  rw [wipe_get, wipe_get, hl]
  by_cases hi : i ∈ vs
  · by_cases hlt : i < σ.length
    · rw [if_pos ⟨hi, hlt⟩, if_pos ⟨hi, hlt⟩]
    · rw [if_neg (fun z => hlt z.2), if_neg (fun z => hlt z.2), List.getElem?_eq_none (by omega), List.getElem?_eq_none (by omega)]
  · rw [if_neg (fun z => hi z.1), if_neg (fun z => hi z.1), h i hi]
theorem wipe_wipe (σ : St) (vs : List Nat) : wipe (wipe σ vs) vs = wipe σ vs :=
  wipe_same (wipe_length σ vs) fun i hi => by rw [wipe_get, if_neg (fun z => hi z.1)]
def wipeP (ρ : Env) : List Nat → Env
  | [] => ρ
  | v :: vs => (wipeP ρ vs).set v none
theorem EnvR.forget {K : PySem.W.Frag} {g : G} {H : Hp} {σ : St} {ρ : Env} (e : EnvR K g H σ ρ) (v : Nat) : EnvR K g H (σ.set v none) (ρ.set v none) := by
  have key : ∀ (j : Nat) (y : PV), (ρ.set v none)[j]? = some (some y) → j ≠ v ∧ ρ[j]? = some (some y) := fun j y h => by
    rcases get_set h with ⟨_, _, hy⟩ | ⟨n, h⟩
    · cases hy
    · exact ⟨n, h⟩
  have old : ∀ (j : Nat), j ≠ v → (σ.set v none)[j]? = σ[j]? := fun j h => by rw [List.getElem?_set_ne (Ne.symm h)]
  refine ⟨by simp [e.len], fun j y h => ?_, fun j k y z u h1 h2 f1 f2 s1 s2 => ?_⟩
  · obtain ⟨n, h⟩ := key j y h
    rw [old j n]; exact e.at_ j y h
  · obtain ⟨n1, h1⟩ := key j y h1
    obtain ⟨n2, h2⟩ := key k z h2
    rw [old j n1] at s1; rw [old k n2] at s2
    exact e.inj j k y z u h1 h2 f1 f2 s1 s2
theorem EnvR.wipe {K : PySem.W.Frag} {g : G} {H : Hp} {σ : St} {ρ : Env} (e : EnvR K g H σ ρ) : ∀ vs : List Nat, EnvR K g H (L2.wipe σ vs) (wipeP ρ vs)
  | [] => e
  | v :: vs => (EnvR.wipe e vs).forget v

/-! ### list comprehensions -/
def lcGo (tg : Tg) (tt : Te) (te : Ex) (ρ : Env) (S : Store) : List PV → Option (List PV)
  | [] => some []
  | x :: xs => match tg x ρ with
    | none => none
    | some ρ1 => match tt ρ1 S with
      | some (.ok false) => lcGo tg tt te ρ S xs
      | some (.ok true) => (match te ρ1 S with
        | some (.ok y) => if fz y then (lcGo tg tt te ρ S xs).map (y :: ·) else none
        | _ => none)
      | _ => none
def lLc (it : Ar) (tg : Tg) (tt : Te) (te : Ex) (vs : List Nat) : Ar := fun ρ S => mb (it ρ S) fun xs => if decide (xs.length ≤ most) then mo (lcGo tg tt te (wipeP ρ vs) S xs) else none
section
variable {X : Cx} {md : Md X.K} {W : WX} {elt tg iter : Expr} {ifs : List Expr} {scope : Scope} {own : List (Str × Nat)} {pos : Pos}
theorem rch_lc {K : PySem.W.Frag} {it : Ar} {g1 : Tg} {tt : Te} {te : Ex} {vs ks : List Nat} {wi : TI} (hk : ∀ k ∈ ks, k ∈ vs)
    (ri : ∀ (σ : St) (H : Hp) (g : G) (S : Store) (ρ : Env) (R : It → Hp → Prop) (r : Res (List PV)), WR K g S H → EnvR K g H σ ρ → it ρ S = some r → Po K (fun g' _ xs J => Wk K g' J xs) g H σ W R r → wi σ H R) :
    ∀ (σ : St) (H : Hp) (g : G) (S : Store) (ρ : Env) (Q : VK) (r : Res (List PV)), WR K g S H → EnvR K g H σ ρ → lLc it g1 tt te vs ρ S = some r →
    (match r with
      | .ok xs => ∀ p vs g' H', Grow g H g' H' → H p = none → H' p = some (.lst vs) → g'.F p = none → FRs K g' xs vs → Q (.ref p) H'
      | .ex c fs => ∀ cls d g' H', Grow g H g' H' → XR K g' H' c fs cls d → W cls d σ H') →
    tLc wi (cG K ks g1) (cE K RB WX0 tt) (cE K (RV K) WX0 te) vs σ H Q := by
  intro σ H g S ρ Q r w er hm po
  unfold lLc at hm
  cases q : it ρ S with
  | none => rw [q] at hm; cases hm
  | some z =>
    rw [q] at hm
    cases z with
    | ex c fs =>
      have e2 : r = .ex c fs := (Option.some.inj hm).symm
      subst e2
      exact ri σ H g S ρ _ (.ex c fs) w er q po
    | ok xs =>
      have hm : (if decide (xs.length ≤ most) then mo (lcGo g1 tt te (wipeP ρ vs) S xs) else none) = some r := hm
      split at hm
      · rename_i hlen
        have hlen := of_decide_eq_true hlen
        cases q2 : lcGo g1 tt te (wipeP ρ vs) S xs with
        | none => rw [q2] at hm; cases hm
        | some ys =>
          rw [q2] at hm
          have e2 : r = .ok ys := (Option.some.inj hm).symm
          subst e2
          refine ri σ H g S ρ _ (.ok xs) w er q fun J gJ H1 grJ wk D hD => ?_
          have wJ : WR K gJ S H1 := grJ.wr w
          have fD : gJ.F D = none := by
            cases e : gJ.F D with
            | none => rfl
            | some u => rcases wJ.f D u (.inl e) with q | ⟨_, q⟩ <;> rw [hD] at q <;> cases q
          refine ⟨fun i j H => ∃ g vals done rest, Grow gJ H1 g H ∧ H D = some (.lst vals) ∧ g.F D = none ∧ FRs K g done vals ∧ lcGo g1 tt te (wipeP ρ vs) S (xs.drop i) = some rest ∧ done ++ rest = ys ∧ i + j = xs.length ∧ done.length ≤ i,
            ⟨xs.length, gJ, [], [], ys, .loose wJ hD, upd_same, fD, .nil, by simpa using q2, rfl, by omega, Nat.le_refl _⟩, ?_⟩
          rintro i j H ⟨g, vals, done, rest, gr, hHD, fD, fd, hgo, hys, hij, hdl⟩
          have wg : WR K g S H := gr.wr wJ
          by_cases hi : i < xs.length
          · have hd : xs.drop i = xs[i] :: xs.drop (i + 1) := List.drop_eq_getElem_cons hi
            have hx : xs[i]? = some xs[i] := List.getElem?_eq_getElem hi
            rw [hd] at hgo
            unfold lcGo at hgo
            refine .inr ⟨wk.go g H i _ gr.le wg.f hx, fun H' => ∃ g vals done rest, Grow gJ H1 g H' ∧ H' D = some (.lst vals) ∧ g.F D = none ∧ FRs K g done vals ∧ lcGo g1 tt te (wipeP ρ vs) S (xs.drop (i + 1)) = some rest ∧ done ++ rest = ys ∧ done.length ≤ i + 1,
              fun H' ⟨g', v', d', r', a1, a2, a3, a4, a5, a6, a7⟩ => ⟨j - 1, by omega, g', v', d', r', a1, a2, a3, a4, a5, a6, by omega, a7⟩, fun v H' hy => ?_⟩
            obtain ⟨g2, gr2, fx⟩ := wk.yld g S H i _ v H' gr.le wg hx hy
            have w2 := gr2.wr wg
            have e2 : EnvR K g2 H' (L2.wipe σ vs) (wipeP ρ vs) := (((er.mono grJ).mono gr).mono gr2).wipe vs
            split at hgo
            · cases hgo
            · rename_i ρ1 q1
              refine ⟨g2, S, _, ρ1, _, w2, e2, fx, q1, fun σ3 t3 => ⟨?_, ?_⟩⟩
              · rw [← wipe_wipe σ vs]
                exact wipe_same t3.l fun n hn => t3.s n fun z => hn (hk n z)
              · split at hgo
                · rename_i q3
                  refine ⟨g2, S, ρ1, _, w2, t3.r, q3, fun b g3 H3 gr3 eb => ?_⟩
                  subst eb
                  rw [if_neg Bool.false_ne_true]
                  refine ⟨g3, vals, done, rest, (gr.trans gr2).trans gr3, gr3.h _ _ (gr2.h _ _ hHD), gr3.none (gr2.h _ _ hHD) (gr2.none hHD fD), FRs.mono gr3.le _ _ (FRs.mono gr2.le _ _ fd), hgo, hys, by omega⟩
                · rename_i q3
                  refine ⟨g2, S, ρ1, _, w2, t3.r, q3, fun b g3 H3 gr3 eb => ?_⟩
                  subst eb
                  rw [if_pos rfl]
                  split at hgo
                  · rename_i y q4
                    split at hgo
                    · rename_i hfy
                      cases q5 : lcGo g1 tt te (wipeP ρ vs) S (xs.drop (i + 1)) with
                      | none => rw [q5] at hgo; cases hgo
                      | some rest' =>
                        rw [q5] at hgo
                        have e5 : rest = y :: rest' := (Option.some.inj hgo).symm
                        subst e5
                        refine ⟨g3, S, ρ1, _, gr3.wr w2, t3.r.mono gr3, q4, fun u g4 H4 gr4 ov => ?_⟩
                        have gA := ((gr.trans gr2).trans gr3).trans gr4
                        have hH4 : H4 D = some (.lst vals) := gr4.h _ _ (gr3.h _ _ (gr2.h _ _ hHD))
                        have fD4 : g4.F D = none := gr4.none (gr3.h _ _ (gr2.h _ _ hHD)) (gr3.none (gr2.h _ _ hHD) (gr2.none hHD fD))
                        have fd4 : FRs K g4 done vals := FRs.mono gr4.le _ _ (FRs.mono gr3.le _ _ (FRs.mono gr2.le _ _ fd))
                        have hvl : vals.length < sizeLine := by
                          rw [← fd.length, sizeLine_eq]
                          have : most = 1000000 := rfl
                          omega
                        refine ⟨vals, hH4, hvl, ?_⟩
                        obtain ⟨_, gB, _⟩ := (Pm K).put (g0 := gJ) (S0 := S) (H0 := H1) (S := S) (.lst (vals ++ [u])) wJ ⟨gA, rfl⟩ (gA.wr wJ) hH4 hD fD4 trivial
                        exact ⟨g4, vals ++ [u], done ++ [y], rest', gB, upd_same, fD4, fd4.append (.cons (ov.fr hfy) .nil), rfl, by rw [List.append_assoc]; exact hys, by simp; omega⟩
                    · cases hgo
                  · cases hgo
                · cases hgo
          · have hi2 : i = xs.length := by omega
            rw [List.drop_of_length_le (by omega)] at hgo
            unfold lcGo at hgo
            cases hgo
            rw [List.append_nil] at hys
            subst hys
            subst hi2
            exact .inl ⟨wk.stop g H gr.le wg.f, po D vals g H (grJ.trans gr) (grJ.h.free hD) hHD fD fd⟩
      · cases hm
theorem l_lc {it : Ar} {g1 : Tg} {tt : Te} {te : Ex} {ks : List Nat} (hc : X.calm = true) (hN : X.N.Nodup) (hi : SimI X W tg iter it) (ok : BlkOk X.N X.env.scope scope own) (hk : ∀ k ∈ ks, k ∈ own.map (·.2))
    (hg : ∀ (s : Shared) (H : Hp) (C : Addr) (cl : List (Str × Addr)) (fp : List Addr), SimG (X.blk s H scope (compEnvC scope cl C X.env) fp) tg ks g1) (ht : ∀ (s : Shared) (H : Hp) (C : Addr) (cl : List (Str × Addr)) (fp : List Addr), SimTs (X.blk s H scope (compEnvC scope cl C X.env) fp) WX0 ifs tt)
    (he : ∀ (s : Shared) (H : Hp) (C : Addr) (cl : List (Str × Addr)) (fp : List Addr), SimE (X.blk s H scope (compEnvC scope cl C X.env) fp) WX0 elt te) (hs : ∀ x, foldedSetIterable iter X.env x = pure x := by intro _; rfl) :
    SimL X W (.ListComp elt [⟨tg, iter, ifs, 0⟩] scope pos) (lLc it g1 tt te (own.map (·.2))) := by
  obtain ⟨wi, pi, ri⟩ := hi.ex
  exact ⟨_, pe_lc hc hN pi ok (fun s H C cl fp => (hg s H C cl fp).c) (fun s H C cl fp => (ht s H C cl fp).ex) (fun s H C cl fp => (he s H C cl fp).c) hs, rch_lc hk ri⟩
end
end L3

end
section
set_option Elab.async false
set_option linter.all false
set_option maxRecDepth 100000
set_option maxHeartbeats 4000000
namespace L3
open PySem PySem.Spec L2
set_option autoImplicit false

/-! ### the mode in which the store may be changed -/
theorem FRf.ov {K : PySem.W.Frag} {g : G} {H : Hp} : ∀ {x : List (Str × PV)} {v : List (Str × V)}, FRf K g x v → OVf K g H x v
  | _, _, .nil => .nil
  | _, _, .cons a b => .cons (.frz a) (FRf.ov b)
theorem FRk.ov {K : PySem.W.Frag} {g : G} {H : Hp} : ∀ {x : List (Key × PV)} {v : List (Key × V)}, FRk K g x v → OVk K g H x v
  | [], _, q => by cases q; exact .nil
  | (k, x) :: xs, _, q => by cases q with | cons a b => exact .cons (.frz a) (FRk.ov b)
/-- an object of the store as it stands -/
def SOw (K : PySem.W.Frag) (g : G) (H : Hp) (a : Addr) : SO → Prop
  | .ins c fs => ∃ dx vs, H a = some (.ins (He.ga K c) dx vs) ∧ FRf K g fs vs
  | .lst xs => ∃ vs, H a = some (.lst vs) ∧ FRs K g xs vs
  | .dct kvs => ∃ vs, H a = some (.dK vs) ∧ FRk K g kvs vs
theorem SOw.r {K : PySem.W.Frag} {g : G} {H : Hp} {a : Addr} : ∀ {o : SO}, SOw K g H a o → SOr K g H a o
  | .ins c fs, ⟨dx, vs, e, f⟩ => ⟨dx, vs, e, f.ov⟩
  | .lst xs, ⟨vs, e, f⟩ => ⟨vs, .inl e, f⟩
  | .dct xs, ⟨vs, e, f⟩ => ⟨vs, .inl e, f.ov⟩
theorem SOw.mono {K : PySem.W.Frag} {g g' : G} {H H' : Hp} {a : Addr} (h : GLe g g') (hh : ∀ o, H a = some o → H' a = some o) : ∀ {o : SO}, SOw K g H a o → SOw K g' H' a o
  | .ins c fs, ⟨dx, vs, e, f⟩ => ⟨dx, vs, hh _ e, FRf.mono h _ _ f⟩
  | .lst xs, ⟨vs, e, f⟩ => ⟨vs, hh _ e, FRs.mono h _ _ f⟩
  | .dct xs, ⟨vs, e, f⟩ => ⟨vs, hh _ e, FRk.mono h _ _ f⟩
theorem SOw.some {K : PySem.W.Frag} {g : G} {H : Hp} {a : Addr} : ∀ {o : SO}, SOw K g H a o → ∃ u, H a = some u ∧ Mut (some u)
  | .ins c fs, ⟨dx, vs, e, f⟩ => ⟨_, e, trivial⟩
  | .lst xs, ⟨vs, e, f⟩ => ⟨_, e, trivial⟩
  | .dct xs, ⟨vs, e, f⟩ => ⟨_, e, trivial⟩
structure RE (K : PySem.W.Frag) (g : G) (S : Store) (H : Hp) : Prop where
  f : RdLe g.F H
  k : S.length = g.k
  s : ∀ (n : Nat) (o : SO), S[n]? = some o → SOw K g H (g.mu n) o
  inj : ∀ n m, n < g.k → m < g.k → g.mu n = g.mu m → n = m
  nf : ∀ n, n < g.k → g.F (g.mu n) = none
structure TE' (g : G) (H : Hp) (g' : G) (H' : Hp) : Prop where
  le : GLe g g'
  dom : ∀ a, H' a = none → H a = none
  keep : ∀ a o, H a = some o → (∀ n, n < g.k → g.mu n ≠ a) → H' a = some o
  new : ∀ n, g.k ≤ n → n < g'.k → H (g'.mu n) = none
  fz : ∀ a, g'.F a ≠ none → g.F a ≠ none ∨ H a = none
theorem RE.wr {K : PySem.W.Frag} {g : G} {S : Store} {H : Hp} (r : RE K g S H) : WR K g S H := ⟨r.f, Nat.le_of_eq r.k, fun n o e => (r.s n o e).r⟩
theorem RE.at_ {K : PySem.W.Frag} {g : G} {S : Store} {H : Hp} (r : RE K g S H) {n : Nat} (h : n < g.k) : ∃ u, H (g.mu n) = some u ∧ Mut (some u) := by
  have : n < S.length := by rw [r.k]; exact h
  exact (r.s n S[n] (List.getElem?_eq_getElem this)).some
theorem TE'.own {g g' : G} {H H' : Hp} {a : Addr} {o : HO} (t : TE' g H g' H') (h : H a = some o) (hf : ∀ n, n < g.k → g.mu n ≠ a) : ∀ n, n < g'.k → g'.mu n ≠ a := fun n hn e => by
  by_cases hk : n < g.k
  · rw [t.le.m n hk] at e; exact hf n hk e
  · have := t.new n (by omega) hn
    rw [e, h] at this; cases this
def Em (K : PySem.W.Frag) : Md K where
  R := RE K
  T := fun g H _ g' H' _ => TE' g H g' H'
  fr := fun g a => ∀ n, n < g.k → g.mu n ≠ a
  wr := fun r => r.wr
  refl := fun {g S H} r => ⟨.refl _, fun _ h => h, fun _ _ h _ => h, fun n a b => by omega, fun _ h => .inl h⟩
  trans := fun {a b c H J L S S1 S2} x y => by
    refine ⟨x.le.trans y.le, fun p h => x.dom p (y.dom p h), fun p o h hf => y.keep p o (x.keep p o h hf) (x.own h hf), fun n h1 h2 => ?_, fun p h => ?_⟩
    · by_cases hk : n < b.k
      · rw [y.le.m n hk]; exact x.new n h1 hk
      · exact x.dom _ (y.new n (by omega) h2)
    · exact (y.fz p h).elim (x.fz p) fun q => .inr (x.dom p q)
  grow := fun {g g' S H H'} r x => by
    refine ⟨⟨x.f, by rw [x.k]; exact r.k, fun n o e => ?_, fun n m h1 h2 e => ?_, fun n h => ?_⟩, ⟨x.le, fun p h => x.h.free h, fun p o h _ => x.h _ _ h, fun n h1 h2 => ?_, x.n⟩⟩
    · rw [x.mu]; exact (r.s n o e).mono x.le fun o h => x.h _ _ h
    · rw [x.mu] at e; rw [x.k] at h1 h2; exact r.inj n m h1 h2 e
    · rw [x.k] at h
      rw [x.mu]
      obtain ⟨u, hu, _⟩ := r.at_ h
      exact x.none hu (r.nf n h)
    · rw [x.k] at h2; omega
  le := fun x => x.le
  free := fun x h => x.dom _ h
  own := fun {g g' H H' S S' a o} t h e hf => by
    refine ⟨t.keep a o h hf, ?_, t.own h hf⟩
    cases q : g'.F a with
    | none => rfl
    | some u =>
      rcases t.fz a (by rw [q]; simp) with z | z
      · exact absurd e z
      · rw [h] at z; cases z
  new := fun {g g' S H H' p} r x hp n hn e => by
    rw [x.k] at hn
    rw [x.mu] at e
    obtain ⟨u, hu, _⟩ := r.at_ hn
    rw [e, hp] at hu; cases hu
  put := fun {g0 g H0 H S0 S a u} o r0 t r h h0 e hf => by
    refine ⟨⟨fun b v q => ?_, r.k, fun n ob q => (r.s n ob q).mono (.refl _) fun o h => ?_, r.inj, r.nf⟩, ⟨t.le, fun p hp => ?_, fun p v hp hn => ?_, t.new, t.fz⟩⟩
    · have nb : b ≠ a := by
        rintro rfl
        rcases q with q | ⟨_, q⟩ <;> rw [e] at q <;> cases q
      rcases r.f b v q with q | ⟨ob, q⟩
      · exact .inl (by rw [upd_ne nb]; exact q)
      · exact .inr ⟨ob, by rw [upd_ne nb]; exact q⟩
    · rw [upd_ne]
      · exact h
      · refine hf n ?_
        rw [← r.k]; exact (List.getElem?_eq_some_iff.mp q).1
    · by_cases hb : p = a
      · subst hb; rw [upd_same] at hp; cases hp
      · rw [upd_ne hb] at hp; exact t.dom p hp
    · rw [upd_ne (ne_of_none hp h0)]; exact t.keep p v hp hn
  rest := fun {g0 g H0 H S0 S a o} t r h h0 e hf => by
    have le := GLe.laid (o := o) e
    refine ⟨⟨fun b v q => ?_, r.k, fun n ob q => (r.s n ob q).mono le fun _ h => h, r.inj, fun n hn => ?_⟩, ⟨t.le.trans le, t.dom, t.keep, t.new, fun b q => ?_⟩⟩
    · by_cases hb : b = a
      · subst hb
        rcases q with q | ⟨ob, q⟩
        · have q : upd g.F b o b = some v := q
          rw [upd_same] at q; cases q; exact .inl h
        · have q : upd g.F b o b = some (.frz ob v) := q
          rw [upd_same] at q; cases q; exact .inr ⟨ob, h⟩
      · rcases q with q | ⟨ob, q⟩
        · have q : upd g.F a o b = some v := q
          rw [upd_ne hb] at q; exact r.f _ _ (.inl q)
        · have q : upd g.F a o b = some (.frz ob v) := q
          rw [upd_ne hb] at q; exact r.f _ _ (.inr ⟨ob, q⟩)
    · show upd g.F a o (g.mu n) = none
      rw [upd_ne (hf n hn)]; exact r.nf n hn
    · by_cases hb : b = a
      · subst hb; exact .inr h0
      · have q : upd g.F a o b ≠ none := q
        rw [upd_ne hb] at q; exact t.fz b q

/-! ### an object of the store is changed; a new one is laid -/
theorem RE.store {K : PySem.W.Frag} {g : G} {S : Store} {H : Hp} (r : RE K g S H) {n : Nat} {o' : SO} {ho : HO} (hn : n < g.k) (new : SOw K g (upd H (g.mu n) ho) (g.mu n) o') :
    RE K g (S.set n o') (upd H (g.mu n) ho) ∧ TE' g H g (upd H (g.mu n) ho) := by
  refine ⟨⟨fun b v q => ?_, by rw [List.length_set]; exact r.k, fun m ob q => ?_, r.inj, r.nf⟩, ⟨.refl _, fun p hp => ?_, fun p v hp hf => ?_, fun m h1 h2 => by omega, fun p h => .inl h⟩⟩
  · have nb : b ≠ g.mu n := by
      rintro rfl
      have := r.nf n hn
      rcases q with q | ⟨_, q⟩ <;> rw [this] at q <;> cases q
    rcases r.f b v q with q | ⟨ob, q⟩
    · exact .inl (by rw [upd_ne nb]; exact q)
    · exact .inr ⟨ob, by rw [upd_ne nb]; exact q⟩
  · rcases get_set q with ⟨rfl, _, hy⟩ | ⟨ne, q⟩
    · subst hy; exact new
    · refine (r.s m ob q).mono (.refl _) fun o h => ?_
      have hm : m < g.k := by rw [← r.k]; exact (List.getElem?_eq_some_iff.mp q).1
      rw [upd_ne fun e => ne (r.inj m n hm hn e)]; exact h
  · by_cases hb : p = g.mu n
    · subst hb; rw [upd_same] at hp; cases hp
    · rw [upd_ne hb] at hp; exact hp
  · rw [upd_ne fun e => hf n hn e.symm]; exact hp
/-- the ghost with one object more -/
def G.add (g : G) (a : Addr) : G := { g with mu := fun n => if n = g.k then a else g.mu n, k := g.k + 1 }
theorem G.add_le (g : G) (a : Addr) : GLe g (g.add a) := ⟨Same.refl _, Nat.le_succ _, fun n hn => by show (if n = g.k then a else g.mu n) = g.mu n; rw [if_neg (by omega)]⟩
theorem G.add_mu (g : G) (a : Addr) : (g.add a).mu g.k = a := by show (if g.k = g.k then a else g.mu g.k) = a; rw [if_pos rfl]
theorem RE.laid {K : PySem.W.Frag} {g : G} {S : Store} {H H' : Hp} (r : RE K g S H) {a : Addr} {o : SO} (ha : H a = none) (hs : Same H H') (new : SOw K (g.add a) H' a o) :
    RE K (g.add a) (S ++ [o]) H' ∧ TE' g H (g.add a) H' ∧ FR K (g.add a) (.ref S.length) (.ref a) := by
  have le := g.add_le a
  have fa : g.F a = none := by
    cases e : g.F a with
    | none => rfl
    | some u => rcases r.f a u (.inl e) with q | ⟨_, q⟩ <;> rw [ha] at q <;> cases q
  have mu_old : ∀ n, n < g.k → (g.add a).mu n = g.mu n := le.m
  have ne_old : ∀ n, n < g.k → g.mu n ≠ a := fun n hn e => by
    obtain ⟨u, hu, _⟩ := r.at_ hn
    rw [e, ha] at hu; cases hu
  refine ⟨⟨r.f.trans (RdLe.of_same hs), by rw [List.length_append, List.length_singleton, r.k]; rfl, fun n ob q => ?_, fun n m h1 h2 e => ?_, fun n hn => ?_⟩, ⟨le, fun p h => hs.free h, fun p v h _ => hs _ _ h, fun n h1 h2 => ?_, fun p h => .inl h⟩, ?_⟩
  · by_cases hn : n < S.length
    · rw [List.getElem?_append_left hn] at q
      rw [mu_old n (by rw [← r.k]; exact hn)]
      exact (r.s n ob q).mono le fun o h => hs _ _ h
    · have hl : n < (S ++ [o]).length := (List.getElem?_eq_some_iff.mp q).1
      rw [List.length_append, List.length_singleton] at hl
      have e1 : n = S.length := by omega
      subst e1
      rw [List.getElem?_append_right (Nat.le_refl _), Nat.sub_self] at q
      cases q
      rw [r.k, G.add_mu]; exact new
  · have h1 : n < g.k + 1 := h1
    have h2 : m < g.k + 1 := h2
    by_cases e1 : n = g.k
    · by_cases e2 : m = g.k
      · rw [e1, e2]
      · rw [e1, G.add_mu, mu_old m (by omega)] at e
        exact absurd e.symm (ne_old m (by omega))
    · by_cases e2 : m = g.k
      · rw [e2, G.add_mu, mu_old n (by omega)] at e
        exact absurd e (ne_old n (by omega))
      · rw [mu_old n (by omega), mu_old m (by omega)] at e
        exact r.inj n m (by omega) (by omega) e
  · have hn : n < g.k + 1 := hn
    show g.F _ = none
    by_cases e1 : n = g.k
    · rw [e1, G.add_mu]; exact fa
    · rw [mu_old n (by omega)]; exact r.nf n (by omega)
  · have h2 : n < g.k + 1 := h2
    have e1 : n = g.k := by omega
    rw [e1, G.add_mu]; exact ha
  · have := FR.ref (K := K) (g := g.add a) (n := g.k) (Nat.lt_succ_self _)
    rw [G.add_mu] at this
    rw [r.k]; exact this
end L3

end
section
set_option Elab.async false
set_option linter.all false
set_option maxRecDepth 100000
set_option maxHeartbeats 4000000
namespace L3
open PySem PySem.Spec L2
set_option autoImplicit false

section
variable {X : Cx} {md : Md X.K} {W : WX} {a b c e o : Expr} {es rest : List Expr} {pos : Pos}
/-! ### expressions that may change the store -/
def xB (m : Xm) (k : PV → Env → Store → Option (Res PV × Store)) : Xm := fun ρ S => match m ρ S with
  | some (.ok x, S') => k x ρ S'
  | some (.ex c fs, S') => some (.ex c fs, S')
  | none => none
theorem PoX.trans {K : PySem.W.Frag} {md : Md K} {g g' : G} {H H' : Hp} {S S' : Store} {σ : St} {W : WX} {Q : VK} (t : md.T g H S g' H' S') : ∀ {r : Res PV × Store}, PoX md g H S σ W Q r → PoX md g' H' S' σ W Q r
  | (.ok _, _), po => fun v g2 H2 r2 t2 o2 => po v g2 H2 r2 (md.trans t t2) o2
  | (.ex _ _, _), po => fun cls d g2 H2 r2 t2 o2 => po cls d g2 H2 r2 (md.trans t t2) o2
theorem RchX.bind {t : TE} {m : Xm} (h : RchX md W t m) {k : PV → Env → Store → Option (Res PV × Store)} {tk : V → TE}
    (hk : ∀ (x : PV) (v : V) (σ : St) (H : Hp) (g : G) (S : Store) (ρ : Env) (Q : VK) (r : Res PV × Store), md.R g S H → EnvF md g H σ ρ → OV X.K g H x v → k x ρ S = some r → PoX md g H S σ W Q r → tk v σ H Q) :
    RchX md W (fun σ H Q => t σ H fun x H1 => tk x σ H1 Q) (xB m k) := by
  intro σ H g S ρ Q r rr er hm po
  unfold xB at hm
  split at hm
  · rename_i x S' q
    exact h σ H g S ρ _ (.ok x, S') rr er q fun v g' H' r1 t1 ov => hk x v σ H' g' S' ρ Q r r1 (er.step t1) ov hm (po.trans t1)
  · rename_i c fs S' q
    cases hm
    exact h σ H g S ρ _ (.ex c fs, S') rr er q po
  · cases hm
/-- two values, the first one at rest -/
def xOpX (op : PV → PV → Option PV) (ma mb' : Xm) : Xm := xB ma fun x ρ S => if fz x then (match mb' ρ S with
  | some (.ok y, S') => (op x y).map fun z => (.ok z, S')
  | some (.ex c fs, S') => some (.ex c fs, S')
  | none => none) else none
theorem rchx_op {r : R2} {op : PV → PV → Option PV} {ta tb : TE} {ma mb' : Xm} (hk : OpOk X.K op r) (ha : RchX md W ta ma) (hb : RchX md W tb mb') : RchX md W (tOp r ta tb) (xOpX op ma mb') := by
  refine RchX.bind (tk := fun x σ H1 Q => tb σ H1 fun y H2 => r x y H2 Q) ha fun x u σ H g S ρ Q res rr er hx hm po => ?_
  split at hm
  · rename_i hf
    have fx := hx.fr hf
    split at hm
    · rename_i y S' q
      refine hb σ H g S ρ _ (.ok y, S') rr er q fun v g' H' r1 t1 hy => ?_
      cases z : op x y with
      | none => rw [z] at hm; cases hm
      | some zz =>
        rw [z] at hm
        have e2 : res = (.ok zz, S') := (Option.some.inj hm).symm
        subst e2
        refine hk g' S' H' x y zz u v Q (md.wr r1) (.frz (FR.mono (md.le t1) _ _ fx)) hy z fun w2 g2 H2 gr2 o2 => ?_
        obtain ⟨r2, t2⟩ := md.grow r1 gr2
        exact po w2 g2 H2 r2 (md.trans t1 t2) o2
    · rename_i c fs S' q
      cases hm
      exact hb σ H g S ρ _ (.ex c fs, S') rr er q po
    · cases hm
  · cases hm
theorem x_op {o : Operator} {r : R2} {op : PV → PV → Option PV} {ma mb' : Xm} (ho : OpR X (binaryOp o) r) (hk : OpOk X.K op r) (ha : SimX X md W a ma) (hb : SimX X md W b mb') : SimX X md W (.BinOp a o b pos) (xOpX op ma mb') := by
  obtain ⟨ta, pa, ra⟩ := ha.ex
  obtain ⟨tb, pb, rb⟩ := hb.ex
  exact ⟨_, pe_op ho pa pb, rchx_op hk ra rb⟩
theorem x_cmp {o : CmpOp} {r : R2} {op : PV → PV → Option PV} {ma mb' : Xm} (ho : OpR X (compareOp o) r) (hk : OpOk X.K op r) (ha : SimX X md W a ma) (hb : SimX X md W b mb') (hm : behindInMarks o b = false) : SimX X md W (.Compare a [o] [b] pos) (xOpX op ma mb') := by
  obtain ⟨ta, pa, ra⟩ := ha.ex
  obtain ⟨tb, pb, rb⟩ := hb.ex
  exact ⟨_, pe_cmpR ho pa pb hm, rchx_op hk ra rb⟩
theorem x_ix {r : R2} {op : PV → PV → Option PV} {ma mb' : Xm} (hr : IxR X r) (hk : OpOk X.K op r) (ha : SimX X md W a ma) (hb : SimX X md W b mb') (hs : PlainIx b := by intro _ _; rfl) : SimX X md W (.Subscript a b pos) (xOpX op ma mb') := by
  obtain ⟨ta, pa, ra⟩ := ha.ex
  obtain ⟨tb, pb, rb⟩ := hb.ex
  exact ⟨_, pe_ix hr pa pb hs, rchx_op hk ra rb⟩
/-- tests -/
def bTX (m : Xm) : Tm := fun ρ S => match m ρ S with
  | some (.ok (.bl k), S') => some (.ok k, S')
  | some (.ex c fs, S') => some (.ex c fs, S')
  | _ => none
theorem rchx_bT {t : TE} {m : Xm} (h : RchX md W t m) : RchT md W (fun σ H Q => t σ H fun x H1 => ∃ c, x = .bl c ∧ Q c H1) (bTX m) := by
  intro σ H g S ρ Q r rr er hm po
  unfold bTX at hm
  split at hm
  · rename_i k S' q
    cases hm
    refine h σ H g S ρ _ (.ok (.bl k), S') rr er q fun v g' H' r1 t1 ov => ?_
    cases ov.fr rfl
    exact ⟨k, rfl, po g' H' r1 t1⟩
  · rename_i c fs S' q
    cases hm
    exact h σ H g S ρ _ (.ex c fs, S') rr er q po
  · cases hm
theorem tx_cmp {o : CmpOp} {r : R2} {op : PV → PV → Option PV} {ma mb' : Xm} (ho : OpR X (compareOp o) r) (hk : OpOk X.K op r) (ha : SimX X md W a ma) (hb : SimX X md W b mb') (hm : behindInMarks o b = false) : SimTX X md W (.Compare a [o] [b] pos) (bTX (xOpX op ma mb')) := by
  obtain ⟨ta, pa, ra⟩ := ha.ex
  obtain ⟨tb, pb, rb⟩ := hb.ex
  exact ⟨_, pt_cmpR ho pa pb hm, rchx_bT (rchx_op hk ra rb)⟩
theorem tx_val {m : Xm} (h : SimX X md W e m) (he : ∀ whole, isTrue e X.env whole = (do let v ← whole; standAt e.pos; holding [v] (truthy v)) := by intro _; rfl) : SimTX X md W e (bTX m) := by
  obtain ⟨t, p, r⟩ := h.ex
  exact ⟨_, pt_val p he, rchx_bT r⟩
structure SimWX (X : Cx) (md : Md X.K) (W : WX) (e : Expr) (m : Tm) : Prop where
  ex : ∃ t : TT, PW X e t ∧ RchT md W t m
def yAndX (m n : Tm) : Tm := fun ρ S => match m ρ S with
  | some (.ok true, S') => n ρ S'
  | r => r
def yOrX (m n : Tm) : Tm := fun ρ S => match m ρ S with
  | some (.ok false, S') => n ρ S'
  | r => r
def yNotX (m : Tm) : Tm := fun ρ S => match m ρ S with
  | some (.ok k, S') => some (.ok (!k), S')
  | r => r
theorem PoT.trans {K : PySem.W.Frag} {md : Md K} {g g' : G} {H H' : Hp} {S S' : Store} {σ : St} {W : WX} {Q : Bool → Hp → Prop} (t : md.T g H S g' H' S') : ∀ {r : Res Bool × Store}, PoT md g H S σ W Q r → PoT md g' H' S' σ W Q r
  | (.ok _, _), po => fun g2 H2 r2 t2 => po g2 H2 r2 (md.trans t t2)
  | (.ex _ _, _), po => fun cls d g2 H2 r2 t2 o2 => po cls d g2 H2 r2 (md.trans t t2) o2
theorem wx_and1 {m : Tm} (h : SimTX X md W a m) : SimWX X md W (.BoolOp .And [a] pos) m := by
  obtain ⟨t, p, r⟩ := h.ex
  exact ⟨_, pw_and1 p, r⟩
theorem wx_or1 {m : Tm} (h : SimTX X md W a m) : SimWX X md W (.BoolOp .Or [a] pos) m := by
  obtain ⟨t, p, r⟩ := h.ex
  exact ⟨_, pw_or1 p, r⟩
theorem wx_and {m n : Tm} (h : SimTX X md W a m) (h' : SimWX X md W (.BoolOp .And (b :: rest) pos) n) : SimWX X md W (.BoolOp .And (a :: b :: rest) pos) (yAndX m n) := by
  obtain ⟨t, p, r⟩ := h.ex
  obtain ⟨t', p', r'⟩ := h'.ex
  refine ⟨_, pw_and p p', fun σ H g S ρ Q res rr er hm po => ?_⟩
  unfold yAndX at hm
  split at hm
  · rename_i S' q
    refine r σ H g S ρ _ (.ok true, S') rr er q fun g' H' r1 t1 => ?_
    rw [if_pos rfl]
    exact r' σ H' g' S' ρ Q res r1 (er.step t1) hm (po.trans t1)
  · rename_i nq
    refine r σ H g S ρ _ res rr er hm ?_
    obtain ⟨res1, S1⟩ := res
    cases res1 with
    | ok k =>
      cases k with
      | true => exact absurd hm (nq S1)
      | false => exact fun g' H' r1 t1 => iteF (po g' H' r1 t1)
    | ex c fs => exact po
theorem wx_or {m n : Tm} (h : SimTX X md W a m) (h' : SimWX X md W (.BoolOp .Or (b :: rest) pos) n) : SimWX X md W (.BoolOp .Or (a :: b :: rest) pos) (yOrX m n) := by
  obtain ⟨t, p, r⟩ := h.ex
  obtain ⟨t', p', r'⟩ := h'.ex
  refine ⟨_, pw_or p p', fun σ H g S ρ Q res rr er hm po => ?_⟩
  unfold yOrX at hm
  split at hm
  · rename_i S' q
    refine r σ H g S ρ _ (.ok false, S') rr er q fun g' H' r1 t1 => ?_
    rw [if_neg Bool.false_ne_true]
    exact r' σ H' g' S' ρ Q res r1 (er.step t1) hm (po.trans t1)
  · rename_i nq
    refine r σ H g S ρ _ res rr er hm ?_
    obtain ⟨res1, S1⟩ := res
    cases res1 with
    | ok k =>
      cases k with
      | false => exact absurd hm (nq S1)
      | true => exact fun g' H' r1 t1 => iteT (po g' H' r1 t1)
    | ex c fs => exact po
theorem tx_w {m : Tm} (h : SimWX X md W e m) : SimTX X md W e m := by
  obtain ⟨t, p, r⟩ := h.ex
  exact ⟨_, p.pt, r⟩
theorem tx_not {m : Tm} (h : SimTX X md W a m) : SimTX X md W (.UnaryOp .Not a pos) (yNotX m) := by
  obtain ⟨t, p, r⟩ := h.ex
  refine ⟨_, pt_not p, fun σ H g S ρ Q res rr er hm po => ?_⟩
  unfold yNotX at hm
  split at hm
  · rename_i k S' q
    cases hm
    exact r σ H g S ρ _ (.ok k, S') rr er q fun g' H' r1 t1 => po g' H' r1 t1
  · rename_i nq
    refine r σ H g S ρ _ res rr er hm ?_
    obtain ⟨res1, S1⟩ := res
    cases res1 with
    | ok k => exact absurd hm (nq k S1)
    | ex c fs => exact po
/-- as values -/
def xAndX (m n : Xm) : Xm := fun ρ S => match m ρ S with
  | some (.ok (.bl true), S') => n ρ S'
  | some (.ok (.bl false), S') => some (.ok (.bl false), S')
  | some (.ex c fs, S') => some (.ex c fs, S')
  | _ => none
def xOrX (m n : Xm) : Xm := fun ρ S => match m ρ S with
  | some (.ok (.bl false), S') => n ρ S'
  | some (.ok (.bl true), S') => some (.ok (.bl true), S')
  | some (.ex c fs, S') => some (.ex c fs, S')
  | _ => none
theorem x_one {o : BoolOp} {m : Xm} (h : SimX X md W a m) : SimX X md W (.BoolOp o [a] pos) m := by
  obtain ⟨t, p, r⟩ := h.ex
  exact ⟨_, pe_one p, r⟩
theorem x_and {m n : Xm} (h : SimX X md W a m) (h' : SimX X md W (.BoolOp .And (b :: rest) pos) n) : SimX X md W (.BoolOp .And (a :: b :: rest) pos) (xAndX m n) := by
  obtain ⟨t, p, r⟩ := h.ex
  obtain ⟨t', p', r'⟩ := h'.ex
  refine ⟨_, pe_and p p', fun σ H g S ρ Q res rr er hm po => ?_⟩
  unfold xAndX at hm
  split at hm
  · rename_i S' q
    refine r σ H g S ρ _ (.ok (.bl true), S') rr er q fun v g' H' r1 t1 ov => ?_
    cases ov.fr rfl
    exact ⟨true, rfl, by rw [if_pos rfl]; exact r' σ H' g' S' ρ Q res r1 (er.step t1) hm (po.trans t1)⟩
  · rename_i S' q
    cases hm
    refine r σ H g S ρ _ (.ok (.bl false), S') rr er q fun v g' H' r1 t1 ov => ?_
    cases ov.fr rfl
    exact ⟨false, rfl, by rw [if_neg Bool.false_ne_true]; exact po _ g' H' r1 t1 (.frz (.bl _))⟩
  · rename_i c fs S' q
    cases hm
    exact r σ H g S ρ _ (.ex c fs, S') rr er q po
  · cases hm
theorem x_or {m n : Xm} (h : SimX X md W a m) (h' : SimX X md W (.BoolOp .Or (b :: rest) pos) n) : SimX X md W (.BoolOp .Or (a :: b :: rest) pos) (xOrX m n) := by
  obtain ⟨t, p, r⟩ := h.ex
  obtain ⟨t', p', r'⟩ := h'.ex
  refine ⟨_, pe_or p p', fun σ H g S ρ Q res rr er hm po => ?_⟩
  unfold xOrX at hm
  split at hm
  · rename_i S' q
    refine r σ H g S ρ _ (.ok (.bl false), S') rr er q fun v g' H' r1 t1 ov => ?_
    cases ov.fr rfl
    exact ⟨false, rfl, by rw [if_neg Bool.false_ne_true]; exact r' σ H' g' S' ρ Q res r1 (er.step t1) hm (po.trans t1)⟩
  · rename_i S' q
    cases hm
    refine r σ H g S ρ _ (.ok (.bl true), S') rr er q fun v g' H' r1 t1 ov => ?_
    cases ov.fr rfl
    exact ⟨true, rfl, by rw [if_pos rfl]; exact po _ g' H' r1 t1 (.frz (.bl _))⟩
  · rename_i c fs S' q
    cases hm
    exact r σ H g S ρ _ (.ex c fs, S') rr er q po
  · cases hm
def xIfX (c : Tm) (m n : Xm) : Xm := fun ρ S => match c ρ S with
  | some (.ok true, S') => m ρ S'
  | some (.ok false, S') => n ρ S'
  | some (.ex c fs, S') => some (.ex c fs, S')
  | none => none
theorem x_if {k : Tm} {m n : Xm} (hc : SimTX X md W c k) (h : SimX X md W a m) (h' : SimX X md W b n) : SimX X md W (.IfExp c a b pos) (xIfX k m n) := by
  obtain ⟨tc, pc, rc⟩ := hc.ex
  obtain ⟨t, p, r⟩ := h.ex
  obtain ⟨t', p', r'⟩ := h'.ex
  refine ⟨_, pe_ifExp pc p p', fun σ H g S ρ Q res rr er hm po => ?_⟩
  unfold xIfX at hm
  split at hm
  · rename_i S' q
    refine rc σ H g S ρ _ (.ok true, S') rr er q fun g' H' r1 t1 => ?_
    rw [if_pos rfl]
    exact r σ H' g' S' ρ Q res r1 (er.step t1) hm (po.trans t1)
  · rename_i S' q
    refine rc σ H g S ρ _ (.ok false, S') rr er q fun g' H' r1 t1 => ?_
    rw [if_neg Bool.false_ne_true]
    exact r' σ H' g' S' ρ Q res r1 (er.step t1) hm (po.trans t1)
  · rename_i c fs S' q
    cases hm
    exact rc σ H g S ρ _ (.ex c fs, S') rr er q po
  · cases hm

/-! ### arguments -/
abbrev Xa := Env → Store → Option (Res (List PV) × Store)
def PoA {K : PySem.W.Frag} (md : Md K) (g : G) (H : Hp) (S : Store) (σ : St) (W : WX) (Q : List V → Hp → Prop) : Res (List PV) × Store → Prop
  | (.ok r, S') => ∀ v g' H', md.R g' S' H' → md.T g H S g' H' S' → FRs K g' r v → Q v H'
  | (.ex c fs, S') => ∀ cls d g' H', md.R g' S' H' → md.T g H S g' H' S' → XR K g' H' c fs cls d → W cls d σ H'
def RchA {K : PySem.W.Frag} (md : Md K) (W : WX) (t : TA) (m : Xa) : Prop :=
  ∀ (σ : St) (H : Hp) (g : G) (S : Store) (ρ : Env) (Q : List V → Hp → Prop) (r : Res (List PV) × Store), md.R g S H → EnvF md g H σ ρ → m ρ S = some r → PoA md g H S σ W Q r → t σ H Q
structure SimXA (X : Cx) (md : Md X.K) (W : WX) (es : List Expr) (m : Xa) : Prop where
  ex : ∃ t : TA, PA X es t ∧ RchA md W t m
def aP (m : Ar) : Xa := fun ρ S => match m ρ S with
  | some (.ok xs) => if xs.all fz then some (.ok xs, S) else none
  | some (.ex c fs) => some (.ex c fs, S)
  | none => none
theorem rcha_p {t : TA} {m : Ar} (h : Rch X.K (RL X.K) W t m) : RchA md W t (aP m) := by
  intro σ H g S ρ Q r rr er hm po
  unfold aP at hm
  split at hm
  · rename_i xs q
    split at hm
    · rename_i hf
      cases hm
      refine h σ H g S ρ _ (.ok xs) (md.wr rr) er.r q fun v g' H' gr ov => ?_
      obtain ⟨r1, t1⟩ := md.grow rr gr
      exact po v g' H' r1 t1 (OVs.frs ov hf)
    · cases hm
  · rename_i c fs q
    cases hm
    refine h σ H g S ρ _ (.ex c fs) (md.wr rr) er.r q fun cls d g' H' gr ov => ?_
    obtain ⟨r1, t1⟩ := md.grow rr gr
    exact po cls d g' H' r1 t1 ov
  · cases hm
theorem xa_p {m : Ar} (h : SimA X W es m) : SimXA X md W es (aP m) := by
  obtain ⟨t, p, r⟩ := h.ex
  exact ⟨t, p, rcha_p r⟩
def aXNil : Xa := fun _ S => some (.ok [], S)
theorem xa_nil : SimXA X md W [] aXNil := ⟨_, pa_nil, fun σ H g S ρ Q r rr er hm po => by cases hm; exact po [] g H rr (md.refl rr) .nil⟩
def aXCons (m : Xm) (n : Xa) : Xa := fun ρ S => match m ρ S with
  | some (.ok x, S1) => if fz x then (match n ρ S1 with
    | some (.ok xs, S2) => some (.ok (x :: xs), S2)
    | r => r) else none
  | some (.ex c fs, S1) => some (.ex c fs, S1)
  | none => none
theorem xa_cons {m : Xm} {n : Xa} (h : SimX X md W e m) (k : SimXA X md W es n) (hs : starEach (e :: es) X.env = (false, eval e X.env) :: starEach es X.env := by rfl) : SimXA X md W (e :: es) (aXCons m n) := by
  obtain ⟨t, p, r⟩ := h.ex
  obtain ⟨t', p', r'⟩ := k.ex
  refine ⟨_, pa_cons p p' hs, fun σ H g S ρ Q res rr er hm po => ?_⟩
  unfold aXCons at hm
  split at hm
  · rename_i x S1 q
    split at hm
    · rename_i hf
      refine r σ H g S ρ _ (.ok x, S1) rr er q fun v g1 H1 r1 t1 ov => ?_
      split at hm
      · rename_i xs S2 q2
        cases hm
        exact r' σ H1 g1 S1 ρ _ (.ok xs, S2) r1 (er.step t1) q2 fun vs g2 H2 r2 t2 fs => po _ g2 H2 r2 (md.trans t1 t2) (.cons (FR.mono (md.le t2) _ _ (ov.fr hf)) fs)
      · rename_i nq
        obtain ⟨res1, S2⟩ := res
        refine r' σ H1 g1 S1 ρ _ (res1, S2) r1 (er.step t1) hm ?_
        cases res1 with
        | ok xs => exact absurd hm (nq xs S2)
        | ex c fs => exact fun cls d g2 H2 r2 t2 xr => po cls d g2 H2 r2 (md.trans t1 t2) xr
    · cases hm
  · rename_i c fs S1 q
    cases hm
    exact r σ H g S ρ _ (.ex c fs, S1) rr er q po
  · cases hm
/-- f(..) -/
def xFnX (m : Fm) (n : Nat) (a : Xa) : Xm := fun ρ S => match a ρ S with
  | some (.ok xs, S') => if xs.length == n then m xs S' else none
  | some (.ex c fs, S') => some (.ex c fs, S')
  | none => none
theorem rchx_fn {t : TA} {a : Xa} {n : Nat} {m : Fm} (ra : RchA md W t a) : RchX md W (tCallS (spM md n m) (WE W) t) (xFnX m n a) := by
  intro σ H g S ρ Q res rr er hm po
  unfold xFnX at hm
  split at hm
  · rename_i xs S' q
    split at hm
    · rename_i hl
      refine ra σ H g S ρ _ (.ok xs, S') rr er q fun vs g1 H1 r1 t1 fs => ?_
      refine ⟨g1, S', xs, res, r1, fs, eq_of_beq hl, hm, ?_⟩
      obtain ⟨res1, S2⟩ := res
      cases res1 with
      | ok y => exact fun v g' H' r2 t2 f2 => po v g' H' r2 (md.trans t1 t2) (.frz f2)
      | ex c fs => exact fun cls d g' H' r2 t2 x2 => po cls d g' H' r2 (md.trans t1 t2) x2
    · cases hm
  · rename_i c fs S' q
    cases hm
    exact ra σ H g S ρ _ (.ex c fs, S') rr er q po
  · cases hm
theorem x_fn {x : Str} {p : Pos} {j n : Nat} {m : Fm} {a : Xa} (F : Fn X md j x n m) (hr : Room j X.A) (tk : Takes X W) (hg : Gl X x) (ha : SimXA X md W (e :: es) a) (hdb : (x == ("__debug__" : Str)) = false := by decide)
    (he : starEach (e :: es) X.env = (false, eval e X.env) :: starEach es X.env := by rfl) (hpl : (backTo pos (starEach es X.env)).any (·.1) = false := by rfl) : SimX X md W (.Call (.Name x p) (e :: es) [] pos) (xFnX m n a) := by
  obtain ⟨k, f, fd, ps, hk, F, hm, kp, hb⟩ := F.ex
  obtain ⟨t, pa, ra⟩ := ha.ex
  exact ⟨_, pe_callS F (hr.mono hk) hg hm kp hb (fun σ => passAt tk σ) pa hdb he hpl, rchx_fn ra⟩
theorem x_fn0 {x : Str} {p : Pos} {j n : Nat} {m : Fm} (F : Fn X md j x n m) (hr : Room j X.A) (tk : Takes X W) (hg : Gl X x) (hdb : (x == ("__debug__" : Str)) = false := by decide) : SimX X md W (.Call (.Name x p) [] [] pos) (xFnX m n aXNil) := by
  obtain ⟨k, f, fd, ps, hk, F, hm, kp, hb⟩ := F.ex
  exact ⟨_, call0S F (hr.mono hk) hg hm kp hb (fun σ => passAt tk σ) hdb, rchx_fn (fun σ H g S ρ Q r rr er hm po => by cases hm; exact po [] g H rr (md.refl rr) .nil)⟩
/-- displays -/
def xTupX (m : Xa) : Xm := fun ρ S => match m ρ S with
  | some (.ok xs, S') => if decide (xs.length ≤ most) then some (.ok (.tup xs), S') else none
  | some (.ex c fs, S') => some (.ex c fs, S')
  | none => none
theorem x_tup {x1 : Nat} {m : Xa} (h : SimXA X md W es m) : SimX X md W (.Tuple es x1 pos) (xTupX m) := by
  obtain ⟨t, p, r⟩ := h.ex
  refine ⟨_, pe_tup p, fun σ H g S ρ Q res rr er hm po => ?_⟩
  unfold xTupX at hm
  split at hm
  · rename_i xs S' q
    split at hm
    · rename_i hl
      cases hm
      refine r σ H g S ρ _ (.ok xs, S') rr er q fun vs g1 H1 r1 t1 fr => ⟨by rw [← fr.length]; exact Nat.le_trans (of_decide_eq_true hl) most_le, fun q hq => ?_⟩
      obtain ⟨gr, f2⟩ := new_tup (md.wr r1) hq fr
      obtain ⟨r2, t2⟩ := md.grow r1 gr
      exact po _ _ _ r2 (md.trans t1 t2) (.frz f2)
    · cases hm
  · rename_i c fs S' q
    cases hm
    exact r σ H g S ρ _ (.ex c fs, S') rr er q po
  · cases hm
def xLstX (m : Xa) : Xm := fun ρ S => match m ρ S with
  | some (.ok xs, S') => if decide (xs.length ≤ most) then some (.ok (.lst xs), S') else none
  | some (.ex c fs, S') => some (.ex c fs, S')
  | none => none
theorem x_lst {m : Xa} (h : SimXA X md W es m) : SimX X md W (.List es pos) (xLstX m) := by
  obtain ⟨t, p, r⟩ := h.ex
  refine ⟨_, pe_lst p, fun σ H g S ρ Q res rr er hm po => ?_⟩
  unfold xLstX at hm
  split at hm
  · rename_i xs S' q
    split at hm
    · rename_i hl
      cases hm
      refine r σ H g S ρ _ (.ok xs, S') rr er q fun vs g1 H1 r1 t1 fr => ⟨by rw [← fr.length]; exact Nat.le_trans (of_decide_eq_true hl) most_le, fun q hq => ?_⟩
      obtain ⟨gr, f2⟩ := new_lst (md.wr r1) hq fr
      obtain ⟨r2, t2⟩ := md.grow r1 gr
      exact po _ _ _ r2 (md.trans t1 t2) (.frz f2)
    · cases hm
  · rename_i c fs S' q
    cases hm
    exact r σ H g S ρ _ (.ex c fs, S') rr er q po
  · cases hm
/-- built-ins of values that were made by effects -/
def xCallX (op : List PV → Option PV) (m : Xa) : Xm := fun ρ S => match m ρ S with
  | some (.ok xs, S') => (op xs).map fun z => (.ok z, S')
  | some (.ex c fs, S') => some (.ex c fs, S')
  | none => none
theorem rchx_call {r : List V → Hp → VK → Prop} {op : List PV → Option PV} {t : TA} {m : Xa} (hk : CallOk X.K op r) (h : RchA md W t m) : RchX md W (tCB r t) (xCallX op m) := by
  intro σ H g S ρ Q res rr er hm po
  unfold xCallX at hm
  split at hm
  · rename_i xs S' q
    cases z : op xs with
    | none => rw [z] at hm; cases hm
    | some zz =>
      rw [z] at hm
      have e2 : res = (.ok zz, S') := (Option.some.inj hm).symm
      subst e2
      refine h σ H g S ρ _ (.ok xs, S') rr er q fun vs g1 H1 r1 t1 fr => ?_
      refine hk g1 S' H1 xs zz vs Q (md.wr r1) fr.ovs z fun w2 g2 H2 gr2 o2 => ?_
      obtain ⟨r2, t2⟩ := md.grow r1 gr2
      exact po w2 g2 H2 r2 (md.trans t1 t2) o2
  · rename_i c fs S' q
    cases hm
    exact h σ H g S ρ _ (.ex c fs, S') rr er q po
  · cases hm
theorem x_callB {x : Str} {p : Pos} {id : String} {r : List V → Hp → VK → Prop} {op : List PV → Option PV} {m : Xa} (hc : CallR X (.builtin id) r) (hk : CallOk X.K op r) (hg : Gl X x) (hm : X.mg x = none) (hv : bootBuiltins x = some (.builtin id)) (ha : SimXA X md W (e :: es) m)
    (hn : x ≠ "__name__" := by decide) (hdb : (x == ("__debug__" : Str)) = false := by decide)
    (he : starEach (e :: es) X.env = (false, eval e X.env) :: starEach es X.env := by rfl) (hpl : (backTo pos (starEach es X.env)).any (·.1) = false := by rfl) : SimX X md W (.Call (.Name x p) (e :: es) [] pos) (xCallX op m) := by
  obtain ⟨t, pp, rr⟩ := ha.ex
  exact ⟨_, pe_callB hc hg hm hv pp hn hdb he hpl, rchx_call hk rr⟩
theorem x_callTy {x : Str} {p : Pos} {T : String} {r : List V → Hp → VK → Prop} {op : List PV → Option PV} {m : Xa} (hc : CallR X (.type T) r) (hk : CallOk X.K op r) (hg : Gl X x) (hm : X.mg x = none) (hv : bootBuiltins x = some (.type T)) (ha : SimXA X md W (e :: es) m)
    (hn : x ≠ "__name__" := by decide) (hdb : (x == ("__debug__" : Str)) = false := by decide)
    (he : starEach (e :: es) X.env = (false, eval e X.env) :: starEach es X.env := by rfl) (hpl : (backTo pos (starEach es X.env)).any (·.1) = false := by rfl) : SimX X md W (.Call (.Name x p) (e :: es) [] pos) (xCallX op m) := by
  obtain ⟨t, pp, rr⟩ := ha.ex
  exact ⟨_, pe_callTy hc hg hm hv pp hn hdb he hpl, rchx_call hk rr⟩
end
end L3

end
section
set_option Elab.async false
set_option linter.all false
set_option maxRecDepth 100000
set_option maxHeartbeats 4000000
namespace L3
open PySem PySem.Spec L2
set_option autoImplicit false
section
variable {X : Cx} {md : Md X.K} {W : WX} {a b c e o : Expr} {es rest : List Expr} {pos : Pos}

/-! ### an object of the store seen as what it holds now -/
def view (S : Store) : PV → PV
  | .ref n => (match S[n]? with
    | some (.lst xs) => .ol xs
    | some (.dct kvs) => .od kvs
    | _ => .ref n)
  | x => x
theorem view_ok {K : PySem.W.Frag} {g : G} {S : Store} {H : Hp} {x : PV} {v : V} (w : WR K g S H) (h : OV K g H x v) : OV K g H (view S x) v := by
  cases x with
  | ref n =>
    show OV K g H (match S[n]? with
      | some (.lst xs) => .ol xs
      | some (.dct kvs) => .od kvs
      | _ => .ref n) v
    cases q : S[n]? with
    | none => exact h
    | some o =>
      cases o with
      | ins c fs => exact h
      | lst xs =>
        cases h.fr rfl with
        | ref hn =>
          obtain ⟨vs, r, f⟩ := w.s n _ q
          exact .ol r f
      | dct xs =>
        cases h.fr rfl with
        | ref hn =>
          obtain ⟨vs, r, f⟩ := w.s n _ q
          exact .od r f
  | _ => exact h
def xView (m : Ex) : Ex := fun ρ S => mb (m ρ S) fun x => some (.ok (view S x))
theorem e_view {m : Ex} (h : SimE X W e m) : SimE X W e (xView m) := by
  obtain ⟨t, p, r⟩ := h.ex
  refine ⟨t, p, fun σ H g S ρ Q res w er hm po => ?_⟩
  unfold xView at hm
  cases q : m ρ S with
  | none => rw [q] at hm; cases hm
  | some z =>
    rw [q] at hm
    cases z with
    | ex c fs =>
      have e2 : res = .ex c fs := (Option.some.inj hm).symm
      subst e2
      exact r σ H g S ρ _ (.ex c fs) w er q po
    | ok x =>
      have e2 : res = .ok (view S x) := (Option.some.inj hm).symm
      subst e2
      exact r σ H g S ρ _ (.ok x) w er q fun v g' H' gr ov => po v g' H' gr (view_ok (gr.wr w) ov)

/-! ### fields -/
/-- the classes cs have no attribute f of their own -/
def FldOk (K : PySem.W.Frag) (cs : List Str) (f : Str) : Prop := ∀ c ∈ cs, Cls K (He.ga K c) ∧ NoAttr K (He.ga K c) f
theorem OVf.look {K : PySem.W.Frag} {g : G} {H : Hp} {f : Str} {x : PV} : ∀ {xs : List (Str × PV)} {vs : List (Str × V)}, OVf K g H xs vs → xs.lookup f = some x → ∃ v, vs.lookup f = some v ∧ OV K g H x v
  | _, _, .nil, e => by cases e
  | _, _, .cons (n := n) a b, e => by
    rw [List.lookup_cons] at e ⊢
    cases q : f == n with
    | true => rw [q] at e; cases e; exact ⟨_, rfl, a⟩
    | false => rw [q] at e; exact OVf.look b e
def xFld (cs : List Str) (f : Str) (m : Ex) : Ex := fun ρ S => mb (m ρ S) fun x => match x with
  | .ref n => (match S[n]? with
    | some (.ins c fs) => if decide (c ∈ cs) then mo (fs.lookup f) else none
    | _ => none)
  | _ => none
theorem e_fld {cs : List Str} {f : Str} {m : Ex} (hc : FldOk X.K cs f) (h : SimE X W o m) (hb : attributeBase o f X.env (eval o X.env) = eval o X.env := by rfl) : SimE X W (.Attribute o f pos) (xFld cs f m) := by
  obtain ⟨t, p, r⟩ := h.ex
  refine ⟨_, pe_fld p hb, ?_⟩
  refine Rch.bind (R' := RV X.K) (k := fun x _ S => match x with
    | .ref n => (match S[n]? with
      | some (.ins c fs) => if decide (c ∈ cs) then mo (fs.lookup f) else none
      | _ => none)
    | _ => none) (tk := fun x _ H1 Q => ∃ a C dx fs v, x = .ref a ∧ H1 a = some (.ins C dx fs) ∧ Cls X.K C ∧ NoAttr X.K C f ∧ fs.lookup f = some v ∧ Q v H1) r fun x u σ H g S ρ Q res w er hx hm po => ?_
  split at hm
  · rename_i n
    split at hm
    · rename_i c fs q
      split at hm
      · rename_i hcs
        cases q2 : fs.lookup f with
        | none => rw [q2] at hm; cases hm
        | some z =>
          rw [q2] at hm
          have e2 : res = .ok z := (Option.some.inj hm).symm
          subst e2
          cases hx.fr rfl with
          | ref hn =>
            obtain ⟨dx, vs, h1, h2⟩ := w.s n _ q
            obtain ⟨v, h3, h4⟩ := h2.look q2
            obtain ⟨k1, k2⟩ := hc c (of_decide_eq_true hcs)
            exact ⟨_, _, dx, vs, v, rfl, h1, k1, k2, h3, po v g H (.refl w) h4⟩
      · cases hm
    · cases hm
  · cases hm
def putP (f : Str) (v : PV) : List (Str × PV) → List (Str × PV)
  | [] => [(f, v)]
  | (g, x) :: r => if g = f then (g, v) :: r else (g, x) :: putP f v r
theorem FRf.put {K : PySem.W.Frag} {g : G} {f : Str} {x : PV} {v : V} (h : FR K g x v) : ∀ {xs : List (Str × PV)} {vs : List (Str × V)}, FRf K g xs vs → FRf K g (putP f x xs) (putF f v vs)
  | _, _, .nil => .cons h .nil
  | _, _, .cons (n := n) a b => by
    unfold putP putF
    by_cases e : n = f
    · rw [if_pos e, if_pos e]; exact .cons h b
    · rw [if_neg e, if_neg e]; exact .cons a (FRf.put h b)
theorem FRf.length {K : PySem.W.Frag} {g : G} : ∀ {xs : List (Str × PV)} {vs : List (Str × V)}, FRf K g xs vs → xs.length = vs.length
  | _, _, .nil => rfl
  | _, _, .cons _ b => by simp [FRf.length b]
/-- o.f = e -/
def sFldS (cs : List Str) (f : Str) (m : Ex) (mv : Xm) : Sm := xThen mv fun y ρ S => if fz y then (match m ρ S with
  | some (.ok (.ref n)) => (match S[n]? with
    | some (.ins c fs) => if decide (c ∈ cs) && decide (fs.length < 900) then some (.nx ρ, S.set n (.ins c (putP f y fs))) else none
    | _ => none)
  | _ => none) else none
theorem s_fld {cs : List Str} {f : Str} {m : Ex} {mv : Xm} {pos' : Pos} (hc : FldOk X.K cs f) (h : SimE X W o m) (hv : SimX X (Em X.K) W e mv) (hs : swapsWith e (some (.Attribute o f pos')) pos.line X.env = pure false := by rfl) : SimS X (Em X.K) W (.Assign [.Attribute o f pos'] e pos) (sFldS cs f m mv) := by
  obtain ⟨t, p, r⟩ := h.ex
  obtain ⟨tv, pv, rv⟩ := hv.ex
  refine ⟨_, ps_fld p pv hs, RchX.thn (tk := fun y D σ H1 => t σ H1 fun x H2 => ∃ a C dx fs, x = .ref a ∧ H2 a = some (.ins C dx fs) ∧ Cls X.K C ∧ NoAttr X.K C f ∧ fs.length < 1000 ∧ D.nx σ (upd H2 a (.ins C dx (putF f y fs)))) rv fun y v σ H g S ρ gb g0 H0 S0 D res r0 rr tt er ov hm po => ?_⟩
  split at hm
  · rename_i hf
    have fy := ov.fr hf
    split at hm
    · rename_i n q
      split at hm
      · rename_i c fs q2
        split at hm
        · rename_i hcs
          cases hm
          simp only [Bool.and_eq_true, decide_eq_true_eq] at hcs
          refine r σ H g S ρ _ (.ok (.ref n)) ((Em X.K).wr rr) er.f.r q fun x g' H' gr ov' => ?_
          obtain ⟨r1, t1⟩ := (Em X.K).grow rr gr
          cases ov'.fr rfl with
          | ref hn =>
            obtain ⟨dx, vs, h1, h2⟩ := r1.s n _ q2
            obtain ⟨k1, k2⟩ := hc c hcs.1
            obtain ⟨r2, t2⟩ := r1.store (n := n) (o' := .ins c (putP f y fs)) (ho := .ins (He.ga X.K c) dx (putF f v vs)) hn ⟨dx, _, upd_same, FRf.put (FR.mono gr.le _ _ fy) h2⟩
            refine ⟨_, _, dx, vs, rfl, h1, k1, k2, by rw [← h2.length]; omega, po σ g' _ r2 (((tt.step t1).step (S' := S.set n (.ins c (putP f y fs))) t2)) ((er.step t1).step (S' := S.set n (.ins c (putP f y fs))) (md := Em X.K) (S := S) t2)⟩
        · cases hm
      · cases hm
    · cases hm
  · cases hm

/-! ### new instances -/
/-- a class with its __init__, below the level j -/
structure Nw (X : Cx) (j : Nat) (c : Str) (n : Nat) (m : Fm) : Prop where
  ex : ∃ (k : Nat) (f : Addr) (fd : FuncData) (ps : List Str), k + 1 ≤ j ∧ FnOk X.prog X.w X.K X.mg X.base (L2.CX X.prog X.w) k f fd ps (spM (Em X.K) n m) ∧ Mk X.K (He.ga X.K c) f ∧ X.mg c = some (.ref (He.ga X.K c)) ∧ Binds X.K fd ps []
def xNew (c : Str) (m : Fm) (n : Nat) (a : Xa) : Xm := fun ρ S => match a ρ S with
  | some (.ok xs, S') => if xs.length + 1 == n then (match m (.ref S'.length :: xs) (S' ++ [.ins c []]) with
    | some (.ok .non, S2) => some (.ok (.ref S'.length), S2)
    | _ => none) else none
  | some (.ex c fs, S') => some (.ex c fs, S')
  | none => none
theorem rchx_new {c : Str} {t : TA} {ar : Xa} {n : Nat} {m : Fm} {E : XK} (ra : RchA (Em X.K) W t ar) : RchX (Em X.K) W (tMake (He.ga X.K c) (spM (Em X.K) n m) [] E t) (xNew c m n ar) := by
  intro σ H g S ρ Q res rr er hm po
  unfold xNew at hm
  split at hm
  · rename_i xs S' q
    split at hm
    · rename_i hl
      split at hm
      · rename_i S2 q2
        cases hm
        refine ra σ H g S ρ _ (.ok xs, S') rr er q fun vs g1 H1 r1 t1 fs x dx hx hdx ne => ?_
        rw [List.append_nil]
        have hs : Same H1 (upd (upd H1 dx (.own x)) x (.ins (He.ga X.K c) dx [])) := fun b u e => by
          rw [upd_ne (ne_of_none e hx), upd_ne (ne_of_none e hdx)]; exact e
        obtain ⟨r2, t2, f2⟩ := r1.laid (a := x) (o := .ins c []) hx hs ⟨dx, [], upd_same, .nil⟩
        refine ⟨g1.add x, S' ++ [SO.ins c []], .ref S'.length :: xs, (.ok .non, S2), r2, .cons f2 (FRs.mono (g1.add_le x) _ _ fs), by simpa using eq_of_beq hl, q2, fun v g' H' r3 t3 f3 => ?_⟩
        cases f3
        refine ⟨rfl, po _ g' H' r3 ((Em X.K).trans (S1 := S') t1 ((Em X.K).trans (S1 := S' ++ [SO.ins c []]) t2 t3)) (.frz (FR.mono t3.le _ _ f2))⟩
      · cases hm
    · cases hm
  · rename_i c fs S' q
    cases hm
    exact ra σ H g S ρ _ (.ex c fs, S') rr er q po
  · cases hm
theorem x_new {x : Str} {p : Pos} {j n : Nat} {m : Fm} {ar : Xa} (F : Nw X j x n m) (hr : Room j X.A) (hg : Gl X x) (ha : SimXA X (Em X.K) W (e :: es) ar) (hdb : (x == ("__debug__" : Str)) = false := by decide)
    (he : starEach (e :: es) X.env = (false, eval e X.env) :: starEach es X.env := by rfl) (hpl : (backTo pos (starEach es X.env)).any (·.1) = false := by rfl) : SimX X (Em X.K) W (.Call (.Name x p) (e :: es) [] pos) (xNew x m n ar) := by
  obtain ⟨k, f, fd, ps, hk, F, M, hm, hb⟩ := F.ex
  obtain ⟨t, pa, ra⟩ := ha.ex
  exact ⟨_, pe_make M F (hr.mono hk) hg hm hb .nil passL pa hdb he hpl, rchx_new ra⟩
theorem x_new0 {x : Str} {p : Pos} {j n : Nat} {m : Fm} (F : Nw X j x n m) (hr : Room j X.A) (hg : Gl X x) (hdb : (x == ("__debug__" : Str)) = false := by decide) : SimX X (Em X.K) W (.Call (.Name x p) [] [] pos) (xNew x m n aXNil) := by
  obtain ⟨k, f, fd, ps, hk, F, M, hm, hb⟩ := F.ex
  exact ⟨_, pe_make0 M F (hr.mono hk) hg hm hb .nil passL hdb, rchx_new (fun σ H g S ρ Q r rr er hm po => by cases hm; exact po [] g H rr ((Em X.K).refl rr) .nil)⟩
end
end L3

end
section
set_option Elab.async false
set_option linter.all false
set_option maxRecDepth 100000
set_option maxHeartbeats 4000000
/-! enumerate(tuple) -/
namespace L3E
open PySem PySem.Spec L2
open AutoSeq1 (wpAny_loadPart')
set_option autoImplicit false
theorem meets_enumerate_newT (l : Addr) (items : Array Value) (n : Nat) (dct : Option Addr) (sl : Array (Option Value)) :
    Meets (Builtin.«enumerate.__new__» ⟨[.type "enumerate", .ref l], []⟩) (fun _ R s => s.heap.get? l = some { cls := .type "tuple", dict := dct, data := .seq items n, slots := sl } ∧
      R (.ok (.ret (.ref (s.heap.push { cls := .type "tuple_iterator", data := .fields #[.ref l, .int 0 0] }).objs.size)))
        { s with heap := (s.heap.push { cls := .type "tuple_iterator", data := .fields #[.ref l, .int 0 0] }).push { cls := .type "enumerate", data := .fields #[.none, .bool false, .ref s.heap.objs.size, rawInt 0, .none, .none] } }) :=
  .of_wp fun prog w A R s h => by
    obtain ⟨hp, g, d, tk, os⟩ := s; obtain ⟨hl, h⟩ := h
    have hsub := sub_enumerate
    have hL : Heap.IsTuple (Shared.heap ⟨hp, g, d, tk, os⟩) l items := ⟨_, hl, rfl, n, rfl⟩
    wp_walk using wpAny_loadPart' hl
    refine wpAny_stack_any fun st => wpAny_pure ?_
    split
    · rename_i c _ _ _ _ _
      cases (c == Value.type "enumerate")
      · wp_walk using wpAny_loadPart' hl, wpAny_pyIter_tuple hL
        exact ⟨_, rfl, h⟩
      · wp_walk using wpAny_loadPart' hl, wpAny_pyIter_tuple hL
        exact ⟨_, rfl, h⟩
    · wp_walk using wpAny_loadPart' hl, wpAny_pyIter_tuple hL
      exact ⟨_, rfl, h⟩
section
variable {prog : Program} {w : World} {A : Around} {E : Value → Shared → Prop} {s : Shared}
theorem call_enumerate_tup {l : Addr} {items : Array Value} {Q : Value → Shared → Prop} (hL : s.heap.IsTuple l items)
    (h : ∀ h', IsEnum h' (s.heap.objs.size + 1) s.heap.objs.size 0 .none → h'.IsTupleIter s.heap.objs.size l 0 → h'.objs.size = s.heap.objs.size + 2 →
      (∀ b o, s.heap.get? b = some o → h'.get? b = some o) → Q (.ref (s.heap.objs.size + 1)) { s with heap := h' }) :
    wpAny (model prog w) A (call (.type "enumerate") [.ref l]) Q E s := by
  obtain ⟨⟨c, dct, dt, sl⟩, hl, hc, n, hd⟩ := hL
  replace hc : c = .type "tuple" := hc
  replace hd : dt = .seq items n := hd
  subst hc hd
  refine callType_new F.called_enumerate (by decide) (F.typeCall_enumerate_1 _) (F.newCall_enumerate_1 _) (fun obj => F.args_object_init_2 obj _) F.entry_enumerate_new
    (meets_enumerate_newT l items n dct sl) ⟨hl, ?_⟩
  have hz : (s.heap.push { cls := .type "tuple_iterator", data := .fields #[.ref l, .int 0 0] }).objs.size = s.heap.objs.size + 1 := Heap.size_push ..
  show _ ∧ _
  rw [hz]
  have he : IsEnum ((s.heap.push { cls := .type "tuple_iterator", data := .fields #[.ref l, .int 0 0] }).push
      { cls := .type "enumerate", data := .fields #[.none, .bool false, .ref s.heap.objs.size, rawInt 0, .none, .none] }) (s.heap.objs.size + 1) s.heap.objs.size 0 .none := by
    have := Heap.get?_push_size (s.heap.push { cls := .type "tuple_iterator", data := .fields #[.ref l, .int 0 0] })
      (o := { cls := .type "enumerate", data := .fields #[.none, .bool false, .ref s.heap.objs.size, rawInt 0, .none, .none] }) rfl
    rw [hz] at this; exact this
  refine ⟨⟨_, he, rfl⟩, h _ he ⟨_, Heap.get?_push_of_some _ (Heap.get?_push_size _ rfl), rfl, rfl⟩ (by rw [Heap.size_push, hz]) fun b o x => Heap.get?_push_of_some _ (Heap.get?_push_of_some _ x)⟩
end
def IteT (K : PySem.W.Frag) (a : Addr) : It :=
  ⟨fun i H => ∃ (xs : List V) (x : V), SqT K H a xs ∧ xs[i]? = some x, fun i H v H' => ∃ T x, v = .ref T ∧ H T = none ∧ H' = upd H T (.tup [.int (i : Nat), x]) ∧ ∀ xs, SqT K H a xs → xs[i]? = some x, fun i H => ∃ xs : List V, SqT K H a xs ∧ xs.length = i⟩
theorem turn_enumT {P : Program} {w : World} {K : PySem.W.Frag} {elts : List Expr} {kk : Nat} {tpos : Pos} (a e it : Addr) :
    Turn P w K (.Tuple elts kk tpos) (IteT K a) [e, it] e (fun i h => (∃ old, IsEnum h e it ((i : Nat) : Int) old) ∧ h.IsTupleIter it a i ∧ e ≠ it) where
  mem := by simp
  obj := fun i h st b hb => by
    obtain ⟨⟨old, he⟩, ⟨o, ho, hc, hd⟩, _⟩ := st
    have e' : b = e ∨ b = it := by simpa using hb
    rcases e' with z | z
    · rw [z]; exact ⟨_, he, fun v q => nomatch q⟩
    · rw [z]; exact ⟨o, ho, fun v q => by rw [hd] at q; cases q⟩
  keep := fun i h h' st k => let ⟨⟨old, he⟩, hi, hne⟩ := st; ⟨⟨old, k e (by simp) _ he⟩, hi.at fun o q => k it (by simp) o q, hne⟩
  item := by
    intro X hP hw hK hc i pins s σ H E I hf st hg
    subst hP hw hK
    obtain ⟨⟨old, he⟩, hit, hne⟩ := st
    obtain ⟨xs, x, hq, hx⟩ := hg
    obtain ⟨its, rv, p, hz⟩ := I.tuple hq
    obtain ⟨u, hu, ru⟩ := rv.get hx
    have hel : e < s.heap.objs.size := Heap.lt_size he
    have hil : it < s.heap.objs.size := by obtain ⟨_, q, _⟩ := hit; exact Heap.lt_size q
    have hai : a ≠ it := fun z => by
      obtain ⟨o1, h1, c1, _⟩ := hit
      obtain ⟨o2, h2, c2, _⟩ := p
      rw [z, h1] at h2; cases h2; rw [c1] at c2; exact absurd c2 (by decide)
    have hae : e ≠ a := fun z => by
      obtain ⟨o2, h2, c2, _⟩ := p
      have he' : s.heap.get? e = some _ := he
      rw [z, h2] at he'; cases he'; exact absurd (show Value.type "enumerate" = Value.type "tuple" from c2) (by decide)
    have D := Draws.tuple (prog := X.prog) (w := X.w) (A := X.A.in1) (show X.A.in1.handled = none from I.ok.hd hc) it a hai its.toArray
    have hlt : i < its.toArray.size := by
      rw [List.size_toArray]; exact (List.getElem?_eq_some_iff.mp hu).1
    refine wpAny_pyNext_enum_itemD D he ⟨hit, p⟩ hlt hne (by simp [hne, hae]) fun x' h' tk hP' ho hst' hT hsz hk => ?_
    have ex' : x' = u := by
      have hP' : its.toArray[i]? = some x' := hP'
      rw [show its.toArray[i]? = its[i]? by simp, hu] at hP'
      exact (Option.some.inj hP').symm
    subst ex'
    refine ⟨_, rfl, wpAny_letOwnedTupleGo_enum (s := { s with heap := h', toks := tk + 1 }) ho fun h'' he' sb => ?_⟩
    have hT2 : h''.get? s.heap.objs.size = some { cls := .type "tuple", data := .seq #[.int i tk, x'] } := (sb.2 _ (Nat.ne_of_gt hel)).trans hT
    have new : ObjOk X.prog X.w (upd H s.heap.objs.size (.tup [.int (i : Nat), x])) h'' s.heap.objs.size (.tup [.int (i : Nat), x]) :=
      ⟨by show 2 ≤ sizeLine; decide, [.int i tk, x'], .cons ⟨_, rfl⟩ (.cons ru .nil), ⟨_, hT2, rfl, _, rfl⟩⟩
    have I1 : Inv X pins σ (upd H s.heap.objs.size (.tup [.int (i : Nat), x])) { s with heap := h'', toks := tk + 1 } :=
      I.turnedNew (ch := [e, it]) (fun b ob hb q => (sb.2 b (fun z => hb (by simp [z]))).trans (hk b ob (fun z => hb (by simp [z])) (fun z => hb (by simp [z])) q)) hf (Nat.le_refl _) new
    refine ⟨.ref s.heap.objs.size, _, I1, rfl, ⟨_, x, rfl, I.hok.fresh (Nat.le_refl _), rfl, fun ys hy => ?_⟩, ⟨⟨x', ?_⟩, hst'.1.at fun o q => (sb.2 it (Ne.symm hne)).trans q, hne⟩, fun b hb => ?_⟩
    · have e1 : ys = xs := I.tuple_inj hy hq
      rw [e1]; exact hx
    · have e1 : ((i + 1 : Nat) : Int) = (i : Int) + 1 := by omega
      rw [e1]; exact he'
    · have hb' : b < s.heap.objs.size := by
        have e' : b = e ∨ b = it := by simpa using hb
        rcases e' with z | z
        · rw [z]; exact hel
        · rw [z]; exact hil
      rw [upd_ne (Nat.ne_of_lt hb')]
      exact (hf b hb).1
  done := by
    intro X hP hw hK hc i pins s σ H E I hf st hg
    subst hP hw hK
    obtain ⟨⟨old, he⟩, hit, hne⟩ := st
    obtain ⟨xs, hq, hx⟩ := hg
    obtain ⟨its, rv, p, hz⟩ := I.tuple hq
    obtain ⟨f0, f1, f2, f3, f4, f5⟩ := hf it (by simp)
    have hl := rv.length
    have hai : a ≠ it := fun z => by
      obtain ⟨o1, h1, c1, _⟩ := hit
      obtain ⟨o2, h2, c2, _⟩ := p
      rw [z, h1] at h2; cases h2; rw [c1] at c2; exact absurd c2 (by decide)
    have D := Draws.tuple (prog := X.prog) (w := X.w) (A := X.A.in1) (show X.A.in1.handled = none from I.ok.hd hc) it a hai its.toArray
    have hi : i = its.toArray.size := by rw [List.size_toArray]; omega
    exact wpAny_pyNext_enum_endD D he (by rw [← hi]; exact ⟨hit, p⟩) fun h' eb => ⟨rfl, I.turned (t' := s.toks) (fun b o hb q => eb b o hb q) f0 f1 f3 f4 f5⟩
  self := fun A i s Q E st h => let ⟨⟨_, he⟩, _⟩ := st; wpAny_pyIter_enum he h
def iEnumT (K : PySem.W.Frag) (ta : TA) : TI := fun σ H R => ta σ H fun vs H1 => ∃ a xs, vs = [.ref a] ∧ SqT K H1 a xs ∧ R (IteT K a) H1
theorem pi_enumT {X : Cx} {e : Expr} {ta : TA} {p pos tpos : Pos} {elts : List Expr} {kk : Nat} (hg : Gl X "enumerate") (hm : X.mg "enumerate" = none) (ha : PA X [e] ta) (hs : starEach [e] X.env = [(false, eval e X.env)] := by rfl) :
    PI X (.Tuple elts kk tpos) (.Call (.Name "enumerate" p) [e] [] pos) (iEnumT X.K ta) := by
  refine ⟨fun pins s σ H R I h => ?_⟩
  refine PyProof.Rows.Call_ (ld_blt I hg hm PyProof.Rows.boot_enumerate (PyProof.Rows.callWith_type1 (thn (ha.run pos pins s σ H _ I h) fun us s1 ⟨vs, H1, I1, r1, q1⟩ => ?_) hs rfl))
  obtain ⟨a, xs, ex, hq, q⟩ := q1
  subst ex
  cases r1 with
  | cons r rr =>
    cases rr
    cases r
    obtain ⟨its, rv, p', hz⟩ := I1.tuple hq
    refine call_enumerate_tup p' fun h' he hit hsz hk => wpAny_pyIter_enum he ?_
    have I2 : Inv X pins σ H1 { s1 with heap := h' } := I1.kept (t' := s1.toks) hk
    refine ⟨s1.heap.objs.size + 1, [s1.heap.objs.size + 1, s1.heap.objs.size], _, _, H1, rfl, I2, turn_enumT a (s1.heap.objs.size + 1) s1.heap.objs.size, ⟨⟨.none, he⟩, hit, Nat.succ_ne_self _⟩, fun b hb => ?_, q⟩
    have e' : b = s1.heap.objs.size + 1 ∨ b = s1.heap.objs.size := by simpa using hb
    have hle : s1.heap.objs.size ≤ b := by
      rcases e' with z | z
      · rw [z]; exact Nat.le_add_right _ _
      · rw [z]; exact Nat.le_refl _
    exact I1.fpOk hle (I1.hok.fresh hle)
end L3E

end
section
set_option Elab.async false
set_option linter.all false
set_option maxRecDepth 100000
set_option maxHeartbeats 4000000
namespace L3
open PySem PySem.Spec L2
set_option autoImplicit false
section
variable {X : Cx} {md : Md X.K} {W : WX} {a b c e e2 o tg iter : Expr} {es rest elts : List Expr} {pos tpos : Pos} {kk : Nat}

/-! ### enumerate, zip -/
def enumP : Nat → List PV → List PV
  | _, [] => []
  | i, x :: xs => .tup [.int (i : Int), x] :: enumP (i + 1) xs
theorem enumP_get : ∀ (xs : List PV) (k i : Nat), (enumP k xs)[i]? = (xs[i]?).map fun x => .tup [.int ((k + i : Nat) : Int), x]
  | [], k, i => by simp [enumP]
  | x :: xs, k, 0 => by simp [enumP]
  | x :: xs, k, i + 1 => by
    rw [enumP, List.getElem?_cons_succ, List.getElem?_cons_succ, enumP_get xs (k + 1) i]
    have : k + 1 + i = k + (i + 1) := by omega
    rw [this]
theorem enumP_len : ∀ (xs : List PV) (k : Nat), (enumP k xs).length = xs.length
  | [], _ => rfl
  | x :: xs, k => by rw [enumP, List.length_cons, List.length_cons, enumP_len]
theorem wk_enum {K : PySem.W.Frag} {g : G} {a : Addr} {xs : List PV} {vs : List V} (r : Rd g.F a (.lst vs)) (f : FRs K g xs vs) : Wk K g (Ite K a) (enumP 0 xs) where
  go := fun g' H i x le rd hx => by
    rw [enumP_get] at hx
    cases q : xs[i]? with
    | none => rw [q] at hx; cases hx
    | some y =>
      obtain ⟨v, hv, _⟩ := f.get q
      exact ⟨vs, v, .inl (rd _ _ (RdLe.of_same le.f _ _ r)), hv⟩
  yld := fun g' S H i x v H' le w hx hy => by
    obtain ⟨T, u, rfl, hT, rfl, hu⟩ := hy
    rw [enumP_get] at hx
    cases q : xs[i]? with
    | none => rw [q] at hx; cases hx
    | some y =>
      rw [q] at hx
      cases hx
      obtain ⟨u', hv, fu⟩ := f.get q
      have e := hu vs (.inl (w.f _ _ (RdLe.of_same le.f _ _ r)))
      rw [hv] at e; cases e
      obtain ⟨gr, f2⟩ := new_tup (xs := [.int ((0 + i : Nat) : Int), y]) w hT (.cons (.int _) (.cons (FR.mono le _ _ fu) .nil))
      rw [Nat.zero_add] at f2
      rw [Nat.zero_add]
      rw [Nat.zero_add] at gr
      exact ⟨_, gr, f2⟩
  stop := fun g' H le rd => ⟨vs, .inl (rd _ _ (RdLe.of_same le.f _ _ r)), by rw [enumP_len, f.length]; exact Nat.le_refl _⟩
theorem wk_enumT {K : PySem.W.Frag} {g : G} {a : Addr} {xs : List PV} {vs : List V} (r : SqT K g.F a vs) (f : FRs K g xs vs) : Wk K g (L3E.IteT K a) (enumP 0 xs) where
  go := fun g' H i x le rd hx => by
    rw [enumP_get] at hx
    cases q : xs[i]? with
    | none => rw [q] at hx; cases hx
    | some y =>
      obtain ⟨v, hv, _⟩ := f.get q
      exact ⟨vs, v, rd.sqT ((RdLe.of_same le.f).sqT r), hv⟩
  yld := fun g' S H i x v H' le w hx hy => by
    obtain ⟨T, u, rfl, hT, rfl, hu⟩ := hy
    rw [enumP_get] at hx
    cases q : xs[i]? with
    | none => rw [q] at hx; cases hx
    | some y =>
      rw [q] at hx
      cases hx
      obtain ⟨u', hv, fu⟩ := f.get q
      have e := hu vs (w.f.sqT ((RdLe.of_same le.f).sqT r))
      rw [hv] at e; cases e
      obtain ⟨gr, f2⟩ := new_tup (xs := [.int ((0 + i : Nat) : Int), y]) w hT (.cons (.int _) (.cons (FR.mono le _ _ fu) .nil))
      rw [Nat.zero_add] at f2
      rw [Nat.zero_add]
      rw [Nat.zero_add] at gr
      exact ⟨_, gr, f2⟩
  stop := fun g' H le rd => ⟨vs, rd.sqT ((RdLe.of_same le.f).sqT r), by rw [enumP_len, f.length]⟩
def enumA : List PV → M (List PV)
  | [.lst ys] => some (.ok (enumP 0 ys))
  | [.tup ys] => some (.ok (enumP 0 ys))
  | _ => none
def iEnumP (m : Ar) : Ar := fun ρ S => mb (m ρ S) enumA
theorem i_enum {m : Ar} {p : Pos} (hg : Gl X "enumerate") (hm : X.mg "enumerate" = none) (ha : SimA X W [e] m) (hs : starEach [e] X.env = [(false, eval e X.env)] := by rfl) : SimI X W (.Tuple elts kk tpos) (.Call (.Name "enumerate" p) [e] [] pos) (iEnumP m) := by
  obtain ⟨t, pp, r⟩ := ha.ex
  refine ⟨_, PI.or (pi_enum hg hm pp hs) (L3E.pi_enumT hg hm pp hs), fun σ H g S ρ R res w er hm po => ?_⟩
  unfold iEnumP at hm
  cases q : m ρ S with
  | none => rw [q] at hm; cases hm
  | some z =>
    rw [q] at hm
    cases z with
    | ex c fs =>
      have e2 : res = .ex c fs := (Option.some.inj hm).symm
      subst e2
      exact .inl (r σ H g S ρ _ (.ex c fs) w er q po)
    | ok xs =>
      replace hm : enumA xs = some res := hm
      unfold enumA at hm
      split at hm
      · rename_i ys
        cases hm
        refine .inl (r σ H g S ρ _ (.ok [.lst ys]) w er q fun vs g' H' gr ov => ?_)
        obtain ⟨u, rfl, hu⟩ := ovs1 ov
        cases hu.fr rfl with
        | lst s f => exact ⟨_, _, rfl, .inl (gr.f _ _ s), po _ g' H' gr (wk_enum s f)⟩
      · rename_i ys
        cases hm
        refine .inr (r σ H g S ρ _ (.ok [.tup ys]) w er q fun vs g' H' gr ov => ?_)
        obtain ⟨u, rfl, hu⟩ := ovs1 ov
        cases hu.fr rfl with
        | tup s f => exact ⟨_, _, rfl, gr.f.sqT s, po _ g' H' gr (wk_enumT s f)⟩
      · cases hm
def zipP : List PV → List PV → List PV
  | x :: xs, y :: ys => .tup [x, y] :: zipP xs ys
  | _, _ => []
theorem zipP_get : ∀ (xs ys : List PV) (i : Nat) (z : PV), (zipP xs ys)[i]? = some z → ∃ x y, xs[i]? = some x ∧ ys[i]? = some y ∧ z = .tup [x, y]
  | [], _, i, z, h => by simp [zipP] at h
  | x :: xs, [], i, z, h => by simp [zipP] at h
  | x :: xs, y :: ys, 0, z, h => by simp [zipP] at h; exact ⟨x, y, rfl, rfl, h.symm⟩
  | x :: xs, y :: ys, i + 1, z, h => by
    rw [zipP, List.getElem?_cons_succ] at h
    simpa using zipP_get xs ys i z h
theorem zipP_len : ∀ (xs ys : List PV), (zipP xs ys).length = min xs.length ys.length
  | [], _ => by simp [zipP]
  | x :: xs, [] => by simp [zipP]
  | x :: xs, y :: ys => by rw [zipP, List.length_cons, zipP_len, List.length_cons, List.length_cons]; omega
theorem wk_zip {K : PySem.W.Frag} {g : G} {a b : Addr} {xs ys : List PV} {vs us : List V} (r : Rd g.F a (.lst vs)) (f : FRs K g xs vs) (r' : Rd g.F b (.lst us)) (f' : FRs K g ys us) : Wk K g (Itz K a b) (zipP xs ys) where
  go := fun g' H i x le rd hx => by
    obtain ⟨y, z, h1, h2, _⟩ := zipP_get _ _ _ _ hx
    obtain ⟨v, hv, _⟩ := f.get h1
    obtain ⟨v', hv', _⟩ := f'.get h2
    exact ⟨vs, us, v, v', .inl (rd _ _ (RdLe.of_same le.f _ _ r)), .inl (rd _ _ (RdLe.of_same le.f _ _ r')), hv, hv'⟩
  yld := fun g' S H i x v H' le w hx hy => by
    obtain ⟨T, u, u', rfl, hT, rfl, hu, hu'⟩ := hy
    obtain ⟨y, z, h1, h2, rfl⟩ := zipP_get _ _ _ _ hx
    obtain ⟨v, hv, fv⟩ := f.get h1
    obtain ⟨v', hv', fv'⟩ := f'.get h2
    have e := hu vs (.inl (w.f _ _ (RdLe.of_same le.f _ _ r)))
    have e' := hu' us (.inl (w.f _ _ (RdLe.of_same le.f _ _ r')))
    rw [hv] at e; cases e
    rw [hv'] at e'; cases e'
    obtain ⟨gr, f2⟩ := new_tup w hT (.cons (FR.mono le _ _ fv) (.cons (FR.mono le _ _ fv') .nil))
    exact ⟨_, gr, f2⟩
  stop := fun g' H le rd => ⟨vs, us, .inl (rd _ _ (RdLe.of_same le.f _ _ r)), .inl (rd _ _ (RdLe.of_same le.f _ _ r')), by rw [zipP_len, f.length, f'.length]; omega⟩
theorem wk_zipT {K : PySem.W.Frag} {g : G} {a b : Addr} {xs ys : List PV} {vs us : List V} (r : SqT K g.F a vs) (f : FRs K g xs vs) (r' : SqT K g.F b us) (f' : FRs K g ys us) : Wk K g (RZ.ItzT K a b) (zipP xs ys) where
  go := fun g' H i x le rd hx => by
    obtain ⟨y, z, h1, h2, _⟩ := zipP_get _ _ _ _ hx
    obtain ⟨v, hv, _⟩ := f.get h1
    obtain ⟨v', hv', _⟩ := f'.get h2
    exact ⟨vs, us, v, v', rd.sqT ((RdLe.of_same le.f).sqT r), rd.sqT ((RdLe.of_same le.f).sqT r'), hv, hv'⟩
  yld := fun g' S H i x v H' le w hx hy => by
    obtain ⟨T, u, u', rfl, hT, rfl, hu, hu'⟩ := hy
    obtain ⟨y, z, h1, h2, rfl⟩ := zipP_get _ _ _ _ hx
    obtain ⟨v, hv, fv⟩ := f.get h1
    obtain ⟨v', hv', fv'⟩ := f'.get h2
    have e := hu vs (w.f.sqT ((RdLe.of_same le.f).sqT r))
    have e' := hu' us (w.f.sqT ((RdLe.of_same le.f).sqT r'))
    rw [hv] at e; cases e
    rw [hv'] at e'; cases e'
    obtain ⟨gr, f2⟩ := new_tup w hT (.cons (FR.mono le _ _ fv) (.cons (FR.mono le _ _ fv') .nil))
    exact ⟨_, gr, f2⟩
  stop := fun g' H le rd => ⟨vs, us, rd.sqT ((RdLe.of_same le.f).sqT r), rd.sqT ((RdLe.of_same le.f).sqT r'), by rw [zipP_len, f.length, f'.length]; omega⟩
def iZipP (m : Ar) : Ar := fun ρ S => mb (m ρ S) fun xs => match xs with
  | [.lst ys, .lst zs] => some (.ok (zipP ys zs))
  | [.tup ys, .tup zs] => some (.ok (zipP ys zs))
  | _ => none
theorem i_zip {m : Ar} {p : Pos} (hg : Gl X "zip") (hm : X.mg "zip" = none) (ha : SimA X W [e, e2] m) (hs : starEach [e, e2] X.env = (false, eval e X.env) :: starEach [e2] X.env := by rfl) (hpl : (backTo pos (starEach [e2] X.env)).any (·.1) = false := by rfl) : SimI X W (.Tuple elts kk tpos) (.Call (.Name "zip" p) [e, e2] [] pos) (iZipP m) := by
  obtain ⟨t, pp, r⟩ := ha.ex
  refine ⟨_, RZ.pi_zipA hg hm pp hs hpl, fun σ H g S ρ R res w er hm po => ?_⟩
  refine Rch.bind (R' := fun g' _ xs J => Wk X.K g' J xs) (k := fun xs _ _ => match xs with
    | [.lst ys, .lst zs] => some (.ok (zipP ys zs))
    | [.tup ys, .tup zs] => some (.ok (zipP ys zs))
    | _ => none) (tk := fun vs _ H1 R => ∃ a b xs ys, vs = [.ref a, .ref b] ∧ ((SqL X.K H1 a xs ∧ SqL X.K H1 b ys ∧ R (Itz X.K a b) H1) ∨ (SqT X.K H1 a xs ∧ SqT X.K H1 b ys ∧ R (RZ.ItzT X.K a b) H1))) r (fun xs us σ H g S ρ Q res w er hx hm po => ?_) σ H g S ρ R res w er hm po
  split at hm
  · obtain ⟨u, v, rfl, hu, hv⟩ := ovs2 hx
    cases hm
    cases hu.fr rfl with
    | lst s f =>
      cases hv.fr rfl with
      | lst s' f' => exact ⟨_, _, _, _, rfl, .inl ⟨.inl (w.f _ _ s), .inl (w.f _ _ s'), po _ g H (.refl w) (wk_zip s f s' f')⟩⟩
  · obtain ⟨u, v, rfl, hu, hv⟩ := ovs2 hx
    cases hm
    cases hu.fr rfl with
    | tup s f =>
      cases hv.fr rfl with
      | tup s' f' => exact ⟨_, _, _, _, rfl, .inr ⟨w.f.sqT s, w.f.sqT s', po _ g H (.refl w) (wk_zipT s f s' f')⟩⟩
  · cases hm
end
end L3

end
section
set_option Elab.async false
set_option linter.all false
set_option maxRecDepth 100000
set_option maxHeartbeats 4000000
namespace L3
open PySem PySem.Spec L2
set_option autoImplicit false

/-! ### what is walked, made by effects -/
def PoI {K : PySem.W.Frag} (md : Md K) (g : G) (H : Hp) (S : Store) (σ : St) (W : WX) (R : It → Hp → Prop) : Res (List PV) × Store → Prop
  | (.ok xs, S') => ∀ J g' H', md.R g' S' H' → md.T g H S g' H' S' → Wk K g' J xs → R J H'
  | (.ex c fs, S') => ∀ cls d g' H', md.R g' S' H' → md.T g H S g' H' S' → XR K g' H' c fs cls d → W cls d σ H'
def RchI {K : PySem.W.Frag} (md : Md K) (W : WX) (wi : TI) (m : Xa) : Prop :=
  ∀ (σ : St) (H : Hp) (g : G) (S : Store) (ρ : Env) (R : It → Hp → Prop) (r : Res (List PV) × Store), md.R g S H → EnvF md g H σ ρ → m ρ S = some r → PoI md g H S σ W R r → wi σ H R
structure SimIX (X : Cx) (md : Md X.K) (W : WX) (tg iter : Expr) (m : Xa) : Prop where
  ex : ∃ wi : TI, PI X tg iter wi ∧ RchI md W wi m
section
variable {X : Cx} {md : Md X.K} {W : WX} {a b c e e2 o tg iter elt : Expr} {es rest elts ifs : List Expr} {pos tpos : Pos} {kk : Nat} {scope : Scope} {own : List (Str × Nat)}
def iP (m : Ar) : Xa := fun ρ S => (m ρ S).map fun r => (r, S)
theorem ix_p {m : Ar} (h : SimI X W tg iter m) : SimIX X md W tg iter (iP m) := by
  obtain ⟨wi, p, r⟩ := h.ex
  refine ⟨wi, p, fun σ H g S ρ R res rr er hm po => ?_⟩
  unfold iP at hm
  cases q : m ρ S with
  | none => rw [q] at hm; cases hm
  | some z =>
    rw [q] at hm
    have e2 : res = (z, S) := (Option.some.inj hm).symm
    subst e2
    refine r σ H g S ρ R z (md.wr rr) er.r q ?_
    cases z with
    | ok xs => exact fun J g' H' gr wk => by obtain ⟨r1, t1⟩ := md.grow rr gr; exact po J g' H' r1 t1 wk
    | ex c fs => exact fun cls d g' H' gr x => by obtain ⟨r1, t1⟩ := md.grow rr gr; exact po cls d g' H' r1 t1 x
def iRange1X (m : Xa) : Xa := fun ρ S => match m ρ S with
  | some (.ok [.int j], S') => if rOk j then some (.ok (rngP 0 j.toNat), S') else none
  | some (.ex c fs, S') => some (.ex c fs, S')
  | _ => none
theorem ix_range1 {m : Xa} {p : Pos} (hg : Gl X "range") (hm : X.mg "range" = none) (ha : SimXA X md W [a] m) (hs : starEach [a] X.env = [(false, eval a X.env)] := by rfl) : SimIX X md W tg (.Call (.Name "range" p) [a] [] pos) (iRange1X m) := by
  obtain ⟨t, pp, r⟩ := ha.ex
  refine ⟨_, pi_range1 hg hm pp hs, fun σ H g S ρ R res rr er hm po => ?_⟩
  unfold iRange1X at hm
  split at hm
  · rename_i j S' q
    split at hm
    · rename_i hc
      cases hm
      obtain ⟨h1, h2⟩ := rOk_ok hc
      refine r σ H g S ρ _ (.ok [.int j], S') rr er q fun vs g' H' r1 t1 fr => ?_
      cases fr with
      | cons x y => cases y; cases x; exact ⟨j, rfl, h1, h2, po _ g' H' r1 t1 (wk_rng _ _)⟩
    · cases hm
  · rename_i c fs S' q
    cases hm
    exact r σ H g S ρ _ (.ex c fs, S') rr er q po
  · cases hm
def iSeqX (m : Xm) : Xa := fun ρ S => match m ρ S with
  | some (.ok x, S') => (itemsOf x).map fun xs => (.ok xs, S')
  | some (.ex c fs, S') => some (.ex c fs, S')
  | none => none
theorem ix_seq {m : Xm} (h : SimX X md W iter m) : SimIX X md W tg iter (iSeqX m) := by
  obtain ⟨t, p, r⟩ := h.ex
  refine ⟨_, PI.or (pi_list p) (PI.or (pi_tup p) (pi_str p)), fun σ H g S ρ R res rr er hm po => ?_⟩
  unfold iSeqX at hm
  split at hm
  · rename_i x S' q
    cases x with
    | lst xs =>
      cases hm
      refine .inl (r σ H g S ρ _ (.ok (.lst xs), S') rr er q fun v g' H' r1 t1 ov => ?_)
      cases ov.fr rfl with
      | lst s f => exact ⟨_, rfl, ⟨_, .inl ((md.wr r1).f _ _ s)⟩, po _ g' H' r1 t1 (wk_list (.inl s) f)⟩
    | kl xs =>
      cases hm
      refine .inl (r σ H g S ρ _ (.ok (.kl xs), S') rr er q fun v g' H' r1 t1 ov => ?_)
      cases ov.fr rfl with
      | kl s f => exact ⟨_, rfl, ⟨_, (md.wr r1).f.sqL s⟩, po _ g' H' r1 t1 (wk_list s f)⟩
    | tup xs =>
      cases hm
      refine .inr (.inl (r σ H g S ρ _ (.ok (.tup xs), S') rr er q fun v g' H' r1 t1 ov => ?_))
      cases ov.fr rfl with
      | tup s f => exact ⟨_, rfl, ⟨_, (md.wr r1).f.sqT s⟩, po _ g' H' r1 t1 (wk_tup s f)⟩
    | str xs =>
      cases hm
      refine .inr (.inr (r σ H g S ρ _ (.ok (.str xs), S') rr er q fun v g' H' r1 t1 ov => ?_))
      cases ov.fr rfl
      exact ⟨_, rfl, po _ g' H' r1 t1 (wk_str xs)⟩
    | _ => cases hm
  · rename_i c fs S' q
    cases hm
    exact .inl (r σ H g S ρ _ (.ex c fs, S') rr er q po)
  · cases hm
def sForX (it : Xa) (tg : Tg) (m : Sm) : Sm := fun ρ S => match it ρ S with
  | some (.ok xs, S') => sLoop tg m xs ρ S'
  | some (.ex c fs, S') => some (.xx c fs ρ, S')
  | none => none
theorem s_forX {body : List Stmt} {it : Xa} {g1 : Tg} {m : Sm} {ks : List Nat} (hp : PassesOwn (model X.prog X.w) X.A X.env X.xe) (hc : X.calm = true) (hi : SimIX X md W tg iter it) (hg : SimG X tg ks g1) (h : SimB X md W body m)
    (hs : ∀ x, foldedSetIterable iter X.env x = pure x := by intro _; rfl) : SimS X md W (.For tg iter body [] pos) (sForX it g1 m) := by
  obtain ⟨wi, pi, ri⟩ := hi.ex
  obtain ⟨tt1, pg, rg⟩ := hg.ex
  obtain ⟨t, p, r⟩ := h.ex
  refine ⟨_, ps_for hp hc pi pg p hs, fun σ H g S ρ gb g0 H0 S0 D res r0 rr tt er hm po => ?_⟩
  unfold sForX at hm
  split at hm
  · rename_i xs S' q
    refine ri σ H g S ρ _ (.ok xs, S') rr er.f q fun J gJ H1 r1 t1 wk => ?_
    have po : PoS md gJ g0 H0 S0 W D res := po.weak (tt.l.trans (md.le t1))
    refine ⟨fun i j σ H => ∃ g S ρ, md.R g S H ∧ Tr md gJ g0 H0 S0 g H S ∧ EnvS md H0 g H σ ρ ∧ sLoop g1 m (xs.drop i) ρ S = some res ∧ i + j = xs.length, ⟨xs.length, gJ, S', ρ, r1, ⟨md.trans tt.t t1, .refl _⟩, er.step t1, by simpa using hm, by omega⟩, ?_⟩
    rintro i j σ H ⟨g, S, ρ, rr, tt, er, hm, hj⟩
    by_cases hi : i < xs.length
    · have hd : xs.drop i = xs[i] :: xs.drop (i + 1) := List.drop_eq_getElem_cons hi
      have hx : xs[i]? = some xs[i] := List.getElem?_eq_getElem hi
      rw [hd] at hm
      unfold sLoop at hm
      refine .inr ⟨wk.go g H i _ tt.l (md.wr rr).f hx, fun σ' H' => ∃ g S ρ, md.R g S H' ∧ Tr md gJ g0 H0 S0 g H' S ∧ EnvS md H0 g H' σ' ρ ∧ sLoop g1 m (xs.drop (i + 1)) ρ S = some res, fun σ' H' ⟨g', S', ρ', a2, a3, a4, a5⟩ => ⟨j - 1, by omega, g', S', ρ', a2, a3, a4, a5, by omega⟩, fun v H' hy => ?_⟩
      obtain ⟨g2, gr2, fx⟩ := wk.yld g S H i _ v H' tt.l (md.wr rr) hx hy
      obtain ⟨r2, t2⟩ := md.grow rr gr2
      split at hm
      · cases hm
      · rename_i ρ1 q1
        refine rg v σ H' g2 S ρ ρ1 _ _ (md.wr r2) (er.step t2).f.r fx q1 fun σ3 tg3 => ?_
        have er3 := (er.step t2).tgt tg3
        split at hm
        · rename_i ρ' S2 q2
          exact r σ3 H' g2 S ρ1 gJ g0 H0 S0 _ (.nx ρ', S2) r0 r2 (tt.step t2) er3 q2 fun σ4 g4 H4 r4 t4 e4 => ⟨g4, S2, ρ', r4, t4, e4, hm⟩
        · rename_i ρ' S2 q2
          exact r σ3 H' g2 S ρ1 gJ g0 H0 S0 _ (.ct ρ', S2) r0 r2 (tt.step t2) er3 q2 fun σ4 g4 H4 r4 t4 e4 => ⟨g4, S2, ρ', r4, t4, e4, hm⟩
        · rename_i ρ' S2 q2
          cases hm
          exact r σ3 H' g2 S ρ1 gJ g0 H0 S0 _ (.bk ρ', S2) r0 r2 (tt.step t2) er3 q2 po
        · rename_i n1 n2 n3
          obtain ⟨res1, S1⟩ := res
          refine r σ3 H' g2 S ρ1 gJ g0 H0 S0 _ (res1, S1) r0 r2 (tt.step t2) er3 hm ?_
          cases res1 with
          | nx ρ' => exact absurd hm (n1 ρ' S1)
          | ct ρ' => exact absurd hm (n2 ρ' S1)
          | bk ρ' => exact absurd hm (n3 ρ' S1)
          | rt x => exact po
          | xx c fs ρ' => exact po
    · have hi2 : i = xs.length := by omega
      rw [List.drop_of_length_le (by omega)] at hm
      unfold sLoop at hm
      cases hm
      subst hi2
      exact .inl ⟨wk.stop g H tt.l (md.wr rr).f, po σ g H rr tt er⟩
  · rename_i c fs S' q
    cases hm
    exact ri σ H g S ρ _ (.ex c fs, S') rr er.f q fun cls d g' H' r1 t1 xr => po cls d σ g' H' r1 (tt.step t1) (er.step t1) xr
  · cases hm

/-! ### comprehensions with effects -/
def cX {K : PySem.W.Frag} (md : Md K) (W : WX) (m : Xm) : TE := fun σ H Q => ∃ (g : G) (S : Store) (ρ : Env) (r : Res PV × Store), md.R g S H ∧ EnvF md g H σ ρ ∧ m ρ S = some r ∧ PoX md g H S σ W Q r
theorem SimX.cr {m : Xm} (h : SimX X md W e m) : PE X e (cX md W m) := by
  obtain ⟨t, p, r⟩ := h.ex
  refine ⟨fun pins s σ H Q I q => p.run pins s σ H Q I ?_⟩
  obtain ⟨g, S, ρ, res, rr, er, hm, po⟩ := q
  exact r σ H g S ρ Q res rr er hm po
def cTX {K : PySem.W.Frag} (md : Md K) (W : WX) (m : Tm) : TT := fun σ H Q => ∃ (g : G) (S : Store) (ρ : Env) (r : Res Bool × Store), md.R g S H ∧ EnvF md g H σ ρ ∧ m ρ S = some r ∧ PoT md g H S σ W Q r
structure SimTsX (X : Cx) (md : Md X.K) (W : WX) (ifs : List Expr) (m : Tm) : Prop where
  ex : PTs X ifs (cTX md W m)
def yYesX : Tm := fun _ S => some (.ok true, S)
theorem tsx_nil : SimTsX X md W [] yYesX := ⟨⟨fun pins s σ H Q I q => by
  obtain ⟨g, S, ρ, r, rr, e, hm, po⟩ := q
  cases hm
  exact pts_nil.run pins s σ H Q I (po g H rr (md.refl rr))⟩⟩
theorem tsx_one {m : Tm} (h : SimTX X md W c m) : SimTsX X md W [c] m := by
  obtain ⟨t, p, r⟩ := h.ex
  refine ⟨pts_one ⟨fun pins s σ H Q I q => p.run pins s σ H Q I ?_⟩⟩
  obtain ⟨g, S, ρ, res, rr, er, hm, po⟩ := q
  exact r σ H g S ρ Q res rr er hm po
theorem wipeP_get (ρ : Env) : ∀ (vs : List Nat) (i : Nat) (x : PV), (wipeP ρ vs)[i]? = some (some x) → ρ[i]? = some (some x) ∧ i ∉ vs
  | [], i, x, h => ⟨h, by simp⟩
  | v :: vs, i, x, h => by
    rcases get_set h with ⟨_, _, hy⟩ | ⟨n, h⟩
    · cases hy
    · obtain ⟨h1, h2⟩ := wipeP_get ρ vs i x h
      exact ⟨h1, by simp [n, h2]⟩
theorem EnvF.wipe {K : PySem.W.Frag} {md : Md K} {g : G} {H : Hp} {σ : St} {ρ : Env} (e : EnvF md g H σ ρ) (vs : List Nat) : EnvF md g H (L2.wipe σ vs) (wipeP ρ vs) :=
  ⟨e.r.wipe vs, fun i x a h hf hs => by
    obtain ⟨h1, h2⟩ := wipeP_get ρ vs i x h
    rw [wipe_get, if_neg (fun z => h2 z.1)] at hs
    exact e.o i x a h1 hf hs⟩
theorem EnvF.tgt {K : PySem.W.Frag} {md : Md K} {g : G} {H : Hp} {σ σ' : St} {ρ ρ' : Env} {ks : List Nat} (e : EnvF md g H σ ρ) (t : Tgt K g H σ ρ σ' ρ' ks) : EnvF md g H σ' ρ' :=
  ⟨t.r, fun i x a h hf hs => by obtain ⟨h1, h2⟩ := t.o i x h hf; exact e.o i x a h1 hf (h2 ▸ hs)⟩
def lcGoX (tg : Tg) (tt : Tm) (te : Xm) (ρ : Env) : List PV → Store → Option (List PV × Store)
  | [], S => some ([], S)
  | x :: xs, S => match tg x ρ with
    | none => none
    | some ρ1 => match tt ρ1 S with
      | some (.ok false, S1) => lcGoX tg tt te ρ xs S1
      | some (.ok true, S1) => (match te ρ1 S1 with
        | some (.ok y, S2) => if fz y then (lcGoX tg tt te ρ xs S2).map fun r => (y :: r.1, r.2) else none
        | _ => none)
      | _ => none
/-- an expression that makes a new list -/
def PoL {K : PySem.W.Frag} (md : Md K) (g : G) (H : Hp) (S : Store) (σ : St) (W : WX) (Q : VK) : Res (List PV) × Store → Prop
  | (.ok xs, S') => ∀ p vs g' H', md.R g' S' H' → md.T g H S g' H' S' → H p = none → H' p = some (.lst vs) → g'.F p = none → md.fr g' p → FRs K g' xs vs → Q (.ref p) H'
  | (.ex c fs, S') => ∀ cls d g' H', md.R g' S' H' → md.T g H S g' H' S' → XR K g' H' c fs cls d → W cls d σ H'
def RchL {K : PySem.W.Frag} (md : Md K) (W : WX) (t : TE) (m : Xa) : Prop :=
  ∀ (σ : St) (H : Hp) (g : G) (S : Store) (ρ : Env) (Q : VK) (r : Res (List PV) × Store), md.R g S H → EnvF md g H σ ρ → m ρ S = some r → PoL md g H S σ W Q r → t σ H Q
structure SimXL (X : Cx) (md : Md X.K) (W : WX) (e : Expr) (m : Xa) : Prop where
  ex : ∃ t : TE, PE X e t ∧ RchL md W t m
def lLcX (it : Xa) (tg : Tg) (tt : Tm) (te : Xm) (vs : List Nat) : Xa := fun ρ S => match it ρ S with
  | some (.ok xs, S') => if decide (xs.length ≤ most) then (lcGoX tg tt te (wipeP ρ vs) xs S').map fun r => (.ok r.1, r.2) else none
  | some (.ex c fs, S') => some (.ex c fs, S')
  | none => none
theorem rch_lcX {K : PySem.W.Frag} {md : Md K} {it : Xa} {g1 : Tg} {tt : Tm} {te : Xm} {vs ks : List Nat} {wi : TI} (hk : ∀ k ∈ ks, k ∈ vs) (ri : RchI md W wi it) :
    RchL md W (tLc wi (cG K ks g1) (cTX md WX0 tt) (cX md WX0 te) vs) (lLcX it g1 tt te vs) := by
  intro σ H g S ρ Q r rr er hm po
  unfold lLcX at hm
  split at hm
  · rename_i xs SJ q
    split at hm
    · rename_i hlen
      have hlen := of_decide_eq_true hlen
      cases q2 : lcGoX g1 tt te (wipeP ρ vs) xs SJ with
      | none => rw [q2] at hm; cases hm
      | some ys =>
        rw [q2] at hm
        obtain ⟨ys, SE⟩ := ys
        have e2 : r = (.ok ys, SE) := (Option.some.inj hm).symm
        subst e2
        refine ri σ H g S ρ _ (.ok xs, SJ) rr er q fun J gJ H1 rJ tJ wk D hD => ?_
        have fD : gJ.F D = none := by
          cases e : gJ.F D with
          | none => rfl
          | some u => rcases (md.wr rJ).f D u (.inl e) with q | ⟨_, q⟩ <;> rw [hD] at q <;> cases q
        have gr0 : Grow gJ H1 gJ (upd H1 D (.lst [])) := .loose (md.wr rJ) hD
        obtain ⟨r0, t0⟩ := md.grow rJ gr0
        refine ⟨fun i j H => ∃ g S vals done rest, md.R g S H ∧ md.T gJ H1 SJ g H S ∧ H D = some (.lst vals) ∧ g.F D = none ∧ md.fr g D ∧ FRs K g done vals ∧ lcGoX g1 tt te (wipeP ρ vs) (xs.drop i) S = some (rest, SE) ∧ done ++ rest = ys ∧ i + j = xs.length ∧ done.length ≤ i,
          ⟨xs.length, gJ, SJ, [], [], ys, r0, t0, upd_same, fD, md.new rJ gr0 hD, .nil, by simpa using q2, rfl, by omega, Nat.le_refl _⟩, ?_⟩
        rintro i j H ⟨g, S, vals, done, rest, rg, tg', hHD, fD, frD, fd, hgo, hys, hij, hdl⟩
        have le := md.le tg'
        by_cases hi : i < xs.length
        · have hd : xs.drop i = xs[i] :: xs.drop (i + 1) := List.drop_eq_getElem_cons hi
          have hx : xs[i]? = some xs[i] := List.getElem?_eq_getElem hi
          rw [hd] at hgo
          unfold lcGoX at hgo
          refine .inr ⟨wk.go g H i _ le (md.wr rg).f hx, fun H' => ∃ g S vals done rest, md.R g S H' ∧ md.T gJ H1 SJ g H' S ∧ H' D = some (.lst vals) ∧ g.F D = none ∧ md.fr g D ∧ FRs K g done vals ∧ lcGoX g1 tt te (wipeP ρ vs) (xs.drop (i + 1)) S = some (rest, SE) ∧ done ++ rest = ys ∧ done.length ≤ i + 1,
            fun H' ⟨g', S', v', d', r', a1, a2, a3, a4, a5, a6, a7, a8, a9⟩ => ⟨j - 1, by omega, g', S', v', d', r', a1, a2, a3, a4, a5, a6, a7, a8, by omega, a9⟩, fun v H' hy => ?_⟩
          obtain ⟨g2, gr2, fx⟩ := wk.yld g S H i _ v H' le (md.wr rg) hx hy
          obtain ⟨r2, t2⟩ := md.grow rg gr2
          have e2 : EnvF md g2 H' (L2.wipe σ vs) (wipeP ρ vs) := (((er.step tJ).step tg').step t2).wipe vs
          obtain ⟨o1, o2, o3⟩ := md.own t2 hHD fD frD
          have f2 := FRs.mono gr2.le _ _ fd
          split at hgo
          · cases hgo
          · rename_i ρ1 q1
            refine ⟨g2, S, _, ρ1, _, md.wr r2, e2.r, fx, q1, fun σ3 t3 => ⟨?_, ?_⟩⟩
            · rw [← wipe_wipe σ vs]
              exact wipe_same t3.l fun n hn => t3.s n fun z => hn (hk n z)
            · have e3 : EnvF md g2 H' σ3 ρ1 := e2.tgt t3
              split at hgo
              · rename_i S3 q3
                refine ⟨g2, S, ρ1, _, r2, e3, q3, fun g3 H3 r3 t3' => ?_⟩
                refine iteF ?_
                obtain ⟨p1, p2, p3⟩ := md.own t3' o1 o2 o3
                exact ⟨g3, S3, vals, done, rest, r3, md.trans tg' (md.trans t2 t3'), p1, p2, p3, FRs.mono (md.le t3') _ _ f2, hgo, hys, by omega⟩
              · rename_i S3 q3
                refine ⟨g2, S, ρ1, _, r2, e3, q3, fun g3 H3 r3 t3' => ?_⟩
                refine iteT ?_
                obtain ⟨p1, p2, p3⟩ := md.own t3' o1 o2 o3
                split at hgo
                · rename_i y S4 q4
                  split at hgo
                  · rename_i hfy
                    cases q5 : lcGoX g1 tt te (wipeP ρ vs) (xs.drop (i + 1)) S4 with
                    | none => rw [q5] at hgo; cases hgo
                    | some rest' =>
                      rw [q5] at hgo
                      obtain ⟨rest', SE'⟩ := rest'
                      have e5 : (y :: rest', SE') = (rest, SE) := Option.some.inj hgo
                      cases e5
                      refine ⟨g3, S3, ρ1, _, r3, e3.step t3', q4, fun u g4 H4 r4 t4 ov => ?_⟩
                      obtain ⟨z1, z2, z3⟩ := md.own t4 p1 p2 p3
                      have tA := md.trans tg' (md.trans t2 (md.trans t3' t4))
                      have fd4 : FRs K g4 done vals := FRs.mono (md.le t4) _ _ (FRs.mono (md.le t3') _ _ f2)
                      have hvl : vals.length < sizeLine := by
                        rw [← fd.length, sizeLine_eq]
                        have : most = 1000000 := rfl
                        omega
                      refine ⟨vals, z1, hvl, ?_⟩
                      obtain ⟨rB, tB⟩ := md.put (.lst (vals ++ [u])) rJ tA r4 z1 hD z2 z3
                      exact ⟨g4, S4, vals ++ [u], done ++ [y], rest', rB, tB, upd_same, z2, z3, fd4.append (.cons (ov.fr hfy) .nil), q5, by rw [List.append_assoc]; exact hys, by simp; omega⟩
                  · cases hgo
                · cases hgo
              · cases hgo
        · have hi2 : i = xs.length := by omega
          rw [List.drop_of_length_le (by omega)] at hgo
          unfold lcGoX at hgo
          cases hgo
          rw [List.append_nil] at hys
          subst hys
          subst hi2
          exact .inl ⟨wk.stop g H le (md.wr rg).f, po D vals g H rg (md.trans tJ tg') (md.free tJ hD) hHD fD frD fd⟩
    · cases hm
  · rename_i c fs S' q
    cases hm
    exact ri σ H g S ρ _ (.ex c fs, S') rr er q po
  · cases hm
theorem xl_lc {it : Xa} {g1 : Tg} {tt : Tm} {te : Xm} {ks : List Nat} (hc : X.calm = true) (hN : X.N.Nodup) (hi : SimIX X md W tg iter it) (ok : BlkOk X.N X.env.scope scope own) (hk : ∀ k ∈ ks, k ∈ own.map (·.2))
    (hg : ∀ (s : Shared) (H : Hp) (C : Addr) (cl : List (Str × Addr)) (fp : List Addr), SimG (X.blk s H scope (compEnvC scope cl C X.env) fp) tg ks g1) (ht : ∀ (s : Shared) (H : Hp) (C : Addr) (cl : List (Str × Addr)) (fp : List Addr), SimTsX (X.blk s H scope (compEnvC scope cl C X.env) fp) md WX0 ifs tt)
    (he : ∀ (s : Shared) (H : Hp) (C : Addr) (cl : List (Str × Addr)) (fp : List Addr), SimX (X.blk s H scope (compEnvC scope cl C X.env) fp) md WX0 elt te) (hs : ∀ x, foldedSetIterable iter X.env x = pure x := by intro _; rfl) :
    SimXL X md W (.ListComp elt [⟨tg, iter, ifs, 0⟩] scope pos) (lLcX it g1 tt te (own.map (·.2))) := by
  obtain ⟨wi, pi, ri⟩ := hi.ex
  exact ⟨_, pe_lc hc hN pi ok (fun s H C cl fp => (hg s H C cl fp).c) (fun s H C cl fp => (ht s H C cl fp).ex) (fun s H C cl fp => (he s H C cl fp).cr) hs, rch_lcX hk ri⟩
/-- a pure one -/
theorem xl_p {m : Ar} (h : SimL X W e m) : SimXL X md W e (iP m) := by
  obtain ⟨t, p, r⟩ := h.ex
  refine ⟨t, p, fun σ H g S ρ Q res rr er hm po => ?_⟩
  unfold iP at hm
  cases q : m ρ S with
  | none => rw [q] at hm; cases hm
  | some z =>
    rw [q] at hm
    have e2 : res = (z, S) := (Option.some.inj hm).symm
    subst e2
    refine r σ H g S ρ Q z (md.wr rr) er.r q ?_
    cases z with
    | ok xs => exact fun p vs g' H' gr hp hp' fp fr => by obtain ⟨r1, t1⟩ := md.grow rr gr; exact po p vs g' H' r1 t1 hp hp' fp (md.new rr gr hp) fr
    | ex c fs => exact fun cls d g' H' gr x => by obtain ⟨r1, t1⟩ := md.grow rr gr; exact po cls d g' H' r1 t1 x
/-- never changed again -/
def xFzX (m : Xa) : Xm := fun ρ S => match m ρ S with
  | some (.ok xs, S') => some (.ok (.lst xs), S')
  | some (.ex c fs, S') => some (.ex c fs, S')
  | none => none
theorem x_fz {m : Xa} (h : SimXL X md W e m) : SimX X md W e (xFzX m) := by
  obtain ⟨t, p, r⟩ := h.ex
  refine ⟨t, p, fun σ H g S ρ Q res rr er hm po => ?_⟩
  unfold xFzX at hm
  split at hm
  · rename_i xs S' q
    cases hm
    refine r σ H g S ρ _ (.ok xs, S') rr er q fun p vs g' H' r1 t1 hp hp' fp fr f => ?_
    obtain ⟨r2, t2⟩ := md.rest t1 r1 hp' hp fp fr
    exact po _ _ H' r2 t2 (.frz (.lst (.inl upd_same) (FRs.mono (GLe.laid fp) _ _ f)))
  · rename_i c fs S' q
    cases hm
    exact r σ H g S ρ _ (.ex c fs, S') rr er q po
  · cases hm
/-- an object of the store from now on -/
def xShare (m : Xa) : Xm := fun ρ S => match m ρ S with
  | some (.ok xs, S') => some (.ok (.ref S'.length), S' ++ [.lst xs])
  | some (.ex c fs, S') => some (.ex c fs, S')
  | none => none
theorem RE.adopt {K : PySem.W.Frag} {g : G} {S : Store} {H : Hp} (r : RE K g S H) {g0 : G} {H0 : Hp} (t : TE' g0 H0 g H) {a : Addr} {o : SO} (h0 : H0 a = none) (hf : ∀ n, n < g.k → g.mu n ≠ a) (fa : g.F a = none) (new : SOw K (g.add a) H a o) :
    RE K (g.add a) (S ++ [o]) H ∧ TE' g0 H0 (g.add a) H ∧ FR K (g.add a) (.ref S.length) (.ref a) := by
  have le := g.add_le a
  have mu_old : ∀ n, n < g.k → (g.add a).mu n = g.mu n := le.m
  refine ⟨⟨r.f, by rw [List.length_append, List.length_singleton, r.k]; rfl, fun n ob q => ?_, fun n m h1 h2 e => ?_, fun n hn => ?_⟩, ⟨t.le.trans le, t.dom, t.keep, fun n h1 h2 => ?_, t.fz⟩, ?_⟩
  · by_cases hn : n < S.length
    · rw [List.getElem?_append_left hn] at q
      rw [mu_old n (by rw [← r.k]; exact hn)]
      exact (r.s n ob q).mono le fun o h => h
    · have hl : n < (S ++ [o]).length := (List.getElem?_eq_some_iff.mp q).1
      rw [List.length_append, List.length_singleton] at hl
      have e1 : n = S.length := by omega
      subst e1
      rw [List.getElem?_append_right (Nat.le_refl _), Nat.sub_self] at q
      cases q
      rw [r.k, G.add_mu]; exact new
  · have h1 : n < g.k + 1 := h1
    have h2 : m < g.k + 1 := h2
    by_cases e1 : n = g.k
    · by_cases e2 : m = g.k
      · rw [e1, e2]
      · rw [e1, G.add_mu, mu_old m (by omega)] at e
        exact absurd e.symm (hf m (by omega))
    · by_cases e2 : m = g.k
      · rw [e2, G.add_mu, mu_old n (by omega)] at e
        exact absurd e (hf n (by omega))
      · rw [mu_old n (by omega), mu_old m (by omega)] at e
        exact r.inj n m (by omega) (by omega) e
  · have hn : n < g.k + 1 := hn
    show g.F _ = none
    by_cases e1 : n = g.k
    · rw [e1, G.add_mu]; exact fa
    · rw [mu_old n (by omega)]; exact r.nf n (by omega)
  · have h2 : n < g.k + 1 := h2
    by_cases e1 : n = g.k
    · rw [e1, G.add_mu]; exact h0
    · rw [mu_old n (by omega)]; exact t.new n h1 (by omega)
  · have := FR.ref (K := K) (g := g.add a) (n := g.k) (Nat.lt_succ_self _)
    rw [G.add_mu] at this
    rw [r.k]; exact this
theorem x_share {m : Xa} (h : SimXL X (Em X.K) W e m) : SimX X (Em X.K) W e (xShare m) := by
  obtain ⟨t, p, r⟩ := h.ex
  refine ⟨t, p, fun σ H g S ρ Q res rr er hm po => ?_⟩
  unfold xShare at hm
  split at hm
  · rename_i xs S' q
    cases hm
    refine r σ H g S ρ _ (.ok xs, S') rr er q fun p vs g' H' r1 t1 hp hp' fp fr f => ?_
    obtain ⟨r2, t2, f2⟩ := RE.adopt r1 t1 (o := .lst xs) hp fr fp ⟨vs, hp', FRs.mono (g'.add_le p) _ _ f⟩
    exact po _ _ H' r2 t2 (.frz f2)
  · rename_i c fs S' q
    cases hm
    exact r σ H g S ρ _ (.ex c fs, S') rr er q po
  · cases hm
end
end L3

end
section
set_option Elab.async false
set_option linter.all false
set_option maxRecDepth 100000
set_option maxHeartbeats 4000000
namespace L3
open PySem PySem.Spec L2
set_option autoImplicit false

/-! ### order of data that are alike -/
def notN : PyData → Bool
  | .none => false
  | _ => true
def ordOk (x y : PV) : Bool := isD x && isD y && PySem.W.alike (toD x) (toD y) && notN (toD x) && decide (min (dep x) (dep y) ≤ 60)
def oOrd (f : PyData → PyData → Bool) : PV → PV → Option PV := fun x y => if ordOk x y then some (.bl (f (toD x) (toD y))) else none
def rOrd (K : PySem.W.Frag) (f : PyData → PyData → Bool) : R2 := fun x y H Q => ∃ d e, Dp K H x d ∧ Dp K H y e ∧ PySem.W.alike d e = true ∧ d ≠ .none ∧ min d.depth e.depth ≤ 60 ∧ Q (.bl (f d e)) H
theorem oOrd_ok {K : PySem.W.Frag} {f : PyData → PyData → Bool} : OpOk K (oOrd f) (rOrd K f) := by
  intro g S H x y z u v Q w hx hy e q
  unfold oOrd at e
  split at e
  · rename_i hc
    unfold ordOk at hc
    simp only [Bool.and_eq_true, decide_eq_true_eq] at hc
    obtain ⟨⟨⟨⟨h1, h2⟩, h3⟩, h4⟩, h5⟩ := hc
    cases e
    refine ⟨_, _, hx.dp w.f h1, hy.dp w.f h2, h3, fun z => ?_, ?_, q _ g H (.refl w) (.frz (.bl _))⟩
    · rw [z] at h4; cases h4
    · rw [depth_toD x h1, depth_toD y h2]; exact h5
  · cases e
abbrev fLt (d e : PyData) : Bool := PySem.W.dataLt d e
abbrev fGt (d e : PyData) : Bool := PySem.W.dataLt e d
abbrev fLe (d e : PyData) : Bool := !PySem.W.dataLt e d
abbrev fGe (d e : PyData) : Bool := !PySem.W.dataLt d e
section
variable {X : Cx}
theorem op_ltD (hu : X.A.units + 64 < cLine) : OpR X (compareOp .Lt) (rOrd X.K fLt) := by
  intro pins s σ H x y v u Q I rx ry h
  obtain ⟨d, e, hd, he, ha, hn, hm, q⟩ := h
  obtain ⟨as, r1⟩ := Dp.reads I d x v hd rx
  obtain ⟨bs, r2⟩ := Dp.reads I e y u he ry
  exact PySem.W.lt_data r1 r2 ha hn (by omega) ⟨.bl _, H, I, rfl, q⟩
theorem op_gtD (hu : X.A.units + 64 < cLine) : OpR X (compareOp .Gt) (rOrd X.K fGt) := by
  intro pins s σ H x y v u Q I rx ry h
  obtain ⟨d, e, hd, he, ha, hn, hm, q⟩ := h
  obtain ⟨as, r1⟩ := Dp.reads I d x v hd rx
  obtain ⟨bs, r2⟩ := Dp.reads I e y u he ry
  exact PySem.W.gt_data r1 r2 ha hn (by omega) ⟨.bl _, H, I, rfl, q⟩
theorem op_leD (hu : X.A.units + 64 < cLine) : OpR X (compareOp .LtE) (rOrd X.K fLe) := by
  intro pins s σ H x y v u Q I rx ry h
  obtain ⟨d, e, hd, he, ha, hn, hm, q⟩ := h
  obtain ⟨as, r1⟩ := Dp.reads I d x v hd rx
  obtain ⟨bs, r2⟩ := Dp.reads I e y u he ry
  exact PySem.W.le_data r1 r2 ha hn (by omega) ⟨.bl _, H, I, rfl, q⟩
theorem op_geD (hu : X.A.units + 64 < cLine) : OpR X (compareOp .GtE) (rOrd X.K fGe) := by
  intro pins s σ H x y v u Q I rx ry h
  obtain ⟨d, e, hd, he, ha, hn, hm, q⟩ := h
  obtain ⟨as, r1⟩ := Dp.reads I d x v hd rx
  obtain ⟨bs, r2⟩ := Dp.reads I e y u he ry
  exact PySem.W.ge_data r1 r2 ha hn (by omega) ⟨.bl _, H, I, rfl, q⟩
theorem OpR.or {α : Type} {f : Value → Value → Sem Value} {r r' : R2} (h : OpR X f r) (h' : OpR X f r') : OpR X f (fun x y H Q => r x y H Q ∨ r' x y H Q) := by
  intro pins s σ H x y v u Q I rx ry q
  rcases q with q | q
  · exact h pins s σ H x y v u Q I rx ry q
  · exact h' pins s σ H x y v u Q I rx ry q
end
def oLt : PV → PV → Option PV := oE oLtI (oOrd fLt)
def oLe : PV → PV → Option PV := oE oLeI (oOrd fLe)
def oGt : PV → PV → Option PV := oE oGtI (oOrd fGt)
def oGe : PV → PV → Option PV := oE oGeI (oOrd fGe)

/-! ### sorted -/
section
variable {α : Type}
def insP (le : α → α → Bool) (a : α) : List α → List α
  | [] => [a]
  | b :: l => if le a b then a :: b :: l else b :: insP le a l
def isrt (le : α → α → Bool) : List α → List α
  | [] => []
  | a :: l => insP le a (isrt le l)
theorem insP_app {le : α → α → Bool} {a : α} {l₂ : List α} (h2 : ∀ b, b ∈ l₂ → le a b = true) : ∀ l₁ : List α, (∀ b, b ∈ l₁ → (!le a b) = true) → insP le a (l₁ ++ l₂) = l₁ ++ a :: l₂
  | [], _ => by
    cases l₂ with
    | nil => rfl
    | cons b l => show (if le a b then _ else _) = _; rw [if_pos (h2 b List.mem_cons_self)]; rfl
  | b :: l, h => by
    have hb := h b List.mem_cons_self
    rw [Bool.not_eq_true'] at hb
    show (if le a b then a :: b :: (l ++ l₂) else b :: insP le a (l ++ l₂)) = _
    rw [hb, if_neg Bool.false_ne_true, insP_app h2 l fun c hc => h c (List.mem_cons_of_mem _ hc)]
    rfl
theorem isrt_eq {le : α → α → Bool} (trans : ∀ a b c, le a b = true → le b c = true → le a c = true) (total : ∀ a b, (le a b || le b a) = true) : ∀ l : List α, isrt le l = l.mergeSort le
  | [] => by simp [isrt]
  | a :: l => by
    obtain ⟨l₁, l₂, h1, h2, h3⟩ := List.mergeSort_cons trans total a l
    have s := List.pairwise_mergeSort trans total (a :: l)
    rw [h1] at s
    have s2 := (List.pairwise_append.mp s).2.1
    show insP le a (isrt le l) = _
    rw [isrt_eq trans total l, h2, h1]
    exact insP_app (fun b hb => (List.pairwise_cons.mp s2).1 b hb) l₁ h3
end
theorem dataLe_trans {β : Type} (k : β → PyData) (a b c : β) (h1 : PySem.W.dataLe false k a b = true) (h2 : PySem.W.dataLe false k b c = true) : PySem.W.dataLe false k a c = true := (PySem.W.sortLe_total (PyProof.Rows.listOrd PyProof.Rows.itemOrd) false fun b => PySem.W.keyToks (k b)).trans a b c h1 h2
theorem dataLe_total {β : Type} (k : β → PyData) (a b : β) : (PySem.W.dataLe false k a b || PySem.W.dataLe false k b a) = true := by
  have := (PySem.W.sortLe_total (PyProof.Rows.listOrd PyProof.Rows.itemOrd) false fun b => PySem.W.keyToks (k b)).total a b
  rw [Bool.or_eq_true]; exact this
def rSortedD (K : PySem.W.Frag) : List V → Hp → VK → Prop := fun vs H Q => ∃ (a : Addr) (ws : List (PV × V)), vs = [V.ref a] ∧ SqL K H a (ws.map (·.2)) ∧ (∀ p ∈ ws, Dp K H p.2 (toD p.1)) ∧ PySem.W.AllAlike (ws.map fun p => toD p.1) ∧ PySem.W.Sortable (ws.map fun p => toD p.1) ∧ (∀ p ∈ ws, (toD p.1).depth ≤ 60) ∧
  ∀ p, H p = none → Q (.ref p) (upd H p (.lst ((ws.mergeSort (PySem.W.dataLe false fun p => toD p.1)).map (·.2))))
section
variable {X : Cx}
theorem each_vals : ∀ {ws : List (PV × V)} {us : List Value}, Vals (ws.map (·.2)) us → PySem.W.EachIs (fun u (p : PV × V) => RelV p.2 u) us ws
  | [], us, h => by cases h; exact .nil
  | p :: ws, us, h => by
    cases h with
    | cons a b => exact .cons a (each_vals b)
theorem vals_each : ∀ {ws : List (PV × V)} {us : List Value}, PySem.W.EachIs (fun u (p : PV × V) => RelV p.2 u) us ws → Vals (ws.map (·.2)) us
  | _, _, .nil => .nil
  | _, _, .cons a b => .cons a (vals_each b)
theorem each_mem {α β : Type} {R R' : α → β → Prop} : ∀ {us : List α} {ws : List β}, PySem.W.EachIs R us ws → (∀ u p, p ∈ ws → R u p → R' u p) → PySem.W.EachIs R' us ws
  | _, _, .nil, _ => .nil
  | _, _, .cons a b, h => .cons (h _ _ List.mem_cons_self a) (each_mem b fun u p m r => h u p (List.mem_cons_of_mem _ m) r)
theorem cr_sortedD (hu : X.A.units + 64 < cLine) : CallR X (.builtin "sorted") (rSortedD X.K) := by
  intro pins s σ H vs us Q I r h
  obtain ⟨a, ws, rfl, hs, hd, ha, hk, hdep, q⟩ := h
  obtain ⟨its, rv, hl, hz⟩ := I.list hs
  rw [Vals.ref1 r]
  have e := each_vals rv
  refine PySem.W.sorted_data (vs := its) (bs := ws) (enc := fun p => toD p.1) (R := fun u p => RelV p.2 u) hl.isList e (each_mem e fun u p m r => Dp.reads I _ p.2 u (hd p m) r) ha hk (by rw [List.length_map] at hz; exact hz) (fun b hb => by have := hdep b hb; omega) fun out hlen eo => ?_
  obtain ⟨ep, he'⟩ := PyProof.Rows.sortedAll_at s.heap its out.toArray
  refine ⟨.ref _, upd H (s.heap.objs.size + 1) (.lst ((ws.mergeSort (PySem.W.dataLe false fun p => toD p.1)).map (·.2))), I.laid (t' := s.toks) (fun _ _ => PyProof.Rows.sortedAll_old) (Nat.le_succ _) ⟨?_, out, ep, vals_each eo, he'⟩, rfl, q _ (I.hok.fresh (Nat.le_succ _))⟩
  rw [List.length_map, List.length_mergeSort]
  rw [List.length_map] at hz
  exact hz
end
def allAl : List PyData → Bool
  | [] => true
  | d :: ds => PySem.W.alike d d && ds.all (fun e => PySem.W.alike d e && PySem.W.alike e d) && allAl ds
theorem allAl_ok : ∀ {ds : List PyData}, allAl ds = true → PySem.W.AllAlike ds
  | [], _ => fun d hd => by cases hd
  | d :: ds, h => by
    unfold allAl at h
    simp only [Bool.and_eq_true, List.all_eq_true] at h
    obtain ⟨⟨h0, h1⟩, h2⟩ := h
    have ih := allAl_ok h2
    intro x hx y hy
    rcases List.mem_cons.mp hx with ex | hx
    · rcases List.mem_cons.mp hy with ey | hy
      · rw [ex, ey]; exact h0
      · rw [ex]; exact (h1 y hy).1
    · rcases List.mem_cons.mp hy with ey | hy
      · rw [ey]; exact (h1 x hx).2
      · exact ih x hx y hy
def tupNe : PyData → Bool
  | .tuple (_ :: _) => true
  | _ => false
def othr : PyData → Bool
  | .tuple _ => false
  | .none => false
  | _ => true
def srtOk (ds : List PyData) : Bool := ds.all tupNe || ds.all othr
theorem srtOk_ok {ds : List PyData} (h : srtOk ds = true) : PySem.W.Sortable ds := by
  unfold srtOk at h
  rw [Bool.or_eq_true, List.all_eq_true, List.all_eq_true] at h
  rcases h with h | h
  · refine .inl fun d hd => ?_
    have := h d hd
    unfold tupNe at this
    split at this
    · exact ⟨_, _, rfl⟩
    · cases this
  · refine .inr fun d hd => ⟨fun z => ?_, fun xs z => ?_⟩
    · have := h d hd; rw [z] at this; cases this
    · have := h d hd; rw [z] at this; cases this
def srtP (xs : List PV) : List PV := isrt (PySem.W.dataLe false toD) xs
def bSorted : List PV → Option PV
  | [x] => match lsOf x with
    | some xs => if isDs xs && allAl (toDs xs) && srtOk (toDs xs) && decide (deps xs ≤ 60) then some (.lst (srtP xs)) else none
    | none => none
  | _ => none
theorem toDs_map : ∀ xs : List PV, toDs xs = xs.map toD
  | [] => rfl
  | x :: xs => by unfold toDs; rw [toDs_map xs]; rfl
theorem isDs_mem : ∀ {xs : List PV}, isDs xs = true → ∀ x ∈ xs, isD x = true
  | [], _, x, hx => by cases hx
  | y :: ys, h, x, hx => by
    unfold isDs at h
    rw [Bool.and_eq_true] at h
    rcases List.mem_cons.mp hx with rfl | hx
    · exact h.1
    · exact isDs_mem h.2 x hx
theorem deps_mem : ∀ {xs : List PV} {n : Nat}, deps xs ≤ n → ∀ x ∈ xs, dep x ≤ n
  | [], _, _, x, hx => by cases hx
  | y :: ys, n, h, x, hx => by
    unfold deps at h
    rcases List.mem_cons.mp hx with rfl | hx
    · omega
    · exact deps_mem (by omega) x hx
theorem FRs.zip {K : PySem.W.Frag} {g : G} : ∀ {xs : List PV} {vs : List V}, FRs K g xs vs → (xs.zip vs).map (·.1) = xs ∧ (xs.zip vs).map (·.2) = vs ∧ ∀ p ∈ xs.zip vs, FR K g p.1 p.2
  | _, _, .nil => ⟨rfl, rfl, fun p h => by cases h⟩
  | _, _, .cons a b => by
    obtain ⟨h1, h2, h3⟩ := FRs.zip b
    refine ⟨by simp [h1], by simp [h2], fun p hp => ?_⟩
    rw [List.zip_cons_cons] at hp
    rcases List.mem_cons.mp hp with rfl | hp
    · exact a
    · exact h3 p hp
theorem FRs.unzip {K : PySem.W.Frag} {g : G} : ∀ {ws : List (PV × V)}, (∀ p ∈ ws, FR K g p.1 p.2) → FRs K g (ws.map (·.1)) (ws.map (·.2))
  | [], _ => .nil
  | p :: ws, h => .cons (h p List.mem_cons_self) (FRs.unzip fun q hq => h q (List.mem_cons_of_mem _ hq))
theorem bSorted_ok {K : PySem.W.Frag} : CallOk K bSorted (rSortedD K) := by
  intro g S H xs z us Q w hx e q
  unfold bSorted at e
  split at e
  · rename_i x
    obtain ⟨u, rfl, hu⟩ := ovs1 hx
    split at e
    · rename_i ys e2
      split at e
      · rename_i hc
        simp only [Bool.and_eq_true, decide_eq_true_eq] at hc
        obtain ⟨⟨⟨c1, c2⟩, c3⟩, c4⟩ := hc
        cases e
        obtain ⟨a, vs, rfl, r, f⟩ := lsOf_ok w hu e2
        obtain ⟨z1, z2, z3⟩ := FRs.zip f
        have mem : ∀ p ∈ ys.zip vs, p.1 ∈ ys := fun p hp => (List.of_mem_zip (a := p.1) (b := p.2) hp).1
        have e3 : (ys.zip vs).map (fun p => toD p.1) = toDs ys := by
          rw [toDs_map]
          conv => rhs; rw [← z1]
          rw [List.map_map]; rfl
        have hso : (ys.zip vs).mergeSort (PySem.W.dataLe false fun p => toD p.1) = isrt (PySem.W.dataLe false fun p : PV × V => toD p.1) (ys.zip vs) := (isrt_eq (dataLe_trans _) (dataLe_total _) _).symm
        have h1 : ((ys.zip vs).mergeSort (PySem.W.dataLe false fun p => toD p.1)).map (·.1) = srtP ys := by
          unfold srtP
          rw [isrt_eq (dataLe_trans toD) (dataLe_total toD)]
          refine (List.map_mergeSort (r := PySem.W.dataLe false fun p : PV × V => toD p.1) (f := fun x : PV × V => x.1) (l := ys.zip vs) (s := PySem.W.dataLe false toD) (fun _ _ _ _ => rfl)).trans ?_
          rw [z1]
        refine ⟨a, ys.zip vs, rfl, by rw [z2]; exact .inl r, fun p hp => FR.dp w.f _ _ (z3 p hp) (isDs_mem c1 _ (mem p hp)), by rw [e3]; exact allAl_ok c2, by rw [e3]; exact srtOk_ok c3, fun p hp => ?_, fun p hp => ?_⟩
        · rw [depth_toD _ (isDs_mem c1 _ (mem p hp))]
          exact deps_mem c4 _ (mem p hp)
        · have fr : FRs K g (srtP ys) (((ys.zip vs).mergeSort (PySem.W.dataLe false fun p => toD p.1)).map (·.2)) := by
            rw [← h1]
            exact FRs.unzip fun p hp => z3 p (List.mem_mergeSort.mp hp)
          obtain ⟨gr, f2⟩ := new_lst w hp fr
          exact q _ _ _ gr (.frz f2)
      · cases e
    · cases e
  · cases e

/-! ### min and max of a list -/
mutual
def noK : PV → Bool
  | .kl _ => false
  | .tup xs => noKs xs
  | .lst xs => noKs xs
  | _ => true
def noKs : List PV → Bool
  | [] => true
  | x :: xs => noK x && noKs xs
end
mutual
theorem FR.inj {K : PySem.W.Frag} {g g' : G} : ∀ (x y : PV) (v u : V), FR K g x v → FR K g' y u → isD x = true → isD y = true → noK x = true → noK y = true → toD x = toD y → x = y
  | .non, y, v, u, f, f', h, h', n, n', e => by cases f' <;> first | rfl | (simp only [toD] at e; cases e) | (simp only [isD] at h'; cases h'; done) | (simp only [noK] at n'; cases n')
  | .bl b, y, v, u, f, f', h, h', n, n', e => by cases f' <;> first | (simp only [toD] at e; cases e; done) | (simp only [toD] at e; cases e; rfl) | (simp only [isD] at h'; cases h'; done) | (simp only [noK] at n'; cases n')
  | .int b, y, v, u, f, f', h, h', n, n', e => by cases f' <;> first | (simp only [toD] at e; cases e; done) | (simp only [toD] at e; cases e; rfl) | (simp only [isD] at h'; cases h'; done) | (simp only [noK] at n'; cases n')
  | .str b, y, v, u, f, f', h, h', n, n', e => by cases f' <;> first | (simp only [toD] at e; cases e; done) | (simp only [toD] at e; cases e; rfl) | (simp only [isD] at h'; cases h'; done) | (simp only [noK] at n'; cases n')
  | .ty b, y, v, u, f, f', h, h', n, n', e => by simp only [isD] at h; cases h
  | .kl b, y, v, u, f, f', h, h', n, n', e => by simp only [noK] at n; cases n
  | .ref b, y, v, u, f, f', h, h', n, n', e => by simp only [isD] at h; cases h
  | .xv _ _, y, v, u, f, f', h, h', n, n', e => by simp only [isD] at h; cases h
  | .dct b, y, v, u, f, f', h, h', n, n', e => by simp only [isD] at h; cases h
  | .ol b, y, v, u, f, f', h, h', n, n', e => by cases f
  | .od b, y, v, u, f, f', h, h', n, n', e => by cases f
  | .tup xs, y, v, u, f, f', h, h', n, n', e => by
    cases f with
    | tup s f =>
      cases f' with
      | tup s' f' =>
        simp only [toD, PyData.tuple.injEq] at e
        simp only [isD] at h h'
        simp only [noK] at n n'
        rw [FRs.inj _ _ _ _ f f' h h' n n' e]
      | _ => first | (simp only [toD] at e; cases e; done) | (simp only [isD] at h'; cases h'; done) | (simp only [noK] at n'; cases n')
  | .lst xs, y, v, u, f, f', h, h', n, n', e => by
    cases f with
    | lst s f =>
      cases f' with
      | lst s' f' =>
        simp only [toD, PyData.list.injEq] at e
        simp only [isD] at h h'
        simp only [noK] at n n'
        rw [FRs.inj _ _ _ _ f f' h h' n n' e]
      | _ => first | (simp only [toD] at e; cases e; done) | (simp only [isD] at h'; cases h'; done) | (simp only [noK] at n'; cases n')
theorem FRs.inj {K : PySem.W.Frag} {g g' : G} : ∀ (x y : List PV) (v u : List V), FRs K g x v → FRs K g' y u → isDs x = true → isDs y = true → noKs x = true → noKs y = true → toDs x = toDs y → x = y
  | [], y, v, u, f, f', h, h', n, n', e => by
    cases f' with
    | nil => rfl
    | cons a b => simp only [toDs] at e; cases e
  | x :: xs, y, v, u, f, f', h, h', n, n', e => by
    cases f with
    | cons a b =>
      cases f' with
      | nil => simp only [toDs] at e; cases e
      | cons a' b' =>
        simp only [toDs, List.cons.injEq] at e
        simp only [isDs, Bool.and_eq_true] at h h'
        simp only [noKs, Bool.and_eq_true] at n n'
        rw [FR.inj _ _ _ _ a a' h.1 h'.1 n.1 n'.1 e.1, FRs.inj _ _ _ _ b b' h.2 h'.2 n.2 n'.2 e.2]
end
end L3

end
section
set_option Elab.async false
set_option linter.all false
set_option maxRecDepth 100000
set_option maxHeartbeats 4000000
namespace L3
open PySem PySem.Spec L2
set_option autoImplicit false

/-! ### min, max of a list of data -/
def rBest (K : PySem.W.Frag) (best : PyData → List PyData → PyData) : List V → Hp → VK → Prop := fun vs H Q => ∃ (a : Addr) (w0 : PV × V) (ws : List (PV × V)), vs = [V.ref a] ∧ SqL K H a ((w0 :: ws).map (·.2)) ∧ (∀ p ∈ w0 :: ws, Dp K H p.2 (toD p.1)) ∧ PySem.W.AlikeAll (toD w0.1 :: ws.map fun p => toD p.1) ∧ PyData.depthAll (toD w0.1 :: ws.map fun p => toD p.1) ≤ 60 ∧
  ∀ p, p ∈ w0 :: ws → toD p.1 = best (toD w0.1) (ws.map fun p => toD p.1) → Q p.2 H
section
variable {X : Cx}
theorem reads_all {h : Heap} : ∀ {us : List Value} {ws : List (PV × V)}, PySem.W.EachIs (fun u (p : PV × V) => ∃ as, Reads h u (toD p.1) as) us ws → ∃ as, ReadsAll h us (ws.map fun p => toD p.1) as
  | _, _, .nil => ⟨_, .nil⟩
  | _, _, .cons ⟨as, a⟩ b => by obtain ⟨bs, q⟩ := reads_all b; exact ⟨_, .cons a q⟩
theorem each_at {α β : Type} {R : α → β → Prop} : ∀ {us : List α} {ws : List β}, PySem.W.EachIs R us ws → ∀ {i : Nat} {u : α}, us[i]? = some u → ∃ p, ws[i]? = some p ∧ R u p
  | _, _, .nil, i, u, h => by cases h
  | _, _, .cons a b, 0, u, h => by cases h; exact ⟨_, rfl, a⟩
  | _, _, .cons a b, i + 1, u, h => each_at b h
theorem best_run {pins : List (Addr × Obj)} {s : Shared} {σ : St} {H : Hp} {Q : VK} {its : List Value} {w0 : PV × V} {ws : List (PV × V)} {d : PyData} (I : Inv X pins σ H s) (rv : Vals ((w0 :: ws).map (·.2)) its) (hd : ∀ p ∈ w0 :: ws, Dp X.K H p.2 (toD p.1))
    (q : ∀ p, p ∈ w0 :: ws → toD p.1 = d → Q p.2 H) (i : Nat) (v : Value) (h' : Heap) (tk : Nat) (bs : List Addr) (hv : its.toArray[i]? = some v) (hr : Reads h' v d bs) (hk : ∀ b o, s.heap.get? b = some o → h'.get? b = some o) : EP X pins σ Q v { s with heap := h', toks := tk } := by
  have e := each_vals rv
  have hv' : its[i]? = some v := by simpa using hv
  obtain ⟨p, hp, r⟩ := each_at e hv'
  have hm : p ∈ w0 :: ws := List.mem_of_getElem? hp
  obtain ⟨as, r2⟩ := Dp.reads I _ p.2 v (hd p hm) r
  obtain ⟨e2, _⟩ := PyProof.Rows.reads_det (fun b o h _ => hk b o h) r2 hr
  exact ⟨p.2, H, I.kept (t' := tk) hk, r, q p hm e2.symm⟩
theorem cr_minD (hc : X.calm = true) (hu : X.A.units + 64 < cLine) : CallR X (.builtin "min") (rBest X.K PySem.W.minD) := by
  intro pins s σ H vs us Q I r h
  obtain ⟨a, w0, ws, rfl, hs, hd, ha, hdep, q⟩ := h
  obtain ⟨its, rv, hl, hz⟩ := I.list hs
  rw [Vals.ref1 r]
  have e := each_vals rv
  obtain ⟨as, ra⟩ := reads_all (each_mem e fun u p m r => Dp.reads I _ p.2 u (hd p m) r)
  exact PySem.W.min_list_data (I.ok.hd hc) hl.isList ra ha (Nat.lt_of_le_of_lt (Nat.add_le_add_left hdep _) (by omega)) (best_run I rv hd q)
theorem cr_maxD (hc : X.calm = true) (hu : X.A.units + 64 < cLine) : CallR X (.builtin "max") (rBest X.K PySem.W.maxD) := by
  intro pins s σ H vs us Q I r h
  obtain ⟨a, w0, ws, rfl, hs, hd, ha, hdep, q⟩ := h
  obtain ⟨its, rv, hl, hz⟩ := I.list hs
  rw [Vals.ref1 r]
  have e := each_vals rv
  obtain ⟨as, ra⟩ := reads_all (each_mem e fun u p m r => Dp.reads I _ p.2 u (hd p m) r)
  exact PySem.W.max_list_data (I.ok.hd hc) hl.isList ra ha (Nat.lt_of_le_of_lt (Nat.add_le_add_left hdep _) (by omega)) (best_run I rv hd q)
end
def minP (x : PV) (xs : List PV) : PV := xs.foldl (fun a y => if PySem.W.dataLt (toD y) (toD a) then y else a) x
def maxP (x : PV) (xs : List PV) : PV := xs.foldl (fun a y => if PySem.W.dataLt (toD a) (toD y) then y else a) x
theorem minP_toD : ∀ (xs : List PV) (x : PV), toD (minP x xs) = PySem.W.minD (toD x) (xs.map toD)
  | [], x => rfl
  | y :: ys, x => by
    show toD (minP (if PySem.W.dataLt (toD y) (toD x) then y else x) ys) = PySem.W.minD (if PySem.W.dataLt (toD y) (toD x) then toD y else toD x) (ys.map toD)
    rw [minP_toD ys]
    split <;> rfl
theorem maxP_toD : ∀ (xs : List PV) (x : PV), toD (maxP x xs) = PySem.W.maxD (toD x) (xs.map toD)
  | [], x => rfl
  | y :: ys, x => by
    show toD (maxP (if PySem.W.dataLt (toD x) (toD y) then y else x) ys) = PySem.W.maxD (if PySem.W.dataLt (toD x) (toD y) then toD y else toD x) (ys.map toD)
    rw [maxP_toD ys]
    split <;> rfl
theorem minP_mem : ∀ (xs : List PV) (x : PV), minP x xs ∈ x :: xs
  | [], x => List.mem_cons_self
  | y :: ys, x => by
    show minP (if PySem.W.dataLt (toD y) (toD x) then y else x) ys ∈ _
    rcases List.mem_cons.mp (minP_mem ys (if PySem.W.dataLt (toD y) (toD x) then y else x)) with h | h
    · rw [h]; split <;> simp
    · simp [h]
theorem maxP_mem : ∀ (xs : List PV) (x : PV), maxP x xs ∈ x :: xs
  | [], x => List.mem_cons_self
  | y :: ys, x => by
    show maxP (if PySem.W.dataLt (toD x) (toD y) then y else x) ys ∈ _
    rcases List.mem_cons.mp (maxP_mem ys (if PySem.W.dataLt (toD x) (toD y) then y else x)) with h | h
    · rw [h]; split <;> simp
    · simp [h]
theorem depsAll : ∀ xs : List PV, isDs xs = true → PyData.depthAll (xs.map toD) = deps xs := fun xs h => by rw [← toDs_map]; exact depth_toDs xs h
theorem noKs_mem : ∀ {xs : List PV}, noKs xs = true → ∀ x ∈ xs, noK x = true
  | [], _, x, hx => by cases hx
  | y :: ys, h, x, hx => by
    unfold noKs at h
    rw [Bool.and_eq_true] at h
    rcases List.mem_cons.mp hx with rfl | hx
    · exact h.1
    · exact noKs_mem h.2 x hx
def bBest (f : PV → List PV → PV) : List PV → Option PV
  | [x] => match lsOf x with
    | some (y :: ys) => if isDs (y :: ys) && allAl (toDs (y :: ys)) && (toDs (y :: ys)).all notN && decide (deps (y :: ys) ≤ 60) && noKs (y :: ys) then some (f y ys) else none
    | _ => none
  | _ => none
theorem bBest_ok {K : PySem.W.Frag} {f : PV → List PV → PV} {best : PyData → List PyData → PyData} (h1 : ∀ xs x, toD (f x xs) = best (toD x) (xs.map toD)) (h2 : ∀ xs x, f x xs ∈ x :: xs) : CallOk K (bBest f) (rBest K best) := by
  intro g S H xs z us Q w hx e q
  unfold bBest at e
  split at e
  · rename_i x
    obtain ⟨u, rfl, hu⟩ := ovs1 hx
    split at e
    · rename_i y ys e2
      split at e
      · rename_i hc
        simp only [Bool.and_eq_true, decide_eq_true_eq] at hc
        obtain ⟨⟨⟨⟨c1, c2⟩, c3⟩, c4⟩, c5⟩ := hc
        cases e
        obtain ⟨a, vs, rfl, r, f0⟩ := lsOf_ok w hu e2
        cases f0 with
        | @cons _ _ v vs fa fb =>
          obtain ⟨z1, z2, z3⟩ := FRs.zip fb
          have hall : ∀ p ∈ (y, v) :: ys.zip vs, FR K g p.1 p.2 := fun p hp => by
            rcases List.mem_cons.mp hp with e | hp
            · rw [e]; exact fa
            · exact z3 p hp
          have hmem : ∀ p ∈ (y, v) :: ys.zip vs, p.1 ∈ y :: ys := fun p hp => by
            rcases List.mem_cons.mp hp with e | hp
            · rw [e]; exact List.mem_cons_self
            · exact List.mem_cons_of_mem _ (List.of_mem_zip (a := p.1) (b := p.2) hp).1
          have e3 : (ys.zip vs).map (fun p => toD p.1) = ys.map toD := by
            conv => rhs; rw [← z1]
            rw [List.map_map]; rfl
          refine ⟨a, (y, v), ys.zip vs, rfl, .inl (by rw [List.map_cons, z2]; exact r), fun p hp => FR.dp w.f _ _ (hall p hp) (isDs_mem c1 _ (hmem p hp)), ?_, ?_, fun p hp ep => ?_⟩
          · rw [e3]
            have c2 := allAl_ok c2
            rw [toDs_map] at c2 c3
            refine ⟨fun d hd d' hd' => c2 d hd d' hd', fun d hd z => ?_⟩
            have := List.all_eq_true.mp c3 d hd
            rw [z] at this; cases this
          · rw [e3]
            have := depsAll (y :: ys) c1
            rw [List.map_cons] at this
            rw [this]; exact c4
          · rw [e3, ← h1] at ep
            have fm := h2 ys y
            obtain ⟨w0, w1⟩ : ∃ u, (f y ys, u) ∈ (y, v) :: ys.zip vs := by
              rcases List.mem_cons.mp fm with e | hm
              · exact ⟨v, by rw [e]; exact List.mem_cons_self⟩
              · have hm2 : f y ys ∈ (ys.zip vs).map (·.1) := z1.symm ▸ hm
                obtain ⟨pp, hpp, epp⟩ := List.mem_map.mp hm2
                exact ⟨pp.2, by rw [← epp]; exact List.mem_cons_of_mem _ hpp⟩
            have e4 := FR.inj _ _ _ _ (hall p hp) (hall _ w1) (isDs_mem c1 _ (hmem p hp)) (isDs_mem c1 _ fm) (noKs_mem c5 _ (hmem p hp)) (noKs_mem c5 _ fm) ep
            have e5 : p.1 = f y ys := e4
            exact q _ g H (.refl w) (.frz (by rw [← e5]; exact hall p hp))
      · cases e
    · cases e
  · cases e
def bMin1 : List PV → Option PV := bBest minP
def bMax1 : List PV → Option PV := bBest maxP
theorem bMin1_ok {K : PySem.W.Frag} : CallOk K bMin1 (rBest K PySem.W.minD) := bBest_ok minP_toD minP_mem
theorem bMax1_ok {K : PySem.W.Frag} : CallOk K bMax1 (rBest K PySem.W.maxD) := bBest_ok maxP_toD maxP_mem
def bMin2 : List PV → Option PV
  | [.int i, .int j] => some (.int (if j < i then j else i))
  | _ => none
def bMax2 : List PV → Option PV
  | [.int i, .int j] => some (.int (if j > i then j else i))
  | _ => none
theorem bMin2_ok {K : PySem.W.Frag} : CallOk K bMin2 (fun xs H Q => ∃ i j, xs = [.int i, .int j] ∧ Q (.int (if j < i then j else i)) H) := by
  intro g S H xs z us Q w hx e q
  unfold bMin2 at e
  split at e
  · obtain ⟨u, v, rfl, h1, h2⟩ := ovs2 hx
    cases e; cases h1.fr rfl; cases h2.fr rfl
    exact ⟨_, _, rfl, q _ g H (.refl w) (.frz (.int _))⟩
  · cases e
theorem bMax2_ok {K : PySem.W.Frag} : CallOk K bMax2 (fun xs H Q => ∃ i j, xs = [.int i, .int j] ∧ Q (.int (if j > i then j else i)) H) := by
  intro g S H xs z us Q w hx e q
  unfold bMax2 at e
  split at e
  · obtain ⟨u, v, rfl, h1, h2⟩ := ovs2 hx
    cases e; cases h1.fr rfl; cases h2.fr rfl
    exact ⟨_, _, rfl, q _ g H (.refl w) (.frz (.int _))⟩
  · cases e

/-! ### isinstance of a built-in type -/
inductive Kd where
  | int | bool | str | tuple | list | dict
def Kd.nm : Kd → String
  | .int => "int" | .bool => "bool" | .str => "str" | .tuple => "tuple" | .list => "list" | .dict => "dict"
def isKd : Kd → PV → Option Bool
  | k, .non => some false
  | k, .bl _ => match k with | .int => some true | .bool => some true | _ => some false
  | k, .int _ => match k with | .int => some true | _ => some false
  | k, .str _ => match k with | .str => some true | _ => some false
  | k, .tup _ => match k with | .tuple => some true | _ => some false
  | k, .lst _ => match k with | .list => some true | _ => some false
  | k, .ol _ => match k with | .list => some true | _ => some false
  | k, .kl _ => match k with | .list => some true | _ => some false
  | k, .dct _ => match k with | .dict => some true | _ => some false
  | k, .od _ => match k with | .dict => some true | _ => some false
  | _, _ => none
def oIsi (k : Kd) : PV → PV → Option PV := fun x _ => (isKd k x).map .bl
theorem tyx_lst {K : PySem.W.Frag} {H : Hp} {a : Addr} {vs : List V} (r : Rd H a (.lst vs)) : TyX K H (.ref a) (.type "list") := by
  rcases r with r | ⟨o, r⟩
  · exact .base (.lst r)
  · exact .base (.frz r)
theorem tyx_lstS {K : PySem.W.Frag} {H : Hp} {a : Addr} {vs : List V} (r : SqL K H a vs) : TyX K H (.ref a) (.type "list") := by
  rcases r with r | r
  · exact tyx_lst r
  · obtain ⟨o, _, _, ho, hc, _⟩ := r
    exact .kList ho hc
theorem tyx_dct {K : PySem.W.Frag} {H : Hp} {a : Addr} {vs : List (Key × V)} (r : Rd H a (.dK vs)) : TyX K H (.ref a) (.type "dict") := by
  rcases r with r | ⟨o, r⟩
  · exact .base (.dK r)
  · exact .fDict r
theorem tyx_tup {K : PySem.W.Frag} {H : Hp} {a : Addr} {vs : List V} (r : SqT K H a vs) : TyX K H (.ref a) (.type "tuple") := by
  rcases r with (r | ⟨o, r⟩) | r
  · exact .base (.tup r)
  · exact .fTuple r
  · obtain ⟨o, _, _, ho, hc, _⟩ := r
    exact .kTuple ho hc
theorem kit_dec {K : PySem.W.Frag} {a b : String} {r : Bool} (h : kitB a b = some r) : PySem.W.kitOne K (.type a) (.type b) = some r := kit_ty h
/-- the type of a value that isinstance asks -/
def tyN : PV → Option String
  | .non => some "NoneType" | .bl _ => some "bool" | .int _ => some "int" | .str _ => some "str" | .tup _ => some "tuple" | .lst _ => some "list" | .ol _ => some "list" | .kl _ => some "list" | .dct _ => some "dict" | .od _ => some "dict"
  | _ => none
theorem tyN_ok {K : PySem.W.Frag} {g : G} {S : Store} {H : Hp} {x : PV} {u : V} {t : String} (w : WR K g S H) (h : OV K g H x u) (e : tyN x = some t) : TyX K H u (.type t) := by
  cases h with
  | ol r f => cases e; exact tyx_lst r
  | od r f => cases e; exact tyx_dct r
  | frz f =>
    cases f with
    | non => cases e; exact .base .non
    | bl b => cases e; exact .base (.bl b)
    | int b => cases e; exact .base (.int b)
    | str b => cases e; exact .base (.str b)
    | tup s f => cases e; exact tyx_tup (w.f.sqT s)
    | lst s f => cases e; exact tyx_lst (w.f _ _ s)
    | dct s f => cases e; exact tyx_dct (w.f _ _ s)
    | kl s f => cases e; exact tyx_lstS (w.f.sqL s)
    | ty n => cases e
    | ref n => cases e
    | xv _ _ _ _ => cases e
theorem kd_ty (k : Kd) : ∀ (x : PV) (b : Bool), isKd k x = some b → ∃ t, tyN x = some t ∧ kitB t k.nm = some b
  | .non, b, h => ⟨_, rfl, by cases k <;> cases h <;> decide +kernel⟩
  | .bl _, b, h => ⟨_, rfl, by cases k <;> cases h <;> decide +kernel⟩
  | .int _, b, h => ⟨_, rfl, by cases k <;> cases h <;> decide +kernel⟩
  | .str _, b, h => ⟨_, rfl, by cases k <;> cases h <;> decide +kernel⟩
  | .tup _, b, h => ⟨_, rfl, by cases k <;> cases h <;> decide +kernel⟩
  | .lst _, b, h => ⟨_, rfl, by cases k <;> cases h <;> decide +kernel⟩
  | .ol _, b, h => ⟨_, rfl, by cases k <;> cases h <;> decide +kernel⟩
  | .kl _, b, h => ⟨_, rfl, by cases k <;> cases h <;> decide +kernel⟩
  | .dct _, b, h => ⟨_, rfl, by cases k <;> cases h <;> decide +kernel⟩
  | .od _, b, h => ⟨_, rfl, by cases k <;> cases h <;> decide +kernel⟩
  | .ty _, b, h => by cases k <;> cases h
  | .ref _, b, h => by cases k <;> cases h
  | .xv _ _, b, h => by cases k <;> cases h
def bIsiN (k : Kd) : List PV → Option PV
  | [x, .ty n] => if n = k.nm then (isKd k x).map .bl else none
  | _ => none
def xIsi (k : Kd) (m : Ex) : Ex := fun ρ S => mb (m ρ S) fun x => mo ((isKd k x).map .bl)
section
variable {X : Cx} {W : WX} {a : Expr} {pos p p2 : Pos}
theorem e_isi {k : Kd} {m : Ex} {T : Str} (hT : bootBuiltins T = some (.type k.nm)) (hg : Gl X "isinstance") (hm : X.mg "isinstance" = none) (hgT : Gl X T) (hmT : X.mg T = none) (ha : SimE X W a m) (hn : T ≠ "__name__" := by decide) (hdT : (T == ("__debug__" : Str)) = false := by decide)
    (hs : starEach [a, .Name T p2] X.env = (false, eval a X.env) :: starEach [.Name T p2] X.env := by rfl) (hs2 : starEach [.Name T p2] X.env = (false, eval (.Name T p2) X.env) :: starEach [] X.env := by rfl) (hpl : (backTo pos (starEach [.Name T p2] X.env)).any (·.1) = false := by rfl) :
    SimE X W (.Call (.Name "isinstance" p) [a, .Name T p2] [] pos) (xIsi k m) := by
  have h1 : SimA X W [a, .Name T p2] (aCons m (aCons (xC (.ty k.nm)) aNil)) := a_cons ha (a_cons (e_ty hgT hmT hT hn hdT) a_nil hs2) hs
  have hk : CallOk X.K (bIsiN k) (rIsi X.K) := by
    intro g S H xs z us Q w hx e q
    unfold bIsiN at e
    split at e
    · rename_i x n
      obtain ⟨u, v, rfl, hu, hv⟩ := ovs2 hx
      split at e
      · rename_i hn
        subst hn
        cases e2 : isKd k x with
        | none => rw [e2] at e; cases e
        | some b =>
          rw [e2] at e
          have e3 : z = .bl b := (Option.some.inj e).symm
          subst e3
          cases hv.fr rfl
          obtain ⟨t, ht, hb⟩ := kd_ty k x b e2
          exact ⟨u, _, .type t, .type k.nm, b, rfl, .ty _, tyN_ok w hu ht, kit_ty hb, q _ g H (.refl w) (.frz (.bl b))⟩
      · cases e
    · cases e
  have h2 := e_callB (id := "isinstance") (pos := pos) (p := p) (x := "isinstance") call_isi hk hg hm (by decide +kernel) h1 (by decide) (by decide) hs hpl
  obtain ⟨t, pt, rt⟩ := h2.ex
  refine ⟨t, pt, fun σ H g S ρ Q res w er hm po => rt σ H g S ρ Q res w er ?_ po⟩
  rw [← hm]
  unfold xCall xIsi aCons xC aNil mb
  cases m ρ S with
  | none => rfl
  | some z =>
    cases z with
    | ok x => show mo (if k.nm = k.nm then (isKd k x).map PV.bl else none) = _; rw [if_pos rfl]
    | ex c fs => rfl
end
end L3

end
section
set_option Elab.async false
set_option linter.all false
set_option maxRecDepth 100000
set_option maxHeartbeats 4000000
namespace L3
open PySem PySem.Spec L2
set_option autoImplicit false

/-! ### slices -/
def cutP {α : Type} (xs : List α) (lo hi : Option Int) : List α := (xs.drop (HT.sIx xs.length 0 lo)).take (HT.sIx xs.length xs.length hi - HT.sIx xs.length 0 lo)
theorem FRs.cut {K : PySem.W.Frag} {g : G} {xs : List PV} {vs : List V} (f : FRs K g xs vs) (lo hi : Option Int) : FRs K g (cutP xs lo hi) (cutV vs lo hi) := by
  unfold cutP cutV
  rw [f.length]
  exact (f.drop _).take _
def slP (lo hi : Option Int) : PV → Option PV
  | .str z => if decide (z.length ≤ most) then some (.str (cutS z lo hi)) else none
  | .tup xs => some (.tup (cutP xs lo hi))
  | .lst xs => some (.lst (cutP xs lo hi))
  | .ol xs => some (.lst (cutP xs lo hi))
  | .kl xs => some (.lst (cutP xs lo hi))
  | _ => none
abbrev rSlP (K : PySem.W.Frag) : V → Option Int → Option Int → Hp → VK → Prop := fun x lo hi H Q => rSlA K x lo hi H Q ∨ (rSlL K x lo hi H Q ∨ rSlS x lo hi H Q)
theorem slP_ok {K : PySem.W.Frag} {g : G} {S : Store} {H : Hp} {x z : PV} {u : V} {Q : VK} {lo hi : Option Int} (w : WR K g S H) (hx : OV K g H x u) (e : slP lo hi x = some z) (q : ∀ v g' H', Grow g H g' H' → OV K g' H' z v → Q v H') : rSlP K u lo hi H Q := by
  have fl : ∀ {xs : List PV} {a : Addr} {vs : List V}, SqL K H a vs → FRs K g xs vs → (∀ v g' H', Grow g H g' H' → OV K g' H' (.lst (cutP xs lo hi)) v → Q v H') → rSlP K (.ref a) lo hi H Q := fun {xs a vs} r f q => by
    refine .inr (.inl ⟨a, vs, rfl, r, fun p hp => ?_⟩)
    obtain ⟨gr, f2⟩ := new_lst w hp (f.cut lo hi)
    exact q _ _ _ gr (.frz f2)
  cases x with
  | str y =>
    replace e : (if decide (y.length ≤ most) then some (PV.str (cutS y lo hi)) else none) = some z := e
    split at e
    · rename_i hc
      cases e
      cases hx.fr rfl
      exact .inr (.inr ⟨_, rfl, Nat.le_trans (of_decide_eq_true hc) most_le, q _ g H (.refl w) (.frz (.str _))⟩)
    · cases e
  | tup xs =>
    cases e
    cases hx.fr rfl with
    | @tup a _ vs s f =>
      refine .inl ⟨a, vs, rfl, w.f.sqT s, fun hw => ?_, fun _ p hp => ?_⟩
      · have e2 : cutP xs lo hi = xs := by
          unfold cutP
          rw [f.length, hw.1, hw.2, List.drop_zero, ← f.length, Nat.sub_zero, List.take_length]
        rw [e2] at q
        exact q _ g H (.refl w) (.frz (.tup s f))
      · obtain ⟨gr, f2⟩ := new_tup w hp (f.cut lo hi)
        exact q _ _ _ gr (.frz f2)
  | lst xs =>
    cases e
    obtain ⟨a, vs, rfl, r, f⟩ := hx.list w (.inl rfl)
    exact fl (.inl r) f q
  | ol xs =>
    cases e
    obtain ⟨a, vs, rfl, r, f⟩ := hx.list w (.inr rfl)
    exact fl (.inl r) f q
  | kl xs =>
    cases e
    cases hx.fr rfl with
    | kl s f => exact fl (w.f.sqL s) f q
  | _ => cases e
section
variable {X : Cx} {md : Md X.K} {W : WX} {a b e lo hi : Expr} {pos p p2 p3 : Pos}
theorem sl_P : L2.SlR X (rSlP X.K) := L2.SlR.or sl_tupA (L2.SlR.or sl_list sl_str)
/-- a part of a slice -/
abbrev Oe := Env → Store → M (Option Int)
structure SimO (X : Cx) (W : WX) (e : Option Expr) (m : Oe) : Prop where
  ex : ∃ t : TO, PO X e t ∧ Rch X.K (fun _ _ r v => r = v) W t m
def oNone : Oe := fun _ _ => some (.ok none)
def oSome (m : Ex) : Oe := fun ρ S => mb (m ρ S) fun x => match x with
  | .int i => some (.ok (some i))
  | _ => none
theorem o_none : SimO X W none oNone := ⟨_, po_none, fun σ H g S ρ Q r w er hm po => by cases hm; exact po _ g H (.refl w) rfl⟩
theorem o_some {m : Ex} (h : SimE X W e m) : SimO X W (some e) (oSome m) := by
  obtain ⟨t, p, r⟩ := h.ex
  refine ⟨_, po_some p, ?_⟩
  refine Rch.bind (R' := fun _ _ r v => r = v) (k := fun x _ _ => match x with
    | .int i => some (.ok (some i))
    | _ => none) (tk := fun x σ H1 Q => ∃ i, x = .int i ∧ Q (some i) H1) r fun x u σ H g S ρ Q res w er hx hm po => ?_
  split at hm
  · cases hm
    cases hx.fr rfl
    exact ⟨_, rfl, po _ g H (.refl w) rfl⟩
  · cases hm
def xSl (m : Ex) (l h : Oe) : Ex := fun ρ S => mb (m ρ S) fun x => mb (l ρ S) fun i => mb (h ρ S) fun j => mo (slP i j x)
theorem e_sl {lo hi : Option Expr} {m : Ex} {l h : Oe} (he : SimE X W e m) (hl : SimO X W lo l) (hh : SimO X W hi h) : SimE X W (.Subscript e (.Slice lo hi none p2) pos) (xSl m l h) := by
  obtain ⟨t, pt, rt⟩ := he.ex
  obtain ⟨t1, p1, r1⟩ := hl.ex
  obtain ⟨t2, p2, r2⟩ := hh.ex
  refine ⟨_, pe_slice sl_P pt p1 p2, ?_⟩
  refine Rch.bind (R' := RV X.K) (k := fun x ρ S => mb (l ρ S) fun i => mb (h ρ S) fun j => mo (slP i j x)) (tk := fun x σ H1 Q => t1 σ H1 fun l H2 => t2 σ H2 fun u H3 => rSlP X.K x l u H3 Q) rt fun x u σ H g S ρ Q res w er hx hm po => ?_
  cases q1 : l ρ S with
  | none => rw [q1] at hm; cases hm
  | some z1 =>
    rw [q1] at hm
    cases z1 with
    | ex c fs => cases hm; exact r1 σ H g S ρ _ (.ex c fs) w er q1 po
    | ok i =>
      refine r1 σ H g S ρ _ (.ok i) w er q1 fun i' g1 H1 gr1 e1 => ?_
      subst e1
      replace hm : mb (h ρ S) (fun j => mo (slP i j x)) = some res := hm
      cases q2 : h ρ S with
      | none => rw [q2] at hm; cases hm
      | some z2 =>
        rw [q2] at hm
        cases z2 with
        | ex c fs => cases hm; exact r2 σ H1 g1 S ρ _ (.ex c fs) (gr1.wr w) (er.mono gr1) q2 fun cls d g' H' gr x => po cls d g' H' (gr1.trans gr) x
        | ok j =>
          refine r2 σ H1 g1 S ρ _ (.ok j) (gr1.wr w) (er.mono gr1) q2 fun j' g2 H2 gr2 e2 => ?_
          subst e2
          replace hm : mo (slP i j x) = some res := hm
          cases q3 : slP i j x with
          | none => rw [q3] at hm; cases hm
          | some z =>
            rw [q3] at hm
            cases hm
            exact slP_ok (gr2.wr (gr1.wr w)) (gr2.ov (gr1.ov hx)) q3 fun v g' H' gr o => po v g' H' (gr1.trans (gr2.trans gr)) o
/-- xs[::-1] of a list -/
def oRevL (x : PV) : Option PV := (lsOf x).map fun xs => .lst xs.reverse
theorem e_revL {m : Ex} {k : Nat} {p1 p4 : Pos} (h : SimE X W e m) : SimE X W (.Subscript e (.Slice none none (some (.UnaryOp .USub (.Constant (.int 1) k p1) p2)) p3) pos) (xUn oRevL m) := by
  obtain ⟨t, pt, rt⟩ := h.ex
  refine ⟨_, pe_revL pt, rch_un (r := fun x H1 Q => ∃ a xs, x = .ref a ∧ SqL X.K H1 a xs ∧ ∀ p, H1 p = none → Q (.ref p) (upd H1 p (.lst xs.reverse))) ?_ rt⟩
  intro g S H x z u Q w hx e q
  unfold oRevL at e
  cases e2 : lsOf x with
  | none => rw [e2] at e; cases e
  | some xs =>
    rw [e2] at e
    have e3 : z = .lst xs.reverse := (Option.some.inj e).symm
    subst e3
    obtain ⟨a, vs, rfl, r, f⟩ := lsOf_ok w hx e2
    refine ⟨a, vs, rfl, .inl r, fun p hp => ?_⟩
    obtain ⟨gr, f2⟩ := new_lst w hp f.reverse
    exact q _ _ _ gr (.frz f2)
end

/-! ### repetition -/
def repP {α : Type} : Nat → List α → List α
  | 0, _ => []
  | n + 1, xs => xs ++ repP n xs
theorem repP_eq {α : Type} (xs : List α) : ∀ n, repP n xs = (List.replicate n xs).flatten
  | 0 => rfl
  | n + 1 => by rw [List.replicate_succ, List.flatten_cons, ← repP_eq xs n]; rfl
theorem FRs.rep {K : PySem.W.Frag} {g : G} {xs : List PV} {vs : List V} (f : FRs K g xs vs) : ∀ n, FRs K g (repP n xs) (repP n vs)
  | 0 => .nil
  | n + 1 => f.append (FRs.rep f n)
def oRepT : PV → PV → Option PV
  | .tup xs, .int k => if !xs.isEmpty && decide (2 ≤ k) && decide (k ≤ 1000) && decide (xs.length ≤ 1000) then some (.tup (repP k.toNat xs)) else none
  | _, _ => none
theorem oRepT_ok {K : PySem.W.Frag} : OpOk K oRepT (rRepT K) := by
  intro g S H x y z u v Q w hx hy e q
  unfold oRepT at e
  split at e
  · rename_i xs k
    split at e
    · rename_i hc
      simp only [Bool.and_eq_true, decide_eq_true_eq, Bool.not_eq_true', List.isEmpty_eq_false_iff] at hc
      obtain ⟨⟨⟨h0, h1⟩, h2⟩, h3⟩ := hc
      cases e
      cases hy.fr rfl
      cases hx.fr rfl with
      | tup s f =>
        refine ⟨_, _, _, rfl, rfl, w.f.sqT s, fun z => h0 ?_, h1, h2, by rw [← f.length]; exact h3, fun p hp => ?_⟩
        · subst z; cases f; rfl
        · rw [← repP_eq]
          obtain ⟨gr, f2⟩ := new_tup w hp (f.rep k.toNat)
          exact q _ _ _ gr (.frz f2)
    · cases e
  · cases e
/-- a list that may be read, repeated -/
def rRepR : R2 := fun x y H Q => ∃ l k xs, x = .ref l ∧ y = .int k ∧ Rd H l (.lst xs) ∧ -(2 ^ 63) ≤ k ∧ k < 2 ^ 63 ∧ xs.length * k.toNat ≤ sizeLine ∧
  ∀ p, H p = none → Q (.ref p) (upd H p (.lst (List.replicate k.toNat xs).flatten))
end L3

end
section
set_option Elab.async false
set_option linter.all false
set_option maxRecDepth 100000
set_option maxHeartbeats 4000000
namespace L3
open PySem PySem.Spec L2 PyProof.Rows
set_option autoImplicit false

/-! ### list * int -/
theorem op_repR {X : Cx} : OpR X (binaryOp .Mult) rRepR := by
  intro pins s σ H x y v u Q I rx ry h
  obtain ⟨l, k, xs, rfl, rfl, hH, h1, h2, hz, q⟩ := h
  cases rx
  obtain ⟨t, rfl⟩ := ry
  obtain ⟨z, its, n, r, e⟩ := hH.ok I.hok
  have hl := r.length
  have hlen : its.toArray.size * k.toNat ≤ sizeLine := by rw [List.size_toArray, ← hl]; exact hz
  have hcap : ¬ its.toArray.size * k.toNat > (2 ^ 63 - 1) / 8 := by
    have : (sizeLine : Nat) ≤ (2 ^ 63 - 1) / 8 := by decide
    omega
  have hfit : ¬ (!Builtin.List.listFitsIndex k) = true := by
    rw [fitsIndex_both h1 h2]
    exact Bool.false_ne_true
  have hlong : ¬ Builtin.List.listTooLong (its.toArray.size * k.toNat) = true := by
    rw [notLongL hlen]
    exact Bool.false_ne_true
  have hnew : List.foldl (fun x1 x2 => x1 ++ x2) #[] (List.replicate (if its.toArray.isEmpty = true then 0 else k.toNat) its.toArray) = (List.replicate k.toNat its).flatten.toArray := by
    have f0 : ∀ m : Nat, List.foldl (fun x1 x2 => x1 ++ x2) #[] (List.replicate m its.toArray) = (List.replicate m its).flatten.toArray := fun m => by
      have := foldl_rep its m []
      rw [List.nil_append] at this
      exact this
    rw [f0]
    cases its with
    | nil => simp
    | cons a r' => rw [if_neg (by simp)]
  refine wpAny_binaryOp_repeat_ref (T := "list") (U := "int") (by decide) ⟨_, e, rfl⟩ (fun s' => typeIs_int s' k t) noFill_list_mul F.fills_int_mul F.slot_int_rmul repeat_list F.slot_int_index.lookup
    (call_meets F.slot_int_rmul (typeIs_int s k t) F.entry_int_rmul (F.args_int_rmul_2 _ _) (int___rmul___int_list k t l its.toArray n)
      ⟨e, rfl, ⟨_, e, rfl⟩, call_meets F.slot_list_mul ⟨_, e, rfl⟩ F.entry_list_mul (F.args_list_mul_2 _ _) (AutoListH.list___mul___list_int_3 l its.toArray n k t hfit hcap hlong) ⟨e, ?_⟩⟩)
  rw [hnew]
  exact ⟨.ref _, _, I.lnew (t' := s.toks) (r.rep k.toNat) (by rw [PyProof.Rows.lm_len_rep_flat, Nat.mul_comm]; exact hz), rfl, q _ I.fresh⟩
def oRepL : PV → PV → Option PV := fun x y => match y with
  | .int k => (match lsOf x with
    | some xs => if decide (-1000 ≤ k) && decide (k ≤ 1000) && decide (xs.length ≤ 1000) then some (.lst (repP k.toNat xs)) else none
    | none => none)
  | _ => none
theorem oRepL_ok {K : PySem.W.Frag} : OpOk K oRepL rRepR := by
  intro g S H x y z u v Q w hx hy e q
  unfold oRepL at e
  split at e
  · rename_i k
    split at e
    · rename_i xs e2
      split at e
      · rename_i hc
        simp only [Bool.and_eq_true, decide_eq_true_eq] at hc
        obtain ⟨⟨h1, h2⟩, h3⟩ := hc
        cases e
        cases hy.fr rfl
        obtain ⟨a, vs, rfl, r, f⟩ := lsOf_ok w hx e2
        refine ⟨a, k, vs, rfl, rfl, r, by omega, by omega, ?_, fun p hp => ?_⟩
        · rw [← f.length, sizeLine_eq]
          have h4 : k.toNat ≤ 1000 := by omega
          exact Nat.le_trans (Nat.mul_le_mul h3 h4) (by decide)
        · rw [← repP_eq]
          obtain ⟨gr, f2⟩ := new_lst w hp (f.rep k.toNat)
          exact q _ _ _ gr (.frz f2)
      · cases e
    · cases e
  · cases e
def oMul : PV → PV → Option PV := oE oMulI (oE oRepT oRepL)

/-! ### dicts, to be read -/
def keyOf : PV → Option Key
  | .int i => some (.inl i)
  | .str x => some (.inr x)
  | _ => none
theorem keyOf_ok {K : PySem.W.Frag} {g : G} {H : Hp} {y : PV} {v : V} {k : Key} (h : OV K g H y v) (e : keyOf y = some k) : v = kV k := by
  cases y with
  | int i => cases e; cases h.fr rfl; rfl
  | str i => cases e; cases h.fr rfl; rfl
  | _ => cases e
def dcOf : PV → Option (List (Key × PV))
  | .dct kvs => some kvs
  | .od kvs => some kvs
  | _ => none
theorem dcOf_ok {K : PySem.W.Frag} {g : G} {S : Store} {H : Hp} {x : PV} {u : V} {kvs : List (Key × PV)} (w : WR K g S H) (h : OV K g H x u) (e : dcOf x = some kvs) : ∃ a vs, u = .ref a ∧ Rd H a (.dK vs) ∧ OVk K g H kvs vs := by
  cases h with
  | od r f => cases e; exact ⟨_, _, rfl, r, f⟩
  | ol r f => cases e
  | frz f =>
    cases f with
    | dct s f => cases e; exact ⟨_, _, rfl, w.f _ _ s, f.ov⟩
    | _ => cases e
def keyEq : Key → Key → Bool
  | .inl i, .inl j => i == j
  | .inr x, .inr y => x == y
  | _, _ => false
theorem keyEq_ok (a b : Key) : keyEq a b = decide (a = b) := by
  cases a with
  | inl i =>
    cases b with
    | inl j => show (i == j) = _; by_cases h : i = j <;> simp [h]
    | inr y => exact (decide_eq_false (by simp)).symm
  | inr x =>
    cases b with
    | inl j => exact (decide_eq_false (by simp)).symm
    | inr y => show (x == y) = _; by_cases h : x = y <;> simp [h]
def getK (k : Key) : List (Key × PV) → Option PV
  | [] => none
  | p :: r => if keyEq p.1 k then some p.2 else getK k r
theorem getK_ok {K : PySem.W.Frag} {g : G} {H : Hp} {k : Key} : ∀ {kvs : List (Key × PV)} {vs : List (Key × V)}, OVk K g H kvs vs → (match getK k kvs with
    | some x => ∃ v, valV vs k = some v ∧ OV K g H x v
    | none => valV vs k = none)
  | _, _, .nil => rfl
  | _, _, .cons (k := k') (x := x) (xs := xs) (v := v) (vs := vs) a b => by
    have ih := getK_ok (k := k) b
    unfold getK
    rw [keyEq_ok]
    by_cases h : k' = k
    · rw [if_pos (decide_eq_true h)]
      exact ⟨v, valV_pos (p := (k', v)) h, a⟩
    · rw [if_neg (by rw [decide_eq_false h]; exact Bool.false_ne_true)]
      rw [valV_neg (p := (k', v)) h]
      exact ih
theorem getK_get {K : PySem.W.Frag} {g : G} {S : Store} {H : Hp} {x y : PV} {u v : V} {kvs : List (Key × PV)} {k : Key} (w : WR K g S H) (hx : OV K g H x u) (hy : OV K g H y v) (e1 : dcOf x = some kvs) (e2 : keyOf y = some k) : ∃ a, u = .ref a ∧ IsD H a ∧ (match getK k kvs with
    | some z => ∃ t, DGet H a v (some t) ∧ OV K g H z t
    | none => DGet H a v none) := by
  obtain ⟨a, vs, rfl, r, f⟩ := dcOf_ok w hx e1
  have hk := keyOf_ok hy e2
  have q := getK_ok (k := k) f
  refine ⟨a, rfl, .inl ⟨vs, r⟩, ?_⟩
  cases e : getK k kvs with
  | some z =>
    rw [e] at q
    obtain ⟨t, h1, h2⟩ := q
    exact ⟨t, .inl ⟨vs, k, r, hk, h1.symm⟩, h2⟩
  | none =>
    rw [e] at q
    exact .inl ⟨vs, k, r, hk, q.symm⟩
def oDIx : PV → PV → Option PV := fun x y => match dcOf x, keyOf y with
  | some kvs, some k => getK k kvs
  | _, _ => none
def rDIx : R2 := fun x y H Q => ∃ a v, x = .ref a ∧ DGet H a y (some v) ∧ Q v H
theorem ix_dict {X : Cx} (hu : X.A.units + 64 < cLine) : IxR X rDIx := by
  intro value slice pins s σ H x y v u Q I rx ry h hs
  obtain ⟨a, w, rfl, g, q⟩ := h
  cases (show v = Value.ref a from rx)
  exact tail_any (dict_typeIs I g) PySem.F.slot_dict_getitem.lookup (d_getItem (by omega) I g ry fun w' s3 I3 rw' => ⟨w, H, I3, rw', q⟩) hs
theorem oDIx_ok {K : PySem.W.Frag} : OpOk K oDIx rDIx := by
  intro g S H x y z u v Q w hx hy e q
  unfold oDIx at e
  split at e
  · rename_i kvs k e1 e2
    obtain ⟨a, rfl, _, h⟩ := getK_get w hx hy e1 e2
    rw [e] at h
    obtain ⟨t, h1, h2⟩ := h
    exact ⟨a, t, rfl, h1, q _ g H (.refl w) h2⟩
  · cases e
def oIxA : PV → PV → Option PV := oE oIx oDIx
theorem ix_A {X : Cx} (hu : X.A.units + 64 < cLine) : IxR X (fun x y H Q => rIx X.K x y H Q ∨ rDIx x y H Q) := IxR.or L2.ix_seq (ix_dict hu)
theorem oIxA_ok {K : PySem.W.Frag} : OpOk K oIxA (fun x y H Q => rIx K x y H Q ∨ rDIx x y H Q) := OpOk.or oIx_ok oDIx_ok
/-! y in d -/
def oDIn (f : Bool → Bool) : PV → PV → Option PV := fun y x => match dcOf x, keyOf y with
  | some kvs, some k => some (.bl (f (getK k kvs).isSome))
  | _, _ => none
def rDIn (f : Bool → Bool) : R2 := fun y x H Q => ∃ a o, x = .ref a ∧ DGet H a y o ∧ Q (.bl (f o.isSome)) H
theorem oDIn_ok {K : PySem.W.Frag} {f : Bool → Bool} : OpOk K (oDIn f) (rDIn f) := by
  intro g S H y x z v u Q w hy hx e q
  unfold oDIn at e
  split at e
  · rename_i kvs k e1 e2
    obtain ⟨a, rfl, _, h⟩ := getK_get w hx hy e1 e2
    cases e
    cases e3 : getK k kvs with
    | none =>
      rw [e3] at h q
      exact ⟨a, none, rfl, h, q _ g H (.refl w) (.frz (.bl _))⟩
    | some t =>
      rw [e3] at h q
      obtain ⟨t', h1, h2⟩ := h
      exact ⟨a, some t', rfl, h1, q _ g H (.refl w) (.frz (.bl _))⟩
  · cases e
theorem op_dIn {X : Cx} (hu : X.A.units + 64 < cLine) : OpR X (compareOp .In) (rDIn fun b => b) := by
  intro pins s σ H y x u v Q I ry rx h
  obtain ⟨a, o, rfl, g, q⟩ := h
  cases (show v = Value.ref a from rx)
  exact d_in (by omega) I g ry fun s3 I3 => ⟨.bl _, H, I3, rfl, q⟩
theorem op_dNotIn {X : Cx} (hu : X.A.units + 64 < cLine) : OpR X (compareOp .NotIn) (rDIn fun b => !b) := by
  intro pins s σ H y x u v Q I ry rx h
  obtain ⟨a, o, rfl, g, q⟩ := h
  cases (show v = Value.ref a from rx)
  exact d_notIn (by omega) I g ry fun s3 I3 => ⟨.bl _, H, I3, rfl, q⟩
def oInA : PV → PV → Option PV := oE oIn (oDIn fun b => b)
def oNotInA : PV → PV → Option PV := oE oNotIn (oDIn fun b => !b)
theorem op_inA {X : Cx} (hu : X.A.units + 64 < cLine) : OpR X (compareOp .In) (fun x y H Q => rInP X.K (fun b => b) x y H Q ∨ rDIn (fun b => b) x y H Q) := L2.OpR.or (op_inP hu) (op_dIn hu)
theorem op_notInA {X : Cx} (hu : X.A.units + 64 < cLine) : OpR X (compareOp .NotIn) (fun x y H Q => rInP X.K (fun b => !b) x y H Q ∨ rDIn (fun b => !b) x y H Q) := L2.OpR.or (op_notInP hu) (op_dNotIn hu)
theorem oInA_ok {K : PySem.W.Frag} : OpOk K oInA (fun x y H Q => rInP K (fun b => b) x y H Q ∨ rDIn (fun b => b) x y H Q) := OpOk.or oIn_ok oDIn_ok
theorem oNotInA_ok {K : PySem.W.Frag} : OpOk K oNotInA (fun x y H Q => rInP K (fun b => !b) x y H Q ∨ rDIn (fun b => !b) x y H Q) := OpOk.or oNotIn_ok oDIn_ok

/-! ### calls: one rule or the other -/
def bE (a b : List PV → Option PV) : List PV → Option PV := fun xs => match a xs with
  | some z => some z
  | none => b xs
theorem CallOk.or {K : PySem.W.Frag} {a b : List PV → Option PV} {r r' : List V → Hp → VK → Prop} (h : CallOk K a r) (h' : CallOk K b r') : CallOk K (bE a b) (fun xs H Q => r xs H Q ∨ r' xs H Q) := by
  intro g S H xs z us Q w hx e q
  unfold bE at e
  cases c : a xs with
  | some t =>
    rw [c] at e
    exact .inl (h g S H xs z us Q w hx (c.trans e) q)
  | none =>
    rw [c] at e
    exact .inr (h' g S H xs z us Q w hx e q)
/-- list(x) of a list or a tuple -/
def bListS : List PV → Option PV
  | [x] => (sqOf x).map .lst
  | _ => none
theorem bListS_ok {K : PySem.W.Frag} : CallOk K bListS (fun xs H Q => ∃ p ys, xs = [.ref p] ∧ (SqL K H p ys ∨ SqT K H p ys) ∧ ∀ l, H l = none → Q (.ref l) (upd H l (.lst ys))) := by
  intro g S H xs z us Q w hx e q
  unfold bListS at e
  split at e
  · rename_i x
    obtain ⟨u, rfl, hu⟩ := ovs1 hx
    cases e2 : sqOf x with
    | none => rw [e2] at e; cases e
    | some ys =>
      rw [e2] at e
      have e3 : z = .lst ys := (Option.some.inj e).symm
      subst e3
      obtain ⟨a, vs, rfl, sq, f⟩ := sqOf_ok w hu e2
      refine ⟨a, vs, rfl, sq, fun p hp => ?_⟩
      obtain ⟨gr, f2⟩ := new_lst w hp f
      exact q _ _ _ gr (.frz f2)
  · cases e
def kP : Key → PV
  | .inl i => .int i
  | .inr x => .str x
theorem kP_fr {K : PySem.W.Frag} {g : G} (k : Key) : FR K g (kP k) (kV k) := by cases k <;> constructor
theorem OVk.keys {K : PySem.W.Frag} {g : G} {H : Hp} : ∀ {kvs : List (Key × PV)} {vs : List (Key × V)}, OVk K g H kvs vs → FRs K g (kvs.map fun p => kP p.1) (vs.map fun p => kV p.1)
  | _, _, .nil => .nil
  | _, _, .cons a b => .cons (kP_fr _) (OVk.keys b)
theorem OVk.length {K : PySem.W.Frag} {g : G} {H : Hp} : ∀ {kvs : List (Key × PV)} {vs : List (Key × V)}, OVk K g H kvs vs → kvs.length = vs.length
  | _, _, .nil => rfl
  | _, _, .cons a b => by simp [OVk.length b]
def bListD : List PV → Option PV
  | [x] => (dcOf x).map fun kvs => .lst (kvs.map fun p => kP p.1)
  | _ => none
theorem bListD_ok {K : PySem.W.Frag} : CallOk K bListD (fun xs H Q => ∃ (a : Addr) (kvs : List (Key × V)), xs = [.ref a] ∧ Rd H a (.dK kvs) ∧ ∀ p, H p = none → Q (.ref p) (upd H p (.lst (kvs.map fun kv => kV kv.1)))) := by
  intro g S H xs z us Q w hx e q
  unfold bListD at e
  split at e
  · rename_i x
    obtain ⟨u, rfl, hu⟩ := ovs1 hx
    cases e2 : dcOf x with
    | none => rw [e2] at e; cases e
    | some ys =>
      rw [e2] at e
      have e3 : z = .lst (ys.map fun p => kP p.1) := (Option.some.inj e).symm
      subst e3
      obtain ⟨a, vs, rfl, sq, f⟩ := dcOf_ok w hu e2
      refine ⟨a, vs, rfl, sq, fun p hp => ?_⟩
      obtain ⟨gr, f2⟩ := new_lst w hp f.keys
      exact q _ _ _ gr (.frz f2)
  · cases e
def bList : List PV → Option PV := bE bListS bListD
/-- len(d) -/
def bLenD : List PV → Option PV
  | [x] => (dcOf x).map fun kvs => .int kvs.length
  | _ => none
def rLenD : List V → Hp → VK → Prop := fun xs H Q => ∃ (a : Addr) (kvs : List (Key × V)), xs = [.ref a] ∧ Rd H a (.dK kvs) ∧ Q (.int kvs.length) H
theorem call_lenD {X : Cx} : CallR X (.builtin "len") rLenD := by
  intro pins s σ H xs us Q I r h
  obtain ⟨a, kvs, rfl, rd, q⟩ := h
  rw [Vals.ref1 r]
  exact d_len I rd fun t s' I' => ⟨.int kvs.length, H, I', ⟨t, rfl⟩, q⟩
theorem bLenD_ok {K : PySem.W.Frag} : CallOk K bLenD rLenD := by
  intro g S H xs z us Q w hx e q
  unfold bLenD at e
  split at e
  · rename_i x
    obtain ⟨u, rfl, hu⟩ := ovs1 hx
    cases e2 : dcOf x with
    | none => rw [e2] at e; cases e
    | some ys =>
      rw [e2] at e
      have e3 : z = .int ys.length := (Option.some.inj e).symm
      subst e3
      obtain ⟨a, vs, rfl, sq, f⟩ := dcOf_ok w hu e2
      exact ⟨a, vs, rfl, sq, q _ g H (.refl w) (by rw [f.length]; exact .frz (.int _))⟩
  · cases e
def bLenA : List PV → Option PV := bE bLen bLenD
end L3

end
section
set_option Elab.async false
set_option linter.all false
set_option maxRecDepth 100000
set_option maxHeartbeats 4000000
namespace LiI
open PySem PySem.Spec L2 PyProof.Rows
def rItemsR : V → Hp → VK → Prop := fun x H Q => ∃ (d : Addr) (kvs : List (Key × V)), x = .ref d ∧ Rd H d (.dK kvs) ∧
  ∀ (H' : Hp) (p : Addr) (ts : List Addr), (∀ b o, H b = some o → H' b = some o) → H p = none → (∀ t ∈ ts, H t = none) → p ∉ ts → H' p = some (.lst (ts.map V.ref)) → Paired (fun (t : Addr) (q : Key × V) => H' t = some (.tup [kV q.1, q.2])) ts kvs → Q (.ref p) H'
def tListItemsR (te : TE) : TE := fun σ H Q => te σ H fun x H1 => rItemsR x H1 Q
section
variable {X : Cx} {e : Expr} {te : TE} {p apos cpos pos : Pos}
theorem pe_listItemsR (hc : X.calm = true) (he : PE X e te) (hg : Gl X "list") (hm : X.mg "list" = none) (hv : bootBuiltins "list" = some (.type "list")) (hbase : attributeBase e "items" X.env (eval e X.env) = eval e X.env := by rfl) (hline : (apos.endLine == cpos.line) = true := by rfl)
    (hs : starEach [.Call (.Attribute e "items" apos) [] [] cpos] X.env = (false, eval (.Call (.Attribute e "items" apos) [] [] cpos) X.env) :: starEach [] X.env := by rfl) :
    PE X (.Call (.Name "list" p) [.Call (.Attribute e "items" apos) [] [] cpos] [] pos) (tListItemsR te) := by
  refine ⟨fun pins s σ H Q I hq => ?_⟩
  refine wpAny_Call_Name_kw (ld_blt I hg hm hv ?_)
  refine PyProof.Rows.callWith_type1 ?_ hs rfl
  rw [hs]
  show wpAny _ _ (spliced ((false, eval (.Call (.Attribute e "items" apos) [] [] cpos) X.env) :: backTo pos (starEach [] X.env))) _ _ s
  refine Calls.spliced_cons ?_
  refine wpAny_Call_method (T := "dict") (id := "dict.items") hbase rfl hline F.plainAttrs_dict F.slot_dict_items F.type_dict_items (thn (he.run pins s σ H _ I hq) fun u s1 ⟨x, H1, I1, rx, d, kvs, ex, hd, q⟩ => ?_)
  subst ex
  obtain rfl : u = Value.ref d := rx
  obtain ⟨hz, hs0, vs, kv, hdo⟩ := hd.ok I1.hok
  obtain ⟨ep, hat⟩ := hdo.dictAt
  have lk : kvs.length = vs.length := Paired.length kv
  have I2 : Inv X pins σ H1 { s1 with heap := s1.heap.push { cls := .type "dict_items", data := .fields #[.ref d] } } := I1.kept (t' := s1.toks) fun b ob q => Heap.get?_push_of_some _ q
  refine ⟨hdo.typeIs, hdo.mapOf.noDict, ?_⟩
  show wpAny _ _ (callWith cpos (.builtin "dict.items") [.ref d] [] []) _ X.xe s1
  refine method_meetsIn F.slot_dict_items F.entry_dict_items rfl (PySem.evalArgs_none ⟨rfl, hdo.typeIs, F.args_dict_items_1 _, _, meets_dict_items (mixKind X.prog X.w) d hs0, ⟨vs, hdo⟩, ?_⟩)
  refine Calls.spliced_nil ?_
  refine PySem.W.kdx_call (knd := mixKind X.prog X.w) (kvs := vs) (ep := ep) (I1.ok.hd hc) ⟨_, Heap.get?_push_size _ rfl, rfl, rfl⟩ (hat.push _) (by omega) fun h' tk acc c as hk hS hl hG hacc => ?_
  obtain ⟨H', k1, k2, k3, k4, k5, k6, J⟩ := items_laid (tk := tk) I2 hz kv hk hS hl hG hacc
  exact ⟨.ref _, H', J, rfl, q H' _ as k1 k2 k3 k4 k5 k6⟩
end
end LiI
namespace L3
open PySem PySem.Spec L2 PyProof.Rows
set_option autoImplicit false

/-- many new objects at once, all at rest from now on -/
theorem grow_many {K : PySem.W.Frag} {g : G} {S : Store} {H H' : Hp} (w : WR K g S H) (hs : ∀ b o, H b = some o → H' b = some o) (A : Addr → Bool) (hA : ∀ b, A b = true → H b = none) :
    Grow g H { g with F := fun b => if A b then H' b else g.F b } H' := by
  have fn : ∀ b, A b = true → g.F b = none := fun b hb => by
    cases e : g.F b with
    | none => rfl
    | some u => rcases w.f b u (.inl e) with q | ⟨_, q⟩ <;> rw [hA b hb] at q <;> cases q
  have off : ∀ b u, g.F b = some u → A b = false := fun b u e => by
    cases h : A b with
    | false => rfl
    | true => rw [fn b h] at e; cases e
  refine ⟨⟨fun b u e => ?_, Nat.le_refl _, fun _ _ => rfl⟩, rfl, rfl, rfl, fun b u e => hs b u e, fun b u e => ?_, fun b e => ?_⟩
  · show (if A b then H' b else g.F b) = some u
    rw [off b u e, if_neg Bool.false_ne_true]; exact e
  · cases h : A b with
    | true =>
      rcases e with e | ⟨ob, e⟩
      · have e : (if A b then H' b else g.F b) = some u := e
        rw [h, if_pos rfl] at e; exact .inl e
      · have e : (if A b then H' b else g.F b) = some (.frz ob u) := e
        rw [h, if_pos rfl] at e; exact .inr ⟨ob, e⟩
    | false =>
      have e' : Rd g.F b u := by
        rcases e with e | ⟨ob, e⟩
        · have e : (if A b then H' b else g.F b) = some u := e
          rw [h, if_neg Bool.false_ne_true] at e; exact .inl e
        · have e : (if A b then H' b else g.F b) = some (.frz ob u) := e
          rw [h, if_neg Bool.false_ne_true] at e; exact .inr ⟨ob, e⟩
      exact RdLe.of_same (fun b o e => hs b o e) _ _ (w.f b u e')
  · cases h : A b with
    | true => exact .inr (hA b h)
    | false =>
      left
      have e : (if A b then H' b else g.F b) ≠ none := e
      rw [h, if_neg Bool.false_ne_true] at e; exact e
theorem OVk.fr {K : PySem.W.Frag} {g : G} {H : Hp} : ∀ {kvs : List (Key × PV)} {vs : List (Key × V)}, OVk K g H kvs vs → (kvs.all fun p => fz p.2) = true → FRk K g kvs vs
  | _, _, .nil, _ => .nil
  | _, _, .cons a b, h => by
    simp only [List.all_cons, Bool.and_eq_true] at h
    exact .cons (a.fr h.1) (OVk.fr b h.2)
theorem items_frs {K : PySem.W.Frag} {g : G} {F' : Hp} (hF : ∀ b u, F' b = some u → g.F b = some u) : ∀ {ts : List Addr} {kvs : List (Key × PV)} {vs : List (Key × V)}, Paired (fun (t : Addr) (q : Key × V) => F' t = some (.tup [kV q.1, q.2])) ts vs → FRk K g kvs vs →
    FRs K g (kvs.map fun p => .tup [kP p.1, p.2]) (ts.map V.ref)
  | _, _, _, .nil, h => by cases h; exact .nil
  | _, _, _, .cons a b, h => by
    cases h with
    | cons c d => exact .cons (.tup (.inl (.inl (hF _ _ a))) (.cons (kP_fr _) (.cons c .nil))) (items_frs hF b d)
section
variable {X : Cx} {md : Md X.K} {W : WX} {a b e f o : Expr} {pos p apos cpos : Pos}
def oItems (x : PV) : Option PV := match dcOf x with
  | some kvs => if kvs.all fun p => fz p.2 then some (.lst (kvs.map fun p => .tup [kP p.1, p.2])) else none
  | none => none
theorem e_listItems {m : Ex} (hc : X.calm = true) (h : SimE X W e m) (hg : Gl X "list") (hm : X.mg "list" = none) (hbase : attributeBase e "items" X.env (eval e X.env) = eval e X.env := by rfl) (hline : (apos.endLine == cpos.line) = true := by rfl)
    (hs : starEach [.Call (.Attribute e "items" apos) [] [] cpos] X.env = (false, eval (.Call (.Attribute e "items" apos) [] [] cpos) X.env) :: starEach [] X.env := by rfl) : SimE X W (.Call (.Name "list" p) [.Call (.Attribute e "items" apos) [] [] cpos] [] pos) (xUn oItems m) := by
  obtain ⟨t, pt, rt⟩ := h.ex
  refine ⟨_, LiI.pe_listItemsR hc pt hg hm (by decide +kernel) hbase hline hs, rch_un (r := LiI.rItemsR) ?_ rt⟩
  intro g S H x z u Q w hx e q
  unfold oItems at e
  split at e
  · rename_i kvs e2
    split at e
    · rename_i hf
      cases e
      obtain ⟨d, vs, rfl, r, f⟩ := dcOf_ok w hx e2
      refine ⟨d, vs, rfl, r, fun H' p ts h1 h2 h3 h4 h5 h6 => ?_⟩
      have gr := grow_many (H' := H') w h1 (fun b => decide (b = p) || decide (b ∈ ts)) (fun b hb => by
        rw [Bool.or_eq_true, decide_eq_true_eq, decide_eq_true_eq] at hb
        rcases hb with rfl | hb
        · exact h2
        · exact h3 b hb)
      refine q _ _ _ gr (.frz (.lst (vs := ts.map V.ref) (.inl ?_) ?_))
      · show (if (decide (p = p) || decide (p ∈ ts)) then H' p else g.F p) = _
        rw [decide_eq_true rfl, Bool.true_or, if_pos rfl]; exact h5
      · have fk : FRk X.K { g with F := fun b => if (decide (b = p) || decide (b ∈ ts)) then H' b else g.F b } kvs vs := FRk.mono gr.le _ _ (f.fr hf)
        have key : ∀ (ts' : List Addr) (vs' : List (Key × V)), Paired (fun (t : Addr) (q : Key × V) => H' t = some (.tup [kV q.1, q.2])) ts' vs' → (∀ t ∈ ts', t ∈ ts) → Paired (fun (t : Addr) (q : Key × V) => (if (decide (t = p) || decide (t ∈ ts)) then H' t else g.F t) = some (.tup [kV q.1, q.2])) ts' vs' := fun ts' vs' hp => by
          induction hp with
          | nil => exact fun _ => .nil
          | @cons x y xs ys a b ih =>
            intro hm
            refine .cons ?_ (ih fun t ht => hm t (List.mem_cons_of_mem _ ht))
            show (if (decide (x = p) || decide (x ∈ ts)) then H' x else g.F x) = _
            rw [decide_eq_true (p := x ∈ ts) (hm _ List.mem_cons_self), Bool.or_true, if_pos rfl]; exact a
        exact items_frs (fun b u e => e) (key ts vs h6 fun t ht => ht) fk
    · cases e
  · cases e

/-! ### d.get -/
def xDGet2 (m n k : Ex) : Ex := fun ρ S => mb (m ρ S) fun x => match dcOf x with
  | some kvs => mb (n ρ S) fun y => mb (k ρ S) fun z => match keyOf y with
    | some c => some (.ok ((getK c kvs).getD z))
    | none => none
  | none => none
theorem OVk.grow {K : PySem.W.Frag} {g g' : G} {H H' : Hp} {kvs : List (Key × PV)} {vs : List (Key × V)} (gr : Grow g H g' H') (f : OVk K g H kvs vs) : OVk K g' H' kvs vs := OVk.mono gr.le (RdLe.of_same gr.h) _ _ f
theorem e_dget2 {m n k : Ex} (hu : X.A.units + 64 < cLine) (ho : SimE X W o m) (he : SimE X W e n) (hf : SimE X W f k) (mm : M2 X o "get" apos e f cpos := by exact ⟨rfl, rfl, rfl, rfl⟩) : SimE X W (.Call (.Attribute o "get" apos) [e, f] [] cpos) (xDGet2 m n k) := by
  obtain ⟨t, pt, rt⟩ := ho.ex
  obtain ⟨t1, p1, r1⟩ := he.ex
  obtain ⟨t2, p2, r2⟩ := hf.ex
  refine ⟨_, pe_dget2 (by omega) pt p1 p2 mm, ?_⟩
  refine Rch.bind (R' := RV X.K) (k := fun x ρ S => match dcOf x with
    | some kvs => mb (n ρ S) fun y => mb (k ρ S) fun z => match keyOf y with
      | some c => some (.ok ((getK c kvs).getD z))
      | none => none
    | none => none) (tk := fun x σ H1 Q => ∃ a, x = .ref a ∧ IsD H1 a ∧ t1 σ H1 fun y H2 => t2 σ H2 fun z H3 => ∃ o, DGet H3 a y o ∧ Q (o.getD z) H3) rt fun x u σ H g S ρ Q res w er hx hm po => ?_
  split at hm
  · rename_i kvs e1
    obtain ⟨a, vs, rfl, r, f⟩ := dcOf_ok w hx e1
    refine ⟨a, rfl, .inl ⟨vs, r⟩, ?_⟩
    cases q1 : n ρ S with
    | none => rw [q1] at hm; cases hm
    | some z1 =>
      rw [q1] at hm
      cases z1 with
      | ex c fs => cases hm; exact r1 σ H g S ρ _ (.ex c fs) w er q1 po
      | ok y =>
        refine r1 σ H g S ρ _ (.ok y) w er q1 fun yv g1 H1 gr1 oy => ?_
        replace hm : mb (k ρ S) (fun z => match keyOf y with
          | some c => some (.ok ((getK c kvs).getD z))
          | none => none) = some res := hm
        cases q2 : k ρ S with
        | none => rw [q2] at hm; cases hm
        | some z2 =>
          rw [q2] at hm
          cases z2 with
          | ex c fs => cases hm; exact r2 σ H1 g1 S ρ _ (.ex c fs) (gr1.wr w) (er.mono gr1) q2 fun cls d g' H' gr x => po cls d g' H' (gr1.trans gr) x
          | ok z =>
            refine r2 σ H1 g1 S ρ _ (.ok z) (gr1.wr w) (er.mono gr1) q2 fun zv g2 H2 gr2 oz => ?_
            replace hm : (match keyOf y with
              | some c => some (.ok ((getK c kvs).getD z))
              | none => none) = some res := hm
            split at hm
            · rename_i c e2
              cases hm
              have hk := keyOf_ok (gr2.ov oy) e2
              have gg := getK_ok (k := c) (OVk.grow gr2 (OVk.grow gr1 f))
              have rr : Rd H2 a (.dK vs) := RdLe.of_same gr2.h _ _ (RdLe.of_same gr1.h _ _ r)
              cases e3 : getK c kvs with
              | some t =>
                rw [e3] at gg po
                obtain ⟨tv, h1, h2⟩ := gg
                exact ⟨some tv, .inl ⟨vs, c, rr, hk, h1.symm⟩, po tv g2 H2 (gr1.trans gr2) h2⟩
              | none =>
                rw [e3] at gg po
                exact ⟨none, .inl ⟨vs, c, rr, hk, gg.symm⟩, po zv g2 H2 (gr1.trans gr2) oz⟩
            · cases hm
  · cases hm
def xDGet1 (m n : Ex) : Ex := fun ρ S => mb (m ρ S) fun x => match dcOf x with
  | some kvs => mb (n ρ S) fun y => match keyOf y with
    | some c => some (.ok ((getK c kvs).getD .non))
    | none => none
  | none => none
theorem e_dget1 {m n : Ex} (hu : X.A.units + 64 < cLine) (ho : SimE X W o m) (he : SimE X W e n) (mm : M1 X o "get" apos e cpos := by exact ⟨rfl, rfl, rfl, rfl⟩) : SimE X W (.Call (.Attribute o "get" apos) [e] [] cpos) (xDGet1 m n) := by
  obtain ⟨t, pt, rt⟩ := ho.ex
  obtain ⟨t1, p1, r1⟩ := he.ex
  refine ⟨_, pe_dget1 (by omega) pt p1 mm, ?_⟩
  refine Rch.bind (R' := RV X.K) (k := fun x ρ S => match dcOf x with
    | some kvs => mb (n ρ S) fun y => match keyOf y with
      | some c => some (.ok ((getK c kvs).getD .non))
      | none => none
    | none => none) (tk := fun x σ H1 Q => ∃ a, x = .ref a ∧ IsD H1 a ∧ t1 σ H1 fun y H2 => ∃ o, DGet H2 a y o ∧ Q (o.getD .non) H2) rt fun x u σ H g S ρ Q res w er hx hm po => ?_
  split at hm
  · rename_i kvs e1
    obtain ⟨a, vs, rfl, r, f⟩ := dcOf_ok w hx e1
    refine ⟨a, rfl, .inl ⟨vs, r⟩, ?_⟩
    cases q1 : n ρ S with
    | none => rw [q1] at hm; cases hm
    | some z1 =>
      rw [q1] at hm
      cases z1 with
      | ex c fs => cases hm; exact r1 σ H g S ρ _ (.ex c fs) w er q1 po
      | ok y =>
        refine r1 σ H g S ρ _ (.ok y) w er q1 fun yv g1 H1 gr1 oy => ?_
        replace hm : (match keyOf y with
          | some c => some (.ok ((getK c kvs).getD .non))
          | none => none) = some res := hm
        split at hm
        · rename_i c e2
          cases hm
          have hk := keyOf_ok oy e2
          have gg := getK_ok (k := c) (OVk.grow gr1 f)
          have rr : Rd H1 a (.dK vs) := RdLe.of_same gr1.h _ _ r
          cases e3 : getK c kvs with
          | some t =>
            rw [e3] at gg po
            obtain ⟨tv, h1, h2⟩ := gg
            exact ⟨some tv, .inl ⟨vs, c, rr, hk, h1.symm⟩, po tv g1 H1 gr1 h2⟩
          | none =>
            rw [e3] at gg po
            exact ⟨none, .inl ⟨vs, c, rr, hk, gg.symm⟩, po .non g1 H1 gr1 (.frz .non)⟩
        · cases hm
  · cases hm
theorem new_dct {K : PySem.W.Frag} {g : G} {S : Store} {H : Hp} (w : WR K g S H) {p : Addr} (hp : H p = none) {xs : List (Key × PV)} {vs : List (Key × V)} (q : FRk K g xs vs) :
    Grow g H { g with F := upd g.F p (.dK vs) } (upd H p (.dK vs)) ∧ FR K { g with F := upd g.F p (.dK vs) } (.dct xs) (.ref p) :=
  ⟨.laid w hp, .dct (.inl upd_same) (FRk.mono (Grow.laid w hp).le _ _ q)⟩
/-- {} -/
theorem e_dnew : SimE X W (.Dict [] [] pos) (xC (.dct [])) := by
  refine ⟨_, pe_dnewK, fun σ H g S ρ Q r w er hm po => ?_⟩
  cases hm
  intro p hp
  obtain ⟨gr, f2⟩ := new_dct w hp (.nil (K := X.K))
  exact po _ _ _ gr (.frz f2)
end
/-! ### dict(pairs) -/
def putKP (kvs : List (Key × PV)) (k : Key) (v : PV) : List (Key × PV) := if kvs.any fun kv => keyEq kv.1 k then kvs.map (fun kv => if keyEq kv.1 k then (kv.1, v) else kv) else kvs ++ [(k, v)]
theorem FRk.any {K : PySem.W.Frag} {g : G} {k : Key} : ∀ {xs : List (Key × PV)} {vs : List (Key × V)}, FRk K g xs vs → (xs.any fun kv => keyEq kv.1 k) = (vs.any fun kv => decide (kv.1 = k))
  | _, _, .nil => rfl
  | _, _, .cons a b => by rw [List.any_cons, List.any_cons, FRk.any b, keyEq_ok]
theorem FRk.rep {K : PySem.W.Frag} {g : G} {k : Key} {x : PV} {v : V} (h : FR K g x v) : ∀ {xs : List (Key × PV)} {vs : List (Key × V)}, FRk K g xs vs → FRk K g (xs.map fun kv => if keyEq kv.1 k then (kv.1, x) else kv) (vs.map fun kv => if kv.1 = k then (kv.1, v) else kv)
  | _, _, .nil => .nil
  | _, _, .cons (k := k') a b => by
    rw [List.map_cons, List.map_cons]
    by_cases hk : k' = k
    · have e1 : keyEq k' k = true := by rw [keyEq_ok]; exact decide_eq_true hk
      rw [if_pos e1, if_pos hk]
      exact .cons h (FRk.rep h b)
    · have e1 : keyEq k' k = false := by rw [keyEq_ok]; exact decide_eq_false hk
      rw [if_neg (by rw [e1]; exact Bool.false_ne_true), if_neg hk]
      exact .cons a (FRk.rep h b)
theorem FRk.append {K : PySem.W.Frag} {g : G} {ys : List (Key × PV)} {us : List (Key × V)} (h : FRk K g ys us) : ∀ {xs : List (Key × PV)} {vs : List (Key × V)}, FRk K g xs vs → FRk K g (xs ++ ys) (vs ++ us)
  | _, _, .nil => h
  | _, _, .cons a b => .cons a (FRk.append h b)
theorem FRk.put {K : PySem.W.Frag} {g : G} {k : Key} {x : PV} {v : V} (h : FR K g x v) {xs : List (Key × PV)} {vs : List (Key × V)} (q : FRk K g xs vs) : FRk K g (putKP xs k x) (putK vs k v) := by
  unfold putKP putK
  rw [q.any]
  split
  · exact q.rep h
  · exact q.append (h := .cons h .nil)
def pairsOf : List PV → Option (List (Key × PV))
  | [] => some []
  | .tup [a, b] :: r => match keyOf a, pairsOf r with
    | some k, some q => some ((k, b) :: q)
    | _, _ => none
  | _ => none
def mergeKP (kvs more : List (Key × PV)) : List (Key × PV) := more.foldl (fun acc kv => putKP acc kv.1 kv.2) kvs
theorem FRk.merge {K : PySem.W.Frag} {g : G} : ∀ {ys : List (Key × PV)} {us : List (Key × V)}, FRk K g ys us → ∀ {xs : List (Key × PV)} {vs : List (Key × V)}, FRk K g xs vs → FRk K g (mergeKP xs ys) (mergeK vs us)
  | _, _, .nil, _, _, q => q
  | _, _, .cons a b, _, _, q => FRk.merge b (q.put a)
theorem pairsOf_ok {K : PySem.W.Frag} {g : G} {S : Store} {H : Hp} (w : WR K g S H) : ∀ {xs : List PV} {vs : List V} {q : List (Key × PV)}, FRs K g xs vs → pairsOf xs = some q → ∃ (ps : List Addr) (kvs : List (Key × V)), vs = ps.map V.ref ∧ Paired (fun p kv => SqT K H p [kV kv.1, kv.2]) ps kvs ∧ FRk K g q kvs
  | [], _, q, f, e => by cases f; cases e; exact ⟨[], [], rfl, .nil, .nil⟩
  | x :: xs, _, q, f, e => by
    cases f with
    | cons fa fb =>
      unfold pairsOf at e
      split at e
      · rename_i heq; cases heq
      · rename_i a b r heq
        cases heq
        split at e
        · rename_i k q' e1 e2
          cases e
          obtain ⟨ps, kvs, rfl, hp, hk⟩ := pairsOf_ok w fb e2
          cases fa with
          | tup s f2 =>
            cases f2 with
            | cons g1 g2 =>
              cases g2 with
              | cons g3 g4 =>
                cases g4
                have hk1 := keyOf_ok (H := H) (.frz g1) e1
                subst hk1
                exact ⟨_ :: ps, (k, _) :: kvs, rfl, .cons (w.f.sqT s) hp, .cons g3 hk⟩
        · cases e
      · cases e
def bDictP : List PV → Option PV
  | [x] => match lsOf x with
    | some xs => (pairsOf xs).map fun q => .dct (mergeKP [] q)
    | none => none
  | _ => none
theorem bDictP_ok {K : PySem.W.Frag} : CallOk K bDictP (fun xs H Q => ∃ (a : Addr) (ps : List Addr) (kvs : List (Key × V)), xs = [.ref a] ∧ SqL K H a (ps.map V.ref) ∧ Paired (fun p kv => SqT K H p [kV kv.1, kv.2]) ps kvs ∧ ∀ p, H p = none → Q (.ref p) (upd H p (.dK (mergeK [] kvs)))) := by
  intro g S H xs z us Q w hx e q
  unfold bDictP at e
  split at e
  · rename_i x
    obtain ⟨u, rfl, hu⟩ := ovs1 hx
    split at e
    · rename_i ys e2
      cases e3 : pairsOf ys with
      | none => rw [e3] at e; cases e
      | some pr =>
        rw [e3] at e
        have e4 : z = .dct (mergeKP [] pr) := (Option.some.inj e).symm
        subst e4
        obtain ⟨a, vs, rfl, r, f⟩ := lsOf_ok w hu e2
        obtain ⟨ps, kvs, rfl, hp, hk⟩ := pairsOf_ok w f e3
        refine ⟨a, ps, kvs, rfl, .inl r, hp, fun p hp => ?_⟩
        obtain ⟨gr, f2⟩ := new_dct w hp (hk.merge .nil)
        exact q _ _ _ gr (.frz f2)
    · cases e
  · cases e
/-- dict(d) -/
def bDictD : List PV → Option PV
  | [x] => match dcOf x with
    | some kvs => if kvs.all fun p => fz p.2 then some (.dct kvs) else none
    | none => none
  | _ => none
theorem bDictD_ok {K : PySem.W.Frag} : CallOk K bDictD (fun xs H Q => ∃ (a : Addr) (kvs : List (Key × V)), xs = [.ref a] ∧ Rd H a (.dK kvs) ∧ ∀ p, H p = none → Q (.ref p) (upd H p (.dK kvs))) := by
  intro g S H xs z us Q w hx e q
  unfold bDictD at e
  split at e
  · rename_i x
    obtain ⟨u, rfl, hu⟩ := ovs1 hx
    split at e
    · rename_i ys e2
      split at e
      · rename_i hf
        cases e
        obtain ⟨a, vs, rfl, r, f⟩ := dcOf_ok w hu e2
        refine ⟨a, vs, rfl, r, fun p hp => ?_⟩
        obtain ⟨gr, f2⟩ := new_dct w hp (f.fr hf)
        exact q _ _ _ gr (.frz f2)
      · cases e
    · cases e
  · cases e
def bDict : List PV → Option PV := bE bDictP bDictD
end L3

end
section
set_option Elab.async false
set_option linter.all false
set_option maxRecDepth 100000
set_option maxHeartbeats 4000000
namespace L3
open PySem PySem.Spec L2
set_option autoImplicit false

/-! ### methods -/
def tMethS (C : Addr) (m : Str) (sp : Sp) (E : St → XK) (ta : TE) (t : TA) : TE := fun σ H Q => ta σ H fun x H1 => ∃ a dx fs, x = .ref a ∧ H1 a = some (.ins C dx fs) ∧ fs.lookup m = none ∧ t σ H1 fun vs H2 => sp (x :: vs) H2 Q (E σ)
section
variable {X : Cx} {CX : CXT} {k : Nat} {f C : Addr} {fd : FuncData} {ps : List Str} {sp : Sp} {E : St → XK} {x m : Str} {p pos apos : Pos} {e o : Expr} {es : List Expr} {ta : TE} {t : TA}
theorem pe_methE {pl : Sem Bool} (he : PE X o ta) (c : Cls X.K C) (hm : Meth X.K C m f) (F : FnOk X.prog X.w X.K X.mg X.base CX k f fd ps sp) (hr : Room k X.A) (hb : Binds X.K fd ps []) (hx : ∀ σ, PassesAt CX X σ (E σ)) (ha : PA X (e :: es) t)
    (hst : starEach (e :: es) X.env = (false, eval e X.env) :: starEach es X.env := by rfl) (hpl : (backTo pos (starEach es X.env)).any (·.1) = false := by rfl)
    (ht : eval (.Call (.Attribute o m apos) (e :: es) [] pos) X.env = (do
      let ov ← eval o X.env
      standAt apos.atName
      let (f, first) ← holding [ov] (getMethod ov m pl)
      callWith pos f first (backTo pos (starEach (e :: es) X.env)) (backToKw pos (keywordEach [] X.env))) := by rfl) :
    PE X (.Call (.Attribute o m apos) (e :: es) [] pos) (tMethS C m sp E ta t) := by
  refine ⟨fun pins s σ H Q I h => ?_⟩
  refine PySem.W.methodCall_KW (pl := pl) (thn (he.run pins s σ H _ I h) fun u s1 ⟨x, H1, I1, rx, a, dx, fs, ex, ea, l, q⟩ => ?_) ht
  subst ex
  obtain rfl : u = Value.ref a := rx
  refine getmeth_ok I1 ea c hm l ?_
  refine PySem.W.callWith_K (first := [.ref a]) (h₀ := X.base) I.ok.mod.kin hm.kp (thn (ha.run pos pins s1 σ H1 _ I1 q) fun us s2 ⟨vs, H2, I2, r, q2⟩ => ⟨I2.kIn, ?_⟩) hst hpl
  exact run_fnS (us := .ref a :: us) (vs := .ref a :: vs) F hr hb (hx σ) I2 (.cons rfl r) q2
theorem pe_methE0 {pl : Sem Bool} (he : PE X o ta) (c : Cls X.K C) (hm : Meth X.K C m f) (F : FnOk X.prog X.w X.K X.mg X.base CX k f fd ps sp) (hr : Room k X.A) (hb : Binds X.K fd ps []) (hx : ∀ σ, PassesAt CX X σ (E σ))
    (ht : eval (.Call (.Attribute o m apos) [] [] pos) X.env = (do
      let ov ← eval o X.env
      standAt apos.atName
      let (f, first) ← holding [ov] (getMethod ov m pl)
      callWith pos f first (backTo pos (starEach [] X.env)) (backToKw pos (keywordEach [] X.env))) := by rfl) :
    PE X (.Call (.Attribute o m apos) [] [] pos) (tMethS C m sp E ta tNil) := by
  refine ⟨fun pins s σ H Q I h => ?_⟩
  refine PySem.W.methodCall_KW (pl := pl) (thn (he.run pins s σ H _ I h) fun u s1 ⟨x, H1, I1, rx, a, dx, fs, ex, ea, l, q⟩ => ?_) ht
  subst ex
  obtain rfl : u = Value.ref a := rx
  refine getmeth_ok I1 ea c hm l ?_
  exact PySem.W.callWith_K0 (first := [.ref a]) I1.kIn hm.kp (run_fnS (us := [.ref a]) (vs := [.ref a]) F hr hb (hx σ) I1 (.cons rfl .nil) q)
end
/-- a method of a class, in the mode md, below the level j -/
structure Me (X : Cx) (md : Md X.K) (j : Nat) (c f : Str) (n : Nat) (m : Fm) : Prop where
  ex : ∃ (k : Nat) (fa : Addr) (fd : FuncData) (ps : List Str), k ≤ j ∧ FnOk X.prog X.w X.K X.mg X.base (L2.CX X.prog X.w) k fa fd ps (spM md n m) ∧ Cls X.K (He.ga X.K c) ∧ Meth X.K (He.ga X.K c) f fa ∧ Binds X.K fd ps []
/-- an instance of the class c whose fields do not hide f -/
def insOf (c f : Str) (S : Store) : PV → Bool
  | .ref n => (match S[n]? with
    | some (.ins c' fs) => c' == c && (fs.lookup f).isNone
    | _ => false)
  | _ => false
theorem OVf.none {K : PySem.W.Frag} {g : G} {H : Hp} {f : Str} : ∀ {xs : List (Str × PV)} {vs : List (Str × V)}, OVf K g H xs vs → (xs.lookup f).isNone = true → vs.lookup f = Option.none
  | _, _, .nil, _ => rfl
  | _, _, .cons (n := f') a b, h => by
    rw [List.lookup_cons] at h ⊢
    cases e : f == f' with
    | true => rw [e] at h; cases h
    | false => rw [e] at h; exact OVf.none b h
theorem insOf_ok {K : PySem.W.Frag} {g : G} {S : Store} {H : Hp} {c f : Str} {x : PV} {u : V} (w : WR K g S H) (h : OV K g H x u) (e : insOf c f S x = true) : ∃ n a dx vs, x = .ref n ∧ u = .ref a ∧ H a = some (.ins (He.ga K c) dx vs) ∧ vs.lookup f = none ∧ FR K g x u := by
  unfold insOf at e
  split at e
  · rename_i n
    split at e
    · rename_i c' fs q
      rw [Bool.and_eq_true] at e
      obtain ⟨e1, e2⟩ := e
      have e1 := eq_of_beq e1
      subst e1
      have fr := h.fr rfl
      cases fr with
      | ref hn =>
        obtain ⟨dx, vs, h1, h2⟩ := w.s n _ q
        exact ⟨n, _, dx, vs, rfl, rfl, h1, h2.none e2, .ref hn⟩
    · cases e
  · cases e
section
variable {X : Cx} {md : Md X.K} {W : WX} {e o : Expr} {es : List Expr} {pos p apos : Pos}
/-- o.f(..), with effects -/
def xMeth (c f : Str) (m : Fm) (n : Nat) (o : Xm) (a : Xa) : Xm := fun ρ S => match o ρ S with
  | some (.ok x, S1) => if insOf c f S1 x then (match a ρ S1 with
    | some (.ok xs, S2) => if xs.length + 1 == n then m (x :: xs) S2 else none
    | some (.ex c fs, S2) => some (.ex c fs, S2)
    | none => none) else none
  | some (.ex c fs, S1) => some (.ex c fs, S1)
  | none => none
theorem rchx_meth {c f : Str} {t : TE} {ta : TA} {ob : Xm} {a : Xa} {n : Nat} {m : Fm} (ro : RchX md W t ob) (ra : RchA md W ta a) : RchX md W (tMethS (He.ga X.K c) f (spM md n m) (WE W) t ta) (xMeth c f m n ob a) := by
  intro σ H g S ρ Q res rr er hm po
  unfold xMeth at hm
  split at hm
  · rename_i x S1 q
    split at hm
    · rename_i hi
      refine ro σ H g S ρ _ (.ok x, S1) rr er q fun v g1 H1 r1 t1 ov => ?_
      obtain ⟨n', a', dx, vs, rfl, rfl, h1, h2, h3⟩ := insOf_ok (md.wr r1) ov hi
      refine ⟨a', dx, vs, rfl, h1, h2, ?_⟩
      split at hm
      · rename_i xs S2 q2
        split at hm
        · rename_i hl
          refine ra σ H1 g1 S1 ρ _ (.ok xs, S2) r1 (er.step t1) q2 fun us g2 H2 r2 t2 fs => ?_
          refine ⟨g2, S2, .ref n' :: xs, res, r2, .cons (FR.mono (md.le t2) _ _ h3) fs, by simpa using eq_of_beq hl, hm, ?_⟩
          obtain ⟨res1, S3⟩ := res
          cases res1 with
          | ok y => exact fun v g' H' r3 t3 f3 => po v g' H' r3 (md.trans t1 (md.trans t2 t3)) (.frz f3)
          | ex c fs => exact fun cls d g' H' r3 t3 x3 => po cls d g' H' r3 (md.trans t1 (md.trans t2 t3)) x3
        · cases hm
      · rename_i c' fs S2 q2
        cases hm
        exact ra σ H1 g1 S1 ρ _ (.ex c' fs, S2) r1 (er.step t1) q2 fun cls d g' H' r3 t3 x3 => po cls d g' H' r3 (md.trans t1 t3) x3
      · cases hm
    · cases hm
  · rename_i c' fs S1 q
    cases hm
    exact ro σ H g S ρ _ (.ex c' fs, S1) rr er q po
  · cases hm
theorem x_meth {c f : Str} {j n : Nat} {m : Fm} {ob : Xm} {a : Xa} {pl : Sem Bool} (F : Me X md j c f n m) (hr : Room j X.A) (tk : Takes X W) (ho : SimX X md W o ob) (ha : SimXA X md W (e :: es) a)
    (hst : starEach (e :: es) X.env = (false, eval e X.env) :: starEach es X.env := by rfl) (hpl : (backTo pos (starEach es X.env)).any (·.1) = false := by rfl)
    (ht : eval (.Call (.Attribute o f apos) (e :: es) [] pos) X.env = (do
      let ov ← eval o X.env
      standAt apos.atName
      let (f, first) ← holding [ov] (getMethod ov f pl)
      callWith pos f first (backTo pos (starEach (e :: es) X.env)) (backToKw pos (keywordEach [] X.env))) := by rfl) : SimX X md W (.Call (.Attribute o f apos) (e :: es) [] pos) (xMeth c f m n ob a) := by
  obtain ⟨k, fa, fd, ps, hk, F, hc, hme, hb⟩ := F.ex
  obtain ⟨t, po, ro⟩ := ho.ex
  obtain ⟨ta, pa, ra⟩ := ha.ex
  exact ⟨_, pe_methE (pl := pl) po hc hme F (hr.mono hk) hb (fun σ => passAt tk σ) pa hst hpl ht, rchx_meth ro ra⟩
theorem x_meth0 {c f : Str} {j n : Nat} {m : Fm} {ob : Xm} {pl : Sem Bool} (F : Me X md j c f n m) (hr : Room j X.A) (tk : Takes X W) (ho : SimX X md W o ob)
    (ht : eval (.Call (.Attribute o f apos) [] [] pos) X.env = (do
      let ov ← eval o X.env
      standAt apos.atName
      let (f, first) ← holding [ov] (getMethod ov f pl)
      callWith pos f first (backTo pos (starEach [] X.env)) (backToKw pos (keywordEach [] X.env))) := by rfl) : SimX X md W (.Call (.Attribute o f apos) [] [] pos) (xMeth c f m n ob aXNil) := by
  obtain ⟨k, fa, fd, ps, hk, F, hc, hme, hb⟩ := F.ex
  obtain ⟨t, po, ro⟩ := ho.ex
  exact ⟨_, pe_methE0 (pl := pl) po hc hme F (hr.mono hk) hb (fun σ => passAt tk σ) ht, rchx_meth ro (fun σ H g S ρ Q r rr er hm po => by cases hm; exact po [] g H rr (md.refl rr) .nil)⟩
/-- o.f(..) that reads the store alone -/
def xMethP (c f : Str) (m : Fm) (n : Nat) (o : Ex) (a : Ar) : Ex := fun ρ S => mb (o ρ S) fun x => if insOf c f S x then mb (a ρ S) fun xs => if xs.all fz && xs.length + 1 == n then (m (x :: xs) S).map (·.1) else none else none
theorem rch_meth {c f : Str} {t : TE} {ta : TA} {ob : Ex} {a : Ar} {n : Nat} {m : Fm} (ro : Rch X.K (RV X.K) W t ob) (ra : Rch X.K (RL X.K) W ta a) : Rch X.K (RV X.K) W (tMethS (He.ga X.K c) f (spM (Pm X.K) n m) (WE W) t ta) (xMethP c f m n ob a) := by
  refine Rch.bind (R' := RV X.K) (k := fun x ρ S => if insOf c f S x then mb (a ρ S) fun xs => if xs.all fz && xs.length + 1 == n then (m (x :: xs) S).map (·.1) else none else none)
    (tk := fun x σ H1 Q => ∃ a dx fs, x = .ref a ∧ H1 a = some (.ins (He.ga X.K c) dx fs) ∧ fs.lookup f = none ∧ ta σ H1 fun vs H2 => spM (Pm X.K) n m (x :: vs) H2 Q (WE W σ)) ro fun x u σ H g S ρ Q res w er hx hm po => ?_
  split at hm
  · rename_i hi
    obtain ⟨n', a', dx, vs, rfl, rfl, h1, h2, h3⟩ := insOf_ok w hx hi
    refine ⟨a', dx, vs, rfl, h1, h2, ?_⟩
    cases q1 : a ρ S with
    | none => rw [q1] at hm; cases hm
    | some z1 =>
      rw [q1] at hm
      cases z1 with
      | ex c' fs => cases hm; exact ra σ H g S ρ _ (.ex c' fs) w er q1 po
      | ok xs =>
        replace hm : (if xs.all fz && xs.length + 1 == n then (m (.ref n' :: xs) S).map (·.1) else none) = some res := hm
        split at hm
        · rename_i hc
          rw [Bool.and_eq_true] at hc
          cases q2 : m (.ref n' :: xs) S with
          | none => rw [q2] at hm; cases hm
          | some z2 =>
            rw [q2] at hm
            obtain ⟨z2, S2⟩ := z2
            have e2 : res = z2 := (Option.some.inj hm).symm
            subst e2
            refine ra σ H g S ρ _ (.ok xs) w er q1 fun us g1 H1 gr1 hxs => ?_
            refine ⟨g1, S, .ref n' :: xs, (res, S2), gr1.wr w, .cons (gr1.fr h3) (OVs.frs hxs hc.1), by simpa using eq_of_beq hc.2, q2, ?_⟩
            cases res with
            | ok y => exact fun v g' H' r3 t3 f3 => po v g' H' (gr1.trans t3.1) (.frz f3)
            | ex c fs => exact fun cls d g' H' r3 t3 x3 => po cls d g' H' (gr1.trans t3.1) x3
        · cases hm
  · cases hm
theorem e_meth {c f : Str} {j n : Nat} {m : Fm} {ob : Ex} {a : Ar} {pl : Sem Bool} (F : Me X (Pm X.K) j c f n m) (hr : Room j X.A) (tk : Takes X W) (ho : SimE X W o ob) (ha : SimA X W (e :: es) a)
    (hst : starEach (e :: es) X.env = (false, eval e X.env) :: starEach es X.env := by rfl) (hpl : (backTo pos (starEach es X.env)).any (·.1) = false := by rfl)
    (ht : eval (.Call (.Attribute o f apos) (e :: es) [] pos) X.env = (do
      let ov ← eval o X.env
      standAt apos.atName
      let (f, first) ← holding [ov] (getMethod ov f pl)
      callWith pos f first (backTo pos (starEach (e :: es) X.env)) (backToKw pos (keywordEach [] X.env))) := by rfl) : SimE X W (.Call (.Attribute o f apos) (e :: es) [] pos) (xMethP c f m n ob a) := by
  obtain ⟨k, fa, fd, ps, hk, F, hc, hme, hb⟩ := F.ex
  obtain ⟨t, po, ro⟩ := ho.ex
  obtain ⟨ta, pa, ra⟩ := ha.ex
  exact ⟨_, pe_methE (pl := pl) po hc hme F (hr.mono hk) hb (fun σ => passAt tk σ) pa hst hpl ht, rch_meth ro ra⟩
theorem e_meth0 {c f : Str} {j n : Nat} {m : Fm} {ob : Ex} {pl : Sem Bool} (F : Me X (Pm X.K) j c f n m) (hr : Room j X.A) (tk : Takes X W) (ho : SimE X W o ob)
    (ht : eval (.Call (.Attribute o f apos) [] [] pos) X.env = (do
      let ov ← eval o X.env
      standAt apos.atName
      let (f, first) ← holding [ov] (getMethod ov f pl)
      callWith pos f first (backTo pos (starEach [] X.env)) (backToKw pos (keywordEach [] X.env))) := by rfl) : SimE X W (.Call (.Attribute o f apos) [] [] pos) (xMethP c f m n ob aNil) := by
  obtain ⟨k, fa, fd, ps, hk, F, hc, hme, hb⟩ := F.ex
  obtain ⟨t, po, ro⟩ := ho.ex
  exact ⟨_, pe_methE0 (pl := pl) po hc hme F (hr.mono hk) hb (fun σ => passAt tk σ) ht, rch_meth ro (fun σ H g S ρ Q r w er hm po => by cases hm; exact po [] g H (.refl w) .nil)⟩

/-! ### this way or that way -/
theorem PE.or {t u : TE} (h : PE X e t) (k : PE X e u) : PE X e (fun σ H Q => t σ H Q ∨ u σ H Q) := ⟨fun pins s σ H Q I q => by
  rcases q with q | q
  · exact h.run pins s σ H Q I q
  · exact k.run pins s σ H Q I q⟩
def xEl (m n : Xm) : Xm := fun ρ S => match m ρ S with
  | some r => some r
  | none => n ρ S
theorem x_el {m n : Xm} (h : SimX X md W e m) (k : SimX X md W e n) : SimX X md W e (xEl m n) := by
  obtain ⟨t, p, r⟩ := h.ex
  obtain ⟨t', p', r'⟩ := k.ex
  refine ⟨_, PE.or p p', fun σ H g S ρ Q res rr er hm po => ?_⟩
  unfold xEl at hm
  split at hm
  · rename_i z q
    cases hm
    exact .inl (r σ H g S ρ Q res rr er q po)
  · exact .inr (r' σ H g S ρ Q res rr er hm po)
def eEl (m n : Ex) : Ex := fun ρ S => match m ρ S with
  | some r => some r
  | none => n ρ S
theorem e_el {m n : Ex} (h : SimE X W e m) (k : SimE X W e n) : SimE X W e (eEl m n) := by
  obtain ⟨t, p, r⟩ := h.ex
  obtain ⟨t', p', r'⟩ := k.ex
  refine ⟨_, PE.or p p', fun σ H g S ρ Q res rr er hm po => ?_⟩
  unfold eEl at hm
  split at hm
  · rename_i z q
    cases hm
    exact .inl (r σ H g S ρ Q res rr er q po)
  · exact .inr (r' σ H g S ρ Q res rr er hm po)
/-- not to be met -/
def xNone : Xm := fun _ _ => none
theorem pe_never : PE X e (fun _ _ _ => False) := ⟨fun _ _ _ _ _ _ h => h.elim⟩
theorem x_never : SimX X md W e xNone := ⟨_, pe_never, fun σ H g S ρ Q res rr er hm po => by cases hm⟩
def eNone : Ex := fun _ _ => none
theorem e_never : SimE X W e eNone := ⟨_, pe_never, fun σ H g S ρ Q res rr er hm po => by cases hm⟩
end
end L3

end
section
set_option Elab.async false
set_option linter.all false
set_option maxRecDepth 100000
set_option maxHeartbeats 4000000
namespace L3
open PySem PySem.Spec L2
set_option autoImplicit false

/-! ### what a slot owns comes to rest -/
def FrI {K : PySem.W.Frag} (md : Md K) : Prop := ∀ (g : G) (F : Hp) (a : Addr), md.fr g a → md.fr { g with F := F } a
theorem fri_P {K : PySem.W.Frag} : FrI (Pm K) := fun _ _ _ _ => trivial
theorem fri_E {K : PySem.W.Frag} : FrI (Em K) := fun _ _ _ h => h
def frzP : PV → PV
  | .ol xs => .lst xs
  | .od xs => .dct xs
  | x => x
theorem envS_rest {K : PySem.W.Frag} {md : Md K} (hF : FrI md) {H0 : Hp} {g : G} {H : Hp} {σ : St} {ρ : Env} (e : EnvS md H0 g H σ ρ) {i : Nat} {x y : PV} {a : Addr} {o : HO} (hi : ρ[i]? = some (some x)) (hx : fz x = false) (hs : σ[i]? = some (some (.ref a))) (fa : g.F a = none) (hy : fz y = true)
    (f : FR K { g with F := upd g.F a o } y (.ref a)) : EnvS md H0 { g with F := upd g.F a o } H σ (ρ.set i (some y)) := by
  have hl := e.f.r.len
  have le : GLe g { g with F := upd g.F a o } := GLe.laid fa
  refine ⟨⟨⟨by simp [hl], fun j z h => ?_, fun j k z u v h1 h2 f1 f2 s1 s2 => ?_⟩, fun j z b h hfz hs' => ?_⟩, fun j z b h hfz hs' => ?_⟩
  · rcases get_set h with ⟨rfl, _, hz⟩ | ⟨ne, h⟩
    · cases hz; exact ⟨_, hs, SlR.of_fr f⟩
    · obtain ⟨v, hv, sl⟩ := e.f.r.at_ j z h
      refine ⟨v, hv, ?_⟩
      cases z with
      | ol ys =>
        obtain ⟨b, vs, e1, e2, e3, e4⟩ := sl
        have nb : b ≠ a := fun eb => ne (e.f.r.inj j i _ x (.ref a) h hi rfl hx (by rw [hv, e1, eb]) hs)
        exact ⟨b, vs, e1, e2, FRs.mono le _ _ e3, by show upd g.F a o b = none; rw [upd_ne nb]; exact e4⟩
      | od ys =>
        obtain ⟨b, vs, e1, e2, e3, e4⟩ := sl
        have nb : b ≠ a := fun eb => ne (e.f.r.inj j i _ x (.ref a) h hi rfl hx (by rw [hv, e1, eb]) hs)
        exact ⟨b, vs, e1, e2, FRk.mono le _ _ e3, by show upd g.F a o b = none; rw [upd_ne nb]; exact e4⟩
      | _ => exact FR.mono le _ _ sl
  · rcases get_set h1 with ⟨_, _, hz⟩ | ⟨n1, h1⟩
    · cases hz; rw [hy] at f1; cases f1
    · rcases get_set h2 with ⟨_, _, hz⟩ | ⟨n2, h2⟩
      · cases hz; rw [hy] at f2; cases f2
      · exact e.f.r.inj j k z u v h1 h2 f1 f2 s1 s2
  · rcases get_set h with ⟨_, _, hz⟩ | ⟨_, h⟩
    · cases hz; rw [hy] at hfz; cases hfz
    · exact hF g _ b (e.f.o j z b h hfz hs')
  · rcases get_set h with ⟨_, _, hz⟩ | ⟨_, h⟩
    · cases hz; rw [hy] at hfz; cases hfz
    · exact e.n j z b h hfz hs'
section
variable {X : Cx} {md : Md X.K} {W : WX} {st : Stmt} {e : Expr} {pos : Pos}
def sFrz (i : Nat) (m : Sm) : Sm := fun ρ S => match ρ[i]? with
  | some (some (.ol xs)) => m (ρ.set i (some (.lst xs))) S
  | some (some (.od xs)) => m (ρ.set i (some (.dct xs))) S
  | _ => m ρ S
theorem s_frz {m : Sm} (hF : FrI md) (i : Nat) (h : SimS X md W st m) : SimS X md W st (sFrz i m) := by
  obtain ⟨t, p, r⟩ := h.ex
  refine ⟨t, p, fun σ H g S ρ gb g0 H0 S0 D res r0 rr tt er hm po => ?_⟩
  unfold sFrz at hm
  split at hm
  · rename_i xs hi
    obtain ⟨v, hv, a, vs, rfl, h1, h2, h3⟩ := er.f.r.at_ i _ hi
    obtain ⟨ra, ta⟩ := md.rest tt.t rr h1 (er.n i _ a hi rfl hv) h3 (er.f.o i _ a hi rfl hv)
    have le : GLe g { g with F := upd g.F a (.lst vs) } := GLe.laid h3
    exact r σ H _ S _ gb g0 H0 S0 D res r0 ra ⟨ta, tt.l.trans le⟩ (envS_rest hF er (y := .lst xs) hi rfl hv h3 rfl (.lst (.inl upd_same) (FRs.mono le _ _ h2))) hm po
  · rename_i xs hi
    obtain ⟨v, hv, a, vs, rfl, h1, h2, h3⟩ := er.f.r.at_ i _ hi
    obtain ⟨ra, ta⟩ := md.rest tt.t rr h1 (er.n i _ a hi rfl hv) h3 (er.f.o i _ a hi rfl hv)
    have le : GLe g { g with F := upd g.F a (.dK vs) } := GLe.laid h3
    exact r σ H _ S _ gb g0 H0 S0 D res r0 ra ⟨ta, tt.l.trans le⟩ (envS_rest hF er (y := .dct xs) hi rfl hv h3 rfl (.dct (.inl upd_same) (FRk.mono le _ _ h2))) hm po
  · exact r σ H g S ρ gb g0 H0 S0 D res r0 rr tt er hm po

/-! ### a new value: at rest, or a list or dict that nobody else has -/
def NewV {K : PySem.W.Frag} (md : Md K) (H : Hp) (g' : G) (H' : Hp) (v : V) : PV → Prop
  | .ol xs => ∃ p vs, v = .ref p ∧ H p = none ∧ H' p = some (.lst vs) ∧ g'.F p = none ∧ md.fr g' p ∧ FRs K g' xs vs
  | .od xs => ∃ p vs, v = .ref p ∧ H p = none ∧ H' p = some (.dK vs) ∧ g'.F p = none ∧ md.fr g' p ∧ FRk K g' xs vs
  | x => FR K g' x v
theorem NewV.step {K : PySem.W.Frag} {md : Md K} {H H' H2 : Hp} {g' g2 : G} {S' S2 : Store} {v : V} (t : md.T g' H' S' g2 H2 S2) : ∀ {x : PV}, NewV md H g' H' v x → NewV md H g2 H2 v x
  | .ol xs, ⟨p, vs, e, h0, h1, h2, h3, h4⟩ => by obtain ⟨q1, q2, q3⟩ := md.own t h1 h2 h3; exact ⟨p, vs, e, h0, q1, q2, q3, FRs.mono (md.le t) _ _ h4⟩
  | .od xs, ⟨p, vs, e, h0, h1, h2, h3, h4⟩ => by obtain ⟨q1, q2, q3⟩ := md.own t h1 h2 h3; exact ⟨p, vs, e, h0, q1, q2, q3, FRk.mono (md.le t) _ _ h4⟩
  | .non, h => FR.mono (md.le t) _ _ h | .bl _, h => FR.mono (md.le t) _ _ h | .int _, h => FR.mono (md.le t) _ _ h | .str _, h => FR.mono (md.le t) _ _ h | .ty _, h => FR.mono (md.le t) _ _ h
  | .tup _, h => FR.mono (md.le t) _ _ h | .lst _, h => FR.mono (md.le t) _ _ h | .dct _, h => FR.mono (md.le t) _ _ h | .ref _, h => FR.mono (md.le t) _ _ h | .kl _, h => FR.mono (md.le t) _ _ h | .xv _ _, h => FR.mono (md.le t) _ _ h
theorem NewV.of_fr {K : PySem.W.Frag} {md : Md K} {H : Hp} {g' : G} {H' : Hp} {v : V} {x : PV} (h : FR K g' x v) : NewV md H g' H' v x := by
  cases h
  all_goals first
    | exact FR.non | exact FR.bl _ | exact FR.int _ | exact FR.str _ | exact FR.ty _ | exact FR.tup (by assumption) (by assumption) | exact FR.lst (by assumption) (by assumption) | exact FR.dct (by assumption) (by assumption) | exact FR.ref (by assumption) | exact FR.kl (by assumption) (by assumption) | exact FR.xv (by assumption) (by assumption) (by assumption) (by assumption)
def PoF {K : PySem.W.Frag} (md : Md K) (g : G) (H : Hp) (S : Store) (σ : St) (W : WX) (Q : VK) : Res PV × Store → Prop
  | (.ok x, S') => ∀ v g' H', md.R g' S' H' → md.T g H S g' H' S' → NewV md H g' H' v x → Q v H'
  | (.ex c fs, S') => ∀ cls d g' H', md.R g' S' H' → md.T g H S g' H' S' → XR K g' H' c fs cls d → W cls d σ H'
def RchF {K : PySem.W.Frag} (md : Md K) (W : WX) (t : TE) (m : Xm) : Prop :=
  ∀ (σ : St) (H : Hp) (g : G) (S : Store) (ρ : Env) (Q : VK) (r : Res PV × Store), md.R g S H → EnvF md g H σ ρ → m ρ S = some r → PoF md g H S σ W Q r → t σ H Q
structure SimF (X : Cx) (md : Md X.K) (W : WX) (e : Expr) (m : Xm) : Prop where
  ex : ∃ t : TE, PE X e t ∧ RchF md W t m
def fX (m : Xm) : Xm := fun ρ S => match m ρ S with
  | some (.ok x, S') => if fz x then some (.ok x, S') else none
  | some (.ex c fs, S') => some (.ex c fs, S')
  | none => none
theorem f_x {m : Xm} (h : SimX X md W e m) : SimF X md W e (fX m) := by
  obtain ⟨t, p, r⟩ := h.ex
  refine ⟨t, p, fun σ H g S ρ Q res rr er hm po => ?_⟩
  unfold fX at hm
  split at hm
  · rename_i x S' q
    split at hm
    · rename_i hx
      cases hm
      exact r σ H g S ρ Q (.ok x, S') rr er q fun v g' H' r1 t1 ov => po v g' H' r1 t1 (.of_fr (ov.fr hx))
    · cases hm
  · rename_i c fs S' q
    cases hm
    exact r σ H g S ρ Q (.ex c fs, S') rr er q po
  · cases hm
def fL (m : Xa) : Xm := fun ρ S => match m ρ S with
  | some (.ok xs, S') => some (.ok (.ol xs), S')
  | some (.ex c fs, S') => some (.ex c fs, S')
  | none => none
theorem f_l {m : Xa} (h : SimXL X md W e m) : SimF X md W e (fL m) := by
  obtain ⟨t, p, r⟩ := h.ex
  refine ⟨t, p, fun σ H g S ρ Q res rr er hm po => ?_⟩
  unfold fL at hm
  split at hm
  · rename_i xs S' q
    cases hm
    exact r σ H g S ρ Q (.ok xs, S') rr er q fun p vs g' H' r1 t1 h1 h2 h3 h4 h5 => po _ g' H' r1 t1 ⟨p, vs, rfl, h1, h2, h3, h4, h5⟩
  · rename_i c fs S' q
    cases hm
    exact r σ H g S ρ Q (.ex c fs, S') rr er q po
  · cases hm
/-- {} that may be changed -/
def fD : Xm := fun _ S => some (.ok (.od []), S)
theorem f_d : SimF X md W (.Dict [] [] pos) fD := by
  refine ⟨_, pe_dnewK, fun σ H g S ρ Q res rr er hm po => ?_⟩
  cases hm
  intro p hp
  have gr : Grow g H g (upd H p (.dK [])) := .loose (md.wr rr) hp
  obtain ⟨r1, t1⟩ := md.grow rr gr
  refine po _ g _ r1 t1 ⟨p, [], rfl, hp, upd_same, ?_, md.new rr gr hp, .nil⟩
  cases e : g.F p with
  | none => rfl
  | some u => rcases (md.wr rr).f p u (.inl e) with q | ⟨_, q⟩ <;> rw [hp] at q <;> cases q
/-- the slot i takes a new value -/
theorem EnvS.setN {K : PySem.W.Frag} {md : Md K} {H0 H : Hp} {g' : G} {H' : Hp} {σ : St} {ρ : Env} (e : EnvS md H0 g' H' σ ρ) (h0 : ∀ p, H p = none → H0 p = none) {i : Nat} {x : PV} {v : V} (n : NewV md H g' H' v x)
    (hn : ∀ (p : Addr) (j : Nat) (y : PV), v = .ref p → fz x = false → j ≠ i → ρ[j]? = some (some y) → fz y = false → σ[j]? ≠ some (some (.ref p))) : EnvS md H0 g' H' (σ.set i (some v)) (ρ.set i (some x)) := by
  cases x with
  | ol xs =>
    obtain ⟨p, vs, rfl, q0, q1, q2, q3, q4⟩ := n
    exact e.setO (x := .ol xs) ⟨p, vs, rfl, q1, q4, q2⟩ rfl (h0 p q0) q3 fun j y hj hy hfy => hn p j y rfl rfl hj hy hfy
  | od xs =>
    obtain ⟨p, vs, rfl, q0, q1, q2, q3, q4⟩ := n
    exact e.setO (x := .od xs) ⟨p, vs, rfl, q1, q4, q2⟩ rfl (h0 p q0) q3 fun j y hj hy hfy => hn p j y rfl rfl hj hy hfy
  | _ => exact e.set n (FR.fz n)
/-- what a slot owns was there before -/
theorem EnvS.old {K : PySem.W.Frag} {md : Md K} {H0 : Hp} {g : G} {H : Hp} {σ : St} {ρ : Env} (e : EnvS md H0 g H σ ρ) {j : Nat} {y : PV} {p : Addr} (hp : H p = none) (hy : ρ[j]? = some (some y)) (hf : fz y = false) : σ[j]? ≠ some (some (.ref p)) := fun hs => by
  obtain ⟨v, hv, sl⟩ := e.f.r.at_ j y hy
  rw [hv] at hs
  have e1 : v = .ref p := Option.some.inj (Option.some.inj hs)
  subst e1
  cases y with
  | ol ys => obtain ⟨a, vs, e, h, _⟩ := sl; cases e; rw [hp] at h; cases h
  | od ys => obtain ⟨a, vs, e, h, _⟩ := sl; cases e; rw [hp] at h; cases h
  | _ => cases hf
theorem NewV.free {K : PySem.W.Frag} {md : Md K} {H : Hp} {g' : G} {H' : Hp} {p : Addr} : ∀ {x : PV}, NewV md H g' H' (.ref p) x → fz x = false → H p = none ∧ H' p ≠ none
  | .ol xs, ⟨a, vs, e, h0, h1, _⟩, _ => by cases e; exact ⟨h0, by rw [h1]; simp⟩
  | .od xs, ⟨a, vs, e, h0, h1, _⟩, _ => by cases e; exact ⟨h0, by rw [h1]; simp⟩
  | .non, _, h => by cases h
  | .bl _, _, h => by cases h
  | .int _, _, h => by cases h
  | .str _, _, h => by cases h
  | .ty _, _, h => by cases h
  | .tup _, _, h => by cases h
  | .lst _, _, h => by cases h
  | .dct _, _, h => by cases h
  | .ref _, _, h => by cases h
  | .kl _, _, h => by cases h
  | .xv _ _, _, h => by cases h
/-- x = e -/
def sSetF (i : Nat) (m : Xm) : Sm := fun ρ S => match m ρ S with
  | some (.ok x, S') => some (.nx (ρ.set i (some x)), S')
  | some (.ex c fs, S') => some (.xx c fs ρ, S')
  | none => none
theorem s_setF {i : Nat} {x : Str} {pos' : Pos} {m : Xm} (hN : X.N.Nodup) (hi : X.N[i]? = some x) (hx : Loc X.env.scope x) (he : SimF X md W e m) (hs : swapsWith e (some (.Name x pos')) pos.line X.env = pure false := by rfl)
    (hf : X.fn x = true ∨ X.env.scope.names.lookup x = some .local := by first | exact .inl rfl | exact .inr rfl | assumption) : SimS X md W (.Assign [.Name x pos'] e pos) (sSetF i m) := by
  obtain ⟨t, p, r⟩ := he.ex
  refine ⟨_, ps_set hN hi hx p hs hf, fun σ H g S ρ gb g0 H0 S0 D res r0 rr tt er hm po => ?_⟩
  unfold sSetF at hm
  split at hm
  · rename_i x S' q
    cases hm
    refine r σ H g S ρ _ (.ok x, S') rr er.f q fun v g' H' r1 t1 nv => ?_
    exact po _ g' H' r1 (tt.step t1) ((er.step t1).setN (fun p hp => md.free tt.t hp) nv fun p j y ev hfx hj hy hfy => by subst ev; exact er.old (nv.free hfx).1 hy hfy)
  · rename_i c fs S' q
    cases hm
    exact r σ H g S ρ _ (.ex c fs, S') rr er.f q fun cls d g' H' r1 t1 xr => po cls d σ g' H' r1 (tt.step t1) (er.step t1) xr
  · cases hm
/-- x, y = a, b -/
def sPar2 (i j : Nat) (m n : Xm) : Sm := fun ρ S => match m ρ S with
  | some (.ok x, S1) => (match n ρ S1 with
    | some (.ok y, S2) => some (.nx ((ρ.set i (some x)).set j (some y)), S2)
    | some (.ex c fs, S2) => some (.xx c fs ρ, S2)
    | none => none)
  | some (.ex c fs, S1) => some (.xx c fs ρ, S1)
  | none => none
theorem s_par2 {i j : Nat} {x y : Str} {a b : Expr} {m n : Xm} {px py pt : Pos} {kt k2 pt2} (hc : X.calm = true) (hN : X.N.Nodup) (hi : X.N[i]? = some x) (hj : X.N[j]? = some y) (hij : i ≠ j)
    (hx : X.env.scope.names.lookup x = some .local) (hy : X.env.scope.names.lookup y = some .local) (ha : SimF X md W a m) (hb : SimF X md W b n)
    (hw : swappedStores [.Tuple [.Name x px, .Name y py] kt pt] (.Tuple [a, b] k2 pt2) X.env = pure (some [x, y]) := by rfl)
    (hs : swapsWithSole [.Tuple [.Name x px, .Name y py] kt pt] (.Tuple [a, b] k2 pt2) pos.line X.env = pure false := by rfl)
    (s1 : starEach [a, b] X.env = (false, eval a X.env) :: starEach [b] X.env := by rfl) (s2 : starEach [b] X.env = (false, eval b X.env) :: starEach [] X.env := by rfl) :
    SimS X md W (.Assign [.Tuple [.Name x px, .Name y py] kt pt] (.Tuple [a, b] k2 pt2) pos) (sPar2 i j m n) := by
  obtain ⟨t1, p1, r1⟩ := ha.ex
  obtain ⟨t2, p2, r2⟩ := hb.ex
  refine ⟨_, ps_par hc hN hi hj hij hx hy (pa_cons p1 (pa_cons p2 pa_nil s2) s1) hw hs, fun σ H g S ρ gb g0 H0 S0 D res r0 rr tt er hm po => ?_⟩
  unfold sPar2 at hm
  split at hm
  · rename_i u S1 q1
    refine r1 σ H g S ρ _ (.ok u, S1) rr er.f q1 fun v g1 H1 rr1 tt1 nv => ?_
    split at hm
    · rename_i u2 S2 q2
      cases hm
      refine r2 σ H1 g1 S1 ρ _ (.ok u2, S2) rr1 (er.step tt1).f q2 fun v2 g2 H2 rr2 tt2 nv2 => ?_
      refine ⟨v, v2, rfl, po _ g2 H2 rr2 ((tt.step tt1).step tt2) ?_⟩
      have e1 := (er.step tt1).step tt2
      have e2 := e1.setN (i := i) (fun p hp => md.free tt.t hp) (nv.step tt2) fun p j y ev hfx hj hy hfy => by subst ev; exact er.old (nv.free hfx).1 hy hfy
      refine e2.setN (i := j) (fun p hp => md.free tt.t (md.free tt1 hp)) nv2 fun p k y ev hfx hk hy hfy hs => ?_
      subst ev
      obtain ⟨z1, z2⟩ := nv2.free hfx
      rcases get_set hy with ⟨e3, hl, ey⟩ | ⟨ne, hy⟩
      · cases ey
        subst e3
        have hl' : k < σ.length := by rw [← er.f.r.len]; exact hl
        rw [List.getElem?_set_self hl'] at hs
        cases hs
        exact (nv.free hfy).2 z1
      · rw [List.getElem?_set_ne (Ne.symm ne)] at hs
        exact (er.step tt1).old z1 hy hfy hs
    · rename_i c fs S2 q2
      cases hm
      exact r2 σ H1 g1 S1 ρ _ (.ex c fs, S2) rr1 (er.step tt1).f q2 fun cls d g' H' rr2 tt2 xr => po cls d σ g' H' rr2 ((tt.step tt1).step tt2) ((er.step tt1).step tt2) xr
    · cases hm
  · rename_i c fs S1 q1
    cases hm
    exact r1 σ H g S ρ _ (.ex c fs, S1) rr er.f q1 fun cls d g' H' rr1 tt1 xr => po cls d σ g' H' rr1 (tt.step tt1) (er.step tt1) xr
  · cases hm
/-- x, y, z = a, b, c -/
def sPar3 (i j l : Nat) (m n k : Xm) : Sm := fun ρ S => match m ρ S with
  | some (.ok x, S1) => (match n ρ S1 with
    | some (.ok y, S2) => (match k ρ S2 with
      | some (.ok z, S3) => some (.nx (((ρ.set i (some x)).set j (some y)).set l (some z)), S3)
      | some (.ex c fs, S3) => some (.xx c fs ρ, S3)
      | none => none)
    | some (.ex c fs, S2) => some (.xx c fs ρ, S2)
    | none => none)
  | some (.ex c fs, S1) => some (.xx c fs ρ, S1)
  | none => none
theorem s_par3 {i j l : Nat} {x y z : Str} {a b c : Expr} {m n k : Xm} {px py pz pt : Pos} {kt k2 pt2} (hc : X.calm = true) (hN : X.N.Nodup) (hi : X.N[i]? = some x) (hj : X.N[j]? = some y) (hl : X.N[l]? = some z) (hij : i ≠ j) (hil : i ≠ l) (hjl : j ≠ l)
    (hx : X.env.scope.names.lookup x = some .local) (hy : X.env.scope.names.lookup y = some .local) (hz : X.env.scope.names.lookup z = some .local) (ha : SimF X md W a m) (hb : SimF X md W b n) (hcc : SimF X md W c k)
    (hw : swappedStores [.Tuple [.Name x px, .Name y py, .Name z pz] kt pt] (.Tuple [a, b, c] k2 pt2) X.env = pure (some [x, y, z]) := by rfl)
    (hs : swapsWithSole [.Tuple [.Name x px, .Name y py, .Name z pz] kt pt] (.Tuple [a, b, c] k2 pt2) pos.line X.env = pure false := by rfl)
    (s1 : starEach [a, b, c] X.env = (false, eval a X.env) :: starEach [b, c] X.env := by rfl) (s2 : starEach [b, c] X.env = (false, eval b X.env) :: starEach [c] X.env := by rfl) (s3 : starEach [c] X.env = (false, eval c X.env) :: starEach [] X.env := by rfl) :
    SimS X md W (.Assign [.Tuple [.Name x px, .Name y py, .Name z pz] kt pt] (.Tuple [a, b, c] k2 pt2) pos) (sPar3 i j l m n k) := by
  obtain ⟨t1, p1, r1⟩ := ha.ex
  obtain ⟨t2, p2, r2⟩ := hb.ex
  obtain ⟨t3, p3, r3⟩ := hcc.ex
  refine ⟨_, ps_par3 hc hN hi hj hl hij hil hjl hx hy hz (pa_cons p1 (pa_cons p2 (pa_cons p3 pa_nil s3) s2) s1) hw hs, fun σ H g S ρ gb g0 H0 S0 D res r0 rr tt er hm po => ?_⟩
  unfold sPar3 at hm
  split at hm
  · rename_i u S1 q1
    refine r1 σ H g S ρ _ (.ok u, S1) rr er.f q1 fun v g1 H1 rr1 tt1 nv => ?_
    have er1 := er.step tt1
    split at hm
    · rename_i u2 S2 q2
      refine r2 σ H1 g1 S1 ρ _ (.ok u2, S2) rr1 er1.f q2 fun v2 g2 H2 rr2 tt2 nv2 => ?_
      have er2 := er1.step tt2
      split at hm
      · rename_i u3 S3 q3
        cases hm
        refine r3 σ H2 g2 S2 ρ _ (.ok u3, S3) rr2 er2.f q3 fun v3 g3 H3 rr3 tt3 nv3 => ?_
        have er3 := er2.step tt3
        refine ⟨v, v2, v3, rfl, po _ g3 H3 rr3 (((tt.step tt1).step tt2).step tt3) ?_⟩
        have hlen := er.f.r.len
        have e2 := er3.setN (i := i) (fun p hp => md.free tt.t hp) ((nv.step tt2).step tt3) fun p j y ev hfx hj hy hfy => by subst ev; exact er.old (nv.free hfx).1 hy hfy
        have e4 := e2.setN (i := j) (fun p hp => md.free tt.t (md.free tt1 hp)) (nv2.step tt3) fun p k y ev hfx hk hy hfy hs => by
          subst ev
          obtain ⟨z1, z2⟩ := nv2.free hfx
          rcases get_set hy with ⟨e3, hl, ey⟩ | ⟨ne, hy⟩
          · cases ey
            subst e3
            have hl' : k < σ.length := by rw [← hlen]; exact hl
            rw [List.getElem?_set_self hl'] at hs
            cases hs
            exact (nv.free hfy).2 z1
          · rw [List.getElem?_set_ne (Ne.symm ne)] at hs
            exact er1.old z1 hy hfy hs
        refine e4.setN (i := l) (fun p hp => md.free tt.t (md.free tt1 (md.free tt2 hp))) nv3 fun p k y ev hfx hk hy hfy hs => ?_
        subst ev
        obtain ⟨z1, z2⟩ := nv3.free hfx
        rcases get_set hy with ⟨e3, hl3, ey⟩ | ⟨ne, hy⟩
        · cases ey
          subst e3
          have hl' : k < (σ.set i (some v)).length := by
            rw [List.length_set, ← hlen]
            rw [List.length_set] at hl3; exact hl3
          rw [List.getElem?_set_self hl'] at hs
          cases hs
          exact (nv2.free hfy).2 z1
        · rw [List.getElem?_set_ne (Ne.symm ne)] at hs
          rcases get_set hy with ⟨e3, hl3, ey⟩ | ⟨ne2, hy⟩
          · cases ey
            subst e3
            have hl' : k < σ.length := by rw [← hlen]; exact hl3
            rw [List.getElem?_set_self hl'] at hs
            cases hs
            exact ((nv.step tt2).free hfy).2 z1
          · rw [List.getElem?_set_ne (Ne.symm ne2)] at hs
            exact er2.old z1 hy hfy hs
      · rename_i c fs S3 q3
        cases hm
        exact r3 σ H2 g2 S2 ρ _ (.ex c fs, S3) rr2 er2.f q3 fun cls d g' H' rr3 tt3 xr => po cls d σ g' H' rr3 (((tt.step tt1).step tt2).step tt3) (er2.step tt3) xr
      · cases hm
    · rename_i c fs S2 q2
      cases hm
      exact r2 σ H1 g1 S1 ρ _ (.ex c fs, S2) rr1 er1.f q2 fun cls d g' H' rr2 tt2 xr => po cls d σ g' H' rr2 ((tt.step tt1).step tt2) (er1.step tt2) xr
    · cases hm
  · rename_i c fs S1 q1
    cases hm
    exact r1 σ H g S ρ _ (.ex c fs, S1) rr er.f q1 fun cls d g' H' rr1 tt1 xr => po cls d σ g' H' rr1 (tt.step tt1) (er.step tt1) xr
  · cases hm

/-! ### append, extend, the argument with effects -/
def sAppendX (i : Nat) (m : Xm) : Sm := fun ρ S => match ρ[i]? with
  | some (some (.ol xs)) => (match m ρ S with
    | some (.ok y, S') => if fz y && decide (xs.length < most) then some (.nx (ρ.set i (some (.ol (xs ++ [y])))), S') else none
    | some (.ex c fs, S') => some (.xx c fs ρ, S')
    | none => none)
  | _ => none
theorem s_appendX {i : Nat} {x : Str} {pos' apos : Pos} {epos : Pos} {m : Xm} (hN : X.N[i]? = some x) (hv : Vis X.env.scope x) (he : SimX X md W e m) (hd : (x == ("__debug__" : Str)) = false := by decide) (hcd : (x == ("__classdict__" : Str)) = false := by decide)
    (hbase : attributeBase (.Name x pos') "append" X.env (eval (.Name x pos') X.env) = eval (.Name x pos') X.env := by rfl)
    (hfew : ((backTo pos (starEach [e] X.env)).all (fun x => !x.1) && (backToKw pos (keywordEach [] X.env)).all (fun x => x.1.isSome)
      && decide ([e].length + ([] : List Keyword).length + (if ([] : List Keyword).isEmpty then 0 else 1) < 30)) = true := by rfl)
    (hline : (apos.endLine == pos.line) = true := by rfl) (hs : starEach [e] X.env = (false, eval e X.env) :: starEach [] X.env := by rfl) (hplain : (backTo pos (starEach [] X.env)).any (·.1) = false := by rfl)
    (hsw : swapsWith (.Call (.Attribute (.Name x pos') "append" apos) [e] [] pos) none epos.line X.env = pure false := by rfl) :
    SimS X md W (.Expr (.Call (.Attribute (.Name x pos') "append" apos) [e] [] pos) epos) (sAppendX i m) := by
  obtain ⟨t, p, r⟩ := he.ex
  refine ⟨_, ps_expr (pe_bm PySem.F.plainAttrs_list PySem.F.slot_list_append PySem.F.type_list_append mt_append (pe_var hN hv hd hcd) (pa_cons p pa_nil hs) hbase hfew hline hs hplain) hsw, fun σ H g S ρ gb g0 H0 S0 D res r0 rr tt er hm po => ?_⟩
  unfold sAppendX at hm
  split at hm
  · rename_i xs hi
    obtain ⟨v, hv, a, vs, rfl, h1, h2, h3⟩ := er.f.r.at_ i _ hi
    refine ⟨_, hv, .inl ⟨rfl, _, .inl (.inl h1)⟩, ?_⟩
    split at hm
    · rename_i y S' q
      split at hm
      · rename_i hc
        cases hm
        simp only [Bool.and_eq_true, decide_eq_true_eq] at hc
        refine r σ H g S ρ _ (.ok y, S') rr er.f q fun u g' H' r1 t1 ov => ?_
        have er1 := er.step t1
        obtain ⟨q1, q2, q3⟩ := md.own t1 h1 h3 (er.f.o i _ a hi rfl hv)
        have f2 : FRs X.K g' (xs ++ [y]) (vs ++ [u]) := (FRs.mono (md.le t1) _ _ h2).append (.cons (ov.fr hc.1) .nil)
        refine ⟨a, vs, u, rfl, rfl, q1, ?_, ?_⟩
        · rw [← h2.length]; exact Nat.lt_of_lt_of_le hc.2 most_le
        · obtain ⟨r2, t2⟩ := md.put (.lst (vs ++ [u])) r0 (tt.step t1).t r1 q1 (er.n i _ a hi rfl hv) q2 q3
          refine po σ g' _ r2 ⟨t2, (tt.step t1).l⟩ (er1.upd hi rfl hv rfl ⟨a, _, rfl, upd_same, f2, q2⟩)
      · cases hm
    · rename_i c fs S' q
      cases hm
      exact r σ H g S ρ _ (.ex c fs, S') rr er.f q fun cls d g' H' r1 t1 xr => po cls d σ g' H' r1 (tt.step t1) (er.step t1) xr
    · cases hm
  · cases hm
def sExtendX (i : Nat) (m : Xm) : Sm := fun ρ S => match ρ[i]? with
  | some (some (.ol xs)) => (match m ρ S with
    | some (.ok y, S') => (match y with
      | .lst ys => if decide (xs.length + ys.length ≤ most) then some (.nx (ρ.set i (some (.ol (xs ++ ys)))), S') else none
      | .tup ys => if decide (xs.length + ys.length ≤ most) then some (.nx (ρ.set i (some (.ol (xs ++ ys)))), S') else none
      | _ => none)
    | some (.ex c fs, S') => some (.xx c fs ρ, S')
    | none => none)
  | _ => none
theorem s_extendX {i : Nat} {x : Str} {pos' apos : Pos} {epos : Pos} {m : Xm} (hN : X.N[i]? = some x) (hv : Vis X.env.scope x) (he : SimX X md W e m) (hd : (x == ("__debug__" : Str)) = false := by decide) (hcd : (x == ("__classdict__" : Str)) = false := by decide)
    (hbase : attributeBase (.Name x pos') "extend" X.env (eval (.Name x pos') X.env) = eval (.Name x pos') X.env := by rfl)
    (hfew : ((backTo pos (starEach [e] X.env)).all (fun x => !x.1) && (backToKw pos (keywordEach [] X.env)).all (fun x => x.1.isSome)
      && decide ([e].length + ([] : List Keyword).length + (if ([] : List Keyword).isEmpty then 0 else 1) < 30)) = true := by rfl)
    (hline : (apos.endLine == pos.line) = true := by rfl) (hs : starEach [e] X.env = (false, eval e X.env) :: starEach [] X.env := by rfl) (hplain : (backTo pos (starEach [] X.env)).any (·.1) = false := by rfl)
    (hsw : swapsWith (.Call (.Attribute (.Name x pos') "extend" apos) [e] [] pos) none epos.line X.env = pure false := by rfl) :
    SimS X md W (.Expr (.Call (.Attribute (.Name x pos') "extend" apos) [e] [] pos) epos) (sExtendX i m) := by
  obtain ⟨t, p, r⟩ := he.ex
  refine ⟨_, ps_expr (pe_bm PySem.F.plainAttrs_list PySem.F.slot_list_extend PySem.F.type_list_extend mt_extR (pe_var hN hv hd hcd) (pa_cons p pa_nil hs) hbase hfew hline hs hplain) hsw, fun σ H g S ρ gb g0 H0 S0 D res r0 rr tt er hm po => ?_⟩
  unfold sExtendX at hm
  split at hm
  · rename_i xs hi
    obtain ⟨v, hv, a, vs, rfl, h1, h2, h3⟩ := er.f.r.at_ i _ hi
    refine ⟨_, hv, .inl ⟨rfl, _, .inl (.inl h1)⟩, ?_⟩
    split at hm
    · rename_i y S' q
      refine r σ H g S ρ _ (.ok y, S') rr er.f q fun u g' H' r1 t1 ov => ?_
      have er1 := er.step t1
      obtain ⟨q1, q2, q3⟩ := md.own t1 h1 h3 (er.f.o i _ a hi rfl hv)
      have main : ∀ (ys : List PV) (zs : List V) (b : Addr), u = .ref b → (Rd H' b (.lst zs) ∨ SqT X.K H' b zs) → FRs X.K g' ys zs → (if decide (xs.length + ys.length ≤ most) = true then some (SR.nx (ρ.set i (some (.ol (xs ++ ys)))), S') else none) = some res → rExtR X.K (.ref a) [u] H' (fun _ H1 => D.nx σ H1) := fun ys zs b hu hb hf hm => by
        split at hm
        · rename_i hc
          cases hm
          have f2 : FRs X.K g' (xs ++ ys) (vs ++ zs) := (FRs.mono (md.le t1) _ _ h2).append hf
          refine ⟨a, b, vs, zs, rfl, by rw [hu], q1, hb, by rw [← h2.length, ← hf.length]; exact Nat.le_trans (of_decide_eq_true hc) most_le, ?_⟩
          obtain ⟨r2, t2⟩ := md.put (.lst (vs ++ zs)) r0 (tt.step t1).t r1 q1 (er.n i _ a hi rfl hv) q2 q3
          exact po σ g' _ r2 ⟨t2, (tt.step t1).l⟩ (er1.upd hi rfl hv rfl ⟨a, _, rfl, upd_same, f2, q2⟩)
        · cases hm
      split at hm
      · rename_i ys
        cases ov.fr rfl with
        | lst s f => exact main ys _ _ rfl (.inl ((md.wr r1).f _ _ s)) f hm
      · rename_i ys
        cases ov.fr rfl with
        | tup s f => exact main ys _ _ rfl (.inr ((md.wr r1).f.sqT s)) f hm
      · cases hm
    · rename_i c fs S' q
      cases hm
      exact r σ H g S ρ _ (.ex c fs, S') rr er.f q fun cls d g' H' r1 t1 xr => po cls d σ g' H' r1 (tt.step t1) (er.step t1) xr
    · cases hm
  · cases hm

/-! ### try, nothing raised within -/
def sTry0 (m : Sm) : Sm := fun ρ S => match m ρ S with
  | some (.xx _ _ _, _) => none
  | r => r
theorem s_try0 {body : List Stmt} {h₀ : ExceptHandler} {hs : List ExceptHandler} {m : Sm} (h : SimB X.nox md WX0 body m) : SimS X md W (.Try body (h₀ :: hs) [] [] pos) (sTry0 m) := by
  obtain ⟨t, p, r⟩ := h.ex
  refine ⟨_, ps_try_thru0 p, fun σ H g S ρ gb g0 H0 S0 D res r0 rr tt er hm po => ?_⟩
  unfold sTry0 at hm
  split at hm
  · cases hm
  · rename_i n1
    obtain ⟨res1, S1⟩ := res
    refine r σ H g S ρ gb g0 H0 S0 D (res1, S1) r0 rr tt er hm ?_
    cases res1 with
    | nx ρ' => exact po
    | ct ρ' => exact po
    | bk ρ' => exact po
    | rt x => exact po
    | xx c fs ρ' => exact absurd hm (n1 c fs ρ' S1)
end
end L3

end
section
set_option Elab.async false
set_option linter.all false
set_option maxRecDepth 100000
set_option maxHeartbeats 4000000
namespace L3
open PySem PySem.Spec L2
set_option autoImplicit false

/-! ### operators with their rules, in one -/
structure OpK (X : Cx) (f : Value → Value → Sem Value) (op : PV → PV → Option PV) : Prop where
  ex : ∃ r : R2, OpR X f r ∧ OpOk X.K op r
theorem OpK.or {X : Cx} {f : Value → Value → Sem Value} {a b : PV → PV → Option PV} (h : OpK X f a) (k : OpK X f b) : OpK X f (oE a b) := by
  obtain ⟨r, p, q⟩ := h.ex
  obtain ⟨r', p', q'⟩ := k.ex
  exact ⟨_, L2.OpR.or p p', OpOk.or q q'⟩
section
variable {X : Cx}
theorem k_add : OpK X (binaryOp .Add) oAdd := OpK.or ⟨_, op_add, oI0_ok fun _ _ _ => .int _⟩ (OpK.or ⟨_, op_add_str, oSAdd_ok⟩ (OpK.or ⟨_, op_catA, oTCat_ok⟩ ⟨_, op_catR, oLCat_ok⟩))
theorem k_sub : OpK X (binaryOp .Sub) oSub := ⟨_, op_sub, oI0_ok fun _ _ _ => .int _⟩
theorem k_mul : OpK X (binaryOp .Mult) oMul := OpK.or ⟨_, op_mul, oI_ok cMul_ok fun _ _ _ => .int _⟩ (OpK.or ⟨_, op_repT, oRepT_ok⟩ ⟨_, op_repR, oRepL_ok⟩)
theorem k_mod : OpK X (binaryOp .Mod) oMod := ⟨_, op_mod, oI_ok cPos_ok fun _ _ _ => .int _⟩
theorem k_fdiv : OpK X (binaryOp .FloorDiv) oFdiv := ⟨_, op_fdiv, oI_ok cDiv_ok fun _ _ _ => .int _⟩
theorem k_lt (hu : X.A.units + 64 < cLine) : OpK X (compareOp .Lt) oLt := OpK.or ⟨_, op_lt, oI0_ok fun _ _ _ => .bl _⟩ ⟨_, op_ltD hu, oOrd_ok⟩
theorem k_le (hu : X.A.units + 64 < cLine) : OpK X (compareOp .LtE) oLe := OpK.or ⟨_, op_le, oI0_ok fun _ _ _ => .bl _⟩ ⟨_, op_leD hu, oOrd_ok⟩
theorem k_gt (hu : X.A.units + 64 < cLine) : OpK X (compareOp .Gt) oGt := OpK.or ⟨_, op_gt, oI0_ok fun _ _ _ => .bl _⟩ ⟨_, op_gtD hu, oOrd_ok⟩
theorem k_ge (hu : X.A.units + 64 < cLine) : OpK X (compareOp .GtE) oGe := OpK.or ⟨_, op_ge, oI0_ok fun _ _ _ => .bl _⟩ ⟨_, op_geD hu, oOrd_ok⟩
theorem k_eq (hu : X.A.units + 64 < cLine) : OpK X (compareOp .Eq) oEq := ⟨_, op_eqP hu, oEq_ok⟩
theorem k_ne (hu : X.A.units + 64 < cLine) : OpK X (compareOp .NotEq) oNe := ⟨_, op_neP hu, oNe_ok⟩
theorem k_in (hu : X.A.units + 64 < cLine) : OpK X (compareOp .In) oInA := ⟨_, op_inA hu, oInA_ok⟩
theorem k_notin (hu : X.A.units + 64 < cLine) : OpK X (compareOp .NotIn) oNotInA := ⟨_, op_notInA hu, oNotInA_ok⟩
theorem k_is : OpK X (compareOp .Is) oIsN := ⟨_, op_isN, oIsN_ok⟩
theorem k_isnot : OpK X (compareOp .IsNot) oNotN := ⟨_, op_notN, oNotN_ok⟩
end
structure IpK (X : Cx) (o : Operator) (op : PV → PV → Option PV) : Prop where
  ex : ∃ r : R2, PIp X o r ∧ OpOk X.K op r
section
variable {X : Cx} {md : Md X.K} {W : WX} {a b c e : Expr} {es : List Expr} {pos : Pos}
theorem E_op {o : Operator} {op : PV → PV → Option PV} {ma mb' : Ex} (ho : OpK X (binaryOp o) op) (ha : SimE X W a ma) (hb : SimE X W b mb') : SimE X W (.BinOp a o b pos) (xOp op ma mb') := by
  obtain ⟨r, p, q⟩ := ho.ex
  exact e_op p q ha hb
theorem X_op {o : Operator} {op : PV → PV → Option PV} {ma mb' : Xm} (ho : OpK X (binaryOp o) op) (ha : SimX X md W a ma) (hb : SimX X md W b mb') : SimX X md W (.BinOp a o b pos) (xOpX op ma mb') := by
  obtain ⟨r, p, q⟩ := ho.ex
  exact x_op p q ha hb
theorem E_cmp {o : CmpOp} {op : PV → PV → Option PV} {ma mb' : Ex} (ho : OpK X (compareOp o) op) (ha : SimE X W a ma) (hb : SimE X W b mb') (hm : behindInMarks o b = false := by rfl) : SimE X W (.Compare a [o] [b] pos) (xOp op ma mb') := by
  obtain ⟨r, p, q⟩ := ho.ex
  exact e_cmp p q ha hb hm
theorem X_cmp {o : CmpOp} {op : PV → PV → Option PV} {ma mb' : Xm} (ho : OpK X (compareOp o) op) (ha : SimX X md W a ma) (hb : SimX X md W b mb') (hm : behindInMarks o b = false := by rfl) : SimX X md W (.Compare a [o] [b] pos) (xOpX op ma mb') := by
  obtain ⟨r, p, q⟩ := ho.ex
  exact x_cmp p q ha hb hm
theorem T_cmp {o : CmpOp} {op : PV → PV → Option PV} {ma mb' : Ex} (ho : OpK X (compareOp o) op) (ha : SimE X W a ma) (hb : SimE X W b mb') (hm : behindInMarks o b = false := by rfl) : SimT X W (.Compare a [o] [b] pos) (bT (xOp op ma mb')) := by
  obtain ⟨r, p, q⟩ := ho.ex
  exact t_cmp p q ha hb hm
theorem TX_cmp {o : CmpOp} {op : PV → PV → Option PV} {ma mb' : Xm} (ho : OpK X (compareOp o) op) (ha : SimX X md W a ma) (hb : SimX X md W b mb') (hm : behindInMarks o b = false := by rfl) : SimTX X md W (.Compare a [o] [b] pos) (bTX (xOpX op ma mb')) := by
  obtain ⟨r, p, q⟩ := ho.ex
  exact tx_cmp p q ha hb hm
theorem E_chain {o o' : CmpOp} {op op' : PV → PV → Option PV} {ma mb' mc : Ex} (ho : OpK X (compareOp o) op) (ho' : OpK X (compareOp o') op') (ha : SimE X W a ma) (hb : SimE X W b mb') (hc : SimE X W c mc)
    (hm : lastMarks [o, o'] [b, c] = false := by with_unfolding_all rfl) : SimE X W (.Compare a [o, o'] [b, c] pos) (xChain op op' ma mb' mc) := by
  obtain ⟨r, p, q⟩ := ho.ex
  obtain ⟨r', p', q'⟩ := ho'.ex
  exact e_chain p p' q q' ha hb hc hm
theorem T_chain {o o' : CmpOp} {op op' : PV → PV → Option PV} {ma mb' mc : Ex} (ho : OpK X (compareOp o) op) (ho' : OpK X (compareOp o') op') (ha : SimE X W a ma) (hb : SimE X W b mb') (hc : SimE X W c mc)
    (hm : lastMarks [o, o'] [b, c] = false := by with_unfolding_all rfl) : SimT X W (.Compare a [o, o'] [b, c] pos) (bT (xChain op op' ma mb' mc)) := by
  obtain ⟨r, p, q⟩ := ho.ex
  obtain ⟨r', p', q'⟩ := ho'.ex
  exact t_chain p p' q q' ha hb hc hm
theorem E_ix {ma mb' : Ex} (hu : X.A.units + 64 < cLine) (ha : SimE X W a ma) (hb : SimE X W b mb') (hs : PlainIx b := by intro _ _; rfl) : SimE X W (.Subscript a b pos) (xOp oIxA ma mb') := e_ix (ix_A hu) oIxA_ok ha hb hs
theorem X_ix {ma mb' : Xm} (hu : X.A.units + 64 < cLine) (ha : SimX X md W a ma) (hb : SimX X md W b mb') (hs : PlainIx b := by intro _ _; rfl) : SimX X md W (.Subscript a b pos) (xOpX oIxA ma mb') := x_ix (ix_A hu) oIxA_ok ha hb hs
/-- -e -/
def oNeg : PV → Option PV
  | .int i => some (.int (-i))
  | _ => none
theorem E_neg {m : Ex} (h : SimE X W a m) : SimE X W (.UnaryOp .USub a pos) (xUn oNeg m) := e_un un_neg (fun g S H x z u Q w hx e q => by
  unfold oNeg at e
  split at e
  · cases e; cases hx.fr rfl; exact ⟨_, rfl, q _ g H (.refl w) (.frz (.int _))⟩
  · cases e) h
/-! built-ins by name -/
structure BiK (X : Cx) (f : Value) (op : List PV → Option PV) : Prop where
  ex : ∃ r : List V → Hp → VK → Prop, CallR X f r ∧ CallOk X.K op r
theorem BiK.or {f : Value} {a b : List PV → Option PV} (h : BiK X f a) (k : BiK X f b) : BiK X f (bE a b) := by
  obtain ⟨r, p, q⟩ := h.ex
  obtain ⟨r', p', q'⟩ := k.ex
  exact ⟨_, L2.CallR.or p p', CallOk.or q q'⟩
theorem c_len : BiK X (.builtin "len") bLenA := BiK.or ⟨_, call_len, bLen_ok⟩ ⟨_, call_lenD, bLenD_ok⟩
theorem c_abs : BiK X (.builtin "abs") bAbs := ⟨_, call_abs, bAbs_ok⟩
theorem c_sum (hc : X.calm = true) : BiK X (.builtin "sum") bSum := ⟨_, cr_sum hc, bSum_ok⟩
theorem c_all (hc : X.calm = true) : BiK X (.builtin "all") bAll := ⟨_, cr_all hc, bAll_ok⟩
theorem c_any (hc : X.calm = true) : BiK X (.builtin "any") bAny := ⟨_, cr_any hc, bAny_ok⟩
theorem c_sorted (hu : X.A.units + 64 < cLine) : BiK X (.builtin "sorted") bSorted := ⟨_, cr_sortedD hu, bSorted_ok⟩
def bMin : List PV → Option PV := bE bMin2 bMin1
def bMax : List PV → Option PV := bE bMax2 bMax1
theorem c_min (hc : X.calm = true) (hu : X.A.units + 64 < cLine) : BiK X (.builtin "min") bMin := BiK.or ⟨_, call_min2 hc, bMin2_ok⟩ ⟨_, cr_minD hc hu, bMin1_ok⟩
theorem c_max (hc : X.calm = true) (hu : X.A.units + 64 < cLine) : BiK X (.builtin "max") bMax := BiK.or ⟨_, call_max2 hc, bMax2_ok⟩ ⟨_, cr_maxD hc hu, bMax1_ok⟩
theorem c_int : BiK X (.type "int") bInt := ⟨_, call_int1, bInt_ok⟩
theorem c_tuple : BiK X (.type "tuple") bTuple := ⟨_, call_tuple_of, bTuple_ok⟩
theorem c_list (hc : X.calm = true) : BiK X (.type "list") bList := BiK.or ⟨_, call_list_of, bListS_ok⟩ ⟨_, call_listD hc, bListD_ok⟩
theorem c_dict (hc : X.calm = true) : BiK X (.type "dict") bDict := BiK.or ⟨_, call_dictP hc, bDictP_ok⟩ ⟨_, call_dictD, bDictD_ok⟩
theorem E_callB {x : Str} {p : Pos} {id : String} {op : List PV → Option PV} {m : Ar} (hk : BiK X (.builtin id) op) (hg : Gl X x) (hm : X.mg x = none) (hv : bootBuiltins x = some (.builtin id)) (ha : SimA X W (e :: es) m)
    (hn : x ≠ "__name__" := by decide) (hdb : (x == ("__debug__" : Str)) = false := by decide)
    (he : starEach (e :: es) X.env = (false, eval e X.env) :: starEach es X.env := by rfl) (hpl : (backTo pos (starEach es X.env)).any (·.1) = false := by rfl) : SimE X W (.Call (.Name x p) (e :: es) [] pos) (xCall op m) := by
  obtain ⟨r, pr, q⟩ := hk.ex
  exact e_callB pr q hg hm hv ha hn hdb he hpl
theorem E_callTy {x : Str} {p : Pos} {T : String} {op : List PV → Option PV} {m : Ar} (hk : BiK X (.type T) op) (hg : Gl X x) (hm : X.mg x = none) (hv : bootBuiltins x = some (.type T)) (ha : SimA X W (e :: es) m)
    (hn : x ≠ "__name__" := by decide) (hdb : (x == ("__debug__" : Str)) = false := by decide)
    (he : starEach (e :: es) X.env = (false, eval e X.env) :: starEach es X.env := by rfl) (hpl : (backTo pos (starEach es X.env)).any (·.1) = false := by rfl) : SimE X W (.Call (.Name x p) (e :: es) [] pos) (xCall op m) := by
  obtain ⟨r, pr, q⟩ := hk.ex
  exact e_callTy pr q hg hm hv ha hn hdb he hpl
theorem X_callB {x : Str} {p : Pos} {id : String} {op : List PV → Option PV} {m : Xa} (hk : BiK X (.builtin id) op) (hg : Gl X x) (hm : X.mg x = none) (hv : bootBuiltins x = some (.builtin id)) (ha : SimXA X md W (e :: es) m)
    (hn : x ≠ "__name__" := by decide) (hdb : (x == ("__debug__" : Str)) = false := by decide)
    (he : starEach (e :: es) X.env = (false, eval e X.env) :: starEach es X.env := by rfl) (hpl : (backTo pos (starEach es X.env)).any (·.1) = false := by rfl) : SimX X md W (.Call (.Name x p) (e :: es) [] pos) (xCallX op m) := by
  obtain ⟨r, pr, q⟩ := hk.ex
  exact x_callB pr q hg hm hv ha hn hdb he hpl
theorem X_callTy {x : Str} {p : Pos} {T : String} {op : List PV → Option PV} {m : Xa} (hk : BiK X (.type T) op) (hg : Gl X x) (hm : X.mg x = none) (hv : bootBuiltins x = some (.type T)) (ha : SimXA X md W (e :: es) m)
    (hn : x ≠ "__name__" := by decide) (hdb : (x == ("__debug__" : Str)) = false := by decide)
    (he : starEach (e :: es) X.env = (false, eval e X.env) :: starEach es X.env := by rfl) (hpl : (backTo pos (starEach es X.env)).any (·.1) = false := by rfl) : SimX X md W (.Call (.Name x p) (e :: es) [] pos) (xCallX op m) := by
  obtain ⟨r, pr, q⟩ := hk.ex
  exact x_callTy pr q hg hm hv ha hn hdb he hpl
theorem S_aug {i : Nat} {x : Str} {pos' : Pos} {o : Operator} {op : PV → PV → Option PV} {m : Ex} (hk : IpK X o op) (hN : X.N.Nodup) (hi : X.N[i]? = some x) (hx : Loc X.env.scope x) (he : SimE X W e m)
    (hf : X.fn x = true ∨ X.env.scope.names.lookup x = some .local := by first | exact .inl rfl | exact .inr rfl | assumption) : SimS X md W (.AugAssign (.Name x pos') o e pos) (sAug op i m) := by
  obtain ⟨r, pr, q⟩ := hk.ex
  exact s_aug hN hi hx pr q he hf
end
theorem bt_len : bootBuiltins "len" = some (.builtin "len") := by decide +kernel
theorem bt_abs : bootBuiltins "abs" = some (.builtin "abs") := by decide +kernel
theorem bt_sum : bootBuiltins "sum" = some (.builtin "sum") := by decide +kernel
theorem bt_all : bootBuiltins "all" = some (.builtin "all") := by decide +kernel
theorem bt_any : bootBuiltins "any" = some (.builtin "any") := by decide +kernel
theorem bt_sorted : bootBuiltins "sorted" = some (.builtin "sorted") := by decide +kernel
theorem bt_min : bootBuiltins "min" = some (.builtin "min") := by decide +kernel
theorem bt_max : bootBuiltins "max" = some (.builtin "max") := by decide +kernel
theorem bt_int : bootBuiltins "int" = some (.type "int") := by decide +kernel
theorem bt_bool : bootBuiltins "bool" = some (.type "bool") := by decide +kernel
theorem bt_str : bootBuiltins "str" = some (.type "str") := by decide +kernel
theorem bt_tuple : bootBuiltins "tuple" = some (.type "tuple") := by decide +kernel
theorem bt_list : bootBuiltins "list" = some (.type "list") := by decide +kernel
theorem bt_dict : bootBuiltins "dict" = some (.type "dict") := by decide +kernel

/-! ### what is known of the module -/
structure Mo (K : PySem.W.Frag) (mg : Str → Option Value) where
  h : Heap
  i : K.In h
  g : h.Ns mainGlobals mg
structure FnK (P : Program) (w : World) (K : PySem.W.Frag) (mg : Str → Option Value) (base : Heap) (md : Md K) (j : Nat) (x : Str) (n : Nat) (m : Fm) : Prop where
  ex : ∃ (k : Nat) (f : Addr) (fd : FuncData) (ps : List Str), k ≤ j ∧ FnOk P w K mg base (L2.CX P w) k f fd ps (spM md n m) ∧ mg x = some (.ref f) ∧ PySem.W.keepIn K (.ref f) = true ∧ Binds K fd ps []
structure MeK (P : Program) (w : World) (K : PySem.W.Frag) (mg : Str → Option Value) (base : Heap) (md : Md K) (j : Nat) (c f : Str) (n : Nat) (m : Fm) : Prop where
  ex : ∃ (k : Nat) (fa : Addr) (fd : FuncData) (ps : List Str), k ≤ j ∧ FnOk P w K mg base (L2.CX P w) k fa fd ps (spM md n m) ∧ Cls K (He.ga K c) ∧ Meth K (He.ga K c) f fa ∧ Binds K fd ps []
structure NwK (P : Program) (w : World) (K : PySem.W.Frag) (mg : Str → Option Value) (base : Heap) (j : Nat) (c : Str) (n : Nat) (m : Fm) : Prop where
  ex : ∃ (k : Nat) (f : Addr) (fd : FuncData) (ps : List Str), k + 1 ≤ j ∧ FnOk P w K mg base (L2.CX P w) k f fd ps (spM (Em K) n m) ∧ Mk K (He.ga K c) f ∧ mg c = some (.ref (He.ga K c)) ∧ Binds K fd ps []
section
variable {X : Cx} {md : Md X.K} {j j' n : Nat} {x c f : Str} {m : Fm}
theorem FnK.at {X : Cx} {md : Md X.K} (h : FnK X.prog X.w X.K X.mg X.base md j x n m) (hj : j ≤ j') : Fn X md j' x n m := by
  obtain ⟨k, f, fd, ps, hk, q⟩ := h.ex
  exact ⟨⟨k, f, fd, ps, Nat.le_trans hk hj, q⟩⟩
theorem MeK.at {X : Cx} {md : Md X.K} (h : MeK X.prog X.w X.K X.mg X.base md j c f n m) (hj : j ≤ j') : Me X md j' c f n m := by
  obtain ⟨k, f, fd, ps, hk, q⟩ := h.ex
  exact ⟨⟨k, f, fd, ps, Nat.le_trans hk hj, q⟩⟩
theorem NwK.at {X : Cx} (h : NwK X.prog X.w X.K X.mg X.base j c n m) (hj : j ≤ j') : Nw X j' c n m := by
  obtain ⟨k, f, fd, ps, hk, q⟩ := h.ex
  exact ⟨⟨k, f, fd, ps, Nat.le_trans hk hj, q⟩⟩
theorem con_int {X : Cx} {x : Str} {i : Int} (h : ∃ t, X.mg x = some (.int i t)) : Con X x (.int i) := by
  obtain ⟨t, h⟩ := h
  exact ⟨_, .int i, h, ⟨t, rfl⟩, fun _ => .int i⟩
theorem con_str {X : Cx} {x : Str} {i : Str} (h : ∃ t, X.mg x = some (.str i t)) : Con X x (.str i) := by
  obtain ⟨t, h⟩ := h
  exact ⟨_, .str i, h, ⟨t, rfl⟩, fun _ => .str i⟩
end
theorem i_add {X : Cx} : IpK X .Add (oE (oI0 fun i j => .int (i + j)) oSAdd) := ⟨_, L2.OpR.or iop_add iop_add_str, OpOk.or (oI0_ok fun _ _ _ => .int _) oSAdd_ok⟩
theorem i_sub {X : Cx} : IpK X .Sub oSub := ⟨_, iop_sub, oI0_ok fun _ _ _ => .int _⟩
theorem i_mul {X : Cx} : IpK X .Mult oMulI := ⟨_, iop_mul, oI_ok cMul_ok fun _ _ _ => .int _⟩
theorem i_fdiv {X : Cx} : IpK X .FloorDiv oFdiv := ⟨_, iop_fdiv, oI_ok cDiv_ok fun _ _ _ => .int _⟩
def oAugAdd : PV → PV → Option PV := oE (oI0 fun i j => .int (i + j)) oSAdd
theorem b_never {X : Cx} {md : Md X.K} {W : WX} {sts : List Stmt} : SimB X md W sts sNever := ⟨fun _ _ _ => False, ⟨fun _ _ _ _ _ _ h => h.elim⟩, fun _ _ _ _ _ _ _ _ _ _ _ _ _ _ _ hm => by cases hm⟩
theorem fld_nil {K : PySem.W.Frag} {f : Str} : FldOk K [] f := fun _ h => by cases h
theorem fld_cons {K : PySem.W.Frag} {c f : Str} {cs : List Str} (h1 : Cls K (He.ga K c)) (h2 : NoAttr K (He.ga K c) f) (h : FldOk K cs f) : FldOk K (c :: cs) f := fun d hd => by
  rcases List.mem_cons.mp hd with e | hd
  · rw [e]; exact ⟨h1, h2⟩
  · exact h d hd
end L3

end
section
set_option Elab.async false
set_option linter.all false
set_option maxRecDepth 100000
set_option maxHeartbeats 4000000
namespace L3
open PySem PySem.Spec L2
set_option autoImplicit false

def lLst (m : Ar) : Ar := fun ρ S => mb (m ρ S) fun xs => if xs.all fz && decide (xs.length ≤ most) then some (.ok xs) else none
def law0 (m : Fm) : Fm := fun xs S => match m xs S with
  | some (.ok z, S') => some (.ok z, S')
  | _ => none
section
variable {X : Cx} {md : Md X.K} {W : WX} {a b c e o : Expr} {es : List Expr} {pos p apos : Pos}
/-- a def that reads the store alone, its arguments with effects -/
def xFnP (m : Fm) (n : Nat) (a : Xa) : Xm := fun ρ S => match a ρ S with
  | some (.ok xs, S') => if xs.length == n then (m xs S').map (fun r => (r.1, S')) else none
  | some (.ex c fs, S') => some (.ex c fs, S')
  | none => none
theorem rchx_fnP {t : TA} {a : Xa} {n : Nat} {m : Fm} (ra : RchA md W t a) : RchX md W (tCallS (spM (Pm X.K) n m) (WE W) t) (xFnP m n a) := by
  intro σ H g S ρ Q res rr er hm po
  unfold xFnP at hm
  split at hm
  · rename_i xs S' q
    split at hm
    · rename_i hl
      cases q2 : m xs S' with
      | none => rw [q2] at hm; cases hm
      | some z =>
        rw [q2] at hm
        obtain ⟨z1, z2⟩ := z
        have e2 : res = (z1, S') := (Option.some.inj hm).symm
        subst e2
        refine ra σ H g S ρ _ (.ok xs, S') rr er q fun vs g1 H1 r1 t1 fs => ?_
        refine ⟨g1, S', xs, (z1, z2), md.wr r1, fs, eq_of_beq hl, q2, ?_⟩
        cases z1 with
        | ok y => exact fun v g' H' r2 t2 f2 => by obtain ⟨r3, t3⟩ := md.grow r1 t2.1; exact po v g' H' r3 (md.trans t1 t3) (.frz f2)
        | ex c fs => exact fun cls d g' H' r2 t2 x2 => by obtain ⟨r3, t3⟩ := md.grow r1 t2.1; exact po cls d g' H' r3 (md.trans t1 t3) x2
    · cases hm
  · rename_i c fs S' q
    cases hm
    exact ra σ H g S ρ _ (.ex c fs, S') rr er q po
  · cases hm
theorem x_fnP {x : Str} {p : Pos} {j n : Nat} {m : Fm} {a : Xa} (F : Fn X (Pm X.K) j x n m) (hr : Room j X.A) (tk : Takes X W) (hg : Gl X x) (ha : SimXA X md W (e :: es) a) (hdb : (x == ("__debug__" : Str)) = false := by decide)
    (he : starEach (e :: es) X.env = (false, eval e X.env) :: starEach es X.env := by rfl) (hpl : (backTo pos (starEach es X.env)).any (·.1) = false := by rfl) : SimX X md W (.Call (.Name x p) (e :: es) [] pos) (xFnP m n a) := by
  obtain ⟨k, f, fd, ps, hk, F, hm, kp, hb⟩ := F.ex
  obtain ⟨t, pa, ra⟩ := ha.ex
  exact ⟨_, pe_callS F (hr.mono hk) hg hm kp hb (fun σ => passAt tk σ) pa hdb he hpl, rchx_fnP ra⟩
/-- a method that reads the store alone, receiver and arguments with effects -/
def xMethQ (c f : Str) (m : Fm) (n : Nat) (o : Xm) (a : Xa) : Xm := fun ρ S => match o ρ S with
  | some (.ok x, S1) => if insOf c f S1 x then (match a ρ S1 with
    | some (.ok xs, S2) => if xs.length + 1 == n then (m (x :: xs) S2).map (fun r => (r.1, S2)) else none
    | some (.ex c fs, S2) => some (.ex c fs, S2)
    | none => none) else none
  | some (.ex c fs, S1) => some (.ex c fs, S1)
  | none => none
theorem rchx_methQ {c f : Str} {t : TE} {ta : TA} {ob : Xm} {a : Xa} {n : Nat} {m : Fm} (ro : RchX md W t ob) (ra : RchA md W ta a) : RchX md W (tMethS (He.ga X.K c) f (spM (Pm X.K) n m) (WE W) t ta) (xMethQ c f m n ob a) := by
  intro σ H g S ρ Q res rr er hm po
  unfold xMethQ at hm
  split at hm
  · rename_i x S1 q
    split at hm
    · rename_i hi
      refine ro σ H g S ρ _ (.ok x, S1) rr er q fun v g1 H1 r1 t1 ov => ?_
      obtain ⟨n', a', dx, vs, rfl, rfl, h1, h2, h3⟩ := insOf_ok (md.wr r1) ov hi
      refine ⟨a', dx, vs, rfl, h1, h2, ?_⟩
      split at hm
      · rename_i xs S2 q2
        split at hm
        · rename_i hl
          cases q3 : m (.ref n' :: xs) S2 with
          | none => rw [q3] at hm; cases hm
          | some z =>
            rw [q3] at hm
            obtain ⟨z1, z2⟩ := z
            have e2 : res = (z1, S2) := (Option.some.inj hm).symm
            subst e2
            refine ra σ H1 g1 S1 ρ _ (.ok xs, S2) r1 (er.step t1) q2 fun us g2 H2 r2 t2 fs => ?_
            refine ⟨g2, S2, .ref n' :: xs, (z1, z2), md.wr r2, .cons (FR.mono (md.le t2) _ _ h3) fs, by simpa using eq_of_beq hl, q3, ?_⟩
            cases z1 with
            | ok y => exact fun v g' H' r3 t3 f3 => by obtain ⟨r4, t4⟩ := md.grow r2 t3.1; exact po v g' H' r4 (md.trans t1 (md.trans t2 t4)) (.frz f3)
            | ex c fs => exact fun cls d g' H' r3 t3 x3 => by obtain ⟨r4, t4⟩ := md.grow r2 t3.1; exact po cls d g' H' r4 (md.trans t1 (md.trans t2 t4)) x3
        · cases hm
      · rename_i c' fs S2 q2
        cases hm
        exact ra σ H1 g1 S1 ρ _ (.ex c' fs, S2) r1 (er.step t1) q2 fun cls d g' H' r3 t3 x3 => po cls d g' H' r3 (md.trans t1 t3) x3
      · cases hm
    · cases hm
  · rename_i c' fs S1 q
    cases hm
    exact ro σ H g S ρ _ (.ex c' fs, S1) rr er q po
  · cases hm
theorem x_methQ {c f : Str} {j n : Nat} {m : Fm} {ob : Xm} {a : Xa} {pl : Sem Bool} (F : Me X (Pm X.K) j c f n m) (hr : Room j X.A) (tk : Takes X W) (ho : SimX X md W o ob) (ha : SimXA X md W (e :: es) a)
    (hst : starEach (e :: es) X.env = (false, eval e X.env) :: starEach es X.env := by rfl) (hpl : (backTo pos (starEach es X.env)).any (·.1) = false := by rfl)
    (ht : eval (.Call (.Attribute o f apos) (e :: es) [] pos) X.env = (do
      let ov ← eval o X.env
      standAt apos.atName
      let (f, first) ← holding [ov] (getMethod ov f pl)
      callWith pos f first (backTo pos (starEach (e :: es) X.env)) (backToKw pos (keywordEach [] X.env))) := by rfl) : SimX X md W (.Call (.Attribute o f apos) (e :: es) [] pos) (xMethQ c f m n ob a) := by
  obtain ⟨k, fa, fd, ps, hk, F, hc, hme, hb⟩ := F.ex
  obtain ⟨t, po, ro⟩ := ho.ex
  obtain ⟨ta, pa, ra⟩ := ha.ex
  exact ⟨_, pe_methE (pl := pl) po hc hme F (hr.mono hk) hb (fun σ => passAt tk σ) pa hst hpl ht, rchx_methQ ro ra⟩
theorem x_methQ0 {c f : Str} {j n : Nat} {m : Fm} {ob : Xm} {pl : Sem Bool} (F : Me X (Pm X.K) j c f n m) (hr : Room j X.A) (tk : Takes X W) (ho : SimX X md W o ob)
    (ht : eval (.Call (.Attribute o f apos) [] [] pos) X.env = (do
      let ov ← eval o X.env
      standAt apos.atName
      let (f, first) ← holding [ov] (getMethod ov f pl)
      callWith pos f first (backTo pos (starEach [] X.env)) (backToKw pos (keywordEach [] X.env))) := by rfl) : SimX X md W (.Call (.Attribute o f apos) [] [] pos) (xMethQ c f m n ob aXNil) := by
  obtain ⟨k, fa, fd, ps, hk, F, hc, hme, hb⟩ := F.ex
  obtain ⟨t, po, ro⟩ := ho.ex
  exact ⟨_, pe_methE0 (pl := pl) po hc hme F (hr.mono hk) hb (fun σ => passAt tk σ) ht, rchx_methQ ro (fun σ H g S ρ Q r rr er hm po => by cases hm; exact po [] g H rr (md.refl rr) .nil)⟩
end

/-! ### name = [..] -/
section
variable {X : Cx} {md : Md X.K} {W : WX} {e : Expr} {pos : Pos}
theorem RchS.setF {K : PySem.W.Frag} {md : Md K} {W : WX} {t : TE} {m : Xm} {i : Nat} (r : RchF md W t m) : RchS md W (tAsg t (gName i)) (sSetF i m) := by
  intro σ H g S ρ gb g0 H0 S0 D res r0 rr tt er hm po
  unfold sSetF at hm
  split at hm
  · rename_i x S' q
    cases hm
    refine r σ H g S ρ _ (.ok x, S') rr er.f q fun v g' H' r1 t1 nv => ?_
    exact po _ g' H' r1 (tt.step t1) ((er.step t1).setN (fun p hp => md.free tt.t hp) nv fun p j y ev hfx hj hy hfy => by subst ev; exact er.old (nv.free hfx).1 hy hfy)
  · rename_i c fs S' q
    cases hm
    exact r σ H g S ρ _ (.ex c fs, S') rr er.f q fun cls d g' H' r1 t1 xr => po cls d σ g' H' r1 (tt.step t1) (er.step t1) xr
  · cases hm
theorem RchL.f {K : PySem.W.Frag} {md : Md K} {W : WX} {t : TE} {m : Xa} (r : RchL md W t m) : RchF md W t (fL m) := by
  intro σ H g S ρ Q res rr er hm po
  unfold fL at hm
  split at hm
  · rename_i xs S' q
    cases hm
    exact r σ H g S ρ Q (.ok xs, S') rr er q fun p vs g' H' r1 t1 h1 h2 h3 h4 h5 => po _ g' H' r1 t1 ⟨p, vs, rfl, h1, h2, h3, h4, h5⟩
  · rename_i c fs S' q
    cases hm
    exact r σ H g S ρ Q (.ex c fs, S') rr er q po
  · cases hm
/-- .. at rest at once -/
def fZ (m : Xa) : Xm := fun ρ S => match m ρ S with
  | some (.ok xs, S') => some (.ok (.lst xs), S')
  | some (.ex c fs, S') => some (.ex c fs, S')
  | none => none
theorem RchL.z {K : PySem.W.Frag} {md : Md K} {W : WX} {t : TE} {m : Xa} (r : RchL md W t m) : RchF md W t (fZ m) := by
  intro σ H g S ρ Q res rr er hm po
  unfold fZ at hm
  split at hm
  · rename_i xs S' q
    cases hm
    refine r σ H g S ρ _ (.ok xs, S') rr er q fun p vs g' H' r1 t1 hp hp' fp fr f => ?_
    obtain ⟨r2, t2⟩ := md.rest t1 r1 hp' hp fp fr
    exact po _ _ H' r2 t2 (NewV.of_fr (.lst (.inl upd_same) (FRs.mono (GLe.laid fp) _ _ f)))
  · rename_i c fs S' q
    cases hm
    exact r σ H g S ρ _ (.ex c fs, S') rr er q po
  · cases hm
theorem s_setLc {i : Nat} {y : Str} {py spos : Pos} {elt tg iter : Expr} {ifs : List Expr} {scope : Scope} {own : List (Str × Nat)} {it : Xa} {g1 : Tg} {tt : Tm} {te : Xm} {ks : List Nat} {f : Xa → Xm} (hf : ∀ {t : TE} {m : Xa}, RchL md W t m → RchF md W t (f m)) (hc : X.calm = true) (hN : X.N.Nodup) (hy : X.N[i]? = some y) (hyl : X.env.scope.names.lookup y = some .local)
    (hsw : swapsWith (.ListComp elt [⟨tg, iter, ifs, 0⟩] scope pos) (some (.Name y py)) spos.line X.env = pure true) (hi : SimIX X md W tg iter it) (ok : BlkOk X.N X.env.scope scope own) (hk : ∀ k ∈ ks, k ∈ own.map (·.2))
    (hg : ∀ (s : Shared) (H : Hp) (C : Addr) (cl : List (Str × Addr)) (fp : List Addr), SimG (X.blk s H scope (compEnvC scope cl C X.env) fp) tg ks g1) (ht : ∀ (s : Shared) (H : Hp) (C : Addr) (cl : List (Str × Addr)) (fp : List Addr), SimTsX (X.blk s H scope (compEnvC scope cl C X.env) fp) md WX0 ifs tt)
    (he : ∀ (s : Shared) (H : Hp) (C : Addr) (cl : List (Str × Addr)) (fp : List Addr), SimX (X.blk s H scope (compEnvC scope cl C X.env) fp) md WX0 elt te) (hs : ∀ x, foldedSetIterable iter X.env x = pure x := by intro _; rfl) :
    SimS X md W (.Assign [.Name y py] (.ListComp elt [⟨tg, iter, ifs, 0⟩] scope pos) spos) (sSetF i (f (lLcX it g1 tt te (own.map (·.2))))) := by
  obtain ⟨wi, pi, ri⟩ := hi.ex
  exact ⟨_, ps_setLc hc hN hy hyl hsw pi ok (fun s H C cl fp => (hg s H C cl fp).c) (fun s H C cl fp => (ht s H C cl fp).ex) (fun s H C cl fp => (he s H C cl fp).cr) hs, RchS.setF (hf (rch_lcX hk ri))⟩
end

/-! ### the law itself -/
theorem script_sp {K : PySem.W.Frag} {m : Fm} {ns : List Int} {a : Addr} {H : Hp} {S : Store} (hS : SqL K H a (ns.map V.int)) (hO : Only H) (h : m [.kl (ns.map .int)] [] = some (.ok (.bl true), S)) :
    spM (Em K) 1 m [.ref a] H (fun v _ => v = .bl true) fun _ _ _ => False := by
  have frs : ∀ (g : G) (ns : List Int), FRs K g (ns.map .int) (ns.map V.int) := fun g ns => by
    induction ns with
    | nil => exact .nil
    | cons n ns ih => exact .cons (.int n) ih
  refine ⟨⟨H, fun _ => 0, 0, fun _ => False⟩, [], [.kl (ns.map .int)], (.ok (.bl true), S), ⟨fun _ _ r => r, rfl, (fun n o e => by cases e), (fun n m h => absurd h (Nat.not_lt_zero _)), (fun n h => absurd h (Nat.not_lt_zero _))⟩, .cons (.kl hS (frs _ ns)) .nil, rfl, h, fun v g' H' _ _ f => ?_⟩
  cases f
  rfl
end L3

end
section
set_option Elab.async false
set_option linter.all false
set_option maxRecDepth 100000
set_option maxHeartbeats 4000000
namespace L3
set_option autoImplicit false
/-! ### the plain functions, evaluated -/
def chk : Option (SR × Store) → Bool
  | some (.rt (.bl true), _) => true
  | _ => false
theorem chk_ok {r : Option (SR × Store)} (h : chk r = true) : ∃ S, r = some (.rt (.bl true), S) := by
  unfold chk at h
  split at h
  · exact ⟨_, rfl⟩
  · cases h
theorem cutP_map {α β : Type} (f : α → β) (l : List α) (lo hi : Option Int) : cutP (l.map f) lo hi = (cutP l lo hi).map f := by
  unfold cutP
  rw [List.length_map, List.map_take, List.map_drop]
theorem cutP_len {α : Type} (l : List α) (lo hi : Option Int) : (cutP l lo hi).length ≤ l.length := by
  unfold cutP
  rw [List.length_take, List.length_drop]; omega
theorem intsOf_map : ∀ l : List Int, intsOf (l.map PV.int) = some l
  | [] => rfl
  | n :: l => by
    show intsOf (.int n :: l.map PV.int) = _
    unfold intsOf
    rw [intsOf_map l]
    rfl
theorem bSum_map (l : List Int) : bSum [.lst (l.map PV.int)] = some (.int l.sum) := by
  show (intsOf (l.map PV.int)).bind (fun ns => some (PV.int ns.sum)) = _
  rw [intsOf_map l]
  rfl
theorem xCall_ok {op : List PV → Option PV} {m : Ar} {ρ : Env} {S : Store} {xs : List PV} (h : m ρ S = some (.ok xs)) : xCall op m ρ S = mo (op xs) := by unfold xCall; rw [h]; rfl
theorem aCons_ok {m : Ex} {n : Ar} {ρ : Env} {S : Store} {x : PV} {xs : List PV} (h : m ρ S = some (.ok x)) (k : n ρ S = some (.ok xs)) : aCons m n ρ S = some (.ok (x :: xs)) := by unfold aCons; rw [h, k]; rfl
theorem xFz_ok {m : Ar} {ρ : Env} {S : Store} {xs : List PV} (h : m ρ S = some (.ok xs)) : xFz m ρ S = some (.ok (.lst xs)) := by unfold xFz; rw [h]; rfl
theorem xOp_ok {op : PV → PV → Option PV} {m n : Ex} {ρ : Env} {S : Store} {x y : PV} (h : m ρ S = some (.ok x)) (k : n ρ S = some (.ok y)) : xOp op m n ρ S = mo (op x y) := by unfold xOp; rw [h, k]; rfl
theorem xP_ok {m : Ex} {ρ : Env} {S : Store} {x : PV} (h : m ρ S = some (.ok x)) : xP m ρ S = some (.ok x, S) := by unfold xP; rw [h]; rfl
theorem sAsg_ok {i : Nat} {m : Xm} {ρ : Env} {S S' : Store} {x : PV} (h : m ρ S = some (.ok x, S')) (hx : fz x = true) : sAsg (gN i) m ρ S = some (.nx (ρ.set i (some x)), S') := by unfold sAsg xThen; rw [h]; show (if fz x then _ else _) = _; rw [if_pos hx]; rfl
theorem sSeq_nx {m n : Sm} {ρ ρ' : Env} {S S' : Store} (h : m ρ S = some (.nx ρ', S')) : sSeq m n ρ S = n ρ' S' := by unfold sSeq; rw [h]
theorem law_true {l : Nat} {m : Sm} {xs : List PV} {S S' : Store} (h : m (xs.map some ++ List.replicate (l - xs.length) none) S = some (.rt (.bl true), S')) : law0 (fBody l m) xs S = some (.ok (.bl true), S') := by
  unfold law0 fBody
  rw [h]
/-- int(sum([abs(x) for x in script[:9]])) % n -/
theorem go_abs (x : Option PV) : ∀ l : List Int, lcGo (gN 2) yYes (xCall bAbs (aCons (xVar 2) aNil)) [x, none, none] [] (l.map PV.int) = some ((l.map fun n => if n < 0 then -n else n).map PV.int)
  | [] => rfl
  | n :: l => by
    show (lcGo (gN 2) yYes (xCall bAbs (aCons (xVar 2) aNil)) [x, none, none] [] (l.map PV.int)).map (fun r => PV.int (if n < 0 then -n else n) :: r) = _
    rw [go_abs x l]
    rfl
theorem first5 (ns : List Int) (hl : ns.length ≤ 63) : ∃ k : Int, 0 ≤ k ∧ k < 5 ∧ (sAsg (gN 1) (xP (xOp oMod (xCall bInt (aCons (xCall bSum (aCons (xFz (lLc (iSeq (xSl (xVar 0) oNone (oSome (xC (.int 9))))) (gN 2) yYes (xCall bAbs (aCons (xVar 2) aNil)) [2])) aNil)) aNil)) (xC (.int 5))))) [some (.kl (ns.map PV.int)), none, none] [] = some (.nx [some (.kl (ns.map PV.int)), some (.int k), none], []) := by
  refine ⟨((cutP ns none (some 9)).map fun n => if n < 0 then -n else n).sum % 5, Int.emod_nonneg _ (by decide), Int.emod_lt_of_pos _ (by decide), ?_⟩
  have h0 : lLc (iSeq (xSl (xVar 0) oNone (oSome (xC (.int 9))))) (gN 2) yYes (xCall bAbs (aCons (xVar 2) aNil)) [2] [some (.kl (ns.map PV.int)), none, none] [] = some (.ok (((cutP ns none (some 9)).map fun n => if n < 0 then -n else n).map PV.int)) := by
    show (if decide ((cutP (ns.map PV.int) none (some 9)).length ≤ most) then mo (lcGo (gN 2) yYes (xCall bAbs (aCons (xVar 2) aNil)) [some (.kl (ns.map PV.int)), none, none] [] (cutP (ns.map PV.int) none (some 9))) else none) = _
    have h1 : (cutP (ns.map PV.int) none (some 9)).length ≤ most := by
      have := cutP_len (ns.map PV.int) none (some 9)
      rw [List.length_map] at this
      have : most = 1000000 := rfl
      omega
    rw [if_pos (decide_eq_true h1), cutP_map, go_abs]
    rfl
  have h2 := (xCall_ok (op := bSum) (aCons_ok (xFz_ok h0) (n := aNil) rfl)).trans (congrArg mo (bSum_map _))
  have h3 := xCall_ok (op := bInt) (aCons_ok h2 (n := aNil) rfl)
  exact sAsg_ok (i := 1) (xP_ok (xOp_ok (op := oMod) h3 (n := xC (.int 5)) rfl)) rfl
end L3

end
section
set_option Elab.async false
set_option linter.all false
set_option maxRecDepth 100000
set_option maxHeartbeats 4000000
namespace L3
open PySem PySem.Spec L2
set_option autoImplicit false
/-! ### raise of an own exception, a text its one argument -/
structure ExK (X : Cx) (c : Str) : Prop where
  q : PySem.W.excIn X.K (He.ga X.K c) He.veBase "ValueError.__new__" = true
  k : PySem.W.keepIn X.K (.ref (He.ga X.K c)) = true
  b : PySem.W.subIn X.K (.ref (He.ga X.K c)) (.type "BaseException") = some true
  t : PySem.W.typeIn X.K (.ref (He.ga X.K c)) = some (.type "type")
  m : X.mg c = some (.ref (He.ga X.K c))
def sRaise (c : Str) : Sm := fun ρ S => some (.xx c [] ρ, S)
section
variable {X : Cx} {md : Md X.K} {W : WX} {pos : Pos}
theorem s_raise {x m : Str} {j : Nat} {p p2 p3 : Pos} (hc : X.calm = true) (tk : Takes X W) (E : ExK X x) (hg : Gl X x) (hdb : (x == ("__debug__" : Str)) = false := by decide) : SimS X md W (.Raise (some (.Call (.Name x p) [.Constant (.str m) j p2] [] p3)) none pos) (sRaise x) := by
  refine ⟨_, ps_raise hc tk (pmk_own PySem.F.excBase_ValueError E.q E.m E.k (raises_own E.b E.t) hg hdb), fun σ H g S ρ gb g0 H0 S0 D res r0 rr tt er hm po => ?_⟩
  cases hm
  exact po _ none σ g H rr tt er ⟨rfl, .inl ⟨rfl, rfl⟩⟩
/-! ### try, except -/
def cS {K : PySem.W.Frag} (md : Md K) (W : WX) (m : Sm) : TS := fun D σ H => ∃ (g : G) (S : Store) (ρ : Env) (gb g0 : G) (H0 : Hp) (S0 : Store) (r : SR × Store), md.R g0 S0 H0 ∧ md.R g S H ∧ Tr md gb g0 H0 S0 g H S ∧ EnvS md H0 g H σ ρ ∧ m ρ S = some r ∧ PoS md gb g0 H0 S0 W D r
theorem SimB.cn {X : Cx} {md : Md X.K} {W : WX} {sts : List Stmt} {m : Sm} (h : SimB X md W sts m) : PSs X sts (cS md W m) := by
  obtain ⟨t, p, r⟩ := h.ex
  refine ⟨fun pins s σ H D I q => p.run pins s σ H D I ?_⟩
  obtain ⟨g, S, ρ, gb, g0, H0, S0, res, r0, rr, tt, er, hm, po⟩ := q
  exact r σ H g S ρ gb g0 H0 S0 D res r0 rr tt er hm po
abbrev Hm := List (Str × Bool) × Sm
def sHands : List Hm → Str → List (Str × PV) → Env → Store → Option (SR × Store)
  | [], c, fs, ρ, S => some (.xx c fs ρ, S)
  | h :: r, c, fs, ρ, S => match h.1.lookup c with
    | some true => (match h.2 ρ S with
      | some (.xx _ _ _, _) => none
      | z => z)
    | some false => sHands r c fs ρ S
    | none => none
def sTryM (m : Sm) (hs : List Hm) : Sm := fun ρ S => match m ρ S with
  | some (.xx c fs ρ', S') => sHands hs c fs ρ' S'
  | z => z
inductive SimH (X : Cx) (md : Md X.K) : List ExceptHandler → List Hm → Prop
  | nil : SimH X md [] []
  | cons {x : Str} {b₀ : Stmt} {suite : List Stmt} {np pos' : Pos} {hds : List ExceptHandler} {hs : List Hm} {tb : List (Str × Bool)} {ms : Sm} (hn : Names X x (.ref (He.ga X.K x))) (ht : ∀ p ∈ tb, PySem.W.exmOne X.K (.ref (He.ga X.K p.1)) (.ref (He.ga X.K x)) = some p.2)
      (hsu : ∀ (a : Addr) (oe : Obj) (pn : List (Addr × Obj)), SimB (X.suite a ((a, oe) :: pn)) md WX0 (b₀ :: suite) ms) (r : SimH X md hds hs) : SimH X md (.ExceptHandler (some (.Name x np)) none (b₀ :: suite) pos' :: hds) ((tb, ms) :: hs)
theorem lookup_mem {α β : Type} [BEq α] [LawfulBEq α] {a : α} {b : β} : ∀ {l : List (α × β)}, l.lookup a = some b → (a, b) ∈ l
  | [], h => by cases h
  | (x, y) :: l, h => by
    rw [List.lookup_cons] at h
    cases e : a == x with
    | true =>
      rw [e] at h
      have e1 := eq_of_beq e
      have e2 : y = b := Option.some.inj h
      rw [e1, e2]; exact List.mem_cons_self
    | false => rw [e] at h; exact List.mem_cons_of_mem _ (lookup_mem h)
theorem SimH.run {X : Cx} {md : Md X.K} {W : WX} : ∀ {hds : List ExceptHandler} {hs : List Hm}, SimH X md hds hs → ∃ l, HdsOk X hds l ∧ ∀ (D : Ends) (c : Str) (fs : List (Str × PV)) (ρ : Env) (S : Store) (res : SR × Store) (gb g0 : G) (H0 : Hp) (S0 : Store), md.R g0 S0 H0 → sHands hs c fs ρ S = some res → PoS md gb g0 H0 S0 W D res →
    PoS md gb g0 H0 S0 (wMany X.K W D l) D (.xx c fs ρ, S)
  | _, _, .nil => ⟨[], .nil, fun D c fs ρ S res gb g0 H0 S0 r0 hm po => by cases hm; exact po⟩
  | _, _, .cons (x := x) (tb := tb) (ms := ms) hn ht hsu r => by
    obtain ⟨l, hl, k⟩ := SimH.run (W := W) r
    refine ⟨_, .cons (ts := fun _ _ _ => cS md WX0 ms) hn (fun a oe cls d pn _ _ => (hsu a oe pn).cn) hl, fun D c fs ρ S res gb g0 H0 S0 r0 hm po cls d σ g H rr tt er xr => ?_⟩
    unfold sHands at hm
    split at hm
    · rename_i hb
      have e := ht _ (lookup_mem hb)
      refine ⟨true, by rw [xr.1]; exact e, fun _ a ha => ?_, fun z => by cases z⟩
      split at hm
      · cases hm
      · rename_i n1
        refine ⟨g, S, ρ, gb, g0, H0, S0, res, r0, rr, tt, er, hm, ?_⟩
        obtain ⟨res1, S1⟩ := res
        cases res1 with
        | nx ρ' => exact po
        | ct ρ' => exact po
        | bk ρ' => exact po
        | rt x => exact po
        | xx c' fs' ρ' => exact absurd hm (n1 c' fs' ρ' S1)
    · rename_i hb
      have e := ht _ (lookup_mem hb)
      exact ⟨false, by rw [xr.1]; exact e, (fun z => by cases z), fun _ => k D c fs ρ S res gb g0 H0 S0 r0 hm po cls d σ g H rr tt er xr⟩
    · cases hm
theorem s_tryM {body : List Stmt} {h₀ : ExceptHandler} {hds : List ExceptHandler} {m : Sm} {hs : List Hm} (tk : Takes X W) (h : ∀ (W' : WX) (pn : List (Addr × Obj)) (xe : Value → Shared → Prop), Takes (X.tr pn xe) W' → PassesOwn (model X.prog X.w) X.A X.env xe → SimB (X.tr pn xe) md W' body m) (hh : SimH X md (h₀ :: hds) hs)
    (h1 : X.stack = X.env :: X.outer := by rfl) (h2 : X.env.frame = some X.env.locals := by rfl) : SimS X md W (.Try body (h₀ :: hds) [] [] pos) (sTryM m hs) := by
  obtain ⟨l, hl, k⟩ := SimH.run (W := W) hh
  refine ⟨_, ps_try_many (tb := fun W' => cS md W' m) h1 h2 tk (fun W' pn xe tk' hp => (h W' pn xe tk' hp).cn) hl, fun σ H g S ρ gb g0 H0 S0 D res r0 rr tt er hm po => ?_⟩
  unfold sTryM at hm
  split at hm
  · rename_i c fs ρ' S' q
    exact ⟨g, S, ρ, gb, g0, H0, S0, _, r0, rr, tt, er, q, k D c fs ρ' S' res gb g0 H0 S0 r0 hm po⟩
  · rename_i n1
    refine ⟨g, S, ρ, gb, g0, H0, S0, res, r0, rr, tt, er, hm, ?_⟩
    obtain ⟨res1, S1⟩ := res
    cases res1 with
    | nx ρ' => exact po
    | ct ρ' => exact po
    | bk ρ' => exact po
    | rt x => exact po
    | xx c' fs' ρ' => exact absurd hm (n1 c' fs' ρ' S1)
end
end L3

end
section
set_option Elab.async false
set_option linter.all false
set_option maxRecDepth 100000
set_option maxHeartbeats 4000000
namespace L3
open PySem PySem.Spec L2
set_option autoImplicit false
/-! ### a module's constants: plain values in the written part -/
mutual
def repB (K : PySem.W.Frag) : PV → Value → Bool
  | .non, .none => true
  | .bl b, .bool c => b == c
  | .int i, .int j _ => decide (i = j)
  | .str x, .str y _ => decide (x = y)
  | .tup xs, .ref a => (match K.lookup a with
    | some ⟨.type c, _, .seq its _, _⟩ => decide (c = "tuple") && (decide (its.size ≤ sizeLine) && repBs K xs its.toList)
    | _ => false)
  | .kl xs, .ref a => (match K.lookup a with
    | some ⟨.type c, none, .seq its _, _⟩ => decide (c = "list") && (decide (its.size ≤ sizeLine) && repBs K xs its.toList)
    | _ => false)
  | _, _ => false
def repBs (K : PySem.W.Frag) : List PV → List Value → Bool
  | [], [] => true
  | x :: xs, v :: vs => repB K x v && repBs K xs vs
  | _, _ => false
end
mutual
theorem repB_ok (K : PySem.W.Frag) : ∀ (x : PV) (u : Value), repB K x u = true → ∃ v, RelV v u ∧ ∀ g, FR K g x v
  | .non, u, h => by
    cases u with
    | none => exact ⟨.non, rfl, fun _ => .non⟩
    | _ => simp [repB] at h
  | .bl b, u, h => by
    cases u with
    | bool c =>
      have e : b = c := by simpa [repB] using h
      subst e
      exact ⟨.bl b, rfl, fun _ => .bl b⟩
    | _ => simp [repB] at h
  | .int i, u, h => by
    cases u with
    | int j t =>
      have e : i = j := by simpa [repB] using h
      subst e
      exact ⟨.int i, ⟨t, rfl⟩, fun _ => .int i⟩
    | _ => simp [repB] at h
  | .str i, u, h => by
    cases u with
    | str j t =>
      have e : i = j := by simpa [repB] using h
      subst e
      exact ⟨.str i, ⟨t, rfl⟩, fun _ => .str i⟩
    | _ => simp [repB] at h
  | .tup xs, u, h => by
    cases u with
    | ref a =>
      unfold repB at h
      split at h
      · rename_i c o its n sl q
        simp only [Bool.and_eq_true, decide_eq_true_eq] at h
        obtain ⟨h1, h2, h3⟩ := h
        subst h1
        obtain ⟨vs, r, f⟩ := repBs_ok K xs its.toList h3
        exact ⟨.ref a, rfl, fun g => .tup (.inr ⟨_, its, n, q, rfl, rfl, h2, r⟩) (f g)⟩
      · cases h
    | _ => simp [repB] at h
  | .kl xs, u, h => by
    cases u with
    | ref a =>
      unfold repB at h
      split at h
      · rename_i c its n sl q
        simp only [Bool.and_eq_true, decide_eq_true_eq] at h
        obtain ⟨h1, h2, h3⟩ := h
        subst h1
        obtain ⟨vs, r, f⟩ := repBs_ok K xs its.toList h3
        exact ⟨.ref a, rfl, fun g => .kl (.inr ⟨_, its, n, q, rfl, rfl, rfl, h2, r⟩) (f g)⟩
      · cases h
    | _ => simp [repB] at h
  | .ty _, u, h => by cases u <;> simp [repB] at h
  | .lst _, u, h => by cases u <;> simp [repB] at h
  | .dct _, u, h => by cases u <;> simp [repB] at h
  | .ref _, u, h => by cases u <;> simp [repB] at h
  | .ol _, u, h => by cases u <;> simp [repB] at h
  | .od _, u, h => by cases u <;> simp [repB] at h
theorem repBs_ok (K : PySem.W.Frag) : ∀ (xs : List PV) (us : List Value), repBs K xs us = true → ∃ vs, Vals vs us ∧ ∀ g, FRs K g xs vs
  | [], [], _ => ⟨[], .nil, fun _ => .nil⟩
  | x :: xs, u :: us, h => by
    unfold repBs at h
    rw [Bool.and_eq_true] at h
    obtain ⟨v, r1, f1⟩ := repB_ok K x u h.1
    obtain ⟨vs, r2, f2⟩ := repBs_ok K xs us h.2
    exact ⟨v :: vs, .cons r1 r2, fun g => .cons (f1 g) (f2 g)⟩
  | [], _ :: _, h => by simp [repBs] at h
  | _ :: _, [], h => by simp [repBs] at h
end
abbrev Cns := List (Str × PV)
def cnB (K : PySem.W.Frag) (p : Str × PV) : Bool := match PySem.W.nsIn K mainGlobals p.1 with
  | some (some u) => repB K p.2 u
  | _ => false
theorem cnB_ok {X : Cx} {h : Heap} {x : Str} {p : PV} (I : X.K.In h) (G : h.Ns mainGlobals X.mg) (c : cnB X.K (x, p) = true) : Con X x p := by
  unfold cnB at c
  split at c
  · rename_i u q
    obtain ⟨v, r, f⟩ := repB_ok _ _ _ c
    exact ⟨u, v, PySem.W.mg_of I G q, r, f⟩
  · cases c
/-! ### the Hook: facts, defs, constants -/
abbrev AlL : Type := Bool × He.AlD
def obsL (fa : List He.Fa) (fn : List He.DefD) (cn : Cns) (K : PySem.W.Frag) : AlL := (cn.all (cnB K), He.obsD fa fn K)
structure SaysL (fa : List He.Fa) (fn : List He.DefD) (cn : Cns) (K : PySem.W.Frag) : Prop where
  d : He.SaysD fa fn K
  c : cn.all (cnB K) = true
def obsLG (n : Nat) (fa : List He.Fa) (fn : List He.DefD) (cn : Cns) (g : Addr → Option Obj) : AlL := obsL fa fn cn (He.frG g (He.asD g n))
def hookL (n : Nat) (fa : List He.Fa) (fn : List He.DefD) (cn : Cns) : PySem.W.Hook where
  α := AlL
  obs := fun s => obsLG n fa fn cn s.heap.get?
  val := fun _ => (true, He.valD fn)
  says := fun _ h => ∃ K : PySem.W.Frag, K.In h ∧ SaysL fa fn cn K
  of := fun _ _ e => ⟨_, He.frG_in, ⟨congrArg Prod.snd e, congrArg Prod.fst e⟩⟩
  keeps := fun _ _ _ ⟨K, hK, c⟩ k => ⟨K, PySem.W.Frag.In.keeps hK k, c⟩
theorem obsLG_eq {n : Nat} {fa : List He.Fa} {fn : List He.DefD} {cn : Cns} {g : Addr → Option Obj} {s : Shared} (h : ∀ a, g a = s.heap.get? a) : obsLG n fa fn cn g = (hookL n fa fn cn).obs s := by
  have e : g = s.heap.get? := funext h
  rw [e]; rfl
section
variable {fa : List He.Fa} {fn : List He.DefD} {cn : Cns} {K : PySem.W.Frag}
theorem SaysL.fact (c : SaysL fa fn cn K) (i : Nat) {f : He.Fa} (h : fa[i]? = some f := by rfl) : f.ok K = true := c.d.fact i h
theorem SaysL.def_ (c : SaysL fa fn cn K) (i : Nat) {d : He.DefD} (h : fn[i]? = some d := by rfl) : ∃ fd, FunD K d.name d.qual d.params d.body d.scope (d.dvs K) (d.kws K) (He.fAd K d.at_) fd := c.d.def_ i h
theorem SaysL.con (c : SaysL fa fn cn K) (i : Nat) {p : Str × PV} (h : cn[i]? = some p := by rfl) : cnB K p = true := List.all_eq_true.mp c.c p (List.mem_of_getElem? h)
end
end L3

end
section
set_option Elab.async false
set_option linter.all false
set_option maxRecDepth 100000
set_option maxHeartbeats 4000000
namespace L3
open PySem PySem.Spec L2
set_option autoImplicit false
/-! ### one value with effects, then a pure step -/
def xBP (m : Xm) (k : PV → Env → Store → M PV) : Xm := fun ρ S => match m ρ S with
  | some (.ok x, S') => (k x ρ S').map fun r => (r, S')
  | some (.ex c fs, S') => some (.ex c fs, S')
  | none => none
section
variable {X : Cx} {md : Md X.K} {W : WX} {a b c e o : Expr} {es : List Expr} {pos p p2 apos : Pos}
theorem RchX.pur {t : TE} {m : Xm} (h : RchX md W t m) {k : PV → Env → Store → M PV} {tk : V → TE}
    (hk : ∀ (x : PV) (u : V) (σ : St) (H : Hp) (g : G) (S : Store) (ρ : Env) (Q : VK) (r : Res PV), WR X.K g S H → EnvR X.K g H σ ρ → OV X.K g H x u → k x ρ S = some r → Po X.K (RV X.K) g H σ W Q r → tk u σ H Q) :
    RchX md W (fun σ H Q => t σ H fun x H1 => tk x σ H1 Q) (xBP m k) := by
  intro σ H g S ρ Q res rr er hm po
  unfold xBP at hm
  split at hm
  · rename_i x S' q
    cases q2 : k x ρ S' with
    | none => rw [q2] at hm; cases hm
    | some z =>
      rw [q2] at hm
      have e2 : res = (z, S') := (Option.some.inj hm).symm
      subst e2
      refine h σ H g S ρ _ (.ok x, S') rr er q fun v g1 H1 r1 t1 ov => ?_
      refine hk x v σ H1 g1 S' ρ Q z (md.wr r1) (er.step t1).r ov q2 ?_
      cases z with
      | ok y => exact fun v2 g2 H2 gr o2 => by obtain ⟨r3, t3⟩ := md.grow r1 gr; exact po v2 g2 H2 r3 (md.trans t1 t3) o2
      | ex c fs => exact fun cls d g2 H2 gr x2 => by obtain ⟨r3, t3⟩ := md.grow r1 gr; exact po cls d g2 H2 r3 (md.trans t1 t3) x2
  · rename_i c fs S' q
    cases hm
    exact h σ H g S ρ _ (.ex c fs, S') rr er q po
  · cases hm
def kNot : PV → Env → Store → M PV := fun x _ _ => match x with
  | .bl k => some (.ok (.bl (!k)))
  | _ => none
def xNotX (m : Xm) : Xm := xBP m kNot
theorem x_not {m : Xm} (h : SimX X md W a m) : SimX X md W (.UnaryOp .Not a pos) (xNotX m) := by
  obtain ⟨t, p, r⟩ := h.ex
  refine ⟨_, pe_not p, RchX.pur (tk := fun x _ H1 Q => ∃ c, x = V.bl c ∧ Q (V.bl (!c)) H1) r fun x c σ H g S ρ Q res w er hx hm po => ?_⟩
  unfold kNot at hm
  split at hm
  · cases hx.fr rfl; cases hm; exact ⟨_, rfl, po _ g H (.refl w) (.frz (.bl _))⟩
  · cases hm
def kFld (cs : List Str) (f : Str) : PV → Env → Store → M PV := fun x _ S => match x with
  | .ref n => (match S[n]? with
    | some (.ins c fs) => if decide (c ∈ cs) then mo (fs.lookup f) else none
    | _ => none)
  | _ => none
def xFldX (cs : List Str) (f : Str) (m : Xm) : Xm := xBP m (kFld cs f)
theorem x_fld {cs : List Str} {f : Str} {m : Xm} (hc : FldOk X.K cs f) (h : SimX X md W o m) (hb : attributeBase o f X.env (eval o X.env) = eval o X.env := by rfl) : SimX X md W (.Attribute o f pos) (xFldX cs f m) := by
  obtain ⟨t, p, r⟩ := h.ex
  refine ⟨_, pe_fld p hb, RchX.pur (tk := fun x _ H1 Q => ∃ a C dx fs v, x = .ref a ∧ H1 a = some (.ins C dx fs) ∧ Cls X.K C ∧ NoAttr X.K C f ∧ fs.lookup f = some v ∧ Q v H1) r fun x u σ H g S ρ Q res w er hx hm po => ?_⟩
  unfold kFld at hm
  split at hm
  · rename_i n
    split at hm
    · rename_i c fs q
      split at hm
      · rename_i hcs
        cases q2 : fs.lookup f with
        | none => rw [q2] at hm; cases hm
        | some z =>
          rw [q2] at hm
          have e2 : res = .ok z := (Option.some.inj hm).symm
          subst e2
          cases hx.fr rfl with
          | ref hn =>
            obtain ⟨dx, vs, h1, h2⟩ := w.s n _ q
            obtain ⟨v, h3, h4⟩ := h2.look q2
            obtain ⟨k1, k2⟩ := hc c (of_decide_eq_true hcs)
            exact ⟨_, _, dx, vs, v, rfl, h1, k1, k2, h3, po v g H (.refl w) h4⟩
      · cases hm
    · cases hm
  · cases hm
def kSl (l h : Oe) : PV → Env → Store → M PV := fun x ρ S => mb (l ρ S) fun i => mb (h ρ S) fun j => mo (slP i j x)
def xSlX (m : Xm) (l h : Oe) : Xm := xBP m (kSl l h)
theorem x_sl {lo hi : Option Expr} {m : Xm} {l h : Oe} (he : SimX X md W e m) (hl : SimO X W lo l) (hh : SimO X W hi h) : SimX X md W (.Subscript e (.Slice lo hi none p2) pos) (xSlX m l h) := by
  obtain ⟨t, pt, rt⟩ := he.ex
  obtain ⟨t1, p1, r1⟩ := hl.ex
  obtain ⟨t2, p2, r2⟩ := hh.ex
  refine ⟨_, pe_slice sl_P pt p1 p2, RchX.pur (tk := fun x σ H1 Q => t1 σ H1 fun l H2 => t2 σ H2 fun u H3 => rSlP X.K x l u H3 Q) rt fun x u σ H g S ρ Q res w er hx hm po => ?_⟩
  unfold kSl at hm
  cases q1 : l ρ S with
  | none => rw [q1] at hm; cases hm
  | some z1 =>
    rw [q1] at hm
    cases z1 with
    | ex c fs => cases hm; exact r1 σ H g S ρ _ (.ex c fs) w er q1 po
    | ok i =>
      refine r1 σ H g S ρ _ (.ok i) w er q1 fun i' g1 H1 gr1 e1 => ?_
      subst e1
      replace hm : mb (h ρ S) (fun j => mo (slP i j x)) = some res := hm
      cases q2 : h ρ S with
      | none => rw [q2] at hm; cases hm
      | some z2 =>
        rw [q2] at hm
        cases z2 with
        | ex c fs => cases hm; exact r2 σ H1 g1 S ρ _ (.ex c fs) (gr1.wr w) (er.mono gr1) q2 fun cls d g' H' gr x => po cls d g' H' (gr1.trans gr) x
        | ok j =>
          refine r2 σ H1 g1 S ρ _ (.ok j) (gr1.wr w) (er.mono gr1) q2 fun j' g2 H2 gr2 e2 => ?_
          subst e2
          replace hm : mo (slP i j x) = some res := hm
          cases q3 : slP i j x with
          | none => rw [q3] at hm; cases hm
          | some z =>
            rw [q3] at hm
            cases hm
            exact slP_ok (gr2.wr (gr1.wr w)) (gr2.ov (gr1.ov hx)) q3 fun v g' H' gr o => po v g' H' (gr1.trans (gr2.trans gr)) o
end
end L3

end
section
set_option Elab.async false
set_option linter.all false
set_option maxRecDepth 100000
set_option maxHeartbeats 4000000
namespace L3
open PySem PySem.Spec L2
set_option autoImplicit false
/-! ### methods of lists and texts -/
def xMt (okT : PV → Bool) (op : PV → List PV → Option PV) (o : Ex) (a : Ar) : Ex := fun ρ S => mb (o ρ S) fun x => if okT x then mb (a ρ S) fun xs => mo (op x xs) else none
def isLs : PV → Bool
  | .lst _ => true
  | .ol _ => true
  | .kl _ => true
  | _ => false
def isSt : PV → Bool
  | .str _ => true
  | _ => false
theorem isLs_ok {K : PySem.W.Frag} {g : G} {S : Store} {H : Hp} {x : PV} {u : V} (w : WR K g S H) (h : OV K g H x u) (e : isLs x = true) : tyV K "list" u H := by
  cases x with
  | lst xs => obtain ⟨a, vs, rfl, r, _⟩ := h.list w (.inl rfl); exact .inl ⟨rfl, _, .inl r⟩
  | ol xs => obtain ⟨a, vs, rfl, r, _⟩ := h.list w (.inr rfl); exact .inl ⟨rfl, _, .inl r⟩
  | kl xs => cases h.fr rfl with | kl s f => exact .inl ⟨rfl, _, w.f.sqL s⟩
  | _ => cases e
theorem isSt_ok {K : PySem.W.Frag} {g : G} {S : Store} {H : Hp} {x : PV} {u : V} (w : WR K g S H) (h : OV K g H x u) (e : isSt x = true) : tyV K "str" u H := by
  cases x with
  | str xs => cases h.fr rfl; exact rfl
  | _ => cases e
section
variable {X : Cx} {W : WX} {o e : Expr} {es : List Expr} {name : Str} {apos cpos : Pos} {T id : String} {r : V → List V → Hp → VK → Prop} {op : PV → List PV → Option PV} {okT : PV → Bool}
theorem e_bm {m : Ex} {n : Ar} (pa : PlainAttrs T) (slot : Slot T name id) (hty : typeOf (.builtin id) = pure (.type "method_descriptor")) (hm : MtR X id r) (hk : MtOk X.K op r)
    (hT : ∀ {g : G} {S : Store} {H : Hp} {x : PV} {u : V}, WR X.K g S H → OV X.K g H x u → okT x = true → tyV X.K T u H) (ho : SimE X W o m) (ha : SimA X W (e :: es) n)
    (hbase : attributeBase o name X.env (eval o X.env) = eval o X.env := by rfl)
    (hfew : ((backTo cpos (starEach (e :: es) X.env)).all (fun x => !x.1) && (backToKw cpos (keywordEach [] X.env)).all (fun x => x.1.isSome) && decide ((e :: es).length + ([] : List Keyword).length + (if ([] : List Keyword).isEmpty then 0 else 1) < 30)) = true := by rfl)
    (hline : (apos.endLine == cpos.line) = true := by rfl) (hs : starEach (e :: es) X.env = (false, eval e X.env) :: starEach es X.env := by rfl) (hplain : (backTo cpos (starEach es X.env)).any (·.1) = false := by rfl) :
    SimE X W (.Call (.Attribute o name apos) (e :: es) [] cpos) (xMt okT op m n) := by
  obtain ⟨t, pt, rt⟩ := ho.ex
  obtain ⟨t1, p1, r1⟩ := ha.ex
  refine ⟨_, pe_bm pa slot hty hm pt p1 hbase hfew hline hs hplain, ?_⟩
  refine Rch.bind (R' := RV X.K) (k := fun x ρ S => if okT x then mb (n ρ S) fun xs => mo (op x xs) else none) (tk := fun x σ H1 Q => tyV X.K T x H1 ∧ t1 σ H1 fun xs H2 => r x xs H2 Q) rt fun x u σ H g S ρ Q res w er hx hm po => ?_
  split at hm
  · rename_i hok
    refine ⟨hT w hx hok, ?_⟩
    cases q1 : n ρ S with
    | none => rw [q1] at hm; cases hm
    | some z1 =>
      rw [q1] at hm
      cases z1 with
      | ex c fs => cases hm; exact r1 σ H g S ρ _ (.ex c fs) w er q1 po
      | ok xs =>
        refine r1 σ H g S ρ _ (.ok xs) w er q1 fun us g1 H1 gr1 ox => ?_
        replace hm : mo (op x xs) = some res := hm
        cases q2 : op x xs with
        | none => rw [q2] at hm; cases hm
        | some z =>
          rw [q2] at hm
          cases hm
          exact hk g1 S H1 x xs z u us Q (gr1.wr w) (gr1.ov hx) ox q2 fun v g' H' gr oz => po v g' H' (gr1.trans gr) oz
  · cases hm
end
/-! l.index(x) -/
def idxD (d : PyData) : List PyData → Option Nat
  | [] => none
  | z :: r => if PyData.eqv z d then some 0 else (idxD d r).map (· + 1)
theorem idxD_ok {d : PyData} : ∀ {ds : List PyData} {j : Nat}, idxD d ds = some j → ∃ z, ds[j]? = some z ∧ PyData.eqv z d = true ∧ ∀ (m : Nat) (z' : PyData), m < j → ds[m]? = some z' → PyData.eqv z' d = false
  | [], j, h => by cases h
  | z :: r, j, h => by
    unfold idxD at h
    split at h
    · rename_i hz
      cases h
      exact ⟨z, rfl, hz, fun m z' hm => absurd hm (Nat.not_lt_zero _)⟩
    · rename_i hz
      cases e : idxD d r with
      | none => rw [e] at h; cases h
      | some i =>
        rw [e] at h
        cases h
        obtain ⟨w, h1, h2, h3⟩ := idxD_ok e
        refine ⟨w, h1, h2, fun m z' hm hz' => ?_⟩
        cases m with
        | zero => cases hz'; exact Bool.eq_false_iff.mpr hz
        | succ m => exact h3 m z' (Nat.lt_of_succ_lt_succ hm) hz'
def mIdxL : PV → List PV → Option PV := fun x xs => match xs with
  | [y] => (match lsOf x with
    | some zs => if isDs zs && isD y && SeqAt.shaped (.list (toDs zs)) && SeqAt.shaped (toD y) then (idxD (toD y) (toDs zs)).map fun j => .int (j : Nat) else none
    | none => none)
  | _ => none
theorem mIdxL_ok {K : PySem.W.Frag} : MtOk K mIdxL (rIndexD K) := by
  intro g S H x xs z u us Q w hx hxs e q
  unfold mIdxL at e
  split at e
  · rename_i y
    obtain ⟨v, rfl, hv⟩ := ovs1 hxs
    split at e
    · rename_i zs e2
      split at e
      · rename_i hc
        simp only [Bool.and_eq_true] at hc
        obtain ⟨⟨⟨c1, c2⟩, c3⟩, c4⟩ := hc
        cases e3 : idxD (toD y) (toDs zs) with
        | none => rw [e3] at e; cases e
        | some j =>
          rw [e3] at e
          have e4 : z = .int (j : Nat) := (Option.some.inj e).symm
          subst e4
          obtain ⟨a, vs, rfl, r, f⟩ := lsOf_ok w hx e2
          obtain ⟨zz, h1, h2, h3⟩ := idxD_ok e3
          exact ⟨a, v, toD y, toDs zs, j, zz, rfl, rfl, .lst (.inl r) (FRs.dp w.f _ _ f c1), hv.dp w.f c2, c3, c4, h1, h2, h3, q _ g H (.refl w) (.frz (.int _))⟩
      · cases e
    · cases e
  · cases e
/-! s.join(l), s.index(t) -/
def strsOf : List PV → Option (List Str)
  | [] => some []
  | .str x :: r => (strsOf r).map (x :: ·)
  | _ => none
theorem strsOf_ok {K : PySem.W.Frag} {g : G} : ∀ {xs : List PV} {vs : List V} {ys : List Str}, FRs K g xs vs → strsOf xs = some ys → vs = ys.map V.str
  | [], _, _, f, e => by cases f; cases e; rfl
  | x :: xs, _, ys, f, e => by
    cases f with
    | cons a b =>
      cases x with
      | str s =>
        cases e2 : strsOf xs with
        | none => simp only [strsOf, e2] at e; cases e
        | some r =>
          simp only [strsOf, e2] at e
          cases e
          cases a
          rw [strsOf_ok b e2]
          rfl
      | _ => cases e
def mJoin : PV → List PV → Option PV := fun x xs => match x, xs with
  | .str a, [y] => (match sqOf y with
    | some zs => (match strsOf zs with
      | some ys => if decide ((ys.map (·.length)).sum + ys.length * a.length ≤ 16777216) then some (.str (Txt.join a ys)) else none
      | none => none)
    | none => none)
  | _, _ => none
theorem mJoin_ok {K : PySem.W.Frag} : MtOk K mJoin (fun x xs H Q => ∃ a p, ∃ ys : List Str, x = .str a ∧ xs = [.ref p] ∧ (SqL K H p (ys.map V.str) ∨ SqT K H p (ys.map V.str)) ∧ (ys.map (·.length)).sum + ys.length * a.length ≤ 16777216 ∧ Q (.str (Txt.join a ys)) H) := by
  intro g S H x xs z u us Q w hx hxs e q
  unfold mJoin at e
  split at e
  · rename_i a y
    obtain ⟨v, rfl, hv⟩ := ovs1 hxs
    split at e
    · rename_i zs e2
      split at e
      · rename_i ys e3
        split at e
        · rename_i hc
          cases e
          cases hx.fr rfl
          obtain ⟨p, vs, rfl, sq, f⟩ := sqOf_ok w hv e2
          have e4 := strsOf_ok f e3
          subst e4
          exact ⟨a, p, ys, rfl, rfl, sq, of_decide_eq_true hc, q _ g H (.refl w) (.frz (.str _))⟩
        · cases e
      · cases e
    · cases e
  · cases e
def mIdxS : PV → List PV → Option PV := fun x xs => match x, xs with
  | .str a, [.str b] => (match Builtin.Str.occurrences a b 0 a.length 1 with
    | i :: _ => some (.int (i : Nat))
    | [] => none)
  | _, _ => none
theorem mIdxS_ok {K : PySem.W.Frag} : MtOk K mIdxS (fun x xs H Q => ∃ a b i rest, x = .str a ∧ xs = [.str b] ∧ Builtin.Str.occurrences a b 0 a.length 1 = i :: rest ∧ Q (.int (i : Nat)) H) := by
  intro g S H x xs z u us Q w hx hxs e q
  unfold mIdxS at e
  split at e
  · rename_i a b
    obtain ⟨v, rfl, hv⟩ := ovs1 hxs
    split at e
    · rename_i i rest e2
      cases e
      cases hx.fr rfl
      cases hv.fr rfl
      exact ⟨a, b, i, rest, rfl, rfl, e2, q _ g H (.refl w) (.frz (.int _))⟩
    · cases e
  · cases e
section
variable {X : Cx} {W : WX} {o e : Expr} {apos cpos : Pos}
theorem e_indexL {m : Ex} {n : Ar} (hu : X.A.units + 65 < cLine) (ho : SimE X W o m) (ha : SimA X W [e] n)
    (hbase : attributeBase o "index" X.env (eval o X.env) = eval o X.env := by rfl)
    (hfew : ((backTo cpos (starEach [e] X.env)).all (fun x => !x.1) && (backToKw cpos (keywordEach [] X.env)).all (fun x => x.1.isSome) && decide ([e].length + ([] : List Keyword).length + (if ([] : List Keyword).isEmpty then 0 else 1) < 30)) = true := by rfl)
    (hline : (apos.endLine == cpos.line) = true := by rfl) (hs : starEach [e] X.env = (false, eval e X.env) :: starEach [] X.env := by rfl) (hplain : (backTo cpos (starEach [] X.env)).any (·.1) = false := by rfl) :
    SimE X W (.Call (.Attribute o "index" apos) [e] [] cpos) (xMt isLs mIdxL m n) := e_bm PySem.F.plainAttrs_list PySem.F.slot_list_index PySem.F.type_list_index (mt_indexD hu) mIdxL_ok isLs_ok ho ha hbase hfew hline hs hplain
theorem e_indexS {m : Ex} {n : Ar} (ho : SimE X W o m) (ha : SimA X W [e] n)
    (hbase : attributeBase o "index" X.env (eval o X.env) = eval o X.env := by rfl)
    (hfew : ((backTo cpos (starEach [e] X.env)).all (fun x => !x.1) && (backToKw cpos (keywordEach [] X.env)).all (fun x => x.1.isSome) && decide ([e].length + ([] : List Keyword).length + (if ([] : List Keyword).isEmpty then 0 else 1) < 30)) = true := by rfl)
    (hline : (apos.endLine == cpos.line) = true := by rfl) (hs : starEach [e] X.env = (false, eval e X.env) :: starEach [] X.env := by rfl) (hplain : (backTo cpos (starEach [] X.env)).any (·.1) = false := by rfl) :
    SimE X W (.Call (.Attribute o "index" apos) [e] [] cpos) (xMt isSt mIdxS m n) := e_bm PySem.F.plainAttrs_str PySem.F.slot_str_index PySem.F.type_str_index mt_sindex mIdxS_ok isSt_ok ho ha hbase hfew hline hs hplain
theorem e_join {m : Ex} {n : Ar} (ho : SimE X W o m) (ha : SimA X W [e] n)
    (hbase : attributeBase o "join" X.env (eval o X.env) = eval o X.env := by rfl)
    (hfew : ((backTo cpos (starEach [e] X.env)).all (fun x => !x.1) && (backToKw cpos (keywordEach [] X.env)).all (fun x => x.1.isSome) && decide ([e].length + ([] : List Keyword).length + (if ([] : List Keyword).isEmpty then 0 else 1) < 30)) = true := by rfl)
    (hline : (apos.endLine == cpos.line) = true := by rfl) (hs : starEach [e] X.env = (false, eval e X.env) :: starEach [] X.env := by rfl) (hplain : (backTo cpos (starEach [] X.env)).any (·.1) = false := by rfl) :
    SimE X W (.Call (.Attribute o "join" apos) [e] [] cpos) (xMt isSt mJoin m n) := e_bm PySem.F.plainAttrs_str PySem.F.slot_str_join PySem.F.type_str_join mt_join mJoin_ok isSt_ok ho ha hbase hfew hline hs hplain
end
end L3

end
section
set_option Elab.async false
set_option linter.all false
set_option maxRecDepth 100000
set_option maxHeartbeats 4000000
namespace L3
open PySem PySem.Spec L2
set_option autoImplicit false
/-! ### o[i] = v -/
def rSetD : V → V → V → Hp → (Hp → Prop) → Prop := fun o i v H Q => ∃ a kvs k, o = .ref a ∧ i = kV k ∧ H a = some (.dK kvs) ∧ kvs.length < sizeLine ∧ Q (upd H a (.dK (putK kvs k v)))
section
variable {X : Cx}
theorem set_dict (hu : X.A.units + 64 < cLine) : PSet X rSetD := by
  intro pins s σ H o i v ov iv u Q I ro ri rv h
  obtain ⟨a, kvs, k, rfl, rfl, hk, hl, q⟩ := h
  obtain rfl : ov = Value.ref a := ro
  exact d_setItem (by omega) I (.k hk hl) ri rv fun s4 I4 => ⟨_, I4, q⟩
theorem PSet.or {t u : TSet} (h : PSet X t) (k : PSet X u) : PSet X (fun o i v H Q => t o i v H Q ∨ u o i v H Q) := by
  intro pins s σ H o i v ov iv w Q I ro ri rv q
  rcases q with q | q
  · exact h pins s σ H o i v ov iv w Q I ro ri rv q
  · exact k pins s σ H o i v ov iv w Q I ro ri rv q
end
/-- a list or dict with one item put -/
def setSO (i y : PV) : SO → Option SO
  | .lst xs => (match i with
    | .int k => (ixN xs.length k).map fun j => .lst (xs.set j y)
    | _ => none)
  | .dct kvs => (match keyOf i with
    | some k => if decide (kvs.length < most) then some (.dct (putKP kvs k y)) else none
    | none => none)
  | _ => none
theorem FRs.set {K : PySem.W.Frag} {g : G} {y : PV} {v : V} (h : FR K g y v) : ∀ {xs : List PV} {vs : List V} (j : Nat), FRs K g xs vs → FRs K g (xs.set j y) (vs.set j v)
  | _, _, _, .nil => .nil
  | _, _, 0, .cons a b => .cons h b
  | _, _, j + 1, .cons a b => .cons a (FRs.set h j b)
theorem FRk.length {K : PySem.W.Frag} {g : G} : ∀ {xs : List (Key × PV)} {vs : List (Key × V)}, FRk K g xs vs → xs.length = vs.length
  | _, _, .nil => rfl
  | _, _, .cons a b => by simp [FRk.length b]
theorem setSO_ok {K : PySem.W.Frag} {g : G} {S : Store} {H : Hp} {n : Nat} {o o' : SO} {i y : PV} {iv v : V} {Q : Hp → Prop} (r : RE K g S H) (hn : n < g.k) (ho : S[n]? = some o) (hi : FR K g i iv) (hy : FR K g y v) (e : setSO i y o = some o')
    (q : ∀ H', RE K g (S.set n o') H' → TE' g H g H' → Q H') : rSetL (.ref (g.mu n)) iv v H Q ∨ rSetD (.ref (g.mu n)) iv v H Q := by
  cases o with
  | ins c fs => cases e
  | lst xs =>
    cases i with
    | int k =>
      cases e2 : ixN xs.length k with
      | none => simp only [setSO, e2] at e; cases e
      | some j =>
        simp only [setSO, e2] at e
        cases e
        cases hi
        obtain ⟨vs, h1, h2⟩ := r.s n _ ho
        obtain ⟨r2, t2⟩ := r.store (n := n) (o' := .lst (xs.set j y)) (ho := .lst (vs.set j v)) hn ⟨_, upd_same, h2.set hy j⟩
        exact .inl ⟨_, vs, k, j, rfl, rfl, h1, by rw [← h2.length]; exact e2, q _ r2 t2⟩
    | _ => cases e
  | dct kvs =>
    cases ek : keyOf i with
    | none => simp only [setSO, ek] at e; cases e
    | some k =>
      simp only [setSO, ek] at e
      split at e
      · rename_i hl
        cases e
        have hk := keyOf_ok (H := H) (.frz hi) ek
        obtain ⟨vs, h1, h2⟩ := r.s n _ ho
        obtain ⟨r2, t2⟩ := r.store (n := n) (o' := .dct (putKP kvs k y)) (ho := .dK (putK vs k v)) hn ⟨_, upd_same, h2.put hy⟩
        exact .inr ⟨_, vs, k, rfl, hk, h1, by rw [← h2.length]; exact Nat.lt_of_lt_of_le (of_decide_eq_true hl) most_le, q _ r2 t2⟩
      · cases e
/-- o[i] = v, o an object of the store -/
def sSetI (mo' mi : Ex) (mv : Xm) : Sm := xThen mv fun y ρ S => if fz y then (match mo' ρ S with
  | some (.ok (.ref n)) => (match mi ρ S with
    | some (.ok i) => if fz i then (match S[n]? with
      | some o => (setSO i y o).map fun o' => (.nx ρ, S.set n o')
      | none => none) else none
    | _ => none)
  | _ => none) else none
section
variable {X : Cx} {W : WX} {o i e : Expr} {pos pos' : Pos}
theorem s_setI {m n : Ex} {mv : Xm} (hu : X.A.units + 64 < cLine) (ho : SimE X W o m) (hi : SimE X W i n) (hv : SimX X (Em X.K) W e mv)
    (hs : swapsWithSole [.Subscript o i pos'] e pos.line X.env = pure false := by rfl) (hw : swappedStores [.Subscript o i pos'] e X.env = pure none := by rfl)
    (h1 : (assignEach [.Subscript o i pos'] X.env).map (·.2) = [assign (.Subscript o i pos') X.env] := by rfl)
    (ha : ∀ v, assign (.Subscript o i pos') X.env v = (do
      let ov ← holding [v] (eval o X.env)
      let iv ← holding [v, ov] (eval i X.env)
      standAt pos'
      holding [v, ov, iv] (setItem ov iv v)
      release [v, ov, iv] []) := by intro _; rfl) : SimS X (Em X.K) W (.Assign [.Subscript o i pos'] e pos) (sSetI m n mv) := by
  obtain ⟨t, p, r⟩ := ho.ex
  obtain ⟨ti, pi, ri⟩ := hi.ex
  obtain ⟨tv, pv, rv⟩ := hv.ex
  refine ⟨_, ps_asg pv (pg_sub p pi (PSet.or set_list (set_dict hu)) ha) hs hw h1, RchX.thn (tk := fun y D σ H1 => t σ H1 fun x H2 => ti σ H2 fun k H3 => (rSetL x k y H3 fun H4 => D.nx σ H4) ∨ (rSetD x k y H3 fun H4 => D.nx σ H4)) rv fun y v σ H g S ρ gb g0 H0 S0 D res r0 rr tt er ov hm po => ?_⟩
  split at hm
  · rename_i hf
    have fy := ov.fr hf
    split at hm
    · rename_i k q
      split at hm
      · rename_i iv q2
        split at hm
        · rename_i hfi
          split at hm
          · rename_i ob q3
            cases q4 : setSO iv y ob with
            | none => rw [q4] at hm; cases hm
            | some o' =>
              rw [q4] at hm
              have e2 : res = (.nx ρ, S.set k o') := (Option.some.inj hm).symm
              subst e2
              refine r σ H g S ρ _ (.ok (.ref k)) ((Em X.K).wr rr) er.f.r q fun x g1 H1 gr1 ov1 => ?_
              refine ri σ H1 g1 S ρ _ (.ok iv) (gr1.wr ((Em X.K).wr rr)) (er.f.r.mono gr1) q2 fun z g2 H2 gr2 ov2 => ?_
              obtain ⟨r1, t1⟩ := (Em X.K).grow rr (gr1.trans gr2)
              cases (gr2.ov ov1).fr rfl with
              | ref hn =>
                exact setSO_ok r1 hn q3 (ov2.fr hfi) (FR.mono (gr1.trans gr2).le _ _ fy) q4 fun H' r2 t2 => po σ g2 H' r2 ((tt.step t1).step (S' := S.set k o') t2) ((er.step t1).step (S' := S.set k o') (md := Em X.K) (S := S) t2)
          · cases hm
        · cases hm
      · cases hm
    · cases hm
  · cases hm
end
end L3

end
section
set_option Elab.async false
set_option linter.all false
set_option maxRecDepth 100000
set_option maxHeartbeats 4000000
namespace L3
open PySem PySem.Spec L2 NdefX
set_option autoImplicit false
/-! ### an own exception's __init__ that says super().__init__(text) first -/
section
variable {P : Program} {w : World} {K : PySem.W.Frag} {mg : Str → Option Value} {base : Heap}
/-- the bound wrapper called -/
theorem mw_call {X : Cx} {pins : List (Addr × Obj)} {σ : L2.St} {H : Hp} {s : Shared} {A : Around} {E : Value → Shared → Prop} {a C u : Addr} {us : List Value} {Q : Value → Shared → Prop} (T : OexC X.K C) (I : Inv X pins σ H s) (e : H a = some (exo a C none)) (hu : s.heap.get? u = some (PySem.W.kxs_mw "ValueError.__init__" a))
    (hl : us.length ≤ sizeLine) (h : ∀ s', Inv X pins σ H s' → Q .none s') : wpAny (model X.prog X.w) A (call (.ref u) us) Q E s := by
  obtain ⟨nm, q, N, bs, bm, sn, sub, ab, col, dd, k0, k1, k2, k3, k5, hC, hbm⟩ := T.cls
  obtain ⟨t1, ho⟩ := exo_at I.hok e
  obtain ⟨hp, g, d, t, os⟩ := s
  have hC' := I.kIn _ _ hC
  have FB := F.excBase_ValueError
  have wt : (Value.type "method-wrapper" == Value.type "method" || Value.type "method-wrapper" == Value.type "builtin_function_or_method" || Value.type "method-wrapper" == Value.type "method-wrapper") = true := by decide
  refine wpAny_call (codeAny_of_tree ?_)
  show wpAny (model X.prog X.w) A.in1 (callAny (.ref u) ⟨us, []⟩) _ _ _
  unfold callAny
  refine wpAny_bind (wpAny_load hu ?_)
  simp only [PySem.W.kxs_mw, wt, if_true]
  refine PySem.W.KFB.if_so (by decide) ?_
  refine wpAny_bind (PySem.W.check_bound_init FB.toExcCallFacts hC' ho rfl (wpAny_bind (wpAny_pure (wpAny_pure ?_))))
  refine ⟨plainId_quiet FB.init.plain _, codeAny_builtin FB.initEntry ?_⟩
  refine PySem.W.exc_init_tree (cls := .ref C) (t0 := t1) (dv := none) (c2 := .none) (c3 := .none) (b4 := .bool false) ho hl fun h' k hx _ => ?_
  have J := I.write (t' := t) (x := a) (e := a) (o := exo a C none) (by rw [e]; trivial) (.inl rfl) k ⟨_, hx⟩ (exo_ok hx)
  have eu : L2.upd H a (exo a C none) = H := by
    funext b
    by_cases hb : b = a
    · rw [hb, upd_same, e]
    · rw [upd_ne hb]
  rw [eu] at J
  exact h _ J
end
/-- what the written part says of the class at C, whose __init__ stands at f -/
structure SuK (K : PySem.W.Frag) (P : Program) (C f cc cda : Addr) : Prop where
  T : OexC K C
  cd : ∃ cd, PySem.W.clsIn K C = some cd
  sub : PySem.W.mroIn K C (.ref C) = some true
  sup : PySem.W.ks_superIn K C C "__init__" = some (some (.builtin "ValueError.__init__"))
  ve : PySem.W.subIn K (.ref C) (.type "ValueError") = some true
  op : PySem.W.nsIn K cStatics "thirdparty.any" = some none
  nos : PySem.W.nsIn K mainGlobals "super" = some none
  code : ∃ ccl cdd vs ccs file tf, K.lookup cda = some ⟨ccl, cdd, .fields vs, ccs⟩ ∧ vs[2]? = some (.str file tf) ∧ ((P.main.file : Str) == file) = true
  cell : ∃ cl cld csl, K.lookup cc = some ⟨cl, cld, .cell (some (.ref C)), csl⟩
  fn : ∃ oc od fd osl ar, K.lookup f = some ⟨oc, od, .func fd, osl⟩ ∧ (fd.params.posonlyargs ++ fd.params.args).head? = some ar ∧ ar.arg = "self"
  top : (P.main.scope.names.lookup ("super" : Str)).isSome = false
section
variable {X : Cx} {pins : List (Addr × Obj)} {σ : L2.St} {H : Hp} {s : Shared} {a C f cc cda : Addr}
theorem super_stmt {body : List Stmt} {p0 p1 p2 p3 p4 p5 : Pos} {m : Str} {j : Nat} {Q : Flow → Shared → Prop} {pl : Sem Bool} (S : SuK X.K X.prog C f cc cda) (hfu : X.env.func = some f) (hco : X.env.code = .ref cda) (hce : X.env.cells.lookup ("__class__" : Str) = some cc)
    (hks : X.env.kindOf "super" = some .globalImplicit) (hkc : X.env.kindOf "__class__" = some .free) (hN : X.N[0]? = some ("self" : Str)) (hsl : X.env.kindOf "self" = some .local) (I : Inv X pins σ H s) (hσ : σ[0]? = some (some (.ref a))) (e : H a = some (exo a C none))
    (h : ∀ s', Inv X pins σ H s' → Q .next s')
    (hev : eval (.Call (.Attribute (.Call (.Name "super" p0) [] [] p1) "__init__" p2) [.Constant (.str m) j p3] [] p4) X.env = (do
      let ov ← attributeBase (.Call (.Name "super" p0) [] [] p1) "__init__" X.env (eval (.Call (.Name "super" p0) [] [] p1) X.env)
      standAt p2.atName
      let (f, first) ← holding [ov] (getMethod ov "__init__" pl)
      callWith p4 f first (backTo p4 (starEach [.Constant (.str m) j p3] X.env)) []) := by rfl)
    (hst : starEach [.Constant (.str m) j p3] X.env = [(false, eval (.Constant (.str m) j p3) X.env)] := by rfl)
    (hi : interactive X.env = false := by rfl) (hs : swapsWith (.Call (.Attribute (.Call (.Name "super" p0) [] [] p1) "__init__" p2) [.Constant (.str m) j p3] [] p4) none p5.line X.env = pure false := by rfl) :
    _root_.PySem.wpAt (model X.prog X.w) X.A (.func body X.env) (exec (.Expr (.Call (.Attribute (.Call (.Name "super" p0) [] [] p1) "__init__" p2) [.Constant (.str m) j p3] [] p4) p5) X.env) Q X.xe s := by
  refine PySem.ks_wpAt_Expr_any ?_ hi hs
  refine PySem.ks_wpAt_MethodCall ?_ hev
  obtain ⟨oc, od, fd, osl, ar, hf, har, hself⟩ := S.fn
  obtain ⟨ccl, cdd, vs, ccs, file, tf, hcode, hvs, hfile⟩ := S.code
  obtain ⟨cl, cld, csl, hcell⟩ := S.cell
  obtain ⟨cd, hcd⟩ := S.cd
  obtain ⟨mb, hb1, hb2⟩ := I.mod.blt
  obtain ⟨ml, hns, hloc⟩ := I.loc
  obtain ⟨us, ru, hlk⟩ := hloc 0 _ _ hN hσ (.inl hsl)
  obtain rfl : us = Value.ref a := ru
  have hm : ml "self" = some (.ref a) := by
    rcases hlk with ⟨_, z⟩ | ⟨z, _⟩
    · exact z
    · rw [hsl] at z; rcases z with z | z <;> cases z
  obtain ⟨t1, ho⟩ := exo_at I.hok e
  have XI := I.kIn
  have IA : PySem.W.InstAt s.heap a _ C none := ⟨ho, rfl, rfl, trivial⟩
  obtain ⟨oD, hD1, hD2⟩ : ∃ oD, s.heap.get? C = some oD ∧ oD.data = .cls cd := by
    have hcd' := hcd
    unfold PySem.W.clsIn at hcd'
    split at hcd'
    · rename_i q; cases hcd'; exact ⟨_, XI _ _ q, rfl⟩
    · cases hcd'
  have hxC : a ≠ C := PySem.W.ks_ne XI IA hcd
  refine PySem.ks_wpAt_super_base (f := f) (cc := cda) hks hkc (by decide) hfu (XI _ _ hf) rfl har hco (XI _ _ hcode) rfl hvs hfile S.top ?_
  refine PySem.W.ks_loadName_global I.ok.kind hks (Calls.loadGlobal_builtin (by rw [I.ok.glob]; exact I.mod.glob.keeps I.bk) (PySem.W.mg_none_of I.mod.kin I.mod.glob S.nos) (by rw [I.ok.blt]; exact hb1.keeps I.bk) ((hb2 _ (by decide)).trans (by decide +kernel)) ⟨rfl, ?_⟩)
  refine wpAny_loadName_free I.ok.kind hkc hce ⟨_, XI _ _ hcell, rfl⟩ ?_
  rw [hself]
  refine wpAny_loadName_local I.ok.kind hsl hns hm ?_
  obtain ⟨hp, g, d, t, os⟩ := s
  refine PySem.ks_wpAny_isType_cls hD1 hD2 ⟨rfl, ?_⟩
  refine PySem.ks_wpAny_call_super hD1 hD2 ho rfl (fun c z => by cases z) (PySem.W.looks_mroIn XI S.sub) fun h' e' k' => ?_
  have I1 : Inv X pins σ H ⟨h', g, d, t, os⟩ := I.kept (h' := h') (t' := t) k'
  have ho1 := k' _ _ ho
  have IA1 : PySem.W.InstAt h' a _ C none := ⟨ho1, rfl, rfl, trivial⟩
  have hI : PySem.W.Looks (model X.prog X.w) h' (isInstance (.ref a) (.type "ValueError")) true := IA1.type.andThen (PySem.W.looks_subIn I1.kIn S.ve)
  have hm2 := S.sup
  unfold PySem.W.ks_superIn at hm2
  rw [hcd] at hm2
  refine PySem.W.kxs_getMethod PySem.W.kxs_ValueError (l₀ := cd.mro) e' (PySem.W.looks_opaque I1.kIn S.op) (fun A Q E s k q => wpAny_bind ((PySem.W.looks_clsIn I1.kIn hcd) A _ E s k (wpAny_pure q))) rfl I1.kIn hm2 hI hxC (by decide) ?_
  have kp : ∀ b o, h'.get? b = some o → (h'.push (PySem.W.kxs_mw "ValueError.__init__" a)).get? b = some o := fun b o z => Heap.get?_push_of_some _ z
  have I2 : Inv X pins σ H ⟨h'.push (PySem.W.kxs_mw "ValueError.__init__" a), g, d, t + 1, os⟩ := I1.kept (t' := t + 1) kp
  have hu : (h'.push (PySem.W.kxs_mw "ValueError.__init__" a)).get? h'.objs.size = some (PySem.W.kxs_mw "ValueError.__init__" a) := Heap.get?_push_at rfl rfl
  have I3 : Inv X (pins ++ [(h'.objs.size, PySem.W.kxs_mw "ValueError.__init__" a)]) σ H ⟨h'.push (PySem.W.kxs_mw "ValueError.__init__" a), g, d, t + 1, os⟩ := by
    refine I2.pins_of fun p hp => ?_
    rcases List.mem_append.mp hp with hp | hp
    · exact I2.pin p (List.mem_append_right _ hp)
    · rw [List.mem_singleton] at hp
      subst hp
      refine ⟨hu, I1.hok.fresh (Nat.le_refl _), fun z => ?_, I1.nofs (Nat.le_refl _), fun v z => by cases z⟩
      have := I1.lt
      exact absurd this (by rw [← z]; exact Nat.lt_irrefl _)
  have key := (pa_cons (X := X) (te := tC (.str m)) pe_str pa_nil (by rw [hst]; rfl)).run p4 _ _ σ H (fun ws H2 => ws.length = 1 ∧ H2 = H) I3 ⟨rfl, rfl⟩
  rw [hst] at key
  rw [hst]
  refine PySem.W.kxs_callWith (i := "ValueError.__init__") (x := a) rfl (Calls.evalArgs_plain ?_)
  refine thn key fun us s1 ⟨vs', H1, J1, rv, hl, eH⟩ => ?_
  subst eH
  have hu1 : s1.heap.get? h'.objs.size = some (PySem.W.kxs_mw "ValueError.__init__" a) := (J1.pin _ (List.mem_append_right _ (List.mem_append_right _ (List.mem_singleton.mpr rfl)))).1
  refine ⟨hu1, ?_⟩
  have hlen : us.length ≤ sizeLine := by
    rw [← Paired.length rv, hl, sizeLine_eq]; decide
  exact mw_call S.T J1 e hu1 hlen fun s' J => h s' J.unpinned
end
abbrev supStmt (m : Str) (j : Nat) (p0 p1 p2 p3 p4 p5 : Pos) : Stmt := .Expr (.Call (.Attribute (.Call (.Name "super" p0) [] [] p1) "__init__" p2) [.Constant (.str m) j p3] [] p4) p5
section
variable {P : Program} {w : World} {K : PySem.W.Frag} {mg : Str → Option Value} {base : Heap} {CX : CXT} {k : Nat} {f C cc cda : Addr} {name qual : Str} {params : Arguments} {rest : List Stmt} {scope : Scope} {dV kV doc pm ct oc : Value} {an od : Option Addr} {osl : Array (Option Value)} {N ps : List Str} {sp : Sp}
  {m : Str} {j : Nat} {p0 p1 p2 p3 p4 p5 : Pos}
theorem fn_super (S : SuK K P C f cc cda) (lk : K.lookup f = some ⟨oc, od, .func (PySem.W.fnX name qual params (supStmt m j p0 p1 p2 p3 p4 p5 :: rest) scope [("__class__", cc)] dV kV doc pm an (.ref cda) ct), osl⟩) (hcd : PySem.W.codeIn K (.ref cda) qual = true) (Sc : NScope N ps ["__class__"] scope)
    (hN : N[0]? = some ("self" : Str)) (hks : scope.names.lookup ("super" : Str) = some .globalImplicit) (hsl : scope.names.lookup ("self" : Str) = some .local) (hev : ∀ env : PySem.Env, ∃ pl : Sem Bool, eval (.Call (.Attribute (.Call (.Name "super" p0) [] [] p1) "__init__" p2) [.Constant (.str m) j p3] [] p4) env = (do
      let ov ← attributeBase (.Call (.Name "super" p0) [] [] p1) "__init__" env (eval (.Call (.Name "super" p0) [] [] p1) env)
      standAt p2.atName
      let (f, first) ← holding [ov] (getMethod ov "__init__" pl)
      callWith p4 f first (backTo p4 (starEach [.Constant (.str m) j p3] env)) []))
    (hs : ∀ env : PySem.Env, swapsWith (.Call (.Attribute (.Call (.Name "super" p0) [] [] p1) "__init__" p2) [.Constant (.str m) j p3] [] p4) none p5.line env = pure false)
    (len : ∀ vs H Q E, sp vs H Q E → vs.length = ps.length) (hps : ps.length ≠ 0)
    (hbody : ∀ (A : Around) (outer : List PySem.Env) (s : Shared) (H : Hp) (vs : List V) (Q : VK) (E : XK), Room k (A.deeper (envF ⟨name, qual, params, supStmt m j p0 p1 p2 p3 p4 p5 :: rest, scope, [("__class__", cc)], cda⟩ f s.heap.objs.size)) → sp vs H Q E →
      ∃ a, vs[0]? = some (.ref a) ∧ H a = some (exo a C none) ∧ ∃ t, PSs (ncx CX P w K mg base N ⟨name, qual, params, supStmt m j p0 p1 p2 p3 p4 p5 :: rest, scope, [("__class__", cc)], cda⟩ f A outer s H E) rest t ∧ t { nx := fun _ H' => Q .non H', rt := Q } (startF N vs [none]) H) :
    FnOk P w K mg base CX (k + 1) f (PySem.W.fnX name qual params (supStmt m j p0 p1 p2 p3 p4 p5 :: rest) scope [("__class__", cc)] dV kV doc pm an (.ref cda) ct) ps sp := by
  refine ⟨len, fun A outer s H args us vs Q E hr e0 hb r hsp => ?_⟩
  have hl := len _ _ _ _ hsp
  have st : ∀ b o, base.get? b = some o → s.heap.get? b = some o := fun b o e => (e0.bs b o e).1
  have KX : K.In s.heap := e0.mod.kin.keeps st
  have lim : s.heap.NoLimit := e0.mod.nolimit.keeps st
  refine codeAny_call_function hr.depth (KX _ _ lk) rfl Sc.co Sc.gen rfl (PySem.W.codeRec_of KX hcd) (hb _ _ _ _ ?_)
  refine wpAny_newFunctionEnv Sc.nocell (fun ⟨n, _⟩ hy => Sc.par n (List.of_mem_zip hy).1) (fun h₁ hns hsb => ⟨lim.fresh _ hsb, ?_⟩) Sc.kind
  let F : NF := ⟨name, qual, params, supStmt m j p0 p1 p2 p3 p4 p5 :: rest, scope, [("__class__", cc)], cda⟩
  show codeAny _ _ (.func F.body (envF F f s.heap.objs.size)) _ _
  refine PySem.ks_codeAny_funcAt ?_
  have kp : ∀ b o, s.heap.get? b = some o → h₁.get? b = some o := fun b o e => hsb.extBut b o (Nat.ne_of_lt (Heap.lt_size e)) (Heap.get?_push_of_some _ e)
  obtain ⟨a, ha, ea, t, ht, hq⟩ := hbody A outer s H vs Q E (hr.deeper _) hsp
  obtain ⟨cl, cld, csl, hcell⟩ := S.cell
  have hccb := e0.mod.kin _ _ hcell
  have CA : CellsAt [(("__class__" : Str), cc)] ["__class__"] [none] s.heap H := by
    refine ⟨rfl, fun y c hy => ?_, fun x y c h1 h2 => ?_, fun i y hy => ?_⟩
    · have e := PySem.mem_of_lookup hy
      rw [List.mem_singleton] at e
      cases e
      exact ⟨(e0.bs _ _ hccb).2, _, _, (e0.bs _ _ hccb).1, rfl⟩
    · have e1 := PySem.mem_of_lookup h1
      have e2 := PySem.mem_of_lookup h2
      rw [List.mem_singleton] at e1 e2
      cases e1; cases e2; rfl
    · cases i with
      | zero =>
        cases hy
        refine ⟨cc, rfl, fun v hv => by cases hv⟩
      | succ i => cases hy
  have I : Inv (ncx CX P w K mg base N F f A outer s H E) [] (startF N vs [none]) H { s with heap := h₁, toks := s.toks + (ps.zip us).length } := inv_startN Sc hr.hd e0 hl r CA hns kp
  have hσ : (startF N vs [none])[0]? = some (some (.ref a)) := by
    unfold startF
    rw [List.getElem?_append_left (by rw [List.length_map]; omega), List.getElem?_map, ha]
    rfl
  obtain ⟨pl, hev⟩ := hev (envF F f s.heap.objs.size)
  refine PySem.ks_wpAt_execs_cons (super_stmt (X := ncx CX P w K mg base N F f A outer s H E) S rfl rfl rfl hks (Sc.frk _ (List.mem_singleton.mpr rfl)) hN hsl I hσ ea (fun s' J => ?_) hev rfl I.quiet (hs _))
  refine wpAt_of_wpAny (wpAny_mono (ht.run [] s' (startF N vs [none]) H _ J hq) (fun fl s' hs => ?_) fun e s' hs => hs)
  have fin : ∀ {σ' : L2.St} {H' : Hp} {v : V} {u : Value}, Inv (ncx CX P w K mg base N F f A outer s H E) [] σ' H' s' → L2.RelV v u → Q v H' → CE outer P w H s Q u s' :=
    fun {σ' H' v u} J rv q => ⟨v, H', J.os, J.bare, J.base, J.hok, rv, q⟩
  cases fl with
  | ret u =>
    obtain ⟨v, σ', H', J, rv, q⟩ := hs
    exact fin J rv q
  | next =>
    obtain ⟨σ', H', J, q⟩ := hs
    exact fin (v := V.non) (u := Value.none) J rfl q
  | brk =>
    obtain ⟨_, _, _, q⟩ := hs
    exact False.elim q
  | cont =>
    obtain ⟨_, _, _, q⟩ := hs
    exact False.elim q
end
end L3

end
section
set_option Elab.async false
set_option linter.all false
set_option maxRecDepth 100000
set_option maxHeartbeats 4000000
namespace L3
open PySem PySem.Spec L2 NdefX
set_option autoImplicit false
/-! ### raise C(e), C's __init__ storing one field -/
def spI (C : Addr) (fld : Str) (r : V → Hp → VK → Prop) : Sp := fun vs H Q _ => ∃ a y, vs = [.ref a, y] ∧ H a = some (exo a C none) ∧ r y H (fun z H1 => H1 a = some (exo a C none) ∧ ∀ dx, H1 dx = none → dx ≠ a → Q .non (upd (upd H1 dx (exd dx [(fld, z)])) a (exo a C (some dx))))
structure SxK (X : Cx) (j : Nat) (c fld : Str) (op : PV → Option PV) : Prop where
  ex : ∃ (k : Nat) (fI : Addr) (fd : FuncData) (ps : List Str) (r : V → Hp → VK → Prop), k + 1 ≤ j ∧ OexC X.K (He.ga X.K c) ∧ PySem.W.findIn X.K (.ref (He.ga X.K c)) "__init__" = some (some (.ref fI)) ∧ PySem.W.typeIn X.K (.ref fI) = some (.type "function") ∧
    FnOk X.prog X.w X.K X.mg X.base (L2.CX X.prog X.w) k fI fd ps (spI (He.ga X.K c) fld r) ∧ Binds X.K fd ps [] ∧ X.mg c = some (.ref (He.ga X.K c)) ∧ UnOk X.K op r
def sRaiseI (c fld : Str) (op : PV → Option PV) (m : Ar) : Sm := fun ρ S => match m ρ S with
  | some (.ok [x]) => (match op x with
    | some z => if fz z then some (.xx c [(fld, z)] ρ, S) else none
    | none => none)
  | some (.ex c' fs) => some (.xx c' fs ρ, S)
  | _ => none
theorem grow_unlay {g g' : G} {H H' : Hp} {a : Addr} {o : HO} {K : PySem.W.Frag} {S : Store} (w : WR K g S H) (ha : H a = none) (gr : Grow g (upd H a o) g' H') : Grow g H g' (del H' a) := by
  have fa : g.F a = none := by
    cases e : g.F a with
    | none => rfl
    | some u => rcases w.f a u (.inl e) with q | ⟨_, q⟩ <;> rw [ha] at q <;> cases q
  have fa' : g'.F a = none := gr.none (o := o) (by rw [upd_same]) fa
  refine ⟨gr.le, gr.mu, gr.k, gr.m, fun b u e => ?_, fun b u e => ?_, fun b e => ?_⟩
  · have hb : b ≠ a := ne_of_none e ha
    rw [del_ne hb]
    exact gr.h b u (by rw [upd_ne hb]; exact e)
  · have hb : b ≠ a := fun z => by
      subst z
      rcases e with e | ⟨_, e⟩ <;> rw [fa'] at e <;> cases e
    rcases gr.f b u e with q | ⟨ob, q⟩
    · exact .inl (by rw [del_ne hb]; exact q)
    · exact .inr ⟨ob, by rw [del_ne hb]; exact q⟩
  · rcases gr.n b e with q | q
    · exact .inl q
    · right
      by_cases hb : b = a
      · rw [hb]; exact ha
      · rw [upd_ne hb] at q; exact q
section
variable {X : Cx} {md : Md X.K} {W : WX} {pos p p3 : Pos} {e : Expr}
theorem s_raiseI {cn fld : Str} {op : PV → Option PV} {m : Ar} {j : Nat} (hc : X.calm = true) (tk : Takes X W) (E : SxK X j cn fld op) (hr : Room j X.A) (hg : Gl X cn) (ha : SimA X W [e] m) (hdb : (cn == ("__debug__" : Str)) = false := by decide)
    (he : starEach [e] X.env = (false, eval e X.env) :: starEach [] X.env := by rfl) (hpl : (backTo p3 (starEach [] X.env)).any (·.1) = false := by rfl) : SimS X md W (.Raise (some (.Call (.Name cn p) [e] [] p3)) none pos) (sRaiseI cn fld op m) := by
  obtain ⟨k, fI, fd, ps, r, hk, T, iC, tI, F1, hb, hm, uo⟩ := E.ex
  obtain ⟨ta, pa, ra⟩ := ha.ex
  have hx : Passes (L2.CX X.prog X.w) X (fun _ _ _ => False) := fun pins σ H s e s' I c => tk e s' (XE.of_call I (fun _ _ _ h => h.elim) c)
  refine ⟨_, ps_raise hc tk (pmk_oex (dvs := []) T iC tI F1 (hr.mono hk) hb .nil hx hg hm pa hdb he hpl), fun σ H g S ρ gb g0 H0 S0 D res r0 rr tt er hm po => ?_⟩
  unfold sRaiseI at hm
  split at hm
  · rename_i x q
    refine ra σ H g S ρ _ (.ok [x]) (md.wr rr) er.f.r q fun vs g1 H1 gr1 ox => ?_
    obtain ⟨y, rfl, oy⟩ := ovs1 ox
    split at hm
    · rename_i z ez
      split at hm
      · rename_i hfz
        cases hm
        refine ⟨by simp, fun a ha => ⟨a, y, rfl, by rw [upd_same], ?_⟩⟩
        have w1 := gr1.wr (md.wr rr)
        have gl : Grow g1 H1 g1 (upd H1 a (exo a (He.ga X.K cn) none)) := Grow.loose w1 ha
        refine uo g1 S _ x z y _ (gl.wr w1) (gl.ov oy) ez fun v g2 H2 gr2 ov2 => ?_
        have hae : H2 a = some (exo a (He.ga X.K cn) none) := gr2.h a _ (by rw [upd_same])
        refine ⟨hae, fun dx hdx hne => ⟨rfl, dx, [(fld, v)], by rw [upd_same], by rw [upd_ne hne, upd_same], ?_, ?_⟩⟩
        · have hz : (upd H1 a (exo a (He.ga X.K cn) none)) dx = none := gr2.h.free hdx
          rw [upd_ne hne] at hz
          exact hz
        · have gu := grow_unlay w1 ha gr2
          have w2 := gu.wr w1
          have hdx2 : (del H2 a) dx = none := by rw [del_ne hne]; exact hdx
          have g3 : Grow g2 (del H2 a) { g2 with F := upd g2.F dx (.xd [(fld, v)]) } (upd (del H2 a) dx (.xd [(fld, v)])) := Grow.laid w2 hdx2
          have eH : upd (del (upd (upd H2 dx (exd dx [(fld, v)])) a (exo a (He.ga X.K cn) (some dx))) a) dx (.xd [(fld, v)]) = upd (del H2 a) dx (.xd [(fld, v)]) := by
            funext b
            by_cases h1 : b = dx
            · subst h1; rw [upd_same, upd_same]
            · rw [upd_ne h1, upd_ne h1]
              by_cases h2 : b = a
              · subst h2; rw [del_same, del_same]
              · rw [del_ne h2, del_ne h2, upd_ne h2, upd_ne h1]
          rw [eH]
          obtain ⟨r3, t3⟩ := md.grow rr ((gr1.trans gu).trans g3)
          exact po _ _ σ _ _ r3 (tt.step t3) (er.step t3) ⟨rfl, .inr ⟨dx, [(fld, v)], rfl, .inl upd_same, .cons (FR.mono g3.le _ _ (ov2.fr hfz)) .nil⟩⟩
      · cases hm
    · cases hm
  · rename_i c' fs q
    cases hm
    refine ra σ H g S ρ _ (.ex c' fs) (md.wr rr) er.f.r q fun cls d g1 H1 gr1 xr => ?_
    obtain ⟨r3, t3⟩ := md.grow rr gr1
    exact po _ _ σ g1 _ r3 (tt.step t3) (er.step t3) xr
  · cases hm
end
end L3

end
section
set_option Elab.async false
set_option linter.all false
set_option maxRecDepth 100000
set_option maxHeartbeats 4000000
namespace L3
open PySem PySem.Spec L2 NdefX
set_option autoImplicit false
/-! ### such classes, observed -/
def oexB (K : PySem.W.Frag) (C : Addr) : Bool := (match K.lookup C with
  | some ⟨.type c, _, .cls cd, sl⟩ => decide (c = "type") && (match cd.mro, sl.toList with
    | .ref C' :: bm, [_, _, _, _, some (.builtin n), _] => decide (C' = C) && (decide (n = "ValueError.__new__") && (!cd.hasDel && (PySem.HandSPX.refsVE bm && cd.hasDict)))
    | _, _ => false)
  | _ => false) && (He.eqO (PySem.W.findIn K (.ref C) "__setattr__") (some (some (.builtin "object.__setattr__"))) && (decide (PySem.W.subIn K (.ref C) (.type "BaseException") = some true) && (decide (PySem.W.typeIn K (.ref C) = some (.type "type")) && PySem.W.keepIn K (.ref C))))
theorem oexB_ok {K : PySem.W.Frag} {C : Addr} (h : oexB K C = true) : OexC K C := by
  unfold oexB at h
  obtain ⟨h1, h2⟩ := He.ba h
  obtain ⟨h3, h4⟩ := He.ba h2
  obtain ⟨h5, h6⟩ := He.ba h4
  obtain ⟨h7, h8⟩ := He.ba h6
  refine ⟨?_, He.eqO_ok h3, of_decide_eq_true h5, of_decide_eq_true h7, h8⟩
  split at h1
  · rename_i c dd cd sl ho
    obtain ⟨a1, a2⟩ := He.ba h1
    have a1 := of_decide_eq_true a1
    subst a1
    split at a2
    · rename_i C' bm k0 k1 k2 k3 n k5 hm hs
      obtain ⟨b1, b2⟩ := He.ba a2
      obtain ⟨b3, b4⟩ := He.ba b2
      obtain ⟨b5, b6⟩ := He.ba b4
      obtain ⟨b7, b8⟩ := He.ba b6
      have b1 := of_decide_eq_true b1
      have b3 := of_decide_eq_true b3
      subst b1 b3
      obtain ⟨nm, bs, mro, ns, qn, hd, sn, sub, ab, col, del⟩ := cd
      dsimp only at hm b5 b8
      have b5 : del = false := by simpa using b5
      subst hm b5 b8
      have hsl : sl = #[k0, k1, k2, k3, some (.builtin "ValueError.__new__"), k5] := by
        obtain ⟨l⟩ := sl
        simp only at hs
        rw [hs]
      subst hsl
      exact ⟨nm, qn, ns, bs, bm, sn, sub, ab, col, dd, k0, k1, k2, k3, k5, ho, b7⟩
    · cases a2
  · cases h1
/-- a class, its __init__ -/
structure SuD where
  cls : Str
  qual : Str
  st : Stmt
abbrev SuW : Type := Option (Str × Str × Arguments × FuncBody × Scope × Addr × List Str × Addr)
def SuD.at_ (K : PySem.W.Frag) (d : SuD) : Addr := He.ma K (He.ga K d.cls) "__init__"
def suW (K : PySem.W.Frag) (d : SuD) : SuW := match K.lookup (d.at_ K) with
  | some ⟨_, _, .func fd, _⟩ => some (fd.name, fd.qualname, fd.params, fd.body, fd.scope, fd.globals, fd.closure.map (·.1), fd.builtins)
  | _ => none
def SuD.val (d : SuD) : SuW := some ("__init__", d.qual, defArgs d.st, .stmts (defBody d.st), defScope d.st, mainGlobals, ["__class__"], builtinsNs)
def sFile : Str := "/claim/cut.py"
def suF (K : PySem.W.Frag) (C : Addr) (q : Str) (fd : FuncData) : Bool := (match fd.code with
  | .ref cda => PySem.W.codeIn K (.ref cda) q && (match K.lookup cda with
    | some ⟨_, _, .fields vs, _⟩ => (match (vs[2]? : Option Value) with
      | some (.str file _) => decide (file = sFile)
      | _ => false)
    | _ => false)
  | _ => false) && (match fd.closure with
  | [(_, cc)] => (match K.lookup cc with
    | some ⟨_, _, .cell (some (.ref D)), _⟩ => decide (D = C)
    | _ => false)
  | _ => false) && (match fd.defaults with
  | .none => true
  | _ => false)
def suB (K : PySem.W.Frag) (d : SuD) : Bool := (match K.lookup (d.at_ K) with
  | some ⟨_, _, .func fd, _⟩ => suF K (He.ga K d.cls) d.qual fd
  | _ => false) && (oexB K (He.ga K d.cls) && ((PySem.W.clsIn K (He.ga K d.cls)).isSome && (decide (PySem.W.mroIn K (He.ga K d.cls) (.ref (He.ga K d.cls)) = some true) && (He.eqO (PySem.W.ks_superIn K (He.ga K d.cls) (He.ga K d.cls) "__init__") (some (some (.builtin "ValueError.__init__"))) &&
    (decide (PySem.W.subIn K (.ref (He.ga K d.cls)) (.type "ValueError") = some true) && (He.eqO (PySem.W.nsIn K cStatics "thirdparty.any") (some none) && (He.eqO (PySem.W.nsIn K mainGlobals "super") (some none) &&
    (He.eqO (PySem.W.findIn K (.ref (He.ga K d.cls)) "__init__") (some (some (.ref (d.at_ K)))) && (decide (PySem.W.typeIn K (.ref (d.at_ K)) = some (.type "function")) && He.eqO (PySem.W.nsIn K mainGlobals d.cls) (some (some (.ref (He.ga K d.cls)))))))))))))
structure SuP (K : PySem.W.Frag) (d : SuD) : Prop where
  ex : ∃ (cc cda : Addr) (oc : Value) (od : Option Addr) (kV doc pm ct : Value) (an : Option Addr) (osl : Array (Option Value)), K.lookup (d.at_ K) = some ⟨oc, od, .func (PySem.W.fnX "__init__" d.qual (defArgs d.st) (defBody d.st) (defScope d.st) [("__class__", cc)] .none kV doc pm an (.ref cda) ct), osl⟩ ∧
    PySem.W.codeIn K (.ref cda) d.qual = true ∧ ∀ (P : Program), ((P.main.file : Str) == sFile) = true → (P.main.scope.names.lookup ("super" : Str)).isSome = false → (∃ ar, ((defArgs d.st).posonlyargs ++ (defArgs d.st).args).head? = some ar ∧ ar.arg = "self") → SuK K P (He.ga K d.cls) (d.at_ K) cc cda
  T : OexC K (He.ga K d.cls)
  fi : PySem.W.findIn K (.ref (He.ga K d.cls)) "__init__" = some (some (.ref (d.at_ K)))
  ty : PySem.W.typeIn K (.ref (d.at_ K)) = some (.type "function")
  gl : PySem.W.nsIn K mainGlobals d.cls = some (some (.ref (He.ga K d.cls)))
theorem suP_of {K : PySem.W.Frag} {d : SuD} (e : suW K d = d.val) (c : suB K d = true) : SuP K d := by
  unfold suB at c
  obtain ⟨c1, c⟩ := He.ba c
  obtain ⟨c2, c⟩ := He.ba c
  obtain ⟨c3, c⟩ := He.ba c
  obtain ⟨c4, c⟩ := He.ba c
  obtain ⟨c5, c⟩ := He.ba c
  obtain ⟨c6, c⟩ := He.ba c
  obtain ⟨c7, c⟩ := He.ba c
  obtain ⟨c8, c⟩ := He.ba c
  obtain ⟨c9, c⟩ := He.ba c
  obtain ⟨c10, c11⟩ := He.ba c
  refine ⟨?_, oexB_ok c2, He.eqO_ok c9, of_decide_eq_true c10, He.eqO_ok c11⟩
  unfold suW at e
  cases q : K.lookup (d.at_ K) with
  | none => rw [q] at c1; cases c1
  | some o =>
    obtain ⟨oc, od, dt, osl⟩ := o
    rw [q] at c1 e
    cases dt with
    | func fd =>
      obtain ⟨n1, n2, n3, n4, n5, n6, n7, n8, n9, n10, n11, n12, n13, n14, n15⟩ := fd
      have e2 : (some (n1, n2, n3, n4, n5, n6, n7.map (·.1), n15) : SuW) = d.val := e
      unfold SuD.val at e2
      simp only [Option.some.injEq, Prod.mk.injEq] at e2
      obtain ⟨h1, h2, h3, h4, h5, h6, h7, h8⟩ := e2
      subst h1 h2 h3 h4 h5 h6 h8
      replace c1 : suF K (He.ga K d.cls) d.qual _ = true := c1
      unfold suF at c1
      obtain ⟨k12, k5⟩ := He.ba c1
      obtain ⟨k1, k2⟩ := He.ba k12
      dsimp only at k1 k2 k5
      have e5 : n8 = .none := by
        cases n8 with
        | none => rfl
        | _ => cases k5
      subst e5
      split at k1
      · rename_i cda
        obtain ⟨k3, k4⟩ := He.ba k1
        split at k2
        · rename_i nm cc
          have e3 : nm = "__class__" := by simpa using h7
          subst e3
          refine ⟨cc, cda, oc, od, n9, n10, n11, n14, n12, osl, rfl, k3, fun P hf ht ha => ?_⟩
          obtain ⟨ar, ha1, ha2⟩ := ha
          refine ⟨oexB_ok c2, Option.isSome_iff_exists.mp c3, of_decide_eq_true c4, He.eqO_ok c5, of_decide_eq_true c6, He.eqO_ok c7, He.eqO_ok c8, ?_, ?_, ⟨_, _, _, _, ar, q, ha1, ha2⟩, ht⟩
          · split at k4
            · rename_i ccl cdd vs ccs q2
              split at k4
              · rename_i file tf q3
                have e4 := of_decide_eq_true k4
                subst e4
                exact ⟨_, _, vs, _, sFile, tf, q2, q3, hf⟩
              · cases k4
            · cases k4
          · split at k2
            · rename_i cl cld D csl q2
              have e4 := of_decide_eq_true k2
              subst e4
              exact ⟨_, _, _, q2⟩
            · cases k2
        · cases k2
      · cases k1
    | _ => cases c1
/-! ### more facts -/
inductive Ow where
  | exc (c : Str)
  | noa (c f : Str)
  | tpl (x : Str)
  | isa (d : Str) (te ti : List (Str × Bool)) (tt : List (String × Bool))
def excB (K : PySem.W.Frag) (C : Addr) : Bool := He.eqO (PySem.W.findIn K (.ref C) "__getattribute__") (some (some (.builtin "BaseException.__getattribute__"))) && (He.eqO (PySem.W.findIn K (.ref C) "__getattr__") (some none) && (decide (PySem.W.subIn K (.ref C) (.type "BaseException") = some true) && (PySem.W.hasDictIn K C &&
  (He.eqO (PySem.W.findIn K (.ref C) "__class__") (some (some (.builtin "object.__class__"))) && (He.eqO (PySem.W.specialIn K (.builtin "object.__class__") "__get__") (some (some (.builtin "getset_descriptor.__get__"))) && (decide (PySem.W.takesIn K (.builtin "object.__class__") = some true) && decide (PySem.W.mroIn K C (.type "object") = some true)))))))
structure XcK (K : PySem.W.Frag) (C : Addr) : Prop where
  e : ExcC K C
  f : XfC K C
theorem excB_ok {K : PySem.W.Frag} {C : Addr} (h : excB K C = true) : XcK K C := by
  unfold excB at h
  obtain ⟨h1, h⟩ := He.ba h
  obtain ⟨h2, h⟩ := He.ba h
  obtain ⟨h3, h⟩ := He.ba h
  obtain ⟨h4, h⟩ := He.ba h
  obtain ⟨h5, h⟩ := He.ba h
  obtain ⟨h6, h⟩ := He.ba h
  obtain ⟨h7, h8⟩ := He.ba h
  exact ⟨⟨He.eqO_ok h1, He.eqO_ok h2, of_decide_eq_true h3, h4, He.eqO_ok h5, He.eqO_ok h6, of_decide_eq_true h7, of_decide_eq_true h8⟩, ⟨He.eqO_ok h1, He.eqO_ok h2, of_decide_eq_true h3, h4⟩⟩
/-- a class whose instances' class may be asked -/
structure InK (K : PySem.W.Frag) (C : Addr) : Prop where
  cl : Cls K C
  ha : PySem.W.findIn K (.ref C) "__class__" = some (some (.builtin "object.__class__"))
  hn : PySem.W.specialIn K (.builtin "object.__class__") "__get__" = some (some (.builtin "getset_descriptor.__get__"))
  ht : PySem.W.takesIn K (.builtin "object.__class__") = some true
  hm : PySem.W.mroIn K C (.type "object") = some true
def insB (K : PySem.W.Frag) (C : Addr) : Bool := (PySem.W.plainGet K C Str.empty && (PySem.W.hasDictIn K C && (PySem.W.plainOver K C && He.eqO (PySem.W.findIn K (.ref C) "__setattr__") (some (some (.builtin "object.__setattr__")))))) &&
  (He.eqO (PySem.W.findIn K (.ref C) "__class__") (some (some (.builtin "object.__class__"))) && (He.eqO (PySem.W.specialIn K (.builtin "object.__class__") "__get__") (some (some (.builtin "getset_descriptor.__get__"))) && (decide (PySem.W.takesIn K (.builtin "object.__class__") = some true) && decide (PySem.W.mroIn K C (.type "object") = some true))))
theorem insB_ok {K : PySem.W.Frag} {C : Addr} (h : insB K C = true) : InK K C := by
  unfold insB at h
  obtain ⟨h0, h⟩ := He.ba h
  obtain ⟨a1, a⟩ := He.ba h0
  obtain ⟨a2, a⟩ := He.ba a
  obtain ⟨a3, a4⟩ := He.ba a
  obtain ⟨h5, h⟩ := He.ba h
  obtain ⟨h6, h⟩ := He.ba h
  obtain ⟨h7, h8⟩ := He.ba h
  exact ⟨⟨a1, a2, a3, He.eqO_ok a4⟩, He.eqO_ok h5, He.eqO_ok h6, of_decide_eq_true h7, of_decide_eq_true h8⟩
/-- what isinstance(.., d) answers -/
structure IsaK (K : PySem.W.Frag) (d : Str) (te ti : List (Str × Bool)) (tt : List (String × Bool)) : Prop where
  e : ∀ p ∈ te, XcK K (He.ga K p.1) ∧ PySem.W.kitOne K (.ref (He.ga K p.1)) (.ref (He.ga K d)) = some p.2
  i : ∀ p ∈ ti, InK K (He.ga K p.1) ∧ PySem.W.kitOne K (.ref (He.ga K p.1)) (.ref (He.ga K d)) = some p.2
  t : ∀ p ∈ tt, PySem.W.kitOne K (.type p.1) (.ref (He.ga K d)) = some p.2
def tplB (K : PySem.W.Frag) (x : Str) : Bool := match PySem.W.nsIn K mainGlobals x with
  | some (some (.ref a)) => (match K.lookup a with
    | some ⟨.type c, none, _, _⟩ => decide (c = "tuple")
    | _ => false)
  | _ => false
theorem tplB_ok {K : PySem.W.Frag} {x : Str} (h : tplB K x = true) : ∃ a o, PySem.W.nsIn K mainGlobals x = some (some (.ref a)) ∧ K.lookup a = some o ∧ o.cls = .type "tuple" ∧ o.dict = none := by
  unfold tplB at h
  split at h
  · rename_i a e
    split at h
    · rename_i c d s e2
      have := of_decide_eq_true h
      subst this
      exact ⟨a, _, e, e2, rfl, rfl⟩
    · cases h
  · cases h
def Ow.ok (K : PySem.W.Frag) : Ow → Bool
  | .tpl x => tplB K x
  | .exc c => excB K (He.ga K c)
  | .noa c f => He.eqO (PySem.W.findIn K (.ref (He.ga K c)) f) (some none)
  | .isa d te ti tt => te.all (fun p => excB K (He.ga K p.1) && decide (PySem.W.kitOne K (.ref (He.ga K p.1)) (.ref (He.ga K d)) = some p.2)) && (ti.all (fun p => insB K (He.ga K p.1) && decide (PySem.W.kitOne K (.ref (He.ga K p.1)) (.ref (He.ga K d)) = some p.2)) && tt.all (fun p => decide (PySem.W.kitOne K (.type p.1) (.ref (He.ga K d)) = some p.2)))
theorem isa_ok {K : PySem.W.Frag} {d : Str} {te ti : List (Str × Bool)} {tt : List (String × Bool)} (h : (Ow.isa d te ti tt).ok K = true) : IsaK K d te ti tt := by
  unfold Ow.ok at h
  obtain ⟨h1, h⟩ := He.ba h
  obtain ⟨h2, h3⟩ := He.ba h
  refine ⟨fun p hp => ?_, fun p hp => ?_, fun p hp => of_decide_eq_true (List.all_eq_true.mp h3 p hp)⟩
  · obtain ⟨a, b⟩ := He.ba (List.all_eq_true.mp h1 p hp)
    exact ⟨excB_ok a, of_decide_eq_true b⟩
  · obtain ⟨a, b⟩ := He.ba (List.all_eq_true.mp h2 p hp)
    exact ⟨insB_ok a, of_decide_eq_true b⟩
/-! ### the Hook: .. and such classes -/
abbrev AlM : Type := List SuW × AlL
def asM (g : Addr → Option Obj) (n : Nat) : List Addr := cStatics :: He.asD g n
def obsM (fa : List He.Fa) (fn : List He.DefD) (cn : Cns) (si : List SuD) (ow : List Ow) (K : PySem.W.Frag) : AlM := (si.map (suW K), cn.all (cnB K) && (si.all (suB K) && ow.all (Ow.ok K)), He.obsD fa fn K)
structure SaysM (fa : List He.Fa) (fn : List He.DefD) (cn : Cns) (si : List SuD) (ow : List Ow) (K : PySem.W.Frag) : Prop where
  d : He.SaysD fa fn K
  c : (cn.all (cnB K) && (si.all (suB K) && ow.all (Ow.ok K))) = true
  s : si.map (suW K) = si.map SuD.val
def obsMG (n : Nat) (fa : List He.Fa) (fn : List He.DefD) (cn : Cns) (si : List SuD) (ow : List Ow) (g : Addr → Option Obj) : AlM := obsM fa fn cn si ow (He.frG g (asM g n))
def hookM (n : Nat) (fa : List He.Fa) (fn : List He.DefD) (cn : Cns) (si : List SuD) (ow : List Ow) : PySem.W.Hook where
  α := AlM
  obs := fun s => obsMG n fa fn cn si ow s.heap.get?
  val := fun _ => (si.map SuD.val, true, He.valD fn)
  says := fun _ h => ∃ K : PySem.W.Frag, K.In h ∧ SaysM fa fn cn si ow K
  of := fun _ _ e => ⟨_, He.frG_in, ⟨congrArg (fun z : AlM => z.2.2) e, congrArg (fun z : AlM => z.2.1) e, congrArg Prod.fst e⟩⟩
  keeps := fun _ _ _ ⟨K, hK, c⟩ k => ⟨K, PySem.W.Frag.In.keeps hK k, c⟩
theorem obsMG_eq {n : Nat} {fa : List He.Fa} {fn : List He.DefD} {cn : Cns} {si : List SuD} {ow : List Ow} {g : Addr → Option Obj} {s : Shared} (h : ∀ a, g a = s.heap.get? a) : obsMG n fa fn cn si ow g = (hookM n fa fn cn si ow).obs s := by
  have e : g = s.heap.get? := funext h
  rw [e]; rfl
section
variable {fa : List He.Fa} {fn : List He.DefD} {cn : Cns} {si : List SuD} {ow : List Ow} {K : PySem.W.Frag}
theorem SaysM.fact (c : SaysM fa fn cn si ow K) (i : Nat) {f : He.Fa} (h : fa[i]? = some f := by rfl) : f.ok K = true := c.d.fact i h
theorem SaysM.def_ (c : SaysM fa fn cn si ow K) (i : Nat) {d : He.DefD} (h : fn[i]? = some d := by rfl) : ∃ fd, FunD K d.name d.qual d.params d.body d.scope (d.dvs K) (d.kws K) (He.fAd K d.at_) fd := c.d.def_ i h
theorem SaysM.con (c : SaysM fa fn cn si ow K) (i : Nat) {p : Str × PV} (h : cn[i]? = some p := by rfl) : cnB K p = true := List.all_eq_true.mp (He.ba c.c).1 p (List.mem_of_getElem? h)
theorem SaysM.sup (c : SaysM fa fn cn si ow K) (i : Nat) {d : SuD} (h : si[i]? = some d := by rfl) : SuP K d := by
  have e : (si.map (suW K))[i]? = (si.map SuD.val)[i]? := by rw [c.s]
  rw [List.getElem?_map, List.getElem?_map, h] at e
  exact suP_of (Option.some.inj e) (List.all_eq_true.mp (He.ba (He.ba c.c).2).1 d (List.mem_of_getElem? h))
theorem SaysM.own (c : SaysM fa fn cn si ow K) (i : Nat) {f : Ow} (h : ow[i]? = some f := by rfl) : f.ok K = true := List.all_eq_true.mp (He.ba (He.ba c.c).2).2 f (List.mem_of_getElem? h)
end
end L3

end
section
set_option Elab.async false
set_option linter.all false
set_option maxRecDepth 100000
set_option maxHeartbeats 4000000
namespace L3
open PySem PySem.Spec L2
set_option autoImplicit false
/-! ### a try whose clauses may name the exception: it is then an object of the heap -/
theorem xob_ok {P : Program} {w : World} {H : Hp} {h : Heap} {a : Addr} {oe : Obj} {vs : Array Value} (ha : h.get? a = some oe) (hd : oe.data = .fields vs) : ObjOk P w H h a (xob a oe.cls oe.dict) := by
  refine ⟨⟨oe, vs, ha, rfl, rfl, hd⟩, ⟨oe, ha⟩, fun h1 h2 ⟨o, ws, e1, e2, e3, e4⟩ k => ⟨o, ws, k o e1, e2, e3, e4⟩⟩
section
variable {X : Cx} {pins : List (Addr × Obj)} {σ : St} {H : Hp} {s : Shared}
/-- a new object joins what is tracked; the context changes to that of a suite -/
theorem Inv.joined (I : Inv X pins σ H s) {a : Addr} {oe : Obj} {vs : Array Value} (ha : s.heap.get? a = some oe) (hd : oe.data = .fields vs) (na : H a = none) (nl : a ≠ X.env.locals)
    (np : ∀ p ∈ X.pn ++ pins, p.1 ≠ a) (n0 : ∀ o, X.s_0.heap.get? a = some o → a ∉ X.ex → False) :
    Inv (X.suite a (X.pn ++ pins)) [] σ (upd H a (xob a oe.cls oe.dict)) s := by
  have old : ∀ b u, H b = some u → upd H a (xob a oe.cls oe.dict) b = some u := fun b u e => by rw [upd_ne (ne_of_none e na)]; exact e
  have nw : ∀ b, b ≠ a → H b = none → upd H a (xob a oe.cls oe.dict) b = none := fun b h e => by rw [upd_ne h]; exact e
  refine ⟨I.ok.suite _ _, I.os, I.bare, ⟨I.base.keep, I.base.slot, fun b o e n hx => ?_, I.base.there, fun b xs e => old b _ (I.base.tups b xs e), fun b o u e => old b _ (I.base.frzs b o u e), fun b ps e => ?_⟩, I.loc, I.cell, nw _ (Ne.symm nl) I.free, fun x c e => ?_, fun p hp => ?_, fun b u e => ?_, I.len⟩
  · exact nw b (fun z => by subst z; exact n0 o e hx) (I.base.free b o e n hx)
  · obtain ⟨more, q⟩ := I.base.tbls b ps e
    exact ⟨more, old b _ q⟩
  · refine nw c (fun z => ?_) (I.freeC x c e)
    obtain ⟨v, oc, h1, h2⟩ := I.cell x c e
    rw [z, ha] at h1
    cases h1
    rw [hd] at h2
    cases h2
  · have hp' : p ∈ X.pn ++ pins := by rw [List.append_nil] at hp; exact hp
    obtain ⟨p1, p2, p3⟩ := I.pin p hp'
    exact ⟨p1, nw p.1 (np p hp') p2, p3⟩
  · by_cases hb : b = a
    · subst hb
      rw [upd_same] at e
      cases e
      exact xob_ok ha hd
    · rw [upd_ne hb] at e
      exact (I.hok b u e).stay (fun _ _ _ q => q) (fun c q => old c _ q) fun c xs q => old c _ q
theorem Inv.left {a : Addr} {pn' : List (Addr × Obj)} (I : Inv (X.suite a (X.pn ++ pins)) pn' σ H s) (ok : X.Ok) : Inv X pins σ H s :=
  ⟨ok, I.os, I.bare, I.base, I.loc, I.cell, I.free, I.freeC, fun p hp => I.pin p (List.mem_append_left _ hp), I.hok, I.len⟩
end
/-- a clause: the class, the name's slot, the suite -/
abbrev Cl := Value × Option Nat × TS
def endsAs (i : Nat) (D : Ends) : Ends := { nx := fun σ' H' => D.nx (σ'.set i none) H', rt := D.rt, bk := fun σ' H' => D.bk (σ'.set i none) H', ct := fun σ' H' => D.ct (σ'.set i none) H' }
def wCl (K : PySem.W.Frag) (Wout : WX) (D : Ends) : List Cl → WX
  | [] => Wout
  | (c, none, ts) :: r => fun cls d σ H => ∃ b, PySem.W.exmOne K cls c = some b ∧ (b = true → ts D σ H) ∧ (b = false → wCl K Wout D r cls d σ H)
  | (c, some i, ts) :: r => fun cls d σ H => ∃ b, PySem.W.exmOne K cls c = some b ∧ (b = true → ∀ a, H a = none → ts (endsAs i D) (σ.set i (some (.ref a))) (upd H a (xob a cls d))) ∧ (b = false → wCl K Wout D r cls d σ H)
inductive ClOk (X : Cx) : List ExceptHandler → List Cl → Prop
  | nil : ClOk X [] []
  | bare {x : Str} {c : Value} {ts : TS} {st : Stmt} {sts : List Stmt} {q q' : Pos} {hds : List ExceptHandler} {l : List Cl} (hc : Names X x c) (hsu : ∀ (a : Addr) (oe : Obj) (pn : List (Addr × Obj)), PSs (X.suite a ((a, oe) :: pn)) (st :: sts) ts) (r : ClOk X hds l) :
      ClOk X (.ExceptHandler (some (.Name x q)) none (st :: sts) q' :: hds) ((c, none, ts) :: l)
  | as {x n : Str} {c : Value} {i : Nat} {ts : TS} {st : Stmt} {sts : List Stmt} {q q' : Pos} {hds : List ExceptHandler} {l : List Cl} (hc : Names X x c) (hN : X.N.Nodup) (hi : X.N[i]? = some n) (hl : X.env.kindOf n = some .local) (hsu : ∀ (a : Addr) (pn : List (Addr × Obj)), PSs (X.suite a pn) (st :: sts) ts) (r : ClOk X hds l) :
      ClOk X (.ExceptHandler (some (.Name x q)) (some n) (st :: sts) q' :: hds) ((c, some i, ts) :: l)
section
variable {X : Cx} {body : List Stmt} {h0 : ExceptHandler} {hds : List ExceptHandler} {l : List Cl} {pos : Pos} {tb : WX → TS} {Wout : WX}
theorem ps_tryG (e1 : X.stack = X.env :: X.outer) (e2 : X.env.frame = some X.env.locals) (tk : Takes X Wout)
    (hb : ∀ (W : WX) (pn : List (Addr × Obj)) (xe : Value → Shared → Prop), Takes (X.tr pn xe) W → PassesOwn (model X.prog X.w) X.A X.env xe → PSs (X.tr pn xe) body (tb W))
    (hh : ClOk X (h0 :: hds) l) : PS X (.Try body (h0 :: hds) [] [] pos) (fun D σ H => tb (wCl X.K Wout D l) D σ H) := by
  refine ⟨fun pins s σ H D I h => wpAny_Try_except ?_⟩
  have ok := I.ok
  have fr0 : X.A.frames = some (X.env :: X.outer) := e1 ▸ ok.frames
  let XE' : Value → Shared → Prop := fun e s₁ => wpAny (model X.prog X.w) X.A (noteFrame e X.env) (fun _ s₂ => wpAny (model X.prog X.w) X.A (setFlight e none) (fun _ s₃ => wpAny (model X.prog X.w) X.A (handleBy e X.env (h0 :: hds)) (SP X pins D) X.xe s₃) X.xe s₂) X.xe s₁
  refine wpAny_mono ((hb (wCl X.K Wout D l) (X.pn ++ pins) XE' (fun u s' xx => ?_) PassesOwn.looking).run [] s σ H D (I.toTry _) h) (fun f s1 r => ?_) (fun e s1 z => z)
  · obtain ⟨a, B, sI, pins', σ', H', cls, d, rfl, J', nb, up, sky, na, os, ag, w⟩ := xx
    have J : Inv X pins σ' H' sI := J'.ofTry ok
    rw [e1] at sky
    refine Sky.land Zc.steady fr0 e2 sky fun h3 fl3 up3 => ?_
    have J3 : Inv X pins σ' H' { s' with heap := h3 } := J.landed nb fl3.1 (up.trans up3) os ag
    obtain ⟨oe3, vs3, he3, hz3, hd3⟩ := fl3.there
    have nfr : a ∉ frs (X.env :: X.outer) := fun hm => by
      obtain ⟨_, o', e', hnf⟩ := fl3.2.2.1.mem hm
      rw [he3] at e'; cases e'
      exact hnf _ hd3
    have nl : a ≠ X.env.locals := fun z => nfr (List.mem_filterMap.mpr ⟨X.env, List.mem_cons_self, by rw [e2, z]⟩)
    have nf : a ∉ X.fs := fun hm => by
      obtain ⟨e, he, q⟩ := List.mem_filterMap.mp hm
      exact nfr (List.mem_filterMap.mpr ⟨e, List.mem_cons_of_mem _ he, q⟩)
    have aI : sI.heap.get? a = none := by
      cases q : sI.heap.get? a with
      | none => rfl
      | some o =>
        have z := nb a o q (e1 ▸ nfr)
        rw [fl3.2.1] at z
        cases z
    have np : ∀ p ∈ X.pn ++ pins, p.1 ≠ a := fun p hp z => by
      have q := (J.pin p hp).1
      rw [z, aI] at q
      cases q
    have n0 : ∀ o, X.s_0.heap.get? a = some o → a ∉ X.ex → False := fun o e hx => by
      obtain ⟨o', q⟩ := J.base.there a o e hx
      rw [aI] at q
      cases q
    have S3 := J3.suite he3 hd3 na nl nf
    have LT : PySem.W.Looks (model X.prog X.w) h3 (typeOf (.ref a)) cls := fun A Q E s k q => wpAny_typeOf_ref (k _ _ he3) (by rw [hz3.1]; exact q)
    have test : ∀ {x : Str} {c : Value} {q0 : Pos} {Q : Value → Shared → Prop} {E : Value → Shared → Prop}, Names X x c → Q c { s' with heap := h3 } → wpAny (model X.prog X.w) (X.A.mark (some (.ref a))) (eval (.Name x q0) X.env) Q E { s' with heap := h3 } := fun {x c q0 Q E} hc q => by
      rcases hc with ⟨hg, hdb, hm | ⟨hm, hv, hn⟩⟩
      · exact ld_glob (X := X.suite a ((a, oe3) :: (X.pn ++ pins))) S3 hg hm q hdb
      · exact ld_blt (X := X.suite a ((a, oe3) :: (X.pn ++ pins))) S3 hg hm hv q hn hdb
    have go : ∀ {hs : List ExceptHandler} {l' : List Cl}, ClOk X hs l' → wCl X.K Wout D l' cls d σ' H' → wpAny (model X.prog X.w) X.A (handleBy (.ref a) X.env hs) (SP X pins D) X.xe { s' with heap := h3 } := by
      intro hs l' hk
      induction hk with
      | nil =>
        intro w
        refine wpAny_handleBy_nil ?_
        obtain ⟨k1, k2, k3, oe, vs, T, oT, ts', he, hz, hd, h1, hr⟩ := id fl3
        unfold PySem.passOn
        refine wpAny_bind (wpAny_field he hd h1 ?_)
        rw [if_neg (by simp : ¬ ((Value.ref T == Value.none) = true))]
        have fin : wpAny (model X.prog X.w) X.A (setFlight (.ref a) X.env.frame) (fun _ s4 => wpAny (model X.prog X.w) X.A (throw (.ref a) : Sem Flow) (SP X pins D) X.xe s4) X.xe { s' with heap := h3 } := by
          rw [e2]
          refine HandSPX.setFlight_upZ fl3 fun h4 hh4 up4 => wpAny_throw (tk _ _ ⟨a, B, sI, pins, σ', H', cls, d, rfl, J, nb, (up.trans up3).trans up4, .inr (.inr ?_), na, os, ag, w⟩)
          rw [e1]
          exact hh4
        first
          | exact wpAny_bind (wpAny_pure (wpAny_bind fin))
          | exact wpAny_bind fin
      | @bare x c ts st sts q q' hds2 l2 hc hsu r ih =>
        intro w
        obtain ⟨b, hb1, hyes, hno⟩ := w
        refine wpAny_handleBy_cons (codeAny_handlers_test (test hc ((PySem.W.exm_one J3.kIn LT hb1).here ?_))) (by intro z; cases z)
        cases b with
        | false => exact ih (hno rfl)
        | true =>
          refine codeAny_handlers_suite (HandSPX.lands_againZ fl3 fun h4 fl4 up4 => ?_)
          obtain ⟨oe4, vs4, he4, hz4, hd4⟩ := fl4.there
          have J4 : Inv X pins σ' H' { s' with heap := h4 } := J.landed nb fl4.1 ((up.trans up3).trans up4) os ag
          have S4 := J4.suite he4 hd4 na nl nf
          refine wpAny_mono ((hsu a oe4 (X.pn ++ pins)).run [] _ _ H' _ S4 (hyes rfl)) (fun f s6 z => ?_) (fun _ _ z => z.elim)
          cases f with
          | next => obtain ⟨_, _, S6, q6⟩ := z; exact ⟨_, _, S6.unsuite ok, q6⟩
          | brk => obtain ⟨_, _, S6, q6⟩ := z; exact ⟨_, _, S6.unsuite ok, q6⟩
          | cont => obtain ⟨_, _, S6, q6⟩ := z; exact ⟨_, _, S6.unsuite ok, q6⟩
          | ret u => obtain ⟨_, _, _, S6, r6, q6⟩ := z; exact ⟨_, _, _, S6.unsuite ok, r6, q6⟩
      | @as x n c i ts st sts q q' hds2 l2 hc hN hi hl hsu r ih =>
        intro w
        obtain ⟨b, hb1, hyes, hno⟩ := w
        refine wpAny_handleBy_cons (codeAny_handlers_test (test hc ((PySem.W.exm_one J3.kIn LT hb1).here ?_))) (by intro z; cases z)
        cases b with
        | false => exact ih (hno rfl)
        | true =>
          refine codeAny_handlers_suite_as (HandSPX.lands_againZ fl3 fun h4 fl4 up4 => ?_)
          obtain ⟨oe4, vs4, he4, hz4, hd4⟩ := fl4.there
          have J4 : Inv X pins σ' H' { s' with heap := h4 } := J.landed nb fl4.1 ((up.trans up3).trans up4) os ag
          have S4 := Inv.joined J4 he4 hd4 na nl np n0
          rw [hz4.1, hz4.2] at S4
          refine store_ok (X := X.suite a (X.pn ++ pins)) (v := .ref a) S4 hN hi (.inl hl) rfl (fun s5 S5 => ?_) (.inr hl)
          refine wpAny_mono ((hsu a (X.pn ++ pins)).run [] s5 _ _ _ S5 (hyes rfl a na)) (fun f s6 z => ?_) (fun _ _ z => z.elim)
          have fin : ∀ {σ6 : St} {H6 : Hp} {Q : Shared → Prop}, Inv (X.suite a (X.pn ++ pins)) [] σ6 H6 s6 → (∀ s7, Inv X pins (σ6.set i none) H6 s7 → Q s7) →
              wpAny (model X.prog X.w) X.A (do bindName X.env n .none; unbindBehindTheSuite X.env n q') (fun _ s7 => Q s7) X.xe s6 := fun S6 hq => gone_ok (Inv.left S6 ok) hN hi hl hq
          cases f with
          | next => obtain ⟨_, _, S6, q6⟩ := z; exact fin S6 fun s7 J7 => ⟨_, _, J7, q6⟩
          | brk => obtain ⟨_, _, S6, q6⟩ := z; exact fin S6 fun s7 J7 => ⟨_, _, J7, q6⟩
          | cont => obtain ⟨_, _, S6, q6⟩ := z; exact fin S6 fun s7 J7 => ⟨_, _, J7, q6⟩
          | ret u => obtain ⟨_, _, _, S6, r6, q6⟩ := z; exact fin S6 fun s7 J7 => ⟨_, _, _, J7, r6, q6⟩
    exact go hh w
  · cases f with
    | next => obtain ⟨_, _, J', q⟩ := r; exact wpAny_execs_nil ⟨_, _, J'.ofTry ok, q⟩
    | brk => obtain ⟨_, _, J', q⟩ := r; exact ⟨_, _, J'.ofTry ok, q⟩
    | cont => obtain ⟨_, _, J', q⟩ := r; exact ⟨_, _, J'.ofTry ok, q⟩
    | ret u => obtain ⟨_, _, _, J', r', q⟩ := r; exact ⟨_, _, _, J'.ofTry ok, r', q⟩
end
end L3

end
section
set_option Elab.async false
set_option linter.all false
set_option maxRecDepth 100000
set_option maxHeartbeats 4000000
namespace L3
open PySem PySem.Spec L2
set_option autoImplicit false
/-! ### clauses -/
theorem EnvS.unset {K : PySem.W.Frag} {md : Md K} {H0 : Hp} {g : G} {H : Hp} {σ : St} {ρ : Env} (e : EnvS md H0 g H σ ρ) (i : Nat) : EnvS md H0 g H (σ.set i none) (ρ.set i none) := by
  have key : ∀ (j : Nat) (x : PV), (ρ.set i none)[j]? = some (some x) → ρ[j]? = some (some x) ∧ (σ.set i none)[j]? = σ[j]? := fun j x h => by
    rcases get_set h with ⟨_, _, hy⟩ | ⟨ne, h⟩
    · cases hy
    · exact ⟨h, by rw [List.getElem?_set_ne (Ne.symm ne)]⟩
  refine ⟨⟨⟨by simp [e.f.r.len], fun j x h => ?_, fun j k x y v h1 h2 f1 f2 s1 s2 => ?_⟩, fun j x a h hf hs => ?_⟩, fun j x a h hf hs => ?_⟩
  · obtain ⟨h1, h2⟩ := key j x h
    rw [h2]; exact e.f.r.at_ j x h1
  · obtain ⟨a1, a2⟩ := key j x h1
    obtain ⟨b1, b2⟩ := key k y h2
    rw [a2] at s1; rw [b2] at s2
    exact e.f.r.inj j k x y v a1 b1 f1 f2 s1 s2
  · obtain ⟨h1, h2⟩ := key j x h
    rw [h2] at hs; exact e.f.o j x a h1 hf hs
  · obtain ⟨h1, h2⟩ := key j x h
    rw [h2] at hs; exact e.n j x a h1 hf hs
abbrev Hn := List (Str × Bool) × Option Nat × Sm
def sClear (i : Nat) : Option (SR × Store) → Option (SR × Store)
  | some (.nx ρ, S) => some (.nx (ρ.set i none), S)
  | some (.bk ρ, S) => some (.bk (ρ.set i none), S)
  | some (.ct ρ, S) => some (.ct (ρ.set i none), S)
  | some (.rt x, S) => some (.rt x, S)
  | _ => none
def sHandsG : List Hn → Str → List (Str × PV) → Env → Store → Option (SR × Store)
  | [], c, fs, ρ, S => some (.xx c fs ρ, S)
  | (tb, none, m) :: r, c, fs, ρ, S => match tb.lookup c with
    | some true => (match m ρ S with
      | some (.xx _ _ _, _) => none
      | z => z)
    | some false => sHandsG r c fs ρ S
    | none => none
  | (tb, some i, m) :: r, c, fs, ρ, S => match tb.lookup c with
    | some true => sClear i (m (ρ.set i (some (.xv c fs))) S)
    | some false => sHandsG r c fs ρ S
    | none => none
def sTryG (m : Sm) (hs : List Hn) : Sm := fun ρ S => match m ρ S with
  | some (.xx c fs ρ', S') => sHandsG hs c fs ρ' S'
  | z => z
inductive SimG2 (X : Cx) (md : Md X.K) : List ExceptHandler → List Hn → Prop
  | nil : SimG2 X md [] []
  | bare {x : Str} {st : Stmt} {sts : List Stmt} {np pos' : Pos} {hds : List ExceptHandler} {hs : List Hn} {tb : List (Str × Bool)} {ms : Sm} (hn : Names X x (.ref (He.ga X.K x))) (ht : ∀ p ∈ tb, PySem.W.exmOne X.K (.ref (He.ga X.K p.1)) (.ref (He.ga X.K x)) = some p.2)
      (hsu : ∀ (a : Addr) (pn : List (Addr × Obj)), SimB (X.suite a pn) md WX0 (st :: sts) ms) (r : SimG2 X md hds hs) : SimG2 X md (.ExceptHandler (some (.Name x np)) none (st :: sts) pos' :: hds) ((tb, none, ms) :: hs)
  | as {x n : Str} {i : Nat} {st : Stmt} {sts : List Stmt} {np pos' : Pos} {hds : List ExceptHandler} {hs : List Hn} {tb : List (Str × Bool)} {ms : Sm} (hn : Names X x (.ref (He.ga X.K x))) (ht : ∀ p ∈ tb, PySem.W.exmOne X.K (.ref (He.ga X.K p.1)) (.ref (He.ga X.K x)) = some p.2)
      (hN : X.N.Nodup) (hi : X.N[i]? = some n) (hl : X.env.kindOf n = some .local) (hsu : ∀ (a : Addr) (pn : List (Addr × Obj)), SimB (X.suite a pn) md WX0 (st :: sts) ms) (r : SimG2 X md hds hs) : SimG2 X md (.ExceptHandler (some (.Name x np)) (some n) (st :: sts) pos' :: hds) ((tb, some i, ms) :: hs)
theorem SimG2.run {X : Cx} {md : Md X.K} {W : WX} : ∀ {hds : List ExceptHandler} {hs : List Hn}, SimG2 X md hds hs → ∃ l, ClOk X hds l ∧ ∀ (D : Ends) (c : Str) (fs : List (Str × PV)) (ρ : Env) (S : Store) (res : SR × Store) (gb g0 : G) (H0 : Hp) (S0 : Store), md.R g0 S0 H0 → sHandsG hs c fs ρ S = some res → PoS md gb g0 H0 S0 W D res →
    PoS md gb g0 H0 S0 (wCl X.K W D l) D (.xx c fs ρ, S)
  | _, _, .nil => ⟨[], .nil, fun D c fs ρ S res gb g0 H0 S0 r0 hm po => by cases hm; exact po⟩
  | _, _, .bare (x := x) (tb := tb) (ms := ms) hn ht hsu r => by
    obtain ⟨l, hl, k⟩ := SimG2.run (W := W) r
    refine ⟨_, .bare (ts := cS md WX0 ms) hn (fun a oe pn => (hsu a _).cn) hl, fun D c fs ρ S res gb g0 H0 S0 r0 hm po cls d σ g H rr tt er xr => ?_⟩
    unfold sHandsG at hm
    split at hm
    · rename_i hb
      have e := ht _ (lookup_mem hb)
      refine ⟨true, by rw [xr.1]; exact e, fun _ => ?_, fun z => by cases z⟩
      split at hm
      · cases hm
      · rename_i n1
        refine ⟨g, S, ρ, gb, g0, H0, S0, res, r0, rr, tt, er, hm, ?_⟩
        obtain ⟨res1, S1⟩ := res
        cases res1 with
        | xx c' fs' ρ' => exact absurd hm (n1 c' fs' ρ' S1)
        | _ => exact po
    · rename_i hb
      have e := ht _ (lookup_mem hb)
      exact ⟨false, by rw [xr.1]; exact e, (fun z => by cases z), fun _ => k D c fs ρ S res gb g0 H0 S0 r0 hm po cls d σ g H rr tt er xr⟩
    · cases hm
  | _, _, .as (x := x) (i := i) (tb := tb) (ms := ms) hn ht hN hi hlo hsu r => by
    obtain ⟨l, hl, k⟩ := SimG2.run (W := W) r
    refine ⟨_, .as (ts := cS md WX0 ms) hn hN hi hlo (fun a pn => (hsu a _).cn) hl, fun D c fs ρ S res gb g0 H0 S0 r0 hm po cls d σ g H rr tt er xr => ?_⟩
    unfold sHandsG at hm
    split at hm
    · rename_i hb
      have e := ht _ (lookup_mem hb)
      refine ⟨true, by rw [xr.1]; exact e, fun _ a ha => ?_, fun z => by cases z⟩
      have w := md.wr rr
      have gr : Grow g H { g with F := upd g.F a (xob a cls d) } (upd H a (xob a cls d)) := Grow.laid w ha
      obtain ⟨r1, t1⟩ := md.grow rr gr
      have fx : FR X.K { g with F := upd g.F a (xob a cls d) } (.xv c fs) (.ref a) := by
        obtain ⟨e1, e2⟩ := xr
        subst e1
        rcases e2 with ⟨e2, e3⟩ | ⟨dd, vs, e2, e3, e4⟩
        · subst e2; subst e3
          exact .xv (vs := []) (.inl upd_same) (fun dd z => by cases z) (fun _ => rfl) .nil
        · subst e2
          exact .xv (.inl upd_same) (fun dd' z => by cases z; exact RdLe.of_same gr.le.f _ _ e3) (fun z => by cases z) (FRf.mono gr.le _ _ e4)
      have er1 := (er.step t1).set (i := i) fx rfl
      cases q : ms (ρ.set i (some (.xv c fs))) S with
      | none => rw [q] at hm; cases hm
      | some z =>
        rw [q] at hm
        refine ⟨_, S, _, gb, g0, H0, S0, z, r0, r1, tt.step t1, er1, q, ?_⟩
        obtain ⟨z1, S1⟩ := z
        cases z1 with
        | nx ρ' => cases hm; exact fun σ2 g2 H2 r2 t2 e2 => po _ g2 H2 r2 t2 (e2.unset i)
        | bk ρ' => cases hm; exact fun σ2 g2 H2 r2 t2 e2 => po _ g2 H2 r2 t2 (e2.unset i)
        | ct ρ' => cases hm; exact fun σ2 g2 H2 r2 t2 e2 => po _ g2 H2 r2 t2 (e2.unset i)
        | rt y => cases hm; exact po
        | xx c' fs' ρ' => cases hm
    · rename_i hb
      have e := ht _ (lookup_mem hb)
      exact ⟨false, by rw [xr.1]; exact e, (fun z => by cases z), fun _ => k D c fs ρ S res gb g0 H0 S0 r0 hm po cls d σ g H rr tt er xr⟩
    · cases hm
section
variable {X : Cx} {md : Md X.K} {W : WX} {pos p p2 : Pos} {e : Expr}
theorem s_tryG {body : List Stmt} {h0 : ExceptHandler} {hds : List ExceptHandler} {m : Sm} {hs : List Hn} (tk : Takes X W) (h : ∀ (W' : WX) (pn : List (Addr × Obj)) (xe : Value → Shared → Prop), Takes (X.tr pn xe) W' → PassesOwn (model X.prog X.w) X.A X.env xe → SimB (X.tr pn xe) md W' body m) (hh : SimG2 X md (h0 :: hds) hs)
    (h1 : X.stack = X.env :: X.outer := by rfl) (h2 : X.env.frame = some X.env.locals := by rfl) : SimS X md W (.Try body (h0 :: hds) [] [] pos) (sTryG m hs) := by
  obtain ⟨l, hl, k⟩ := SimG2.run (W := W) hh
  refine ⟨_, ps_tryG (tb := fun W' => cS md W' m) h1 h2 tk (fun W' pn xe tk' hp => (h W' pn xe tk' hp).cn) hl, fun σ H g S ρ gb g0 H0 S0 D res r0 rr tt er hm po => ?_⟩
  unfold sTryG at hm
  split at hm
  · rename_i c fs ρ' S' q
    exact ⟨g, S, ρ, gb, g0, H0, S0, _, r0, rr, tt, er, q, k D c fs ρ' S' res gb g0 H0 S0 r0 hm po⟩
  · rename_i n1
    refine ⟨g, S, ρ, gb, g0, H0, S0, res, r0, rr, tt, er, hm, ?_⟩
    obtain ⟨res1, S1⟩ := res
    cases res1 with
    | xx c' fs' ρ' => exact absurd hm (n1 c' fs' ρ' S1)
    | _ => exact po
/-! ### error.field -/
theorem xob_get {P : Program} {w : World} {H : Hp} {h : Heap} {a : Addr} {cls : Value} {d : Option Addr} (k : HOk P w H h) (r : Rd H a (xob a cls d)) : ∃ (o : Obj) (vs : Array Value), h.get? a = some o ∧ o.cls = cls ∧ o.dict = d ∧ o.data = .fields vs := by
  rcases r with r | ⟨ob, r⟩
  · exact (k a _ r).1
  · exact (k a _ r).2.1
theorem xd_get {P : Program} {w : World} {H : Hp} {h : Heap} {a : Addr} {fs : List (Str × V)} (k : HOk P w H h) (r : Rd H a (.xd fs)) : ∃ mA, h.Ns1 a mA ∧ ∀ f, RelO (fs.lookup f) (mA f) := by
  rcases r with r | ⟨ob, r⟩
  · exact k a _ r
  · exact (k a _ r).2
def rXf (K : PySem.W.Frag) (n : Str) : V → Hp → VK → Prop := fun x H Q => ∃ (a C dd : Addr) (fs : List (Str × V)) (v : V), x = .ref a ∧ Rd H a (xob a (.ref C) (some dd)) ∧ Rd H dd (.xd fs) ∧ XfC K C ∧ PySem.W.findIn K (.ref C) n = some none ∧ fs.lookup n = some v ∧ Q v H
theorem pe_oxf {te : TE} {n : Str} (he : PE X e te) (hb : attributeBase e n X.env (eval e X.env) = eval e X.env := by rfl) : PE X (.Attribute e n pos) (fun σ H Q => te σ H fun x H1 => rXf X.K n x H1 Q) := by
  refine ⟨fun pins s σ H Q I h => ?_⟩
  refine attr_of hb (thn (he.run pins s σ H _ I h) fun u s1 hh => ?_)
  obtain ⟨x, H1, I1, rx, a, C, dd, fs, v, ex, ra, rd, T, hno, l, q⟩ := hh
  subst ex
  obtain rfl : u = Value.ref a := rx
  obtain ⟨o, vs, h1, h2, h3, h4⟩ := xob_get I1.hok ra
  obtain ⟨mA, hns, hr⟩ := xd_get I1.hok rd
  obtain ⟨od, ho, hl⟩ := lookIn_ns hns
  obtain ⟨u, hu, ru⟩ := RelO.some_of (v := v) (o := mA n) (by rw [← l]; exact hr n)
  have J : PySem.W.InstAt s1.heap a o C (some od) := ⟨h1, h2, by unfold PySem.W.notCls; rw [h4] <;> rfl, by rw [h3]; exact ho⟩
  exact HandSPX.exc_get I1.kIn J T.ga T.gg T.exC (PySem.W.findObj_own T.hdC hno rfl (by rw [hl, hu])) (handed_of ru) ⟨v, H1, I1.tok _, ru, q⟩
/-- the field n of a caught exception of one of the classes cs -/
def oXf (cs : List Str) (n : Str) : PV → Option PV
  | .xv c fs => if decide (c ∈ cs) then fs.lookup n else none
  | _ => none
theorem FRf.look {K : PySem.W.Frag} {g : G} {f : Str} {x : PV} : ∀ {xs : List (Str × PV)} {vs : List (Str × V)}, FRf K g xs vs → xs.lookup f = some x → ∃ v, vs.lookup f = some v ∧ FR K g x v
  | _, _, .nil, h => by cases h
  | _, _, .cons (n := n) a b, h => by
    rw [List.lookup_cons] at h ⊢
    cases q : f == n with
    | true => rw [q] at h; cases h; exact ⟨_, rfl, a⟩
    | false => rw [q] at h; exact FRf.look b h
theorem oXf_ok {K : PySem.W.Frag} {cs : List Str} {n : Str} (hc : ∀ c ∈ cs, XfC K (He.ga K c) ∧ PySem.W.findIn K (.ref (He.ga K c)) n = some none) : UnOk K (oXf cs n) (rXf K n) := by
  intro g S H x z u Q w hx e q
  cases x with
  | xv c fs =>
    replace e : (if decide (c ∈ cs) then fs.lookup n else none) = some z := e
    split at e
    · rename_i hm
      obtain ⟨h1, h2⟩ := hc c (of_decide_eq_true hm)
      cases hx.fr rfl with
      | @xv a _ d _ vs s r zz t =>
        cases d with
        | none => rw [zz rfl] at e; cases e
        | some dd =>
          obtain ⟨v, l, fv⟩ := t.look e
          exact ⟨a, _, dd, vs, v, rfl, w.f _ _ s, w.f _ _ (r dd rfl), h1, h2, l, q v g H (.refl w) (.frz fv)⟩
    · cases e
  | _ => cases e
theorem e_xf {cs : List Str} {n : Str} {m : Ex} (hc : ∀ c ∈ cs, XfC X.K (He.ga X.K c) ∧ PySem.W.findIn X.K (.ref (He.ga X.K c)) n = some none) (h : SimE X W e m) (hb : attributeBase e n X.env (eval e X.env) = eval e X.env := by rfl) : SimE X W (.Attribute e n pos) (xUn (oXf cs n) m) := by
  obtain ⟨t, pt, q⟩ := h.ex
  exact ⟨_, pe_oxf pt hb, rch_un (r := rXf X.K n) (oXf_ok hc) q⟩
/-! ### isinstance(e, C), C a class of the program -/
inductive TyZ (K : PySem.W.Frag) (H : Hp) : V → Value → Prop where
  | x {x : V} {t : Value} (h : TyX K H x t) : TyZ K H x t
  | e {a C : Addr} {d : Option Addr} (r : Rd H a (xob a (.ref C) d)) (dd : ∀ b, d = some b → ∃ fs, Rd H b (.xd fs)) (h : XcK K C) : TyZ K H (.ref a) (.ref C)
theorem kit_ofZ {pins : List (Addr × Obj)} {σ : St} {H : Hp} {s : Shared} {x : V} {u t : Value} (I : Inv X pins σ H s) (rx : RelV x u) (ty : TyZ X.K H x t) : ∃ P : Heap → Prop, PySem.W.KitX X.K u t P ∧ P s.heap ∧ u ≠ .builtin "__main__.__loader__#opaque" := by
  cases ty with
  | x h => exact kit_of I rx h
  | @e a C d r dd h =>
    cases (show u = Value.ref a from rx)
    obtain ⟨o, vs, h1, h2, h3, h4⟩ := xob_get I.hok r
    obtain ⟨od, J⟩ : ∃ od : Option Obj, PySem.W.InstAt s.heap a o C od := by
      cases d with
      | none => exact ⟨none, ⟨h1, h2, by unfold PySem.W.notCls; rw [h4] <;> rfl, by rw [h3]; exact trivial⟩⟩
      | some b =>
        obtain ⟨fs, rb⟩ := dd b rfl
        obtain ⟨mA, hns, _⟩ := xd_get I.hok rb
        obtain ⟨od, ho, _⟩ := lookIn_ns hns
        exact ⟨some od, ⟨h1, h2, by unfold PySem.W.notCls; rw [h4] <;> rfl, by rw [h3]; exact ho⟩⟩
    have hcl : (PySem.W.clsIn X.K C).isSome = true := by
      obtain ⟨cd, hc, _⟩ := PySem.W.any_some h.e.hd
      rw [hc]; rfl
    exact ⟨_, PySem.W.kitx_exc hcl h.e.hg h.e.hk h.e.hs h.e.ha h.e.hn h.e.ht h.e.hm, J, fun z => nomatch z⟩
def rIsZ (K : PySem.W.Frag) : List V → Hp → VK → Prop := fun xs H Q => ∃ (x c : V) (t u : Value) (b : Bool), xs = [x, c] ∧ ClsV c u ∧ TyZ K H x t ∧ PySem.W.kitOne K t u = some b ∧ Q (.bl b) H
theorem call_isZ : CallR X (.builtin "isinstance") (rIsZ X.K) := by
  intro pins s σ H xs us Q I r h
  obtain ⟨x, c, t, u, b, rfl, kc, ty, e, q⟩ := h
  cases r with
  | cons rx rr =>
    cases rr with
    | cons rc rr =>
      cases rr
      have e1 := kc.eq rc
      subst e1
      obtain ⟨P, kx, hp, ne⟩ := kit_ofZ I rx ty
      exact PySem.W.kia_one kx I.kIn hp e ne fun tk => ⟨.bl b, H, I.kept (t' := tk) fun _ _ z => z, rfl, q⟩
def isaP (te ti : List (Str × Bool)) (tt : List (String × Bool)) (S : Store) : PV → Option Bool
  | .xv c _ => te.lookup c
  | .ref n => (match S[n]? with
    | some (.ins c _) => ti.lookup c
    | some (.lst _) => tt.lookup "list"
    | some (.dct _) => tt.lookup "dict"
    | none => none)
  | x => (tyN x).bind fun t => tt.lookup t
def xIsa (te ti : List (Str × Bool)) (tt : List (String × Bool)) (m : Ex) : Ex := fun ρ S => mb (m ρ S) fun x => mo ((isaP te ti tt S x).map .bl)
theorem tyP_ok {K : PySem.W.Frag} {d : Str} {te ti : List (Str × Bool)} {tt : List (String × Bool)} (k : IsaK K d te ti tt) {g : G} {S : Store} {H : Hp} {x : PV} {u : V} {b : Bool} (w : WR K g S H) (hx : OV K g H x u) (e : isaP te ti tt S x = some b) : ∃ t, TyZ K H u t ∧ PySem.W.kitOne K t (.ref (He.ga K d)) = some b := by
  have base : (tyN x).bind (fun t => tt.lookup t) = some b → ∃ t, TyZ K H u t ∧ PySem.W.kitOne K t (.ref (He.ga K d)) = some b := fun e => by
    cases q : tyN x with
    | none => rw [q] at e; cases e
    | some t =>
      rw [q] at e
      exact ⟨.type t, .x (tyN_ok w hx q), k.t (t, b) (lookup_mem e)⟩
  cases x with
  | xv c fs =>
    obtain ⟨h1, h2⟩ := k.e (c, b) (lookup_mem e)
    cases hx.fr rfl with
    | @xv a _ dd _ vs s r z t => exact ⟨_, .e (w.f _ _ s) (fun bb eb => ⟨vs, w.f _ _ (r bb eb)⟩) h1, h2⟩
  | ref n =>
    replace e : (match S[n]? with
      | some (.ins c _) => ti.lookup c
      | some (.lst _) => tt.lookup "list"
      | some (.dct _) => tt.lookup "dict"
      | none => none) = some b := e
    cases hx.fr rfl with
    | ref hn =>
      split at e
      · rename_i c fs q
        obtain ⟨h1, h2⟩ := k.i (c, b) (lookup_mem e)
        obtain ⟨dx, vs, a1, _⟩ := w.s n _ q
        exact ⟨_, .x (.base (.ins a1 h1.cl h1.ha h1.hn h1.ht h1.hm)), h2⟩
      · rename_i xs q
        obtain ⟨vs, a1, _⟩ := w.s n _ q
        exact ⟨_, .x (tyx_lst a1), k.t ("list", b) (lookup_mem e)⟩
      · rename_i xs q
        obtain ⟨vs, a1, _⟩ := w.s n _ q
        exact ⟨_, .x (tyx_dct a1), k.t ("dict", b) (lookup_mem e)⟩
      · cases e
  | _ => exact base e
theorem e_isa {te ti : List (Str × Bool)} {tt : List (String × Bool)} {m : Ex} {T : Str} (k : IsaK X.K T te ti tt) (hg : Gl X "isinstance") (hm : X.mg "isinstance" = none) (hgT : Gl X T) (hmT : X.mg T = some (.ref (He.ga X.K T))) (ha : SimE X W e m) (hdT : (T == ("__debug__" : Str)) = false := by decide)
    (hs : starEach [e, .Name T p2] X.env = (false, eval e X.env) :: starEach [.Name T p2] X.env := by rfl) (hs2 : starEach [.Name T p2] X.env = (false, eval (.Name T p2) X.env) :: starEach [] X.env := by rfl) (hpl : (backTo pos (starEach [.Name T p2] X.env)).any (·.1) = false := by rfl) :
    SimE X W (.Call (.Name "isinstance" p) [e, .Name T p2] [] pos) (xIsa te ti tt m) := by
  obtain ⟨t, pt, rt⟩ := ha.ex
  refine ⟨_, pe_callB call_isZ hg hm (by decide +kernel) (pa_cons pt (pa_cons (pe_glob (v := .ref (He.ga X.K T)) hgT hmT rfl hdT) pa_nil hs2) hs) (by decide) (by decide) hs hpl, ?_⟩
  refine Rch.bind (R' := RV X.K) (k := fun x _ S => mo ((isaP te ti tt S x).map .bl)) (tk := fun x _ H1 Q => rIsZ X.K [x, .ref (He.ga X.K T)] H1 Q) rt fun x u σ H g S ρ Q res w er hx hm po => ?_
  cases q : isaP te ti tt S x with
  | none => rw [q] at hm; cases hm
  | some b =>
    rw [q] at hm
    cases hm
    obtain ⟨t, h1, h2⟩ := tyP_ok k w hx q
    exact ⟨u, _, t, _, b, rfl, .own _, h1, h2, po _ g H (.refl w) (.frz (.bl b))⟩
end
end L3

end
section
set_option Elab.async false
set_option linter.all false
set_option maxRecDepth 100000
set_option maxHeartbeats 4000000
namespace L3
open PySem PySem.Spec L2 NdefX
set_option autoImplicit false
/-! ### what is said of the written part, and of the program -/
structure SaysN (fa : List He.Fa) (fn : List He.DefD) (cn : Cns) (si : List SuD) (ow : List Ow) (P : Program) (K : PySem.W.Frag) : Prop where
  m : SaysM fa fn cn si ow K
  file : ((P.main.file : Str) == sFile) = true
  top : (P.main.scope.names.lookup ("super" : Str)).isSome = false
section
variable {fa : List He.Fa} {fn : List He.DefD} {cn : Cns} {si : List SuD} {ow : List Ow} {K : PySem.W.Frag} {P : Program}
theorem SaysN.fact (c : SaysN fa fn cn si ow P K) (i : Nat) {f : He.Fa} (h : fa[i]? = some f := by rfl) : f.ok K = true := c.m.fact i h
theorem SaysN.def_ (c : SaysN fa fn cn si ow P K) (i : Nat) {d : He.DefD} (h : fn[i]? = some d := by rfl) : ∃ fd, FunD K d.name d.qual d.params d.body d.scope (d.dvs K) (d.kws K) (He.fAd K d.at_) fd := c.m.def_ i h
theorem SaysN.con (c : SaysN fa fn cn si ow P K) (i : Nat) {p : Str × PV} (h : cn[i]? = some p := by rfl) : cnB K p = true := c.m.con i h
theorem SaysN.sup (c : SaysN fa fn cn si ow P K) (i : Nat) {d : SuD} (h : si[i]? = some d := by rfl) : SuP K d := c.m.sup i h
theorem SaysN.own (c : SaysN fa fn cn si ow P K) (i : Nat) {f : Ow} (h : ow[i]? = some f := by rfl) : f.ok K = true := c.m.own i h
end
/-! ### raise C(e): the __init__ walked -/
/-- the context of such an __init__ -/
structure InitX (X X' : Cx) (d : SuD) (y : Str) : Prop where
  k : X'.K = X.K
  mg : X'.mg = X.mg
  n1 : X'.N[1]? = some y
  sc : X'.env.scope = defScope d.st
def rTup1 (K : PySem.W.Frag) : V → Hp → VK → Prop := fun x H Q => ∃ p ys, [x] = [.ref p] ∧ ((SqL K H p ys ∧ ∀ l, H l = none → Q (.ref l) (upd H l (.tup ys))) ∨ (SqT K H p ys ∧ Q (.ref p) H))
theorem rTup1_ok {K : PySem.W.Frag} : UnOk K (fun x => bTuple [x]) (rTup1 K) := by
  intro g S H x z u Q w hx e q
  exact bTuple_ok g S H [x] z [u] Q w (.cons hx .nil) e q
theorem rId_ok {K : PySem.W.Frag} : UnOk K (fun x => some x) (fun x H Q => Q x H) := by
  intro g S H x z u Q w hx e q
  cases e
  exact q _ g H (.refl w) hx
section
variable {X : Cx} {h : Heap} {d : SuD} {y fld m : Str} {j : Nat} {p0 p1 p2 p3 p4 p5 q1 q2 q3 : Pos} {rhs : Expr} {r : V → Hp → VK → Prop} {op : PV → Option PV}
theorem sx_mk (I : X.K.In h) (G : h.Ns mainGlobals X.mg) (c : SuP X.K d) (hf : ((X.prog.main.file : Str) == sFile) = true) (ht : (X.prog.main.scope.names.lookup ("super" : Str)).isSome = false)
    (har : ∃ ar, ((defArgs d.st).posonlyargs ++ (defArgs d.st).args).head? = some ar ∧ ar.arg = "self") (hst : defBody d.st = [supStmt m j p0 p1 p2 p3 p4 p5, .Assign [.Attribute (.Name "self" q1) fld q2] rhs q3])
    (Sc : NScope [("self" : Str), y, "__class__"] [("self" : Str), y] ["__class__"] (defScope d.st)) (hks : (defScope d.st).names.lookup ("super" : Str) = some .globalImplicit) (hsl : (defScope d.st).names.lookup ("self" : Str) = some .local)
    (hno : PySem.W.findIn X.K (.ref (He.ga X.K d.cls)) fld = some none)
    (hev : ∀ env : PySem.Env, ∃ pl : Sem Bool, eval (.Call (.Attribute (.Call (.Name "super" p0) [] [] p1) "__init__" p2) [.Constant (.str m) j p3] [] p4) env = (do
      let ov ← attributeBase (.Call (.Name "super" p0) [] [] p1) "__init__" env (eval (.Call (.Name "super" p0) [] [] p1) env)
      standAt p2.atName
      let (f, first) ← holding [ov] (getMethod ov "__init__" pl)
      callWith p4 f first (backTo p4 (starEach [.Constant (.str m) j p3] env)) []))
    (hsw : ∀ env : PySem.Env, swapsWith (.Call (.Attribute (.Call (.Name "super" p0) [] [] p1) "__init__" p2) [.Constant (.str m) j p3] [] p4) none p5.line env = pure false)
    (hsw2 : ∀ env : PySem.Env, swapsWith rhs (some (.Attribute (.Name "self" q1) fld q2)) q3.line env = pure false)
    (hba : ∀ (body : List Stmt) (cl : List (Str × Addr)) (kV doc pm ct cd : Value) (an : Option Addr) (us : List Value), us.length = 2 → bindArgs (PySem.W.fnX "__init__" d.qual (defArgs d.st) body (defScope d.st) cl .none kV doc pm an cd ct) ⟨us, []⟩ = pure ([("self" : Str), y].zip us))
    (hr : ∀ X' : Cx, InitX X X' d y → ∃ te : TE, PE X' rhs te ∧ ∀ (σ : L2.St) (H : Hp) (z : V) (Q : VK), σ[1]? = some (some z) → r z H Q → te σ H Q) (mono : ∀ (z : V) (H : Hp) (Q Q' : VK), (∀ v H', Q v H' → Q' v H') → r z H Q → r z H Q') (uo : UnOk X.K op r) : SxK X 3 d.cls fld op := by
  obtain ⟨cc, cda, oc, od, kV, doc, pm, ct, an, osl, lk, hcd, su⟩ := c.ex
  rw [hst] at lk
  have S := su X.prog hf ht har
  refine ⟨2, d.at_ X.K, _, [("self" : Str), y], r, Nat.le_refl _, c.T, c.fi, c.ty, fn_super (N := [("self" : Str), y, "__class__"]) (k := 1) S lk hcd Sc rfl hks hsl hev hsw ?_ (by simp) ?_, Binds.all fun us hl => hba _ _ _ _ _ _ _ _ us hl, PySem.W.mg_of I G c.gl, uo⟩
  · rintro vs H Q E ⟨a, z, rfl, _⟩
    rfl
  · rintro A outer s H vs Q E hro ⟨a, z, rfl, ea, q⟩
    refine ⟨a, rfl, ea, ?_⟩
    obtain ⟨te, pt, rt⟩ := hr (ncx (L2.CX X.prog X.w) X.prog X.w X.K X.mg X.base [("self" : Str), y, "__class__"] ⟨"__init__", d.qual, defArgs d.st, [supStmt m j p0 p1 p2 p3 p4 p5, .Assign [.Attribute (.Name "self" q1) fld q2] rhs q3], defScope d.st, [("__class__", cc)], cda⟩ (d.at_ X.K) A outer s H E) ⟨rfl, rfl, rfl, rfl⟩
    refine ⟨_, pss_one (ps_ost (pe_var (i := 0) rfl (.inl hsl)) pt (hsw2 _)), ?_⟩
    refine rt _ H z _ rfl ?_
    refine mono _ _ _ _ (fun v H1 hq => ?_) q
    exact ⟨_, rfl, a, _, rfl, c.T, hno, .inl ⟨hq.1, hq.2⟩⟩
theorem mono_id : ∀ (z : V) (H : Hp) (Q Q' : VK), (∀ v H', Q v H' → Q' v H') → (fun (x : V) (H : Hp) (Q : VK) => Q x H) z H Q → (fun (x : V) (H : Hp) (Q : VK) => Q x H) z H Q' := fun z H Q Q' k q => k _ _ q
theorem mono_tup {K : PySem.W.Frag} : ∀ (z : V) (H : Hp) (Q Q' : VK), (∀ v H', Q v H' → Q' v H') → rTup1 K z H Q → rTup1 K z H Q' := by
  rintro z H Q Q' k ⟨p, ys, e, ⟨a, b⟩ | ⟨a, b⟩⟩
  · exact ⟨p, ys, e, .inl ⟨a, fun l hl => k _ _ (b l hl)⟩⟩
  · exact ⟨p, ys, e, .inr ⟨a, k _ _ b⟩⟩
theorem rhs_name {X X' : Cx} {d : SuD} {y : Str} {q : Pos} (hy : (defScope d.st).names.lookup y = some .local) (hd : (y == ("__debug__" : Str)) = false) (hcd : (y == ("__classdict__" : Str)) = false) (i : InitX X X' d y) : ∃ te : TE, PE X' (.Name y q) te ∧ ∀ (σ : L2.St) (H : Hp) (z : V) (Q : VK), σ[1]? = some (some z) → (fun (x : V) (H : Hp) (Q : VK) => Q x H) z H Q → te σ H Q :=
  ⟨_, pe_var (i := 1) i.n1 (.inl (by rw [i.sc]; exact hy)) hd hcd, fun σ H z Q e q => ⟨z, e, q⟩⟩
theorem rhs_tuple {X X' : Cx} {d : SuD} {y : Str} {q q' q4 : Pos} (hy : (defScope d.st).names.lookup y = some .local) (hd : (y == ("__debug__" : Str)) = false) (hcd : (y == ("__classdict__" : Str)) = false) (hg : (defScope d.st).names.lookup ("tuple" : Str) = some .globalImplicit) (hm : X.mg "tuple" = none)
    (he : ∀ env : PySem.Env, starEach [.Name y q] env = (false, eval (.Name y q) env) :: starEach [] env) (hpl : ∀ env : PySem.Env, (backTo q4 (starEach [] env)).any (·.1) = false) (i : InitX X X' d y) : ∃ te : TE, PE X' (.Call (.Name "tuple" q') [.Name y q] [] q4) te ∧ ∀ (σ : L2.St) (H : Hp) (z : V) (Q : VK), σ[1]? = some (some z) → rTup1 X.K z H Q → te σ H Q := by
  refine ⟨_, pe_callTy call_tuple_of (show X'.env.scope.names.lookup ("tuple" : Str) = some .globalImplicit by rw [i.sc]; exact hg) (by rw [i.mg]; exact hm) (by decide +kernel) (pa_cons (pe_var (i := 1) i.n1 (.inl (by rw [i.sc]; exact hy)) hd hcd) pa_nil (he _)) (by decide) (by decide) (he _) (hpl _), fun σ H z Q e q => ⟨z, e, ?_⟩⟩
  rw [i.k]
  exact q
end
end L3

end
section
set_option Elab.async false
set_option linter.all false
set_option maxRecDepth 100000
set_option maxHeartbeats 4000000
namespace L3
open PySem PySem.Spec L2
set_option autoImplicit false
theorem SxK.at {X : Cx} {j j' : Nat} {c fld : Str} {op : PV → Option PV} (h : SxK X j c fld op) (hj : j ≤ j') : SxK X j' c fld op := by
  obtain ⟨k, fI, fd, ps, r, hk, q⟩ := h.ex
  exact ⟨⟨k, fI, fd, ps, r, Nat.le_trans hk hj, q⟩⟩
section
variable {K : PySem.W.Frag} {n : Str}
theorem xf_nil : ∀ c ∈ ([] : List Str), XfC K (He.ga K c) ∧ PySem.W.findIn K (.ref (He.ga K c)) n = some none := fun c h => by cases h
theorem xf_cons {c : Str} {cs : List Str} (h1 : (Ow.exc c).ok K = true) (h2 : (Ow.noa c n).ok K = true) (r : ∀ c ∈ cs, XfC K (He.ga K c) ∧ PySem.W.findIn K (.ref (He.ga K c)) n = some none) : ∀ c' ∈ c :: cs, XfC K (He.ga K c') ∧ PySem.W.findIn K (.ref (He.ga K c')) n = some none := by
  intro c' h
  rcases List.mem_cons.mp h with e | e
  · subst e; exact ⟨(excB_ok h1).f, He.eqO_ok h2⟩
  · exact r c' e
end
end L3

end
section
set_option Elab.async false
set_option linter.all false
set_option maxRecDepth 100000
set_option maxHeartbeats 4000000
namespace L3
open PySem PySem.Spec L2
set_option autoImplicit false
theorem units2 {k : Nat} {A : Around} (r : Room k A) : A.units + 65 < cLine := by have := r.un; omega
/-! ### t.index(x) -/
def rTIdx (K : PySem.W.Frag) : V → List V → Hp → VK → Prop := fun x xs H Q => ∃ (a : Addr) (y : V) (d : PyData) (ds : List PyData) (j : Nat) (z : PyData), x = V.ref a ∧ xs = [y] ∧ Dp K H (V.ref a) (.tuple ds) ∧ Dp K H y d ∧
  SeqAt.shaped (.tuple ds) = true ∧ SeqAt.shaped d = true ∧ ds[j]? = some z ∧ PyData.eqv z d = true ∧ (∀ (m : Nat) (z' : PyData), m < j → ds[m]? = some z' → PyData.eqv z' d = false) ∧ Q (.int (j : Nat)) H
section
variable {X : Cx}
theorem mt_tidx (hu : X.A.units + 65 < cLine) : MtR X "tuple.index" (rTIdx X.K) := by
  intro pins s σ H x xs v us Q I rx rxs h
  obtain ⟨a, y, d, ds, j, z, rfl, rfl, hl, hy, sl, sd, hz, hzj, hno, q⟩ := h
  cases rx
  obtain ⟨uy, rfl, ry⟩ := rxs.one
  obtain ⟨bs, r1⟩ := Dp.reads I d y uy hy ry
  have lay : PyData.canLayAll0 ds = true := SeqAt.canLay_of_shaped sl
  have room : X.A.units + 1 + min (PyData.depthAll ds) d.depth < cLine := PyProof.Rows.room_in_shaped sd hu
  cases hl with
  | tup hs ha =>
    obtain ⟨its, rv, ⟨⟨cls, dd, data, sls⟩, ho, hc, n, hdt⟩, hlen⟩ := I.tuple hs
    simp only at hc hdt
    subst hc hdt
    obtain ⟨as, h4⟩ := Dp.readsAll I ds _ its ha rv
    have hn : its.length = ds.length := SeqAt.ReadsAll.length ds its as h4
    have hmap : its.map (SeqAt.readOf s.heap) = ds := SeqAt.readsAll_map ds its as lay h4
    have hjd : j < ds.length := (List.getElem?_eq_some_iff.mp hz).1
    have hj : j < its.toArray.size := by rw [List.size_toArray]; omega
    have rd : ∀ (m : Nat) (hm : m < its.toArray.size) (z' : PyData), ds[m]? = some z' → SeqAt.readOf s.heap its.toArray[m] = z' := by
      intro m hm z' hz'
      have hml : m < its.length := by simpa using hm
      rw [← hmap, List.getElem?_map, List.getElem?_eq_getElem hml] at hz'
      simpa using Option.some.inj hz'
    refine call_meets PySem.F.slot_tuple_index ⟨_, ho, rfl⟩ PySem.F.entry_tuple_index (PySem.F.args_tuple_index_2 _ _)
      (_root_.TI.tuple_indexAt a its.toArray n dd sls uy (fun u => PyData.eqv (SeqAt.readOf s.heap u) d) j hj (by rw [rd j hj z hz]; exact hzj) (fun m hm hmj => ?_)) ⟨ho, SeqAt.items_eqAt (vs := its.toArray) (show ReadsAll s.heap its.toArray.toList ds as from h4) r1 lay (SeqAt.canLay_of_shaped sd) room, ⟨.int (j : Nat), H, I.tok _, ⟨_, rfl⟩, q⟩⟩
    have hz' : ds[m]? = some ds[m] := List.getElem?_eq_getElem (by omega)
    rw [rd m hm _ hz']
    exact hno m _ hmj hz'
end
def mTIdx : PV → List PV → Option PV := fun x xs => match x, xs with
  | .tup zs, [y] => if isDs zs && isD y && SeqAt.shaped (.tuple (toDs zs)) && SeqAt.shaped (toD y) then (idxD (toD y) (toDs zs)).map fun j => .int (j : Nat) else none
  | _, _ => none
theorem mTIdx_ok {K : PySem.W.Frag} : MtOk K mTIdx (rTIdx K) := by
  intro g S H x xs z u us Q w hx hxs e q
  unfold mTIdx at e
  split at e
  · rename_i zs y
    obtain ⟨v, rfl, hv⟩ := ovs1 hxs
    split at e
    · rename_i hc
      simp only [Bool.and_eq_true] at hc
      obtain ⟨⟨⟨c1, c2⟩, c3⟩, c4⟩ := hc
      cases e3 : idxD (toD y) (toDs zs) with
      | none => rw [e3] at e; cases e
      | some j =>
        rw [e3] at e
        cases e
        cases hx.fr rfl with
        | tup s f =>
          obtain ⟨zz, h1, h2, h3⟩ := idxD_ok e3
          exact ⟨_, v, toD y, toDs zs, j, zz, rfl, rfl, .tup (w.f.sqT s) (FRs.dp w.f _ _ f c1), hv.dp w.f c2, c3, c4, h1, h2, h3, q _ g H (.refl w) (.frz (.int _))⟩
    · cases e
  · cases e
section
variable {X : Cx} {md : Md X.K} {W : WX} {o e a : Expr} {apos cpos pos p p2 : Pos}
/-- C.index(e), C a module's tuple -/
theorem e_indexC {x : Str} {h : Heap} {zs : List PV} {n : Ar} (hu : X.A.units + 65 < cLine) (I : X.K.In h) (G : h.Ns mainGlobals X.mg) (hg : Gl X x) (hc : Con X x (.tup zs)) (ht : tplB X.K x = true) (ha : SimA X W [e] n) (hd : (x == ("__debug__" : Str)) = false := by decide)
    (hbase : attributeBase (.Name x p) "index" X.env (eval (.Name x p) X.env) = eval (.Name x p) X.env := by rfl)
    (hfew : ((backTo cpos (starEach [e] X.env)).all (fun x => !x.1) && (backToKw cpos (keywordEach [] X.env)).all (fun x => x.1.isSome) && decide ([e].length + ([] : List Keyword).length + (if ([] : List Keyword).isEmpty then 0 else 1) < 30)) = true := by rfl)
    (hline : (apos.endLine == cpos.line) = true := by rfl) (hs : starEach [e] X.env = (false, eval e X.env) :: starEach [] X.env := by rfl) (hplain : (backTo cpos (starEach [] X.env)).any (·.1) = false := by rfl) :
    SimE X W (.Call (.Attribute (.Name x p) "index" apos) [e] [] cpos) (xCall (mTIdx (.tup zs)) n) := by
  obtain ⟨a, o, e1, e2, e3, e4⟩ := tplB_ok ht
  obtain ⟨u, v, hm, r, hf⟩ := hc.ex
  have hm2 := PySem.W.mg_of I G e1
  rw [hm] at hm2
  cases hm2
  obtain ⟨t1, p1, r1⟩ := ha.ex
  refine ⟨_, pe_bm PySem.F.plainAttrs_tuple PySem.F.slot_tuple_index PySem.F.type_tuple_index (mt_tidx hu) (pe_glob hg hm r hd) p1 hbase hfew hline hs hplain, fun σ H g S ρ Q res w er hmm po => ?_⟩
  have fv := hf g
  cases v with
  | ref b =>
    have eb : b = a := Value.ref.inj (show Value.ref a = Value.ref b from r) |>.symm
    subst eb
    refine ⟨.inr (.inl ⟨rfl, o, e2, e3, e4⟩), ?_⟩
    unfold xCall at hmm
    cases q1 : n ρ S with
    | none => rw [q1] at hmm; cases hmm
    | some z1 =>
      rw [q1] at hmm
      cases z1 with
      | ex c fs => cases hmm; exact r1 σ H g S ρ _ (.ex c fs) w er q1 po
      | ok xs =>
        refine r1 σ H g S ρ _ (.ok xs) w er q1 fun us g1 H1 gr1 ox => ?_
        replace hmm : mo (mTIdx (.tup zs) xs) = some res := hmm
        cases q2 : mTIdx (.tup zs) xs with
        | none => rw [q2] at hmm; cases hmm
        | some z =>
          rw [q2] at hmm
          cases hmm
          exact mTIdx_ok g1 S H1 (.tup zs) xs z _ us Q (gr1.wr w) (.frz (hf g1)) ox q2 fun v g' H' gr oz => po v g' H' (gr1.trans gr) oz
  | _ => cases fv
/-! ### isinstance: of what an expression with effects gives; of a tuple of built-in classes -/
def kIsa (te ti : List (Str × Bool)) (tt : List (String × Bool)) : PV → Env → Store → M PV := fun x _ S => mo ((isaP te ti tt S x).map .bl)
def xIsaX (te ti : List (Str × Bool)) (tt : List (String × Bool)) (m : Xm) : Xm := xBP m (kIsa te ti tt)
theorem x_isa {te ti : List (Str × Bool)} {tt : List (String × Bool)} {m : Xm} {T : Str} (k : IsaK X.K T te ti tt) (hg : Gl X "isinstance") (hm : X.mg "isinstance" = none) (hgT : Gl X T) (hmT : X.mg T = some (.ref (He.ga X.K T))) (ha : SimX X md W e m) (hdT : (T == ("__debug__" : Str)) = false := by decide)
    (hs : starEach [e, .Name T p2] X.env = (false, eval e X.env) :: starEach [.Name T p2] X.env := by rfl) (hs2 : starEach [.Name T p2] X.env = (false, eval (.Name T p2) X.env) :: starEach [] X.env := by rfl) (hpl : (backTo pos (starEach [.Name T p2] X.env)).any (·.1) = false := by rfl) :
    SimX X md W (.Call (.Name "isinstance" p) [e, .Name T p2] [] pos) (xIsaX te ti tt m) := by
  obtain ⟨t, pt, rt⟩ := ha.ex
  refine ⟨_, pe_callB call_isZ hg hm (by decide +kernel) (pa_cons pt (pa_cons (pe_glob (v := .ref (He.ga X.K T)) hgT hmT rfl hdT) pa_nil hs2) hs) (by decide) (by decide) hs hpl, ?_⟩
  refine RchX.pur (tk := fun x _ H1 Q => rIsZ X.K [x, .ref (He.ga X.K T)] H1 Q) rt fun x u σ H g S ρ Q res w er hx hm po => ?_
  unfold kIsa at hm
  cases q : isaP te ti tt S x with
  | none => rw [q] at hm; cases hm
  | some b =>
    rw [q] at hm
    cases hm
    obtain ⟨t, h1, h2⟩ := tyP_ok k w hx q
    exact ⟨u, _, t, _, b, rfl, .own _, h1, h2, po _ g H (.refl w) (.frz (.bl b))⟩
def rIsT (K : PySem.W.Frag) : List V → Hp → VK → Prop := fun xs H Q => ∃ (x : V) (tp : Addr) (cs : List V) (t : Value) (us : List Value) (b : Bool), xs = [x, .ref tp] ∧ SqT K H tp cs ∧ Paired ClsV cs us ∧ TyX K H x t ∧ PySem.W.kitAny K t us = some b ∧ Q (.bl b) H
theorem call_isT : CallR X (.builtin "isinstance") (rIsT X.K) := by
  intro pins s σ H xs us Q I r h
  obtain ⟨x, tp, cs, t, ws, b, rfl, hT, k, ty, e, q⟩ := h
  cases r with
  | cons r1 rr =>
    cases rr with
    | @cons _ u2 _ _ r2 rr =>
      cases rr
      cases (show u2 = Value.ref tp from r2)
      obtain ⟨P, Z, p, hx⟩ := kit_of I r1 ty
      obtain ⟨its, rv, ⟨⟨oc, od, dt, sl⟩, h1, h2, n, h3⟩, _⟩ := I.tuple hT
      have e3 := ClsV.all k rv
      subst e3
      simp only at h2 h3
      subst h2 h3
      exact PySem.W.kia_tup Z I.kIn p h1 e hx fun tk => ⟨.bl b, H, I.tok tk, rfl, q⟩
def kdAny : List Kd → PV → Option Bool
  | [], x => (tyN x).map fun _ => false
  | k :: ks, x => match isKd k x with
    | some true => some true
    | some false => kdAny ks x
    | none => none
def tysOf : List PV → Option (List String)
  | [] => some []
  | .ty n :: r => (tysOf r).map (n :: ·)
  | _ => none
def kdOf : String → Option Kd
  | "int" => some .int | "bool" => some .bool | "str" => some .str | "tuple" => some .tuple | "list" => some .list | "dict" => some .dict
  | _ => none
def bIsT (ks : List Kd) : List PV → Option PV
  | [x, .tup ts] => (match tysOf ts with
    | some ns => if ns = ks.map Kd.nm then (kdAny ks x).map .bl else none
    | none => none)
  | _ => none
theorem tysOf_ok {K : PySem.W.Frag} {g : G} : ∀ {ts : List PV} {vs : List V} {ns : List String}, FRs K g ts vs → tysOf ts = some ns → Paired ClsV vs (ns.map Value.type)
  | [], _, _, f, e => by cases f; cases e; exact .nil
  | t :: ts, _, _, f, e => by
    cases f with
    | cons a b =>
      cases t with
      | ty n =>
        cases e2 : tysOf ts with
        | none => simp only [tysOf, e2] at e; cases e
        | some r => simp only [tysOf, e2] at e; cases e; cases a; exact .cons (.ty n) (tysOf_ok b e2)
      | _ => cases e
theorem kdAny_ok {K : PySem.W.Frag} {x : PV} {b : Bool} : ∀ {ks : List Kd}, kdAny ks x = some b → ∃ t, tyN x = some t ∧ PySem.W.kitAny K (.type t) ((ks.map Kd.nm).map Value.type) = some b
  | [], e => by
    unfold kdAny at e
    cases q : tyN x with
    | none => rw [q] at e; cases e
    | some t => rw [q] at e; cases e; exact ⟨t, rfl, rfl⟩
  | k :: ks, e => by
    unfold kdAny at e
    split at e
    · rename_i q
      cases e
      obtain ⟨t, h1, h2⟩ := kd_ty k x true q
      refine ⟨t, h1, ?_⟩
      show (match PySem.W.kitOne K (.type t) (.type k.nm) with | some true => some true | some false => PySem.W.kitAny K (.type t) ((ks.map Kd.nm).map Value.type) | none => none) = some true
      rw [kit_ty h2]
    · rename_i q
      obtain ⟨t, h1, h2⟩ := kd_ty k x false q
      obtain ⟨t', h3, h4⟩ := kdAny_ok e
      rw [h1] at h3
      cases h3
      refine ⟨t, h1, ?_⟩
      show (match PySem.W.kitOne K (.type t) (.type k.nm) with | some true => some true | some false => PySem.W.kitAny K (.type t) ((ks.map Kd.nm).map Value.type) | none => none) = some b
      rw [kit_ty h2]
      exact h4
    · cases e
theorem bIsT_ok {K : PySem.W.Frag} {ks : List Kd} : CallOk K (bIsT ks) (rIsT K) := by
  intro g S H xs z us Q w hx e q
  unfold bIsT at e
  split at e
  · rename_i x ts
    obtain ⟨u, v, rfl, hu, hv⟩ := ovs2 hx
    split at e
    · rename_i ns en
      split at e
      · rename_i ek
        cases q2 : kdAny ks x with
        | none => rw [q2] at e; cases e
        | some b =>
          rw [q2] at e
          cases e
          cases hv.fr rfl with
          | tup s f =>
            obtain ⟨t, h1, h2⟩ := kdAny_ok (K := K) q2
            exact ⟨u, _, _, .type t, _, b, rfl, w.f.sqT s, tysOf_ok f en, tyN_ok w hu h1, by rw [ek]; exact h2, q _ g H (.refl w) (.frz (.bl b))⟩
      · cases e
    · cases e
  · cases e
theorem c_isT {ks : List Kd} : CallR X (.builtin "isinstance") (rIsT X.K) ∧ CallOk X.K (bIsT ks) (rIsT X.K) := ⟨call_isT, bIsT_ok⟩
theorem e_isiT {ks : List Kd} {n : Ar} {e2 : Expr} (hg : Gl X "isinstance") (hm : X.mg "isinstance" = none) (ha : SimA X W [e, e2] n)
    (hs : starEach [e, e2] X.env = (false, eval e X.env) :: starEach [e2] X.env := by rfl) (hpl : (backTo pos (starEach [e2] X.env)).any (·.1) = false := by rfl) :
    SimE X W (.Call (.Name "isinstance" p) [e, e2] [] pos) (xCall (bIsT ks) n) := e_callB (id := "isinstance") call_isT bIsT_ok hg hm (by decide +kernel) ha (by decide) (by decide) hs hpl
end
end L3

end
section
set_option Elab.async false
set_option linter.all false
set_option maxRecDepth 100000
set_option maxHeartbeats 4000000
namespace L3
open PySem PySem.Spec L2
set_option autoImplicit false
/-! ### a dict is locked while it is walked -/
def NF (X : Cx) (d : Addr) : Prop := ∀ o' u', X.H_0 d ≠ some (.frz o' u')
def tLkA (X : Cx) (te : TE) : TE := fun σ H Q => te σ H fun x H1 => Q x H1 ∨ ∃ d u, x = .ref d ∧ H1 d = some u ∧ Mut (some u) ∧ ∀ od, NF X d → Q x (upd H1 d (.frz od u))
def unlS (X : Cx) (P : St → Hp → Prop) : St → Hp → Prop := fun σ H => P σ H ∨ ∃ d od u, H d = some (.frz od u) ∧ NF X d ∧ P σ (upd H d u)
def unlV (X : Cx) (P : VK) : VK := fun v H => P v H ∨ ∃ d od u, H d = some (.frz od u) ∧ NF X d ∧ P v (upd H d u)
def unlD (X : Cx) (D : Ends) : Ends := ⟨unlS X D.nx, unlV X D.rt, unlS X D.bk, unlS X D.ct⟩
section
variable {X : Cx} {e : Expr} {te : TE} {st : Stmt} {t : TS}
theorem pe_lkA (h : PE X e te) : PE X e (tLkA X te) := by
  refine ⟨fun pins s σ H Q I hw => ?_⟩
  refine thn (h.run pins s σ _ _ I hw) fun v s1 ⟨x, H1, I1, r, q⟩ => ?_
  rcases q with q | ⟨d, u, ex, hd, mu, q⟩
  · exact ⟨x, H1, I1, r, q⟩
  · obtain ⟨od, I2⟩ := I1.lock hd mu
    exact ⟨x, _, I2, r, q od (I1.nofrz hd mu)⟩
theorem ps_unl (h : PS X st t) : PS X st (fun D σ H => t (unlD X D) σ H) := by
  refine ⟨fun pins s σ H D I hw => ?_⟩
  refine thn (h.run pins s σ _ _ I hw) fun f s1 q => ?_
  have go : ∀ {P : St → Hp → Prop} {σ' : St} {H' : Hp}, Inv X pins σ' H' s1 → unlS X P σ' H' → ∃ σ' H', Inv X pins σ' H' s1 ∧ P σ' H' := by
    intro P σ' H' I2 q
    rcases q with q | ⟨d, od, u, e, nf, q⟩
    · exact ⟨σ', H', I2, q⟩
    · exact ⟨σ', _, I2.unlock e nf, q⟩
  cases f with
  | next => obtain ⟨σ', H', I2, q⟩ := q; exact go I2 q
  | brk => obtain ⟨σ', H', I2, q⟩ := q; exact go I2 q
  | cont => obtain ⟨σ', H', I2, q⟩ := q; exact go I2 q
  | ret v =>
    obtain ⟨x, σ', H', I2, r, q⟩ := q
    rcases q with q | ⟨d, od, u, e, nf, q⟩
    · exact ⟨x, σ', H', I2, r, q⟩
    · exact ⟨x, σ', _, I2.unlock e nf, r, q⟩
theorem pe_unl (h : PE X e te) : PE X e (fun σ H Q => te σ H (unlV X Q)) := by
  refine ⟨fun pins s σ H Q I hw => ?_⟩
  refine thn (h.run pins s σ _ _ I hw) fun v s1 ⟨x, H1, I1, r, q⟩ => ?_
  rcases q with q | ⟨d, od, u, e, nf, q⟩
  · exact ⟨x, H1, I1, r, q⟩
  · exact ⟨x, _, I1.unlock e nf, r, q⟩
end
/-! ### what may be read, but for locks themselves -/
def NoFz (u : HO) : Prop := ∀ o w, u ≠ .frz o w
def RdN (F H : Hp) : Prop := ∀ a u, NoFz u → Rd F a u → Rd H a u
section
variable {K : PySem.W.Frag} {g g' : G} {H H' : Hp}
mutual
theorem OV.monoN (h : GLe g g') (hh : RdN H H') : ∀ (x : PV) (v : V), OV K g H x v → OV K g' H' x v
  | .ol xs, _, q => by
    cases q with
    | frz z => cases z
    | ol a b => exact .ol (hh _ _ (fun _ _ z => nomatch z) a) (FRs.mono h _ _ b)
  | .od xs, _, q => by
    cases q with
    | frz z => cases z
    | od a b => exact .od (hh _ _ (fun _ _ z => nomatch z) a) (OVk.monoN h hh xs _ b)
  | .non, _, q => by cases q with | frz z => exact .frz (FR.mono h _ _ z)
  | .bl _, _, q => by cases q with | frz z => exact .frz (FR.mono h _ _ z)
  | .int _, _, q => by cases q with | frz z => exact .frz (FR.mono h _ _ z)
  | .str _, _, q => by cases q with | frz z => exact .frz (FR.mono h _ _ z)
  | .ty _, _, q => by cases q with | frz z => exact .frz (FR.mono h _ _ z)
  | .kl _, _, q => by cases q with | frz z => exact .frz (FR.mono h _ _ z)
  | .xv _ _, _, q => by cases q with | frz z => exact .frz (FR.mono h _ _ z)
  | .tup _, _, q => by cases q with | frz z => exact .frz (FR.mono h _ _ z)
  | .lst _, _, q => by cases q with | frz z => exact .frz (FR.mono h _ _ z)
  | .dct _, _, q => by cases q with | frz z => exact .frz (FR.mono h _ _ z)
  | .ref _, _, q => by cases q with | frz z => exact .frz (FR.mono h _ _ z)
theorem OVk.monoN (h : GLe g g') (hh : RdN H H') : ∀ (x : List (Key × PV)) (v : List (Key × V)), OVk K g H x v → OVk K g' H' x v
  | [], _, q => by cases q; exact .nil
  | (k, x) :: xs, _, q => by cases q with | cons a b => exact .cons (OV.monoN h hh x _ a) (OVk.monoN h hh xs _ b)
end
theorem OVf.monoN (h : GLe g g') (hh : RdN H H') : ∀ {x : List (Str × PV)} {v : List (Str × V)}, OVf K g H x v → OVf K g' H' x v
  | _, _, .nil => .nil
  | _, _, .cons a b => .cons (OV.monoN h hh _ _ a) (OVf.monoN h hh b)
theorem SOr.monoN {a : Addr} (h : GLe g g') (hh : RdN H H') (hi : ∀ C dx fs, H a = some (.ins C dx fs) → H' a = some (.ins C dx fs)) : ∀ {o : SO}, SOr K g H a o → SOr K g' H' a o
  | .ins c fs, ⟨dx, vs, e, q⟩ => ⟨dx, vs, hi _ _ _ e, q.monoN h hh⟩
  | .lst xs, ⟨vs, e, q⟩ => ⟨vs, hh _ _ (fun _ _ z => nomatch z) e, FRs.mono h _ _ q⟩
  | .dct xs, ⟨vs, e, q⟩ => ⟨vs, hh _ _ (fun _ _ z => nomatch z) e, OVk.monoN h hh _ _ q⟩
end
/-- w may be read as u: L is w, or w locked -/
inductive Lw (u : HO) : HO → HO → Prop
  | eq {w : HO} : Lw u w w
  | lk (od : Obj) : Lw u u (.frz od u)
theorem Lw.rd {u w L : HO} {H J : Hp} {d : Addr} (l : Lw u w L) (h : H d = some w) (j : J d = some L) {v : HO} (r : Rd H d v) (nu : NoFz u) : Rd J d v := by
  cases l with
  | eq => rcases r with r | ⟨o, r⟩ <;> rw [h] at r <;> cases r <;> first | exact .inl j | exact .inr ⟨_, j⟩
  | lk od =>
    rcases r with r | ⟨o, r⟩ <;> rw [h] at r <;> cases r
    · exact .inr ⟨od, j⟩
    · exact absurd rfl (nu _ _)
theorem Lw.dr {u w L : HO} {H J : Hp} {d : Addr} (l : Lw u w L) (h : H d = some w) (j : J d = some L) {v : HO} (r : Rd J d v) (nv : NoFz v) (nu : NoFz u) : Rd H d v := by
  cases l with
  | eq => rcases r with r | ⟨o, r⟩ <;> rw [j] at r <;> cases r <;> first | exact .inl h | exact .inr ⟨_, h⟩
  | lk od =>
    rcases r with r | ⟨o, r⟩ <;> rw [j] at r <;> cases r
    · exact absurd rfl (nv _ _)
    · exact .inl h
theorem RdLe.upd {F H : Hp} {d : Addr} {u w L : HO} (r : RdLe F H) (h : H d = some w) (l : Lw u w L) (nu : NoFz u) : RdLe F (L2.upd H d L) := fun a v q => by
  by_cases e : a = d
  · subst e; exact l.rd h upd_same (r _ _ q) nu
  · rcases r a v q with z | ⟨o, z⟩
    · exact .inl (by rw [upd_ne e]; exact z)
    · exact .inr ⟨o, by rw [upd_ne e]; exact z⟩
theorem RdN.upd {H : Hp} {d : Addr} {u w L : HO} (h : H d = some w) (l : Lw u w L) (nu : NoFz u) : RdN H (L2.upd H d L) := fun a v nv q => RdLe.upd (RdLe.refl H) h l nu a v q
theorem RdN.dpu {H : Hp} {d : Addr} {u w L : HO} (h : H d = some L) (l : Lw u w L) (nu : NoFz u) : RdN H (L2.upd H d w) := fun a v nv q => by
  by_cases e : a = d
  · subst e; exact l.dr upd_same h q nv nu
  · rcases q with z | ⟨o, z⟩
    · exact .inl (by rw [upd_ne e]; exact z)
    · exact .inr ⟨o, by rw [upd_ne e]; exact z⟩
/-- the walk begins at H, from the base g0 H0; the lock is laid; at the end it is taken away -/
structure Lk {K : PySem.W.Frag} (md : Md K) (g0 : G) (H0 : Hp) (S0 : Store) (g : G) (H : Hp) (S : Store) (d : Addr) (w L : HO) : Prop where
  ex : ∃ g0', md.R g0' S0 (upd H0 d L) ∧ md.R g S (upd H d L) ∧ md.T g0' (upd H0 d L) S0 g (upd H d L) S ∧ (∀ (σ : St) (ρ : Env), EnvS md H0 g H σ ρ → EnvS md (upd H0 d L) g (upd H d L) σ ρ) ∧
    ∀ (g' : G) (H' : Hp) (S' : Store), md.R g' S' H' → md.T g0' (upd H0 d L) S0 g' H' S' → H' d = some L ∧ md.R g' S' (upd H' d w) ∧ md.T g0 H0 S0 g' (upd H' d w) S' ∧ ∀ (σ : St) (ρ : Env), EnvS md (upd H0 d L) g' H' σ ρ → EnvS md H0 g' (upd H' d w) σ ρ
theorem EnvS.off {K : PySem.W.Frag} {md : Md K} {H0 H0' : Hp} {g : G} {H H' : Hp} {σ : St} {ρ : Env} (e : EnvS md H0 g H σ ρ) (h : ∀ a o, H a = some o → g.F a = none → H0 a = none → H' a = some o ∧ H0' a = none) : EnvS md H0' g H' σ ρ := by
  have key : ∀ (i : Nat) (x : PV), ρ[i]? = some (some x) → ∃ v, σ[i]? = some (some v) ∧ SlR K g H' v x ∧ (fz x = false → ∀ a, v = .ref a → H0' a = none) := fun i x hx => by
    obtain ⟨v, hv, sl⟩ := e.f.r.at_ i x hx
    refine ⟨v, hv, ?_⟩
    cases x with
    | ol xs =>
      obtain ⟨a, vs, e1, e2, e3, e4⟩ := sl
      obtain ⟨q1, q2⟩ := h a _ e2 e4 (e.n i _ a hx rfl (e1 ▸ hv))
      exact ⟨⟨a, vs, e1, q1, e3, e4⟩, fun _ b eb => by rw [e1] at eb; cases eb; exact q2⟩
    | od xs =>
      obtain ⟨a, vs, e1, e2, e3, e4⟩ := sl
      obtain ⟨q1, q2⟩ := h a _ e2 e4 (e.n i _ a hx rfl (e1 ▸ hv))
      exact ⟨⟨a, vs, e1, q1, e3, e4⟩, fun _ b eb => by rw [e1] at eb; cases eb; exact q2⟩
    | _ => exact ⟨sl, fun z => by cases z⟩
  refine ⟨⟨⟨e.f.r.len, fun i x hx => ?_, e.f.r.inj⟩, e.f.o⟩, fun i x a hx hf hs => ?_⟩
  · obtain ⟨v, h1, h2, _⟩ := key i x hx; exact ⟨v, h1, h2⟩
  · obtain ⟨v, h1, _, h3⟩ := key i x hx
    rw [h1] at hs
    exact h3 hf a (Option.some.inj (Option.some.inj hs))
/-- in the mode that reads alone; what is walked stood at the base -/
theorem Lk.pm {K : PySem.W.Frag} {g0 g : G} {H0 H : Hp} {S0 S : Store} {d : Addr} {u w L : HO} (r0 : WR K g0 S0 H0) (r : WR K g S H) (t : (Pm K).T g0 H0 S0 g H S) (h0 : H0 d = some w) (hd : H d = some w) (l : Lw u w L) (nu : NoFz u) (ni : ∀ C dx fs, w ≠ .ins C dx fs) :
    Lk (Pm K) g0 H0 S0 g H S d w L := by
  obtain ⟨x, rfl⟩ := t
  have up : ∀ {g : G} {H : Hp}, WR K g S H → H d = some w → WR K g S (upd H d L) := fun {g H} r hd =>
    ⟨r.f.upd hd l nu, r.k, fun n o e => (r.s n o e).monoN (.refl _) (RdN.upd hd l nu) fun C dx fs q => by
      rw [upd_ne (fun z => by rw [z, hd] at q; cases q; exact ni _ _ _ rfl)]; exact q⟩
  refine ⟨g0, up r0 h0, up r hd, ⟨⟨x.le, x.mu, x.k, x.m, fun b o e => ?_, r.f.upd hd l nu, fun a ha => ?_⟩, rfl⟩, fun σ ρ e => e.off fun a o h1 h2 h3 => ?_, fun g' H' S' r' t' => ?_⟩
  · by_cases hb : b = d
    · subst hb; rw [upd_same] at e ⊢; exact e
    · rw [upd_ne hb] at e ⊢; exact x.h _ _ e
  · rcases x.n a ha with q | q
    · exact .inl q
    · exact .inr (by rw [upd_ne (fun z => by rw [z, h0] at q; cases q)]; exact q)
  · have na : a ≠ d := fun z => by rw [z, h0] at h3; cases h3
    exact ⟨by rw [upd_ne na]; exact h1, by rw [upd_ne na]; exact h3⟩
  · obtain ⟨y, rfl⟩ := t'
    have hL : H' d = some L := y.h _ _ upd_same
    have rf : RdLe g'.F (upd H' d w) := fun a v q => by
      by_cases e : a = d
      · subst e
        have z := r'.f _ _ q
        rcases z with z | ⟨o, z⟩
        · by_cases nv : NoFz v
          · exact l.dr upd_same hL (.inl z) nv nu
          · cases l with
            | eq => exact .inl (by rw [upd_same]; rw [hL] at z; exact z)
            | lk od =>
              -- what is at rest there is a lock: it was so before
              exfalso
              rw [hL] at z
              cases z
              have fd : g'.F a = some (.frz od u) ∨ ∃ o, g'.F a = some (.frz o (.frz od u)) := q
              have q2 : Rd g'.F a u ∨ Rd g'.F a (.frz od u) := by
                rcases fd with fd | ⟨o, fd⟩
                · exact .inl (.inr ⟨od, fd⟩)
                · exact .inr (.inr ⟨o, fd⟩)
              have ne : g'.F a ≠ none := by rcases fd with fd | ⟨o, fd⟩ <;> rw [fd] <;> simp
              rcases y.n a ne with z | z
              · cases e0 : g0.F a with
                | none => exact z e0
                | some f0 =>
                  have e1 : g'.F a = some f0 := y.le.f _ _ e0
                  have := r0.f a f0 (.inl e0)
                  rcases fd with fd | ⟨o, fd⟩
                  · rw [fd] at e1; cases e1
                    rcases this with z | ⟨_, z⟩ <;> rw [h0] at z <;> cases z
                  · rw [fd] at e1; cases e1
                    rcases this with z | ⟨_, z⟩ <;> rw [h0] at z <;> cases z
              · rw [upd_same] at z; cases z
        · cases l with
          | eq => exact .inr ⟨o, by rw [upd_same]; rw [hL] at z; exact z⟩
          | lk od => rw [hL] at z; cases z; exact .inl upd_same
      · rcases r'.f a v q with z | ⟨o, z⟩
        · exact .inl (by rw [upd_ne e]; exact z)
        · exact .inr ⟨o, by rw [upd_ne e]; exact z⟩
    refine ⟨hL, ⟨rf, r'.k, fun n o e => (r'.s n o e).monoN (.refl _) (RdN.dpu hL l nu) fun C dx fs q => ?_⟩, ⟨⟨y.le, y.mu, y.k, y.m, fun b o e => ?_, rf, fun a ha => ?_⟩, rfl⟩, fun σ ρ e => e.off fun a o h1 h2 h3 => ?_⟩
    · rw [upd_ne (fun z => by rw [z, hL] at q; cases q; cases l; exact ni _ _ _ rfl)]; exact q
    · by_cases hb : b = d
      · subst hb; rw [upd_same, ← h0]; exact e
      · rw [upd_ne hb]; exact y.h _ _ (by rw [upd_ne hb]; exact e)
    · rcases y.n a ha with q | q
      · exact .inl q
      · have na : a ≠ d := fun z => by rw [z, upd_same] at q; cases q
        exact .inr (by rw [upd_ne na] at q; exact q)
    · have na : a ≠ d := fun z => by rw [z, upd_same] at h3; cases h3
      exact ⟨by rw [upd_ne na]; exact h1, by rw [upd_ne na] at h3; exact h3⟩
/-- what is at rest at d -/
inductive Fd (u w L : HO) : HO → Prop
  | u : (w = u ∨ ∃ o, w = .frz o u) → Fd u w L u
  | w : L = w → Fd u w L w
theorem Fd.rd {u w L fd : HO} (f : Fd u w L fd) (l : Lw u w L) (nu : NoFz u) {H : Hp} {d : Addr} (h : H d = some L ∨ H d = some w) {F : Hp} (hf : F d = some fd) {v : HO} (q : Rd F d v) : Rd H d v := by
  cases f with
  | u z =>
    rcases q with q | ⟨o, q⟩ <;> rw [hf] at q <;> cases q
    · rcases h with h | h
      · cases l with
        | eq => rcases z with z | ⟨o, z⟩
                · subst z; exact .inl h
                · subst z; exact .inr ⟨o, h⟩
        | lk od => exact .inr ⟨od, h⟩
      · rcases z with z | ⟨o, z⟩
        · subst z; exact .inl h
        · subst z; exact .inr ⟨o, h⟩
    · exact absurd rfl (nu _ _)
  | w z =>
    subst z
    have h : H d = some L := h.elim id id
    rcases q with q | ⟨o, q⟩ <;> rw [hf] at q <;> cases q
    · exact .inl h
    · exact .inr ⟨o, h⟩
theorem RdLe.put {F H : Hp} {d : Addr} {w L fd u : HO} (f : Fd u w L fd) (l : Lw u w L) (nu : NoFz u) {x : HO} (hx : x = L ∨ x = w) {F' : Hp} (hF : F' d = some fd) (r : ∀ b v, b ≠ d → Rd F' b v → Rd H b v) : RdLe F' (L2.upd H d x) := fun b v q => by
  by_cases e : b = d
  · subst e; exact f.rd l nu (by rw [upd_same]; rcases hx with rfl | rfl <;> simp) hF q
  · rcases r b v e q with z | ⟨o, z⟩
    · exact .inl (by rw [upd_ne e]; exact z)
    · exact .inr ⟨o, by rw [upd_ne e]; exact z⟩
theorem rd_ne {F : Hp} {d b : Addr} {f u : HO} (h : b ≠ d) (q : Rd (L2.upd F d f) b u) : Rd F b u := by
  rcases q with q | ⟨o, q⟩
  · rw [upd_ne h] at q; exact .inl q
  · rw [upd_ne h] at q; exact .inr ⟨o, q⟩
theorem gle_put {g0 g : G} {d : Addr} {fd : HO} (x : GLe g0 g) (hf : g.F d = some fd) : GLe g0 { g0 with F := upd g0.F d fd } ∧ GLe { g0 with F := upd g0.F d fd } g := by
  refine ⟨⟨fun b o e => ?_, Nat.le_refl _, fun _ _ => rfl⟩, ⟨fun b o e => ?_, x.k, x.m⟩⟩
  · show upd g0.F d fd b = some o
    by_cases hb : b = d
    · subst hb
      have := x.f _ _ e
      rw [hf] at this
      rw [upd_same]; exact this
    · rw [upd_ne hb]; exact e
  · have e : upd g0.F d fd b = some o := e
    by_cases hb : b = d
    · subst hb; rw [upd_same] at e; rw [hf]; exact e
    · rw [upd_ne hb] at e; exact x.f _ _ e
theorem Lk.fpm {K : PySem.W.Frag} {g0 g : G} {H0 H : Hp} {S0 S : Store} {d : Addr} {u w L fd : HO} (r0 : WR K g0 S0 H0) (r : WR K g S H) (t : (Pm K).T g0 H0 S0 g H S) (hd : H d = some w) (l : Lw u w L) (nu : NoFz u) (ni : ∀ C dx fs, w ≠ .ins C dx fs) (hf : g.F d = some fd) (f : Fd u w L fd) :
    Lk (Pm K) g0 H0 S0 g H S d w L := by
  obtain ⟨x, rfl⟩ := t
  have w0 : ∀ o, H0 d = some o → o = w := fun o e => by
    have := x.h _ _ e
    rw [hd] at this
    exact (Option.some.inj this).symm
  obtain ⟨ga, gb⟩ := gle_put x.le hf
  have rn : RdN H0 (upd H0 d L) := fun a v nv q => by
    by_cases e : a = d
    · subst e
      rcases q with q | ⟨o, q⟩
      · exact l.rd (H := H0) (by rw [q, w0 _ q]) upd_same (.inl q) nu
      · exact l.rd (H := H0) (by rw [q, w0 _ q]) upd_same (.inr ⟨o, q⟩) nu
    · rcases q with z | ⟨o, z⟩
      · exact .inl (by rw [upd_ne e]; exact z)
      · exact .inr ⟨o, by rw [upd_ne e]; exact z⟩
  refine ⟨{ g0 with F := upd g0.F d fd }, ⟨RdLe.put (F := g0.F) f l nu (.inl rfl) (F' := upd g0.F d fd) upd_same (fun b v hb q => r0.f b v (rd_ne hb q)), r0.k, fun n o e => (r0.s n o e).monoN ga rn fun C dx fs q => ?_⟩, ⟨r.f.upd hd l nu, r.k, fun n o e => (r.s n o e).monoN (.refl _) (RdN.upd hd l nu) fun C dx fs q => ?_⟩, ⟨⟨gb, x.mu, x.k, x.m, fun b o e => ?_, r.f.upd hd l nu, fun a ha => ?_⟩, rfl⟩, fun σ ρ e => e.off fun a o h1 h2 h3 => ?_, fun g' H' S' r' t' => ?_⟩
  · rw [upd_ne (fun z => by rw [z] at q; exact ni _ _ _ (w0 _ q).symm)]; exact q
  · rw [upd_ne (fun z => by rw [z, hd] at q; cases q; exact ni _ _ _ rfl)]; exact q
  · by_cases hb : b = d
    · subst hb; rw [upd_same] at e ⊢; exact e
    · rw [upd_ne hb] at e ⊢; exact x.h _ _ e
  · by_cases hb : a = d
    · subst hb; left; show upd g0.F a fd a ≠ none; rw [upd_same]; simp
    · rcases x.n a ha with q | q
      · left; show upd g0.F d fd a ≠ none; rw [upd_ne hb]; exact q
      · right; rw [upd_ne hb]; exact q
  · have na : a ≠ d := fun z => by rw [z, hf] at h2; cases h2
    exact ⟨by rw [upd_ne na]; exact h1, by rw [upd_ne na]; exact h3⟩
  · obtain ⟨y, rfl⟩ := t'
    have hL : H' d = some L := y.h _ _ upd_same
    have hf' : g'.F d = some fd := y.le.f d fd (by show upd g0.F d fd d = some fd; rw [upd_same])
    have rf : RdLe g'.F (upd H' d w) := RdLe.put (F := g'.F) f l nu (.inr rfl) hf' fun b v hb q => r'.f b v q
    refine ⟨hL, ⟨rf, r'.k, fun n o e => (r'.s n o e).monoN (.refl _) (RdN.dpu hL l nu) fun C dx fs q => ?_⟩, ⟨⟨ga.trans y.le, y.mu, y.k, y.m, fun b o e => ?_, rf, fun a ha => ?_⟩, rfl⟩, fun σ ρ e => e.off fun a o h1 h2 h3 => ?_⟩
    · rw [upd_ne (fun z => by rw [z, hL] at q; cases q; cases l; exact ni _ _ _ rfl)]; exact q
    · by_cases hb : b = d
      · subst hb; rw [upd_same, w0 _ e]
      · rw [upd_ne hb]; exact y.h _ _ (by rw [upd_ne hb]; exact e)
    · by_cases hb : a = d
      · subst hb; exact x.n a (by rw [hf]; simp)
      · rcases y.n a ha with q | q
        · left; intro z; exact q (by show upd g0.F d fd a = none; rw [upd_ne hb]; exact z)
        · right; rw [upd_ne hb] at q; exact q
    · have na : a ≠ d := fun z => by rw [z, hf'] at h2; cases h2
      exact ⟨by rw [upd_ne na]; exact h1, by rw [upd_ne na] at h3; exact h3⟩
theorem Lk.fem {K : PySem.W.Frag} {g0 g : G} {H0 H : Hp} {S0 S : Store} {d : Addr} {u w L fd : HO} (r0 : RE K g0 S0 H0) (r : RE K g S H) (x : TE' g0 H0 g H) (hd : H d = some w) (l : Lw u w L) (nu : NoFz u) (hf : g.F d = some fd) (f : Fd u w L fd) :
    Lk (Em K) g0 H0 S0 g H S d w L := by
  have nm : ∀ n, n < g.k → g.mu n ≠ d := fun n hn e => by have := r.nf n hn; rw [e, hf] at this; cases this
  have nm0 : ∀ n, n < g0.k → g0.mu n ≠ d := fun n hn e => nm n (Nat.lt_of_lt_of_le hn x.le.k) (by rw [x.le.m n hn]; exact e)
  have w0 : ∀ o, H0 d = some o → o = w := fun o e => by
    have := x.keep _ _ e nm0
    rw [hd] at this
    exact (Option.some.inj this).symm
  obtain ⟨ga, gb⟩ := gle_put x.le hf
  have lt : ∀ {S : Store} {g : G} {n : Nat} {o : SO}, S.length = g.k → S[n]? = some o → n < g.k := fun {S g n o} h e => h ▸ (List.getElem?_eq_some_iff.mp e).1
  refine ⟨{ g0 with F := upd g0.F d fd }, ⟨RdLe.put (F := g0.F) f l nu (.inl rfl) (F' := upd g0.F d fd) upd_same (fun b v hb q => r0.f b v (rd_ne hb q)), r0.k, fun n o e => (r0.s n o e).mono ga fun v q => ?_, r0.inj, fun n hn => ?_⟩, ⟨r.f.upd hd l nu, r.k, fun n o e => (r.s n o e).mono (.refl _) fun v q => ?_, r.inj, r.nf⟩, ⟨gb, fun a ha => ?_, fun b o e hn => ?_, fun n h1 h2 => ?_, fun a ha => ?_⟩, fun σ ρ e => e.off fun a o h1 h2 h3 => ?_, fun g' H' S' r' y => ?_⟩
  · rw [upd_ne (nm0 n (lt r0.k e))]; exact q
  · show upd g0.F d fd (g0.mu n) = none
    rw [upd_ne (nm0 n hn)]; exact r0.nf n hn
  · rw [upd_ne (nm n (lt r.k e))]; exact q
  · by_cases hb : a = d
    · subst hb; rw [upd_same] at ha; cases ha
    · rw [upd_ne hb] at ha ⊢; exact x.dom a ha
  · by_cases hb : b = d
    · subst hb; rw [upd_same] at e ⊢; exact e
    · rw [upd_ne hb] at e ⊢; exact x.keep _ _ e hn
  · rw [upd_ne (nm n h2)]; exact x.new n h1 h2
  · by_cases hb : a = d
    · subst hb; left; show upd g0.F a fd a ≠ none; rw [upd_same]; simp
    · rcases x.fz a ha with q | q
      · left; show upd g0.F d fd a ≠ none; rw [upd_ne hb]; exact q
      · right; rw [upd_ne hb]; exact q
  · have na : a ≠ d := fun z => by rw [z, hf] at h2; cases h2
    exact ⟨by rw [upd_ne na]; exact h1, by rw [upd_ne na]; exact h3⟩
  · replace y : TE' { g0 with F := upd g0.F d fd } (upd H0 d L) g' H' := y
    have hL : H' d = some L := y.keep _ _ upd_same nm0
    have hf' : g'.F d = some fd := y.le.f d fd (by show upd g0.F d fd d = some fd; rw [upd_same])
    have nm' : ∀ n, n < g'.k → g'.mu n ≠ d := fun n hn e => by have := r'.nf n hn; rw [e, hf'] at this; cases this
    have rf : RdLe g'.F (upd H' d w) := RdLe.put (F := g'.F) f l nu (.inr rfl) hf' fun b v hb q => r'.f b v q
    refine ⟨hL, ⟨rf, r'.k, fun n o e => (r'.s n o e).mono (.refl _) fun v q => ?_, r'.inj, r'.nf⟩, ⟨ga.trans y.le, fun a ha => ?_, fun b o e hn => ?_, fun n h1 h2 => ?_, fun a ha => ?_⟩, fun σ ρ e => e.off fun a o h1 h2 h3 => ?_⟩
    · rw [upd_ne (nm' n (lt r'.k e))]; exact q
    · by_cases hb : a = d
      · subst hb; rw [upd_same] at ha; cases ha
      · rw [upd_ne hb] at ha
        have := y.dom a ha
        rw [upd_ne hb] at this; exact this
    · by_cases hb : b = d
      · subst hb; rw [upd_same, w0 _ e]
      · rw [upd_ne hb]; exact y.keep _ _ (by rw [upd_ne hb]; exact e) hn
    · have := y.new n h1 h2
      rw [upd_ne (nm' n h2)] at this; exact this
    · by_cases hb : a = d
      · subst hb; exact x.fz a (by rw [hf]; simp)
      · rcases y.fz a ha with q | q
        · left; intro z; exact q (by show upd g0.F d fd a = none; rw [upd_ne hb]; exact z)
        · right; rw [upd_ne hb] at q; exact q
    · have na : a ≠ d := fun z => by rw [z, hf'] at h2; cases h2
      exact ⟨by rw [upd_ne na]; exact h1, by rw [upd_ne na] at h3; exact h3⟩
end L3

end
section
set_option Elab.async false
set_option linter.all false
set_option maxRecDepth 100000
set_option maxHeartbeats 4000000
namespace L3
open PySem PySem.Spec L2
set_option autoImplicit false
/-! ### walks of what is locked -/
structure WkP (K : PySem.W.Frag) (g : G) (J : It) (xs : List PV) (P : Hp → Prop) : Prop where
  go : ∀ (H : Hp) (i : Nat) (x : PV), P H → xs[i]? = some x → J.go i H
  yld : ∀ (g' : G) (S : Store) (H : Hp) (i : Nat) (x : PV) (v : V) (H' : Hp), GLe g g' → WR K g' S H → P H → xs[i]? = some x → J.yld i H v H' → ∃ g2, Grow g' H g2 H' ∧ FR K g2 x v
  stop : ∀ (H : Hp), P H → J.stop xs.length H
theorem FRk.get {K : PySem.W.Frag} {g : G} : ∀ {kvs : List (Key × PV)} {vs : List (Key × V)}, FRk K g kvs vs → ∀ {i : Nat} {k : Key} {x : PV}, kvs[i]? = some (k, x) → ∃ v, vs[i]? = some (k, v) ∧ FR K g x v
  | _, _, .nil, i, k, x, h => by simp at h
  | _, _, .cons a b, 0, k, x, h => by simp at h; obtain ⟨rfl, rfl⟩ := h; exact ⟨_, rfl, a⟩
  | _, _, .cons a b, i + 1, k, x, h => by simpa using FRk.get b (by simpa using h)
abbrev kvT : Key × PV → PV := fun p => .tup [kP p.1, p.2]
section
variable {K : PySem.W.Frag} {g : G} {d : Addr} {o : Obj} {kvs : List (Key × PV)} {vs : List (Key × V)}
theorem wk_items (f : FRk K g kvs vs) : WkP K g (Iti d o vs) (kvs.map kvT) (fun H => H d = some (.frz o (.dK vs))) where
  go := fun H i x hP hx => ⟨hP, by have := (List.getElem?_eq_some_iff.mp hx).1; rw [List.length_map, f.length] at this; exact this⟩
  yld := fun g' S H i x v H' le w hP hx hy => by
    obtain ⟨T, k, u, e1, rfl, hT, rfl⟩ := hy
    rw [List.getElem?_map] at hx
    cases e : kvs[i]? with
    | none => rw [e] at hx; cases hx
    | some p =>
      rw [e] at hx
      cases hx
      obtain ⟨u', e2, fu⟩ := f.get (k := p.1) (x := p.2) e
      rw [e1] at e2
      cases e2
      obtain ⟨gr, fr⟩ := new_tup w hT (.cons (kP_fr p.1) (.cons (FR.mono le _ _ fu) .nil))
      exact ⟨_, gr, fr⟩
  stop := fun H hP => ⟨hP, by rw [List.length_map, f.length]; exact Nat.le_refl _⟩
theorem wk_keys (f : kvs.length = vs.length) (fk : ∀ (i : Nat) (p : Key × PV), kvs[i]? = some p → ∃ v, vs[i]? = some (p.1, v)) : WkP K g (Itk d o vs) (kvs.map fun p => kP p.1) (fun H => H d = some (.frz o (.dK vs))) where
  go := fun H i x hP hx => ⟨hP, by have := (List.getElem?_eq_some_iff.mp hx).1; rw [List.length_map, f] at this; exact this⟩
  yld := fun g' S H i x v H' le w hP hx hy => by
    obtain ⟨rfl, k, u, e1, rfl⟩ := hy
    rw [List.getElem?_map] at hx
    cases e : kvs[i]? with
    | none => rw [e] at hx; cases hx
    | some p =>
      rw [e] at hx
      cases hx
      obtain ⟨u', e2⟩ := fk i p e
      rw [e1] at e2
      cases e2
      exact ⟨g', .refl w, kP_fr _⟩
  stop := fun H hP => ⟨hP, by rw [List.length_map, f]; exact Nat.le_refl _⟩
theorem wk_vals (f : FRk K g kvs vs) : WkP K g (Itd d o vs) (kvs.map (·.2)) (fun H => H d = some (.frz o (.dK vs))) where
  go := fun H i x hP hx => ⟨hP, by have := (List.getElem?_eq_some_iff.mp hx).1; rw [List.length_map, f.length] at this; exact this⟩
  yld := fun g' S H i x v H' le w hP hx hy => by
    obtain ⟨rfl, k, e1⟩ := hy
    rw [List.getElem?_map] at hx
    cases e : kvs[i]? with
    | none => rw [e] at hx; cases hx
    | some p =>
      rw [e] at hx
      cases hx
      obtain ⟨u', e2, fu⟩ := f.get (k := p.1) (x := p.2) e
      rw [e1] at e2
      cases e2
      exact ⟨g', .refl w, FR.mono le _ _ fu⟩
  stop := fun H hP => ⟨hP, by rw [List.length_map, f.length]; exact Nat.le_refl _⟩
end
theorem wk_seq {K : PySem.W.Frag} {g : G} {d : Addr} {o : Obj} {xs : List PV} {vs : List V} (f : FRs K g xs vs) : WkP K g (Itl K d) xs (fun H => H d = some (.frz o (.lst vs))) where
  go := fun H i x hP hx => by
    obtain ⟨u, e, _⟩ := f.get hx
    exact ⟨vs, u, .inl (.inr ⟨o, hP⟩), e⟩
  yld := fun g' S H i x v H' le w hP hx hy => by
    obtain ⟨rfl, hy⟩ := hy
    obtain ⟨u, e, fu⟩ := f.get hx
    have e2 := hy vs (.inl (.inr ⟨o, hP⟩))
    rw [e] at e2
    cases e2
    exact ⟨g', .refl w, FR.mono le _ _ fu⟩
  stop := fun H hP => ⟨vs, .inl (.inr ⟨o, hP⟩), by rw [f.length]; exact Nat.le_refl _⟩
theorem wk_enumP {K : PySem.W.Frag} {g : G} {d : Addr} {o : Obj} {xs : List PV} {vs : List V} (f : FRs K g xs vs) : WkP K g (Ite K d) (xs.zipIdx.map fun p => .tup [.int (p.2 : Nat), p.1]) (fun H => H d = some (.frz o (.lst vs))) where
  go := fun H i x hP hx => by
    have hi : i < xs.length := by have := (List.getElem?_eq_some_iff.mp hx).1; simpa using this
    obtain ⟨u, e, _⟩ := f.get (List.getElem?_eq_getElem hi)
    exact ⟨vs, u, .inl (.inr ⟨o, hP⟩), e⟩
  yld := fun g' S H i x v H' le w hP hx hy => by
    obtain ⟨T, u, rfl, hT, rfl, hy⟩ := hy
    have hi : i < xs.length := by have := (List.getElem?_eq_some_iff.mp hx).1; simpa using this
    obtain ⟨u', e, fu⟩ := f.get (List.getElem?_eq_getElem hi)
    have e2 := hy vs (.inl (.inr ⟨o, hP⟩))
    rw [e] at e2
    cases e2
    have ex : x = .tup [.int (i : Nat), xs[i]] := by
      rw [List.getElem?_map, List.getElem?_zipIdx] at hx
      simpa [List.getElem?_eq_getElem hi] using hx.symm
    subst ex
    obtain ⟨gr, fr⟩ := new_tup w hT (.cons (.int _) (.cons (FR.mono le _ _ fu) .nil))
    exact ⟨_, gr, fr⟩
  stop := fun H hP => ⟨vs, .inl (.inr ⟨o, hP⟩), by simp [f.length]⟩
end L3

end
section
set_option Elab.async false
set_option linter.all false
set_option maxRecDepth 100000
set_option maxHeartbeats 4000000
namespace L3
open PySem PySem.Spec L2
set_option autoImplicit false
inductive Kw where
  | keys | items | vals | seq | enum
def iK (K : PySem.W.Frag) : Kw → TE → TI
  | .keys, td => iKeys td
  | .items, td => iItems td
  | .vals, td => iVals td
  | .seq, td => iList K td
  | .enum, td => iEnum K (fun σ H Q => td σ H fun x H1 => Q [x] H1)
/-- what is walked: of a dict, of a list of the store -/
def walkD : Kw → List (Key × PV) → Option (List PV)
  | .keys, kvs => some (kvs.map fun p => kP p.1)
  | .items, kvs => if kvs.all fun p => fz p.2 then some (kvs.map kvT) else none
  | .vals, kvs => if kvs.all fun p => fz p.2 then some (kvs.map (·.2)) else none
  | .seq, _ => none
  | .enum, _ => none
def walkO (k : Kw) : SO → Option (List PV)
  | .dct kvs => walkD k kvs
  | .lst xs => (match k with
    | .seq => some xs
    | .enum => some (xs.zipIdx.map fun p => .tup [.int (p.2 : Nat), p.1])
    | _ => none)
  | _ => none
def walkP (st : Bool) (k : Kw) (S : Store) : PV → Option (List PV)
  | .dct kvs => walkD k kvs
  | .ref n => if st then (match S[n]? with
    | some o => walkO k o
    | none => none) else none
  | _ => none
/-- the lock may be laid in this mode -/
structure LkM {K : PySem.W.Frag} (md : Md K) (st : Bool) : Prop where
  fr : ∀ {g0 g : G} {H0 H : Hp} {S0 S : Store} {d : Addr} {u w L fd : HO}, md.R g0 S0 H0 → md.R g S H → md.T g0 H0 S0 g H S → H d = some w → Lw u w L → NoFz u → (∀ C dx fs, w ≠ .ins C dx fs) → g.F d = some fd → Fd u w L fd → Lk md g0 H0 S0 g H S d w L
  so : st = true → ∀ {g0 g : G} {H0 H : Hp} {S0 S : Store} {n : Nat} {o : SO} {u w L : HO}, md.R g0 S0 H0 → md.R g S H → md.T g0 H0 S0 g H S → S[n]? = some o → H (g.mu n) = some w → Lw u w L → NoFz u → (∀ C dx fs, w ≠ .ins C dx fs) → Lk md g0 H0 S0 g H S (g.mu n) w L
theorem SOr.some {K : PySem.W.Frag} {g : G} {H : Hp} {a : Addr} : ∀ {o : SO}, SOr K g H a o → ∃ u, H a = some u
  | .ins c fs, ⟨dx, vs, e, _⟩ => ⟨_, e⟩
  | .lst xs, ⟨vs, e, _⟩ => by rcases e with e | ⟨_, e⟩ <;> exact ⟨_, e⟩
  | .dct xs, ⟨vs, e, _⟩ => by rcases e with e | ⟨_, e⟩ <;> exact ⟨_, e⟩
theorem lkm_P {K : PySem.W.Frag} : LkM (Pm K) true where
  fr := fun r0 r t hd l nu ni hf f => Lk.fpm r0 r t hd l nu ni hf f
  so := fun _ {g0 g H0 H S0 S n o u w L} r0 r t hn hd l nu ni => by
    have t' := t
    obtain ⟨x, rfl⟩ := t
    obtain ⟨w', h0⟩ := (WR.s r0 n o hn).some
    have e : g.mu n = g0.mu n := by rw [x.mu]
    have h1 := x.h _ _ h0
    rw [← e, hd] at h1
    cases h1
    exact Lk.pm r0 r t' (by rw [e]; exact h0) hd l nu ni
theorem lkm_E {K : PySem.W.Frag} : LkM (Em K) false where
  fr := fun r0 r t hd l nu ni hf f => Lk.fem r0 r t hd l nu hf f
  so := fun z => by cases z
def sWalk (st : Bool) (k : Kw) (it : Ex) (tg : Tg) (m : Sm) : Sm := fun ρ S => match it ρ S with
  | some (.ok x) => (match walkP st k S x with
    | some xs => (match sLoop tg m xs ρ S with
      | some (.xx _ _ _, _) => none
      | r => r)
    | none => none)
  | some (.ex c fs) => some (.xx c fs ρ, S)
  | none => none
/-- the loop itself, under the lock -/
theorem loopP {X : Cx} {md : Md X.K} {W : WX} {tb : TS} {m : Sm} {tt1 : TG} {g1 : Tg} {ks : List Nat} {xs : List PV} {J : It} {d : Addr} {w L : HO} {gb g0 g : G} {H0 H : Hp} {S0 S : Store} {σ : St} {ρ : Env} {D : Ends} {res : SR × Store}
    (rg : RchG X.K tt1 ks g1) (rb : RchS md W tb m) (lk : Lk md g0 H0 S0 g H S d w L) (wk : WkP X.K g J xs (fun H => H d = some L)) (un : L = w ∨ ((∃ od, L = .frz od w) ∧ NF X d)) (le : GLe gb g)
    (er : EnvS md H0 g H σ ρ) (hm : sLoop g1 m xs ρ S = some res) (nx : ∀ c fs ρ' S', res ≠ (.xx c fs ρ', S')) (po : PoS md gb g0 H0 S0 W D res) :
    ∃ WW : Nat → Nat → St → Hp → Prop, (∃ m, WW 0 m σ (upd H d L)) ∧ ∀ i m σ H, WW i m σ H →
      (J.stop i H ∧ (unlD X D).nx σ H) ∨ (J.go i H ∧ ∃ N : St → Hp → Prop, (∀ σ' H', N σ' H' → ∃ m', m' < m ∧ WW (i + 1) m' σ' H') ∧ ∀ x H', J.yld i H x H' → tt1 x σ H' fun σ2 H2 => tb { unlD X D with nx := N, ct := N, bk := (unlD X D).nx } σ2 H2) := by
  obtain ⟨g0', r0', r1, t1, en, back⟩ := lk.ex
  have unS : ∀ {P : St → Hp → Prop} {σ : St} {H : Hp}, H d = some L → P σ (upd H d w) → unlS X P σ H := fun {P σ H} hL q => by
    rcases un with e | ⟨⟨od, e⟩, nf⟩
    · left
      have e2 : upd H d w = H := by
        funext b
        by_cases hb : b = d
        · rw [hb, upd_same, hL, e]
        · rw [upd_ne hb]
      rw [e2] at q; exact q
    · exact .inr ⟨d, od, w, by rw [hL, e], nf, q⟩
  have unV : ∀ {P : VK} {v : V} {H : Hp}, H d = some L → P v (upd H d w) → unlV X P v H := fun {P σ H} hL q => by
    rcases un with e | ⟨⟨od, e⟩, nf⟩
    · left
      have e2 : upd H d w = H := by
        funext b
        by_cases hb : b = d
        · rw [hb, upd_same, hL, e]
        · rw [upd_ne hb]
      rw [e2] at q; exact q
    · exact .inr ⟨d, od, w, by rw [hL, e], nf, q⟩
  -- the ends, seen from under the lock
  have endS : ∀ {ρ' : Env} {S' : Store} {P : St → Hp → Prop}, (∀ σ g H, md.R g S' H → Tr md gb g0 H0 S0 g H S' → EnvS md H0 g H σ ρ' → P σ H) → ∀ σ g' H', md.R g' S' H' → Tr md g g0' (upd H0 d L) S0 g' H' S' → EnvS md (upd H0 d L) g' H' σ ρ' → unlS X P σ H' := fun {ρ' S' P} q σ g' H' r t e => by
    obtain ⟨b1, b2, b3, b4⟩ := back g' H' S' r t.t
    exact unS b1 (q σ g' _ b2 ⟨b3, le.trans t.l⟩ (b4 σ ρ' e))
  refine ⟨fun i j σ H => ∃ g' S ρ, md.R g' S H ∧ Tr md g g0' (upd H0 d L) S0 g' H S ∧ EnvS md (upd H0 d L) g' H σ ρ ∧ sLoop g1 m (xs.drop i) ρ S = some res ∧ i + j = xs.length, ⟨xs.length, g, S, ρ, r1, ⟨t1, .refl _⟩, en _ _ er, by simpa using hm, by omega⟩, ?_⟩
  rintro i j σ H ⟨g', S, ρ, rr, tt, er, hm, hj⟩
  obtain ⟨hL, _⟩ := back g' H S rr tt.t
  by_cases hi : i < xs.length
  · have hd : xs.drop i = xs[i] :: xs.drop (i + 1) := List.drop_eq_getElem_cons hi
    have hx : xs[i]? = some xs[i] := List.getElem?_eq_getElem hi
    rw [hd] at hm
    unfold sLoop at hm
    refine .inr ⟨wk.go H i _ hL hx, fun σ' H' => ∃ g' S ρ, md.R g' S H' ∧ Tr md g g0' (upd H0 d L) S0 g' H' S ∧ EnvS md (upd H0 d L) g' H' σ' ρ ∧ sLoop g1 m (xs.drop (i + 1)) ρ S = some res, fun σ' H' ⟨g', S', ρ', a2, a3, a4, a5⟩ => ⟨j - 1, by omega, g', S', ρ', a2, a3, a4, a5, by omega⟩, fun v H' hy => ?_⟩
    obtain ⟨g2, gr2, fx⟩ := wk.yld g' S H i _ v H' tt.l (md.wr rr) hL hx hy
    obtain ⟨r2, t2⟩ := md.grow rr gr2
    split at hm
    · cases hm
    · rename_i ρ1 q1
      refine rg v σ H' g2 S ρ ρ1 _ _ (md.wr r2) (er.step t2).f.r fx q1 fun σ3 tg3 => ?_
      have er3 := (er.step t2).tgt tg3
      split at hm
      · rename_i ρ' S2 q2
        exact rb σ3 H' g2 S ρ1 g g0' _ S0 _ (.nx ρ', S2) r0' r2 (tt.step t2) er3 q2 fun σ4 g4 H4 r4 t4 e4 => ⟨g4, S2, ρ', r4, t4, e4, hm⟩
      · rename_i ρ' S2 q2
        exact rb σ3 H' g2 S ρ1 g g0' _ S0 _ (.ct ρ', S2) r0' r2 (tt.step t2) er3 q2 fun σ4 g4 H4 r4 t4 e4 => ⟨g4, S2, ρ', r4, t4, e4, hm⟩
      · rename_i ρ' S2 q2
        cases hm
        exact rb σ3 H' g2 S ρ1 g g0' _ S0 _ (.bk ρ', S2) r0' r2 (tt.step t2) er3 q2 (endS po)
      · rename_i n1 n2 n3
        obtain ⟨res1, S1⟩ := res
        refine rb σ3 H' g2 S ρ1 g g0' _ S0 _ (res1, S1) r0' r2 (tt.step t2) er3 hm ?_
        cases res1 with
        | nx ρ' => exact absurd hm (n1 ρ' S1)
        | ct ρ' => exact absurd hm (n2 ρ' S1)
        | bk ρ' => exact absurd hm (n3 ρ' S1)
        | rt x =>
          intro v g' H' r t f
          obtain ⟨b1, b2, b3, b4⟩ := back g' H' S1 r t.t
          exact unV b1 (po v g' _ b2 ⟨b3, le.trans t.l⟩ f)
        | xx c fs ρ' => exact absurd rfl (nx c fs ρ' S1)
  · have hi2 : i = xs.length := by omega
    rw [List.drop_of_length_le (by omega)] at hm
    unfold sLoop at hm
    cases hm
    subst hi2
    exact .inl ⟨wk.stop H hL, endS po σ g' H rr tt er⟩
/-- what is asked of the walked thing itself -/
def atK (K : PySem.W.Frag) (k : Kw) (x : V) (H1 : Hp) (R : It → Hp → Prop) : Prop := match k with
  | .keys => ∃ d o, x = .ref d ∧ ((∃ kvs, H1 d = some (.frz o (.dK kvs)) ∧ R (Itk d o kvs) H1) ∨ ∃ kvs, H1 d = some (.frz o (.dT kvs)) ∧ R (Itkt d o kvs) H1)
  | .items => ∃ d o kvs, x = .ref d ∧ H1 d = some (.frz o (.dK kvs)) ∧ R (Iti d o kvs) H1
  | .vals => ∃ d o kvs, x = .ref d ∧ H1 d = some (.frz o (.dK kvs)) ∧ R (Itd d o kvs) H1
  | .seq => ∃ a, x = .ref a ∧ (∃ xs, SqL K H1 a xs) ∧ R (Itl K a) H1
  | .enum => ∃ a xs, [x] = [.ref a] ∧ SqL K H1 a xs ∧ R (Ite K a) H1
theorem iK_eq {K : PySem.W.Frag} {k : Kw} {td : TE} {σ : St} {H : Hp} {R : It → Hp → Prop} : iK K k td σ H R = td σ H fun x H1 => atK K k x H1 R := by cases k <;> rfl
theorem OVk.key {K : PySem.W.Frag} {g : G} {H : Hp} : ∀ {kvs : List (Key × PV)} {vs : List (Key × V)}, OVk K g H kvs vs → ∀ (i : Nat) (p : Key × PV), kvs[i]? = some p → ∃ v, vs[i]? = some (p.1, v)
  | _, _, .nil, i, p, h => by simp at h
  | _, _, .cons a b, 0, p, h => by simp at h; subst h; exact ⟨_, rfl⟩
  | _, _, .cons a b, i + 1, p, h => by simpa using OVk.key b i p (by simpa using h)
theorem walk_d {K : PySem.W.Frag} {g : G} {H : Hp} {d : Addr} {k : Kw} {kvs : List (Key × PV)} {vs : List (Key × V)} {xs : List PV} (o : Obj) (f : OVk K g H kvs vs) (e : walkD k kvs = some xs) :
    ∃ J, WkP K g J xs (fun H => H d = some (.frz o (.dK vs))) ∧ ∀ (H2 : Hp) (R : It → Hp → Prop), H2 d = some (.frz o (.dK vs)) → R J H2 → atK K k (.ref d) H2 R := by
  cases k with
  | keys =>
    cases e
    exact ⟨Itk d o vs, wk_keys f.length f.key, fun H2 R h2 q => ⟨d, o, rfl, .inl ⟨vs, h2, q⟩⟩⟩
  | items =>
    replace e : (if kvs.all (fun p => fz p.2) then some (kvs.map kvT) else none) = some xs := e
    split at e
    · rename_i hf
      cases e
      exact ⟨Iti d o vs, wk_items (f.fr hf), fun H2 R h2 q => ⟨d, o, vs, rfl, h2, q⟩⟩
    · cases e
  | vals =>
    replace e : (if kvs.all (fun p => fz p.2) then some (kvs.map (·.2)) else none) = some xs := e
    split at e
    · rename_i hf
      cases e
      exact ⟨Itd d o vs, wk_vals (f.fr hf), fun H2 R h2 q => ⟨d, o, vs, rfl, h2, q⟩⟩
    · cases e
  | seq => cases e
  | enum => cases e
/-- the walked thing: where it stands, what it is, its walk -/
theorem walk_p {K : PySem.W.Frag} {md : Md K} {st : Bool} (M : LkM md st) {g0 g : G} {H0 H : Hp} {S0 S : Store} {k : Kw} {x : PV} {v : V} {xs : List PV} (r0 : md.R g0 S0 H0) (r : md.R g S H) (t : md.T g0 H0 S0 g H S) (hx : OV K g H x v) (e : walkP st k S x = some xs) :
    ∃ d u w, v = .ref d ∧ H d = some w ∧ (NoFz u ∧ ∀ C dx fs, u ≠ .ins C dx fs) ∧ (w = u ∧ Mut (some u) ∨ ∃ o, w = .frz o u) ∧ ∀ o, (w = .frz o u ∨ w = u) → ∃ J, Lk md g0 H0 S0 g H S d w (.frz o u) ∧ WkP K g J xs (fun H => H d = some (.frz o u)) ∧ ∀ (H2 : Hp) (R : It → Hp → Prop), H2 d = some (.frz o u) → R J H2 → atK K k (.ref d) H2 R := by
  have lw : ∀ {u w : HO} {o : Obj}, (w = .frz o u ∨ w = u) → Lw u w (.frz o u) := fun {u w o} h => by
    rcases h with h | h
    · subst h; exact .eq
    · subst h; exact .lk o
  have W := md.wr r
  cases x with
  | dct kvs =>
    cases hx.fr rfl with
    | @dct d _ vs s f =>
      obtain ⟨fd, hf⟩ : ∃ fd, g.F d = some fd := by rcases s with s | ⟨_, s⟩ <;> exact ⟨_, s⟩
      obtain ⟨w, hw, hu⟩ : ∃ w, H d = some w ∧ (w = .dK vs ∨ ∃ o, w = .frz o (.dK vs)) := by
        rcases W.f _ _ s with z | ⟨o, z⟩
        · exact ⟨_, z, .inl rfl⟩
        · exact ⟨_, z, .inr ⟨o, rfl⟩⟩
      have hfd : fd = .dK vs ∨ fd = w := by
        rcases s with s | ⟨o', s⟩
        · rw [hf] at s; cases s; exact .inl rfl
        · rw [hf] at s; cases s
          rcases W.f _ _ (.inl hf) with z | ⟨_, z⟩
          · rw [hw] at z; cases z; exact .inr rfl
          · rw [hw] at z; cases z
            rcases hu with hu | ⟨_, hu⟩ <;> cases hu
      refine ⟨d, .dK vs, w, rfl, hw, ⟨(fun _ _ z => nomatch z), (fun _ _ _ z => nomatch z)⟩, ?_, fun o ho => ?_⟩
      · rcases hu with hu | hu
        · exact .inl ⟨hu, by trivial⟩
        · exact .inr hu
      · obtain ⟨J, h1, h2⟩ := walk_d (H := H) (d := d) o f.ov e
        refine ⟨J, M.fr r0 r t hw (lw ho) (fun _ _ z => nomatch z) (fun C dx fs z => ?_) hf ?_, h1, h2⟩
        · subst z; rcases hu with hu | ⟨_, hu⟩ <;> cases hu
        · rcases hfd with z | z
          · subst z; exact .u hu
          · subst z
            rcases ho with ho | ho
            · exact .w ho.symm
            · subst ho; exact .u (.inl rfl)
  | ref n =>
    replace e : (if st then (match S[n]? with | some o => walkO k o | none => none) else none) = some xs := e
    split at e
    · rename_i hst
      split at e
      · rename_i o hn
        cases hx.fr rfl
        have so := W.s n o hn
        cases o with
        | ins c fs => cases e
        | dct kvs =>
          obtain ⟨vs, rd, f⟩ := so
          obtain ⟨w, hw, hu⟩ : ∃ w, H (g.mu n) = some w ∧ (w = .dK vs ∨ ∃ o, w = .frz o (.dK vs)) := by
            rcases rd with z | ⟨o, z⟩
            · exact ⟨_, z, .inl rfl⟩
            · exact ⟨_, z, .inr ⟨o, rfl⟩⟩
          refine ⟨_, .dK vs, w, rfl, hw, ⟨(fun _ _ z => nomatch z), (fun _ _ _ z => nomatch z)⟩, ?_, fun o ho => ?_⟩
          · rcases hu with hu | hu
            · exact .inl ⟨hu, by trivial⟩
            · exact .inr hu
          · obtain ⟨J, h1, h2⟩ := walk_d (H := H) (d := g.mu n) o f e
            refine ⟨J, M.so hst r0 r t hn hw (lw ho) (fun _ _ z => nomatch z) (fun C dx fs z => ?_), h1, h2⟩
            subst z; rcases hu with hu | ⟨_, hu⟩ <;> cases hu
        | lst ys =>
          cases k with
          | seq =>
            cases e
            obtain ⟨vs, rd, f⟩ := so
            obtain ⟨w, hw, hu⟩ : ∃ w, H (g.mu n) = some w ∧ (w = .lst vs ∨ ∃ o, w = .frz o (.lst vs)) := by
              rcases rd with z | ⟨o, z⟩
              · exact ⟨_, z, .inl rfl⟩
              · exact ⟨_, z, .inr ⟨o, rfl⟩⟩
            refine ⟨_, .lst vs, w, rfl, hw, ⟨(fun _ _ z => nomatch z), (fun _ _ _ z => nomatch z)⟩, ?_, fun o ho => ?_⟩
            · rcases hu with hu | hu
              · exact .inl ⟨hu, by trivial⟩
              · exact .inr hu
            · refine ⟨Itl K (g.mu n), M.so hst r0 r t hn hw (lw ho) (fun _ _ z => nomatch z) (fun C dx fs z => ?_), wk_seq f, fun H2 R h2 q => ⟨_, rfl, ⟨vs, .inl (.inr ⟨o, h2⟩)⟩, q⟩⟩
              subst z; rcases hu with hu | ⟨_, hu⟩ <;> cases hu
          | enum =>
            cases e
            obtain ⟨vs, rd, f⟩ := so
            obtain ⟨w, hw, hu⟩ : ∃ w, H (g.mu n) = some w ∧ (w = .lst vs ∨ ∃ o, w = .frz o (.lst vs)) := by
              rcases rd with z | ⟨o, z⟩
              · exact ⟨_, z, .inl rfl⟩
              · exact ⟨_, z, .inr ⟨o, rfl⟩⟩
            refine ⟨_, .lst vs, w, rfl, hw, ⟨(fun _ _ z => nomatch z), (fun _ _ _ z => nomatch z)⟩, ?_, fun o ho => ?_⟩
            · rcases hu with hu | hu
              · exact .inl ⟨hu, by trivial⟩
              · exact .inr hu
            · refine ⟨Ite K (g.mu n), M.so hst r0 r t hn hw (lw ho) (fun _ _ z => nomatch z) (fun C dx fs z => ?_), wk_enumP f, fun H2 R h2 q => ⟨_, vs, rfl, .inl (.inr ⟨o, h2⟩), q⟩⟩
              subst z; rcases hu with hu | ⟨_, hu⟩ <;> cases hu
          | _ => cases e
      · cases e
    · cases e
  | _ => cases e
/-! ### for over a dict (or a list of the store) -/
section
variable {X : Cx} {md : Md X.K} {W : WX} {pos : Pos} {e tg iter : Expr} {body : List Stmt}
theorem s_walk {st : Bool} {k : Kw} {me : Ex} {g1 : Tg} {m : Sm} {ks : List Nat} (M : LkM md st) (hp : PassesOwn (model X.prog X.w) X.A X.env X.xe) (hc : X.calm = true) (he : SimE X W e me) (pik : ∀ td : TE, PE X e td → PI X tg iter (iK X.K k td)) (hg : SimG X tg ks g1) (h : SimB X md W body m)
    (hs : ∀ x, foldedSetIterable iter X.env x = pure x := by intro _; rfl) : SimS X md W (.For tg iter body [] pos) (sWalk st k me g1 m) := by
  obtain ⟨te, pe, re⟩ := he.ex
  obtain ⟨tt1, pg, rg⟩ := hg.ex
  obtain ⟨t, p, r⟩ := h.ex
  refine ⟨_, ps_unl (ps_for hp hc (pik _ (pe_lkA pe)) pg p hs), fun σ H g S ρ gb g0 H0 S0 D res r0 rr tt er hm po => ?_⟩
  show iK X.K k (tLkA X te) σ H _
  rw [iK_eq]
  unfold sWalk at hm
  split at hm
  · rename_i x q
    refine re σ H g S ρ _ (.ok x) (md.wr rr) er.f.r q fun v g1' H1 gr ov => ?_
    obtain ⟨r1, t1⟩ := md.grow rr gr
    split at hm
    · rename_i xs qx
      have tt1' := tt.step t1
      obtain ⟨d, u, w, rfl, hw, ⟨nu, _⟩, hwu, key⟩ := walk_p M r0 r1 tt1'.t ov qx
      split at hm
      · cases hm
      · rename_i nx
        have nx' : ∀ c fs ρ' S', res ≠ (.xx c fs ρ', S') := fun c fs ρ' S' z => nx c fs ρ' S' (by rw [hm, z])
        rcases hwu with ⟨e1, mu⟩ | ⟨o, e1⟩
        · refine .inr ⟨d, u, rfl, by rw [hw, e1], mu, fun od nf => ?_⟩
          obtain ⟨J, lk, wk, at_⟩ := key od (.inr e1)
          refine at_ _ _ upd_same ?_
          exact loopP rg r lk wk (.inr ⟨⟨od, by rw [e1]⟩, nf⟩) tt1'.l (er.step t1) hm nx' po
        · refine .inl ?_
          obtain ⟨J, lk, wk, at_⟩ := key o (.inl e1)
          have eH : upd H1 d (.frz o u) = H1 := by
            funext b
            by_cases hb : b = d
            · rw [hb, upd_same, hw, e1]
            · rw [upd_ne hb]
          refine at_ H1 _ (by rw [hw, e1]) ?_
          have := loopP rg r lk wk (.inl e1.symm) tt1'.l (er.step t1) hm nx' po
          rw [eH] at this
          exact this
    · cases hm
  · rename_i c fs q
    cases hm
    refine re σ H g S ρ _ (.ex c fs) (md.wr rr) er.f.r q fun cls d g' H' gr xr => ?_
    obtain ⟨r1, t1⟩ := md.grow rr gr
    exact po cls d σ g' H' r1 (tt.step t1) (er.step t1) xr
  · cases hm
end
end L3

end
section
set_option Elab.async false
set_option linter.all false
set_option maxRecDepth 100000
set_option maxHeartbeats 4000000
namespace L3
open PySem PySem.Spec L2
set_option autoImplicit false
/-! ### comprehensions over a dict (or a list of the store) -/
def onlyZ (ρ : Env) : Env := ρ.map fun s => match s with
  | some x => if fz x then some x else none
  | none => none
theorem onlyZ_get {ρ : Env} {i : Nat} {x : PV} (h : (onlyZ ρ)[i]? = some (some x)) : ρ[i]? = some (some x) ∧ fz x = true := by
  unfold onlyZ at h
  rw [List.getElem?_map] at h
  cases e : ρ[i]? with
  | none => rw [e] at h; cases h
  | some s =>
    rw [e] at h
    cases s with
    | none => cases h
    | some y =>
      have h : (if fz y then some y else none) = some x := Option.some.inj h
      split at h
      · rename_i hf; cases h; exact ⟨rfl, hf⟩
      · cases h
theorem EnvR.only {K : PySem.W.Frag} {g g' : G} {H H' : Hp} {σ : St} {ρ : Env} (e : EnvR K g H σ ρ) (le : GLe g g') : EnvR K g' H' σ (onlyZ ρ) := by
  refine ⟨by simp [onlyZ, e.len], fun i x h => ?_, fun i j x y v h1 h2 f1 f2 s1 s2 => ?_⟩
  · obtain ⟨h1, hf⟩ := onlyZ_get h
    obtain ⟨v, hv, sl⟩ := e.at_ i x h1
    exact ⟨v, hv, SlR.of_fr (FR.mono le _ _ (sl.ov.fr hf))⟩
  · rw [(onlyZ_get h1).2] at f1; cases f1
theorem WR.lock {K : PySem.W.Frag} {g : G} {S : Store} {H : Hp} {d : Addr} {u w L : HO} (r : WR K g S H) (hd : H d = some w) (l : Lw u w L) (nu : NoFz u) (ni : ∀ C dx fs, w ≠ .ins C dx fs) : WR K g S (upd H d L) :=
  ⟨r.f.upd hd l nu, r.k, fun n o e => (r.s n o e).monoN (.refl _) (RdN.upd hd l nu) fun C dx fs q => by
    rw [upd_ne (fun z => by rw [z, hd] at q; cases q; exact ni _ _ _ rfl)]; exact q⟩
/-- the lock is taken away again -/
theorem Grow.unlock {K : PySem.W.Frag} {g g' : G} {S : Store} {H H' : Hp} {d : Addr} {u w L : HO} (r : WR K g S H) (hd : H d = some w) (l : Lw u w L) (nu : NoFz u) (y : Grow g (upd H d L) g' H') : Grow g H g' (upd H' d w) := by
  have hL : H' d = some L := y.h _ _ upd_same
  refine ⟨y.le, y.mu, y.k, y.m, fun b o e => ?_, fun b v q => ?_, fun a ha => ?_⟩
  · by_cases hb : b = d
    · subst hb; rw [upd_same, ← hd]; exact e
    · rw [upd_ne hb]; exact y.h _ _ (by rw [upd_ne hb]; exact e)
  · by_cases e : b = d
    · subst e
      -- what is at rest there stood there before
      have ne : g'.F b ≠ Option.none := by rcases q with q | ⟨_, q⟩ <;> rw [q] <;> simp
      rcases y.n b ne with z | z
      · cases e0 : g.F b with
        | none => exact absurd e0 z
        | some f0 =>
          have e1 : g'.F b = some f0 := y.le.f _ _ e0
          have q0 : Rd g.F b v := by
            rcases q with q | ⟨o, q⟩
            · rw [e1] at q; exact .inl (e0.trans q)
            · rw [e1] at q; exact .inr ⟨o, e0.trans q⟩
          rcases r.f _ _ q0 with z | ⟨o, z⟩
          · rw [hd] at z; exact .inl (by rw [upd_same]; exact z)
          · rw [hd] at z; exact .inr ⟨o, by rw [upd_same]; exact z⟩
      · rw [upd_same] at z; cases z
    · rcases y.f b v q with z | ⟨o, z⟩
      · exact .inl (by rw [upd_ne e]; exact z)
      · exact .inr ⟨o, by rw [upd_ne e]; exact z⟩
  · rcases y.n a ha with q | q
    · exact .inl q
    · have na : a ≠ d := fun z => by rw [z, upd_same] at q; cases q
      exact .inr (by rw [upd_ne na] at q; exact q)
def lLcD (k : Kw) (it : Ex) (tg : Tg) (tt : Te) (te : Ex) (vs : List Nat) : Ar := fun ρ S => mb (it ρ S) fun x => match walkP true k S x with
  | some xs => if decide (xs.length ≤ most) then mo (lcGo tg tt te (wipeP (onlyZ ρ) vs) S xs) else none
  | none => none
theorem lcP {K : PySem.W.Frag} {g1 : Tg} {tt : Te} {te : Ex} {vs ks : List Nat} {S : Store} {gJ : G} {HJ : Hp} {σ : St} {ρ : Env} {J : It} {xs ys : List PV} {P : Hp → Prop} {Q : VK} (hk : ∀ k ∈ ks, k ∈ vs) (wJ : WR K gJ S HJ) (er : EnvR K gJ HJ σ ρ) (wk : WkP K gJ J xs P) (hP : ∀ H, Same HJ H → P H)
    (hlen : xs.length ≤ most) (q2 : lcGo g1 tt te (wipeP ρ vs) S xs = some ys)
    (po : ∀ p ws g' H', Grow gJ HJ g' H' → HJ p = none → H' p = some (.lst ws) → g'.F p = none → FRs K g' ys ws → Q (.ref p) H') (D : Addr) (hD : HJ D = none) :
    ∃ W : Nat → Nat → Hp → Prop, (∃ m, W 0 m (upd HJ D (.lst []))) ∧ ∀ i m H, W i m H →
      (J.stop i H ∧ Q (.ref D) H) ∨ (J.go i H ∧ ∃ N : Hp → Prop, (∀ H', N H' → ∃ m', m' < m ∧ W (i + 1) m' H') ∧ ∀ x H', J.yld i H x H' → cG K ks g1 x (wipe σ vs) H' fun σ2 H2 => wipe σ2 vs = wipe σ vs ∧ cE K RB WX0 tt σ2 H2 fun b H3 =>
        if b = true then cE K (RV K) WX0 te σ2 H3 fun u H4 => ∃ xs, H4 D = some (.lst xs) ∧ xs.length < sizeLine ∧ N (upd H4 D (.lst (xs ++ [u]))) else N H3) := by
  have fD : gJ.F D = none := by
    cases e : gJ.F D with
    | none => rfl
    | some u => rcases wJ.f D u (.inl e) with q | ⟨_, q⟩ <;> rw [hD] at q <;> cases q
  refine ⟨fun i j H => ∃ g vals done rest, Grow gJ HJ g H ∧ H D = some (.lst vals) ∧ g.F D = none ∧ FRs K g done vals ∧ lcGo g1 tt te (wipeP ρ vs) S (xs.drop i) = some rest ∧ done ++ rest = ys ∧ i + j = xs.length ∧ done.length ≤ i,
    ⟨xs.length, gJ, [], [], ys, .loose wJ hD, upd_same, fD, .nil, by simpa using q2, rfl, by omega, Nat.le_refl _⟩, ?_⟩
  rintro i j H ⟨g, vals, done, rest, gr, hHD, fD, fd, hgo, hys, hij, hdl⟩
  have wg : WR K g S H := gr.wr wJ
  have pH := hP H gr.h
  by_cases hi : i < xs.length
  · have hd : xs.drop i = xs[i] :: xs.drop (i + 1) := List.drop_eq_getElem_cons hi
    have hx : xs[i]? = some xs[i] := List.getElem?_eq_getElem hi
    rw [hd] at hgo
    unfold lcGo at hgo
    refine .inr ⟨wk.go H i _ pH hx, fun H' => ∃ g vals done rest, Grow gJ HJ g H' ∧ H' D = some (.lst vals) ∧ g.F D = none ∧ FRs K g done vals ∧ lcGo g1 tt te (wipeP ρ vs) S (xs.drop (i + 1)) = some rest ∧ done ++ rest = ys ∧ done.length ≤ i + 1,
      fun H' ⟨g', v', d', r', a1, a2, a3, a4, a5, a6, a7⟩ => ⟨j - 1, by omega, g', v', d', r', a1, a2, a3, a4, a5, a6, by omega, a7⟩, fun v H' hy => ?_⟩
    obtain ⟨g2, gr2, fx⟩ := wk.yld g S H i _ v H' gr.le wg pH hx hy
    have w2 := gr2.wr wg
    have e2 : EnvR K g2 H' (L2.wipe σ vs) (wipeP ρ vs) := ((er.mono gr).mono gr2).wipe vs
    split at hgo
    · cases hgo
    · rename_i ρ1 q1
      refine ⟨g2, S, _, ρ1, _, w2, e2, fx, q1, fun σ3 t3 => ⟨?_, ?_⟩⟩
      · rw [← wipe_wipe σ vs]
        exact wipe_same t3.l fun n hn => t3.s n fun z => hn (hk n z)
      · split at hgo
        · rename_i q3
          refine ⟨g2, S, ρ1, _, w2, t3.r, q3, fun b g3 H3 gr3 eb => ?_⟩
          subst eb
          rw [if_neg Bool.false_ne_true]
          exact ⟨g3, vals, done, rest, (gr.trans gr2).trans gr3, gr3.h _ _ (gr2.h _ _ hHD), gr3.none (gr2.h _ _ hHD) (gr2.none hHD fD), FRs.mono gr3.le _ _ (FRs.mono gr2.le _ _ fd), hgo, hys, by omega⟩
        · rename_i q3
          refine ⟨g2, S, ρ1, _, w2, t3.r, q3, fun b g3 H3 gr3 eb => ?_⟩
          subst eb
          rw [if_pos rfl]
          split at hgo
          · rename_i y q4
            split at hgo
            · rename_i hfy
              cases q5 : lcGo g1 tt te (wipeP ρ vs) S (xs.drop (i + 1)) with
              | none => rw [q5] at hgo; cases hgo
              | some rest' =>
                rw [q5] at hgo
                have e5 : rest = y :: rest' := (Option.some.inj hgo).symm
                subst e5
                refine ⟨g3, S, ρ1, _, gr3.wr w2, t3.r.mono gr3, q4, fun u g4 H4 gr4 ov => ?_⟩
                have gA := ((gr.trans gr2).trans gr3).trans gr4
                have hH4 : H4 D = some (.lst vals) := gr4.h _ _ (gr3.h _ _ (gr2.h _ _ hHD))
                have fD4 : g4.F D = none := gr4.none (gr3.h _ _ (gr2.h _ _ hHD)) (gr3.none (gr2.h _ _ hHD) (gr2.none hHD fD))
                have fd4 : FRs K g4 done vals := FRs.mono gr4.le _ _ (FRs.mono gr3.le _ _ (FRs.mono gr2.le _ _ fd))
                have hvl : vals.length < sizeLine := by
                  rw [← fd.length, sizeLine_eq]
                  have : most = 1000000 := rfl
                  omega
                refine ⟨vals, hH4, hvl, ?_⟩
                obtain ⟨_, gB, _⟩ := (Pm K).put (g0 := gJ) (S0 := S) (H0 := HJ) (S := S) (.lst (vals ++ [u])) wJ ⟨gA, rfl⟩ (gA.wr wJ) hH4 hD fD4 trivial
                exact ⟨g4, vals ++ [u], done ++ [y], rest', gB, upd_same, fD4, fd4.append (.cons (ov.fr hfy) .nil), rfl, by rw [List.append_assoc]; exact hys, by simp; omega⟩
            · cases hgo
          · cases hgo
        · cases hgo
  · have hi2 : i = xs.length := by omega
    rw [List.drop_of_length_le (by omega)] at hgo
    unfold lcGo at hgo
    cases hgo
    rw [List.append_nil] at hys
    subst hys
    subst hi2
    exact .inl ⟨wk.stop H pH, po D vals g H gr hD hHD fD fd⟩
section
variable {X : Cx} {W : WX} {elt tg iter e : Expr} {ifs : List Expr} {scope : Scope} {own : List (Str × Nat)} {pos : Pos}
theorem l_lcD {k : Kw} {it : Ex} {g1 : Tg} {tt : Te} {te : Ex} {ks : List Nat} (hc : X.calm = true) (hN : X.N.Nodup) (hit : SimE X W e it) (pik : ∀ td : TE, PE X e td → PI X tg iter (iK X.K k td)) (ok : BlkOk X.N X.env.scope scope own) (hk : ∀ k ∈ ks, k ∈ own.map (·.2))
    (hg : ∀ (s : Shared) (H : Hp) (C : Addr) (cl : List (Str × Addr)) (fp : List Addr), SimG (X.blk s H scope (compEnvC scope cl C X.env) fp) tg ks g1) (ht : ∀ (s : Shared) (H : Hp) (C : Addr) (cl : List (Str × Addr)) (fp : List Addr), SimTs (X.blk s H scope (compEnvC scope cl C X.env) fp) WX0 ifs tt)
    (he : ∀ (s : Shared) (H : Hp) (C : Addr) (cl : List (Str × Addr)) (fp : List Addr), SimE (X.blk s H scope (compEnvC scope cl C X.env) fp) WX0 elt te) (hs : ∀ x, foldedSetIterable iter X.env x = pure x := by intro _; rfl) :
    SimL X W (.ListComp elt [⟨tg, iter, ifs, 0⟩] scope pos) (lLcD k it g1 tt te (own.map (·.2))) := by
  obtain ⟨ti, pi, ri⟩ := hit.ex
  refine ⟨_, pe_unl (pe_lc (g := cG X.K ks g1) (tt := cE X.K RB WX0 tt) (te := cE X.K (RV X.K) WX0 te) hc hN (pik _ (pe_lkA pi)) ok (fun s H C cl fp => (hg s H C cl fp).c) (fun s H C cl fp => (ht s H C cl fp).ex) (fun s H C cl fp => (he s H C cl fp).c) hs), fun σ H g S ρ Q r w er hm po => ?_⟩
  show iK X.K k (tLkA X ti) σ H _
  rw [iK_eq]
  unfold lLcD at hm
  cases q : it ρ S with
  | none => rw [q] at hm; cases hm
  | some z =>
    rw [q] at hm
    cases z with
    | ex c fs =>
      have e2 : r = .ex c fs := (Option.some.inj hm).symm
      subst e2
      exact ri σ H g S ρ _ (.ex c fs) w er q po
    | ok x =>
      replace hm : (match walkP true k S x with
        | some xs => if decide (xs.length ≤ most) then mo (lcGo g1 tt te (wipeP (onlyZ ρ) (own.map (·.2))) S xs) else none
        | none => none) = some r := hm
      split at hm
      · rename_i xs qx
        split at hm
        · rename_i hlen
          have hlen := of_decide_eq_true hlen
          cases q2 : lcGo g1 tt te (wipeP (onlyZ ρ) (own.map (·.2))) S xs with
          | none => rw [q2] at hm; cases hm
          | some ys =>
            rw [q2] at hm
            have e2 : r = .ok ys := (Option.some.inj hm).symm
            subst e2
            refine ri σ H g S ρ _ (.ok x) w er q fun v g1' H1 gr ov => ?_
            have w1 := gr.wr w
            obtain ⟨d, u, ww, rfl, hw, ⟨nu, nin⟩, hwu, key⟩ := walk_p (md := Pm X.K) lkm_P w1 w1 ⟨.refl w1, rfl⟩ ov qx
            have fin : ∀ o, (ww = .frz o u ∨ ww = u) → (∀ v H', Q v (upd H' d ww) → H' d = some (.frz o u) → unlV X Q v H') → atK X.K k (.ref d) (upd H1 d (.frz o u)) fun J H1 => ∀ D, H1 D = none → ∃ W : Nat → Nat → Hp → Prop, (∃ m, W 0 m (upd H1 D (.lst []))) ∧ ∀ i m H, W i m H →
                (J.stop i H ∧ unlV X Q (.ref D) H) ∨ (J.go i H ∧ ∃ N : Hp → Prop, (∀ H', N H' → ∃ m', m' < m ∧ W (i + 1) m' H') ∧ ∀ x H', J.yld i H x H' → cG X.K ks g1 x (wipe σ (own.map (·.2))) H' fun σ2 H2 => wipe σ2 (own.map (·.2)) = wipe σ (own.map (·.2)) ∧ cE X.K RB WX0 tt σ2 H2 fun b H3 =>
                  if b = true then cE X.K (RV X.K) WX0 te σ2 H3 fun u H4 => ∃ xs, H4 D = some (.lst xs) ∧ xs.length < sizeLine ∧ N (upd H4 D (.lst (xs ++ [u]))) else N H3) := fun o ho un => by
              obtain ⟨J, lk, wk, at_⟩ := key o ho
              have l : Lw u ww (.frz o u) := by rcases ho with h | h <;> subst h <;> first | exact .eq | exact .lk o
              have ni : ∀ C dx fs, ww ≠ .ins C dx fs := fun C dx fs z => by
                rcases ho with h | h
                · rw [h] at z; cases z
                · rw [h] at z; exact nin _ _ _ z
              refine at_ _ _ upd_same fun D hD => ?_
              refine lcP hk (w1.lock hw l nu ni) (er.only gr.le) wk (fun H hS => hS _ _ upd_same) hlen q2 (fun p ws g' H' gr' hp hp' fp fr => ?_) D hD
              have hL : H' d = some (.frz o u) := gr'.h _ _ upd_same
              have np : p ≠ d := fun z => by rw [z, upd_same] at hp; cases hp
              refine un _ _ (po p ws g' _ (gr.trans (Grow.unlock w1 hw l nu gr')) (gr.h.free (by rw [upd_ne np] at hp; exact hp)) (by rw [upd_ne np]; exact hp') fp fr) hL
            rcases hwu with ⟨e1, mu⟩ | ⟨o, e1⟩
            · refine .inr ⟨d, u, rfl, by rw [hw, e1], mu, fun od nf => ?_⟩
              exact fin od (.inr e1) fun v H' q hL => .inr ⟨d, od, ww, by rw [hL, e1], nf, q⟩
            · refine .inl ?_
              have eH : upd H1 d (.frz o u) = H1 := by
                funext b
                by_cases hb : b = d
                · rw [hb, upd_same, hw, e1]
                · rw [upd_ne hb]
              have := fin o (.inl e1) fun v H' q hL => .inl (by
                have e2 : upd H' d ww = H' := by
                  funext b
                  by_cases hb : b = d
                  · rw [hb, upd_same, hL, e1]
                  · rw [upd_ne hb]
                rw [e2] at q; exact q)
              rw [eH] at this
              exact this
        · cases hm
      · cases hm
end
end L3

end
section
set_option Elab.async false
set_option linter.all false
set_option maxRecDepth 100000
set_option maxHeartbeats 4000000
namespace L3
open PySem PySem.Spec L2
set_option autoImplicit false
theorem noa_ok {K : PySem.W.Frag} {c f : Str} (h : (Ow.noa c f).ok K = true) : PySem.W.findIn K (.ref (He.ga K c)) f = some none := He.eqO_ok h
/-! ### an object of the store, read at present -/
def drP (S : Store) : PV → PV
  | .ref n => (match S[n]? with
    | some (.lst xs) => .ol xs
    | some (.dct kvs) => .od kvs
    | _ => .ref n)
  | x => x
theorem drP_ok {K : PySem.W.Frag} {g : G} {S : Store} {H : Hp} {x : PV} {v : V} (w : WR K g S H) (h : OV K g H x v) : OV K g H (drP S x) v := by
  cases x with
  | ref n =>
    show OV K g H (match S[n]? with | some (.lst xs) => .ol xs | some (.dct kvs) => .od kvs | _ => .ref n) v
    cases h.fr rfl with
    | ref hn =>
      split
      · rename_i xs q; obtain ⟨vs, r, f⟩ := w.s n _ q; exact .ol r f
      · rename_i xs q; obtain ⟨vs, r, f⟩ := w.s n _ q; exact .od r f
      · exact h
  | _ => exact h
def xDr (m : Ex) : Ex := fun ρ S => mb (m ρ S) fun x => some (.ok (drP S x))
section
variable {X : Cx} {md : Md X.K} {W : WX} {e o tg iter a : Expr} {es : List Expr} {pos p apos cpos tpos : Pos}
theorem e_dr {m : Ex} (h : SimE X W e m) : SimE X W e (xDr m) := by
  obtain ⟨t, pt, r⟩ := h.ex
  refine ⟨t, pt, fun σ H g S ρ Q res w er hm po => ?_⟩
  unfold xDr at hm
  cases q : m ρ S with
  | none => rw [q] at hm; cases hm
  | some z =>
    rw [q] at hm
    cases z with
    | ex c fs => cases hm; exact r σ H g S ρ _ (.ex c fs) w er q po
    | ok x => cases hm; exact r σ H g S ρ _ (.ok x) w er q fun v g' H' gr ov => po v g' H' gr (drP_ok (gr.wr w) ov)
def xDrX (m : Xm) : Xm := xBP m fun x _ S => some (.ok (drP S x))
theorem x_dr {m : Xm} (h : SimX X md W e m) : SimX X md W e (xDrX m) := by
  obtain ⟨t, pt, r⟩ := h.ex
  refine ⟨_, pt, RchX.pur (tk := fun x _ H1 Q => Q x H1) r fun x u σ H g S ρ Q res w er hx hm po => ?_⟩
  cases hm
  exact po u g H (.refl w) (drP_ok w hx)
/-! ### methods of lists of the store -/
def SoOk (K : PySem.W.Frag) (op : SO → List PV → Option (PV × SO)) (r : V → List V → Hp → VK → Prop) : Prop :=
  ∀ (g : G) (S : Store) (H : Hp) (n : Nat) (ob ob' : SO) (xs : List PV) (z : PV) (us : List V) (Q : VK), RE K g S H → n < g.k → S[n]? = some ob → OVs K g H xs us → op ob xs = some (z, ob') → (∀ v H', RE K g (S.set n ob') H' → TE' g H g H' → FR K g z v → Q v H') → r (.ref (g.mu n)) us H Q
def xMtS (op : SO → List PV → Option (PV × SO)) (o : Ex) (a : Ar) : Xm := fun ρ S => match o ρ S with
  | some (.ok (.ref n)) => (match S[n]? with
    | some (.lst ys) => (match a ρ S with
      | some (.ok xs) => (match op (.lst ys) xs with
        | some (z, ob') => some (.ok z, S.set n ob')
        | none => none)
      | some (.ex c fs) => some (.ex c fs, S)
      | none => none)
    | _ => none)
  | some (.ex c fs) => some (.ex c fs, S)
  | _ => none
theorem x_mtS {name : Str} {id : String} {r : V → List V → Hp → VK → Prop} {op : SO → List PV → Option (PV × SO)} {m : Ex} {n : Ar} (slot : Slot "list" name id) (hty : typeOf (.builtin id) = pure (.type "method_descriptor")) (hm : MtR X id r) (hk : SoOk X.K op r) (ho : SimE X W o m) (ha : SimA X W (e :: es) n)
    (hbase : attributeBase o name X.env (eval o X.env) = eval o X.env := by rfl)
    (hfew : ((backTo cpos (starEach (e :: es) X.env)).all (fun x => !x.1) && (backToKw cpos (keywordEach [] X.env)).all (fun x => x.1.isSome) && decide ((e :: es).length + ([] : List Keyword).length + (if ([] : List Keyword).isEmpty then 0 else 1) < 30)) = true := by rfl)
    (hline : (apos.endLine == cpos.line) = true := by rfl) (hs : starEach (e :: es) X.env = (false, eval e X.env) :: starEach es X.env := by rfl) (hplain : (backTo cpos (starEach es X.env)).any (·.1) = false := by rfl) :
    SimX X (Em X.K) W (.Call (.Attribute o name apos) (e :: es) [] cpos) (xMtS op m n) := by
  obtain ⟨t, pt, rt⟩ := ho.ex
  obtain ⟨t1, p1, r1⟩ := ha.ex
  refine ⟨_, pe_bm PySem.F.plainAttrs_list slot hty hm pt p1 hbase hfew hline hs hplain, fun σ H g S ρ Q res rr er hm po => ?_⟩
  unfold xMtS at hm
  split at hm
  · rename_i k q
    split at hm
    · rename_i ys q2
      refine rt σ H g S ρ _ (.ok (.ref k)) rr.wr er.r q fun v g1 H1 gr1 ov1 => ?_
      obtain ⟨rr1, tt1⟩ := (Em X.K).grow rr gr1
      cases ov1.fr rfl with
      | ref hn =>
        obtain ⟨vs, hl, _⟩ := rr1.s k _ q2
        refine ⟨.inl ⟨rfl, vs, .inl (.inl hl)⟩, ?_⟩
        split at hm
        · rename_i xs q3
          split at hm
          · rename_i z ob' q4
            cases hm
            refine r1 σ H1 g1 S ρ _ (.ok xs) rr1.wr (er.step (S' := S) tt1).r q3 fun us g2 H2 gr2 ox => ?_
            obtain ⟨rr2, tt2⟩ := (Em X.K).grow rr1 gr2
            have hn2 : k < g2.k := Nat.lt_of_lt_of_le hn gr2.le.k
            have e : g2.mu k = g1.mu k := gr2.le.m k hn
            rw [← e]
            exact hk g2 S H2 k _ ob' xs z us Q rr2 hn2 q2 ox q4 fun v H3 r3 t3 fz => po v g2 H3 r3 ((Em X.K).trans (S1 := S) (S2 := S.set k ob') ((Em X.K).trans (S1 := S) (S2 := S) tt1 tt2) t3) (.frz fz)
          · cases hm
        · rename_i c fs q3
          cases hm
          refine r1 σ H1 g1 S ρ _ (.ex c fs) rr1.wr (er.step (S' := S) tt1).r q3 fun cls d g2 H2 gr2 xr => ?_
          obtain ⟨rr2, tt2⟩ := (Em X.K).grow rr1 gr2
          exact po cls d g2 H2 rr2 ((Em X.K).trans (S1 := S) (S2 := S) tt1 tt2) xr
        · cases hm
    · cases hm
  · rename_i c fs q
    cases hm
    refine rt σ H g S ρ _ (.ex c fs) rr.wr er.r q fun cls d g1 H1 gr1 xr => ?_
    obtain ⟨rr1, tt1⟩ := (Em X.K).grow rr gr1
    exact po cls d g1 H1 rr1 tt1 xr
  · cases hm
theorem x_mtS0 {name : Str} {id : String} {r : V → List V → Hp → VK → Prop} {op : SO → List PV → Option (PV × SO)} {m : Ex} (slot : Slot "list" name id) (hty : typeOf (.builtin id) = pure (.type "method_descriptor")) (hm : MtR X id r) (hk : SoOk X.K op r) (ho : SimE X W o m)
    (hbase : attributeBase o name X.env (eval o X.env) = eval o X.env := by rfl) (hline : (apos.endLine == cpos.line) = true := by rfl) :
    SimX X (Em X.K) W (.Call (.Attribute o name apos) [] [] cpos) (xMtS op m aNil) := by
  obtain ⟨t, pt, rt⟩ := ho.ex
  refine ⟨_, pe_bm0 PySem.F.plainAttrs_list slot hty hm pt hbase hline, fun σ H g S ρ Q res rr er hm po => ?_⟩
  unfold xMtS at hm
  split at hm
  · rename_i k q
    split at hm
    · rename_i ys q2
      refine rt σ H g S ρ _ (.ok (.ref k)) rr.wr er.r q fun v g1 H1 gr1 ov1 => ?_
      obtain ⟨rr1, tt1⟩ := (Em X.K).grow rr gr1
      cases ov1.fr rfl with
      | ref hn =>
        obtain ⟨vs, hl, _⟩ := rr1.s k _ q2
        refine ⟨.inl ⟨rfl, vs, .inl (.inl hl)⟩, ?_⟩
        replace hm : (match op (.lst ys) [] with | some (z, ob') => some (Res.ok z, S.set k ob') | none => none) = some res := hm
        split at hm
        · rename_i z ob' q4
          cases hm
          exact hk g1 S H1 k _ ob' [] z [] Q rr1 hn q2 .nil q4 fun v H3 r3 t3 fz => po v g1 H3 r3 ((Em X.K).trans (S1 := S) (S2 := S.set k ob') tt1 t3) (.frz fz)
        · cases hm
    · cases hm
  · rename_i c fs q
    cases hm
    refine rt σ H g S ρ _ (.ex c fs) rr.wr er.r q fun cls d g1 H1 gr1 xr => ?_
    obtain ⟨rr1, tt1⟩ := (Em X.K).grow rr gr1
    exact po cls d g1 H1 rr1 tt1 xr
  · cases hm
end
/-- l.append(x) -/
def soApp : SO → List PV → Option (PV × SO)
  | .lst ys, [x] => if fz x && decide (ys.length < most) then some (.non, .lst (ys ++ [x])) else none
  | _, _ => none
theorem soApp_ok {K : PySem.W.Frag} : SoOk K soApp rAppend := by
  intro g S H n ob ob' xs z us Q r hn ho hx e q
  unfold soApp at e
  split at e
  · rename_i ys x
    obtain ⟨u, rfl, hu⟩ := ovs1 hx
    split at e
    · rename_i hc
      simp only [Bool.and_eq_true, decide_eq_true_eq] at hc
      cases e
      obtain ⟨vs, h1, h2⟩ := r.s n _ ho
      obtain ⟨r2, t2⟩ := r.store (n := n) (o' := .lst (ys ++ [x])) (ho := .lst (vs ++ [u])) hn ⟨_, upd_same, h2.append (.cons (hu.fr hc.1) .nil)⟩
      exact ⟨_, vs, u, rfl, rfl, h1, by rw [← h2.length]; exact Nat.lt_of_lt_of_le hc.2 most_le, q _ _ r2 t2 .non⟩
    · cases e
  · cases e
/-- l.pop() -/
def soPop : SO → List PV → Option (PV × SO)
  | .lst ys, [] => (match ys[ys.length - 1]? with
    | some y => some (y, .lst ys.dropLast)
    | none => none)
  | _, _ => none
theorem FRs.dropLast {K : PySem.W.Frag} {g : G} {x : List PV} {v : List V} (q : FRs K g x v) : FRs K g x.dropLast v.dropLast := by
  rw [List.dropLast_eq_take, List.dropLast_eq_take, q.length]; exact q.take _
theorem soPop_ok {K : PySem.W.Frag} : SoOk K soPop rPop := by
  intro g S H n ob ob' xs z us Q r hn ho hx e q
  unfold soPop at e
  split at e
  · rename_i ys
    split at e
    · rename_i y hy
      cases e
      obtain ⟨vs, h1, h2⟩ := r.s n _ ho
      obtain ⟨r2, t2⟩ := r.store (n := n) (o' := .lst ys.dropLast) (ho := .lst vs.dropLast) hn ⟨_, upd_same, h2.dropLast⟩
      obtain ⟨u, hu, fu⟩ := h2.get hy
      cases hx
      exact ⟨_, vs, u, rfl, rfl, h1, by rw [← h2.length]; exact hu, q _ _ r2 t2 fu⟩
    · cases e
  · cases e
/-- l.remove(x), a list of whole numbers -/
def ixI (k : Int) : List Int → Option Nat
  | [] => none
  | y :: r => if y = k then some 0 else (ixI k r).map (· + 1)
theorem ixI_ok {k : Int} : ∀ {ns : List Int} {j : Nat}, ixI k ns = some j → ns[j]? = some k ∧ ∀ m, m < j → ns[m]? ≠ some k
  | [], j, h => by cases h
  | y :: r, j, h => by
    unfold ixI at h
    split at h
    · rename_i e; cases h; subst e; exact ⟨rfl, fun m hm => absurd hm (Nat.not_lt_zero _)⟩
    · rename_i e
      cases q : ixI k r with
      | none => rw [q] at h; cases h
      | some i =>
        rw [q] at h
        cases h
        obtain ⟨h1, h2⟩ := ixI_ok q
        refine ⟨h1, fun m hm => ?_⟩
        cases m with
        | zero => intro z; exact e (Option.some.inj z)
        | succ m => exact h2 m (Nat.lt_of_succ_lt_succ hm)
def soRem : SO → List PV → Option (PV × SO)
  | .lst ys, [.int k] => (match intsOf ys with
    | some ns => (match ixI k ns with
      | some j => some (.non, .lst ((ns.eraseIdx j).map .int))
      | none => none)
    | none => none)
  | _, _ => none
theorem FRs.ints {K : PySem.W.Frag} {g : G} : ∀ (ns : List Int), FRs K g (ns.map .int) (ns.map V.int)
  | [] => .nil
  | n :: r => .cons (.int n) (FRs.ints r)
theorem soRem_ok {K : PySem.W.Frag} : SoOk K soRem rRemI := by
  intro g S H n ob ob' xs z us Q r hn ho hx e q
  unfold soRem at e
  split at e
  · rename_i ys k
    obtain ⟨u, rfl, hu⟩ := ovs1 hx
    split at e
    · rename_i ns hns
      split at e
      · rename_i j hj
        cases e
        cases hu.fr rfl
        obtain ⟨vs, h1, h2⟩ := r.s n _ ho
        have ev := intsOf_ok h2 hns
        subst ev
        obtain ⟨r2, t2⟩ := r.store (n := n) (o' := .lst ((ns.eraseIdx j).map .int)) (ho := .lst ((ns.eraseIdx j).map V.int)) hn ⟨_, upd_same, FRs.ints _⟩
        obtain ⟨k1, k2⟩ := ixI_ok hj
        exact ⟨_, ns, k, j, rfl, rfl, h1, k1, k2, q _ _ r2 t2 .non⟩
      · cases e
    · cases e
  · cases e
section
variable {X : Cx} {W : WX} {e o : Expr} {apos cpos : Pos}
theorem x_appS {m : Ex} {n : Ar} (ho : SimE X W o m) (ha : SimA X W [e] n) (hbase : attributeBase o "append" X.env (eval o X.env) = eval o X.env := by rfl)
    (hfew : ((backTo cpos (starEach [e] X.env)).all (fun x => !x.1) && (backToKw cpos (keywordEach [] X.env)).all (fun x => x.1.isSome) && decide ([e].length + ([] : List Keyword).length + (if ([] : List Keyword).isEmpty then 0 else 1) < 30)) = true := by rfl)
    (hline : (apos.endLine == cpos.line) = true := by rfl) (hs : starEach [e] X.env = (false, eval e X.env) :: starEach [] X.env := by rfl) (hplain : (backTo cpos (starEach [] X.env)).any (·.1) = false := by rfl) :
    SimX X (Em X.K) W (.Call (.Attribute o "append" apos) [e] [] cpos) (xMtS soApp m n) := x_mtS PySem.F.slot_list_append PySem.F.type_list_append mt_append soApp_ok ho ha hbase hfew hline hs hplain
theorem x_remS {m : Ex} {n : Ar} (ho : SimE X W o m) (ha : SimA X W [e] n) (hbase : attributeBase o "remove" X.env (eval o X.env) = eval o X.env := by rfl)
    (hfew : ((backTo cpos (starEach [e] X.env)).all (fun x => !x.1) && (backToKw cpos (keywordEach [] X.env)).all (fun x => x.1.isSome) && decide ([e].length + ([] : List Keyword).length + (if ([] : List Keyword).isEmpty then 0 else 1) < 30)) = true := by rfl)
    (hline : (apos.endLine == cpos.line) = true := by rfl) (hs : starEach [e] X.env = (false, eval e X.env) :: starEach [] X.env := by rfl) (hplain : (backTo cpos (starEach [] X.env)).any (·.1) = false := by rfl) :
    SimX X (Em X.K) W (.Call (.Attribute o "remove" apos) [e] [] cpos) (xMtS soRem m n) := x_mtS PySem.F.slot_list_remove PySem.F.type_list_remove mt_remove soRem_ok ho ha hbase hfew hline hs hplain
theorem x_popS {m : Ex} (ho : SimE X W o m) (hbase : attributeBase o "pop" X.env (eval o X.env) = eval o X.env := by rfl) (hline : (apos.endLine == cpos.line) = true := by rfl) :
    SimX X (Em X.K) W (.Call (.Attribute o "pop" apos) [] [] cpos) (xMtS soPop m aNil) := x_mtS0 PySem.F.slot_list_pop PySem.F.type_list_pop mt_pop soPop_ok ho hbase hline
/-! ### the walks' rules -/
variable {tg iter a : Expr} {pos p tpos : Pos} {elts : List Expr} {kk : Nat}
theorem w_keys : ∀ td : TE, PE X e td → PI X tg e (iK X.K .keys td) := fun td h => pi_keys h
theorem w_items (hbase : attributeBase e "items" X.env (eval e X.env) = eval e X.env := by rfl) (hline : (apos.endLine == cpos.line) = true := by rfl) : ∀ td : TE, PE X e td → PI X (.Tuple elts kk tpos) (.Call (.Attribute e "items" apos) [] [] cpos) (iK X.K .items td) := fun td h => pi_items h hbase hline
theorem w_vals (hbase : attributeBase e "values" X.env (eval e X.env) = eval e X.env := by rfl) (hline : (apos.endLine == cpos.line) = true := by rfl) : ∀ td : TE, PE X e td → PI X tg (.Call (.Attribute e "values" apos) [] [] cpos) (iK X.K .vals td) := fun td h => pi_values h hbase hline
theorem w_seq : ∀ td : TE, PE X e td → PI X tg e (iK X.K .seq td) := fun td h => pi_list h
theorem w_enum (hg : Gl X "enumerate") (hm : X.mg "enumerate" = none) (hs : starEach [e] X.env = [(false, eval e X.env)] := by rfl) (hs2 : starEach [e] X.env = (false, eval e X.env) :: starEach [] X.env := by rfl) : ∀ td : TE, PE X e td → PI X (.Tuple elts kk tpos) (.Call (.Name "enumerate" p) [e] [] pos) (iK X.K .enum td) := fun td h => pi_enum hg hm (pa_cons h pa_nil hs2) hs
end
end L3

end
section
set_option Elab.async false
set_option linter.all false
set_option maxRecDepth 100000
set_option maxHeartbeats 400000
namespace L3
open PySem PySem.Spec L2
set_option autoImplicit false
section
variable {X : Cx} {md : Md X.K} {W : WX} {a b : Expr} {pos : Pos}
/-- two values, the first one an object of the store, read after the second -/
def xOpD (op : PV → PV → Option PV) (ma mb' : Xm) : Xm := xB ma fun x ρ S => if fz x then (match mb' ρ S with
  | some (.ok y, S') => (op (drP S' x) y).map fun z => (.ok z, S')
  | some (.ex c fs, S') => some (.ex c fs, S')
  | none => none) else none
theorem rchx_opD {r : R2} {op : PV → PV → Option PV} {ta tb : TE} {ma mb' : Xm} (hk : OpOk X.K op r) (ha : RchX md W ta ma) (hb : RchX md W tb mb') : RchX md W (tOp r ta tb) (xOpD op ma mb') := by
  refine RchX.bind (tk := fun x σ H1 Q => tb σ H1 fun y H2 => r x y H2 Q) ha fun x u σ H g S ρ Q res rr er hx hm po => ?_
  split at hm
  · rename_i hf
    have fx := hx.fr hf
    split at hm
    · rename_i y S' q
      refine hb σ H g S ρ _ (.ok y, S') rr er q fun v g' H' r1 t1 hy => ?_
      cases z : op (drP S' x) y with
      | none => rw [z] at hm; cases hm
      | some zz =>
        rw [z] at hm
        have e2 : res = (.ok zz, S') := (Option.some.inj hm).symm
        subst e2
        refine hk g' S' H' (drP S' x) y zz u v Q (md.wr r1) (drP_ok (md.wr r1) (.frz (FR.mono (md.le t1) _ _ fx))) hy z fun w2 g2 H2 gr2 o2 => ?_
        obtain ⟨r2, t2⟩ := md.grow r1 gr2
        exact po w2 g2 H2 r2 (md.trans t1 t2) o2
    · rename_i c fs S' q
      cases hm
      exact hb σ H g S ρ _ (.ex c fs, S') rr er q po
    · cases hm
  · cases hm
theorem X_ixD {ma mb' : Xm} (hu : X.A.units + 64 < cLine) (ha : SimX X md W a ma) (hb : SimX X md W b mb') (hs : PlainIx b := by intro _ _; rfl) : SimX X md W (.Subscript a b pos) (xOpD oIxA ma mb') := by
  obtain ⟨ta, pa, ra⟩ := ha.ex
  obtain ⟨tb, pb, rb⟩ := hb.ex
  exact ⟨_, pe_ix (ix_A hu) pa pb hs, rchx_opD oIxA_ok ra rb⟩
end
end L3

end
section
set_option Elab.async false
set_option linter.all false
set_option maxRecDepth 100000
set_option maxHeartbeats 400000
namespace L3
open PySem PySem.Spec L2
set_option autoImplicit false
section
variable {X : Cx} {md : Md X.K} {W : WX} {es : List Expr} {pos : Pos}
/-- a, b, .. = a list -/
def gL (n : Nat) (b : Tgs) : Tg := fun x ρ => match x with
  | .lst xs => if xs.length == n then b xs ρ else none
  | _ => none
theorem g_lst {k : Nat} {n : Nat} {b : Tgs} {ks : List Nat} (hc : X.calm = true) (h : SimGs X es ks b) (hn : (assignEach es X.env).length = n := by rfl) (hst : (assignEach es X.env).findIdx? (·.1) = none := by rfl) : SimG X (.Tuple es k pos) ks (gL n b) := by
  obtain ⟨t, p, r⟩ := h.ex
  refine ⟨_, pg_lst hc p hn hst, fun v σ H g S ρ ρ' x Q w er f hm q => ?_⟩
  unfold gL at hm
  split at hm
  · rename_i xs
    split at hm
    · rename_i hl
      cases f with
      | lst s fr => exact ⟨_, _, rfl, w.f.sqL (.inl s), by rw [← fr.length]; exact eq_of_beq hl, r _ σ H g S ρ ρ' xs Q w er fr hm q⟩
    · cases hm
  · cases hm
/-- sum(t) of a tuple of ints -/
def rSumT (K : PySem.W.Frag) : List V → Hp → VK → Prop := fun vs H Q => ∃ (a : Addr) (ns : List Int), vs = [V.ref a] ∧ SqT K H a (ns.map V.int) ∧ Q (.int ns.sum) H
theorem cr_sumT (hc : X.calm = true) : CallR X (.builtin "sum") (rSumT X.K) := by
  intro pins s σ H vs us Q I r h
  obtain ⟨a, ns, rfl, hs, q⟩ := h
  obtain ⟨its, rv, ht, _⟩ := I.tuple hs
  rw [Vals.ref1 r]
  obtain ⟨xs, e⟩ := rv.ints.allInts.items
  have hn : numsOf (intItems xs).toList = ns := by rw [← e]; exact rv.ints.numsOf
  rw [nums_intItems] at hn
  rw [e] at ht
  refine PySem.W.ktm_sumG (I.ok.hd hc) ht fun h' tk t' hk => ?_
  rw [preSum_eq, List.take_of_length_le (by simp), hn]
  exact ⟨.int _, H, I.kept hk, ⟨_, rfl⟩, q⟩
def bSumT : List PV → Option PV
  | [.tup xs] => (intsOf xs).map fun ns => .int ns.sum
  | _ => none
theorem bSumT_ok {K : PySem.W.Frag} : CallOk K bSumT (rSumT K) := by
  intro g S H xs z us Q w hx e q
  unfold bSumT at e
  split at e
  · obtain ⟨u, rfl, hu⟩ := ovs1 hx
    rename_i ys
    cases e3 : intsOf ys with
    | none => rw [e3] at e; cases e
    | some ns =>
      rw [e3] at e
      cases e
      cases hu.fr rfl with
      | tup s fr =>
        have e4 := intsOf_ok fr e3
        subst e4
        exact ⟨_, ns, rfl, w.f.sqT s, q _ g H (.refl w) (.frz (.int _))⟩
  · cases e
def bSumA : List PV → Option PV := bE bSum bSumT
theorem c_sumA (hc : X.calm = true) : BiK X (.builtin "sum") bSumA := BiK.or ⟨_, cr_sum hc, bSum_ok⟩ ⟨_, cr_sumT hc, bSumT_ok⟩
end
end L3

end
section
set_option Elab.async false
set_option linter.all false
set_option maxRecDepth 100000
set_option maxHeartbeats 400000
namespace L3
open PySem PySem.Spec
/-! ### the plain functions, evaluated -/
theorem oAdd_int (i j : Int) : oAdd (.int i) (.int j) = some (.int (i + j)) := rfl
theorem oSub_int (i j : Int) : oSub (.int i) (.int j) = some (.int (i - j)) := rfl
theorem oMul_int (i j : Int) (h : cMul i j = true) : oMul (.int i) (.int j) = some (.int (i * j)) := by
  simp [oMul, oE, oMulI, oI, h]
theorem cMul_r (i j : Int) (h1 : -two64 < j) (h2 : j < two64) : cMul i j = true := by simp [cMul, h1, h2]
theorem cMul_l (i j : Int) (h1 : -two64 < i) (h2 : i < two64) : cMul i j = true := by simp [cMul, h1, h2]
theorem oMod_int (i j : Int) (h : 0 < j) : oMod (.int i) (.int j) = some (.int (i % j)) := by simp [oMod, oI, cPos, h]
theorem oFdiv_int (i j : Int) (h : 0 < j) (h2 : j < 1073741824) : oFdiv (.int i) (.int j) = some (.int (i / j)) := by simp [oFdiv, oI, cDiv, h, h2]
theorem oLt_int (i j : Int) : oLt (.int i) (.int j) = some (.bl (decide (i < j))) := rfl
theorem oLe_int (i j : Int) : oLe (.int i) (.int j) = some (.bl (decide (i ≤ j))) := rfl
theorem oGt_int (i j : Int) : oGt (.int i) (.int j) = some (.bl (decide (j < i))) := rfl
theorem oGe_int (i j : Int) : oGe (.int i) (.int j) = some (.bl (decide (j ≤ i))) := rfl
theorem eqvP_int (i j : Int) : eqvP (.int i) (.int j) = some (decide (i = j)) := by
  simp [eqvP, isD, dep, toD, PyData.eqv]
  by_cases h : i = j <;> simp [h]
theorem oEq_int (i j : Int) : oEq (.int i) (.int j) = some (.bl (decide (i = j))) := by simp [oEq, eqvP_int]
theorem oNe_int (i j : Int) : oNe (.int i) (.int j) = some (.bl (!decide (i = j))) := by simp [oNe, eqvP_int]
theorem bInt_int (i : Int) : bInt [.int i] = some (.int i) := rfl
/-! ints as a list -/
theorem isDs_ints : ∀ ns : List Int, isDs (ns.map .int) = true
  | [] => by simp [isDs]
  | n :: r => by simp [isDs, isD, isDs_ints r]
theorem deps_ints : ∀ ns : List Int, deps (ns.map .int) = 0
  | [] => by simp [deps]
  | n :: r => by simp [deps, dep, deps_ints r]
theorem toDs_ints : ∀ ns : List Int, toDs (ns.map .int) = ns.map PyData.int
  | [] => by simp [toDs]
  | n :: r => by simp [toDs, toD, toDs_ints r]
theorem eqvAll_ints : ∀ ns ms : List Int, PyData.eqvAll (ns.map PyData.int) (ms.map PyData.int) = decide (ns = ms)
  | [], [] => by simp [PyData.eqvAll]
  | [], m :: r => by simp [PyData.eqvAll]
  | n :: r, [] => by simp [PyData.eqvAll]
  | n :: r, m :: s => by simp [PyData.eqvAll, PyData.eqv, eqvAll_ints r s]; by_cases h : n = m <;> simp [h]
end L3

end
section
set_option Elab.async false
set_option linter.all false
set_option maxRecDepth 100000
set_option maxHeartbeats 1000000
namespace L3
open PySem PySem.Spec
theorem cutP_all {α : Type} (l : List α) (n : Nat) (h : l.length ≤ n) : cutP l none (some (n : Int)) = l := by
  unfold cutP
  have h1 : HT.sIx l.length 0 none = 0 := rfl
  have h2 : HT.sIx l.length l.length (some (n : Int)) = l.length := by
    have : ¬ ((n : Int) < 0) := by omega
    simp [HT.sIx, this]
    omega
  rw [h1, h2]
  simp
theorem atI_ints (ns : List Int) (i : Int) (h0 : 0 ≤ i) (h1 : i < ns.length) : L2.atI (ns.map PV.int) i = some (.int (ns[i.toNat]'(by omega))) := by
  simp [L2.atI, L2.ixN, h0, h1]
theorem oIxA_lst (ns : List Int) (i : Int) (h0 : 0 ≤ i) (h1 : i < ns.length) : oIxA (.lst (ns.map .int)) (.int i) = some (.int (ns[i.toNat]'(by omega))) := by
  simp [oIxA, oE, oIx, sqOf, atI_ints ns i h0 h1]
theorem oIxA_ol (ns : List Int) (i : Int) (h0 : 0 ≤ i) (h1 : i < ns.length) : oIxA (.ol (ns.map .int)) (.int i) = some (.int (ns[i.toNat]'(by omega))) := by
  simp [oIxA, oE, oIx, sqOf, atI_ints ns i h0 h1]
theorem bLenA_lst (xs : List PV) : bLenA [.lst xs] = some (.int xs.length) := by simp [bLenA, bE, bLen, sqOf]
theorem bLenA_ol (xs : List PV) : bLenA [.ol xs] = some (.int xs.length) := by simp [bLenA, bE, bLen, sqOf]
/-- == of lists of ints -/
def lsI : PV → Option (List Int)
  | .lst xs => intsOf xs
  | .ol xs => intsOf xs
  | .kl xs => intsOf xs
  | _ => none
theorem intsOf_eq : ∀ {xs : List PV} {ns : List Int}, intsOf xs = some ns → xs = ns.map .int
  | [], ns, h => by cases h; rfl
  | x :: xs, ns, h => by
    cases x with
    | int i =>
      cases e : intsOf xs with
      | none => simp [intsOf, e] at h
      | some ms => simp [intsOf, e] at h; subst h; rw [intsOf_eq e]; rfl
    | _ => simp [intsOf] at h
theorem eqvP_lists {x y : PV} {ns ms : List Int} (h : lsI x = some ns) (k : lsI y = some ms) : eqvP x y = some (decide (ns = ms)) := by
  have key : ∀ {x : PV} {ns : List Int}, lsI x = some ns → isD x = true ∧ dep x = 1 ∧ toD x = .list (ns.map .int) := fun {x ns} h => by
    cases x with
    | lst xs => have := intsOf_eq h; subst this; simp [isD, dep, toD, isDs_ints, deps_ints, toDs_ints]
    | ol xs => have := intsOf_eq h; subst this; simp [isD, dep, toD, isDs_ints, deps_ints, toDs_ints]
    | kl xs => have := intsOf_eq h; subst this; simp [isD, dep, toD, isDs_ints, deps_ints, toDs_ints]
    | _ => cases h
  obtain ⟨a1, a2, a3⟩ := key h
  obtain ⟨b1, b2, b3⟩ := key k
  simp [eqvP, a1, a2, a3, b1, b2, b3, PyData.eqv, eqvAll_ints]
theorem oNe_lists {x y : PV} {ns ms : List Int} (h : lsI x = some ns) (k : lsI y = some ms) : oNe x y = some (.bl (!decide (ns = ms))) := by simp [oNe, eqvP_lists h k]
theorem oEq_lists {x y : PV} {ns ms : List Int} (h : lsI x = some ns) (k : lsI y = some ms) : oEq x y = some (.bl (decide (ns = ms))) := by simp [oEq, eqvP_lists h k]
theorem lsI_lst (ns : List Int) : lsI (.lst (ns.map .int)) = some ns := intsOf_map ns
theorem lsI_ol (ns : List Int) : lsI (.ol (ns.map .int)) = some ns := intsOf_map ns
theorem lsI_kl (ns : List Int) : lsI (.kl (ns.map .int)) = some ns := intsOf_map ns
/-- k in a list of ints -/
theorem inO_ints {k : Int} {y : PV} {ns : List Int} (h : lsI y = some ns) : inO (.int k) y = some (decide (k ∈ ns)) := by
  have key : sqOf y = some (ns.map .int) := by
    cases y with
    | lst xs => have := intsOf_eq h; subst this; rfl
    | ol xs => have := intsOf_eq h; subst this; rfl
    | kl xs => have := intsOf_eq h; subst this; rfl
    | _ => cases h
  have e : inP (.int k) (ns.map PV.int) = decide (k ∈ ns) := by
    unfold inP
    rw [toDs_ints]
    clear key h
    induction ns with
    | nil => simp
    | cons a r ih =>
      rw [List.map_cons, List.any_cons, ih]
      by_cases h : a = k
      · subst h; simp [toD, PyData.eqv]
      · have h' : ¬ k = a := fun z => h z.symm
        simp [toD, PyData.eqv, h, h']
  simp [inO, key, isD, isDs_ints, dep, deps_ints, e]
theorem oInA_ints {k : Int} {y : PV} {ns : List Int} (h : lsI y = some ns) : oInA (.int k) y = some (.bl (decide (k ∈ ns))) := by simp [oInA, oE, oIn, inO_ints h]
theorem oNotInA_ints {k : Int} {y : PV} {ns : List Int} (h : lsI y = some ns) : oNotInA (.int k) y = some (.bl (!decide (k ∈ ns))) := by simp [oNotInA, oE, oNotIn, inO_ints h]
end L3

end
section
set_option Elab.async false
set_option linter.all false
set_option maxRecDepth 100000
set_option maxHeartbeats 1000000
namespace L3
open PySem PySem.Spec
section
variable {ρ ρ' : Env} {S S' S2 : Store} {x y z : PV} {xs ys : List PV} {b : Bool} {c : Str} {fs : List (Str × PV)}
theorem fn_rt {l : Nat} {m : Sm} (h : m (xs.map some ++ List.replicate (l - xs.length) none) S = some (.rt z, S')) : fBody l m xs S = some (.ok z, S') := by unfold fBody; rw [h]
theorem fn_nx {l : Nat} {m : Sm} (h : m (xs.map some ++ List.replicate (l - xs.length) none) S = some (.nx ρ, S')) : fBody l m xs S = some (.ok .non, S') := by unfold fBody; rw [h]
theorem fn_xx {l : Nat} {m : Sm} (h : m (xs.map some ++ List.replicate (l - xs.length) none) S = some (.xx c fs ρ, S')) : fBody l m xs S = some (.ex c fs, S') := by unfold fBody; rw [h]
theorem sRet_ok {m : Xm} (h : m ρ S = some (.ok x, S')) (hx : fz x = true) : sRet m ρ S = some (.rt x, S') := by unfold sRet xThen; rw [h]; simp [hx]
theorem sExpr_ok {m : Xm} (h : m ρ S = some (.ok x, S')) : sExpr m ρ S = some (.nx ρ, S') := by unfold sExpr xThen; rw [h]
theorem sExpr_xx {m : Xm} (h : m ρ S = some (.ex c fs, S')) : sExpr m ρ S = some (.xx c fs ρ, S') := by unfold sExpr xThen; rw [h]
theorem sSeq_rt {m n : Sm} (h : m ρ S = some (.rt x, S')) : sSeq m n ρ S = some (.rt x, S') := by unfold sSeq; rw [h]
theorem sSeq_xx {m n : Sm} (h : m ρ S = some (.xx c fs ρ', S')) : sSeq m n ρ S = some (.xx c fs ρ', S') := by unfold sSeq; rw [h]
theorem sIf_t {t : Tm} {m n : Sm} (h : t ρ S = some (.ok true, S')) : sIf t m n ρ S = m ρ S' := by unfold sIf; rw [h]
theorem sIf_f {t : Tm} {m n : Sm} (h : t ρ S = some (.ok false, S')) : sIf t m n ρ S = n ρ S' := by unfold sIf; rw [h]
theorem tP_ok {m : Te} (h : m ρ S = some (.ok b)) : tP m ρ S = some (.ok b, S) := by unfold tP; rw [h]; rfl
theorem bT_ok {m : Ex} (h : m ρ S = some (.ok (.bl b))) : bT m ρ S = some (.ok b) := by unfold bT; rw [h]; rfl
theorem yNot_ok {m : Te} (h : m ρ S = some (.ok b)) : yNot m ρ S = some (.ok (!b)) := by unfold yNot; rw [h]; rfl
theorem yAnd_t {m n : Te} (h : m ρ S = some (.ok true)) : yAnd m n ρ S = n ρ S := by unfold yAnd; rw [h]; rfl
theorem yAnd_f {m n : Te} (h : m ρ S = some (.ok false)) : yAnd m n ρ S = some (.ok false) := by unfold yAnd; rw [h]; rfl
theorem yOr_t {m n : Te} (h : m ρ S = some (.ok true)) : yOr m n ρ S = some (.ok true) := by unfold yOr; rw [h]; rfl
theorem yOr_f {m n : Te} (h : m ρ S = some (.ok false)) : yOr m n ρ S = n ρ S := by unfold yOr; rw [h]; rfl
theorem xIf_t {t : Te} {m n : Ex} (h : t ρ S = some (.ok true)) : xIf t m n ρ S = m ρ S := by unfold xIf; rw [h]; rfl
theorem xIf_f {t : Te} {m n : Ex} (h : t ρ S = some (.ok false)) : xIf t m n ρ S = n ρ S := by unfold xIf; rw [h]; rfl
theorem xAnd_t {m n : Ex} (h : m ρ S = some (.ok (.bl true))) : xAnd m n ρ S = n ρ S := by unfold xAnd; rw [h]; rfl
theorem xAnd_f {m n : Ex} (h : m ρ S = some (.ok (.bl false))) : xAnd m n ρ S = some (.ok (.bl false)) := by unfold xAnd; rw [h]; rfl
theorem xOr_f {m n : Ex} (h : m ρ S = some (.ok (.bl false))) : xOr m n ρ S = n ρ S := by unfold xOr; rw [h]; rfl
theorem insOf_is {k g : Str} {n : Nat} {gs : List (Str × PV)} (h : S[n]? = some (.ins k gs)) (hg : (gs.lookup g).isNone = true) : insOf k g S (.ref n) = true := by unfold insOf; simp only [h, hg, Bool.and_true, beq_self_eq_true]
theorem xFld_is {cs : List Str} {g : Str} {m : Ex} {n : Nat} {k : Str} {gs : List (Str × PV)} (hm : m ρ S = some (.ok (.ref n))) (h : S[n]? = some (.ins k gs)) (hk : k ∈ cs) (hl : gs.lookup g = some z) : xFld cs g m ρ S = some (.ok z) := by unfold xFld; rw [hm]; simp only [mb, h, hk, decide_true, if_true, hl, mo]
theorem xFn_ok {f : Fm} {n : Nat} {a : Ar} (ha : a ρ S = some (.ok xs)) (hf : (xs.all fz && xs.length == n) = true) (h : f xs S = some (.ok z, S')) : xFn f n a ρ S = some (.ok z) := by unfold xFn; rw [ha]; show (if _ then _ else _) = _; rw [hf, if_pos rfl, h]; rfl
theorem xFn_ex {f : Fm} {n : Nat} {a : Ar} (ha : a ρ S = some (.ok xs)) (hf : (xs.all fz && xs.length == n) = true) (h : f xs S = some (.ex c fs, S')) : xFn f n a ρ S = some (.ex c fs) := by unfold xFn; rw [ha]; show (if _ then _ else _) = _; rw [hf, if_pos rfl, h]; rfl
theorem xP_ex {m : Ex} (h : m ρ S = some (.ex c fs)) : xP m ρ S = some (.ex c fs, S) := by unfold xP; rw [h]; rfl
theorem xFnX_ok {f : Fm} {n : Nat} {a : Xa} (ha : a ρ S = some (.ok xs, S')) (hn : (xs.length == n) = true) : xFnX f n a ρ S = f xs S' := by unfold xFnX; rw [ha]; show (if _ then _ else _) = _; rw [hn, if_pos rfl]
theorem xFnP_ok {f : Fm} {n : Nat} {a : Xa} (ha : a ρ S = some (.ok xs, S')) (hn : (xs.length == n) = true) (h : f xs S' = some (.ok z, S2)) : xFnP f n a ρ S = some (.ok z, S') := by unfold xFnP; rw [ha]; show (if _ then _ else _) = _; rw [hn, if_pos rfl, h]; rfl
theorem xMeth_ok {k g : Str} {f : Fm} {n : Nat} {o : Xm} {a : Xa} (ho : o ρ S = some (.ok x, S')) (hi : insOf k g S' x = true) (ha : a ρ S' = some (.ok xs, S2)) (hn : (xs.length + 1 == n) = true) : xMeth k g f n o a ρ S = f (x :: xs) S2 := by unfold xMeth; rw [ho]; simp only [hi, if_true, ha, hn]
theorem xMethP_ok {k g : Str} {f : Fm} {n : Nat} {o : Ex} {a : Ar} (ho : o ρ S = some (.ok x)) (hi : insOf k g S x = true) (ha : a ρ S = some (.ok xs)) (hn : (xs.all fz && xs.length + 1 == n) = true) (h : f (x :: xs) S = some (.ok z, S')) : xMethP k g f n o a ρ S = some (.ok z) := by
  unfold xMethP; rw [ho]; show (if _ then _ else _) = _; rw [hi, if_pos rfl, ha]; show (if _ then _ else _) = _; rw [hn, if_pos rfl, h]; rfl
theorem aP_ok {a : Ar} (h : a ρ S = some (.ok xs)) (hf : xs.all fz = true) : aP a ρ S = some (.ok xs, S) := by unfold aP; rw [h]; show (if _ then _ else _) = _; rw [hf, if_pos rfl]
theorem xSl_ok {m : Ex} {l h : Oe} {i j : Option Int} (h1 : m ρ S = some (.ok x)) (h2 : l ρ S = some (.ok i)) (h3 : h ρ S = some (.ok j)) (h4 : slP i j x = some z) : xSl m l h ρ S = some (.ok z) := by unfold xSl; rw [h1]; show mb _ _ = _; rw [h2]; show mb _ _ = _; rw [h3]; show mo _ = _; rw [h4]; rfl
theorem xOp_is {op : PV → PV → Option PV} {m n : Ex} (h : m ρ S = some (.ok x)) (k : n ρ S = some (.ok y)) (e : op x y = some z) : xOp op m n ρ S = some (.ok z) := (xOp_ok h k).trans (congrArg mo e)
theorem xCall_is {op : List PV → Option PV} {m : Ar} (h : m ρ S = some (.ok xs)) (e : op xs = some z) : xCall op m ρ S = some (.ok z) := (xCall_ok h).trans (congrArg mo e)
theorem bOp {op : PV → PV → Option PV} {m n : Ex} (h : m ρ S = some (.ok x)) (k : n ρ S = some (.ok y)) (e : op x y = some (.bl b)) : bT (xOp op m n) ρ S = some (.ok b) := bT_ok (xOp_is h k e)
theorem xThen_ok {m : Xm} {k : PV → Env → Store → Option (SR × Store)} (h : m ρ S = some (.ok x, S')) : xThen m k ρ S = k x ρ S' := by unfold xThen; rw [h]
theorem xDr_ok {m : Ex} (h : m ρ S = some (.ok x)) : xDr m ρ S = some (.ok (drP S x)) := by unfold xDr; rw [h]; rfl
theorem xUn_is {op : PV → Option PV} {m : Ex} (h : m ρ S = some (.ok x)) (e : op x = some z) : xUn op m ρ S = some (.ok z) := by unfold xUn; rw [h]; simp only [mb, e, mo]
theorem xDGet2_is {m n k : Ex} {kvs : List (L2.Key × PV)} {key : L2.Key} (h : m ρ S = some (.ok x)) (hd : dcOf x = some kvs) (hn : n ρ S = some (.ok y)) (hk : k ρ S = some (.ok z)) (hy : keyOf y = some key) : xDGet2 m n k ρ S = some (.ok ((getK key kvs).getD z)) := by unfold xDGet2; rw [h]; simp only [mb, hd, hn, hk, hy]
theorem aStar_lst {m : Ex} {n : Ar} (h : m ρ S = some (.ok (.lst ys))) (k : n ρ S = some (.ok xs)) : aStar m n ρ S = some (.ok (ys ++ xs)) := by unfold aStar; rw [h]; simp only [mb, k]
theorem xLst_is {m : Ar} (h : m ρ S = some (.ok xs)) (hf : (xs.all fz && decide (xs.length ≤ most)) = true) : xLst m ρ S = some (.ok (.lst xs)) := by unfold xLst; rw [h]; simp only [mb, hf, if_true]
theorem sFldS_is {cs : List Str} {f k : Str} {m : Ex} {mv : Xm} {n : Nat} {gs : List (Str × PV)} (hv : mv ρ S = some (.ok y, S')) (hy : fz y = true) (hm : m ρ S' = some (.ok (.ref n))) (h : S'[n]? = some (.ins k gs)) (hk : k ∈ cs) (hl : gs.length < 900) : sFldS cs f m mv ρ S = some (.nx ρ, S'.set n (.ins k (putP f y gs))) := by unfold sFldS xThen; rw [hv]; simp only [hy, if_true, hm, h, hk, hl, decide_true, Bool.and_self]
theorem one1 {m : Ex} (h : m ρ S = some (.ok x)) : aCons m aNil ρ S = some (.ok [x]) := aCons_ok h rfl
theorem two2 {m n : Ex} (h : m ρ S = some (.ok x)) (k : n ρ S = some (.ok y)) : aCons m (aCons n aNil) ρ S = some (.ok [x, y]) := aCons_ok h (one1 k)
theorem thr3 {m n o : Ex} (h : m ρ S = some (.ok x)) (k : n ρ S = some (.ok y)) (l : o ρ S = some (.ok z)) : aCons m (aCons n (aCons o aNil)) ρ S = some (.ok [x, y, z]) := aCons_ok h (two2 k l)
end
end L3

end
section
set_option Elab.async false
set_option linter.all false
set_option maxRecDepth 100000
set_option maxHeartbeats 1000000
namespace L3
open PySem PySem.Spec
/-! ### sorted(..) of whole numbers -/
theorem dataLe_int (a b : Int) : PySem.W.dataLe false toD (.int a) (.int b) = decide (a ≤ b) := by
  have e : PySem.W.dataLe false toD (.int a) (.int b) = !((PyProof.Rows.listOrd PyProof.Rows.itemOrd).blt [Sum.inl b] [Sum.inl a]) := by
    simp only [PySem.W.dataLe, PySem.W.sortLe, toD, PySem.W.keyToks, cond_false]
  rw [e]
  by_cases h : a ≤ b
  · have h1 : ¬ b < a := by omega
    simp [PyProof.Rows.listOrd, PyProof.Rows.itemOrd, PyProof.Rows.lexLt, PyProof.Rows.itemLt, h, h1]
  · have h1 : b < a := by omega
    simp [PyProof.Rows.listOrd, PyProof.Rows.itemOrd, PyProof.Rows.lexLt, PyProof.Rows.itemLt, h, h1]
def leI (a b : Int) : Bool := decide (a ≤ b)
theorem insP_ints (a : Int) : ∀ ns : List Int, insP (PySem.W.dataLe false toD) (.int a) (ns.map PV.int) = (insP leI a ns).map PV.int
  | [] => rfl
  | n :: r => by
    simp only [List.map_cons, insP, dataLe_int, leI]
    by_cases h : a ≤ n
    · simp [h]
    · simp [h]; exact insP_ints a r
theorem srtP_ints : ∀ ns : List Int, srtP (ns.map PV.int) = (isrt leI ns).map PV.int
  | [] => rfl
  | n :: r => by
    show insP _ (.int n) (srtP (r.map PV.int)) = _
    rw [srtP_ints r, insP_ints]
    rfl
theorem allAl_ints : ∀ ns : List Int, allAl (ns.map PyData.int) = true
  | [] => rfl
  | n :: r => by
    simp only [List.map_cons, allAl, allAl_ints r, Bool.and_true, Bool.and_eq_true]
    refine ⟨rfl, ?_⟩
    rw [List.all_eq_true]
    intro x hx
    obtain ⟨y, _, rfl⟩ := List.mem_map.mp hx
    rfl
theorem srtOk_ints (ns : List Int) : srtOk (ns.map PyData.int) = true := by
  unfold srtOk
  rw [Bool.or_eq_true]
  right
  rw [List.all_eq_true]
  intro x hx
  obtain ⟨y, _, rfl⟩ := List.mem_map.mp hx
  rfl
theorem bSorted_ol (ns : List Int) : bSorted [.ol (ns.map .int)] = some (.lst ((isrt leI ns).map .int)) := by
  show (if isDs (ns.map PV.int) && allAl (toDs (ns.map PV.int)) && srtOk (toDs (ns.map PV.int)) && decide (deps (ns.map PV.int) ≤ 60) then some (PV.lst (srtP (ns.map PV.int))) else none) = _
  rw [isDs_ints, toDs_ints, allAl_ints, srtOk_ints, deps_ints, srtP_ints]
  rfl
theorem mem_insP (a x : Int) : ∀ ns : List Int, x ∈ insP leI a ns ↔ x = a ∨ x ∈ ns
  | [] => by simp [insP]
  | n :: r => by
    unfold insP
    split
    · simp
    · simp [mem_insP a x r]; constructor <;> (intro h; rcases h with h | h | h <;> simp [h])
theorem mem_isrt (x : Int) : ∀ ns : List Int, x ∈ isrt leI ns ↔ x ∈ ns
  | [] => by simp [isrt]
  | n :: r => by
    show x ∈ insP leI n (isrt leI r) ↔ _
    rw [mem_insP, mem_isrt x r, List.mem_cons]
/-- strictly ascending -/
def Asc (l : List Int) : Prop := l.Pairwise (· < ·)
theorem asc_insP {a : Int} : ∀ {l : List Int}, Asc l → a ∉ l → Asc (insP leI a l)
  | [], _, _ => by simp [insP, Asc]
  | n :: r, h, ha => by
    obtain ⟨h1, h2⟩ := List.pairwise_cons.mp h
    unfold insP
    split
    · rename_i hle
      have hle : a ≤ n := of_decide_eq_true hle
      have ne : a ≠ n := fun e => ha (by rw [e]; exact List.mem_cons_self)
      refine List.pairwise_cons.mpr ⟨fun x hx => ?_, h⟩
      rcases List.mem_cons.mp hx with e | e
      · rw [e]; omega
      · have := h1 x e; omega
    · rename_i hle
      have hle : ¬ a ≤ n := fun e => hle (decide_eq_true e)
      refine List.pairwise_cons.mpr ⟨fun x hx => ?_, asc_insP h2 fun e => ha (List.mem_cons_of_mem _ e)⟩
      rcases (mem_insP a x r).mp hx with e | e
      · rw [e]; omega
      · exact h1 x e
theorem asc_isrt : ∀ {l : List Int}, l.Nodup → Asc (isrt leI l)
  | [], _ => by simp [isrt, Asc]
  | n :: r, h => by
    obtain ⟨h1, h2⟩ := List.nodup_cons.mp h
    exact asc_insP (asc_isrt h2) fun e => h1 ((mem_isrt n r).mp e)
theorem asc_eq : ∀ {a b : List Int}, Asc a → Asc b → (∀ x, x ∈ a ↔ x ∈ b) → a = b
  | [], [], _, _, _ => rfl
  | [], y :: b, _, _, h => by have := (h y).mpr List.mem_cons_self; cases this
  | x :: a, [], _, _, h => by have := (h x).mp List.mem_cons_self; cases this
  | x :: a, y :: b, ha, hb, h => by
    obtain ⟨a1, a2⟩ := List.pairwise_cons.mp ha
    obtain ⟨b1, b2⟩ := List.pairwise_cons.mp hb
    have e : x = y := by
      rcases List.mem_cons.mp ((h x).mp List.mem_cons_self) with e | e
      · exact e
      · rcases List.mem_cons.mp ((h y).mpr List.mem_cons_self) with e2 | e2
        · exact e2.symm
        · have := b1 x e; have := a1 y e2; omega
    subst e
    have : a = b := asc_eq a2 b2 fun z => by
      constructor
      · intro hz
        have lz := a1 z hz
        rcases List.mem_cons.mp ((h z).mp (List.mem_cons_of_mem _ hz)) with e | e
        · omega
        · exact e
      · intro hz
        have lz := b1 z hz
        rcases List.mem_cons.mp ((h z).mpr (List.mem_cons_of_mem _ hz)) with e | e
        · omega
        · exact e
    rw [this]
end L3

end
section
set_option Elab.async false
set_option linter.all false
set_option maxRecDepth 100000
set_option maxHeartbeats 1000000
namespace L3
section
variable {ρ ρ' : L3.Env} {S S' S2 : Store} {y : PV} {xs : List PV}
theorem sWhile_t {c : Tm} {m : Sm} {n : Nat} (h : c ρ S = some (.ok true, S')) (k : m ρ S' = some (.nx ρ', S2)) : sWhile c m (n + 1) ρ S = sWhile c m n ρ' S2 := by
  show (match c ρ S with | some (.ok true, S') => _ | some (.ok false, S') => _ | some (.ex c fs, S') => _ | none => none) = _
  rw [h]
  show (match m ρ S' with | some (.nx ρ', S2) => _ | some (.ct ρ', S2) => _ | some (.bk ρ', S2) => _ | r => r) = _
  rw [k]
theorem sWhile_f {c : Tm} {m : Sm} {n : Nat} (h : c ρ S = some (.ok false, S')) : sWhile c m (n + 1) ρ S = some (.nx ρ, S') := by
  show (match c ρ S with | some (.ok true, S') => _ | some (.ok false, S') => _ | some (.ex c fs, S') => _ | none => none) = _
  rw [h]
theorem sAppend_is {i : Nat} {m : Ex} (hi : ρ[i]? = some (some (.ol xs))) (h : m ρ S = some (.ok y)) (hy : fz y = true) (hl : xs.length < most) : sAppend i m ρ S = some (.nx (ρ.set i (some (.ol (xs ++ [y])))), S) := by
  unfold sAppend
  simp only [hi, h, hy, hl, decide_true, Bool.and_self, if_true]
theorem sPar2_ok {i j : Nat} {a b : L3.Env → Store → Option (Res PV × Store)} {x : PV} {S1 : Store} (h1 : a ρ S = some (.ok x, S1)) (h2 : b ρ S1 = some (.ok y, S2)) : sPar2 i j a b ρ S = some (.nx ((ρ.set i (some x)).set j (some y)), S2) := by
  unfold sPar2
  rw [h1]
  show (match b ρ S1 with | some (.ok y, S2) => _ | some (.ex c fs, S2) => _ | none => none) = _
  rw [h2]
theorem fX_ok {m : Xm} (h : m ρ S = some (.ok y, S')) (hy : fz y = true) : fX m ρ S = some (.ok y, S') := by
  unfold fX
  rw [h]
  show (if fz y = true then _ else _) = _
  rw [if_pos hy]
end
section
variable {ρ ρ' : L3.Env} {S S' S2 : Store} {x y z : PV} {xs : List PV} {c : PySem.Str} {fs : List (PySem.Str × PV)}
theorem sTryG_xx {m : Sm} {hs : List Hn} (h : m ρ S = some (.xx c fs ρ', S')) : sTryG m hs ρ S = sHandsG hs c fs ρ' S' := by unfold sTryG; rw [h]
theorem rng_ints (lo : Int) (n : Nat) : rngP lo n = ((List.range n).map fun i : Nat => lo + (i : Int)).map PV.int := by unfold rngP; rw [List.map_map]; rfl
theorem asc_rng (lo : Int) (n : Nat) : Asc ((List.range n).map fun i : Nat => lo + (i : Int)) := by
  unfold Asc
  rw [List.pairwise_map]
  exact List.Pairwise.imp (fun {a b} h => by omega) List.pairwise_lt_range
end
section
variable {ρ ρ' ρ1 : L3.Env} {S S' S2 : Store} {x y z : PV} {xs : List PV}
theorem sLoop_nx {tg : Tg} {m : Sm} (h : tg x ρ = some ρ1) (k : m ρ1 S = some (.nx ρ', S2)) : sLoop tg m (x :: xs) ρ S = sLoop tg m xs ρ' S2 := by
  show (match tg x ρ with | none => none | some ρ1 => _) = _
  rw [h]
  show (match m ρ1 S with | some (.nx ρ', S2) => _ | some (.ct ρ', S2) => _ | some (.bk ρ', S2) => _ | r => r) = _
  rw [k]
theorem sWalk_nx {st : Bool} {k : Kw} {it : Ex} {tg : Tg} {m : Sm} (h : it ρ S = some (.ok x)) (w : walkP st k S x = some xs) (l : sLoop tg m xs ρ S = some (.nx ρ', S')) : sWalk st k it tg m ρ S = some (.nx ρ', S') := by
  show (match it ρ S with | some (.ok x) => _ | some (.ex c fs) => _ | none => none) = _
  rw [h]
  show (match walkP st k S x with | some xs => _ | none => none) = _
  rw [w]
  show (match sLoop tg m xs ρ S with | some (.xx _ _ _, _) => none | r => r) = _
  rw [l]
theorem xIfX_t {c : Tm} {m n : Xm} (h : c ρ S = some (.ok true, S')) : xIfX c m n ρ S = m ρ S' := by unfold xIfX; rw [h]
theorem xIfX_f {c : Tm} {m n : Xm} (h : c ρ S = some (.ok false, S')) : xIfX c m n ρ S = n ρ S' := by unfold xIfX; rw [h]
theorem yAndX_t {m n : Tm} (h : m ρ S = some (.ok true, S')) : yAndX m n ρ S = n ρ S' := by unfold yAndX; rw [h]
theorem yAndX_f {m n : Tm} (h : m ρ S = some (.ok false, S')) : yAndX m n ρ S = some (.ok false, S') := by unfold yAndX; rw [h]
theorem bTX_ok {m : Xm} {b : Bool} (h : m ρ S = some (.ok (.bl b), S')) : bTX m ρ S = some (.ok b, S') := by unfold bTX; rw [h]
theorem xOpX_is {op : PV → PV → Option PV} {m n : Xm} (h : m ρ S = some (.ok x, S')) (hx : fz x = true) (k : n ρ S' = some (.ok y, S2)) (e : op x y = some z) : xOpX op m n ρ S = some (.ok z, S2) := by
  unfold xOpX xB
  rw [h]
  show (if fz x = true then _ else _) = _
  rw [if_pos hx, k]
  show (op x y).map _ = _
  rw [e]
  rfl
theorem xOpD_is {op : PV → PV → Option PV} {m n : Xm} (h : m ρ S = some (.ok x, S')) (hx : fz x = true) (k : n ρ S' = some (.ok y, S2)) (e : op (drP S2 x) y = some z) : xOpD op m n ρ S = some (.ok z, S2) := by
  unfold xOpD xB
  rw [h]
  show (if fz x = true then _ else _) = _
  rw [if_pos hx, k]
  show (op (drP S2 x) y).map _ = _
  rw [e]
  rfl
theorem aXCons_ok {m : Xm} {n : Xa} {S1 : Store} (h : m ρ S = some (.ok x, S1)) (hx : fz x = true) (k : n ρ S1 = some (.ok xs, S2)) : aXCons m n ρ S = some (.ok (x :: xs), S2) := by
  unfold aXCons
  rw [h]
  show (if fz x = true then _ else _) = _
  rw [if_pos hx, k]
theorem xMtS_ok {op : SO → List PV → Option (PV × SO)} {o : Ex} {a : Ar} {n : Nat} {ys : List PV} {ob : SO} (ho : o ρ S = some (.ok (.ref n))) (hs : S[n]? = some (.lst ys)) (ha : a ρ S = some (.ok xs)) (e : op (.lst ys) xs = some (z, ob)) : xMtS op o a ρ S = some (.ok z, S.set n ob) := by
  unfold xMtS
  rw [ho]
  show (match S[n]? with | some (.lst ys) => _ | _ => none) = _
  rw [hs]
  show (match a ρ S with | some (.ok xs) => _ | some (.ex c fs) => _ | none => none) = _
  rw [ha]
  show (match op (.lst ys) xs with | some (z, ob') => _ | none => none) = _
  rw [e]
theorem oIxA_at (a b : List Int) (z : Int) : oIxA (.ol ((a ++ z :: b).map .int)) (.int (a.length : Int)) = some (.int z) := by
  rw [oIxA_ol _ _ (by omega) (by simp; omega)]
  simp
theorem oNe_two (a b : Int) : oNe (.tup [.int a, .int b]) (.tup [.int a, .int b]) = some (.bl false) := by
  simp [oNe, eqvP, isD, isDs, dep, deps, toD, toDs, PySem.PyData.eqv, PySem.PyData.eqvAll]
theorem ixI_erase {x : Int} : ∀ {us : List Int}, x ∈ us → ∃ j, ixI x us = some j ∧ us.eraseIdx j = us.erase x
  | [], h => by cases h
  | y :: r, h => by
    unfold ixI
    by_cases e : y = x
    · subst e
      exact ⟨0, by rw [if_pos rfl], by simp⟩
    · obtain ⟨j, hj, he⟩ := ixI_erase (us := r) (by rcases List.mem_cons.mp h with h | h; exact absurd h.symm e; exact h)
      exact ⟨j + 1, by rw [if_neg e, hj]; rfl, by rw [List.eraseIdx_cons_succ, he, List.erase_cons_tail (by simpa using e)]⟩
end
end L3

end
section
set_option Elab.async false
set_option linter.all false
set_option maxRecDepth 100000
set_option maxHeartbeats 0
namespace K01
open PySem PySem.Spec L2 L3
def top (i : Nat) : Stmt := PySem.Challenge.pw_tidebase_k01_whole_rows.main.body.getD i (.Pass ⟨0, 0, 0, 0⟩)
def clsBody : Stmt → List Stmt
  | .ClassDef (body := b) .. => b
  | _ => []
def cls (i j : Nat) : Stmt := (clsBody (top i)).getD j (.Pass ⟨0, 0, 0, 0⟩)
def C_KINDS : PV := .tup [.str ("number" : Str), .str ("text" : Str)]
def N_f_are_kinds : List Str := ["thing", "kind"]
abbrev s_f_are_kinds : Stmt := top 26
theorem sc_f_are_kinds : FnScope N_f_are_kinds ["thing"] (defScope s_f_are_kinds) := ⟨rfl, rfl, rfl, by decide +kernel, rfl, by decide +kernel, by decide +kernel⟩
def d_f_are_kinds : He.DefD := ⟨(("are_kinds" : Str), none), ("are_kinds" : Str), ("are_kinds" : Str), defArgs s_f_are_kinds, defBody s_f_are_kinds, defScope s_f_are_kinds, [], []⟩
def b_f_are_kinds : Sm := (sSeq (sIf (tP (yOr (yNot (bT (xIsi .tuple (xVar 0)))) (bT (xOp oEq (xVar 0) (xTup aNil))))) (sRet (xP (xC (.bl false)))) sNil) (sRet (xP (xCall bAll (aCons (xFz (lLc (iSeq (xVar 0)) (gN 1) yYes (xAnd (xIsi .str (xVar 1)) (xOp oInA (xVar 1) (xC C_KINDS))) [1])) aNil)))))
def f_are_kinds : Fm := fBody 2 b_f_are_kinds
def N_f_check_kinds : List Str := ["kinds"]
abbrev s_f_check_kinds : Stmt := top 27
theorem sc_f_check_kinds : FnScope N_f_check_kinds ["kinds"] (defScope s_f_check_kinds) := ⟨rfl, rfl, rfl, by decide +kernel, rfl, by decide +kernel, by decide +kernel⟩
def d_f_check_kinds : He.DefD := ⟨(("check_kinds" : Str), none), ("check_kinds" : Str), ("check_kinds" : Str), defArgs s_f_check_kinds, defBody s_f_check_kinds, defScope s_f_check_kinds, [], []⟩
def b_f_check_kinds : Sm := (sIf (tP (yNot (bT (xFn f_are_kinds 1 (aCons (xVar 0) aNil))))) (sRaise ("BadBytes" : Str)) sNil)
def f_check_kinds : Fm := fBody 1 b_f_check_kinds
def N_f_is_number : List Str := ["thing", "least", "most"]
abbrev s_f_is_number : Stmt := top 15
theorem sc_f_is_number : FnScope N_f_is_number ["thing", "least", "most"] (defScope s_f_is_number) := ⟨rfl, rfl, rfl, by decide +kernel, rfl, by decide +kernel, by decide +kernel⟩
def d_f_is_number : He.DefD := ⟨(("is_number" : Str), none), ("is_number" : Str), ("is_number" : Str), defArgs s_f_is_number, defBody s_f_is_number, defScope s_f_is_number, [], []⟩
def b_f_is_number : Sm := (sRet (xP (xAnd (xIsi .int (xVar 0)) (xAnd (xNot (xIsi .bool (xVar 0))) (xChain oLe oLe (xVar 1) (xVar 0) (xVar 2))))))
def f_is_number : Fm := fBody 3 b_f_is_number
def N_f_is_text : List Str := ["thing", "letter"]
abbrev s_f_is_text : Stmt := top 24
theorem sc_f_is_text : FnScope N_f_is_text ["thing"] (defScope s_f_is_text) := ⟨rfl, rfl, rfl, by decide +kernel, rfl, by decide +kernel, by decide +kernel⟩
def d_f_is_text : He.DefD := ⟨(("is_text" : Str), none), ("is_text" : Str), ("is_text" : Str), defArgs s_f_is_text, defBody s_f_is_text, defScope s_f_is_text, [], []⟩
def b_f_is_text : Sm := (sRet (xP (xAnd (xIsi .str (xVar 0)) (xAnd (xOp oLe (xCall bLenA (aCons (xVar 0) aNil)) (xC (.int (12)))) (xCall bAll (aCons (xFz (lLc (iSeq (xVar 0)) (gN 1) yYes (xOp oInA (xVar 1) (xC (.str ("abcdefghijklmnopqrstuvwxyz" : Str)))) [1])) aNil))))))
def f_is_text : Fm := fBody 2 b_f_is_text
def N_f_is_value : List Str := ["kind", "thing"]
abbrev s_f_is_value : Stmt := top 25
theorem sc_f_is_value : FnScope N_f_is_value ["kind", "thing"] (defScope s_f_is_value) := ⟨rfl, rfl, rfl, by decide +kernel, rfl, by decide +kernel, by decide +kernel⟩
def d_f_is_value : He.DefD := ⟨(("is_value" : Str), none), ("is_value" : Str), ("is_value" : Str), defArgs s_f_is_value, defBody s_f_is_value, defScope s_f_is_value, [], []⟩
def b_f_is_value : Sm := (sSeq (sIf (tP (bT (xOp oIsN (xVar 1) (xC .non)))) (sRet (xP (xC (.bl true)))) sNil) (sRet (xP (xIf (bT (xOp oEq (xVar 0) (xC (.str ("number" : Str))))) (xFn f_is_number 3 (aCons (xVar 1) (aCons (xC (.int (-32768))) (aCons (xC (.int (32767))) aNil)))) (xFn f_is_text 1 (aCons (xVar 1) aNil))))))
def f_is_value : Fm := fBody 2 b_f_is_value
def N_f_check_row : List Str := ["kinds", "row", "index", "kind"]
abbrev s_f_check_row : Stmt := top 28
theorem sc_f_check_row : FnScope N_f_check_row ["kinds", "row"] (defScope s_f_check_row) := ⟨rfl, rfl, rfl, by decide +kernel, rfl, by decide +kernel, by decide +kernel⟩
def d_f_check_row : He.DefD := ⟨(("check_row" : Str), none), ("check_row" : Str), ("check_row" : Str), defArgs s_f_check_row, defBody s_f_check_row, defScope s_f_check_row, [], []⟩
def b_f_check_row : Sm := (sSeq (sIf (tP (yOr (yNot (bT (xIsi .tuple (xVar 1)))) (bT (xOp oNe (xCall bLenA (aCons (xVar 1) aNil)) (xCall bLenA (aCons (xVar 0) aNil)))))) (sRaiseI ("BadValue" : Str) ("index" : Str) (fun x => some x) (aCons (xC .non) aNil)) sNil) (sFor (iEnumP (aCons (xVar 0) aNil)) (gT 2 (gsCons (gN 2) (gsCons (gN 3) gsNil))) (sIf (tP (yNot (bT (xFn f_is_value 2 (aCons (xVar 3) (aCons (xOp oIxA (xVar 1) (xVar 2)) aNil)))))) (sRaiseI ("BadValue" : Str) ("index" : Str) (fun x => some x) (aCons (xVar 2) aNil)) sNil)))
def f_check_row : Fm := fBody 4 b_f_check_row
def N_f_bytes_of : List Str := ["number", "width", "found", "turn"]
abbrev s_f_bytes_of : Stmt := top 20
theorem sc_f_bytes_of : FnScope N_f_bytes_of ["number", "width"] (defScope s_f_bytes_of) := ⟨rfl, rfl, rfl, by decide +kernel, rfl, by decide +kernel, by decide +kernel⟩
def d_f_bytes_of : He.DefD := ⟨(("bytes_of" : Str), none), ("bytes_of" : Str), ("bytes_of" : Str), defArgs s_f_bytes_of, defBody s_f_bytes_of, defScope s_f_bytes_of, [], []⟩
def b_f_bytes_of : Sm := (sSeq (sSetF 2 (fL (iP (lLst aNil)))) (sSeq (sFor (iRange1 (aCons (xVar 1) aNil)) (gN 3) (sSeq (sAppend 2 (xOp oMod (xVar 0) (xC (.int 256)))) (sAug oFdiv 0 (xC (.int 256))))) (sFrz 2 (sRet (xP (xCall bTuple (aCons (xUn oRevL (xVar 2)) aNil)))))))
def f_bytes_of : Fm := fBody 4 b_f_bytes_of
def N_f_value_bytes : List Str := ["value", "letter"]
abbrev s_f_value_bytes : Stmt := top 29
theorem sc_f_value_bytes : FnScope N_f_value_bytes ["value"] (defScope s_f_value_bytes) := ⟨rfl, rfl, rfl, by decide +kernel, rfl, by decide +kernel, by decide +kernel⟩
def d_f_value_bytes : He.DefD := ⟨(("value_bytes" : Str), none), ("value_bytes" : Str), ("value_bytes" : Str), defArgs s_f_value_bytes, defBody s_f_value_bytes, defScope s_f_value_bytes, [], []⟩
def b_f_value_bytes : Sm := (sSeq (sIf (tP (bT (xOp oIsN (xVar 0) (xC .non)))) (sRet (xP (xTup (aCons (xC (.int (0))) aNil)))) sNil) (sSeq (sIf (tP (bT (xIsi .int (xVar 0)))) (sRet (xP (xTup (aCons (xC (.int (1))) (aStar (xFn f_bytes_of 2 (aCons (xOp oSub (xVar 0) (xC (.int (-32768)))) (aCons (xC (.int 2)) aNil))) aNil))))) sNil) (sRet (xP (xTup (aCons (xC (.int (2))) (aCons (xCall bLenA (aCons (xVar 0) aNil)) (aStar (xFz (lLc (iSeq (xVar 0)) (gN 1) yYes (xOp oAdd (eEl (xMt isLs mIdxL (xC (.str ("abcdefghijklmnopqrstuvwxyz" : Str))) (aCons (xVar 1) aNil)) (xMt isSt mIdxS (xC (.str ("abcdefghijklmnopqrstuvwxyz" : Str))) (aCons (xVar 1) aNil))) (xC (.int 1))) [1])) aNil))))))))
def f_value_bytes : Fm := fBody 2 b_f_value_bytes
def N_f_encode_row : List Str := ["kinds", "row", "found", "value"]
abbrev s_f_encode_row : Stmt := top 30
theorem sc_f_encode_row : FnScope N_f_encode_row ["kinds", "row"] (defScope s_f_encode_row) := ⟨rfl, rfl, rfl, by decide +kernel, rfl, by decide +kernel, by decide +kernel⟩
def d_f_encode_row : He.DefD := ⟨(("encode_row" : Str), none), ("encode_row" : Str), ("encode_row" : Str), defArgs s_f_encode_row, defBody s_f_encode_row, defScope s_f_encode_row, [], []⟩
def b_f_encode_row : Sm := (sSeq (sExpr (xP (xFn f_check_kinds 1 (aCons (xVar 0) aNil)))) (sSeq (sExpr (xP (xFn f_check_row 2 (aCons (xVar 0) (aCons (xVar 1) aNil))))) (sSeq (sSetF 2 (fL (iP (lLst aNil)))) (sSeq (sFor (iSeq (xVar 1)) (gN 3) (sExtend 2 (xFn f_value_bytes 1 (aCons (xVar 3) aNil)))) (sFrz 2 (sRet (xP (xCall bTuple (aCons (xVar 2) aNil)))))))))
def f_encode_row : Fm := fBody 4 b_f_encode_row
def N_f__law_number : List Str := ["_law_script", "_law_index", "_law_cells", "_law_cell", "_law_low", "_law_high", "_law_total", "_law_blend"]
abbrev s_f__law_number : Stmt := top 37
theorem sc_f__law_number : FnScope N_f__law_number ["_law_script", "_law_index"] (defScope s_f__law_number) := ⟨rfl, rfl, rfl, by decide +kernel, rfl, by decide +kernel, by decide +kernel⟩
def d_f__law_number : He.DefD := ⟨(("_law_number" : Str), none), ("_law_number" : Str), ("_law_number" : Str), defArgs s_f__law_number, defBody s_f__law_number, defScope s_f__law_number, [], []⟩
def b_f__law_number : Sm := (sSeq (sAsg (gN 2) (xP (xIf (bT (xOp oNe (xVar 0) (xLst aNil))) (xSl (xVar 0) oNone (oSome (xC (.int 63)))) (xLst (aCons (xC (.int 5)) aNil))))) (sSeq (sAsg (gN 3) (xP (xOp oAdd (xOp oIxA (xVar 2) (xOp oMod (xCall bInt (aCons (xVar 1) aNil)) (xCall bLenA (aCons (xVar 2) aNil)))) (xOp oMul (xC (.int 13)) (xOp oFdiv (xVar 1) (xCall bLenA (aCons (xVar 2) aNil))))))) (sSeq (sPar2 4 5 (fX (xP (xOp oMod (xCall bInt (aCons (xVar 3) aNil)) (xC (.int 1000003))))) (fX (xP (xOp oMod (xCall bInt (aCons (xOp oFdiv (xVar 3) (xC (.int 1000003))) aNil)) (xC (.int 999983)))))) (sSeq (sAsg (gN 6) (xP (xOp oMod (xCall bInt (aCons (xCall bSum (aCons (xVar 2) aNil)) aNil)) (xC (.int 65521))))) (sSeq (sAsg (gN 7) (xP (xOp oMod (xCall bInt (aCons (xOp oAdd (xOp oAdd (xOp oMul (xOp oAdd (xVar 4) (xOp oMul (xC (.int 977)) (xVar 1))) (xC (.int 48271))) (xOp oMul (xC (.int 31)) (xVar 5))) (xVar 6)) aNil)) (xC (.int 2147483647))))) (sRet (xP (xOp oAdd (xOp oMul (xOp oMod (xCall bInt (aCons (xOp oMul (xVar 7) (xOp oAdd (xOp oAdd (xVar 7) (xOp oMul (xC (.int 31)) (xVar 1))) (xC (.int 7)))) aNil)) (xC (.int 2147483629))) (xC (.int 65537))) (xVar 5)))))))))
def f__law_number : Fm := fBody 8 b_f__law_number
def N_f__law_take : List Str := ["_law_draw", "_law_many"]
abbrev s_f__law_take : Stmt := top 38
theorem sc_f__law_take : FnScope N_f__law_take ["_law_draw", "_law_many"] (defScope s_f__law_take) := ⟨rfl, rfl, rfl, by decide +kernel, rfl, by decide +kernel, by decide +kernel⟩
def d_f__law_take : He.DefD := ⟨(("_law_take" : Str), none), ("_law_take" : Str), ("_law_take" : Str), defArgs s_f__law_take, defBody s_f__law_take, defScope s_f__law_take, [], []⟩
def b_f__law_take : Sm := (sSeq (sSetI (xVar 0) (xC (.int 1)) (xP (xOp oAdd (xOp oIxA (xDr (xVar 0)) (xC (.int 1))) (xC (.int 1))))) (sRet (xP (xOp oMod (xCall bInt (aCons (xFn f__law_number 2 (aCons (xOp oIxA (xDr (xVar 0)) (xC (.int 0))) (aCons (xCall bInt (aCons (xOp oIxA (xDr (xVar 0)) (xC (.int 1))) aNil)) aNil))) aNil)) (xVar 1)))))
def f__law_take : Fm := fBody 2 b_f__law_take
def N_f__law_text : List Str := ["_law_draw", "_law_most", "_law_found_now", "_law_letter"]
abbrev s_f__law_text : Stmt := top 40
theorem sc_f__law_text : FnScope N_f__law_text ["_law_draw", "_law_most"] (defScope s_f__law_text) := ⟨rfl, rfl, rfl, by decide +kernel, rfl, by decide +kernel, by decide +kernel⟩
def d_f__law_text : He.DefD := ⟨(("_law_text" : Str), none), ("_law_text" : Str), ("_law_text" : Str), defArgs s_f__law_text, defBody s_f__law_text, defScope s_f__law_text, [], []⟩
def b_f__law_text : Sm := (sSeq (sAsg (gN 2) (xP (xC (.str ("" : Str))))) (sSeq (sForX (iRange1X (aXCons (xFnX f__law_take 2 (aP (aCons (xVar 0) (aCons (xOp oAdd (xVar 1) (xC (.int 1))) aNil)))) aXNil)) (gN 3) (sAsg (gN 2) (xOpX oAdd (xP (xVar 2)) (xOpX oIxA (xP (xC (.str ("abcdefghijklmnopqrstuvwxyz" : Str)))) (xFnX f__law_take 2 (aP (aCons (xVar 0) (aCons (xC (.int 26)) aNil)))))))) (sRet (xP (xVar 2)))))
def f__law_text : Fm := fBody 4 b_f__law_text
def N_f__law_pick : List Str := ["_law_draw", "_law_things"]
abbrev s_f__law_pick : Stmt := top 39
theorem sc_f__law_pick : FnScope N_f__law_pick ["_law_draw", "_law_things"] (defScope s_f__law_pick) := ⟨rfl, rfl, rfl, by decide +kernel, rfl, by decide +kernel, by decide +kernel⟩
def d_f__law_pick : He.DefD := ⟨(("_law_pick" : Str), none), ("_law_pick" : Str), ("_law_pick" : Str), defArgs s_f__law_pick, defBody s_f__law_pick, defScope s_f__law_pick, [], []⟩
def b_f__law_pick : Sm := (sRet (xOpX oIxA (xP (xVar 1)) (xFnX f__law_take 2 (aP (aCons (xVar 0) (aCons (xCall bLenA (aCons (xVar 1) aNil)) aNil))))))
def f__law_pick : Fm := fBody 2 b_f__law_pick
def N_f__law_two : List Str := ["_law_number_here"]
abbrev s_f__law_two : Stmt := top 42
theorem sc_f__law_two : FnScope N_f__law_two ["_law_number_here"] (defScope s_f__law_two) := ⟨rfl, rfl, rfl, by decide +kernel, rfl, by decide +kernel, by decide +kernel⟩
def d_f__law_two : He.DefD := ⟨(("_law_two" : Str), none), ("_law_two" : Str), ("_law_two" : Str), defArgs s_f__law_two, defBody s_f__law_two, defScope s_f__law_two, [], []⟩
def b_f__law_two : Sm := (sRet (xP (xTup (aCons (xCall bInt (aCons (xOp oFdiv (xVar 0) (xC (.int 256))) aNil)) (aCons (xOp oMod (xCall bInt (aCons (xVar 0) aNil)) (xC (.int 256))) aNil)))))
def f__law_two : Fm := fBody 1 b_f__law_two
def N_f__law_value_bytes : List Str := ["_law_value_here", "_law_letter"]
abbrev s_f__law_value_bytes : Stmt := top 43
theorem sc_f__law_value_bytes : FnScope N_f__law_value_bytes ["_law_value_here"] (defScope s_f__law_value_bytes) := ⟨rfl, rfl, rfl, by decide +kernel, rfl, by decide +kernel, by decide +kernel⟩
def d_f__law_value_bytes : He.DefD := ⟨(("_law_value_bytes" : Str), none), ("_law_value_bytes" : Str), ("_law_value_bytes" : Str), defArgs s_f__law_value_bytes, defBody s_f__law_value_bytes, defScope s_f__law_value_bytes, [], []⟩
def b_f__law_value_bytes : Sm := (sSeq (sIf (tP (bT (xOp oIsN (xVar 0) (xC .non)))) (sRet (xP (xTup (aCons (xC (.int 0)) aNil)))) sNil) (sSeq (sIf (tP (bT (xIsi .int (xVar 0)))) (sRet (xP (xOp oAdd (xTup (aCons (xC (.int 1)) aNil)) (xFn f__law_two 1 (aCons (xOp oAdd (xVar 0) (xC (.int 32768))) aNil))))) sNil) (sRet (xP (xOp oAdd (xTup (aCons (xC (.int 2)) (aCons (xCall bLenA (aCons (xVar 0) aNil)) aNil))) (xCall bTuple (aCons (xFz (lLc (iSeq (xVar 0)) (gN 1) yYes (xOp oAdd (eEl (xMt isLs mIdxL (xC (.str ("abcdefghijklmnopqrstuvwxyz" : Str))) (aCons (xVar 1) aNil)) (xMt isSt mIdxS (xC (.str ("abcdefghijklmnopqrstuvwxyz" : Str))) (aCons (xVar 1) aNil))) (xC (.int 1))) [1])) aNil)))))))
def f__law_value_bytes : Fm := fBody 2 b_f__law_value_bytes
def N_f__law_row_bytes : List Str := ["_law_row", "_law_found_now", "_law_value_here"]
abbrev s_f__law_row_bytes : Stmt := top 45
theorem sc_f__law_row_bytes : FnScope N_f__law_row_bytes ["_law_row"] (defScope s_f__law_row_bytes) := ⟨rfl, rfl, rfl, by decide +kernel, rfl, by decide +kernel, by decide +kernel⟩
def d_f__law_row_bytes : He.DefD := ⟨(("_law_row_bytes" : Str), none), ("_law_row_bytes" : Str), ("_law_row_bytes" : Str), defArgs s_f__law_row_bytes, defBody s_f__law_row_bytes, defScope s_f__law_row_bytes, [], []⟩
def b_f__law_row_bytes : Sm := (sSeq (sAsg (gN 1) (xP (xTup aNil))) (sSeq (sFor (iSeq (xVar 0)) (gN 2) (sAsg (gN 1) (xP (xOp oAdd (xVar 1) (xFn f__law_value_bytes 1 (aCons (xVar 2) aNil)))))) (sRet (xP (xVar 1)))))
def f__law_row_bytes : Fm := fBody 3 b_f__law_row_bytes
def N_f_are_bytes : List Str := ["thing", "one"]
abbrev s_f_are_bytes : Stmt := top 17
theorem sc_f_are_bytes : FnScope N_f_are_bytes ["thing"] (defScope s_f_are_bytes) := ⟨rfl, rfl, rfl, by decide +kernel, rfl, by decide +kernel, by decide +kernel⟩
def d_f_are_bytes : He.DefD := ⟨(("are_bytes" : Str), none), ("are_bytes" : Str), ("are_bytes" : Str), defArgs s_f_are_bytes, defBody s_f_are_bytes, defScope s_f_are_bytes, [], []⟩
def b_f_are_bytes : Sm := (sRet (xP (xAnd (xIsi .tuple (xVar 0)) (xCall bAll (aCons (xFz (lLc (iSeq (xVar 0)) (gN 1) yYes (xFn f_is_number 3 (aCons (xVar 1) (aCons (xC (.int 0)) (aCons (xC (.int 255)) aNil)))) [1])) aNil)))))
def f_are_bytes : Fm := fBody 2 b_f_are_bytes
def N_f_check_bytes : List Str := ["thing"]
abbrev s_f_check_bytes : Stmt := top 18
theorem sc_f_check_bytes : FnScope N_f_check_bytes ["thing"] (defScope s_f_check_bytes) := ⟨rfl, rfl, rfl, by decide +kernel, rfl, by decide +kernel, by decide +kernel⟩
def d_f_check_bytes : He.DefD := ⟨(("check_bytes" : Str), none), ("check_bytes" : Str), ("check_bytes" : Str), defArgs s_f_check_bytes, defBody s_f_check_bytes, defScope s_f_check_bytes, [], []⟩
def b_f_check_bytes : Sm := (sIf (tP (yNot (bT (xFn f_are_bytes 1 (aCons (xVar 0) aNil))))) (sRaise ("BadBytes" : Str)) sNil)
def f_check_bytes : Fm := fBody 1 b_f_check_bytes
def N_f_number_of : List Str := ["data", "found", "one"]
abbrev s_f_number_of : Stmt := top 22
theorem sc_f_number_of : FnScope N_f_number_of ["data"] (defScope s_f_number_of) := ⟨rfl, rfl, rfl, by decide +kernel, rfl, by decide +kernel, by decide +kernel⟩
def d_f_number_of : He.DefD := ⟨(("number_of" : Str), none), ("number_of" : Str), ("number_of" : Str), defArgs s_f_number_of, defBody s_f_number_of, defScope s_f_number_of, [], []⟩
def b_f_number_of : Sm := (sSeq (sAsg (gN 1) (xP (xC (.int 0)))) (sSeq (sFor (iSeq (xVar 0)) (gN 2) (sAsg (gN 1) (xP (xOp oAdd (xOp oMul (xVar 1) (xC (.int 256))) (xVar 2))))) (sRet (xP (xVar 1)))))
def f_number_of : Fm := fBody 3 b_f_number_of
def N_f_letters_in : List Str := ["data", "one"]
abbrev s_f_letters_in : Stmt := top 31
theorem sc_f_letters_in : FnScope N_f_letters_in ["data"] (defScope s_f_letters_in) := ⟨rfl, rfl, rfl, by decide +kernel, rfl, by decide +kernel, by decide +kernel⟩
def d_f_letters_in : He.DefD := ⟨(("letters_in" : Str), none), ("letters_in" : Str), ("letters_in" : Str), defArgs s_f_letters_in, defBody s_f_letters_in, defScope s_f_letters_in, [], []⟩
def b_f_letters_in : Sm := (sSeq (sIf (tP (yNot (bT (xCall bAll (aCons (xFz (lLc (iSeq (xVar 0)) (gN 1) yYes (xChain oLe oLe (xC (.int 1)) (xVar 1) (xCall bLenA (aCons (xC (.str ("abcdefghijklmnopqrstuvwxyz" : Str))) aNil))) [1])) aNil))))) (sRaise ("BadBytes" : Str)) sNil) (sRet (xP (xMt isSt mJoin (xC (.str ("" : Str))) (aCons (xFz (lLc (iSeq (xVar 0)) (gN 1) yYes (xOp oIxA (xC (.str ("abcdefghijklmnopqrstuvwxyz" : Str))) (xOp oSub (xVar 1) (xC (.int 1)))) [1])) aNil)))))
def f_letters_in : Fm := fBody 2 b_f_letters_in
def N_f_read_value : List Str := ["kind", "data", "at", "tag", "past"]
abbrev s_f_read_value : Stmt := top 32
theorem sc_f_read_value : FnScope N_f_read_value ["kind", "data", "at"] (defScope s_f_read_value) := ⟨rfl, rfl, rfl, by decide +kernel, rfl, by decide +kernel, by decide +kernel⟩
def d_f_read_value : He.DefD := ⟨(("read_value" : Str), none), ("read_value" : Str), ("read_value" : Str), defArgs s_f_read_value, defBody s_f_read_value, defScope s_f_read_value, [], []⟩
def b_f_read_value : Sm := (sSeq (sAsg (gN 3) (xP (xIf (bT (xOp oLt (xVar 2) (xCall bLenA (aCons (xVar 1) aNil)))) (xOp oIxA (xVar 1) (xVar 2)) (xC (.int 9))))) (sSeq (sIf (tP (bT (xOp oEq (xVar 3) (xC (.int (0)))))) (sRet (xP (xTup (aCons (xC .non) (aCons (xOp oAdd (xVar 2) (xC (.int 1))) aNil))))) sNil) (sSeq (sIf (tP (yAnd (bT (xOp oEq (xVar 3) (xC (.int (1))))) (yAnd (bT (xOp oEq (xVar 0) (xC (.str ("number" : Str))))) (bT (xOp oLe (xOp oAdd (xVar 2) (xC (.int 3))) (xCall bLenA (aCons (xVar 1) aNil))))))) (sRet (xP (xTup (aCons (xOp oAdd (xFn f_number_of 1 (aCons (xSl (xVar 1) (oSome (xOp oAdd (xVar 2) (xC (.int 1)))) (oSome (xOp oAdd (xVar 2) (xC (.int 3))))) aNil)) (xC (.int (-32768)))) (aCons (xOp oAdd (xVar 2) (xC (.int 3))) aNil))))) sNil) (sSeq (sIf (tP (yAnd (bT (xOp oEq (xVar 3) (xC (.int (2))))) (yAnd (bT (xOp oEq (xVar 0) (xC (.str ("text" : Str))))) (bT (xOp oLe (xOp oAdd (xVar 2) (xC (.int 2))) (xCall bLenA (aCons (xVar 1) aNil))))))) (sSeq (sAsg (gN 4) (xP (xOp oAdd (xOp oAdd (xVar 2) (xC (.int 2))) (xOp oIxA (xVar 1) (xOp oAdd (xVar 2) (xC (.int 1))))))) (sIf (tP (yAnd (bT (xOp oLe (xOp oIxA (xVar 1) (xOp oAdd (xVar 2) (xC (.int 1)))) (xC (.int (12))))) (bT (xOp oLe (xVar 4) (xCall bLenA (aCons (xVar 1) aNil)))))) (sRet (xP (xTup (aCons (xFn f_letters_in 1 (aCons (xSl (xVar 1) (oSome (xOp oAdd (xVar 2) (xC (.int 2)))) (oSome (xVar 4))) aNil)) (aCons (xVar 4) aNil))))) sNil)) sNil) (sRaise ("BadBytes" : Str))))))
def f_read_value : Fm := fBody 5 b_f_read_value
def N_f_decode_row : List Str := ["kinds", "data", "found", "at", "kind", "value"]
abbrev s_f_decode_row : Stmt := top 33
theorem sc_f_decode_row : FnScope N_f_decode_row ["kinds", "data"] (defScope s_f_decode_row) := ⟨rfl, rfl, rfl, by decide +kernel, rfl, by decide +kernel, by decide +kernel⟩
def d_f_decode_row : He.DefD := ⟨(("decode_row" : Str), none), ("decode_row" : Str), ("decode_row" : Str), defArgs s_f_decode_row, defBody s_f_decode_row, defScope s_f_decode_row, [], []⟩
def b_f_decode_row : Sm := (sSeq (sExpr (xP (xFn f_check_kinds 1 (aCons (xVar 0) aNil)))) (sSeq (sExpr (xP (xFn f_check_bytes 1 (aCons (xVar 1) aNil)))) (sSeq (sPar2 2 3 (fL (iP (lLst aNil))) (fX (xP (xC (.int 0))))) (sSeq (sFor (iSeq (xVar 0)) (gN 4) (sSeq (sAsg (gT 2 (gsCons (gN 5) (gsCons (gN 3) gsNil))) (xP (xFn f_read_value 3 (aCons (xVar 4) (aCons (xVar 1) (aCons (xVar 3) aNil)))))) (sAppend 2 (xVar 5)))) (sSeq (sIf (tP (bT (xOp oNe (xVar 3) (xCall bLenA (aCons (xVar 1) aNil))))) (sRaise ("BadBytes" : Str)) sNil) (sFrz 2 (sRet (xP (xCall bTuple (aCons (xVar 2) aNil))))))))))
def f_decode_row : Fm := fBody 6 b_f_decode_row
def N_f_check_number : List Str := ["thing", "least", "most"]
abbrev s_f_check_number : Stmt := top 16
theorem sc_f_check_number : FnScope N_f_check_number ["thing", "least", "most"] (defScope s_f_check_number) := ⟨rfl, rfl, rfl, by decide +kernel, rfl, by decide +kernel, by decide +kernel⟩
def d_f_check_number : He.DefD := ⟨(("check_number" : Str), none), ("check_number" : Str), ("check_number" : Str), defArgs s_f_check_number, defBody s_f_check_number, defScope s_f_check_number, [], []⟩
def b_f_check_number : Sm := (sIf (tP (yNot (bT (xFn f_is_number 3 (aCons (xVar 0) (aCons (xVar 1) (aCons (xVar 2) aNil))))))) (sRaise ("BadNumber" : Str)) sNil)
def f_check_number : Fm := fBody 3 b_f_check_number
def N_f_from_number : List Str := ["number", "width", "most", "turn"]
abbrev s_f_from_number : Stmt := top 19
theorem sc_f_from_number : FnScope N_f_from_number ["number", "width"] (defScope s_f_from_number) := ⟨rfl, rfl, rfl, by decide +kernel, rfl, by decide +kernel, by decide +kernel⟩
def d_f_from_number : He.DefD := ⟨(("from_number" : Str), none), ("from_number" : Str), ("from_number" : Str), defArgs s_f_from_number, defBody s_f_from_number, defScope s_f_from_number, [], []⟩
def b_f_from_number : Sm := (sSeq (sExpr (xP (xFn f_check_number 3 (aCons (xVar 1) (aCons (xC (.int 1)) (aCons (xC (.int 8)) aNil)))))) (sSeq (sAsg (gN 2) (xP (xC (.int 1)))) (sSeq (sFor (iRange1 (aCons (xVar 1) aNil)) (gN 3) (sAug oMulI 2 (xC (.int 256)))) (sSeq (sExpr (xP (xFn f_check_number 3 (aCons (xVar 0) (aCons (xC (.int 0)) (aCons (xOp oSub (xVar 2) (xC (.int 1))) aNil)))))) (sRet (xP (xFn f_bytes_of 2 (aCons (xVar 0) (aCons (xVar 1) aNil)))))))))
def f_from_number : Fm := fBody 4 b_f_from_number
def N_f_to_number : List Str := ["data"]
abbrev s_f_to_number : Stmt := top 21
theorem sc_f_to_number : FnScope N_f_to_number ["data"] (defScope s_f_to_number) := ⟨rfl, rfl, rfl, by decide +kernel, rfl, by decide +kernel, by decide +kernel⟩
def d_f_to_number : He.DefD := ⟨(("to_number" : Str), none), ("to_number" : Str), ("to_number" : Str), defArgs s_f_to_number, defBody s_f_to_number, defScope s_f_to_number, [], []⟩
def b_f_to_number : Sm := (sSeq (sExpr (xP (xFn f_check_bytes 1 (aCons (xVar 0) aNil)))) (sRet (xP (xFn f_number_of 1 (aCons (xVar 0) aNil)))))
def f_to_number : Fm := fBody 1 b_f_to_number
def N_f_sum_of : List Str := ["data", "one", "other", "late"]
abbrev s_f_sum_of : Stmt := top 23
theorem sc_f_sum_of : FnScope N_f_sum_of ["data"] (defScope s_f_sum_of) := ⟨rfl, rfl, rfl, by decide +kernel, rfl, by decide +kernel, by decide +kernel⟩
def d_f_sum_of : He.DefD := ⟨(("sum_of" : Str), none), ("sum_of" : Str), ("sum_of" : Str), defArgs s_f_sum_of, defBody s_f_sum_of, defScope s_f_sum_of, [], []⟩
def b_f_sum_of : Sm := (sSeq (sExpr (xP (xFn f_check_bytes 1 (aCons (xVar 0) aNil)))) (sSeq (sAsg (gT 2 (gsCons (gN 1) (gsCons (gN 2) gsNil))) (xP (xTup (aCons (xC (.int 1)) (aCons (xC (.int 0)) aNil))))) (sSeq (sFor (iSeq (xVar 0)) (gN 3) (sSeq (sAsg (gN 1) (xP (xOp oMod (xOp oAdd (xVar 1) (xVar 3)) (xC (.int 251))))) (sAsg (gN 2) (xP (xOp oMod (xOp oAdd (xVar 2) (xVar 1)) (xC (.int 251))))))) (sRet (xP (xTup (aCons (xVar 1) (aCons (xVar 2) aNil))))))))
def f_sum_of : Fm := fBody 4 b_f_sum_of
def N_f__law_sum : List Str := ["_law_data", "_law_one", "_law_other", "_law_many"]
abbrev s_f__law_sum : Stmt := top 47
theorem sc_f__law_sum : FnScope N_f__law_sum ["_law_data"] (defScope s_f__law_sum) := ⟨rfl, rfl, rfl, by decide +kernel, rfl, by decide +kernel, by decide +kernel⟩
def d_f__law_sum : He.DefD := ⟨(("_law_sum" : Str), none), ("_law_sum" : Str), ("_law_sum" : Str), defArgs s_f__law_sum, defBody s_f__law_sum, defScope s_f__law_sum, [], []⟩
def b_f__law_sum : Sm := (sSeq (sAsg (gN 1) (xP (xOp oAdd (xC (.int 1)) (xCall bSumA (aCons (xVar 0) aNil))))) (sSeq (sAsg (gN 2) (xP (xCall bSumA (aCons (xFz (lLc (iRange2 (aCons (xC (.int 1)) (aCons (xOp oAdd (xCall bLenA (aCons (xVar 0) aNil)) (xC (.int 1))) aNil))) (gN 3) yYes (xOp oAdd (xC (.int 1)) (xCall bSumA (aCons (xSl (xVar 0) oNone (oSome (xVar 3))) aNil))) [3])) aNil)))) (sRet (xP (xTup (aCons (xOp oMod (xVar 1) (xC (.int 251))) (aCons (xOp oMod (xVar 2) (xC (.int 251))) aNil)))))))
def f__law_sum : Fm := fBody 4 b_f__law_sum
def N_f__law_numbers_right : List Str := ["_law_draw", "_law_width", "_law_data", "_law_whole", "_law_one", "_law_late", "_law_at"]
abbrev s_f__law_numbers_right : Stmt := top 48
theorem sc_f__law_numbers_right : FnScope N_f__law_numbers_right ["_law_draw"] (defScope s_f__law_numbers_right) := ⟨rfl, rfl, rfl, by decide +kernel, rfl, by decide +kernel, by decide +kernel⟩
def d_f__law_numbers_right : He.DefD := ⟨(("_law_numbers_right" : Str), none), ("_law_numbers_right" : Str), ("_law_numbers_right" : Str), defArgs s_f__law_numbers_right, defBody s_f__law_numbers_right, defScope s_f__law_numbers_right, [], []⟩
def b_f__law_numbers_right : Sm := (sSeq (sAsg (gN 1) (xOpX oAdd (xP (xC (.int 1))) (xFnX f__law_take 2 (aP (aCons (xVar 0) (aCons (xC (.int 8)) aNil)))))) (sSeq (sAsg (gN 2) (xCallX bTuple (aXCons (xFzX (lLcX (iP (iRange1 (aCons (xVar 1) aNil))) (gN 6) yYesX (xFnX f__law_take 2 (aP (aCons (xVar 0) (aCons (xC (.int 256)) aNil)))) [6])) aXNil))) (sSeq (sAsg (gN 3) (xP (xC (.int 0)))) (sSeq (sFor (iSeq (xVar 2)) (gN 4) (sAsg (gN 3) (xP (xOp oAdd (xOp oMul (xC (.int 256)) (xVar 3)) (xVar 4))))) (sSeq (sIf (tP (yOr (bT (xOp oNe (xFn f_from_number 2 (aCons (xVar 3) (aCons (xVar 1) aNil))) (xVar 2))) (yOr (bT (xOp oNe (xFn f_to_number 1 (aCons (xVar 2) aNil)) (xVar 3))) (bT (xOp oNe (xFn f_to_number 1 (aCons (xOp oAdd (xTup (aCons (xC (.int 0)) aNil)) (xVar 2)) aNil)) (xVar 3)))))) (sRet (xP (xC (.bl false)))) sNil) (sSeq (sAsg (gN 5) (xP (xOp oAdd (xSl (xVar 2) (oSome (xC (.int 1))) oNone) (xSl (xVar 2) oNone (oSome (xC (.int 1))))))) (sRet (xP (xAnd (xOp oEq (xFn f_sum_of 1 (aCons (xVar 2) aNil)) (xFn f__law_sum 1 (aCons (xVar 2) aNil))) (xAnd (xOp oEq (xFn f_sum_of 1 (aCons (xVar 5) aNil)) (xFn f__law_sum 1 (aCons (xVar 5) aNil))) (xOp oEq (xFn f_sum_of 1 (aCons (xTup aNil) aNil)) (xTup (aCons (xC (.int 1)) (aCons (xC (.int 0)) aNil))))))))))))))
def f__law_numbers_right : Fm := fBody 7 b_f__law_numbers_right
def N_f__law_value : List Str := ["_law_draw", "_law_kind"]
abbrev s_f__law_value : Stmt := top 41
theorem sc_f__law_value : FnScope N_f__law_value ["_law_draw", "_law_kind"] (defScope s_f__law_value) := ⟨rfl, rfl, rfl, by decide +kernel, rfl, by decide +kernel, by decide +kernel⟩
def d_f__law_value : He.DefD := ⟨(("_law_value" : Str), none), ("_law_value" : Str), ("_law_value" : Str), defArgs s_f__law_value, defBody s_f__law_value, defScope s_f__law_value, [], []⟩
def b_f__law_value : Sm := (sSeq (sIf (bTX (xOpX oEq (xFnX f__law_take 2 (aP (aCons (xVar 0) (aCons (xC (.int 6)) aNil)))) (xP (xC (.int 0))))) (sRet (xP (xC .non))) sNil) (sSeq (sIf (tP (bT (xOp oEq (xVar 1) (xC (.str ("text" : Str)))))) (sRet (xFnX f__law_text 2 (aXCons (xP (xVar 0)) (aXCons (xIfX (bTX (xOpX oEq (xFnX f__law_take 2 (aP (aCons (xVar 0) (aCons (xC (.int 4)) aNil)))) (xP (xC (.int 0))))) (xP (xC (.int 12))) (xP (xC (.int 2)))) aXNil)))) sNil) (sRet (xFnX f__law_pick 2 (aXCons (xP (xVar 0)) (aXCons (xLstX (aXCons (xFnX f__law_take 2 (aP (aCons (xVar 0) (aCons (xC (.int 5)) aNil)))) (aXCons (xOpX oSub (xFnX f__law_take 2 (aP (aCons (xVar 0) (aCons (xC (.int 65536)) aNil)))) (xP (xC (.int 32768)))) (aXCons (xP (xUn oNeg (xC (.int 32768)))) (aXCons (xP (xC (.int 32767))) (aXCons (xP (xUn oNeg (xC (.int 1)))) (aXCons (xP (xC (.int 255))) (aXCons (xP (xC (.int 256))) aXNil)))))))) aXNil))))))
def f__law_value : Fm := fBody 2 b_f__law_value
def N_f_encode_key : List Str := ["value", "letter"]
abbrev s_f_encode_key : Stmt := top 34
theorem sc_f_encode_key : FnScope N_f_encode_key ["value"] (defScope s_f_encode_key) := ⟨rfl, rfl, rfl, by decide +kernel, rfl, by decide +kernel, by decide +kernel⟩
def d_f_encode_key : He.DefD := ⟨(("encode_key" : Str), none), ("encode_key" : Str), ("encode_key" : Str), defArgs s_f_encode_key, defBody s_f_encode_key, defScope s_f_encode_key, [], []⟩
def b_f_encode_key : Sm := (sSeq (sIf (tP (bT (xOp oIsN (xVar 0) (xC .non)))) (sRet (xP (xTup (aCons (xC (.int (0))) aNil)))) sNil) (sSeq (sIf (tP (bT (xFn f_is_number 3 (aCons (xVar 0) (aCons (xC (.int (-32768))) (aCons (xC (.int (32767))) aNil)))))) (sRet (xP (xTup (aCons (xC (.int (1))) (aStar (xFn f_bytes_of 2 (aCons (xOp oSub (xVar 0) (xC (.int (-32768)))) (aCons (xC (.int 2)) aNil))) aNil))))) sNil) (sSeq (sIf (tP (bT (xFn f_is_text 1 (aCons (xVar 0) aNil)))) (sRet (xP (xTup (aCons (xC (.int (2))) (aStar (xFz (lLc (iSeq (xVar 0)) (gN 1) yYes (xOp oAdd (eEl (xMt isLs mIdxL (xC (.str ("abcdefghijklmnopqrstuvwxyz" : Str))) (aCons (xVar 1) aNil)) (xMt isSt mIdxS (xC (.str ("abcdefghijklmnopqrstuvwxyz" : Str))) (aCons (xVar 1) aNil))) (xC (.int 1))) [1])) aNil))))) sNil) (sRaise ("BadKey" : Str)))))
def f_encode_key : Fm := fBody 2 b_f_encode_key
def N_f__law_key : List Str := ["_law_value_here", "_law_data"]
abbrev s_f__law_key : Stmt := top 44
theorem sc_f__law_key : FnScope N_f__law_key ["_law_value_here"] (defScope s_f__law_key) := ⟨rfl, rfl, rfl, by decide +kernel, rfl, by decide +kernel, by decide +kernel⟩
def d_f__law_key : He.DefD := ⟨(("_law_key" : Str), none), ("_law_key" : Str), ("_law_key" : Str), defArgs s_f__law_key, defBody s_f__law_key, defScope s_f__law_key, [], []⟩
def b_f__law_key : Sm := (sSeq (sAsg (gN 1) (xP (xFn f__law_value_bytes 1 (aCons (xVar 0) aNil)))) (sRet (xP (xIf (bT (xIsi .str (xVar 0))) (xOp oAdd (xSl (xVar 1) oNone (oSome (xC (.int 1)))) (xSl (xVar 1) (oSome (xC (.int 2))) oNone)) (xVar 1)))))
def f__law_key : Fm := fBody 2 b_f__law_key
def N_f_decode_key : List Str := ["data"]
abbrev s_f_decode_key : Stmt := top 35
theorem sc_f_decode_key : FnScope N_f_decode_key ["data"] (defScope s_f_decode_key) := ⟨rfl, rfl, rfl, by decide +kernel, rfl, by decide +kernel, by decide +kernel⟩
def d_f_decode_key : He.DefD := ⟨(("decode_key" : Str), none), ("decode_key" : Str), ("decode_key" : Str), defArgs s_f_decode_key, defBody s_f_decode_key, defScope s_f_decode_key, [], []⟩
def b_f_decode_key : Sm := (sSeq (sExpr (xP (xFn f_check_bytes 1 (aCons (xVar 0) aNil)))) (sSeq (sIf (tP (bT (xOp oEq (xVar 0) (xTup (aCons (xC (.int (0))) aNil))))) (sRet (xP (xC .non))) sNil) (sSeq (sIf (tP (yAnd (bT (xOp oEq (xSl (xVar 0) oNone (oSome (xC (.int 1)))) (xTup (aCons (xC (.int (1))) aNil)))) (bT (xOp oEq (xCall bLenA (aCons (xVar 0) aNil)) (xC (.int 3)))))) (sRet (xP (xOp oAdd (xFn f_number_of 1 (aCons (xSl (xVar 0) (oSome (xC (.int 1))) oNone) aNil)) (xC (.int (-32768)))))) sNil) (sSeq (sIf (tP (yAnd (bT (xOp oEq (xSl (xVar 0) oNone (oSome (xC (.int 1)))) (xTup (aCons (xC (.int (2))) aNil)))) (bT (xOp oLe (xCall bLenA (aCons (xVar 0) aNil)) (xOp oAdd (xC (.int 1)) (xC (.int (12)))))))) (sRet (xP (xFn f_letters_in 1 (aCons (xSl (xVar 0) (oSome (xC (.int 1))) oNone) aNil)))) sNil) (sRaise ("BadBytes" : Str))))))
def f_decode_key : Fm := fBody 1 b_f_decode_key
def N_f__law_rank : List Str := ["_law_value_here"]
abbrev s_f__law_rank : Stmt := top 46
theorem sc_f__law_rank : FnScope N_f__law_rank ["_law_value_here"] (defScope s_f__law_rank) := ⟨rfl, rfl, rfl, by decide +kernel, rfl, by decide +kernel, by decide +kernel⟩
def d_f__law_rank : He.DefD := ⟨(("_law_rank" : Str), none), ("_law_rank" : Str), ("_law_rank" : Str), defArgs s_f__law_rank, defBody s_f__law_rank, defScope s_f__law_rank, [], []⟩
def b_f__law_rank : Sm := (sRet (xP (xIf (bT (xOp oIsN (xVar 0) (xC .non))) (xTup (aCons (xC (.int 0)) (aCons (xC (.int 0)) (aCons (xC (.str ("" : Str))) aNil)))) (xIf (bT (xIsi .int (xVar 0))) (xTup (aCons (xC (.int 1)) (aCons (xVar 0) (aCons (xC (.str ("" : Str))) aNil)))) (xTup (aCons (xC (.int 2)) (aCons (xC (.int 0)) (aCons (xVar 0) aNil))))))))
def f__law_rank : Fm := fBody 1 b_f__law_rank
def N_f_law : List Str := ["_law_script", "_law_draw", "_law_turn", "_law_kinds", "_law_row", "_law_other", "_law_data", "_law_one", "_law_late", "_law_copy", "_law_column", "_law_kind"]
abbrev s_f_law : Stmt := top 49
theorem sc_f_law : FnScope N_f_law ["_law_script"] (defScope s_f_law) := ⟨rfl, rfl, rfl, by decide +kernel, rfl, by decide +kernel, by decide +kernel⟩
def d_f_law : He.DefD := ⟨(("law" : Str), none), ("law" : Str), ("law" : Str), defArgs s_f_law, defBody s_f_law, defScope s_f_law, [], []⟩
def l_0 : Sm := (sAsg (gN 1) (xShare (iP (lLst (aCons (xVar 0) (aCons (xC (.int 0)) aNil))))))
def l_1 : Sm := (sFor (iRange1 (aCons (xC (.int 4)) aNil)) (gN 2) (sSeq (sAsg (gN 3) (xCallX bTuple (aXCons (xFzX (lLcX (iRange1X (aXCons (xOpX oAdd (xP (xC (.int 1))) (xFnX f__law_take 2 (aP (aCons (xVar 1) (aCons (xC (.int 6)) aNil))))) aXNil)) (gN 10) yYesX (xFnX f__law_pick 2 (aP (aCons (xVar 1) (aCons (xLst (aCons (xC (.str ("number" : Str))) (aCons (xC (.str ("text" : Str))) aNil))) aNil)))) [10])) aXNil))) (sSeq (sAsg (gL 2 (gsCons (gN 4) (gsCons (gN 5) gsNil))) (xFzX (lLcX (iP (iRange1 (aCons (xC (.int 2)) aNil))) (gN 9) yYesX (xCallX bTuple (aXCons (xFzX (lLcX (iP (iSeq (xVar 3))) (gN 11) yYesX (xFnX f__law_value 2 (aP (aCons (xVar 1) (aCons (xVar 11) aNil)))) [11])) aXNil)) [9]))) (sSeq (sAsg (gN 6) (xP (xFn f_encode_row 2 (aCons (xVar 3) (aCons (xVar 4) aNil))))) (sSeq (sIf (tP (yOr (bT (xOp oNe (xVar 6) (xFn f__law_row_bytes 1 (aCons (xVar 4) aNil)))) (bT (xOp oNe (xFn f_decode_row 2 (aCons (xVar 3) (aCons (xVar 6) aNil))) (xVar 4))))) (sRet (xP (xC (.bl false)))) sNil) (sSeq (sIf (tP (bT (xOp oNe (xOp oEq (xFn f_encode_row 2 (aCons (xVar 3) (aCons (xVar 5) aNil))) (xVar 6)) (xOp oEq (xVar 5) (xVar 4))))) (sRet (xP (xC (.bl false)))) sNil) (sSeq (sFor (iZipP (aCons (xVar 4) (aCons (xVar 5) aNil))) (gT 2 (gsCons (gN 7) (gsCons (gN 8) gsNil))) (sSeq (sIf (tP (yOr (bT (xOp oNe (xFn f_encode_key 1 (aCons (xVar 7) aNil)) (xFn f__law_key 1 (aCons (xVar 7) aNil)))) (bT (xOp oNe (xFn f_decode_key 1 (aCons (xFn f__law_key 1 (aCons (xVar 7) aNil)) aNil)) (xVar 7))))) (sRet (xP (xC (.bl false)))) sNil) (sIf (tP (bT (xOp oNe (xOp oLt (xFn f_encode_key 1 (aCons (xVar 7) aNil)) (xFn f_encode_key 1 (aCons (xVar 8) aNil))) (xOp oLt (xFn f__law_rank 1 (aCons (xVar 7) aNil)) (xFn f__law_rank 1 (aCons (xVar 8) aNil)))))) (sRet (xP (xC (.bl false)))) sNil))) (sSeq (sPar2 7 8 (fX (xFnX f__law_text 2 (aP (aCons (xVar 1) (aCons (xC (.int 12)) aNil))))) (fX (xFnX f__law_pick 2 (aP (aCons (xVar 1) (aCons (xLst (aCons (xC (.int 0)) (aCons (xUn oNeg (xC (.int 32768))) (aCons (xC (.int 32767)) (aCons (xC .non) (aCons (xC (.str ("" : Str))) (aCons (xC (.str ("a" : Str))) aNil))))))) aNil)))))) (sIf (yOrX (tP (bT (xOp oNe (xOp oLe (xFn f_encode_key 1 (aCons (xVar 7) aNil)) (xFn f_encode_key 1 (aCons (xVar 8) aNil))) (xOp oLe (xFn f__law_rank 1 (aCons (xVar 7) aNil)) (xFn f__law_rank 1 (aCons (xVar 8) aNil)))))) (yNotX (bTX (xFnX f__law_numbers_right 1 (aP (aCons (xVar 1) aNil)))))) (sRet (xP (xC (.bl false)))) sNil)))))))))
def l_2 : Sm := (sRet (xP (xC (.bl true))))
def b_f_law : Sm := (sSeq l_0 (sSeq l_1 l_2))
def cn : Cns := [(("KINDS" : Str), C_KINDS)]
def fa : List He.Fa := [.free ("isinstance" : Str), .free ("tuple" : Str), .free ("str" : Str), .free ("all" : Str), .glo ("are_kinds" : Str), .exc ("BadBytes" : Str), .glo ("BadBytes" : Str), .glo ("check_kinds" : Str), .free ("int" : Str), .free ("bool" : Str), .glo ("is_number" : Str), .free ("len" : Str), .int ("MOST_LETTERS" : Str) (12), .str ("LETTERS" : Str) ("abcdefghijklmnopqrstuvwxyz" : Str), .glo ("is_text" : Str), .int ("LEAST_NUMBER" : Str) (-32768), .int ("MOST_NUMBER" : Str) (32767), .glo ("is_value" : Str), .free ("enumerate" : Str), .glo ("check_row" : Str), .free ("range" : Str), .glo ("bytes_of" : Str), .int ("NONE_TAG" : Str) (0), .int ("NUMBER_TAG" : Str) (1), .int ("TEXT_TAG" : Str) (2), .glo ("value_bytes" : Str), .glo ("encode_row" : Str), .free ("sum" : Str), .glo ("_law_number" : Str), .glo ("_law_take" : Str), .glo ("_law_text" : Str), .glo ("_law_pick" : Str), .glo ("_law_two" : Str), .glo ("_law_value_bytes" : Str), .glo ("_law_row_bytes" : Str), .glo ("are_bytes" : Str), .glo ("check_bytes" : Str), .glo ("number_of" : Str), .glo ("letters_in" : Str), .glo ("read_value" : Str), .glo ("decode_row" : Str), .exc ("BadNumber" : Str), .glo ("BadNumber" : Str), .glo ("check_number" : Str), .glo ("from_number" : Str), .glo ("to_number" : Str), .glo ("sum_of" : Str), .glo ("_law_sum" : Str), .glo ("_law_numbers_right" : Str), .glo ("_law_value" : Str), .exc ("BadKey" : Str), .glo ("BadKey" : Str), .glo ("encode_key" : Str), .glo ("_law_key" : Str), .glo ("decode_key" : Str), .glo ("_law_rank" : Str), .free ("zip" : Str), .glo ("law" : Str)]
def su_BadValue : SuD := ⟨("BadValue" : Str), ("BadValue.__init__" : Str), cls 4 0⟩
def si : List SuD := [su_BadValue]
def ow : List Ow := [.noa ("BadValue" : Str) ("index" : Str)]
def fn : List He.DefD := [d_f_are_kinds, d_f_check_kinds, d_f_is_number, d_f_is_text, d_f_is_value, d_f_check_row, d_f_bytes_of, d_f_value_bytes, d_f_encode_row, d_f__law_number, d_f__law_take, d_f__law_text, d_f__law_pick, d_f__law_two, d_f__law_value_bytes, d_f__law_row_bytes, d_f_are_bytes, d_f_check_bytes, d_f_number_of, d_f_letters_in, d_f_read_value, d_f_decode_row, d_f_check_number, d_f_from_number, d_f_to_number, d_f_sum_of, d_f__law_sum, d_f__law_numbers_right, d_f__law_value, d_f_encode_key, d_f__law_key, d_f_decode_key, d_f__law_rank, d_f_law]
section
variable {P : Program} {w : World} {K : PySem.W.Frag} {mg : Str → Option Value} {base h : Heap}
theorem ek_BadBytes {X : Cx} {h : Heap} (I : X.K.In h) (G : h.Ns mainGlobals X.mg) (c : SaysN fa fn cn si ow X.prog X.K) : ExK X ("BadBytes" : Str) := by
  obtain ⟨h1, h2, h3, h4⟩ := He.exc_ok (c.fact 5)
  exact ⟨h1, h2, h3, h4, He.glo_ok I G (c.fact 6)⟩
theorem ek_BadKey {X : Cx} {h : Heap} (I : X.K.In h) (G : h.Ns mainGlobals X.mg) (c : SaysN fa fn cn si ow X.prog X.K) : ExK X ("BadKey" : Str) := by
  obtain ⟨h1, h2, h3, h4⟩ := He.exc_ok (c.fact 50)
  exact ⟨h1, h2, h3, h4, He.glo_ok I G (c.fact 51)⟩
theorem ek_BadNumber {X : Cx} {h : Heap} (I : X.K.In h) (G : h.Ns mainGlobals X.mg) (c : SaysN fa fn cn si ow X.prog X.K) : ExK X ("BadNumber" : Str) := by
  obtain ⟨h1, h2, h3, h4⟩ := He.exc_ok (c.fact 41)
  exact ⟨h1, h2, h3, h4, He.glo_ok I G (c.fact 42)⟩
theorem sx_BadValue {X : Cx} {h : Heap} (I : X.K.In h) (G : h.Ns mainGlobals X.mg) (c : SaysN fa fn cn si ow X.prog X.K) : SxK X 3 ("BadValue" : Str) ("index" : Str) (fun x => some x) :=
  sx_mk (d := su_BadValue) (y := ("index" : Str)) (r := (fun x H Q => Q x H)) I G (c.sup 0) c.file c.top ⟨_, rfl, rfl⟩ rfl (NdefX.nscope_by (by decide +kernel)) rfl rfl (noa_ok (c.own 0)) (fun env => ⟨_, rfl⟩) (fun _ => rfl) (fun _ => rfl) (fun _ _ _ _ _ _ _ _ us hl => match us, hl with | [_, _], _ => rfl) (fun X' i => rhs_name rfl rfl rfl i) mono_id rId_ok
theorem ok_are_kinds (I : K.In h) (G : h.Ns mainGlobals mg) (c : SaysN fa fn cn si ow P K) : FnK P w K mg base (Pm K) 1 ("are_kinds" : Str) 1 f_are_kinds := by
  obtain ⟨fd, F⟩ := c.def_ 0 (d := d_f_are_kinds) rfl
  refine ⟨1, _, fd, ["thing"], Nat.le_refl _, fn_sim F sc_f_are_kinds rfl fun cdv A outer s H E hr tk hp => ?_, He.glo_ok I G (c.fact 4), F.kp, F.bindsN fun _ _ _ _ _ _ us hl => match us, hl with | [_], _ => rfl⟩
  have hu := hr.units
  have nd := sc_f_are_kinds.nd
  exact (b_cons (s_if (t_p (t_w (w_or (t_not (t_val (e_isi (k := .tuple) bt_tuple rfl (He.free_ok I G (c.fact 0)) rfl (He.free_ok I G (c.fact 1)) (e_var (i := 0) rfl (.inl rfl))))) (w_or1 (T_cmp (k_eq hu) (e_var (i := 0) rfl (.inl rfl)) (e_tup a_nil)))))) (b_one (s_ret (x_p e_bl))) b_nil) (b_one (s_ret (x_p (E_callB (c_all rfl) rfl (He.free_ok I G (c.fact 3)) bt_all (a_cons (e_fz (l_lc (own := [(("kind" : Str), 1)]) rfl nd (i_seq (e_var (i := 0) rfl (.inl rfl))) (by show BlkOk N_f_are_kinds (defScope s_f_are_kinds) _ _; exact ⟨rfl, by decide +kernel, by decide +kernel, by decide +kernel, by decide +kernel⟩) (by decide) (fun _ _ _ _ _ => (g_name (i := 1) nd rfl (.inl rfl))) (fun _ _ _ _ _ => ts_nil) (fun _ _ _ _ _ => (e_and (e_isi (k := .str) bt_str rfl (He.free_ok I G (c.fact 0)) rfl (He.free_ok I G (c.fact 2)) (e_var (i := 1) rfl (.inl rfl))) (e_one (E_cmp (k_in hu) (e_var (i := 1) rfl (.inl rfl)) (e_con rfl (cnB_ok I G (c.con 0))))))))) a_nil))))))
theorem ok_check_kinds (I : K.In h) (G : h.Ns mainGlobals mg) (c : SaysN fa fn cn si ow P K) : FnK P w K mg base (Pm K) 2 ("check_kinds" : Str) 1 f_check_kinds := by
  obtain ⟨fd, F⟩ := c.def_ 1 (d := d_f_check_kinds) rfl
  refine ⟨2, _, fd, ["kinds"], Nat.le_refl _, fn_sim F sc_f_check_kinds rfl fun cdv A outer s H E hr tk hp => ?_, He.glo_ok I G (c.fact 7), F.kp, F.bindsN fun _ _ _ _ _ _ us hl => match us, hl with | [_], _ => rfl⟩
  have hu := hr.units
  have nd := sc_f_check_kinds.nd
  exact (b_one (s_if (t_p (t_not (t_val (e_fn ((ok_are_kinds I G c).at (by decide)) hr tk rfl (a_cons (e_var (i := 0) rfl (.inl rfl)) a_nil))))) (b_one (s_raise rfl tk (ek_BadBytes I G c) rfl)) b_nil))
theorem ok_is_number (I : K.In h) (G : h.Ns mainGlobals mg) (c : SaysN fa fn cn si ow P K) : FnK P w K mg base (Pm K) 1 ("is_number" : Str) 3 f_is_number := by
  obtain ⟨fd, F⟩ := c.def_ 2 (d := d_f_is_number) rfl
  refine ⟨1, _, fd, ["thing", "least", "most"], Nat.le_refl _, fn_sim F sc_f_is_number rfl fun cdv A outer s H E hr tk hp => ?_, He.glo_ok I G (c.fact 10), F.kp, F.bindsN fun _ _ _ _ _ _ us hl => match us, hl with | [_, _, _], _ => rfl⟩
  have hu := hr.units
  have nd := sc_f_is_number.nd
  exact (b_one (s_ret (x_p (e_and (e_isi (k := .int) bt_int rfl (He.free_ok I G (c.fact 0)) rfl (He.free_ok I G (c.fact 8)) (e_var (i := 0) rfl (.inl rfl))) (e_and (e_not (e_isi (k := .bool) bt_bool rfl (He.free_ok I G (c.fact 0)) rfl (He.free_ok I G (c.fact 9)) (e_var (i := 0) rfl (.inl rfl)))) (e_one (E_chain (k_le hu) (k_le hu) (e_var (i := 1) rfl (.inl rfl)) (e_var (i := 0) rfl (.inl rfl)) (e_var (i := 2) rfl (.inl rfl)))))))))
theorem ok_is_text (I : K.In h) (G : h.Ns mainGlobals mg) (c : SaysN fa fn cn si ow P K) : FnK P w K mg base (Pm K) 1 ("is_text" : Str) 1 f_is_text := by
  obtain ⟨fd, F⟩ := c.def_ 3 (d := d_f_is_text) rfl
  refine ⟨1, _, fd, ["thing"], Nat.le_refl _, fn_sim F sc_f_is_text rfl fun cdv A outer s H E hr tk hp => ?_, He.glo_ok I G (c.fact 14), F.kp, F.bindsN fun _ _ _ _ _ _ us hl => match us, hl with | [_], _ => rfl⟩
  have hu := hr.units
  have nd := sc_f_is_text.nd
  exact (b_one (s_ret (x_p (e_and (e_isi (k := .str) bt_str rfl (He.free_ok I G (c.fact 0)) rfl (He.free_ok I G (c.fact 2)) (e_var (i := 0) rfl (.inl rfl))) (e_and (E_cmp (k_le hu) (E_callB (c_len) rfl (He.free_ok I G (c.fact 11)) bt_len (a_cons (e_var (i := 0) rfl (.inl rfl)) a_nil)) (e_con rfl (con_int (He.int_ok I G (c.fact 12))))) (e_one (E_callB (c_all rfl) rfl (He.free_ok I G (c.fact 3)) bt_all (a_cons (e_fz (l_lc (own := [(("letter" : Str), 1)]) rfl nd (i_seq (e_var (i := 0) rfl (.inl rfl))) (by show BlkOk N_f_is_text (defScope s_f_is_text) _ _; exact ⟨rfl, by decide +kernel, by decide +kernel, by decide +kernel, by decide +kernel⟩) (by decide) (fun _ _ _ _ _ => (g_name (i := 1) nd rfl (.inl rfl))) (fun _ _ _ _ _ => ts_nil) (fun _ _ _ _ _ => (E_cmp (k_in hu) (e_var (i := 1) rfl (.inl rfl)) (e_con rfl (con_str (He.str_ok I G (c.fact 13)))))))) a_nil))))))))
theorem ok_is_value (I : K.In h) (G : h.Ns mainGlobals mg) (c : SaysN fa fn cn si ow P K) : FnK P w K mg base (Pm K) 2 ("is_value" : Str) 2 f_is_value := by
  obtain ⟨fd, F⟩ := c.def_ 4 (d := d_f_is_value) rfl
  refine ⟨2, _, fd, ["kind", "thing"], Nat.le_refl _, fn_sim F sc_f_is_value rfl fun cdv A outer s H E hr tk hp => ?_, He.glo_ok I G (c.fact 17), F.kp, F.bindsN fun _ _ _ _ _ _ us hl => match us, hl with | [_, _], _ => rfl⟩
  have hu := hr.units
  have nd := sc_f_is_value.nd
  exact (b_cons (s_if (t_p (T_cmp k_is (e_var (i := 1) rfl (.inl rfl)) e_non)) (b_one (s_ret (x_p e_bl))) b_nil) (b_one (s_ret (x_p (e_if (T_cmp (k_eq hu) (e_var (i := 0) rfl (.inl rfl)) e_str) (e_fn ((ok_is_number I G c).at (by decide)) hr tk rfl (a_cons (e_var (i := 1) rfl (.inl rfl)) (a_cons (e_con rfl (con_int (He.int_ok I G (c.fact 15)))) (a_cons (e_con rfl (con_int (He.int_ok I G (c.fact 16)))) a_nil)))) (e_fn ((ok_is_text I G c).at (by decide)) hr tk rfl (a_cons (e_var (i := 1) rfl (.inl rfl)) a_nil)))))))
theorem ok_check_row (I : K.In h) (G : h.Ns mainGlobals mg) (c : SaysN fa fn cn si ow P K) : FnK P w K mg base (Pm K) 4 ("check_row" : Str) 2 f_check_row := by
  obtain ⟨fd, F⟩ := c.def_ 5 (d := d_f_check_row) rfl
  refine ⟨4, _, fd, ["kinds", "row"], Nat.le_refl _, fn_sim F sc_f_check_row rfl fun cdv A outer s H E hr tk hp => ?_, He.glo_ok I G (c.fact 19), F.kp, F.bindsN fun _ _ _ _ _ _ us hl => match us, hl with | [_, _], _ => rfl⟩
  have hu := hr.units
  have nd := sc_f_check_row.nd
  exact (b_cons (s_if (t_p (t_w (w_or (t_not (t_val (e_isi (k := .tuple) bt_tuple rfl (He.free_ok I G (c.fact 0)) rfl (He.free_ok I G (c.fact 1)) (e_var (i := 1) rfl (.inl rfl))))) (w_or1 (T_cmp (k_ne hu) (E_callB (c_len) rfl (He.free_ok I G (c.fact 11)) bt_len (a_cons (e_var (i := 1) rfl (.inl rfl)) a_nil)) (E_callB (c_len) rfl (He.free_ok I G (c.fact 11)) bt_len (a_cons (e_var (i := 0) rfl (.inl rfl)) a_nil))))))) (b_one (s_raiseI rfl tk ((sx_BadValue I G c).at (by decide)) hr rfl (a_cons e_non a_nil))) b_nil) (b_one (s_for hp rfl (i_enum rfl (He.free_ok I G (c.fact 18)) (a_cons (e_var (i := 0) rfl (.inl rfl)) a_nil)) (g_tup rfl (gs_cons (g_name (i := 2) nd rfl (.inl rfl)) (gs_cons (g_name (i := 3) nd rfl (.inl rfl)) gs_nil))) (b_one (s_if (t_p (t_not (t_val (e_fn ((ok_is_value I G c).at (by decide)) hr tk rfl (a_cons (e_var (i := 3) rfl (.inl rfl)) (a_cons (E_ix hu (e_var (i := 1) rfl (.inl rfl)) (e_var (i := 2) rfl (.inl rfl))) a_nil)))))) (b_one (s_raiseI rfl tk ((sx_BadValue I G c).at (by decide)) hr rfl (a_cons (e_var (i := 2) rfl (.inl rfl)) a_nil))) b_nil)))))
theorem ok_bytes_of (I : K.In h) (G : h.Ns mainGlobals mg) (c : SaysN fa fn cn si ow P K) : FnK P w K mg base (Pm K) 1 ("bytes_of" : Str) 2 f_bytes_of := by
  obtain ⟨fd, F⟩ := c.def_ 6 (d := d_f_bytes_of) rfl
  refine ⟨1, _, fd, ["number", "width"], Nat.le_refl _, fn_sim F sc_f_bytes_of rfl fun cdv A outer s H E hr tk hp => ?_, He.glo_ok I G (c.fact 21), F.kp, F.bindsN fun _ _ _ _ _ _ us hl => match us, hl with | [_, _], _ => rfl⟩
  have hu := hr.units
  have nd := sc_f_bytes_of.nd
  exact (b_cons (s_setF (i := 2) nd rfl (.inl rfl) (f_l (xl_p (l_lst a_nil)))) (b_cons (s_for hp rfl (i_range1 rfl (He.free_ok I G (c.fact 20)) (a_cons (e_var (i := 1) rfl (.inl rfl)) a_nil)) (g_name (i := 3) nd rfl (.inl rfl)) (b_cons (s_append (i := 2) rfl (.inl rfl) (E_op k_mod (e_var (i := 0) rfl (.inl rfl)) e_int)) (b_one (S_aug (i := 0) i_fdiv nd rfl (.inl rfl) e_int)))) (b_one (s_frz fri_P 2 (s_ret (x_p (E_callTy (c_tuple) rfl (He.free_ok I G (c.fact 1)) bt_tuple (a_cons (e_revL (p4 := ⟨0, 0, 0, 0⟩) (e_var (i := 2) rfl (.inl rfl))) a_nil))))))))
theorem ok_value_bytes (I : K.In h) (G : h.Ns mainGlobals mg) (c : SaysN fa fn cn si ow P K) : FnK P w K mg base (Pm K) 2 ("value_bytes" : Str) 1 f_value_bytes := by
  obtain ⟨fd, F⟩ := c.def_ 7 (d := d_f_value_bytes) rfl
  refine ⟨2, _, fd, ["value"], Nat.le_refl _, fn_sim F sc_f_value_bytes rfl fun cdv A outer s H E hr tk hp => ?_, He.glo_ok I G (c.fact 25), F.kp, F.bindsN fun _ _ _ _ _ _ us hl => match us, hl with | [_], _ => rfl⟩
  have hu := hr.units
  have nd := sc_f_value_bytes.nd
  exact (b_cons (s_if (t_p (T_cmp k_is (e_var (i := 0) rfl (.inl rfl)) e_non)) (b_one (s_ret (x_p (e_tup (a_cons (e_con rfl (con_int (He.int_ok I G (c.fact 22)))) a_nil))))) b_nil) (b_cons (s_if (t_p (t_val (e_isi (k := .int) bt_int rfl (He.free_ok I G (c.fact 0)) rfl (He.free_ok I G (c.fact 8)) (e_var (i := 0) rfl (.inl rfl))))) (b_one (s_ret (x_p (e_tup (a_cons (e_con rfl (con_int (He.int_ok I G (c.fact 23)))) (a_star (e_fn ((ok_bytes_of I G c).at (by decide)) hr tk rfl (a_cons (E_op k_sub (e_var (i := 0) rfl (.inl rfl)) (e_con rfl (con_int (He.int_ok I G (c.fact 15))))) (a_cons e_int a_nil))) a_nil)))))) b_nil) (b_one (s_ret (x_p (e_tup (a_cons (e_con rfl (con_int (He.int_ok I G (c.fact 24)))) (a_cons (E_callB (c_len) rfl (He.free_ok I G (c.fact 11)) bt_len (a_cons (e_var (i := 0) rfl (.inl rfl)) a_nil)) (a_star (e_fz (l_lc (own := [(("letter" : Str), 1)]) rfl nd (i_seq (e_var (i := 0) rfl (.inl rfl))) (by show BlkOk N_f_value_bytes (defScope s_f_value_bytes) _ _; exact ⟨rfl, by decide +kernel, by decide +kernel, by decide +kernel, by decide +kernel⟩) (by decide) (fun _ _ _ _ _ => (g_name (i := 1) nd rfl (.inl rfl))) (fun _ _ _ _ _ => ts_nil) (fun _ _ _ _ _ => (E_op k_add (e_el (e_indexL (units2 hr) (e_con rfl (con_str (He.str_ok I G (c.fact 13)))) (a_cons (e_var (i := 1) rfl (.inl rfl)) a_nil)) (e_indexS (e_con rfl (con_str (He.str_ok I G (c.fact 13)))) (a_cons (e_var (i := 1) rfl (.inl rfl)) a_nil))) e_int)))) a_nil)))))))))
theorem ok_encode_row (I : K.In h) (G : h.Ns mainGlobals mg) (c : SaysN fa fn cn si ow P K) : FnK P w K mg base (Pm K) 5 ("encode_row" : Str) 2 f_encode_row := by
  obtain ⟨fd, F⟩ := c.def_ 8 (d := d_f_encode_row) rfl
  refine ⟨5, _, fd, ["kinds", "row"], Nat.le_refl _, fn_sim F sc_f_encode_row rfl fun cdv A outer s H E hr tk hp => ?_, He.glo_ok I G (c.fact 26), F.kp, F.bindsN fun _ _ _ _ _ _ us hl => match us, hl with | [_, _], _ => rfl⟩
  have hu := hr.units
  have nd := sc_f_encode_row.nd
  exact (b_cons (s_expr (x_p (e_fn ((ok_check_kinds I G c).at (by decide)) hr tk rfl (a_cons (e_var (i := 0) rfl (.inl rfl)) a_nil)))) (b_cons (s_expr (x_p (e_fn ((ok_check_row I G c).at (by decide)) hr tk rfl (a_cons (e_var (i := 0) rfl (.inl rfl)) (a_cons (e_var (i := 1) rfl (.inl rfl)) a_nil))))) (b_cons (s_setF (i := 2) nd rfl (.inl rfl) (f_l (xl_p (l_lst a_nil)))) (b_cons (s_for hp rfl (i_seq (e_var (i := 1) rfl (.inl rfl))) (g_name (i := 3) nd rfl (.inl rfl)) (b_one (s_extend (i := 2) rfl (.inl rfl) (e_fn ((ok_value_bytes I G c).at (by decide)) hr tk rfl (a_cons (e_var (i := 3) rfl (.inl rfl)) a_nil))))) (b_one (s_frz fri_P 2 (s_ret (x_p (E_callTy (c_tuple) rfl (He.free_ok I G (c.fact 1)) bt_tuple (a_cons (e_var (i := 2) rfl (.inl rfl)) a_nil))))))))))
theorem ok__law_number (I : K.In h) (G : h.Ns mainGlobals mg) (c : SaysN fa fn cn si ow P K) : FnK P w K mg base (Pm K) 1 ("_law_number" : Str) 2 f__law_number := by
  obtain ⟨fd, F⟩ := c.def_ 9 (d := d_f__law_number) rfl
  refine ⟨1, _, fd, ["_law_script", "_law_index"], Nat.le_refl _, fn_sim F sc_f__law_number rfl fun cdv A outer s H E hr tk hp => ?_, He.glo_ok I G (c.fact 28), F.kp, F.bindsN fun _ _ _ _ _ _ us hl => match us, hl with | [_, _], _ => rfl⟩
  have hu := hr.units
  have nd := sc_f__law_number.nd
  exact (b_cons (s_set (i := 2) nd rfl (.inl rfl) (x_p (e_if (T_cmp (k_ne hu) (e_var (i := 0) rfl (.inl rfl)) (e_lst a_nil)) (e_sl (e_var (i := 0) rfl (.inl rfl)) o_none (o_some e_int)) (e_lst (a_cons e_int a_nil))))) (b_cons (s_set (i := 3) nd rfl (.inl rfl) (x_p (E_op k_add (E_ix hu (e_var (i := 2) rfl (.inl rfl)) (E_op k_mod (E_callTy (c_int) rfl (He.free_ok I G (c.fact 8)) bt_int (a_cons (e_var (i := 1) rfl (.inl rfl)) a_nil)) (E_callB (c_len) rfl (He.free_ok I G (c.fact 11)) bt_len (a_cons (e_var (i := 2) rfl (.inl rfl)) a_nil)))) (E_op k_mul e_int (E_op k_fdiv (e_var (i := 1) rfl (.inl rfl)) (E_callB (c_len) rfl (He.free_ok I G (c.fact 11)) bt_len (a_cons (e_var (i := 2) rfl (.inl rfl)) a_nil))))))) (b_cons (s_par2 (i := 4) (j := 5) rfl nd rfl rfl (by decide) rfl rfl (f_x (x_p (E_op k_mod (E_callTy (c_int) rfl (He.free_ok I G (c.fact 8)) bt_int (a_cons (e_var (i := 3) rfl (.inl rfl)) a_nil)) e_int))) (f_x (x_p (E_op k_mod (E_callTy (c_int) rfl (He.free_ok I G (c.fact 8)) bt_int (a_cons (E_op k_fdiv (e_var (i := 3) rfl (.inl rfl)) e_int) a_nil)) e_int)))) (b_cons (s_set (i := 6) nd rfl (.inl rfl) (x_p (E_op k_mod (E_callTy (c_int) rfl (He.free_ok I G (c.fact 8)) bt_int (a_cons (E_callB (c_sum rfl) rfl (He.free_ok I G (c.fact 27)) bt_sum (a_cons (e_var (i := 2) rfl (.inl rfl)) a_nil)) a_nil)) e_int))) (b_cons (s_set (i := 7) nd rfl (.inl rfl) (x_p (E_op k_mod (E_callTy (c_int) rfl (He.free_ok I G (c.fact 8)) bt_int (a_cons (E_op k_add (E_op k_add (E_op k_mul (E_op k_add (e_var (i := 4) rfl (.inl rfl)) (E_op k_mul e_int (e_var (i := 1) rfl (.inl rfl)))) e_int) (E_op k_mul e_int (e_var (i := 5) rfl (.inl rfl)))) (e_var (i := 6) rfl (.inl rfl))) a_nil)) e_int))) (b_one (s_ret (x_p (E_op k_add (E_op k_mul (E_op k_mod (E_callTy (c_int) rfl (He.free_ok I G (c.fact 8)) bt_int (a_cons (E_op k_mul (e_var (i := 7) rfl (.inl rfl)) (E_op k_add (E_op k_add (e_var (i := 7) rfl (.inl rfl)) (E_op k_mul e_int (e_var (i := 1) rfl (.inl rfl)))) e_int)) a_nil)) e_int) e_int) (e_var (i := 5) rfl (.inl rfl)))))))))))
theorem ok__law_take (I : K.In h) (G : h.Ns mainGlobals mg) (c : SaysN fa fn cn si ow P K) : FnK P w K mg base (Em K) 2 ("_law_take" : Str) 2 f__law_take := by
  obtain ⟨fd, F⟩ := c.def_ 10 (d := d_f__law_take) rfl
  refine ⟨2, _, fd, ["_law_draw", "_law_many"], Nat.le_refl _, fn_sim F sc_f__law_take rfl fun cdv A outer s H E hr tk hp => ?_, He.glo_ok I G (c.fact 29), F.kp, F.bindsN fun _ _ _ _ _ _ us hl => match us, hl with | [_, _], _ => rfl⟩
  have hu := hr.units
  have nd := sc_f__law_take.nd
  exact (b_cons (s_setI hu (e_var (i := 0) rfl (.inl rfl)) e_int (x_p (E_op k_add (E_ix hu (e_dr (e_var (i := 0) rfl (.inl rfl))) e_int) e_int))) (b_one (s_ret (x_p (E_op k_mod (E_callTy (c_int) rfl (He.free_ok I G (c.fact 8)) bt_int (a_cons (e_fn ((ok__law_number I G c).at (by decide)) hr tk rfl (a_cons (E_ix hu (e_dr (e_var (i := 0) rfl (.inl rfl))) e_int) (a_cons (E_callTy (c_int) rfl (He.free_ok I G (c.fact 8)) bt_int (a_cons (E_ix hu (e_dr (e_var (i := 0) rfl (.inl rfl))) e_int) a_nil)) a_nil))) a_nil)) (e_var (i := 1) rfl (.inl rfl)))))))
theorem ok__law_text (I : K.In h) (G : h.Ns mainGlobals mg) (c : SaysN fa fn cn si ow P K) : FnK P w K mg base (Em K) 3 ("_law_text" : Str) 2 f__law_text := by
  obtain ⟨fd, F⟩ := c.def_ 11 (d := d_f__law_text) rfl
  refine ⟨3, _, fd, ["_law_draw", "_law_most"], Nat.le_refl _, fn_sim F sc_f__law_text rfl fun cdv A outer s H E hr tk hp => ?_, He.glo_ok I G (c.fact 30), F.kp, F.bindsN fun _ _ _ _ _ _ us hl => match us, hl with | [_, _], _ => rfl⟩
  have hu := hr.units
  have nd := sc_f__law_text.nd
  exact (b_cons (s_set (i := 2) nd rfl (.inl rfl) (x_p e_str)) (b_cons (s_forX hp rfl (ix_range1 rfl (He.free_ok I G (c.fact 20)) (xa_cons (x_fn ((ok__law_take I G c).at (by decide)) hr tk rfl (xa_p (a_cons (e_var (i := 0) rfl (.inl rfl)) (a_cons (E_op k_add (e_var (i := 1) rfl (.inl rfl)) e_int) a_nil)))) xa_nil)) (g_name (i := 3) nd rfl (.inl rfl)) (b_one (s_set (i := 2) nd rfl (.inl rfl) (X_op k_add (x_p (e_var (i := 2) rfl (.inl rfl))) (X_ix hu (x_p e_str) (x_fn ((ok__law_take I G c).at (by decide)) hr tk rfl (xa_p (a_cons (e_var (i := 0) rfl (.inl rfl)) (a_cons e_int a_nil))))))))) (b_one (s_ret (x_p (e_var (i := 2) rfl (.inl rfl)))))))
theorem ok__law_pick (I : K.In h) (G : h.Ns mainGlobals mg) (c : SaysN fa fn cn si ow P K) : FnK P w K mg base (Em K) 3 ("_law_pick" : Str) 2 f__law_pick := by
  obtain ⟨fd, F⟩ := c.def_ 12 (d := d_f__law_pick) rfl
  refine ⟨3, _, fd, ["_law_draw", "_law_things"], Nat.le_refl _, fn_sim F sc_f__law_pick rfl fun cdv A outer s H E hr tk hp => ?_, He.glo_ok I G (c.fact 31), F.kp, F.bindsN fun _ _ _ _ _ _ us hl => match us, hl with | [_, _], _ => rfl⟩
  have hu := hr.units
  have nd := sc_f__law_pick.nd
  exact (b_one (s_ret (X_ix hu (x_p (e_var (i := 1) rfl (.inl rfl))) (x_fn ((ok__law_take I G c).at (by decide)) hr tk rfl (xa_p (a_cons (e_var (i := 0) rfl (.inl rfl)) (a_cons (E_callB (c_len) rfl (He.free_ok I G (c.fact 11)) bt_len (a_cons (e_var (i := 1) rfl (.inl rfl)) a_nil)) a_nil)))))))
theorem ok__law_two (I : K.In h) (G : h.Ns mainGlobals mg) (c : SaysN fa fn cn si ow P K) : FnK P w K mg base (Pm K) 1 ("_law_two" : Str) 1 f__law_two := by
  obtain ⟨fd, F⟩ := c.def_ 13 (d := d_f__law_two) rfl
  refine ⟨1, _, fd, ["_law_number_here"], Nat.le_refl _, fn_sim F sc_f__law_two rfl fun cdv A outer s H E hr tk hp => ?_, He.glo_ok I G (c.fact 32), F.kp, F.bindsN fun _ _ _ _ _ _ us hl => match us, hl with | [_], _ => rfl⟩
  have hu := hr.units
  have nd := sc_f__law_two.nd
  exact (b_one (s_ret (x_p (e_tup (a_cons (E_callTy (c_int) rfl (He.free_ok I G (c.fact 8)) bt_int (a_cons (E_op k_fdiv (e_var (i := 0) rfl (.inl rfl)) e_int) a_nil)) (a_cons (E_op k_mod (E_callTy (c_int) rfl (He.free_ok I G (c.fact 8)) bt_int (a_cons (e_var (i := 0) rfl (.inl rfl)) a_nil)) e_int) a_nil))))))
theorem ok__law_value_bytes (I : K.In h) (G : h.Ns mainGlobals mg) (c : SaysN fa fn cn si ow P K) : FnK P w K mg base (Pm K) 2 ("_law_value_bytes" : Str) 1 f__law_value_bytes := by
  obtain ⟨fd, F⟩ := c.def_ 14 (d := d_f__law_value_bytes) rfl
  refine ⟨2, _, fd, ["_law_value_here"], Nat.le_refl _, fn_sim F sc_f__law_value_bytes rfl fun cdv A outer s H E hr tk hp => ?_, He.glo_ok I G (c.fact 33), F.kp, F.bindsN fun _ _ _ _ _ _ us hl => match us, hl with | [_], _ => rfl⟩
  have hu := hr.units
  have nd := sc_f__law_value_bytes.nd
  exact (b_cons (s_if (t_p (T_cmp k_is (e_var (i := 0) rfl (.inl rfl)) e_non)) (b_one (s_ret (x_p (e_tup (a_cons e_int a_nil))))) b_nil) (b_cons (s_if (t_p (t_val (e_isi (k := .int) bt_int rfl (He.free_ok I G (c.fact 0)) rfl (He.free_ok I G (c.fact 8)) (e_var (i := 0) rfl (.inl rfl))))) (b_one (s_ret (x_p (E_op k_add (e_tup (a_cons e_int a_nil)) (e_fn ((ok__law_two I G c).at (by decide)) hr tk rfl (a_cons (E_op k_add (e_var (i := 0) rfl (.inl rfl)) e_int) a_nil)))))) b_nil) (b_one (s_ret (x_p (E_op k_add (e_tup (a_cons e_int (a_cons (E_callB (c_len) rfl (He.free_ok I G (c.fact 11)) bt_len (a_cons (e_var (i := 0) rfl (.inl rfl)) a_nil)) a_nil))) (E_callTy (c_tuple) rfl (He.free_ok I G (c.fact 1)) bt_tuple (a_cons (e_fz (l_lc (own := [(("_law_letter" : Str), 1)]) rfl nd (i_seq (e_var (i := 0) rfl (.inl rfl))) (by show BlkOk N_f__law_value_bytes (defScope s_f__law_value_bytes) _ _; exact ⟨rfl, by decide +kernel, by decide +kernel, by decide +kernel, by decide +kernel⟩) (by decide) (fun _ _ _ _ _ => (g_name (i := 1) nd rfl (.inl rfl))) (fun _ _ _ _ _ => ts_nil) (fun _ _ _ _ _ => (E_op k_add (e_el (e_indexL (units2 hr) e_str (a_cons (e_var (i := 1) rfl (.inl rfl)) a_nil)) (e_indexS e_str (a_cons (e_var (i := 1) rfl (.inl rfl)) a_nil))) e_int)))) a_nil))))))))
theorem ok__law_row_bytes (I : K.In h) (G : h.Ns mainGlobals mg) (c : SaysN fa fn cn si ow P K) : FnK P w K mg base (Pm K) 3 ("_law_row_bytes" : Str) 1 f__law_row_bytes := by
  obtain ⟨fd, F⟩ := c.def_ 15 (d := d_f__law_row_bytes) rfl
  refine ⟨3, _, fd, ["_law_row"], Nat.le_refl _, fn_sim F sc_f__law_row_bytes rfl fun cdv A outer s H E hr tk hp => ?_, He.glo_ok I G (c.fact 34), F.kp, F.bindsN fun _ _ _ _ _ _ us hl => match us, hl with | [_], _ => rfl⟩
  have hu := hr.units
  have nd := sc_f__law_row_bytes.nd
  exact (b_cons (s_set (i := 1) nd rfl (.inl rfl) (x_p (e_tup a_nil))) (b_cons (s_for hp rfl (i_seq (e_var (i := 0) rfl (.inl rfl))) (g_name (i := 2) nd rfl (.inl rfl)) (b_one (s_set (i := 1) nd rfl (.inl rfl) (x_p (E_op k_add (e_var (i := 1) rfl (.inl rfl)) (e_fn ((ok__law_value_bytes I G c).at (by decide)) hr tk rfl (a_cons (e_var (i := 2) rfl (.inl rfl)) a_nil))))))) (b_one (s_ret (x_p (e_var (i := 1) rfl (.inl rfl)))))))
theorem ok_are_bytes (I : K.In h) (G : h.Ns mainGlobals mg) (c : SaysN fa fn cn si ow P K) : FnK P w K mg base (Pm K) 2 ("are_bytes" : Str) 1 f_are_bytes := by
  obtain ⟨fd, F⟩ := c.def_ 16 (d := d_f_are_bytes) rfl
  refine ⟨2, _, fd, ["thing"], Nat.le_refl _, fn_sim F sc_f_are_bytes rfl fun cdv A outer s H E hr tk hp => ?_, He.glo_ok I G (c.fact 35), F.kp, F.bindsN fun _ _ _ _ _ _ us hl => match us, hl with | [_], _ => rfl⟩
  have hu := hr.units
  have nd := sc_f_are_bytes.nd
  exact (b_one (s_ret (x_p (e_and (e_isi (k := .tuple) bt_tuple rfl (He.free_ok I G (c.fact 0)) rfl (He.free_ok I G (c.fact 1)) (e_var (i := 0) rfl (.inl rfl))) (e_one (E_callB (c_all rfl) rfl (He.free_ok I G (c.fact 3)) bt_all (a_cons (e_fz (l_lc (own := [(("one" : Str), 1)]) rfl nd (i_seq (e_var (i := 0) rfl (.inl rfl))) (by show BlkOk N_f_are_bytes (defScope s_f_are_bytes) _ _; exact ⟨rfl, by decide +kernel, by decide +kernel, by decide +kernel, by decide +kernel⟩) (by decide) (fun _ _ _ _ _ => (g_name (i := 1) nd rfl (.inl rfl))) (fun _ _ _ _ _ => ts_nil) (fun _ _ _ _ _ => (e_fn ((ok_is_number I G c).at (by decide)) hr L2.takes0 rfl (a_cons (e_var (i := 1) rfl (.inl rfl)) (a_cons e_int (a_cons e_int a_nil))))))) a_nil)))))))
theorem ok_check_bytes (I : K.In h) (G : h.Ns mainGlobals mg) (c : SaysN fa fn cn si ow P K) : FnK P w K mg base (Pm K) 3 ("check_bytes" : Str) 1 f_check_bytes := by
  obtain ⟨fd, F⟩ := c.def_ 17 (d := d_f_check_bytes) rfl
  refine ⟨3, _, fd, ["thing"], Nat.le_refl _, fn_sim F sc_f_check_bytes rfl fun cdv A outer s H E hr tk hp => ?_, He.glo_ok I G (c.fact 36), F.kp, F.bindsN fun _ _ _ _ _ _ us hl => match us, hl with | [_], _ => rfl⟩
  have hu := hr.units
  have nd := sc_f_check_bytes.nd
  exact (b_one (s_if (t_p (t_not (t_val (e_fn ((ok_are_bytes I G c).at (by decide)) hr tk rfl (a_cons (e_var (i := 0) rfl (.inl rfl)) a_nil))))) (b_one (s_raise rfl tk (ek_BadBytes I G c) rfl)) b_nil))
theorem ok_number_of (I : K.In h) (G : h.Ns mainGlobals mg) (c : SaysN fa fn cn si ow P K) : FnK P w K mg base (Pm K) 1 ("number_of" : Str) 1 f_number_of := by
  obtain ⟨fd, F⟩ := c.def_ 18 (d := d_f_number_of) rfl
  refine ⟨1, _, fd, ["data"], Nat.le_refl _, fn_sim F sc_f_number_of rfl fun cdv A outer s H E hr tk hp => ?_, He.glo_ok I G (c.fact 37), F.kp, F.bindsN fun _ _ _ _ _ _ us hl => match us, hl with | [_], _ => rfl⟩
  have hu := hr.units
  have nd := sc_f_number_of.nd
  exact (b_cons (s_set (i := 1) nd rfl (.inl rfl) (x_p e_int)) (b_cons (s_for hp rfl (i_seq (e_var (i := 0) rfl (.inl rfl))) (g_name (i := 2) nd rfl (.inl rfl)) (b_one (s_set (i := 1) nd rfl (.inl rfl) (x_p (E_op k_add (E_op k_mul (e_var (i := 1) rfl (.inl rfl)) e_int) (e_var (i := 2) rfl (.inl rfl))))))) (b_one (s_ret (x_p (e_var (i := 1) rfl (.inl rfl)))))))
theorem ok_letters_in (I : K.In h) (G : h.Ns mainGlobals mg) (c : SaysN fa fn cn si ow P K) : FnK P w K mg base (Pm K) 1 ("letters_in" : Str) 1 f_letters_in := by
  obtain ⟨fd, F⟩ := c.def_ 19 (d := d_f_letters_in) rfl
  refine ⟨1, _, fd, ["data"], Nat.le_refl _, fn_sim F sc_f_letters_in rfl fun cdv A outer s H E hr tk hp => ?_, He.glo_ok I G (c.fact 38), F.kp, F.bindsN fun _ _ _ _ _ _ us hl => match us, hl with | [_], _ => rfl⟩
  have hu := hr.units
  have nd := sc_f_letters_in.nd
  exact (b_cons (s_if (t_p (t_not (t_val (E_callB (c_all rfl) rfl (He.free_ok I G (c.fact 3)) bt_all (a_cons (e_fz (l_lc (own := [(("one" : Str), 1)]) rfl nd (i_seq (e_var (i := 0) rfl (.inl rfl))) (by show BlkOk N_f_letters_in (defScope s_f_letters_in) _ _; exact ⟨rfl, by decide +kernel, by decide +kernel, by decide +kernel, by decide +kernel⟩) (by decide) (fun _ _ _ _ _ => (g_name (i := 1) nd rfl (.inl rfl))) (fun _ _ _ _ _ => ts_nil) (fun _ _ _ _ _ => (E_chain (k_le hu) (k_le hu) e_int (e_var (i := 1) rfl (.inl rfl)) (E_callB (c_len) rfl (He.free_ok I G (c.fact 11)) bt_len (a_cons (e_con rfl (con_str (He.str_ok I G (c.fact 13)))) a_nil)))))) a_nil))))) (b_one (s_raise rfl tk (ek_BadBytes I G c) rfl)) b_nil) (b_one (s_ret (x_p (e_join e_str (a_cons (e_fz (l_lc (own := [(("one" : Str), 1)]) rfl nd (i_seq (e_var (i := 0) rfl (.inl rfl))) (by show BlkOk N_f_letters_in (defScope s_f_letters_in) _ _; exact ⟨rfl, by decide +kernel, by decide +kernel, by decide +kernel, by decide +kernel⟩) (by decide) (fun _ _ _ _ _ => (g_name (i := 1) nd rfl (.inl rfl))) (fun _ _ _ _ _ => ts_nil) (fun _ _ _ _ _ => (E_ix hu (e_con rfl (con_str (He.str_ok I G (c.fact 13)))) (E_op k_sub (e_var (i := 1) rfl (.inl rfl)) e_int))))) a_nil))))))
theorem ok_read_value (I : K.In h) (G : h.Ns mainGlobals mg) (c : SaysN fa fn cn si ow P K) : FnK P w K mg base (Pm K) 2 ("read_value" : Str) 3 f_read_value := by
  obtain ⟨fd, F⟩ := c.def_ 20 (d := d_f_read_value) rfl
  refine ⟨2, _, fd, ["kind", "data", "at"], Nat.le_refl _, fn_sim F sc_f_read_value rfl fun cdv A outer s H E hr tk hp => ?_, He.glo_ok I G (c.fact 39), F.kp, F.bindsN fun _ _ _ _ _ _ us hl => match us, hl with | [_, _, _], _ => rfl⟩
  have hu := hr.units
  have nd := sc_f_read_value.nd
  exact (b_cons (s_set (i := 3) nd rfl (.inl rfl) (x_p (e_if (T_cmp (k_lt hu) (e_var (i := 2) rfl (.inl rfl)) (E_callB (c_len) rfl (He.free_ok I G (c.fact 11)) bt_len (a_cons (e_var (i := 1) rfl (.inl rfl)) a_nil))) (E_ix hu (e_var (i := 1) rfl (.inl rfl)) (e_var (i := 2) rfl (.inl rfl))) e_int))) (b_cons (s_if (t_p (T_cmp (k_eq hu) (e_var (i := 3) rfl (.inl rfl)) (e_con rfl (con_int (He.int_ok I G (c.fact 22)))))) (b_one (s_ret (x_p (e_tup (a_cons e_non (a_cons (E_op k_add (e_var (i := 2) rfl (.inl rfl)) e_int) a_nil)))))) b_nil) (b_cons (s_if (t_p (t_w (w_and (T_cmp (k_eq hu) (e_var (i := 3) rfl (.inl rfl)) (e_con rfl (con_int (He.int_ok I G (c.fact 23))))) (w_and (T_cmp (k_eq hu) (e_var (i := 0) rfl (.inl rfl)) e_str) (w_and1 (T_cmp (k_le hu) (E_op k_add (e_var (i := 2) rfl (.inl rfl)) e_int) (E_callB (c_len) rfl (He.free_ok I G (c.fact 11)) bt_len (a_cons (e_var (i := 1) rfl (.inl rfl)) a_nil)))))))) (b_one (s_ret (x_p (e_tup (a_cons (E_op k_add (e_fn ((ok_number_of I G c).at (by decide)) hr tk rfl (a_cons (e_sl (e_var (i := 1) rfl (.inl rfl)) (o_some (E_op k_add (e_var (i := 2) rfl (.inl rfl)) e_int)) (o_some (E_op k_add (e_var (i := 2) rfl (.inl rfl)) e_int))) a_nil)) (e_con rfl (con_int (He.int_ok I G (c.fact 15))))) (a_cons (E_op k_add (e_var (i := 2) rfl (.inl rfl)) e_int) a_nil)))))) b_nil) (b_cons (s_if (t_p (t_w (w_and (T_cmp (k_eq hu) (e_var (i := 3) rfl (.inl rfl)) (e_con rfl (con_int (He.int_ok I G (c.fact 24))))) (w_and (T_cmp (k_eq hu) (e_var (i := 0) rfl (.inl rfl)) e_str) (w_and1 (T_cmp (k_le hu) (E_op k_add (e_var (i := 2) rfl (.inl rfl)) e_int) (E_callB (c_len) rfl (He.free_ok I G (c.fact 11)) bt_len (a_cons (e_var (i := 1) rfl (.inl rfl)) a_nil)))))))) (b_cons (s_set (i := 4) nd rfl (.inl rfl) (x_p (E_op k_add (E_op k_add (e_var (i := 2) rfl (.inl rfl)) e_int) (E_ix hu (e_var (i := 1) rfl (.inl rfl)) (E_op k_add (e_var (i := 2) rfl (.inl rfl)) e_int))))) (b_one (s_if (t_p (t_w (w_and (T_cmp (k_le hu) (E_ix hu (e_var (i := 1) rfl (.inl rfl)) (E_op k_add (e_var (i := 2) rfl (.inl rfl)) e_int)) (e_con rfl (con_int (He.int_ok I G (c.fact 12))))) (w_and1 (T_cmp (k_le hu) (e_var (i := 4) rfl (.inl rfl)) (E_callB (c_len) rfl (He.free_ok I G (c.fact 11)) bt_len (a_cons (e_var (i := 1) rfl (.inl rfl)) a_nil))))))) (b_one (s_ret (x_p (e_tup (a_cons (e_fn ((ok_letters_in I G c).at (by decide)) hr tk rfl (a_cons (e_sl (e_var (i := 1) rfl (.inl rfl)) (o_some (E_op k_add (e_var (i := 2) rfl (.inl rfl)) e_int)) (o_some (e_var (i := 4) rfl (.inl rfl)))) a_nil)) (a_cons (e_var (i := 4) rfl (.inl rfl)) a_nil)))))) b_nil))) b_nil) (b_one (s_raise rfl tk (ek_BadBytes I G c) rfl))))))
theorem ok_decode_row (I : K.In h) (G : h.Ns mainGlobals mg) (c : SaysN fa fn cn si ow P K) : FnK P w K mg base (Pm K) 4 ("decode_row" : Str) 2 f_decode_row := by
  obtain ⟨fd, F⟩ := c.def_ 21 (d := d_f_decode_row) rfl
  refine ⟨4, _, fd, ["kinds", "data"], Nat.le_refl _, fn_sim F sc_f_decode_row rfl fun cdv A outer s H E hr tk hp => ?_, He.glo_ok I G (c.fact 40), F.kp, F.bindsN fun _ _ _ _ _ _ us hl => match us, hl with | [_, _], _ => rfl⟩
  have hu := hr.units
  have nd := sc_f_decode_row.nd
  exact (b_cons (s_expr (x_p (e_fn ((ok_check_kinds I G c).at (by decide)) hr tk rfl (a_cons (e_var (i := 0) rfl (.inl rfl)) a_nil)))) (b_cons (s_expr (x_p (e_fn ((ok_check_bytes I G c).at (by decide)) hr tk rfl (a_cons (e_var (i := 1) rfl (.inl rfl)) a_nil)))) (b_cons (s_par2 (i := 2) (j := 3) rfl nd rfl rfl (by decide) rfl rfl (f_l (xl_p (l_lst a_nil))) (f_x (x_p e_int))) (b_cons (s_for hp rfl (i_seq (e_var (i := 0) rfl (.inl rfl))) (g_name (i := 4) nd rfl (.inl rfl)) (b_cons (s_asg (x_p (e_fn ((ok_read_value I G c).at (by decide)) hr tk rfl (a_cons (e_var (i := 4) rfl (.inl rfl)) (a_cons (e_var (i := 1) rfl (.inl rfl)) (a_cons (e_var (i := 3) rfl (.inl rfl)) a_nil))))) (g_tup rfl (gs_cons (g_name (i := 5) nd rfl (.inl rfl)) (gs_cons (g_name (i := 3) nd rfl (.inl rfl)) gs_nil)))) (b_one (s_append (i := 2) rfl (.inl rfl) (e_var (i := 5) rfl (.inl rfl)))))) (b_cons (s_if (t_p (T_cmp (k_ne hu) (e_var (i := 3) rfl (.inl rfl)) (E_callB (c_len) rfl (He.free_ok I G (c.fact 11)) bt_len (a_cons (e_var (i := 1) rfl (.inl rfl)) a_nil)))) (b_one (s_raise rfl tk (ek_BadBytes I G c) rfl)) b_nil) (b_one (s_frz fri_P 2 (s_ret (x_p (E_callTy (c_tuple) rfl (He.free_ok I G (c.fact 1)) bt_tuple (a_cons (e_var (i := 2) rfl (.inl rfl)) a_nil)))))))))))
theorem ok_check_number (I : K.In h) (G : h.Ns mainGlobals mg) (c : SaysN fa fn cn si ow P K) : FnK P w K mg base (Pm K) 2 ("check_number" : Str) 3 f_check_number := by
  obtain ⟨fd, F⟩ := c.def_ 22 (d := d_f_check_number) rfl
  refine ⟨2, _, fd, ["thing", "least", "most"], Nat.le_refl _, fn_sim F sc_f_check_number rfl fun cdv A outer s H E hr tk hp => ?_, He.glo_ok I G (c.fact 43), F.kp, F.bindsN fun _ _ _ _ _ _ us hl => match us, hl with | [_, _, _], _ => rfl⟩
  have hu := hr.units
  have nd := sc_f_check_number.nd
  exact (b_one (s_if (t_p (t_not (t_val (e_fn ((ok_is_number I G c).at (by decide)) hr tk rfl (a_cons (e_var (i := 0) rfl (.inl rfl)) (a_cons (e_var (i := 1) rfl (.inl rfl)) (a_cons (e_var (i := 2) rfl (.inl rfl)) a_nil))))))) (b_one (s_raise rfl tk (ek_BadNumber I G c) rfl)) b_nil))
theorem ok_from_number (I : K.In h) (G : h.Ns mainGlobals mg) (c : SaysN fa fn cn si ow P K) : FnK P w K mg base (Pm K) 3 ("from_number" : Str) 2 f_from_number := by
  obtain ⟨fd, F⟩ := c.def_ 23 (d := d_f_from_number) rfl
  refine ⟨3, _, fd, ["number", "width"], Nat.le_refl _, fn_sim F sc_f_from_number rfl fun cdv A outer s H E hr tk hp => ?_, He.glo_ok I G (c.fact 44), F.kp, F.bindsN fun _ _ _ _ _ _ us hl => match us, hl with | [_, _], _ => rfl⟩
  have hu := hr.units
  have nd := sc_f_from_number.nd
  exact (b_cons (s_expr (x_p (e_fn ((ok_check_number I G c).at (by decide)) hr tk rfl (a_cons (e_var (i := 1) rfl (.inl rfl)) (a_cons e_int (a_cons e_int a_nil)))))) (b_cons (s_set (i := 2) nd rfl (.inl rfl) (x_p e_int)) (b_cons (s_for hp rfl (i_range1 rfl (He.free_ok I G (c.fact 20)) (a_cons (e_var (i := 1) rfl (.inl rfl)) a_nil)) (g_name (i := 3) nd rfl (.inl rfl)) (b_one (S_aug (i := 2) i_mul nd rfl (.inl rfl) e_int))) (b_cons (s_expr (x_p (e_fn ((ok_check_number I G c).at (by decide)) hr tk rfl (a_cons (e_var (i := 0) rfl (.inl rfl)) (a_cons e_int (a_cons (E_op k_sub (e_var (i := 2) rfl (.inl rfl)) e_int) a_nil)))))) (b_one (s_ret (x_p (e_fn ((ok_bytes_of I G c).at (by decide)) hr tk rfl (a_cons (e_var (i := 0) rfl (.inl rfl)) (a_cons (e_var (i := 1) rfl (.inl rfl)) a_nil))))))))))
theorem ok_to_number (I : K.In h) (G : h.Ns mainGlobals mg) (c : SaysN fa fn cn si ow P K) : FnK P w K mg base (Pm K) 4 ("to_number" : Str) 1 f_to_number := by
  obtain ⟨fd, F⟩ := c.def_ 24 (d := d_f_to_number) rfl
  refine ⟨4, _, fd, ["data"], Nat.le_refl _, fn_sim F sc_f_to_number rfl fun cdv A outer s H E hr tk hp => ?_, He.glo_ok I G (c.fact 45), F.kp, F.bindsN fun _ _ _ _ _ _ us hl => match us, hl with | [_], _ => rfl⟩
  have hu := hr.units
  have nd := sc_f_to_number.nd
  exact (b_cons (s_expr (x_p (e_fn ((ok_check_bytes I G c).at (by decide)) hr tk rfl (a_cons (e_var (i := 0) rfl (.inl rfl)) a_nil)))) (b_one (s_ret (x_p (e_fn ((ok_number_of I G c).at (by decide)) hr tk rfl (a_cons (e_var (i := 0) rfl (.inl rfl)) a_nil))))))
theorem ok_sum_of (I : K.In h) (G : h.Ns mainGlobals mg) (c : SaysN fa fn cn si ow P K) : FnK P w K mg base (Pm K) 4 ("sum_of" : Str) 1 f_sum_of := by
  obtain ⟨fd, F⟩ := c.def_ 25 (d := d_f_sum_of) rfl
  refine ⟨4, _, fd, ["data"], Nat.le_refl _, fn_sim F sc_f_sum_of rfl fun cdv A outer s H E hr tk hp => ?_, He.glo_ok I G (c.fact 46), F.kp, F.bindsN fun _ _ _ _ _ _ us hl => match us, hl with | [_], _ => rfl⟩
  have hu := hr.units
  have nd := sc_f_sum_of.nd
  exact (b_cons (s_expr (x_p (e_fn ((ok_check_bytes I G c).at (by decide)) hr tk rfl (a_cons (e_var (i := 0) rfl (.inl rfl)) a_nil)))) (b_cons (s_asg (x_p (e_tup (a_cons e_int (a_cons e_int a_nil)))) (g_tup rfl (gs_cons (g_name (i := 1) nd rfl (.inl rfl)) (gs_cons (g_name (i := 2) nd rfl (.inl rfl)) gs_nil)))) (b_cons (s_for hp rfl (i_seq (e_var (i := 0) rfl (.inl rfl))) (g_name (i := 3) nd rfl (.inl rfl)) (b_cons (s_set (i := 1) nd rfl (.inl rfl) (x_p (E_op k_mod (E_op k_add (e_var (i := 1) rfl (.inl rfl)) (e_var (i := 3) rfl (.inl rfl))) e_int))) (b_one (s_set (i := 2) nd rfl (.inl rfl) (x_p (E_op k_mod (E_op k_add (e_var (i := 2) rfl (.inl rfl)) (e_var (i := 1) rfl (.inl rfl))) e_int)))))) (b_one (s_ret (x_p (e_tup (a_cons (e_var (i := 1) rfl (.inl rfl)) (a_cons (e_var (i := 2) rfl (.inl rfl)) a_nil)))))))))
theorem ok__law_sum (I : K.In h) (G : h.Ns mainGlobals mg) (c : SaysN fa fn cn si ow P K) : FnK P w K mg base (Pm K) 1 ("_law_sum" : Str) 1 f__law_sum := by
  obtain ⟨fd, F⟩ := c.def_ 26 (d := d_f__law_sum) rfl
  refine ⟨1, _, fd, ["_law_data"], Nat.le_refl _, fn_sim F sc_f__law_sum rfl fun cdv A outer s H E hr tk hp => ?_, He.glo_ok I G (c.fact 47), F.kp, F.bindsN fun _ _ _ _ _ _ us hl => match us, hl with | [_], _ => rfl⟩
  have hu := hr.units
  have nd := sc_f__law_sum.nd
  exact (b_cons (s_set (i := 1) nd rfl (.inl rfl) (x_p (E_op k_add e_int (E_callB (c_sumA rfl) rfl (He.free_ok I G (c.fact 27)) bt_sum (a_cons (e_var (i := 0) rfl (.inr (.inl rfl))) a_nil))))) (b_cons (s_set (i := 2) nd rfl (.inl rfl) (x_p (E_callB (c_sumA rfl) rfl (He.free_ok I G (c.fact 27)) bt_sum (a_cons (e_fz (l_lc (own := [(("_law_many" : Str), 3)]) rfl nd (i_range2 rfl (He.free_ok I G (c.fact 20)) (a_cons e_int (a_cons (E_op k_add (E_callB (c_len) rfl (He.free_ok I G (c.fact 11)) bt_len (a_cons (e_var (i := 0) rfl (.inr (.inl rfl))) a_nil)) e_int) a_nil))) (by show BlkOk N_f__law_sum (defScope s_f__law_sum) _ _; exact ⟨rfl, by decide +kernel, by decide +kernel, by decide +kernel, by decide +kernel⟩) (by decide) (fun _ _ _ _ _ => (g_name (i := 3) nd rfl (.inl rfl))) (fun _ _ _ _ _ => ts_nil) (fun _ _ _ _ _ => (E_op k_add e_int (E_callB (c_sumA rfl) rfl (He.free_ok I G (c.fact 27)) bt_sum (a_cons (e_sl (e_var (i := 0) rfl (.inr (.inl rfl))) o_none (o_some (e_var (i := 3) rfl (.inl rfl)))) a_nil)))))) a_nil)))) (b_one (s_ret (x_p (e_tup (a_cons (E_op k_mod (e_var (i := 1) rfl (.inl rfl)) e_int) (a_cons (E_op k_mod (e_var (i := 2) rfl (.inl rfl)) e_int) a_nil))))))))
theorem ok__law_numbers_right (I : K.In h) (G : h.Ns mainGlobals mg) (c : SaysN fa fn cn si ow P K) : FnK P w K mg base (Em K) 5 ("_law_numbers_right" : Str) 1 f__law_numbers_right := by
  obtain ⟨fd, F⟩ := c.def_ 27 (d := d_f__law_numbers_right) rfl
  refine ⟨5, _, fd, ["_law_draw"], Nat.le_refl _, fn_sim F sc_f__law_numbers_right rfl fun cdv A outer s H E hr tk hp => ?_, He.glo_ok I G (c.fact 48), F.kp, F.bindsN fun _ _ _ _ _ _ us hl => match us, hl with | [_], _ => rfl⟩
  have hu := hr.units
  have nd := sc_f__law_numbers_right.nd
  exact (b_cons (s_set (i := 1) nd rfl (.inl rfl) (X_op k_add (x_p e_int) (x_fn ((ok__law_take I G c).at (by decide)) hr tk rfl (xa_p (a_cons (e_var (i := 0) rfl (.inr (.inl rfl))) (a_cons e_int a_nil)))))) (b_cons (s_set (i := 2) nd rfl (.inl rfl) (X_callTy (c_tuple) rfl (He.free_ok I G (c.fact 1)) bt_tuple (xa_cons (x_fz (xl_lc (own := [(("_law_at" : Str), 6)]) rfl nd (ix_p (i_range1 rfl (He.free_ok I G (c.fact 20)) (a_cons (e_var (i := 1) rfl (.inl rfl)) a_nil))) (by show BlkOk N_f__law_numbers_right (defScope s_f__law_numbers_right) _ _; exact ⟨rfl, by decide +kernel, by decide +kernel, by decide +kernel, by decide +kernel⟩) (by decide) (fun _ _ _ _ _ => (g_name (i := 6) nd rfl (.inl rfl))) (fun _ _ _ _ _ => tsx_nil) (fun _ _ _ _ _ => (x_fn ((ok__law_take I G c).at (by decide)) hr L2.takes0 rfl (xa_p (a_cons (e_var (i := 0) rfl (.inr (.inl rfl))) (a_cons e_int a_nil))))))) xa_nil))) (b_cons (s_set (i := 3) nd rfl (.inl rfl) (x_p e_int)) (b_cons (s_for hp rfl (i_seq (e_var (i := 2) rfl (.inl rfl))) (g_name (i := 4) nd rfl (.inl rfl)) (b_one (s_set (i := 3) nd rfl (.inl rfl) (x_p (E_op k_add (E_op k_mul e_int (e_var (i := 3) rfl (.inl rfl))) (e_var (i := 4) rfl (.inl rfl))))))) (b_cons (s_if (t_p (t_w (w_or (T_cmp (k_ne hu) (e_fn ((ok_from_number I G c).at (by decide)) hr tk rfl (a_cons (e_var (i := 3) rfl (.inl rfl)) (a_cons (e_var (i := 1) rfl (.inl rfl)) a_nil))) (e_var (i := 2) rfl (.inl rfl))) (w_or (T_cmp (k_ne hu) (e_fn ((ok_to_number I G c).at (by decide)) hr tk rfl (a_cons (e_var (i := 2) rfl (.inl rfl)) a_nil)) (e_var (i := 3) rfl (.inl rfl))) (w_or1 (T_cmp (k_ne hu) (e_fn ((ok_to_number I G c).at (by decide)) hr tk rfl (a_cons (E_op k_add (e_tup (a_cons e_int a_nil)) (e_var (i := 2) rfl (.inl rfl))) a_nil)) (e_var (i := 3) rfl (.inl rfl)))))))) (b_one (s_ret (x_p e_bl))) b_nil) (b_cons (s_set (i := 5) nd rfl (.inl rfl) (x_p (E_op k_add (e_sl (e_var (i := 2) rfl (.inl rfl)) (o_some e_int) o_none) (e_sl (e_var (i := 2) rfl (.inl rfl)) o_none (o_some e_int))))) (b_one (s_ret (x_p (e_and (E_cmp (k_eq hu) (e_fn ((ok_sum_of I G c).at (by decide)) hr tk rfl (a_cons (e_var (i := 2) rfl (.inl rfl)) a_nil)) (e_fn ((ok__law_sum I G c).at (by decide)) hr tk rfl (a_cons (e_var (i := 2) rfl (.inl rfl)) a_nil))) (e_and (E_cmp (k_eq hu) (e_fn ((ok_sum_of I G c).at (by decide)) hr tk rfl (a_cons (e_var (i := 5) rfl (.inl rfl)) a_nil)) (e_fn ((ok__law_sum I G c).at (by decide)) hr tk rfl (a_cons (e_var (i := 5) rfl (.inl rfl)) a_nil))) (e_one (E_cmp (k_eq hu) (e_fn ((ok_sum_of I G c).at (by decide)) hr tk rfl (a_cons (e_tup a_nil) a_nil)) (e_tup (a_cons e_int (a_cons e_int a_nil))))))))))))))))
theorem ok__law_value (I : K.In h) (G : h.Ns mainGlobals mg) (c : SaysN fa fn cn si ow P K) : FnK P w K mg base (Em K) 4 ("_law_value" : Str) 2 f__law_value := by
  obtain ⟨fd, F⟩ := c.def_ 28 (d := d_f__law_value) rfl
  refine ⟨4, _, fd, ["_law_draw", "_law_kind"], Nat.le_refl _, fn_sim F sc_f__law_value rfl fun cdv A outer s H E hr tk hp => ?_, He.glo_ok I G (c.fact 49), F.kp, F.bindsN fun _ _ _ _ _ _ us hl => match us, hl with | [_, _], _ => rfl⟩
  have hu := hr.units
  have nd := sc_f__law_value.nd
  exact (b_cons (s_if (TX_cmp (k_eq hu) (x_fn ((ok__law_take I G c).at (by decide)) hr tk rfl (xa_p (a_cons (e_var (i := 0) rfl (.inl rfl)) (a_cons e_int a_nil)))) (x_p e_int)) (b_one (s_ret (x_p e_non))) b_nil) (b_cons (s_if (t_p (T_cmp (k_eq hu) (e_var (i := 1) rfl (.inl rfl)) e_str)) (b_one (s_ret (x_fn ((ok__law_text I G c).at (by decide)) hr tk rfl (xa_cons (x_p (e_var (i := 0) rfl (.inl rfl))) (xa_cons (x_if (TX_cmp (k_eq hu) (x_fn ((ok__law_take I G c).at (by decide)) hr tk rfl (xa_p (a_cons (e_var (i := 0) rfl (.inl rfl)) (a_cons e_int a_nil)))) (x_p e_int)) (x_p e_int) (x_p e_int)) xa_nil))))) b_nil) (b_one (s_ret (x_fn ((ok__law_pick I G c).at (by decide)) hr tk rfl (xa_cons (x_p (e_var (i := 0) rfl (.inl rfl))) (xa_cons (x_lst (xa_cons (x_fn ((ok__law_take I G c).at (by decide)) hr tk rfl (xa_p (a_cons (e_var (i := 0) rfl (.inl rfl)) (a_cons e_int a_nil)))) (xa_cons (X_op k_sub (x_fn ((ok__law_take I G c).at (by decide)) hr tk rfl (xa_p (a_cons (e_var (i := 0) rfl (.inl rfl)) (a_cons e_int a_nil)))) (x_p e_int)) (xa_cons (x_p (E_neg e_int)) (xa_cons (x_p e_int) (xa_cons (x_p (E_neg e_int)) (xa_cons (x_p e_int) (xa_cons (x_p e_int) xa_nil)))))))) xa_nil)))))))
theorem ok_encode_key (I : K.In h) (G : h.Ns mainGlobals mg) (c : SaysN fa fn cn si ow P K) : FnK P w K mg base (Pm K) 2 ("encode_key" : Str) 1 f_encode_key := by
  obtain ⟨fd, F⟩ := c.def_ 29 (d := d_f_encode_key) rfl
  refine ⟨2, _, fd, ["value"], Nat.le_refl _, fn_sim F sc_f_encode_key rfl fun cdv A outer s H E hr tk hp => ?_, He.glo_ok I G (c.fact 52), F.kp, F.bindsN fun _ _ _ _ _ _ us hl => match us, hl with | [_], _ => rfl⟩
  have hu := hr.units
  have nd := sc_f_encode_key.nd
  exact (b_cons (s_if (t_p (T_cmp k_is (e_var (i := 0) rfl (.inl rfl)) e_non)) (b_one (s_ret (x_p (e_tup (a_cons (e_con rfl (con_int (He.int_ok I G (c.fact 22)))) a_nil))))) b_nil) (b_cons (s_if (t_p (t_val (e_fn ((ok_is_number I G c).at (by decide)) hr tk rfl (a_cons (e_var (i := 0) rfl (.inl rfl)) (a_cons (e_con rfl (con_int (He.int_ok I G (c.fact 15)))) (a_cons (e_con rfl (con_int (He.int_ok I G (c.fact 16)))) a_nil)))))) (b_one (s_ret (x_p (e_tup (a_cons (e_con rfl (con_int (He.int_ok I G (c.fact 23)))) (a_star (e_fn ((ok_bytes_of I G c).at (by decide)) hr tk rfl (a_cons (E_op k_sub (e_var (i := 0) rfl (.inl rfl)) (e_con rfl (con_int (He.int_ok I G (c.fact 15))))) (a_cons e_int a_nil))) a_nil)))))) b_nil) (b_cons (s_if (t_p (t_val (e_fn ((ok_is_text I G c).at (by decide)) hr tk rfl (a_cons (e_var (i := 0) rfl (.inl rfl)) a_nil)))) (b_one (s_ret (x_p (e_tup (a_cons (e_con rfl (con_int (He.int_ok I G (c.fact 24)))) (a_star (e_fz (l_lc (own := [(("letter" : Str), 1)]) rfl nd (i_seq (e_var (i := 0) rfl (.inl rfl))) (by show BlkOk N_f_encode_key (defScope s_f_encode_key) _ _; exact ⟨rfl, by decide +kernel, by decide +kernel, by decide +kernel, by decide +kernel⟩) (by decide) (fun _ _ _ _ _ => (g_name (i := 1) nd rfl (.inl rfl))) (fun _ _ _ _ _ => ts_nil) (fun _ _ _ _ _ => (E_op k_add (e_el (e_indexL (units2 hr) (e_con rfl (con_str (He.str_ok I G (c.fact 13)))) (a_cons (e_var (i := 1) rfl (.inl rfl)) a_nil)) (e_indexS (e_con rfl (con_str (He.str_ok I G (c.fact 13)))) (a_cons (e_var (i := 1) rfl (.inl rfl)) a_nil))) e_int)))) a_nil)))))) b_nil) (b_one (s_raise rfl tk (ek_BadKey I G c) rfl)))))
theorem ok__law_key (I : K.In h) (G : h.Ns mainGlobals mg) (c : SaysN fa fn cn si ow P K) : FnK P w K mg base (Pm K) 3 ("_law_key" : Str) 1 f__law_key := by
  obtain ⟨fd, F⟩ := c.def_ 30 (d := d_f__law_key) rfl
  refine ⟨3, _, fd, ["_law_value_here"], Nat.le_refl _, fn_sim F sc_f__law_key rfl fun cdv A outer s H E hr tk hp => ?_, He.glo_ok I G (c.fact 53), F.kp, F.bindsN fun _ _ _ _ _ _ us hl => match us, hl with | [_], _ => rfl⟩
  have hu := hr.units
  have nd := sc_f__law_key.nd
  exact (b_cons (s_set (i := 1) nd rfl (.inl rfl) (x_p (e_fn ((ok__law_value_bytes I G c).at (by decide)) hr tk rfl (a_cons (e_var (i := 0) rfl (.inl rfl)) a_nil)))) (b_one (s_ret (x_p (e_if (t_val (e_isi (k := .str) bt_str rfl (He.free_ok I G (c.fact 0)) rfl (He.free_ok I G (c.fact 2)) (e_var (i := 0) rfl (.inl rfl)))) (E_op k_add (e_sl (e_var (i := 1) rfl (.inl rfl)) o_none (o_some e_int)) (e_sl (e_var (i := 1) rfl (.inl rfl)) (o_some e_int) o_none)) (e_var (i := 1) rfl (.inl rfl)))))))
theorem ok_decode_key (I : K.In h) (G : h.Ns mainGlobals mg) (c : SaysN fa fn cn si ow P K) : FnK P w K mg base (Pm K) 4 ("decode_key" : Str) 1 f_decode_key := by
  obtain ⟨fd, F⟩ := c.def_ 31 (d := d_f_decode_key) rfl
  refine ⟨4, _, fd, ["data"], Nat.le_refl _, fn_sim F sc_f_decode_key rfl fun cdv A outer s H E hr tk hp => ?_, He.glo_ok I G (c.fact 54), F.kp, F.bindsN fun _ _ _ _ _ _ us hl => match us, hl with | [_], _ => rfl⟩
  have hu := hr.units
  have nd := sc_f_decode_key.nd
  exact (b_cons (s_expr (x_p (e_fn ((ok_check_bytes I G c).at (by decide)) hr tk rfl (a_cons (e_var (i := 0) rfl (.inl rfl)) a_nil)))) (b_cons (s_if (t_p (T_cmp (k_eq hu) (e_var (i := 0) rfl (.inl rfl)) (e_tup (a_cons (e_con rfl (con_int (He.int_ok I G (c.fact 22)))) a_nil)))) (b_one (s_ret (x_p e_non))) b_nil) (b_cons (s_if (t_p (t_w (w_and (T_cmp (k_eq hu) (e_sl (e_var (i := 0) rfl (.inl rfl)) o_none (o_some e_int)) (e_tup (a_cons (e_con rfl (con_int (He.int_ok I G (c.fact 23)))) a_nil))) (w_and1 (T_cmp (k_eq hu) (E_callB (c_len) rfl (He.free_ok I G (c.fact 11)) bt_len (a_cons (e_var (i := 0) rfl (.inl rfl)) a_nil)) e_int))))) (b_one (s_ret (x_p (E_op k_add (e_fn ((ok_number_of I G c).at (by decide)) hr tk rfl (a_cons (e_sl (e_var (i := 0) rfl (.inl rfl)) (o_some e_int) o_none) a_nil)) (e_con rfl (con_int (He.int_ok I G (c.fact 15)))))))) b_nil) (b_cons (s_if (t_p (t_w (w_and (T_cmp (k_eq hu) (e_sl (e_var (i := 0) rfl (.inl rfl)) o_none (o_some e_int)) (e_tup (a_cons (e_con rfl (con_int (He.int_ok I G (c.fact 24)))) a_nil))) (w_and1 (T_cmp (k_le hu) (E_callB (c_len) rfl (He.free_ok I G (c.fact 11)) bt_len (a_cons (e_var (i := 0) rfl (.inl rfl)) a_nil)) (E_op k_add e_int (e_con rfl (con_int (He.int_ok I G (c.fact 12)))))))))) (b_one (s_ret (x_p (e_fn ((ok_letters_in I G c).at (by decide)) hr tk rfl (a_cons (e_sl (e_var (i := 0) rfl (.inl rfl)) (o_some e_int) o_none) a_nil))))) b_nil) (b_one (s_raise rfl tk (ek_BadBytes I G c) rfl))))))
theorem ok__law_rank (I : K.In h) (G : h.Ns mainGlobals mg) (c : SaysN fa fn cn si ow P K) : FnK P w K mg base (Pm K) 1 ("_law_rank" : Str) 1 f__law_rank := by
  obtain ⟨fd, F⟩ := c.def_ 32 (d := d_f__law_rank) rfl
  refine ⟨1, _, fd, ["_law_value_here"], Nat.le_refl _, fn_sim F sc_f__law_rank rfl fun cdv A outer s H E hr tk hp => ?_, He.glo_ok I G (c.fact 55), F.kp, F.bindsN fun _ _ _ _ _ _ us hl => match us, hl with | [_], _ => rfl⟩
  have hu := hr.units
  have nd := sc_f__law_rank.nd
  exact (b_one (s_ret (x_p (e_if (T_cmp k_is (e_var (i := 0) rfl (.inl rfl)) e_non) (e_tup (a_cons e_int (a_cons e_int (a_cons e_str a_nil)))) (e_if (t_val (e_isi (k := .int) bt_int rfl (He.free_ok I G (c.fact 0)) rfl (He.free_ok I G (c.fact 8)) (e_var (i := 0) rfl (.inl rfl)))) (e_tup (a_cons e_int (a_cons (e_var (i := 0) rfl (.inl rfl)) (a_cons e_str a_nil)))) (e_tup (a_cons e_int (a_cons e_int (a_cons (e_var (i := 0) rfl (.inl rfl)) a_nil)))))))))
theorem ok_law (I : K.In h) (G : h.Ns mainGlobals mg) (c : SaysN fa fn cn si ow P K) : ∃ fd : FuncData, (∀ (s : Shared) (v : Value), BindsTo s fd ⟨[v], []⟩ [(("_law_script" : Str), v)]) ∧ ∀ base : Heap, FnOk P w K mg base CX0 6 (He.ga K "law") fd ["_law_script"] (spM (Em K) 1 (law0 (fBody 12 b_f_law))) := by
  obtain ⟨fd, F⟩ := c.def_ 33 (d := d_f_law) rfl
  refine ⟨fd, fun s v => F.bindsA (ps := ["_law_script"]) (fun _ _ _ _ _ _ us hl => match us, hl with | [_], _ => rfl) s [v] rfl, fun base => fn_sim0 (md := Em K) F sc_f_law rfl fun cdv A outer s H E hr tk hp => ?_⟩
  have hu := hr.units
  have nd := sc_f_law.nd
  exact (b_cons (s_set (i := 1) nd rfl (.inr rfl) (x_share (xl_p (l_lst (a_cons (e_var (i := 0) rfl (.inl rfl)) (a_cons e_int a_nil)))))) (b_cons (s_for hp rfl (i_range1 rfl (He.free_ok I G (c.fact 20)) (a_cons e_int a_nil)) (g_name (i := 2) nd rfl (.inl rfl)) (b_cons (s_set (i := 3) nd rfl (.inr rfl) (X_callTy (c_tuple) rfl (He.free_ok I G (c.fact 1)) bt_tuple (xa_cons (x_fz (xl_lc (own := [(("_law_column" : Str), 10)]) rfl nd (ix_range1 rfl (He.free_ok I G (c.fact 20)) (xa_cons (X_op k_add (x_p e_int) (x_fn ((ok__law_take I G c).at (by decide)) hr tk rfl (xa_p (a_cons (e_var (i := 1) rfl (.inr (.inl rfl))) (a_cons e_int a_nil))))) xa_nil)) (by show BlkOk N_f_law (defScope s_f_law) _ _; exact ⟨rfl, by decide +kernel, by decide +kernel, by decide +kernel, by decide +kernel⟩) (by decide) (fun _ _ _ _ _ => (g_name (i := 10) nd rfl (.inl rfl))) (fun _ _ _ _ _ => tsx_nil) (fun _ _ _ _ _ => (x_fn ((ok__law_pick I G c).at (by decide)) hr L2.takes0 rfl (xa_p (a_cons (e_var (i := 1) rfl (.inr (.inl rfl))) (a_cons (e_lst (a_cons e_str (a_cons e_str a_nil))) a_nil))))))) xa_nil))) (b_cons (s_asg (x_fz (xl_lc (own := [(("_law_copy" : Str), 9)]) rfl nd (ix_p (i_range1 rfl (He.free_ok I G (c.fact 20)) (a_cons e_int a_nil))) (by show BlkOk N_f_law (defScope s_f_law) _ _; exact ⟨rfl, by decide +kernel, by decide +kernel, by decide +kernel, by decide +kernel⟩) (by decide) (fun _ _ _ _ _ => (g_name (i := 9) nd rfl (.inl rfl))) (fun _ _ _ _ _ => tsx_nil) (fun _ _ _ _ _ => (X_callTy (c_tuple) rfl (He.free_ok I G (c.fact 1)) bt_tuple (xa_cons (x_fz (xl_lc (own := [(("_law_kind" : Str), 11)]) rfl nd (ix_p (i_seq (e_var (i := 3) rfl (.inr (.inl rfl))))) (by show BlkOk N_f_law (relS _ (defScope s_f_law)) _ _; exact ⟨rfl, by decide +kernel, by decide +kernel, by decide +kernel, by decide +kernel⟩) (by decide) (fun _ _ _ _ _ => (g_name (i := 11) nd rfl (.inl rfl))) (fun _ _ _ _ _ => tsx_nil) (fun _ _ _ _ _ => (x_fn ((ok__law_value I G c).at (by decide)) hr L2.takes0 rfl (xa_p (a_cons (e_var (i := 1) rfl (.inr (.inl rfl))) (a_cons (e_var (i := 11) rfl (.inl rfl)) a_nil))))))) xa_nil))))) (g_lst rfl (gs_cons (g_name (i := 4) nd rfl (.inl rfl)) (gs_cons (g_name (i := 5) nd rfl (.inl rfl)) gs_nil)))) (b_cons (s_set (i := 6) nd rfl (.inl rfl) (x_p (e_fn ((ok_encode_row I G c).at (by decide)) hr tk rfl (a_cons (e_var (i := 3) rfl (.inr (.inl rfl))) (a_cons (e_var (i := 4) rfl (.inl rfl)) a_nil))))) (b_cons (s_if (t_p (t_w (w_or (T_cmp (k_ne hu) (e_var (i := 6) rfl (.inl rfl)) (e_fn ((ok__law_row_bytes I G c).at (by decide)) hr tk rfl (a_cons (e_var (i := 4) rfl (.inl rfl)) a_nil))) (w_or1 (T_cmp (k_ne hu) (e_fn ((ok_decode_row I G c).at (by decide)) hr tk rfl (a_cons (e_var (i := 3) rfl (.inr (.inl rfl))) (a_cons (e_var (i := 6) rfl (.inl rfl)) a_nil))) (e_var (i := 4) rfl (.inl rfl))))))) (b_one (s_ret (x_p e_bl))) b_nil) (b_cons (s_if (t_p (T_cmp (k_ne hu) (E_cmp (k_eq hu) (e_fn ((ok_encode_row I G c).at (by decide)) hr tk rfl (a_cons (e_var (i := 3) rfl (.inr (.inl rfl))) (a_cons (e_var (i := 5) rfl (.inl rfl)) a_nil))) (e_var (i := 6) rfl (.inl rfl))) (E_cmp (k_eq hu) (e_var (i := 5) rfl (.inl rfl)) (e_var (i := 4) rfl (.inl rfl))))) (b_one (s_ret (x_p e_bl))) b_nil) (b_cons (s_for hp rfl (i_zip rfl (He.free_ok I G (c.fact 56)) (a_cons (e_var (i := 4) rfl (.inl rfl)) (a_cons (e_var (i := 5) rfl (.inl rfl)) a_nil))) (g_tup rfl (gs_cons (g_name (i := 7) nd rfl (.inl rfl)) (gs_cons (g_name (i := 8) nd rfl (.inl rfl)) gs_nil))) (b_cons (s_if (t_p (t_w (w_or (T_cmp (k_ne hu) (e_fn ((ok_encode_key I G c).at (by decide)) hr tk rfl (a_cons (e_var (i := 7) rfl (.inl rfl)) a_nil)) (e_fn ((ok__law_key I G c).at (by decide)) hr tk rfl (a_cons (e_var (i := 7) rfl (.inl rfl)) a_nil))) (w_or1 (T_cmp (k_ne hu) (e_fn ((ok_decode_key I G c).at (by decide)) hr tk rfl (a_cons (e_fn ((ok__law_key I G c).at (by decide)) hr tk rfl (a_cons (e_var (i := 7) rfl (.inl rfl)) a_nil)) a_nil)) (e_var (i := 7) rfl (.inl rfl))))))) (b_one (s_ret (x_p e_bl))) b_nil) (b_one (s_if (t_p (T_cmp (k_ne hu) (E_cmp (k_lt hu) (e_fn ((ok_encode_key I G c).at (by decide)) hr tk rfl (a_cons (e_var (i := 7) rfl (.inl rfl)) a_nil)) (e_fn ((ok_encode_key I G c).at (by decide)) hr tk rfl (a_cons (e_var (i := 8) rfl (.inl rfl)) a_nil))) (E_cmp (k_lt hu) (e_fn ((ok__law_rank I G c).at (by decide)) hr tk rfl (a_cons (e_var (i := 7) rfl (.inl rfl)) a_nil)) (e_fn ((ok__law_rank I G c).at (by decide)) hr tk rfl (a_cons (e_var (i := 8) rfl (.inl rfl)) a_nil))))) (b_one (s_ret (x_p e_bl))) b_nil)))) (b_cons (s_par2 (i := 7) (j := 8) rfl nd rfl rfl (by decide) rfl rfl (f_x (x_fn ((ok__law_text I G c).at (by decide)) hr tk rfl (xa_p (a_cons (e_var (i := 1) rfl (.inr (.inl rfl))) (a_cons e_int a_nil))))) (f_x (x_fn ((ok__law_pick I G c).at (by decide)) hr tk rfl (xa_p (a_cons (e_var (i := 1) rfl (.inr (.inl rfl))) (a_cons (e_lst (a_cons e_int (a_cons (E_neg e_int) (a_cons e_int (a_cons e_non (a_cons e_str (a_cons e_str a_nil))))))) a_nil)))))) (b_one (s_if (tx_w (wx_or (t_p (T_cmp (k_ne hu) (E_cmp (k_le hu) (e_fn ((ok_encode_key I G c).at (by decide)) hr tk rfl (a_cons (e_var (i := 7) rfl (.inl rfl)) a_nil)) (e_fn ((ok_encode_key I G c).at (by decide)) hr tk rfl (a_cons (e_var (i := 8) rfl (.inl rfl)) a_nil))) (E_cmp (k_le hu) (e_fn ((ok__law_rank I G c).at (by decide)) hr tk rfl (a_cons (e_var (i := 7) rfl (.inl rfl)) a_nil)) (e_fn ((ok__law_rank I G c).at (by decide)) hr tk rfl (a_cons (e_var (i := 8) rfl (.inl rfl)) a_nil))))) (wx_or1 (tx_not (tx_val (x_fn ((ok__law_numbers_right I G c).at (by decide)) hr tk rfl (xa_p (a_cons (e_var (i := 1) rfl (.inr (.inl rfl))) a_nil)))))))) (b_one (s_ret (x_p e_bl))) b_nil)))))))))) (b_one (s_ret (x_p e_bl)))))
end
end K01

end
section
set_option Elab.async false
set_option linter.all false
set_option maxRecDepth 100000
set_option maxHeartbeats 0
namespace K01
open PySem PySem.Spec L2 L3
abbrev R : PySem.W.OpenRow := PySem.W.OpenLaw.row PySem.Challenge.rw_tidebase_k01_whole_rows
abbrev hk : PySem.W.Hook := L3.hookM 5 fa fn cn si ow
def ob (s : PySem.W.SharedT) : L3.AlM := L3.obsMG 5 fa fn cn si ow (HandSHeadRun.getT s)
theorem ob_eq (s : PySem.W.SharedT) : ob s = hk.obs s.abs := L3.obsMG_eq (HandSHeadRun.getT_eq s)
def loose : List Str := [("TideError" : Str), ("BadBytes" : Str), ("BadNumber" : Str), ("BadValue" : Str), ("BadKey" : Str), ("LEAST_NUMBER" : Str), ("MOST_NUMBER" : Str), ("MOST_LETTERS" : Str), ("LETTERS" : Str), ("KINDS" : Str), ("NONE_TAG" : Str), ("NUMBER_TAG" : Str)] ++ [("TEXT_TAG" : Str), ("is_number" : Str), ("check_number" : Str), ("are_bytes" : Str), ("check_bytes" : Str), ("from_number" : Str), ("bytes_of" : Str), ("to_number" : Str), ("number_of" : Str), ("sum_of" : Str), ("is_text" : Str), ("is_value" : Str)] ++ [("are_kinds" : Str), ("check_kinds" : Str), ("check_row" : Str), ("value_bytes" : Str), ("encode_row" : Str), ("letters_in" : Str), ("read_value" : Str), ("decode_row" : Str), ("encode_key" : Str), ("decode_key" : Str), ("_law_number" : Str), ("_law_take" : Str)] ++ [("_law_pick" : Str), ("_law_text" : Str), ("_law_value" : Str), ("_law_two" : Str), ("_law_value_bytes" : Str), ("_law_key" : Str), ("_law_row_bytes" : Str), ("_law_rank" : Str), ("_law_sum" : Str), ("_law_numbers_right" : Str)]
theorem run (w : World) : HandSHeadRun.RunEq R (PySem.W.view R.prog [49]) hk ob 30000 loose w := by
  intro os
  kernel_rfl
end K01
open PySem PySem.W PySem.Calls PyProof.Rows
theorem K01.holds (LAW : ∀ ns : List Int, ns.length ≤ 63 → ∃ S, L3.law0 (L3.fBody 12 K01.b_f_law) [.kl (ns.map .int)] [] = some (.ok (.bl true), S)) : PySem.Challenge.rw_tidebase_k01_whole_rows.Holds := by
  w_on; o_law
  refine HandSHeadRun.head_any (r := OpenLaw.row PySem.Challenge.rw_tidebase_k01_whole_rows) (q := view (OpenLaw.row PySem.Challenge.rw_tidebase_k01_whole_rows).prog [49]) (H := K01.hk) (ob := K01.ob) (M := 30000) (loose := K01.loose) (d := HandSHeadRun.topDef (OpenLaw.row PySem.Challenge.rw_tidebase_k01_whole_rows).prog 49) (kwd := []) K01.ob_eq
    (by kernel_rfl) (fun s => by kernel_rfl) K01.run (by kernel_rfl) (by kernel_rfl) (by kernel_rfl) (by rfl) (by first | assumption | decide +kernel) (by decide +kernel) ⟨rfl, rfl, rfl, rfl, rfl, by decide +kernel⟩ ?hw ?hc
  case hw => w_witness2
  case hc =>
    refine L2.walk_ofE (l := PySem.Challenge.rw_tidebase_k01_whole_rows) (n := 63) (k := 6) (x := "_law_script") (CX := L2.CX0) rfl (by decide) (by kernel_rfl) ⟨rfl, by decide, by decide⟩ ?F (fun _ _ _ _ z => z)
    intro w mg fa h Y G hmg0
    obtain ⟨K, KX, c0⟩ := Y
    have c : L3.SaysN K01.fa K01.fn K01.cn K01.si K01.ow (PySem.Challenge.rw_tidebase_k01_whole_rows).prog K := ⟨c0, by kernel_rfl, by kernel_rfl⟩
    have hmg : mg ("law" : PySem.Str) = some (.ref fa) := by
      have e : (HandSHeadRun.topDef (OpenLaw.row PySem.Challenge.rw_tidebase_k01_whole_rows).prog 49).name = ("law" : PySem.Str) := by kernel_rfl
      rw [← e]
      exact hmg0
    obtain ⟨fd, hb, hF⟩ := K01.ok_law (P := (PySem.Challenge.rw_tidebase_k01_whole_rows).prog) (w := w) KX G c
    have e := hmg.symm.trans (He.glo_ok KX G (c.fact 57))
    cases e
    exact ⟨K, fd, _, KX, hb, fun H a ns hl hO hS => (LAW ns hl).elim fun S h => L3.script_sp hS hO h, fun base _ _ => hF base⟩

end
section
set_option Elab.async false
set_option linter.all false
set_option maxRecDepth 100000
set_option maxHeartbeats 1000000
namespace K01
open PySem L3
set_option autoImplicit false
theorem is_number_ok (a lo hi : Int) (S : Store) (h1 : lo ≤ a) (h2 : a ≤ hi) : f_is_number [.int a, .int lo, .int hi] S = some (.ok (.bl true), S) := by
  simp [f_is_number, b_f_is_number, fBody, sRet, xThen, xP, xAnd, xIsi, xVar, xNot, xChain, isKd, mb, mo, oLe, oE, oLeI, oI0, h1, h2, fz]
theorem is_number_no (a lo hi : Int) (S : Store) (h : ¬ (lo ≤ a ∧ a ≤ hi)) : f_is_number [.int a, .int lo, .int hi] S = some (.ok (.bl false), S) := by
  by_cases h1 : lo ≤ a
  · have h2 : ¬ a ≤ hi := fun z => h ⟨h1, z⟩
    simp [f_is_number, b_f_is_number, fBody, sRet, xThen, xP, xAnd, xIsi, xVar, xNot, xChain, isKd, mb, mo, oLe, oE, oLeI, oI0, h1, h2, fz]
  · simp [f_is_number, b_f_is_number, fBody, sRet, xThen, xP, xAnd, xIsi, xVar, xNot, xChain, isKd, mb, mo, oLe, oE, oLeI, oI0, h1, fz]
theorem bytes_of_2 (n : Int) (S : Store) : f_bytes_of [.int n, .int 2] S = some (.ok (.tup [.int (n / 256 % 256), .int (n % 256)]), S) := rfl
theorem number_of_2 (a b : Int) (S : Store) : f_number_of [.tup [.int a, .int b]] S = some (.ok (.int (a * 256 + b)), S) := by
  have m : ∀ i : Int, oMul (.int i) (.int 256) = some (.int (i * 256)) := fun i => oMul_int _ _ (cMul_r _ _ (by decide) (by decide))
  simp [f_number_of, b_f_number_of, fBody, sSeq, sAsg, sFor, sLoop, sRet, iSeq, itemsOf, gN, xThen, xP, xVar, xC, xOp, mb, mo, oAdd_int, m, fz]
theorem number_ok (ns : List Int) (hl : ns.length ≤ 63) (c : Int) (S : Store) : ∃ v : Int, f__law_number [.kl (ns.map .int), .int c] S = some (.ok (.int v), S) := by
  obtain ⟨cs, hc1, hc2, hc3⟩ : ∃ cs : List Int, 0 < cs.length ∧ cs.length ≤ 63 ∧ sAsg (gN 2) (xP (xIf (bT (xOp oNe (xVar 0) (xLst aNil))) (xSl (xVar 0) oNone (oSome (xC (.int 63)))) (xLst (aCons (xC (.int 5)) aNil)))) [some (.kl (ns.map .int)), some (.int c), none, none, none, none, none, none] S = some (.nx [some (.kl (ns.map .int)), some (.int c), some (.lst (cs.map .int)), none, none, none, none, none], S) := by
    have e : oNe (.kl (ns.map .int)) (.lst []) = some (.bl (!decide (ns = []))) := oNe_lists (lsI_kl ns) (lsI_lst [])
    by_cases h : ns = []
    · subst h
      exact ⟨[5], by decide, by decide, rfl⟩
    · refine ⟨ns, List.length_pos_iff.mpr h, hl, ?_⟩
      have e2 : slP none (some 63) (.kl (ns.map .int)) = some (.lst (ns.map .int)) := by
        show some (PV.lst (cutP (ns.map PV.int) none (some ((63 : Nat) : Int)))) = _
        rw [cutP_all _ 63 (by simpa using hl)]
      simp [sAsg, xThen, xP, xIf, bT, xOp, xVar, xLst, aNil, aCons, xC, xSl, oNone, oSome, mb, mo, e, h, e2, gN, fz]
  have b0 : ∀ i : Int, 0 ≤ i % (cs.length : Int) := fun i => Int.emod_nonneg _ (by omega)
  have b1 : ∀ i : Int, i % (cs.length : Int) < cs.length := fun i => Int.emod_lt_of_pos _ (by omega)
  have k1 : oMod (.int c) (.int cs.length) = some (.int (c % cs.length)) := oMod_int _ _ (by omega)
  have k2 : oFdiv (.int c) (.int cs.length) = some (.int (c / cs.length)) := oFdiv_int _ _ (by omega) (by omega)
  have k3 := oIxA_lst cs (c % cs.length) (b0 c) (b1 c)
  have s1 := bSum_map cs
  have ml : ∀ (k i : Int), -two64 < k → k < two64 → oMul (.int k) (.int i) = some (.int (k * i)) := fun k i h1 h2 => oMul_int _ _ (cMul_l _ _ h1 h2)
  have mr : ∀ (k i : Int), -two64 < k → k < two64 → oMul (.int i) (.int k) = some (.int (i * k)) := fun k i h1 h2 => oMul_int _ _ (cMul_r _ _ h1 h2)
  -- the cell
  obtain ⟨cell, h3⟩ : ∃ cell : Int, xOp oAdd (xOp oIxA (xVar 2) (xOp oMod (xCall bInt (aCons (xVar 1) aNil)) (xCall bLenA (aCons (xVar 2) aNil)))) (xOp oMul (xC (.int 13)) (xOp oFdiv (xVar 1) (xCall bLenA (aCons (xVar 2) aNil)))) [some (.kl (ns.map .int)), some (.int c), some (.lst (cs.map .int)), none, none, none, none, none] S = some (.ok (.int cell)) := by
    have lv : xCall bLenA (aCons (xVar 2) aNil) [some (.kl (ns.map .int)), some (.int c), some (.lst (cs.map .int)), none, none, none, none, none] S = some (.ok (.int cs.length)) := by
      rw [xCall_ok (aCons_ok (m := xVar 2) (n := aNil) rfl rfl), bLenA_lst, List.length_map]; rfl
    refine ⟨_, (xOp_ok ((xOp_ok (m := xVar 2) rfl ((xOp_ok (m := xCall bInt (aCons (xVar 1) aNil)) rfl lv).trans (congrArg mo k1))).trans (congrArg mo k3)) ((xOp_ok (m := xC (.int 13)) rfl ((xOp_ok (m := xVar 1) rfl lv).trans (congrArg mo k2))).trans (congrArg mo (ml 13 _ (by decide) (by decide))))).trans (congrArg mo (oAdd_int _ _))⟩
  -- its parts
  obtain ⟨lo, hi, h4⟩ : ∃ lo hi : Int, sPar2 4 5 (fX (xP (xOp oMod (xCall bInt (aCons (xVar 3) aNil)) (xC (.int 1000003))))) (fX (xP (xOp oMod (xCall bInt (aCons (xOp oFdiv (xVar 3) (xC (.int 1000003))) aNil)) (xC (.int 999983))))) [some (.kl (ns.map .int)), some (.int c), some (.lst (cs.map .int)), some (.int cell), none, none, none, none] S = some (.nx [some (.kl (ns.map .int)), some (.int c), some (.lst (cs.map .int)), some (.int cell), some (.int lo), some (.int hi), none, none], S) := ⟨_, _, rfl⟩
  obtain ⟨tot, h5⟩ : ∃ tot : Int, xOp oMod (xCall bInt (aCons (xCall bSum (aCons (xVar 2) aNil)) aNil)) (xC (.int 65521)) [some (.kl (ns.map .int)), some (.int c), some (.lst (cs.map .int)), some (.int cell), some (.int lo), some (.int hi), none, none] S = some (.ok (.int tot)) := by
    have e1 := (xCall_ok (op := bSum) (aCons_ok (m := xVar 2) (n := aNil) (ρ := [some (.kl (ns.map .int)), some (.int c), some (.lst (cs.map .int)), some (.int cell), some (.int lo), some (.int hi), none, none]) (S := S) rfl rfl)).trans (congrArg mo s1)
    exact ⟨_, xOp_ok (xCall_ok (op := bInt) (aCons_ok e1 (n := aNil) rfl)) (n := xC (.int 65521)) rfl⟩
  obtain ⟨bl, hb0, hb1, h6⟩ : ∃ bl : Int, 0 ≤ bl ∧ bl < 2147483647 ∧ xOp oMod (xCall bInt (aCons (xOp oAdd (xOp oAdd (xOp oMul (xOp oAdd (xVar 4) (xOp oMul (xC (.int 977)) (xVar 1))) (xC (.int 48271))) (xOp oMul (xC (.int 31)) (xVar 5))) (xVar 6)) aNil)) (xC (.int 2147483647)) [some (.kl (ns.map .int)), some (.int c), some (.lst (cs.map .int)), some (.int cell), some (.int lo), some (.int hi), some (.int tot), none] S = some (.ok (.int bl)) := by
    refine ⟨_, ?_, ?_, (xOp_ok (xCall_ok (op := bInt) (aCons_ok ((xOp_ok ((xOp_ok ((xOp_ok ((xOp_ok (m := xVar 4) rfl ((xOp_ok (m := xC (.int 977)) (n := xVar 1) rfl rfl).trans (congrArg mo (ml 977 _ (by decide) (by decide))))).trans (congrArg mo (oAdd_int _ _))) (n := xC (.int 48271)) rfl).trans (congrArg mo (mr 48271 _ (by decide) (by decide)))) ((xOp_ok (m := xC (.int 31)) (n := xVar 5) rfl rfl).trans (congrArg mo (ml 31 _ (by decide) (by decide))))).trans (congrArg mo (oAdd_int _ _))) (n := xVar 6) rfl).trans (congrArg mo (oAdd_int _ _))) (n := aNil) rfl)) (n := xC (.int 2147483647)) rfl).trans (congrArg mo (oMod_int _ _ (by decide)))⟩
    · exact Int.emod_nonneg _ (by decide)
    · exact Int.emod_lt_of_pos _ (by decide)
  obtain ⟨v, h7⟩ : ∃ v : Int, xOp oAdd (xOp oMul (xOp oMod (xCall bInt (aCons (xOp oMul (xVar 7) (xOp oAdd (xOp oAdd (xVar 7) (xOp oMul (xC (.int 31)) (xVar 1))) (xC (.int 7)))) aNil)) (xC (.int 2147483629))) (xC (.int 65537))) (xVar 5) [some (.kl (ns.map .int)), some (.int c), some (.lst (cs.map .int)), some (.int cell), some (.int lo), some (.int hi), some (.int tot), some (.int bl)] S = some (.ok (.int v)) := by
    refine ⟨_, (xOp_ok ((xOp_ok ((xOp_ok (xCall_ok (op := bInt) (aCons_ok ((xOp_ok (m := xVar 7) rfl ((xOp_ok ((xOp_ok (m := xVar 7) rfl ((xOp_ok (m := xC (.int 31)) (n := xVar 1) rfl rfl).trans (congrArg mo (ml 31 _ (by decide) (by decide))))).trans (congrArg mo (oAdd_int _ _))) (n := xC (.int 7)) rfl).trans (congrArg mo (oAdd_int _ _)))).trans (congrArg mo (ml bl _ (by unfold two64; omega) (by unfold two64; omega)))) (n := aNil) rfl)) (n := xC (.int 2147483629)) rfl).trans (congrArg mo (oMod_int _ _ (by decide)))) (n := xC (.int 65537)) rfl).trans (congrArg mo (mr 65537 _ (by decide) (by decide)))) (n := xVar 5) rfl).trans (congrArg mo (oAdd_int _ _))⟩
  exact ⟨v, fn_rt ((sSeq_nx hc3).trans ((sSeq_nx (sAsg_ok (i := 3) (xP_ok h3) rfl)).trans ((sSeq_nx h4).trans ((sSeq_nx (sAsg_ok (i := 6) (xP_ok h5) rfl)).trans ((sSeq_nx (sAsg_ok (i := 7) (xP_ok h6) rfl)).trans (sRet_ok (xP_ok h7) rfl))))))⟩
open L2
theorem go_bytes (p : Option PV) (S : Store) : ∀ ns : List Int, (∀ n ∈ ns, 0 ≤ n ∧ n ≤ 255) → lcGo (gN 1) yYes (xFn f_is_number 3 (aCons (xVar 1) (aCons (xC (.int 0)) (aCons (xC (.int 255)) aNil)))) [p, none] S (ns.map .int) = some (ns.map fun _ => .bl true)
  | [], _ => rfl
  | n :: r, h => by
    have ih := go_bytes p S r fun x hx => h x (List.mem_cons_of_mem _ hx)
    obtain ⟨h1, h2⟩ := h n List.mem_cons_self
    have e : xFn f_is_number 3 (aCons (xVar 1) (aCons (xC (.int 0)) (aCons (xC (.int 255)) aNil))) [p, some (.int n)] S = some (.ok (.bl true)) := xFn_ok (thr3 rfl rfl rfl) rfl (is_number_ok n 0 255 S h1 h2)
    rw [List.map_cons]
    unfold lcGo
    have e' : xFn f_is_number 3 (aCons (xVar 1) (aCons (xC (.int 0)) (aCons (xC (.int 255)) aNil))) ([p, none].set 1 (some (.int n))) S = some (.ok (.bl true)) := e
    simp only [gN, yYes, e', ih, fz, if_true, Option.map_some, List.map_cons]
theorem blsOf_true : ∀ ns : List Int, blsOf (ns.map fun _ => PV.bl true) = some (ns.map fun _ => true)
  | [] => rfl
  | n :: r => by rw [List.map_cons]; unfold blsOf; rw [blsOf_true r]; rfl
theorem bAll_true (ns : List Int) : bAll [.lst (ns.map fun _ => .bl true)] = some (.bl true) := by
  show (blsOf (ns.map fun _ => PV.bl true)).bind (fun ns => some (PV.bl (ns.all id))) = _
  rw [blsOf_true]
  show some (PV.bl ((ns.map fun _ => true).all id)) = _
  have : (ns.map fun _ => true).all id = true := by rw [List.all_eq_true]; intro x hx; obtain ⟨_, _, rfl⟩ := List.mem_map.mp hx; rfl
  rw [this]
theorem are_bytes_ok (ns : List Int) (h : ∀ n ∈ ns, 0 ≤ n ∧ n ≤ 255) (hl : ns.length ≤ most) (S : Store) : f_are_bytes [.tup (ns.map .int)] S = some (.ok (.bl true), S) := by
  have e1 : lLc (iSeq (xVar 0)) (gN 1) yYes (xFn f_is_number 3 (aCons (xVar 1) (aCons (xC (.int 0)) (aCons (xC (.int 255)) aNil)))) [1] [some (.tup (ns.map .int)), none] S = some (.ok (ns.map fun _ => .bl true)) := by
    show (if decide ((ns.map PV.int).length ≤ most) then mo (lcGo (gN 1) yYes _ [some (.tup (ns.map .int)), none] S (ns.map .int)) else none) = _
    rw [if_pos (decide_eq_true (by rw [List.length_map]; exact hl)), go_bytes _ S ns h]
    rfl
  have e2 := xCall_is (one1 (xFz_ok e1)) (bAll_true ns)
  exact fn_rt (sRet_ok (xP_ok ((xAnd_t rfl).trans e2)) rfl)
theorem check_number_ok (n lo hi : Int) (h1 : lo ≤ n) (h2 : n ≤ hi) (S : Store) : f_check_number [.int n, .int lo, .int hi] S = some (.ok .non, S) :=
  fn_nx (sIf_f (tP_ok (yNot_ok (bT_ok (xFn_ok (thr3 rfl rfl rfl) rfl (is_number_ok n lo hi S h1 h2))))))
/-- the store: what is drawn -/
@[reducible] def St (xs : List Int) (c : Int) : Store := [.lst [.kl (xs.map .int), .int c]]
theorem take_ok {xs : List Int} {c : Int} (hx : xs.length ≤ 63) (m : Int) (hm : 0 < m) : ∃ v : Int, (0 ≤ v ∧ v < m) ∧ f__law_take [.ref 0, .int m] (St xs c) = some (.ok (.int v), St xs (c + 1)) := by
  obtain ⟨v, hv⟩ := number_ok xs hx (c + 1) (St xs (c + 1))
  refine ⟨v % m, ⟨Int.emod_nonneg _ (by omega), Int.emod_lt_of_pos _ hm⟩, ?_⟩
  refine fn_rt ((sSeq_nx (S' := St xs (c + 1)) (ρ' := [some (.ref 0), some (.int m)]) rfl).trans (sRet_ok (xP_ok (xOp_is (xCall_is (one1 (xFn_ok (two2 rfl rfl) rfl hv)) (bInt_int v)) rfl (oMod_int v m hm))) rfl))
theorem check_bytes_ok (ns : List Int) (h : ∀ n ∈ ns, 0 ≤ n ∧ n ≤ 255) (hl : ns.length ≤ most) (S : Store) : f_check_bytes [.tup (ns.map .int)] S = some (.ok .non, S) :=
  fn_nx (sIf_f (tP_ok (yNot_ok (bT_ok (xFn_ok (one1 rfl) rfl (are_bytes_ok ns h hl S))))))
end K01

end
section
set_option Elab.async false
set_option linter.all false
set_option maxRecDepth 100000
set_option maxHeartbeats 1000000
namespace L3
theorem oMul_256 (i : Int) : oMul (.int i) (.int 256) = some (.int (i * 256)) := oMul_int _ _ (cMul_r _ _ (by decide) (by decide))
theorem oMul_256l (i : Int) : oMul (.int 256) (.int i) = some (.int (256 * i)) := oMul_int _ _ (cMul_l _ _ (by decide) (by decide))
theorem oMulI_256 (i : Int) : oMulI (.int i) (.int 256) = some (.int (i * 256)) := by simp [oMulI, oI, cMul_r i 256 (by decide) (by decide)]
theorem iSeq_tup {ρ : L3.Env} {S : Store} {m : Ex} {xs : List PV} (h : m ρ S = some (.ok (.tup xs))) : iSeq m ρ S = some (.ok xs) := by unfold iSeq; rw [h]; rfl
theorem sFor_go {ρ : L3.Env} {S : Store} {it : Ar} {tg : Tg} {m : Sm} {xs : List PV} (h : it ρ S = some (.ok xs)) : sFor it tg m ρ S = sLoop tg m xs ρ S := by unfold sFor; rw [h]
theorem sAug_is {ρ : L3.Env} {S : Store} {op : PV → PV → Option PV} {i : Nat} {m : Ex} {x y z : PV} (hi : ρ[i]? = some (some x)) (h : m ρ S = some (.ok y)) (e : op x y = some z) (hz : fz z = true) : sAug op i m ρ S = some (.nx (ρ.set i (some z)), S) := by
  unfold sAug
  simp only [hi, h, e, hz, if_true]
theorem iRange1_is {ρ : L3.Env} {S : Store} {m : Ar} {j : Int} (h : m ρ S = some (.ok [.int j])) (hj : 0 ≤ j ∧ j ≤ 1000000) : iRange1 m ρ S = some (.ok (rngP 0 j.toNat)) := by
  unfold iRange1
  rw [h]
  show (if rOk j = true then _ else _) = _
  have : rOk j = true := by
    unfold rOk
    rw [decide_eq_true (show -two62 ≤ j by unfold two62; omega), decide_eq_true (show j < two62 by unfold two62; omega)]
    rfl
  rw [if_pos this]
theorem iRange2_is {ρ : L3.Env} {S : Store} {m : Ar} {i j : Int} (h : m ρ S = some (.ok [.int i, .int j])) (hi : 0 ≤ i ∧ i ≤ 1000000) (hj : 0 ≤ j ∧ j ≤ 1000000) : iRange2 m ρ S = some (.ok (rngP i (j - i).toNat)) := by
  unfold iRange2
  rw [h]
  show (if (rOk i && rOk j) = true then _ else _) = _
  have k : ∀ j : Int, 0 ≤ j ∧ j ≤ 1000000 → rOk j = true := fun j hj => by
    unfold rOk
    rw [decide_eq_true (show -two62 ≤ j by unfold two62; omega), decide_eq_true (show j < two62 by unfold two62; omega)]
    rfl
  rw [k i hi, k j hj]
  rfl
theorem rng_len (lo : Int) (n : Nat) : (rngP lo n).length = n := by unfold rngP; simp
theorem bLenA_tup (xs : List PV) : bLenA [.tup xs] = some (.int xs.length) := by simp [bLenA, bE, bLen, sqOf]
theorem bSumA_tup (l : List Int) : bSumA [.tup (l.map PV.int)] = some (.int l.sum) := by
  have e : bSum [.tup (l.map PV.int)] = none := rfl
  unfold bSumA bE
  rw [e]
  show (intsOf (l.map PV.int)).map _ = _
  rw [intsOf_map]
  rfl
theorem bSumA_lst (l : List Int) : bSumA [.lst (l.map PV.int)] = some (.int l.sum) := by unfold bSumA bE; rw [bSum_map]
theorem oNe_self_ints (l : List Int) : oNe (.tup (l.map PV.int)) (.tup (l.map PV.int)) = some (.bl false) := by
  simp [oNe, eqvP, isD, isDs_ints, dep, deps_ints, toD, toDs_ints, PySem.PyData.eqv, eqvAll_ints]
theorem oEq_self_ints (l : List Int) : oEq (.tup (l.map PV.int)) (.tup (l.map PV.int)) = some (.bl true) := by
  simp [oEq, eqvP, isD, isDs_ints, dep, deps_ints, toD, toDs_ints, PySem.PyData.eqv, eqvAll_ints]
end L3
namespace K01
open PySem L3 L2
set_option autoImplicit false
/-! ### numbers of bytes -/
def nm (a : Int) : List Int → Int
  | [] => a
  | b :: r => nm (a * 256 + b) r
theorem num_go (p : Option PV) (S : Store) : ∀ (ns : List Int) (a : Int) (e : Option PV), ∃ e', sLoop (gN 2) (sAsg (gN 1) (xP (xOp oAdd (xOp oMul (xVar 1) (xC (.int 256))) (xVar 2)))) (ns.map .int) [p, some (.int a), e] S = some (.nx [p, some (.int (nm a ns)), e'], S)
  | [], a, e => ⟨e, rfl⟩
  | b :: r, a, e => by
    obtain ⟨e', ih⟩ := num_go p S r (a * 256 + b) (some (.int b))
    exact ⟨e', (sLoop_nx (ρ1 := [p, some (.int a), some (.int b)]) rfl (sAsg_ok (i := 1) (xP_ok (xOp_is (xOp_is rfl rfl (oMul_256 a)) rfl (oAdd_int _ _))) rfl)).trans ih⟩
theorem number_of_ok (ns : List Int) (S : Store) : f_number_of [.tup (ns.map .int)] S = some (.ok (.int (nm 0 ns)), S) := by
  obtain ⟨e', h⟩ := num_go (some (.tup (ns.map .int))) S ns 0 none
  exact fn_rt ((sSeq_nx (sAsg_ok (i := 1) (x := .int 0) (xP_ok rfl) rfl)).trans ((sSeq_nx ((sFor_go (iSeq_tup rfl)).trans h)).trans (sRet_ok (xP_ok rfl) rfl)))
theorem to_number_ok (ns : List Int) (h : ∀ n ∈ ns, 0 ≤ n ∧ n ≤ 255) (hl : ns.length ≤ 1000) (S : Store) : f_to_number [.tup (ns.map .int)] S = some (.ok (.int (nm 0 ns)), S) :=
  fn_rt ((sSeq_nx (sExpr_ok (xP_ok (xFn_ok (one1 rfl) rfl (check_bytes_ok ns h (by show _ ≤ 1000000; omega) S))))).trans (sRet_ok (xP_ok (xFn_ok (one1 rfl) rfl (number_of_ok ns S))) rfl))
def vl : List Int → Int
  | [] => 0
  | d :: r => d + 256 * vl r
theorem vl_two (x : List Int) (a b : Int) : vl (x ++ [a * 256 + b]) = vl (x ++ [b, a]) := by
  induction x with
  | nil => show a * 256 + b + 256 * 0 = b + 256 * (a + 256 * 0); omega
  | cons c r ih => show c + 256 * vl (r ++ [a * 256 + b]) = c + 256 * vl (r ++ [b, a]); rw [ih]
theorem vl_zero (x : List Int) : vl (x ++ [0]) = vl x := by
  induction x with
  | nil => rfl
  | cons c r ih => show c + 256 * vl (r ++ [0]) = c + 256 * vl r; rw [ih]
theorem nm_vl : ∀ (l : List Int) (a : Int), nm a l = vl (l.reverse ++ [a])
  | [], a => by show a = a + 256 * 0; omega
  | b :: r, a => by
    show nm (a * 256 + b) r = _
    rw [nm_vl r, vl_two, List.reverse_cons, List.append_assoc]
    rfl
theorem nm_rev (l : List Int) : nm 0 l = vl l.reverse := by rw [nm_vl, vl_zero]
theorem bytes_go (w : Option PV) (S : Store) : ∀ (D found : List Int) (l : List PV) (e : Option PV), (∀ n ∈ D, 0 ≤ n ∧ n ≤ 255) → l.length = D.length → (found ++ D).length ≤ 1000 → ∃ e',
    sLoop (gN 3) (sSeq (sAppend 2 (xOp oMod (xVar 0) (xC (.int 256)))) (sAug oFdiv 0 (xC (.int 256)))) l [some (.int (vl D)), w, some (.ol (found.map .int)), e] S = some (.nx [some (.int 0), w, some (.ol ((found ++ D).map .int)), e'], S)
  | [], found, [], e, _, _, _ => ⟨e, by rw [List.append_nil]; rfl⟩
  | [], found, x :: l, e, _, h, _ => by cases h
  | d :: D, found, [], e, _, h, _ => by cases h
  | d :: D, found, x :: l, e, hb, hl, hn => by
    obtain ⟨b1, b2⟩ := hb d List.mem_cons_self
    obtain ⟨e', ih⟩ := bytes_go w S D (found ++ [d]) l (some x) (fun n hn => hb n (List.mem_cons_of_mem _ hn)) (by simpa using hl) (by simpa using hn)
    have m1 : oMod (.int (vl (d :: D))) (.int 256) = some (.int d) := by
      rw [oMod_int _ _ (by decide)]
      have : vl (d :: D) % 256 = d := by show (d + 256 * vl D) % 256 = d; omega
      rw [this]
    have m2 : oFdiv (.int (vl (d :: D))) (.int 256) = some (.int (vl D)) := by
      rw [oFdiv_int _ _ (by decide) (by decide)]
      have : vl (d :: D) / 256 = vl D := by show (d + 256 * vl D) / 256 = vl D; omega
      rw [this]
    refine ⟨e', (sLoop_nx (ρ1 := [some (.int (vl (d :: D))), w, some (.ol (found.map .int)), some x]) (ρ' := [some (.int (vl D)), w, some (.ol ((found ++ [d]).map .int)), some x]) (S2 := S) rfl ?_).trans (by rw [List.append_assoc] at ih; exact ih)⟩
    have ap := sAppend_is (ρ := [some (.int (vl (d :: D))), w, some (.ol (found.map .int)), some x]) (S := S) (i := 2) (m := xOp oMod (xVar 0) (xC (.int 256))) rfl (xOp_is rfl rfl m1) rfl (by rw [List.length_map]; show _ < 1000000; rw [List.length_append] at hn; omega)
    have au := sAug_is (ρ := [some (.int (vl (d :: D))), w, some (.ol ((found ++ [d]).map .int)), some x]) (S := S) (i := 0) (m := xC (.int 256)) rfl rfl m2 rfl
    refine (sSeq_nx ap).trans ?_
    rw [List.map_append] at au ⊢
    exact au
theorem bytes_of_ok (data : List Int) (hb : ∀ n ∈ data, 0 ≤ n ∧ n ≤ 255) (hl : data.length ≤ 1000) (S : Store) : f_bytes_of [.int (nm 0 data), .int data.length] S = some (.ok (.tup (data.map .int)), S) := by
  obtain ⟨e', h⟩ := bytes_go (some (.int data.length)) S data.reverse [] (rngP 0 data.length) none (fun n hn => hb n (List.mem_reverse.mp hn)) (by rw [rng_len, List.length_reverse]) (by simpa using hl)
  rw [← nm_rev] at h
  have r1 : iRange1 (aCons (xVar 1) aNil) [some (.int (nm 0 data)), some (.int data.length), some (.ol []), none] S = some (.ok (rngP 0 data.length)) := by
    have := iRange1_is (ρ := [some (.int (nm 0 data)), some (.int data.length), some (.ol []), none]) (S := S) (m := aCons (xVar 1) aNil) (j := data.length) rfl ⟨by omega, by omega⟩
    rw [Int.toNat_natCast] at this
    exact this
  have e2 : oRevL (.lst (([] ++ data.reverse).map PV.int)) = some (.lst (data.map .int)) := by
    show some (PV.lst ((([] ++ data.reverse).map PV.int).reverse)) = _
    rw [List.nil_append, ← List.map_reverse, List.reverse_reverse]
  exact fn_rt ((sSeq_nx (ρ' := [some (.int (nm 0 data)), some (.int data.length), some (.ol []), none]) (S' := S) rfl).trans ((sSeq_nx ((sFor_go r1).trans h)).trans (sRet_ok (xP_ok (xCall_is (one1 (xUn_is (x := .lst (([] ++ data.reverse).map PV.int)) rfl e2)) rfl)) rfl)))
def p256 : Nat → Int
  | 0 => 1
  | n + 1 => 256 * p256 n
theorem most_go (p w : Option PV) (S : Store) : ∀ (l : List PV) (a : Int) (e : Option PV), ∃ e', sLoop (gN 3) (sAug oMulI 2 (xC (.int 256))) l [p, w, some (.int a), e] S = some (.nx [p, w, some (.int (a * p256 l.length)), e'], S)
  | [], a, e => ⟨e, by show _ = some (SR.nx [p, w, some (.int (a * 1)), e], S); rw [Int.mul_one]; rfl⟩
  | x :: l, a, e => by
    obtain ⟨e', ih⟩ := most_go p w S l (a * 256) (some x)
    refine ⟨e', (sLoop_nx (ρ1 := [p, w, some (.int a), some x]) rfl (sAug_is (i := 2) rfl rfl (oMulI_256 a) rfl)).trans (ih.trans ?_)⟩
    show _ = some (SR.nx [p, w, some (.int (a * (256 * p256 l.length))), e'], S)
    rw [Int.mul_assoc]
theorem vl_lt : ∀ (D : List Int), (∀ n ∈ D, 0 ≤ n ∧ n ≤ 255) → 0 ≤ vl D ∧ vl D ≤ p256 D.length - 1
  | [], _ => ⟨by decide, by decide⟩
  | d :: D, h => by
    obtain ⟨b1, b2⟩ := h d List.mem_cons_self
    obtain ⟨h1, h2⟩ := vl_lt D fun n hn => h n (List.mem_cons_of_mem _ hn)
    show 0 ≤ d + 256 * vl D ∧ d + 256 * vl D ≤ 256 * p256 D.length - 1
    omega
theorem from_number_ok (data : List Int) (hb : ∀ n ∈ data, 0 ≤ n ∧ n ≤ 255) (h1 : 1 ≤ data.length) (h8 : data.length ≤ 8) (S : Store) : f_from_number [.int (nm 0 data), .int data.length] S = some (.ok (.tup (data.map .int)), S) := by
  obtain ⟨e', h⟩ := most_go (some (.int (nm 0 data))) (some (.int data.length)) S (rngP 0 data.length) 1 none
  have r1 : iRange1 (aCons (xVar 1) aNil) [some (.int (nm 0 data)), some (.int data.length), some (.int 1), none] S = some (.ok (rngP 0 data.length)) := by
    have := iRange1_is (ρ := [some (.int (nm 0 data)), some (.int data.length), some (.int 1), none]) (S := S) (m := aCons (xVar 1) aNil) (j := data.length) rfl ⟨by omega, by omega⟩
    rw [Int.toNat_natCast] at this
    exact this
  have hv := vl_lt data.reverse fun n hn => hb n (List.mem_reverse.mp hn)
  rw [← nm_rev, List.length_reverse] at hv
  rw [rng_len, Int.one_mul] at h
  exact fn_rt ((sSeq_nx (sExpr_ok (xP_ok (xFn_ok (thr3 rfl rfl rfl) rfl (check_number_ok data.length 1 8 (by omega) (by omega) S))))).trans ((sSeq_nx (sAsg_ok (i := 2) (x := .int 1) (xP_ok rfl) rfl)).trans ((sSeq_nx ((sFor_go r1).trans h)).trans
    ((sSeq_nx (sExpr_ok (xP_ok (xFn_ok (thr3 rfl rfl (xOp_is rfl rfl (oSub_int _ 1))) rfl (check_number_ok (nm 0 data) 0 (p256 data.length - 1) hv.1 hv.2 S))))).trans (sRet_ok (xP_ok (xFn_ok (two2 rfl rfl) rfl (bytes_of_ok data hb (by omega) S))) rfl)))))
/-! ### sums -/
def tot (A : Int) : List Int → Int
  | [] => 0
  | d :: r => (A + d) + tot (A + d) r
theorem sum_go (p : Option PV) (S : Store) : ∀ (l : List Int) (A B : Int) (e : Option PV), ∃ e', sLoop (gN 3) (sSeq (sAsg (gN 1) (xP (xOp oMod (xOp oAdd (xVar 1) (xVar 3)) (xC (.int 251))))) (sAsg (gN 2) (xP (xOp oMod (xOp oAdd (xVar 2) (xVar 1)) (xC (.int 251)))))) (l.map .int) [p, some (.int (A % 251)), some (.int (B % 251)), e] S = some (.nx [p, some (.int ((A + l.sum) % 251)), some (.int ((B + tot A l) % 251)), e'], S)
  | [], A, B, e => ⟨e, by rw [List.sum_nil, Int.add_zero]; show _ = some (SR.nx [p, some (.int (A % 251)), some (.int ((B + 0) % 251)), e], S); rw [Int.add_zero]; rfl⟩
  | d :: r, A, B, e => by
    obtain ⟨e', ih⟩ := sum_go p S r (A + d) (B + (A + d)) (some (.int d))
    have m1 : oMod (.int (A % 251 + d)) (.int 251) = some (.int ((A + d) % 251)) := by
      rw [oMod_int _ _ (by decide)]
      have : (A % 251 + d) % 251 = (A + d) % 251 := by omega
      rw [this]
    have m2 : oMod (.int (B % 251 + (A + d) % 251)) (.int 251) = some (.int ((B + (A + d)) % 251)) := by
      rw [oMod_int _ _ (by decide)]
      have : (B % 251 + (A + d) % 251) % 251 = (B + (A + d)) % 251 := by omega
      rw [this]
    refine ⟨e', (sLoop_nx (ρ1 := [p, some (.int (A % 251)), some (.int (B % 251)), some (.int d)]) rfl ((sSeq_nx (sAsg_ok (i := 1) (xP_ok (xOp_is (xOp_is rfl rfl (oAdd_int _ _)) rfl m1)) rfl)).trans (sAsg_ok (i := 2) (xP_ok (xOp_is (xOp_is rfl rfl (oAdd_int _ _)) rfl m2)) rfl))).trans (ih.trans ?_)⟩
    rw [List.sum_cons]
    show _ = some (SR.nx [p, some (.int ((A + (d + r.sum)) % 251)), some (.int ((B + ((A + d) + tot (A + d) r)) % 251)), e'], S)
    rw [Int.add_assoc A d, Int.add_assoc B]
theorem sum_of_ok (l : List Int) (h : ∀ n ∈ l, 0 ≤ n ∧ n ≤ 255) (hl : l.length ≤ 1000) (S : Store) : f_sum_of [.tup (l.map .int)] S = some (.ok (.tup [.int ((1 + l.sum) % 251), .int (tot 1 l % 251)]), S) := by
  obtain ⟨e', k⟩ := sum_go (some (.tup (l.map .int))) S l 1 0 none
  rw [Int.zero_add] at k
  exact fn_rt ((sSeq_nx (sExpr_ok (xP_ok (xFn_ok (one1 rfl) rfl (check_bytes_ok l h (by show _ ≤ 1000000; omega) S))))).trans ((sSeq_nx (ρ' := [some (.tup (l.map .int)), some (.int (1 % 251)), some (.int (0 % 251)), none]) (S' := S) rfl).trans ((sSeq_nx ((sFor_go (iSeq_tup rfl)).trans k)).trans (sRet_ok (xP_ok rfl) rfl))))
theorem tot_sum : ∀ (l : List Int) (A : Int), tot A l = ((List.range l.length).map fun i => A + (l.take (i + 1)).sum).sum
  | [], A => rfl
  | d :: r, A => by
    show (A + d) + tot (A + d) r = _
    rw [tot_sum r (A + d), List.length_cons, List.range_succ_eq_map, List.map_cons, List.sum_cons, List.map_map]
    have e : (fun i => A + (List.take (i + 1) (d :: r)).sum) ∘ Nat.succ = fun i => A + d + (List.take (i + 1) r).sum := by
      funext i
      show A + (d :: List.take (i + 1) r).sum = _
      rw [List.sum_cons, Int.add_assoc]
    rw [e]
    have e0 : A + (List.take (0 + 1) (d :: r)).sum = A + d := by
      show A + ([d] : List Int).sum = _
      simp
    rw [e0]
theorem cut_take (l : List Int) (m : Nat) (h : m ≤ l.length) : slP none (some (m : Int)) (.tup (l.map .int)) = some (.tup ((l.take m).map .int)) := by
  show some (PV.tup (cutP (l.map PV.int) none (some (m : Int)))) = _
  have h1 : HT.sIx (l.map PV.int).length 0 none = 0 := rfl
  have h2 : HT.sIx (l.map PV.int).length (l.map PV.int).length (some (m : Int)) = m := by
    have : ¬ ((m : Int) < 0) := by omega
    simp [HT.sIx, this]
    omega
  unfold cutP
  rw [h1, h2, List.drop_zero, Nat.sub_zero, List.map_take]
theorem lsum_go (l : List Int) (e1 e2 : Option PV) (S : Store) : ∀ js : List Nat, (∀ j ∈ js, j < l.length) → lcGo (gN 3) yYes (xOp oAdd (xC (.int 1)) (xCall bSumA (aCons (xSl (xVar 0) oNone (oSome (xVar 3))) aNil))) [some (.tup (l.map .int)), e1, e2, none] S (js.map fun i : Nat => PV.int (1 + (i : Int))) = some ((js.map fun i => 1 + (l.take (i + 1)).sum).map .int)
  | [], _ => rfl
  | j :: js, h => by
    have ih := lsum_go l e1 e2 S js fun i hi => h i (List.mem_cons_of_mem _ hi)
    have hj := h j List.mem_cons_self
    have c1 := cut_take l (j + 1) (by omega)
    have e : xOp oAdd (xC (.int 1)) (xCall bSumA (aCons (xSl (xVar 0) oNone (oSome (xVar 3))) aNil)) [some (.tup (l.map .int)), e1, e2, some (.int (1 + (j : Int)))] S = some (.ok (.int (1 + (l.take (j + 1)).sum))) := by
      have c2 : slP none (some (1 + (j : Int))) (.tup (l.map .int)) = some (.tup ((l.take (j + 1)).map .int)) := by rw [← c1, show (1 + (j : Int)) = ((j + 1 : Nat) : Int) by omega]
      exact xOp_is rfl (xCall_is (one1 (xSl_ok (x := .tup (l.map .int)) (i := none) (j := some (1 + (j : Int))) rfl rfl rfl c2)) (bSumA_tup _)) (oAdd_int _ _)
    rw [List.map_cons, List.map_cons, List.map_cons]
    unfold lcGo
    have e' : xOp oAdd (xC (.int 1)) (xCall bSumA (aCons (xSl (xVar 0) oNone (oSome (xVar 3))) aNil)) ([some (.tup (l.map .int)), e1, e2, none].set 3 (some (.int (1 + (j : Int))))) S = some (.ok (.int (1 + (l.take (j + 1)).sum))) := e
    simp only [gN, yYes, e', ih, fz, if_true, Option.map_some]
theorem law_sum_ok (l : List Int) (hl : l.length ≤ 1000) (S : Store) : f__law_sum [.tup (l.map .int)] S = some (.ok (.tup [.int ((1 + l.sum) % 251), .int (tot 1 l % 251)]), S) := by
  have e1 : iRange2 (aCons (xC (.int 1)) (aCons (xOp oAdd (xCall bLenA (aCons (xVar 0) aNil)) (xC (.int 1))) aNil)) [some (.tup (l.map .int)), some (.int (1 + l.sum)), none, none] S = some (.ok ((List.range l.length).map fun i : Nat => PV.int (1 + (i : Int)))) := by
    have q := iRange2_is (ρ := [some (.tup (l.map .int)), some (.int (1 + l.sum)), none, none]) (S := S) (m := aCons (xC (.int 1)) (aCons (xOp oAdd (xCall bLenA (aCons (xVar 0) aNil)) (xC (.int 1))) aNil)) (i := 1) (j := (l.length : Int) + 1) (two2 rfl (xOp_is (xCall_is (one1 rfl) (by rw [bLenA_tup, List.length_map])) rfl (oAdd_int _ 1))) (by decide) ⟨by omega, by omega⟩
    rw [q, show ((l.length : Int) + 1 - 1).toNat = l.length by omega]
    rfl
  have e2 : lLc (iRange2 (aCons (xC (.int 1)) (aCons (xOp oAdd (xCall bLenA (aCons (xVar 0) aNil)) (xC (.int 1))) aNil))) (gN 3) yYes (xOp oAdd (xC (.int 1)) (xCall bSumA (aCons (xSl (xVar 0) oNone (oSome (xVar 3))) aNil))) [3] [some (.tup (l.map .int)), some (.int (1 + l.sum)), none, none] S = some (.ok (((List.range l.length).map fun i => 1 + (l.take (i + 1)).sum).map .int)) := by
    unfold lLc
    rw [e1]
    show (if decide (((List.range l.length).map fun i : Nat => PV.int (1 + (i : Int))).length ≤ most) then mo (lcGo _ _ _ [some (.tup (l.map .int)), some (.int (1 + l.sum)), none, none] S _) else none) = _
    rw [if_pos (decide_eq_true (by show _ ≤ 1000000; simp; omega)), lsum_go l _ _ S _ (fun j hj => List.mem_range.mp hj)]
    rfl
  have b1 : xCall bSumA (aCons (xFz (lLc (iRange2 (aCons (xC (.int 1)) (aCons (xOp oAdd (xCall bLenA (aCons (xVar 0) aNil)) (xC (.int 1))) aNil))) (gN 3) yYes (xOp oAdd (xC (.int 1)) (xCall bSumA (aCons (xSl (xVar 0) oNone (oSome (xVar 3))) aNil))) [3])) aNil) [some (.tup (l.map .int)), some (.int (1 + l.sum)), none, none] S = some (.ok (.int (tot 1 l))) := by
    rw [tot_sum]
    exact xCall_is (one1 (xFz_ok e2)) (bSumA_lst _)
  exact fn_rt ((sSeq_nx (sAsg_ok (i := 1) (xP_ok (xOp_is rfl (xCall_is (one1 rfl) (bSumA_tup l)) (oAdd_int 1 l.sum))) rfl)).trans ((sSeq_nx (sAsg_ok (i := 2) (xP_ok b1) rfl)).trans rfl))
end K01

end
section
set_option Elab.async false
set_option linter.all false
set_option maxRecDepth 100000
set_option maxHeartbeats 1000000
namespace L3
theorem lLcX_is {ρ : L3.Env} {S S' S2 : Store} {it : Xa} {tg : Tg} {tt : Tm} {te : Xm} {vs : List Nat} {xs ys : List PV} (h : it ρ S = some (.ok xs, S')) (hl : xs.length ≤ 1000000) (k : lcGoX tg tt te (wipeP ρ vs) xs S' = some (ys, S2)) : lLcX it tg tt te vs ρ S = some (.ok ys, S2) := by
  unfold lLcX
  rw [h]
  show (if decide (xs.length ≤ most) = true then (lcGoX tg tt te (wipeP ρ vs) xs S').map _ else none) = _
  rw [if_pos (decide_eq_true (show xs.length ≤ most from hl)), k]
  rfl
theorem xFzX_is {ρ : L3.Env} {S S' : Store} {m : Xa} {xs : List PV} (h : m ρ S = some (.ok xs, S')) : xFzX m ρ S = some (.ok (.lst xs), S') := by unfold xFzX; rw [h]
theorem xCallX_is {ρ : L3.Env} {S S' : Store} {op : List PV → Option PV} {m : Xa} {xs : List PV} {z : PV} (h : m ρ S = some (.ok xs, S')) (e : op xs = some z) : xCallX op m ρ S = some (.ok z, S') := by unfold xCallX; rw [h]; show (op xs).map _ = _; rw [e]; rfl
theorem iP_ok {ρ : L3.Env} {S : Store} {m : Ar} {xs : List PV} (h : m ρ S = some (.ok xs)) : iP m ρ S = some (.ok xs, S) := by unfold iP; rw [h]; rfl
theorem bTuple_lst (xs : List PV) : bTuple [.lst xs] = some (.tup xs) := rfl
theorem oAdd_tup (a b : List PV) (h : a.length + b.length ≤ 1000000) : oAdd (.tup a) (.tup b) = some (.tup (a ++ b)) := by
  have : decide (a.length + b.length ≤ most) = true := decide_eq_true h
  simp [oAdd, oE, oI0, oSAdd, oTCat, this]
theorem cut_drop (l : List PV) (m : Nat) (h : m ≤ l.length) : slP (some (m : Int)) none (.tup l) = some (.tup (l.drop m)) := by
  show some (PV.tup (cutP l (some (m : Int)) none)) = _
  have h1 : HT.sIx l.length 0 (some (m : Int)) = m := by
    have : ¬ ((m : Int) < 0) := by omega
    simp [HT.sIx, this]
    omega
  have h2 : HT.sIx l.length l.length none = l.length := rfl
  unfold cutP
  rw [h1, h2, List.take_of_length_le (by rw [List.length_drop]; omega)]
theorem cut_takeP (l : List PV) (m : Nat) (h : m ≤ l.length) : slP none (some (m : Int)) (.tup l) = some (.tup (l.take m)) := by
  show some (PV.tup (cutP l none (some (m : Int)))) = _
  have h1 : HT.sIx l.length 0 none = 0 := rfl
  have h2 : HT.sIx l.length l.length (some (m : Int)) = m := by
    have : ¬ ((m : Int) < 0) := by omega
    simp [HT.sIx, this]
    omega
  unfold cutP
  rw [h1, h2, List.drop_zero, Nat.sub_zero]
end L3
namespace K01
open PySem L3 L2
set_option autoImplicit false
section
variable {xs : List Int}
def T256 : Xm := xFnX f__law_take 2 (aP (aCons (xVar 0) (aCons (xC (.int 256)) aNil)))
theorem draw_go (hx : xs.length ≤ 63) (e1 e2 e3 e4 e5 : Option PV) : ∀ (l : List PV) (c : Int), ∃ (ds : List Int) (c' : Int), ds.length = l.length ∧ (∀ d ∈ ds, 0 ≤ d ∧ d ≤ 255) ∧
    lcGoX (gN 6) yYesX T256 [some (.ref 0), e1, e2, e3, e4, e5, none] l (St xs c) = some (ds.map .int, St xs c')
  | [], c => ⟨[], c, rfl, (fun d h => by cases h), rfl⟩
  | x :: l, c => by
    obtain ⟨v, ⟨v1, v2⟩, hv⟩ := take_ok (c := c) hx 256 (by decide)
    obtain ⟨ds, c', h1, h2, ih⟩ := draw_go hx e1 e2 e3 e4 e5 l (c + 1)
    refine ⟨v :: ds, c', by simp [h1], ?_, ?_⟩
    · intro d hd
      rcases List.mem_cons.mp hd with rfl | hd
      · exact ⟨v1, by omega⟩
      · exact h2 d hd
    · have e : T256 ([some (.ref 0), e1, e2, e3, e4, e5, none].set 6 (some x)) (St xs c) = some (.ok (.int v), St xs (c + 1)) := (xFnX_ok (aP_ok (two2 rfl rfl) rfl) rfl).trans hv
      unfold lcGoX
      simp only [gN, yYesX, e, ih, fz, if_true, Option.map_some, List.map_cons]
theorem whole_go (p q w : Option PV) (e5 e6 : Option PV) (S : Store) : ∀ (ns : List Int) (a : Int) (e : Option PV), ∃ e', sLoop (gN 4) (sAsg (gN 3) (xP (xOp oAdd (xOp oMul (xC (.int 256)) (xVar 3)) (xVar 4)))) (ns.map .int) [p, q, w, some (.int a), e, e5, e6] S = some (.nx [p, q, w, some (.int (nm a ns)), e', e5, e6], S)
  | [], a, e => ⟨e, rfl⟩
  | b :: r, a, e => by
    obtain ⟨e', ih⟩ := whole_go p q w e5 e6 S r (a * 256 + b) (some (.int b))
    rw [Int.mul_comm a 256] at ih
    refine ⟨e', (sLoop_nx (ρ1 := [p, q, w, some (.int a), some (.int b), e5, e6]) rfl (sAsg_ok (i := 3) (xP_ok (xOp_is (xOp_is rfl rfl (oMul_256l a)) rfl (oAdd_int _ _))) rfl)).trans (ih.trans ?_)⟩
    show _ = some (SR.nx [p, q, w, some (.int (nm (a * 256 + b) r)), e', e5, e6], S)
    rw [Int.mul_comm a 256]
theorem nm_zero (l : List Int) : nm 0 (0 :: l) = nm 0 l := rfl
theorem numbers_right_ok (hx : xs.length ≤ 63) (c : Int) : ∃ c', f__law_numbers_right [.ref 0] (St xs c) = some (.ok (.bl true), St xs c') := by
  obtain ⟨v, ⟨v1, v2⟩, hv⟩ := take_ok (c := c) hx 8 (by decide)
  obtain ⟨ds, c', hl, hb, hd⟩ := draw_go hx (some (.int (1 + v))) none none none none (rngP 0 (1 + v).toNat) (c + 1)
  rw [rng_len] at hl
  have hw : (1 + v) = (ds.length : Int) := by omega
  have h1 : 1 ≤ ds.length := by omega
  have h8 : ds.length ≤ 8 := by omega
  have s0 : sAsg (gN 1) (xOpX oAdd (xP (xC (.int 1))) (xFnX f__law_take 2 (aP (aCons (xVar 0) (aCons (xC (.int 8)) aNil))))) [some (.ref 0), none, none, none, none, none, none] (St xs c) = some (.nx [some (.ref 0), some (.int (1 + v)), none, none, none, none, none], St xs (c + 1)) :=
    sAsg_ok (i := 1) (xOpX_is (xP_ok rfl) rfl ((xFnX_ok (aP_ok (two2 rfl rfl) rfl) rfl).trans hv) (oAdd_int 1 v)) rfl
  have r1 := iRange1_is (ρ := [some (.ref 0), some (.int (1 + v)), none, none, none, none, none]) (S := St xs (c + 1)) (m := aCons (xVar 1) aNil) (j := 1 + v) rfl ⟨by omega, by omega⟩
  have s1 : sAsg (gN 2) (xCallX bTuple (aXCons (xFzX (lLcX (iP (iRange1 (aCons (xVar 1) aNil))) (gN 6) yYesX T256 [6])) aXNil)) [some (.ref 0), some (.int (1 + v)), none, none, none, none, none] (St xs (c + 1)) = some (.nx [some (.ref 0), some (.int (1 + v)), some (.tup (ds.map .int)), none, none, none, none], St xs c') :=
    sAsg_ok (i := 2) (xCallX_is (aXCons_ok (xFzX_is (lLcX_is (iP_ok r1) (by rw [rng_len]; omega) hd)) rfl rfl) (bTuple_lst _)) rfl
  rw [hw] at s1 s0
  obtain ⟨e', s3⟩ := whole_go (some (.ref 0)) (some (.int ds.length)) (some (.tup (ds.map .int))) none none (St xs c') ds 0 none
  have n1 : oNe (.int (nm 0 ds)) (.int (nm 0 ds)) = some (.bl false) := by rw [oNe_int]; simp
  have b0 : ∀ n ∈ (0 :: ds : List Int), 0 ≤ n ∧ n ≤ 255 := fun n hn => by
    rcases List.mem_cons.mp hn with rfl | hn
    · decide
    · exact hb n hn
  have t2 := to_number_ok (0 :: ds) b0 (by rw [List.length_cons]; omega) (St xs c')
  have a0 : oAdd (.tup [.int 0]) (.tup (ds.map .int)) = some (.tup ((0 :: ds).map .int)) := oAdd_tup _ _ (by simp; omega)
  have s4 : sIf (tP (yOr (bT (xOp oNe (xFn f_from_number 2 (aCons (xVar 3) (aCons (xVar 1) aNil))) (xVar 2))) (yOr (bT (xOp oNe (xFn f_to_number 1 (aCons (xVar 2) aNil)) (xVar 3))) (bT (xOp oNe (xFn f_to_number 1 (aCons (xOp oAdd (xTup (aCons (xC (.int 0)) aNil)) (xVar 2)) aNil)) (xVar 3)))))) (sRet (xP (xC (.bl false)))) sNil [some (.ref 0), some (.int ds.length), some (.tup (ds.map .int)), some (.int (nm 0 ds)), e', none, none] (St xs c') = some (.nx [some (.ref 0), some (.int ds.length), some (.tup (ds.map .int)), some (.int (nm 0 ds)), e', none, none], St xs c') := by
    have b1 : bT (xOp oNe (xFn f_from_number 2 (aCons (xVar 3) (aCons (xVar 1) aNil))) (xVar 2)) [some (.ref 0), some (.int ds.length), some (.tup (ds.map .int)), some (.int (nm 0 ds)), e', none, none] (St xs c') = some (.ok false) := bOp (xFn_ok (two2 rfl rfl) rfl (from_number_ok ds hb h1 h8 _)) rfl (oNe_self_ints ds)
    have b2 : bT (xOp oNe (xFn f_to_number 1 (aCons (xVar 2) aNil)) (xVar 3)) [some (.ref 0), some (.int ds.length), some (.tup (ds.map .int)), some (.int (nm 0 ds)), e', none, none] (St xs c') = some (.ok false) := bOp (xFn_ok (one1 rfl) rfl (to_number_ok ds hb (by omega) _)) rfl n1
    have b3 : bT (xOp oNe (xFn f_to_number 1 (aCons (xOp oAdd (xTup (aCons (xC (.int 0)) aNil)) (xVar 2)) aNil)) (xVar 3)) [some (.ref 0), some (.int ds.length), some (.tup (ds.map .int)), some (.int (nm 0 ds)), e', none, none] (St xs c') = some (.ok false) := bOp (xFn_ok (one1 (xOp_is rfl rfl a0)) rfl t2) rfl n1
    exact (sIf_f (tP_ok ((yOr_f b1).trans ((yOr_f b2).trans b3)))).trans rfl
  have c1 := cut_drop (ds.map .int) 1 (by rw [List.length_map]; exact h1)
  have c2 := cut_takeP (ds.map .int) 1 (by rw [List.length_map]; exact h1)
  have late : oAdd (.tup ((ds.map PV.int).drop 1)) (.tup ((ds.map PV.int).take 1)) = some (.tup ((ds.drop 1 ++ ds.take 1).map .int)) := by
    rw [oAdd_tup _ _ (by rw [List.length_drop, List.length_take, List.length_map]; omega), List.map_append, List.map_drop, List.map_take]
  have hb2 : ∀ n ∈ ds.drop 1 ++ ds.take 1, 0 ≤ n ∧ n ≤ 255 := fun n hn => by
    rcases List.mem_append.mp hn with hn | hn
    · exact hb n (List.mem_of_mem_drop hn)
    · exact hb n (List.mem_of_mem_take hn)
  have hl2 : (ds.drop 1 ++ ds.take 1).length ≤ 1000 := by rw [List.length_append, List.length_drop, List.length_take]; omega
  have q1 := oEq_self_ints [(1 + ds.sum) % 251, tot 1 ds % 251]
  have q2 := oEq_self_ints [(1 + (ds.drop 1 ++ ds.take 1).sum) % 251, tot 1 (ds.drop 1 ++ ds.take 1) % 251]
  have s5 := sAsg_ok (i := 5) (ρ := [some (.ref 0), some (.int ds.length), some (.tup (ds.map .int)), some (.int (nm 0 ds)), e', none, none]) (S := St xs c') (xP_ok (m := xOp oAdd (xSl (xVar 2) (oSome (xC (.int 1))) oNone) (xSl (xVar 2) oNone (oSome (xC (.int 1))))) (xOp_is (xSl_ok (x := .tup (ds.map .int)) (i := some 1) (j := none) rfl rfl rfl c1) (xSl_ok (x := .tup (ds.map .int)) (i := none) (j := some 1) rfl rfl rfl c2) late)) rfl
  refine ⟨c', fn_rt ((sSeq_nx s0).trans ((sSeq_nx s1).trans ((sSeq_nx (ρ' := [some (.ref 0), some (.int ds.length), some (.tup (ds.map .int)), some (.int 0), none, none, none]) (S' := St xs c') rfl).trans ((sSeq_nx ((sFor_go (iSeq_tup rfl)).trans s3)).trans ((sSeq_nx s4).trans ((sSeq_nx s5).trans ?_))))))⟩
  have z1 : xOp oEq (xFn f_sum_of 1 (aCons (xVar 2) aNil)) (xFn f__law_sum 1 (aCons (xVar 2) aNil)) [some (.ref 0), some (.int ds.length), some (.tup (ds.map .int)), some (.int (nm 0 ds)), e', some (.tup ((ds.drop 1 ++ ds.take 1).map .int)), none] (St xs c') = some (.ok (.bl true)) := xOp_is (xFn_ok (one1 rfl) rfl (sum_of_ok ds hb (by omega) _)) (xFn_ok (one1 rfl) rfl (law_sum_ok ds (by omega) _)) q1
  have z2 : xOp oEq (xFn f_sum_of 1 (aCons (xVar 5) aNil)) (xFn f__law_sum 1 (aCons (xVar 5) aNil)) [some (.ref 0), some (.int ds.length), some (.tup (ds.map .int)), some (.int (nm 0 ds)), e', some (.tup ((ds.drop 1 ++ ds.take 1).map .int)), none] (St xs c') = some (.ok (.bl true)) := xOp_is (xFn_ok (one1 rfl) rfl (sum_of_ok _ hb2 hl2 _)) (xFn_ok (one1 rfl) rfl (law_sum_ok _ hl2 _)) q2
  have z3 : xOp oEq (xFn f_sum_of 1 (aCons (xTup aNil) aNil)) (xTup (aCons (xC (.int 1)) (aCons (xC (.int 0)) aNil))) [some (.ref 0), some (.int ds.length), some (.tup (ds.map .int)), some (.int (nm 0 ds)), e', some (.tup ((ds.drop 1 ++ ds.take 1).map .int)), none] (St xs c') = some (.ok (.bl true)) := by
    have q3 : oEq (.tup [.int ((1 + ([] : List Int).sum) % 251), .int (tot 1 [] % 251)]) (.tup [.int 1, .int 0]) = some (.bl true) := by rfl
    exact xOp_is (xFn_ok (one1 (x := .tup []) rfl) rfl (sum_of_ok [] (fun n h => by cases h) (by decide) _)) rfl q3
  exact sRet_ok (xP_ok ((xAnd_t z1).trans ((xAnd_t z2).trans z3))) rfl
end
end K01

end
section
set_option Elab.async false
set_option linter.all false
set_option maxRecDepth 100000
set_option maxHeartbeats 1000000
namespace K01
open PySem L3 L2
set_option autoImplicit false
/-! ### texts of letters -/
abbrev LET : Str := ("abcdefghijklmnopqrstuvwxyz" : Str)
def T (l : List Nat) : Str := ⟨(l.map (· + 97)).toArray⟩
def L1 (l : List Nat) : List Int := l.map fun (i : Nat) => ((i : Int) + 1 : Int)
structure OkL (l : List Nat) : Prop where
  lt : ∀ i ∈ l, i < 26
  ln : l.length ≤ 12
theorem LET_cps : LET.cps.toList = (List.range 26).map (· + 97) := by decide +kernel
theorem LET_len : LET.length = 26 := by decide +kernel
theorem T_len (l : List Nat) : (T l).length = l.length := by simp [T, Str.length]
theorem signs_T (l : List Nat) : signs (T l) = l.map fun i => PV.str (T [i]) := by
  unfold signs T
  rw [List.toList_toArray, List.map_map]
  rfl
theorem T_app (a b : List Nat) : T a ++ T b = T (a ++ b) := by
  show Str.mk ((a.map (· + 97)).toArray ++ (b.map (· + 97)).toArray) = _
  unfold T
  rw [List.map_append, List.append_toArray]
theorem T_inj {a b : List Nat} : T a = T b ↔ a = b := by
  constructor
  · intro h
    have h1 : (a.map (· + 97)).toArray = (b.map (· + 97)).toArray := congrArg Str.cps h
    have h2 : a.map (· + 97) = b.map (· + 97) := by simpa using h1
    exact (List.map_inj_right (fun x y h => by omega)).mp h2
  · rintro rfl; rfl
theorem occ : ∀ i : Fin 26, Builtin.Str.occurrences LET (T [i.val]) 0 LET.length 1 = [i.val] := by decide +kernel
theorem in_LET (i : Nat) (h : i < 26) : oInA (.str (T [i])) (.str LET) = some (.bl true) := by
  have e : inO (.str (T [i])) (.str LET) = some true := by
    show some (decide (i + 97 ∈ LET.cps.toList)) = _
    rw [LET_cps, decide_eq_true (List.mem_map_of_mem (List.mem_range.mpr h))]
  simp [oInA, oE, oIn, e]
theorem idx_LET (i : Nat) (h : i < 26) : mIdxS (.str LET) [.str (T [i])] = some (.int i) := by
  show (match Builtin.Str.occurrences LET (T [i]) 0 LET.length 1 with | i :: _ => some (PV.int (i : Nat)) | [] => none) = _
  rw [occ ⟨i, h⟩]
theorem at_LET (i : Nat) (h : i < 26) : oIxA (.str LET) (.int (i : Int)) = some (.str (T [i])) := by
  have e : oIx (.str LET) (.int (i : Int)) = some (.str (T [i])) := by
    show (if decide (LET.length ≤ most) then (atI LET.cps.toList (i : Int)).map fun c => PV.str ⟨#[c]⟩ else none) = _
    have a : atI LET.cps.toList (i : Int) = some (i + 97) := by
      rw [LET_cps]
      have h0 : ixN ((List.range 26).map (· + 97)).length (i : Int) = some i := by
        unfold ixN
        simp
        omega
      unfold atI
      rw [h0]
      simp [h]
    rw [LET_len, a]
    rfl
  simp [oIxA, oE, e]
abbrev xIdx : Ex := eEl (xMt isLs mIdxL (xC (.str LET)) (aCons (xVar 1) aNil)) (xMt isSt mIdxS (xC (.str LET)) (aCons (xVar 1) aNil))
theorem idx_go (p : Option PV) (S : Store) : ∀ l : List Nat, (∀ i ∈ l, i < 26) → lcGo (gN 1) yYes (xOp oAdd xIdx (xC (.int 1))) [p, none] S (l.map fun i => PV.str (T [i])) = some ((L1 l).map .int)
  | [], _ => rfl
  | i :: l, h => by
    have ih := idx_go p S l fun j hj => h j (List.mem_cons_of_mem _ hj)
    have e0 : xIdx [p, some (.str (T [i]))] S = some (.ok (.int i)) := by
      show mo (mIdxS (.str LET) [.str (T [i])]) = _
      rw [idx_LET i (h i List.mem_cons_self)]
      rfl
    have e : xOp oAdd xIdx (xC (.int 1)) [p, some (.str (T [i]))] S = some (.ok (.int ((i : Int) + 1))) := xOp_is e0 rfl (oAdd_int _ 1)
    have e' : xOp oAdd xIdx (xC (.int 1)) ([p, none].set 1 (some (.str (T [i])))) S = some (.ok (.int ((i : Int) + 1))) := e
    rw [List.map_cons]
    unfold lcGo
    simp only [gN, yYes, e', ih, fz, if_true, Option.map_some]
    rfl
theorem idx_all (l : List Nat) (h : OkL l) (S : Store) : lLc (iSeq (xVar 0)) (gN 1) yYes (xOp oAdd xIdx (xC (.int 1))) [1] [some (.str (T l)), none] S = some (.ok ((L1 l).map .int)) := by
  have e : iSeq (xVar 0) [some (.str (T l)), none] S = some (.ok (l.map fun i => PV.str (T [i]))) := by
    show mo (some (signs (T l))) = _
    rw [signs_T]
    rfl
  unfold lLc
  rw [e]
  show (if decide ((l.map fun i => PV.str (T [i])).length ≤ most) then mo (lcGo _ _ _ [some (.str (T l)), none] S _) else none) = _
  rw [if_pos (decide_eq_true (by rw [List.length_map]; show _ ≤ 1000000; have := h.ln; omega)), idx_go _ S l h.lt]
  rfl
theorem bLenA_T (l : List Nat) (h : OkL l) : bLenA [.str (T l)] = some (.int l.length) := by
  have e : bLen [.str (T l)] = some (.int l.length) := by
    show (if decide ((T l).length ≤ most) then some (PV.int (T l).length) else none) = _
    rw [T_len, if_pos (decide_eq_true (by show _ ≤ 1000000; have := h.ln; omega))]
  unfold bLenA bE
  rw [e]
theorem in_go (p : Option PV) (S : Store) : ∀ l : List Nat, (∀ i ∈ l, i < 26) → lcGo (gN 1) yYes (xOp oInA (xVar 1) (xC (.str LET))) [p, none] S (l.map fun i => PV.str (T [i])) = some ((L1 l).map fun _ => .bl true)
  | [], _ => rfl
  | i :: l, h => by
    have ih := in_go p S l fun j hj => h j (List.mem_cons_of_mem _ hj)
    have e : xOp oInA (xVar 1) (xC (.str LET)) ([p, none].set 1 (some (.str (T [i])))) S = some (.ok (.bl true)) := xOp_is rfl rfl (in_LET i (h i List.mem_cons_self))
    rw [List.map_cons]
    unfold lcGo
    simp only [gN, yYes, e, ih, fz, if_true, Option.map_some]
    rfl
theorem is_text_ok (l : List Nat) (h : OkL l) (S : Store) : f_is_text [.str (T l)] S = some (.ok (.bl true), S) := by
  have e : iSeq (xVar 0) [some (.str (T l)), none] S = some (.ok (l.map fun i => PV.str (T [i]))) := by
    show mo (some (signs (T l))) = _
    rw [signs_T]
    rfl
  have e1 : lLc (iSeq (xVar 0)) (gN 1) yYes (xOp oInA (xVar 1) (xC (.str LET))) [1] [some (.str (T l)), none] S = some (.ok ((L1 l).map fun _ => .bl true)) := by
    unfold lLc
    rw [e]
    show (if decide ((l.map fun i => PV.str (T [i])).length ≤ most) then mo (lcGo _ _ _ [some (.str (T l)), none] S _) else none) = _
    rw [if_pos (decide_eq_true (by rw [List.length_map]; show _ ≤ 1000000; have := h.ln; omega)), in_go _ S l h.lt]
    rfl
  have e2 : oLe (.int (l.length : Int)) (.int 12) = some (.bl true) := by rw [oLe_int, decide_eq_true (by have := h.ln; omega)]
  exact fn_rt (sRet_ok (xP_ok ((xAnd_t (m := xIsi .str (xVar 0)) rfl).trans ((xAnd_t (xOp_is (xCall_is (one1 rfl) (bLenA_T l h)) rfl e2)).trans (xCall_is (one1 (xFz_ok e1)) (bAll_true (L1 l)))))) rfl)
/-! back from the bytes -/
theorem in26_go (p : Option PV) (S : Store) : ∀ l : List Nat, (∀ i ∈ l, i < 26) → lcGo (gN 1) yYes (xChain oLe oLe (xC (.int 1)) (xVar 1) (xCall bLenA (aCons (xC (.str LET)) aNil))) [p, none] S ((L1 l).map .int) = some ((L1 l).map fun _ => .bl true)
  | [], _ => rfl
  | i :: l, h => by
    have ih := in26_go p S l fun j hj => h j (List.mem_cons_of_mem _ hj)
    have hi := h i List.mem_cons_self
    have b : bLenA [.str LET] = some (.int 26) := by
      have e : bLen [.str LET] = some (.int 26) := by
        show (if decide (LET.length ≤ most) then some (PV.int LET.length) else none) = _
        rw [LET_len]
        rfl
      unfold bLenA bE
      rw [e]
    have e1 : oLe (.int 1) (.int ((i : Int) + 1)) = some (.bl true) := by rw [oLe_int, decide_eq_true (by omega)]
    have e2 : oLe (.int ((i : Int) + 1)) (.int 26) = some (.bl true) := by rw [oLe_int, decide_eq_true (by omega)]
    have e3 : xCall bLenA (aCons (xC (.str LET)) aNil) ([p, none].set 1 (some (.int ((i : Int) + 1)))) S = some (.ok (.int 26)) := xCall_is (one1 rfl) b
    have e : xChain oLe oLe (xC (.int 1)) (xVar 1) (xCall bLenA (aCons (xC (.str LET)) aNil)) ([p, none].set 1 (some (.int ((i : Int) + 1)))) S = some (.ok (.bl true)) := by
      show (match oLe (.int 1) (.int ((i : Int) + 1)) with | some (.bl true) => mb (xCall bLenA (aCons (xC (.str LET)) aNil) ([p, none].set 1 (some (.int ((i : Int) + 1)))) S) fun z => mo (oLe (.int ((i : Int) + 1)) z) | some (.bl false) => some (Res.ok (PV.bl false)) | _ => none) = _
      rw [e1]
      show mb (xCall bLenA (aCons (xC (.str LET)) aNil) ([p, none].set 1 (some (.int ((i : Int) + 1)))) S) (fun z => mo (oLe (.int ((i : Int) + 1)) z)) = _
      rw [e3]
      show mo (oLe (.int ((i : Int) + 1)) (.int 26)) = _
      rw [e2]
      rfl
    show lcGo _ _ _ _ _ (PV.int ((i : Int) + 1) :: (L1 l).map .int) = _
    unfold lcGo
    simp only [gN, yYes, e, ih, fz, if_true, Option.map_some]
    rfl
theorem let_go (p : Option PV) (S : Store) : ∀ l : List Nat, (∀ i ∈ l, i < 26) → lcGo (gN 1) yYes (xOp oIxA (xC (.str LET)) (xOp oSub (xVar 1) (xC (.int 1)))) [p, none] S ((L1 l).map .int) = some (l.map fun i => PV.str (T [i]))
  | [], _ => rfl
  | i :: l, h => by
    have ih := let_go p S l fun j hj => h j (List.mem_cons_of_mem _ hj)
    have hi := h i List.mem_cons_self
    have e1 : oSub (.int ((i : Int) + 1)) (.int 1) = some (.int (i : Int)) := by rw [oSub_int, show (i : Int) + 1 - 1 = i by omega]
    have e : xOp oIxA (xC (.str LET)) (xOp oSub (xVar 1) (xC (.int 1))) ([p, none].set 1 (some (.int ((i : Int) + 1)))) S = some (.ok (.str (T [i]))) := xOp_is rfl (xOp_is rfl rfl e1) (at_LET i hi)
    show lcGo _ _ _ _ _ (PV.int ((i : Int) + 1) :: (L1 l).map .int) = _
    unfold lcGo
    simp only [gN, yYes, e, ih, fz, if_true, Option.map_some]
    rfl
theorem strsOf_T : ∀ l : List Nat, strsOf (l.map fun i => PV.str (T [i])) = some (l.map fun i => T [i])
  | [] => rfl
  | i :: l => by rw [List.map_cons, List.map_cons]; unfold strsOf; rw [strsOf_T l]; rfl
theorem joinL_one : ∀ l : List Nat, TL.joinL [] (l.map fun i => [i + 97]) = l.map (· + 97)
  | [] => rfl
  | [i] => rfl
  | i :: j :: l => by
    have := joinL_one (j :: l)
    rw [List.map_cons, List.map_cons]
    show [i + 97] ++ ([] ++ TL.joinL [] ((j :: l).map fun i => [i + 97])) = _
    rw [this]
    rfl
theorem join_T (l : List Nat) (h : OkL l) : mJoin (.str ("" : Str)) [.lst (l.map fun i => PV.str (T [i]))] = some (.str (T l)) := by
  have e : Txt.join ("" : Str) (l.map fun i => T [i]) = T l := by
    have := SX.join_S [] (l.map fun i => [i + 97])
    rw [List.map_map, joinL_one] at this
    exact this
  have sm : ∀ l : List Nat, ((l.map fun i => T [i]).map (·.length)).sum = l.length := by
    intro l
    induction l with
    | nil => rfl
    | cons a r ih => rw [List.map_cons, List.map_cons, List.sum_cons, ih, T_len]; simp; omega
  show (match strsOf (l.map fun i => PV.str (T [i])) with | some ys => (if decide ((ys.map fun z => Str.length z).sum + ys.length * Str.length ("" : Str) ≤ 16777216) then some (PV.str (Txt.join ("" : Str) ys)) else none) | none => none) = _
  rw [strsOf_T]
  show (if decide (((l.map fun i => T [i]).map (·.length)).sum + (l.map fun i => T [i]).length * Str.length ("" : Str) ≤ 16777216) then some (PV.str (Txt.join ("" : Str) (l.map fun i => T [i]))) else none) = _
  rw [sm, e, if_pos (decide_eq_true (by have := h.ln; have : Str.length ("" : Str) = 0 := rfl; rw [this]; omega))]
theorem letters_in_ok (l : List Nat) (h : OkL l) (S : Store) : f_letters_in [.tup ((L1 l).map .int)] S = some (.ok (.str (T l)), S) := by
  have ln : ((L1 l).map PV.int).length ≤ most := by unfold L1; rw [List.length_map, List.length_map]; show _ ≤ 1000000; have := h.ln; omega
  have e1 : lLc (iSeq (xVar 0)) (gN 1) yYes (xChain oLe oLe (xC (.int 1)) (xVar 1) (xCall bLenA (aCons (xC (.str LET)) aNil))) [1] [some (.tup ((L1 l).map .int)), none] S = some (.ok ((L1 l).map fun _ => .bl true)) := by
    show (if decide (((L1 l).map PV.int).length ≤ most) then mo (lcGo _ _ _ [some (.tup ((L1 l).map .int)), none] S ((L1 l).map .int)) else none) = _
    rw [if_pos (decide_eq_true ln), in26_go _ S l h.lt]
    rfl
  have e2 : lLc (iSeq (xVar 0)) (gN 1) yYes (xOp oIxA (xC (.str LET)) (xOp oSub (xVar 1) (xC (.int 1)))) [1] [some (.tup ((L1 l).map .int)), none] S = some (.ok (l.map fun i => PV.str (T [i]))) := by
    show (if decide (((L1 l).map PV.int).length ≤ most) then mo (lcGo _ _ _ [some (.tup ((L1 l).map .int)), none] S ((L1 l).map .int)) else none) = _
    rw [if_pos (decide_eq_true ln), let_go _ S l h.lt]
    rfl
  have e3 : xMt isSt mJoin (xC (.str ("" : Str))) (aCons (xFz (lLc (iSeq (xVar 0)) (gN 1) yYes (xOp oIxA (xC (.str LET)) (xOp oSub (xVar 1) (xC (.int 1)))) [1])) aNil) [some (.tup ((L1 l).map .int)), none] S = some (.ok (.str (T l))) := by
    unfold xMt
    show mb (aCons _ aNil [some (.tup ((L1 l).map .int)), none] S) (fun xs => mo (mJoin (.str ("" : Str)) xs)) = _
    rw [one1 (xFz_ok e2)]
    show mo (mJoin _ _) = _
    rw [join_T l h]
    rfl
  exact fn_rt ((sSeq_nx (ρ' := [some (.tup ((L1 l).map .int)), none]) (S' := S) ((sIf_f (tP_ok (yNot_ok (b := true) (bT_ok (xCall_is (one1 (xFz_ok e1)) (bAll_true (L1 l))))))).trans rfl)).trans (sRet_ok (xP_ok e3) rfl))
end K01

end
section
set_option Elab.async false
set_option linter.all false
set_option maxRecDepth 100000
set_option maxHeartbeats 1000000
namespace L3
theorem xIf_is_t {ρ : L3.Env} {S : Store} {t : Te} {m n : Ex} (h : t ρ S = some (.ok true)) : xIf t m n ρ S = m ρ S := xIf_t h
theorem aStar_tup {ρ : L3.Env} {S : Store} {m : Ex} {n : Ar} {ys xs : List PV} (h : m ρ S = some (.ok (.tup ys))) (k : n ρ S = some (.ok xs)) : aStar m n ρ S = some (.ok (ys ++ xs)) := by unfold aStar; rw [h]; simp only [mb, k]
theorem xTup_is {ρ : L3.Env} {S : Store} {m : Ar} {xs : List PV} (h : m ρ S = some (.ok xs)) (hf : (xs.all fz && decide (xs.length ≤ most)) = true) : xTup m ρ S = some (.ok (.tup xs)) := by unfold xTup; rw [h]; simp only [mb, hf, if_true]
theorem all_fz_ints (l : List Int) : (l.map PV.int).all fz = true := by rw [List.all_eq_true]; intro x hx; obtain ⟨_, _, rfl⟩ := List.mem_map.mp hx; rfl
theorem sExtend_tup {ρ : L3.Env} {S : Store} {i : Nat} {m : Ex} {xs ys : List PV} (hi : ρ[i]? = some (some (.ol xs))) (h : m ρ S = some (.ok (.tup ys))) (hl : xs.length + ys.length ≤ 1000000) : sExtend i m ρ S = some (.nx (ρ.set i (some (.ol (xs ++ ys)))), S) := by
  unfold sExtend
  have : decide (xs.length + ys.length ≤ most) = true := decide_eq_true hl
  simp only [hi, h, this, if_true]
end L3
namespace K01
open PySem L3 L2
set_option autoImplicit false
inductive Vl where
  | no | nu (n : Int) | tx (l : List Nat)
  deriving DecidableEq
def Vl.pv : Vl → PV
  | .no => .non
  | .nu n => .int n
  | .tx l => .str (T l)
def Vl.ok : Vl → Prop
  | .no => True
  | .nu n => -32768 ≤ n ∧ n ≤ 32767
  | .tx l => OkL l
def Vl.kd (b : Bool) : Vl → Prop
  | .no => True
  | .nu _ => b = false
  | .tx _ => b = true
def two (n : Int) : List Int := [(n - -32768) / 256 % 256, (n - -32768) % 256]
def Vl.by : Vl → List Int
  | .no => [0]
  | .nu n => 1 :: two n
  | .tx l => 2 :: (l.length : Int) :: L1 l
def Vl.key : Vl → List Int
  | .no => [0]
  | .nu n => 1 :: two n
  | .tx l => 2 :: L1 l
def kS (b : Bool) : Str := if b then ("text" : Str) else ("number" : Str)
theorem fz_pv (v : Vl) : fz v.pv = true := by cases v <;> rfl
theorem L1_len (l : List Nat) : (L1 l).length = l.length := by unfold L1; simp
theorem by_len (v : Vl) (h : v.ok) : v.by.length ≤ 14 := by
  cases v with
  | no => decide
  | nu n => show 3 ≤ 14; decide
  | tx l => have := h.ln; show (L1 l).length + 1 + 1 ≤ 14; rw [L1_len]; omega
theorem tup_ints {ρ : L3.Env} {S : Store} {m : Ar} (l : List Int) (hl : l.length ≤ 1000) (h : m ρ S = some (.ok (l.map .int))) : xTup m ρ S = some (.ok (.tup (l.map .int))) :=
  xTup_is h (by rw [all_fz_ints, decide_eq_true (by rw [List.length_map]; show _ ≤ 1000000; omega)]; rfl)
theorem value_bytes_ok (v : Vl) (h : v.ok) (S : Store) : f_value_bytes [v.pv] S = some (.ok (.tup (v.by.map .int)), S) := by
  cases v with
  | no => rfl
  | nu n => exact fn_rt ((sSeq_nx (ρ' := [some (.int n), none]) (S' := S) rfl).trans (sSeq_rt ((sIf_t (tP_ok (bT_ok (b := true) rfl))).trans (sRet_ok (xP_ok (tup_ints (1 :: two n) (by simp [two]) (aCons_ok rfl (aStar_tup (xFn_ok (two2 (xOp_is rfl rfl (oSub_int n (-32768))) rfl) rfl (bytes_of_2 (n - -32768) S)) rfl)))) rfl))))
  | tx l =>
    have e := idx_all l h S
    have ln := h.ln
    exact fn_rt ((sSeq_nx (ρ' := [some (.str (T l)), none]) (S' := S) rfl).trans ((sSeq_nx (ρ' := [some (.str (T l)), none]) (S' := S) rfl).trans (sRet_ok (xP_ok (tup_ints (2 :: (l.length : Int) :: L1 l) (by rw [List.length_cons, List.length_cons, L1_len]; omega) (aCons_ok rfl (aCons_ok (xCall_is (one1 rfl) (bLenA_T l h)) ((aStar_lst (xFz_ok e) rfl).trans (by rw [List.append_nil])))))) rfl)))
theorem law_two_ok (n : Int) (h : -32768 ≤ n ∧ n ≤ 32767) (S : Store) : f__law_two [.int (n + 32768)] S = some (.ok (.tup ((two n).map .int)), S) := by
  have e1 : (n - -32768) / 256 % 256 = (n + 32768) / 256 := by omega
  have e2 : (n - -32768) % 256 = (n + 32768) % 256 := by omega
  unfold two
  rw [e1, e2]
  rfl
theorem law_value_bytes_ok (v : Vl) (h : v.ok) (S : Store) : f__law_value_bytes [v.pv] S = some (.ok (.tup (v.by.map .int)), S) := by
  cases v with
  | no => rfl
  | nu n =>
    have a : oAdd (.tup [.int 1]) (.tup ((two n).map .int)) = some (.tup ((1 :: two n).map .int)) := oAdd_tup _ _ (by simp [two])
    exact fn_rt ((sSeq_nx (ρ' := [some (.int n), none]) (S' := S) rfl).trans (sSeq_rt ((sIf_t (tP_ok (bT_ok (b := true) rfl))).trans (sRet_ok (xP_ok (xOp_is rfl (xFn_ok (one1 (xOp_is rfl rfl (oAdd_int n 32768))) rfl (law_two_ok n h S)) a)) rfl))))
  | tx l =>
    have e := idx_all l h S
    have ln := h.ln
    have a : oAdd (.tup [.int 2, .int l.length]) (.tup ((L1 l).map .int)) = some (.tup ((2 :: (l.length : Int) :: L1 l).map .int)) := oAdd_tup _ _ (by simp [L1_len]; omega)
    exact fn_rt ((sSeq_nx (ρ' := [some (.str (T l)), none]) (S' := S) rfl).trans ((sSeq_nx (ρ' := [some (.str (T l)), none]) (S' := S) rfl).trans (sRet_ok (xP_ok (xOp_is (xTup_is (two2 rfl (xCall_is (one1 rfl) (bLenA_T l h))) rfl) (xCall_is (one1 (xFz_ok e)) (bTuple_lst _)) a)) rfl)))
/-! ### kinds and rows -/
theorem kS_in (b : Bool) : oInA (.str (kS b)) C_KINDS = some (.bl true) := by cases b <;> rfl
theorem kinds_go (p : Option PV) (S : Store) : ∀ ks : List Bool, lcGo (gN 1) yYes (xAnd (xIsi .str (xVar 1)) (xOp oInA (xVar 1) (xC C_KINDS))) [p, none] S (ks.map fun b => PV.str (kS b)) = some ((ks.map fun b => (0 : Int)).map fun _ => .bl true)
  | [] => rfl
  | b :: ks => by
    have ih := kinds_go p S ks
    have e : xAnd (xIsi .str (xVar 1)) (xOp oInA (xVar 1) (xC C_KINDS)) ([p, none].set 1 (some (.str (kS b)))) S = some (.ok (.bl true)) := (xAnd_t rfl).trans (xOp_is rfl rfl (kS_in b))
    rw [List.map_cons]
    unfold lcGo
    simp only [gN, yYes, e, ih, fz, if_true, Option.map_some]
    rfl
theorem ne_nil_tup (x : PV) (r : List PV) (hd : isD (.tup (x :: r)) = true) (hq : dep (.tup (x :: r)) ≤ 60) : oEq (.tup (x :: r)) (.tup []) = some (.bl false) := by
  have : eqvP (.tup (x :: r)) (.tup []) = some false := by
    have d0 : isD (.tup []) = true := rfl
    simp [eqvP, hd, d0, toD, toDs, PyData.eqv, PyData.eqvAll]
    omega
  simp [oEq, this]
theorem isDs_kS : ∀ ks : List Bool, isDs (ks.map fun b => PV.str (kS b)) = true ∧ deps (ks.map fun b => PV.str (kS b)) = 0
  | [] => ⟨rfl, rfl⟩
  | b :: ks => by obtain ⟨h1, h2⟩ := isDs_kS ks; simp [isDs, isD, deps, dep, h1, h2]
theorem check_kinds_ok (ks : List Bool) (hn : ks ≠ []) (hl : ks.length ≤ 100) (S : Store) : f_check_kinds [.tup (ks.map fun b => .str (kS b))] S = some (.ok .non, S) := by
  have a : f_are_kinds [.tup (ks.map fun b => .str (kS b))] S = some (.ok (.bl true), S) := by
    have e1 : lLc (iSeq (xVar 0)) (gN 1) yYes (xAnd (xIsi .str (xVar 1)) (xOp oInA (xVar 1) (xC C_KINDS))) [1] [some (.tup (ks.map fun b => .str (kS b))), none] S = some (.ok ((ks.map fun b => (0 : Int)).map fun _ => .bl true)) := by
      show (if decide ((ks.map fun b => PV.str (kS b)).length ≤ most) then mo (lcGo _ _ _ [some (.tup (ks.map fun b => .str (kS b))), none] S (ks.map fun b => PV.str (kS b))) else none) = _
      rw [if_pos (decide_eq_true (by rw [List.length_map]; show _ ≤ 1000000; omega)), kinds_go]
      rfl
    have e2 : oEq (.tup (ks.map fun b => .str (kS b))) (.tup []) = some (.bl false) := by
      cases ks with
      | nil => exact absurd rfl hn
      | cons b ks =>
        obtain ⟨h1, h2⟩ := isDs_kS (b :: ks)
        rw [List.map_cons] at h1 h2 ⊢
        exact ne_nil_tup _ _ (by simp [isD, h1]) (by simp [dep, h2])
    have t1 : yOr (yNot (bT (xIsi .tuple (xVar 0)))) (bT (xOp oEq (xVar 0) (xTup aNil))) [some (.tup (ks.map fun b => .str (kS b))), none] S = some (.ok false) := (yOr_f (yNot_ok (b := true) rfl)).trans (bOp rfl rfl e2)
    exact fn_rt ((sSeq_nx (ρ' := [some (.tup (ks.map fun b => .str (kS b))), none]) (S' := S) ((sIf_f (tP_ok t1)).trans rfl)).trans (sRet_ok (xP_ok (xCall_is (one1 (xFz_ok e1)) (bAll_true _))) rfl))
  exact fn_nx (sIf_f (tP_ok (yNot_ok (bT_ok (xFn_ok (one1 rfl) rfl a)))))
theorem is_value_ok (b : Bool) (v : Vl) (h : v.ok) (k : v.kd b) (S : Store) : f_is_value [.str (kS b), v.pv] S = some (.ok (.bl true), S) := by
  cases v with
  | no => rfl
  | nu n =>
    cases k
    have e : oEq (.str (kS false)) (.str ("number" : Str)) = some (.bl true) := rfl
    exact fn_rt ((sSeq_nx (ρ' := [some (.str (kS false)), some (.int n)]) (S' := S) rfl).trans (sRet_ok (xP_ok ((xIf_t (bOp rfl rfl e)).trans (xFn_ok (thr3 rfl rfl rfl) rfl (is_number_ok n (-32768) 32767 S h.1 h.2)))) rfl))
  | tx l =>
    cases k
    have e : oEq (.str (kS true)) (.str ("number" : Str)) = some (.bl false) := rfl
    exact fn_rt ((sSeq_nx (ρ' := [some (.str (kS true)), some (.str (T l))]) (S' := S) rfl).trans (sRet_ok (xP_ok ((xIf_f (bOp rfl rfl e)).trans (xFn_ok (one1 rfl) rfl (is_text_ok l h S)))) rfl))
/-- a row with its kinds -/
inductive Row : List Bool → List Vl → Prop where
  | nil : Row [] []
  | cons {b v ks vs} : v.ok → v.kd b → Row ks vs → Row (b :: ks) (v :: vs)
theorem Row.len {ks vs} (h : Row ks vs) : vs.length = ks.length := by induction h with | nil => rfl | cons _ _ _ ih => simp [ih]
theorem Row.all {ks vs} (h : Row ks vs) : ∀ v ∈ vs, v.ok := by
  induction h with
  | nil => intro v hv; cases hv
  | cons h1 h2 _ ih =>
    intro v hv
    rcases List.mem_cons.mp hv with rfl | hv
    · exact h1
    · exact ih v hv
def kP (ks : List Bool) : List PV := ks.map fun b => .str (kS b)
def vP (vs : List Vl) : List PV := vs.map Vl.pv
def bys (vs : List Vl) : List Int := vs.flatMap Vl.by
theorem row_go (p : Option PV) (S : Store) (all : List Vl) : ∀ {ks : List Bool} {vs : List Vl} (pre : List Vl) (e2 e3 : Option PV), Row ks vs → all = pre ++ vs → ∃ f2 f3,
    sLoop (gT 2 (gsCons (gN 2) (gsCons (gN 3) gsNil))) (sIf (tP (yNot (bT (xFn f_is_value 2 (aCons (xVar 3) (aCons (xOp oIxA (xVar 1) (xVar 2)) aNil)))))) (sRaiseI ("BadValue" : Str) ("index" : Str) (fun x => some x) (aCons (xVar 2) aNil)) sNil) (enumP pre.length (kP ks)) [p, some (.tup (vP all)), e2, e3] S = some (.nx [p, some (.tup (vP all)), f2, f3], S)
  | _, _, pre, e2, e3, .nil, _ => ⟨e2, e3, rfl⟩
  | b :: ks, v :: vs, pre, e2, e3, .cons h1 h2 r, ha => by
    obtain ⟨f2, f3, ih⟩ := row_go p S all (pre ++ [v]) (some (.int pre.length)) (some (.str (kS b))) r (by rw [ha]; simp)
    refine ⟨f2, f3, ?_⟩
    rw [List.length_append, List.length_singleton] at ih
    have ix : oIxA (.tup (vP all)) (.int (pre.length : Int)) = some v.pv := by
      have a : atI (vP all) (pre.length : Int) = some v.pv := by
        have h0 : ixN (vP all).length (pre.length : Int) = some pre.length := by
          unfold ixN vP
          rw [ha]
          simp
          omega
        unfold atI
        rw [h0]
        unfold vP
        rw [ha]
        simp
      simp [oIxA, oE, oIx, sqOf, a]
    have e : xFn f_is_value 2 (aCons (xVar 3) (aCons (xOp oIxA (xVar 1) (xVar 2)) aNil)) [p, some (.tup (vP all)), some (.int pre.length), some (.str (kS b))] S = some (.ok (.bl true)) := xFn_ok (two2 rfl (xOp_is rfl rfl ix)) (by rw [List.all_cons, List.all_cons, fz_pv]; rfl) (is_value_ok b v h1 h2 S)
    exact (sLoop_nx (ρ1 := [p, some (.tup (vP all)), some (.int pre.length), some (.str (kS b))]) (ρ' := [p, some (.tup (vP all)), some (.int pre.length), some (.str (kS b))]) (S2 := S) rfl ((sIf_f (tP_ok (yNot_ok (bT_ok e)))).trans rfl)).trans ih
theorem check_row_ok {ks : List Bool} {vs : List Vl} (h : Row ks vs) (S : Store) : f_check_row [.tup (kP ks), .tup (vP vs)] S = some (.ok .non, S) := by
  obtain ⟨f2, f3, k⟩ := row_go (some (.tup (kP ks))) S vs [] none none h rfl
  have e1 : oNe (.int ((vP vs).length : Int)) (.int ((kP ks).length : Int)) = some (.bl false) := by
    rw [oNe_int]
    unfold vP kP
    rw [List.length_map, List.length_map, h.len]
    simp
  have t1 : yOr (yNot (bT (xIsi .tuple (xVar 1)))) (bT (xOp oNe (xCall bLenA (aCons (xVar 1) aNil)) (xCall bLenA (aCons (xVar 0) aNil)))) [some (.tup (kP ks)), some (.tup (vP vs)), none, none] S = some (.ok false) := (yOr_f (yNot_ok (b := true) rfl)).trans (bOp (xCall_is (one1 rfl) (bLenA_tup _)) (xCall_is (one1 rfl) (bLenA_tup _)) e1)
  exact fn_nx ((sSeq_nx (ρ' := [some (.tup (kP ks)), some (.tup (vP vs)), none, none]) (S' := S) ((sIf_f (tP_ok t1)).trans rfl)).trans ((sFor_go (xs := enumP 0 (kP ks)) rfl).trans k))
theorem enc_go (p q : Option PV) (S : Store) : ∀ (vs : List Vl) (acc : List Int) (e : Option PV), (∀ v ∈ vs, v.ok) → acc.length + 14 * vs.length ≤ 1000 → ∃ e', sLoop (gN 3) (sExtend 2 (xFn f_value_bytes 1 (aCons (xVar 3) aNil))) (vP vs) [p, q, some (.ol (acc.map .int)), e] S = some (.nx [p, q, some (.ol ((acc ++ bys vs).map .int)), e'], S)
  | [], acc, e, _, _ => ⟨e, by show _ = some (SR.nx [p, q, some (.ol ((acc ++ []).map .int)), e], S); rw [List.append_nil]; rfl⟩
  | v :: vs, acc, e, h, hl => by
    have hv := h v List.mem_cons_self
    have bl := by_len v hv
    rw [List.length_cons] at hl
    obtain ⟨e', ih⟩ := enc_go p q S vs (acc ++ v.by) (some v.pv) (fun x hx => h x (List.mem_cons_of_mem _ hx)) (by rw [List.length_append]; omega)
    have ex := sExtend_tup (ρ := [p, q, some (.ol (acc.map .int)), some v.pv]) (S := S) (i := 2) (m := xFn f_value_bytes 1 (aCons (xVar 3) aNil)) (xs := acc.map .int) (ys := v.by.map .int) rfl (xFn_ok (one1 rfl) (by rw [List.all_cons, fz_pv]; rfl) (value_bytes_ok v hv S)) (by rw [List.length_map, List.length_map]; omega)
    rw [← List.map_append] at ex
    refine ⟨e', (sLoop_nx (ρ1 := [p, q, some (.ol (acc.map .int)), some v.pv]) rfl ex).trans (ih.trans ?_)⟩
    show _ = some (SR.nx [p, q, some (.ol ((acc ++ (v.by ++ bys vs)).map .int)), e'], S)
    rw [List.append_assoc]
theorem encode_row_ok {ks : List Bool} {vs : List Vl} (h : Row ks vs) (hn : ks ≠ []) (hl : ks.length ≤ 10) (S : Store) : f_encode_row [.tup (kP ks), .tup (vP vs)] S = some (.ok (.tup ((bys vs).map .int)), S) := by
  have hv := h.len
  obtain ⟨e', k⟩ := enc_go (some (.tup (kP ks))) (some (.tup (vP vs))) S vs [] none h.all (by simp; omega)
  rw [List.nil_append] at k
  exact fn_rt ((sSeq_nx (sExpr_ok (xP_ok (xFn_ok (one1 rfl) rfl (check_kinds_ok ks hn (by omega) S))))).trans ((sSeq_nx (sExpr_ok (xP_ok (xFn_ok (two2 rfl rfl) rfl (check_row_ok h S))))).trans ((sSeq_nx (ρ' := [some (.tup (kP ks)), some (.tup (vP vs)), some (.ol []), none]) (S' := S) rfl).trans ((sSeq_nx ((sFor_go (iSeq_tup (xs := vP vs) rfl)).trans k)).trans rfl))))
theorem lrow_go (p : Option PV) (S : Store) : ∀ (vs : List Vl) (acc : List Int) (e : Option PV), (∀ v ∈ vs, v.ok) → acc.length + 14 * vs.length ≤ 1000 → ∃ e', sLoop (gN 2) (sAsg (gN 1) (xP (xOp oAdd (xVar 1) (xFn f__law_value_bytes 1 (aCons (xVar 2) aNil))))) (vP vs) [p, some (.tup (acc.map .int)), e] S = some (.nx [p, some (.tup ((acc ++ bys vs).map .int)), e'], S)
  | [], acc, e, _, _ => ⟨e, by show _ = some (SR.nx [p, some (.tup ((acc ++ []).map .int)), e], S); rw [List.append_nil]; rfl⟩
  | v :: vs, acc, e, h, hl => by
    have hv := h v List.mem_cons_self
    have bl := by_len v hv
    rw [List.length_cons] at hl
    obtain ⟨e', ih⟩ := lrow_go p S vs (acc ++ v.by) (some v.pv) (fun x hx => h x (List.mem_cons_of_mem _ hx)) (by rw [List.length_append]; omega)
    have a : oAdd (.tup (acc.map .int)) (.tup (v.by.map .int)) = some (.tup ((acc ++ v.by).map .int)) := by rw [oAdd_tup _ _ (by rw [List.length_map, List.length_map]; omega), List.map_append]
    refine ⟨e', (sLoop_nx (ρ1 := [p, some (.tup (acc.map .int)), some v.pv]) rfl (sAsg_ok (i := 1) (xP_ok (xOp_is rfl (xFn_ok (one1 rfl) (by rw [List.all_cons, fz_pv]; rfl) (law_value_bytes_ok v hv S)) a)) rfl)).trans (ih.trans ?_)⟩
    show _ = some (SR.nx [p, some (.tup ((acc ++ (v.by ++ bys vs)).map .int)), e'], S)
    rw [List.append_assoc]
theorem law_row_bytes_ok {vs : List Vl} (h : ∀ v ∈ vs, v.ok) (hl : vs.length ≤ 10) (S : Store) : f__law_row_bytes [.tup (vP vs)] S = some (.ok (.tup ((bys vs).map .int)), S) := by
  obtain ⟨e', k⟩ := lrow_go (some (.tup (vP vs))) S vs [] none h (by simp; omega)
  rw [List.nil_append] at k
  exact fn_rt ((sSeq_nx (ρ' := [some (.tup (vP vs)), some (.tup []), none]) (S' := S) rfl).trans ((sSeq_nx ((sFor_go (iSeq_tup (xs := vP vs) rfl)).trans k)).trans (sRet_ok (xP_ok rfl) rfl)))
end K01

end
section
set_option Elab.async false
set_option linter.all false
set_option maxRecDepth 100000
set_option maxHeartbeats 1000000
namespace L3
theorem ix_at (a b : List Int) (z : Int) : oIxA (.tup ((a ++ z :: b).map .int)) (.int (a.length : Int)) = some (.int z) := by
  have e : L2.atI ((a ++ z :: b).map PV.int) (a.length : Int) = some (.int z) := by
    have h0 : L2.ixN ((a ++ z :: b).map PV.int).length (a.length : Int) = some a.length := by
      unfold L2.ixN
      simp
      omega
    unfold L2.atI
    rw [h0]
    simp
  simp only [oIxA, oE, oIx, sqOf, e]
theorem cut_mid (a m b : List Int) : slP (some (a.length : Int)) (some ((a.length + m.length : Nat) : Int)) (.tup ((a ++ (m ++ b)).map .int)) = some (.tup (m.map .int)) := by
  show some (PV.tup (cutP ((a ++ (m ++ b)).map PV.int) (some (a.length : Int)) (some ((a.length + m.length : Nat) : Int)))) = _
  have h1 : HT.sIx ((a ++ (m ++ b)).map PV.int).length 0 (some (a.length : Int)) = a.length := by
    have : ¬ ((a.length : Int) < 0) := by omega
    simp [HT.sIx, this]
  have h2 : HT.sIx ((a ++ (m ++ b)).map PV.int).length ((a ++ (m ++ b)).map PV.int).length (some ((a.length + m.length : Nat) : Int)) = a.length + m.length := by
    have : ¬ (((a.length + m.length : Nat) : Int) < 0) := by omega
    simp only [HT.sIx, this, if_false, List.length_map, List.length_append]
    omega
  unfold cutP
  rw [h1, h2, List.map_append, List.map_append, List.drop_left' (by simp), Nat.add_sub_cancel_left, List.take_left' (by simp)]
theorem oEq_ints (a b : List Int) : oEq (.tup (a.map PV.int)) (.tup (b.map PV.int)) = some (.bl (decide (a = b))) := by
  simp [oEq, eqvP, isD, isDs_ints, dep, deps_ints, toD, toDs_ints, PySem.PyData.eqv, eqvAll_ints]
theorem oNe_ints (a b : List Int) : oNe (.tup (a.map PV.int)) (.tup (b.map PV.int)) = some (.bl (!decide (a = b))) := by
  simp [oNe, eqvP, isD, isDs_ints, dep, deps_ints, toD, toDs_ints, PySem.PyData.eqv, eqvAll_ints]
theorem oEq_f {i j : Int} (h : i ≠ j) : oEq (.int i) (.int j) = some (.bl false) := by rw [oEq_int, decide_eq_false h]
theorem oEq_t (i : Int) : oEq (.int i) (.int i) = some (.bl true) := by rw [oEq_int, decide_eq_true rfl]
theorem oLe_t {i j : Int} (h : i ≤ j) : oLe (.int i) (.int j) = some (.bl true) := by rw [oLe_int, decide_eq_true h]
theorem oLt_t {i j : Int} (h : i < j) : oLt (.int i) (.int j) = some (.bl true) := by rw [oLt_int, decide_eq_true h]
theorem xTup2_is {ρ : L3.Env} {S : Store} {m n : Ex} {x y : PV} (h : m ρ S = some (.ok x)) (k : n ρ S = some (.ok y)) (hx : fz x = true) (hy : fz y = true) : xTup (aCons m (aCons n aNil)) ρ S = some (.ok (.tup [x, y])) := xTup_is (two2 h k) (by simp [hx, hy, most])
end L3
namespace K01
open PySem L3 L2
set_option autoImplicit false
theorem by_range (v : Vl) (h : v.ok) : ∀ x ∈ v.by, 0 ≤ x ∧ x ≤ 255 := by
  intro x hx
  cases v with
  | no => simp [Vl.by] at hx; omega
  | nu n =>
    simp [Vl.by, two] at hx
    rcases hx with rfl | rfl | rfl
    · decide
    · omega
    · omega
  | tx l =>
    simp only [Vl.by, List.mem_cons] at hx
    have := h.ln
    rcases hx with rfl | rfl | hx
    · decide
    · omega
    · obtain ⟨i, hi, rfl⟩ := List.mem_map.mp hx
      have := h.lt i hi
      show 0 ≤ (i : Int) + 1 ∧ (i : Int) + 1 ≤ 255
      omega
theorem key_range (v : Vl) (h : v.ok) : ∀ x ∈ v.key, 0 ≤ x ∧ x ≤ 255 := by
  intro x hx
  cases v with
  | no => exact by_range .no h x hx
  | nu n => exact by_range (.nu n) h x hx
  | tx l =>
    refine by_range (.tx l) h x ?_
    simp only [Vl.key, List.mem_cons] at hx
    simp only [Vl.by, List.mem_cons]
    rcases hx with hx | hx
    · exact .inl hx
    · exact .inr (.inr hx)
def nS : Str := ("number" : Str)
theorem kS_num : oEq (.str (kS false)) (.str ("number" : Str)) = some (.bl true) := rfl
theorem kS_txt : oEq (.str (kS true)) (.str ("text" : Str)) = some (.bl true) := rfl
theorem read_value_ok (b : Bool) (v : Vl) (h : v.ok) (k : v.kd b) (pre rest : List Int) (S : Store) : f_read_value [.str (kS b), .tup ((pre ++ (v.by ++ rest)).map .int), .int pre.length] S = some (.ok (.tup [v.pv, .int ((pre ++ v.by).length : Nat)]), S) := by
  have len : ∀ z : Int, ∀ l : List Int, bLenA [.tup (l.map .int)] = some (.int l.length) := fun z l => by rw [bLenA_tup, List.length_map]
  cases v with
  | no =>
    have tag : xIf (bT (xOp oLt (xVar 2) (xCall bLenA (aCons (xVar 1) aNil)))) (xOp oIxA (xVar 1) (xVar 2)) (xC (.int 9)) [some (.str (kS b)), some (.tup ((pre ++ (0 :: rest)).map .int)), some (.int pre.length), none, none] S = some (.ok (.int 0)) :=
      (xIf_t (bOp rfl (xCall_is (one1 rfl) (len 0 _)) (oLt_t (by rw [List.length_append, List.length_cons]; omega)))).trans (xOp_is rfl rfl (ix_at pre rest 0))
    have e : ((pre ++ [0]).length : Int) = (pre.length : Int) + 1 := by simp
    refine fn_rt ((sSeq_nx (sAsg_ok (i := 3) (xP_ok tag) rfl)).trans (sSeq_rt ((sIf_t (tP_ok (bOp rfl rfl (oEq_t 0)))).trans (sRet_ok (xP_ok ?_) rfl))))
    show xTup (aCons (xC .non) (aCons (xOp oAdd (xVar 2) (xC (.int 1))) aNil)) _ S = some (.ok (.tup [.non, .int ((pre ++ [0]).length : Nat)]))
    rw [e]
    exact xTup2_is rfl (xOp_is rfl rfl (oAdd_int _ 1)) rfl rfl
  | nu n =>
    cases k
    obtain ⟨n1, n2⟩ := h
    have ln : ((pre ++ (1 :: two n ++ rest)).length : Int) = (pre.length : Int) + 3 + rest.length := by simp [two]; omega
    have tag : xIf (bT (xOp oLt (xVar 2) (xCall bLenA (aCons (xVar 1) aNil)))) (xOp oIxA (xVar 1) (xVar 2)) (xC (.int 9)) [some (.str (kS false)), some (.tup ((pre ++ (1 :: two n ++ rest)).map .int)), some (.int pre.length), none, none] S = some (.ok (.int 1)) :=
      (xIf_t (bOp rfl (xCall_is (one1 rfl) (len 0 _)) (oLt_t (by omega)))).trans (xOp_is rfl rfl (ix_at pre (two n ++ rest) 1))
    have cut : slP (some ((pre.length : Int) + 1)) (some ((pre.length : Int) + 3)) (.tup ((pre ++ (1 :: two n ++ rest)).map .int)) = some (.tup ((two n).map .int)) := by
      have := cut_mid (pre ++ [1]) (two n) rest
      rw [show (((pre ++ [1] : List Int).length : Nat) : Int) = (pre.length : Int) + 1 by simp, show (((pre ++ [1] : List Int).length + (two n).length : Nat) : Int) = (pre.length : Int) + 3 by simp [two]; omega, List.append_assoc] at this
      exact this
    have num : f_number_of [.tup ((two n).map .int)] S = some (.ok (.int (n - -32768)), S) := by
      have := number_of_2 ((n - -32768) / 256 % 256) ((n - -32768) % 256) S
      rw [show (n - -32768) / 256 % 256 * 256 + (n - -32768) % 256 = n - -32768 by omega] at this
      exact this
    have back : oAdd (.int (n - -32768)) (.int (-32768)) = some (.int n) := by rw [oAdd_int, show n - -32768 + -32768 = n by omega]
    have e : ((pre ++ (1 :: two n)).length : Int) = (pre.length : Int) + 3 := by simp [two]
    have t3 : yAnd (bT (xOp oEq (xVar 3) (xC (.int 1)))) (yAnd (bT (xOp oEq (xVar 0) (xC (.str ("number" : Str))))) (bT (xOp oLe (xOp oAdd (xVar 2) (xC (.int 3))) (xCall bLenA (aCons (xVar 1) aNil))))) [some (.str (kS false)), some (.tup ((pre ++ (1 :: two n ++ rest)).map .int)), some (.int pre.length), some (.int 1), none] S = some (.ok true) :=
      (yAnd_t (bOp rfl rfl (oEq_t 1))).trans ((yAnd_t (bOp rfl rfl kS_num)).trans (bOp (xOp_is rfl rfl (oAdd_int _ 3)) (xCall_is (one1 rfl) (len 0 _)) (oLe_t (by omega))))
    refine fn_rt ((sSeq_nx (sAsg_ok (i := 3) (xP_ok tag) rfl)).trans ((sSeq_nx (ρ' := [some (.str (kS false)), some (.tup ((pre ++ (1 :: two n ++ rest)).map .int)), some (.int pre.length), some (.int 1), none]) (S' := S) rfl).trans (sSeq_rt ((sIf_t (tP_ok t3)).trans (sRet_ok (xP_ok ?_) rfl)))))
    show xTup (aCons (xOp oAdd (xFn f_number_of 1 (aCons (xSl (xVar 1) (oSome (xOp oAdd (xVar 2) (xC (.int 1)))) (oSome (xOp oAdd (xVar 2) (xC (.int 3))))) aNil)) (xC (.int (-32768)))) (aCons (xOp oAdd (xVar 2) (xC (.int 3))) aNil)) [some (.str (kS false)), some (.tup ((pre ++ (1 :: two n ++ rest)).map .int)), some (.int pre.length), some (.int 1), none] S = some (.ok (.tup [.int n, .int ((pre ++ (1 :: two n)).length : Nat)]))
    rw [e]
    exact xTup2_is (xOp_is (xFn_ok (one1 (xSl_ok (x := .tup ((pre ++ (1 :: two n ++ rest)).map .int)) (i := some ((pre.length : Int) + 1)) (j := some ((pre.length : Int) + 3)) rfl rfl rfl cut)) rfl num) rfl back) (xOp_is rfl rfl (oAdd_int _ 3)) rfl rfl
  | tx l =>
    cases k
    have l12 := h.ln
    have ln : ((pre ++ ((2 :: (l.length : Int) :: L1 l) ++ rest)).length : Int) = (pre.length : Int) + 2 + l.length + rest.length := by simp [L1_len]; omega
    have tag : xIf (bT (xOp oLt (xVar 2) (xCall bLenA (aCons (xVar 1) aNil)))) (xOp oIxA (xVar 1) (xVar 2)) (xC (.int 9)) [some (.str (kS true)), some (.tup ((pre ++ ((2 :: (l.length : Int) :: L1 l) ++ rest)).map .int)), some (.int pre.length), none, none] S = some (.ok (.int 2)) :=
      (xIf_t (bOp rfl (xCall_is (one1 rfl) (len 0 _)) (oLt_t (by omega)))).trans (xOp_is rfl rfl (ix_at pre ((l.length : Int) :: L1 l ++ rest) 2))
    have ix1 : oIxA (.tup ((pre ++ ((2 :: (l.length : Int) :: L1 l) ++ rest)).map .int)) (.int ((pre.length : Int) + 1)) = some (.int l.length) := by
      have := ix_at (pre ++ [2]) (L1 l ++ rest) (l.length : Int)
      rw [show (((pre ++ [2] : List Int).length : Nat) : Int) = (pre.length : Int) + 1 by simp, List.append_assoc] at this
      exact this
    have cut : slP (some ((pre.length : Int) + 2)) (some ((pre.length : Int) + 2 + l.length)) (.tup ((pre ++ ((2 :: (l.length : Int) :: L1 l) ++ rest)).map .int)) = some (.tup ((L1 l).map .int)) := by
      have := cut_mid (pre ++ [2, (l.length : Int)]) (L1 l) rest
      rw [show (((pre ++ [2, (l.length : Int)] : List Int).length : Nat) : Int) = (pre.length : Int) + 2 by simp, show (((pre ++ [2, (l.length : Int)] : List Int).length + (L1 l).length : Nat) : Int) = (pre.length : Int) + 2 + l.length by simp [L1_len], List.append_assoc] at this
      exact this
    have e : ((pre ++ (2 :: (l.length : Int) :: L1 l)).length : Int) = (pre.length : Int) + 2 + l.length := by simp [L1_len]; omega
    have t4 : yAnd (bT (xOp oEq (xVar 3) (xC (.int 2)))) (yAnd (bT (xOp oEq (xVar 0) (xC (.str ("text" : Str))))) (bT (xOp oLe (xOp oAdd (xVar 2) (xC (.int 2))) (xCall bLenA (aCons (xVar 1) aNil))))) [some (.str (kS true)), some (.tup ((pre ++ ((2 :: (l.length : Int) :: L1 l) ++ rest)).map .int)), some (.int pre.length), some (.int 2), none] S = some (.ok true) :=
      (yAnd_t (bOp rfl rfl (oEq_t 2))).trans ((yAnd_t (bOp rfl rfl kS_txt)).trans (bOp (xOp_is rfl rfl (oAdd_int _ 2)) (xCall_is (one1 rfl) (len 0 _)) (oLe_t (by omega))))
    have t5 : yAnd (bT (xOp oLe (xOp oIxA (xVar 1) (xOp oAdd (xVar 2) (xC (.int 1)))) (xC (.int 12)))) (bT (xOp oLe (xVar 4) (xCall bLenA (aCons (xVar 1) aNil)))) [some (.str (kS true)), some (.tup ((pre ++ ((2 :: (l.length : Int) :: L1 l) ++ rest)).map .int)), some (.int pre.length), some (.int 2), some (.int ((pre.length : Int) + 2 + l.length))] S = some (.ok true) :=
      (yAnd_t (bOp (xOp_is rfl (xOp_is rfl rfl (oAdd_int _ 1)) ix1) rfl (oLe_t (by omega)))).trans (bOp rfl (xCall_is (one1 rfl) (len 0 _)) (oLe_t (by omega)))
    refine fn_rt ((sSeq_nx (sAsg_ok (i := 3) (xP_ok tag) rfl)).trans ((sSeq_nx (ρ' := [some (.str (kS true)), some (.tup ((pre ++ ((2 :: (l.length : Int) :: L1 l) ++ rest)).map .int)), some (.int pre.length), some (.int 2), none]) (S' := S) rfl).trans ((sSeq_nx (ρ' := [some (.str (kS true)), some (.tup ((pre ++ ((2 :: (l.length : Int) :: L1 l) ++ rest)).map .int)), some (.int pre.length), some (.int 2), none]) (S' := S) rfl).trans (sSeq_rt ((sIf_t (tP_ok t4)).trans ((sSeq_nx (sAsg_ok (i := 4) (xP_ok (xOp_is (xOp_is rfl rfl (oAdd_int _ 2)) (xOp_is rfl (xOp_is rfl rfl (oAdd_int _ 1)) ix1) (oAdd_int _ _))) rfl)).trans ((sIf_t (tP_ok t5)).trans (sRet_ok (xP_ok ?_) rfl))))))))
    show xTup (aCons (xFn f_letters_in 1 (aCons (xSl (xVar 1) (oSome (xOp oAdd (xVar 2) (xC (.int 2)))) (oSome (xVar 4))) aNil)) (aCons (xVar 4) aNil)) [some (.str (kS true)), some (.tup ((pre ++ ((2 :: (l.length : Int) :: L1 l) ++ rest)).map .int)), some (.int pre.length), some (.int 2), some (.int ((pre.length : Int) + 2 + l.length))] S = some (.ok (.tup [.str (T l), .int ((pre ++ (2 :: (l.length : Int) :: L1 l)).length : Nat)]))
    rw [e]
    exact xTup2_is (xFn_ok (one1 (xSl_ok (x := .tup ((pre ++ ((2 :: (l.length : Int) :: L1 l) ++ rest)).map .int)) (i := some ((pre.length : Int) + 2)) (j := some ((pre.length : Int) + 2 + l.length)) rfl rfl rfl cut)) rfl (letters_in_ok l h S)) rfl rfl rfl
end K01

end
section
set_option Elab.async false
set_option linter.all false
set_option maxRecDepth 100000
set_option maxHeartbeats 1000000
namespace K01
open PySem L3 L2
set_option autoImplicit false
theorem bys_range {vs : List Vl} (h : ∀ v ∈ vs, v.ok) : ∀ x ∈ bys vs, 0 ≤ x ∧ x ≤ 255 := by
  intro x hx
  obtain ⟨v, hv, hx⟩ := List.mem_flatMap.mp hx
  exact by_range v (h v hv) x hx
theorem bys_len {vs : List Vl} (h : ∀ v ∈ vs, v.ok) : (bys vs).length ≤ 14 * vs.length := by
  induction vs with
  | nil => exact Nat.le_refl _
  | cons v vs ih =>
    have h1 := by_len v (h v List.mem_cons_self)
    have h2 := ih fun x hx => h x (List.mem_cons_of_mem _ hx)
    show (v.by ++ bys vs).length ≤ _
    rw [List.length_append, List.length_cons]
    omega
theorem all_fz_vP (vs : List Vl) : (vP vs).all fz = true := by rw [List.all_eq_true]; intro x hx; obtain ⟨v, _, rfl⟩ := List.mem_map.mp hx; exact fz_pv v
theorem dec_go (p : Option PV) (S : Store) (data : List Int) : ∀ {ks : List Bool} {vs : List Vl} (done : List Vl) (pre : List Int) (e4 e5 : Option PV), Row ks vs → data = pre ++ bys vs → done.length + vs.length ≤ 100 → ∃ f4 f5,
    sLoop (gN 4) (sSeq (sAsg (gT 2 (gsCons (gN 5) (gsCons (gN 3) gsNil))) (xP (xFn f_read_value 3 (aCons (xVar 4) (aCons (xVar 1) (aCons (xVar 3) aNil)))))) (sAppend 2 (xVar 5))) (kP ks) [p, some (.tup (data.map .int)), some (.ol (vP done)), some (.int pre.length), e4, e5] S = some (.nx [p, some (.tup (data.map .int)), some (.ol (vP (done ++ vs))), some (.int data.length), f4, f5], S)
  | _, _, done, pre, e4, e5, .nil, hd, _ => ⟨e4, e5, by
      have : data = pre := by rw [hd]; show pre ++ [] = pre; rw [List.append_nil]
      rw [this, List.append_nil]
      rfl⟩
  | b :: ks, v :: vs, done, pre, e4, e5, .cons h1 h2 r, hd, hl => by
    rw [List.length_cons] at hl
    obtain ⟨f4, f5, ih⟩ := dec_go p S data (done ++ [v]) (pre ++ v.by) (some (.str (kS b))) (some v.pv) r (by rw [hd, List.append_assoc]; rfl) (by rw [List.length_append, List.length_singleton]; omega)
    refine ⟨f4, f5, ?_⟩
    have rd := read_value_ok b v h1 h2 pre (bys vs) S
    have hd' : data = pre ++ (v.by ++ bys vs) := hd
    rw [← hd'] at rd
    have s1 : sAsg (gT 2 (gsCons (gN 5) (gsCons (gN 3) gsNil))) (xP (xFn f_read_value 3 (aCons (xVar 4) (aCons (xVar 1) (aCons (xVar 3) aNil))))) [p, some (.tup (data.map .int)), some (.ol (vP done)), some (.int pre.length), some (.str (kS b)), e5] S = some (.nx [p, some (.tup (data.map .int)), some (.ol (vP done)), some (.int ((pre ++ v.by).length : Nat)), some (.str (kS b)), some v.pv], S) := by
      unfold sAsg
      exact (xThen_ok (xP_ok (xFn_ok (thr3 rfl rfl rfl) rfl rd))).trans rfl
    have s2 := sAppend_is (ρ := [p, some (.tup (data.map .int)), some (.ol (vP done)), some (.int ((pre ++ v.by).length : Nat)), some (.str (kS b)), some v.pv]) (S := S) (i := 2) (m := xVar 5) (xs := vP done) (y := v.pv) rfl rfl (fz_pv v) (by unfold vP; rw [List.length_map]; show _ < 1000000; omega)
    have e6 : vP done ++ [v.pv] = vP (done ++ [v]) := by unfold vP; rw [List.map_append]; rfl
    rw [e6] at s2
    refine (sLoop_nx (ρ1 := [p, some (.tup (data.map .int)), some (.ol (vP done)), some (.int pre.length), some (.str (kS b)), e5]) rfl ((sSeq_nx s1).trans s2)).trans (ih.trans ?_)
    rw [List.append_assoc]
    rfl
theorem decode_row_ok {ks : List Bool} {vs : List Vl} (h : Row ks vs) (hn : ks ≠ []) (hl : ks.length ≤ 10) (S : Store) : f_decode_row [.tup (kP ks), .tup ((bys vs).map .int)] S = some (.ok (.tup (vP vs)), S) := by
  have hv := h.len
  have bl := bys_len h.all
  obtain ⟨f4, f5, k⟩ := dec_go (some (.tup (kP ks))) S (bys vs) [] [] none none h rfl (by simp; omega)
  rw [List.nil_append] at k
  have p2 : sPar2 2 3 (fL (iP (lLst aNil))) (fX (xP (xC (.int 0)))) [some (.tup (kP ks)), some (.tup ((bys vs).map .int)), none, none, none, none] S = some (.nx [some (.tup (kP ks)), some (.tup ((bys vs).map .int)), some (.ol []), some (.int 0), none, none], S) := rfl
  have e1 : oNe (.int ((bys vs).length : Int)) (.int (((bys vs).map PV.int).length : Int)) = some (.bl false) := by rw [oNe_int, List.length_map]; simp
  have c1 : sIf (tP (bT (xOp oNe (xVar 3) (xCall bLenA (aCons (xVar 1) aNil))))) (sRaise ("BadBytes" : Str)) sNil [some (.tup (kP ks)), some (.tup ((bys vs).map .int)), some (.ol (vP vs)), some (.int (bys vs).length), f4, f5] S = some (.nx [some (.tup (kP ks)), some (.tup ((bys vs).map .int)), some (.ol (vP vs)), some (.int (bys vs).length), f4, f5], S) :=
    (sIf_f (tP_ok (bOp rfl (xCall_is (one1 rfl) (bLenA_tup _)) e1))).trans rfl
  exact fn_rt ((sSeq_nx (sExpr_ok (xP_ok (xFn_ok (one1 rfl) rfl (check_kinds_ok ks hn (by omega) S))))).trans ((sSeq_nx (sExpr_ok (xP_ok (xFn_ok (one1 rfl) rfl (check_bytes_ok (bys vs) (bys_range h.all) (by show _ ≤ 1000000; omega) S))))).trans ((sSeq_nx p2).trans ((sSeq_nx ((sFor_go (iSeq_tup' ks)).trans k)).trans ((sSeq_nx c1).trans rfl)))))
where
  iSeq_tup' (ks : List Bool) {d : Option PV} {S : Store} : iSeq (xVar 0) [some (.tup (kP ks)), d, some (.ol []), some (.int 0), none, none] S = some (.ok (kP ks)) := rfl
/-! ### keys -/
theorem encode_key_ok (v : Vl) (h : v.ok) (S : Store) : f_encode_key [v.pv] S = some (.ok (.tup (v.key.map .int)), S) := by
  cases v with
  | no => rfl
  | nu n => exact fn_rt ((sSeq_nx (ρ' := [some (.int n), none]) (S' := S) rfl).trans (sSeq_rt ((sIf_t (tP_ok (bT_ok (xFn_ok (thr3 rfl rfl rfl) rfl (is_number_ok n (-32768) 32767 S h.1 h.2))))).trans (sRet_ok (xP_ok (tup_ints (1 :: two n) (by simp [two]) (aCons_ok rfl (aStar_tup (xFn_ok (two2 (xOp_is rfl rfl (oSub_int n (-32768))) rfl) rfl (bytes_of_2 (n - -32768) S)) rfl)))) rfl))))
  | tx l =>
    have e := idx_all l h S
    have ln := h.ln
    have nn : f_is_number [.str (T l), .int (-32768), .int 32767] S = some (.ok (.bl false), S) := rfl
    exact fn_rt ((sSeq_nx (ρ' := [some (.str (T l)), none]) (S' := S) rfl).trans ((sSeq_nx (ρ' := [some (.str (T l)), none]) (S' := S) ((sIf_f (tP_ok (bT_ok (xFn_ok (thr3 rfl rfl rfl) rfl nn)))).trans rfl)).trans (sSeq_rt ((sIf_t (tP_ok (bT_ok (xFn_ok (one1 rfl) rfl (is_text_ok l h S))))).trans (sRet_ok (xP_ok (tup_ints (2 :: L1 l) (by rw [List.length_cons, L1_len]; omega) (aCons_ok rfl ((aStar_lst (xFz_ok e) rfl).trans (by rw [List.append_nil]))))) rfl)))))
theorem law_key_ok (v : Vl) (h : v.ok) (S : Store) : f__law_key [v.pv] S = some (.ok (.tup (v.key.map .int)), S) := by
  have b := law_value_bytes_ok v h S
  have hf : ([v.pv].all fz && [v.pv].length == 1) = true := by rw [List.all_cons, fz_pv]; rfl
  cases v with
  | no => rfl
  | nu n => exact fn_rt ((sSeq_nx (sAsg_ok (i := 1) (xP_ok (xFn_ok (one1 rfl) hf b)) rfl)).trans (sRet_ok (xP_ok ((xIf_f (bT_ok (b := false) rfl)).trans rfl)) rfl))
  | tx l =>
    have ln := h.ln
    have c1 := cut_takeP ((2 :: (l.length : Int) :: L1 l).map .int) 1 (by simp)
    have c2 := cut_drop ((2 :: (l.length : Int) :: L1 l).map .int) 2 (by simp)
    have a : oAdd (.tup (((2 :: (l.length : Int) :: L1 l).map PV.int).take 1)) (.tup (((2 :: (l.length : Int) :: L1 l).map PV.int).drop 2)) = some (.tup ((2 :: L1 l).map .int)) := oAdd_tup _ _ (by simp [L1_len]; omega)
    exact fn_rt ((sSeq_nx (sAsg_ok (i := 1) (xP_ok (xFn_ok (one1 rfl) hf b)) rfl)).trans (sRet_ok (xP_ok ((xIf_t (bT_ok (b := true) rfl)).trans (xOp_is (xSl_ok (x := .tup ((2 :: (l.length : Int) :: L1 l).map .int)) (i := none) (j := some 1) rfl rfl rfl c1) (xSl_ok (x := .tup ((2 :: (l.length : Int) :: L1 l).map .int)) (i := some 2) (j := none) rfl rfl rfl c2) a))) rfl))
theorem decode_key_ok (v : Vl) (h : v.ok) (S : Store) : f_decode_key [.tup (v.key.map .int)] S = some (.ok v.pv, S) := by
  have kl : v.key.length ≤ 13 := by
    cases v with
    | no => decide
    | nu n => show 3 ≤ 13; decide
    | tx l => have := h.ln; show (L1 l).length + 1 ≤ 13; rw [L1_len]; omega
  have cb := check_bytes_ok v.key (key_range v h) (by show _ ≤ 1000000; omega) S
  refine fn_rt ((sSeq_nx (sExpr_ok (xP_ok (xFn_ok (one1 rfl) rfl cb)))).trans ?_)
  cases v with
  | no => exact sSeq_rt ((sIf_t (tP_ok (bOp rfl rfl ((oEq_ints [0] [0]).trans rfl)))).trans rfl)
  | nu n =>
    obtain ⟨n1, n2⟩ := h
    have q0 : oEq (.tup ((1 :: two n).map .int)) (.tup [.int 0]) = some (.bl false) := (oEq_ints (1 :: two n) [0]).trans (by simp [two])
    have c1 := cut_takeP ((1 :: two n).map .int) 1 (by simp)
    have c2 := cut_drop ((1 :: two n).map .int) 1 (by simp)
    have q1 : oEq (.tup (((1 :: two n).map PV.int).take 1)) (.tup [.int 1]) = some (.bl true) := oEq_ints [1] [1]
    have num : f_number_of [.tup ((two n).map .int)] S = some (.ok (.int (n - -32768)), S) := by
      have := number_of_2 ((n - -32768) / 256 % 256) ((n - -32768) % 256) S
      rw [show (n - -32768) / 256 % 256 * 256 + (n - -32768) % 256 = n - -32768 by omega] at this
      exact this
    have back : oAdd (.int (n - -32768)) (.int (-32768)) = some (.int n) := by rw [oAdd_int, show n - -32768 + -32768 = n by omega]
    have t1 : yAnd (bT (xOp oEq (xSl (xVar 0) oNone (oSome (xC (.int 1)))) (xTup (aCons (xC (.int 1)) aNil)))) (bT (xOp oEq (xCall bLenA (aCons (xVar 0) aNil)) (xC (.int 3)))) [some (.tup ((1 :: two n).map .int))] S = some (.ok true) :=
      (yAnd_t (bOp (xSl_ok (x := .tup ((1 :: two n).map .int)) (i := none) (j := some 1) rfl rfl rfl c1) rfl q1)).trans (bOp (xCall_is (one1 rfl) (bLenA_tup _)) rfl (oEq_t 3))
    exact (sSeq_nx (ρ' := [some (.tup ((1 :: two n).map .int))]) (S' := S) ((sIf_f (tP_ok (bOp rfl rfl q0))).trans rfl)).trans (sSeq_rt ((sIf_t (tP_ok t1)).trans (sRet_ok (xP_ok (xOp_is (xFn_ok (one1 (xSl_ok (x := .tup ((1 :: two n).map .int)) (i := some 1) (j := none) rfl rfl rfl c2)) rfl num) rfl back)) rfl)))
  | tx l =>
    have ln := h.ln
    have q0 : oEq (.tup ((2 :: L1 l).map .int)) (.tup [.int 0]) = some (.bl false) := (oEq_ints (2 :: L1 l) [0]).trans (by simp)
    have c1 := cut_takeP ((2 :: L1 l).map .int) 1 (by simp)
    have c2 := cut_drop ((2 :: L1 l).map .int) 1 (by simp)
    have q1 : oEq (.tup (((2 :: L1 l).map PV.int).take 1)) (.tup [.int 1]) = some (.bl false) := oEq_ints [2] [1]
    have q2 : oEq (.tup (((2 :: L1 l).map PV.int).take 1)) (.tup [.int 2]) = some (.bl true) := oEq_ints [2] [2]
    have q3 : oLe (.int (((2 :: L1 l).map PV.int).length : Int)) (.int 13) = some (.bl true) := oLe_t (by rw [List.length_map, List.length_cons, L1_len]; omega)
    have t1 : yAnd (bT (xOp oEq (xSl (xVar 0) oNone (oSome (xC (.int 1)))) (xTup (aCons (xC (.int 1)) aNil)))) (bT (xOp oEq (xCall bLenA (aCons (xVar 0) aNil)) (xC (.int 3)))) [some (.tup ((2 :: L1 l).map .int))] S = some (.ok false) :=
      yAnd_f (bOp (xSl_ok (x := .tup ((2 :: L1 l).map .int)) (i := none) (j := some 1) rfl rfl rfl c1) rfl q1)
    have t2 : yAnd (bT (xOp oEq (xSl (xVar 0) oNone (oSome (xC (.int 1)))) (xTup (aCons (xC (.int 2)) aNil)))) (bT (xOp oLe (xCall bLenA (aCons (xVar 0) aNil)) (xOp oAdd (xC (.int 1)) (xC (.int 12))))) [some (.tup ((2 :: L1 l).map .int))] S = some (.ok true) :=
      (yAnd_t (bOp (xSl_ok (x := .tup ((2 :: L1 l).map .int)) (i := none) (j := some 1) rfl rfl rfl c1) rfl q2)).trans (bOp (xCall_is (one1 rfl) (bLenA_tup _)) rfl q3)
    exact (sSeq_nx (ρ' := [some (.tup ((2 :: L1 l).map .int))]) (S' := S) ((sIf_f (tP_ok (bOp rfl rfl q0))).trans rfl)).trans ((sSeq_nx (ρ' := [some (.tup ((2 :: L1 l).map .int))]) (S' := S) ((sIf_f (tP_ok t1)).trans rfl)).trans (sSeq_rt ((sIf_t (tP_ok t2)).trans (sRet_ok (xP_ok (xFn_ok (one1 (xSl_ok (x := .tup ((2 :: L1 l).map .int)) (i := some 1) (j := none) rfl rfl rfl c2)) rfl (letters_in_ok l h S))) rfl))))
def Vl.rk : Vl → List PV
  | .no => [.int 0, .int 0, .str ("" : Str)]
  | .nu n => [.int 1, .int n, .str ("" : Str)]
  | .tx l => [.int 2, .int 0, .str (T l)]
theorem rank_ok (v : Vl) (S : Store) : f__law_rank [v.pv] S = some (.ok (.tup v.rk), S) := by
  cases v <;> rfl
end K01

end
section
set_option Elab.async false
set_option linter.all false
set_option maxRecDepth 100000
set_option maxHeartbeats 1000000
namespace K01
open PySem L3 L2
set_option autoImplicit false
/-! ### what is equal -/
theorem eqv_pv (v w : Vl) : PyData.eqv (toD v.pv) (toD w.pv) = decide (v = w) := by
  cases v <;> cases w <;> simp [Vl.pv, toD, PyData.eqv]
  · rename_i a b; by_cases h : a = b <;> simp [h]
  · rename_i a b
    by_cases h : a = b
    · subst h; simp
    · have : ¬ T a = T b := fun z => h (T_inj.mp z)
      simp [h, this]
theorem isD_pv (v : Vl) : isD v.pv = true ∧ dep v.pv = 0 := by cases v <;> exact ⟨rfl, rfl⟩
theorem isDs_vP : ∀ vs : List Vl, isDs (vP vs) = true ∧ deps (vP vs) = 0
  | [] => ⟨rfl, rfl⟩
  | v :: vs => by
    obtain ⟨h1, h2⟩ := isDs_vP vs
    obtain ⟨h3, h4⟩ := isD_pv v
    have e : vP (v :: vs) = v.pv :: vP vs := rfl
    rw [e]
    simp [isDs, deps, h1, h2, h3, h4]
theorem eqvAll_vP : ∀ a b : List Vl, PyData.eqvAll (toDs (vP a)) (toDs (vP b)) = decide (a = b)
  | [], [] => by simp [vP, toDs, PyData.eqvAll]
  | [], b :: bs => by simp [vP, toDs, PyData.eqvAll]
  | a :: as, [] => by simp [vP, toDs, PyData.eqvAll]
  | a :: as, b :: bs => by
    have ih := eqvAll_vP as bs
    have e1 : toDs (vP (a :: as)) = toD a.pv :: toDs (vP as) := by show toDs (a.pv :: vP as) = _; simp [toDs]
    have e2 : toDs (vP (b :: bs)) = toD b.pv :: toDs (vP bs) := by show toDs (b.pv :: vP bs) = _; simp [toDs]
    rw [e1, e2]
    simp only [PyData.eqvAll, eqv_pv, ih]
    by_cases h : a = b <;> simp [h]
theorem eqvP_vP (a b : List Vl) : eqvP (.tup (vP a)) (.tup (vP b)) = some (decide (a = b)) := by
  obtain ⟨h1, h2⟩ := isDs_vP a
  obtain ⟨h3, h4⟩ := isDs_vP b
  simp [eqvP, isD, dep, toD, h1, h2, h3, h4, PyData.eqv, eqvAll_vP]
theorem oNe_pv (v : Vl) : oNe v.pv v.pv = some (.bl false) := by
  have : eqvP v.pv v.pv = some true := by
    obtain ⟨h1, h2⟩ := isD_pv v
    simp [eqvP, h1, h2, eqv_pv]
  simp [oNe, this]
theorem pv_inj {v w : Vl} (h : v.pv = w.pv) : v = w := by
  cases v <;> cases w <;> simp [Vl.pv] at h
  · rfl
  · rw [h]
  · rw [T_inj.mp h]
theorem vP_inj : ∀ {a b : List Vl}, vP a = vP b → a = b
  | [], [], _ => rfl
  | [], b :: bs, h => by cases h
  | a :: as, [], h => by cases h
  | a :: as, b :: bs, h => by
    have h' : a.pv :: vP as = b.pv :: vP bs := h
    injection h' with h1 h2
    rw [pv_inj h1, vP_inj h2]
theorem bys_inj {ks : List Bool} {a b : List Vl} (ha : Row ks a) (hb : Row ks b) (hn : ks ≠ []) (hl : ks.length ≤ 10) : bys a = bys b ↔ a = b := by
  constructor
  · intro h
    have h1 := decode_row_ok ha hn hl []
    have h2 := decode_row_ok hb hn hl []
    rw [h, h2] at h1
    have h3 : vP b = vP a := by
      have := congrArg Prod.fst (Option.some.inj h1)
      injection this with this
      injection this
    exact (vP_inj h3).symm
  · rintro rfl; rfl
theorem oNe_bl (b : Bool) : oNe (.bl b) (.bl b) = some (.bl false) := by cases b <;> rfl
/-! ### what is less -/
def lexB : List Int → List Int → Bool
  | _, [] => false
  | [], _ :: _ => true
  | a :: r, b :: s => if a = b then lexB r s else decide (a < b)
theorem alike_ints : ∀ a b : List Int, PySem.W.alikeAll (a.map PyData.int) (b.map PyData.int) = true
  | [], _ => by simp [PySem.W.alikeAll]
  | a :: r, [] => by simp [PySem.W.alikeAll]
  | a :: r, b :: s => by simp [PySem.W.alikeAll, PySem.W.alike, alike_ints r s]
theorem toks_ints : ∀ a b : List Int, PyProof.Rows.lexLt PyProof.Rows.itemOrd (PySem.W.keyToksAll (a.map PyData.int)) (PySem.W.keyToksAll (b.map PyData.int)) = lexB a b
  | [], [] => by
    rw [List.map_nil]
    simp only [PySem.W.keyToksAll]
    unfold lexB
    rw [PyProof.Rows.lex_self]
    rfl
  | [], b :: s => by
    rw [List.map_nil, List.map_cons, PySem.W.toks_all_cons]
    simp only [PySem.W.keyToksAll]
    rw [PyProof.Rows.lex_diff (by intro h; injection h with h; omega)]
    rfl
  | a :: r, [] => by
    rw [List.map_nil, List.map_cons, PySem.W.toks_all_cons]
    simp only [PySem.W.keyToksAll]
    rw [PyProof.Rows.lex_diff (by intro h; injection h with h; omega)]
    rfl
  | a :: r, b :: s => by
    rw [List.map_cons, List.map_cons]
    unfold lexB
    by_cases h : a = b
    · rw [if_pos h, PySem.W.dataLt_all_yes (by simp [PySem.W.alike]) (by simp [PyData.eqv, h])]
      exact toks_ints r s
    · rw [if_neg h, PySem.W.dataLt_all_no (by simp [PySem.W.alike]) (by simp [PyData.eqv, h]), PySem.W.dataLt_int]
theorem ord_ints (f : PyData → PyData → Bool) (a b : List Int) : oOrd f (.tup (a.map .int)) (.tup (b.map .int)) = some (.bl (f (.tuple (a.map .int)) (.tuple (b.map .int)))) := by
  have : ordOk (.tup (a.map .int)) (.tup (b.map .int)) = true := by
    simp [ordOk, isD, isDs_ints, toD, toDs_ints, PySem.W.alike, alike_ints, notN, dep, deps_ints]
  unfold oOrd
  rw [if_pos this]
  simp [toD, toDs_ints]
theorem lt_ints (a b : List Int) : oLt (.tup (a.map .int)) (.tup (b.map .int)) = some (.bl (lexB a b)) := by
  have : oOrd fLt (.tup (a.map .int)) (.tup (b.map .int)) = some (.bl (lexB a b)) := by rw [ord_ints]; unfold fLt; rw [PySem.W.dataLt_tuple, toks_ints]
  show (match oLtI (.tup (a.map .int)) (.tup (b.map .int)) with | some z => some z | none => oOrd fLt (.tup (a.map .int)) (.tup (b.map .int))) = _
  rw [this]
  rfl
theorem le_ints (a b : List Int) : oLe (.tup (a.map .int)) (.tup (b.map .int)) = some (.bl (!lexB b a)) := by
  have : oOrd fLe (.tup (a.map .int)) (.tup (b.map .int)) = some (.bl (!lexB b a)) := by rw [ord_ints]; unfold fLe; rw [PySem.W.dataLt_tuple, toks_ints]
  show (match oLeI (.tup (a.map .int)) (.tup (b.map .int)) with | some z => some z | none => oOrd fLe (.tup (a.map .int)) (.tup (b.map .int))) = _
  rw [this]
  rfl
def Vl.tg : Vl → Int
  | .no => 0
  | .nu _ => 1
  | .tx _ => 2
def Vl.nb : Vl → Int
  | .nu n => n
  | _ => 0
def Vl.st : Vl → Str
  | .tx l => T l
  | _ => ("" : Str)
theorem rk_is (v : Vl) : v.rk = [.int v.tg, .int v.nb, .str v.st] := by cases v <;> rfl
def rkB (v w : Vl) : Bool := if v.tg = w.tg then (if v.nb = w.nb then decide (v.st.cps.toList < w.st.cps.toList) else decide (v.nb < w.nb)) else decide (v.tg < w.tg)
theorem rk_lt (v w : Vl) : PySem.W.dataLt (.tuple [.int v.tg, .int v.nb, .str v.st]) (.tuple [.int w.tg, .int w.nb, .str w.st]) = rkB v w := by
  rw [PySem.W.dataLt_tuple]
  unfold rkB
  by_cases h1 : v.tg = w.tg
  · rw [if_pos h1, PySem.W.dataLt_all_yes (by simp [PySem.W.alike]) (by simp [PyData.eqv, h1])]
    by_cases h2 : v.nb = w.nb
    · rw [if_pos h2, PySem.W.dataLt_all_yes (by simp [PySem.W.alike]) (by simp [PyData.eqv, h2])]
      by_cases h3 : v.st = w.st
      · rw [PySem.W.dataLt_all_yes (by simp [PySem.W.alike]) (by simp [PyData.eqv, h3])]
        simp only [PySem.W.keyToksAll]
        rw [PyProof.Rows.lex_self, h3]
        have : ¬ (w.st.cps.toList < w.st.cps.toList) := List.lt_irrefl _
        rw [decide_eq_false this]
        rfl
      · rw [PySem.W.dataLt_all_no (by simp [PySem.W.alike]) (by simp [PyData.eqv, h3]), PySem.W.dataLt_str]
    · rw [if_neg h2, PySem.W.dataLt_all_no (by simp [PySem.W.alike]) (by simp [PyData.eqv, h2]), PySem.W.dataLt_int]
  · rw [if_neg h1, PySem.W.dataLt_all_no (by simp [PySem.W.alike]) (by simp [PyData.eqv, h1]), PySem.W.dataLt_int]
theorem ord_rk (f : PyData → PyData → Bool) (v w : Vl) : oOrd f (.tup v.rk) (.tup w.rk) = some (.bl (f (.tuple [.int v.tg, .int v.nb, .str v.st]) (.tuple [.int w.tg, .int w.nb, .str w.st]))) := by
  rw [rk_is, rk_is]
  have : ordOk (.tup [.int v.tg, .int v.nb, .str v.st]) (.tup [.int w.tg, .int w.nb, .str w.st]) = true := by
    simp [ordOk, isD, isDs, toD, toDs, PySem.W.alike, PySem.W.alikeAll, notN, dep, deps]
  unfold oOrd
  rw [if_pos this]
  simp [toD, toDs]
theorem lt_rk (v w : Vl) : oLt (.tup v.rk) (.tup w.rk) = some (.bl (rkB v w)) := by
  have : oOrd fLt (.tup v.rk) (.tup w.rk) = some (.bl (rkB v w)) := by rw [ord_rk]; unfold fLt; rw [rk_lt]
  show (match oLtI (.tup v.rk) (.tup w.rk) with | some z => some z | none => oOrd fLt (.tup v.rk) (.tup w.rk)) = _
  rw [this]
  rfl
theorem le_rk (v w : Vl) : oLe (.tup v.rk) (.tup w.rk) = some (.bl (!rkB w v)) := by
  have : oOrd fLe (.tup v.rk) (.tup w.rk) = some (.bl (!rkB w v)) := by rw [ord_rk]; unfold fLe; rw [rk_lt]
  show (match oLeI (.tup v.rk) (.tup w.rk) with | some z => some z | none => oOrd fLe (.tup v.rk) (.tup w.rk)) = _
  rw [this]
  rfl
theorem T_cps (l : List Nat) : (T l).cps.toList = l.map (· + 97) := by simp [T]
theorem lex_text : ∀ a b : List Nat, lexB (L1 a) (L1 b) = decide (a.map (· + 97) < b.map (· + 97))
  | [], [] => by simp [L1, lexB]
  | [], b :: s => by simp [L1, lexB]
  | a :: r, [] => by simp [L1, lexB]
  | a :: r, b :: s => by
    have ih := lex_text r s
    show (if (a : Int) + 1 = (b : Int) + 1 then lexB (L1 r) (L1 s) else decide ((a : Int) + 1 < (b : Int) + 1)) = decide ((a + 97) :: r.map (· + 97) < (b + 97) :: s.map (· + 97))
    rw [ih]
    by_cases h : a = b
    · subst h
      rw [if_pos rfl]
      apply decide_eq_decide.mpr
      rw [List.cons_lt_cons_iff]
      simp
    · have h1 : ¬ (a : Int) + 1 = (b : Int) + 1 := by omega
      have h2 : ¬ a + 97 = b + 97 := by omega
      rw [if_neg h1]
      apply decide_eq_decide.mpr
      rw [List.cons_lt_cons_iff]
      constructor
      · intro z; exact .inl (by omega)
      · rintro (z | z)
        · omega
        · exact absurd z.1 h2
theorem key_rank (v w : Vl) (hv : v.ok) (hw : w.ok) : lexB v.key w.key = rkB v w := by
  cases v with
  | no => cases w <;> simp [Vl.key, lexB, rkB, Vl.tg, Vl.nb, Vl.st]
  | nu n =>
    cases w with
    | no => simp [Vl.key, lexB, rkB, Vl.tg]
    | tx l => simp [Vl.key, lexB, rkB, Vl.tg]
    | nu m =>
      obtain ⟨n1, n2⟩ := hv
      obtain ⟨m1, m2⟩ := hw
      show (if (1 : Int) = 1 then lexB (two n) (two m) else _) = (if (1 : Int) = 1 then (if n = m then decide ((("" : Str)).cps.toList < (("" : Str)).cps.toList) else decide (n < m)) else _)
      rw [if_pos rfl, if_pos rfl]
      show (if (n - -32768) / 256 % 256 = (m - -32768) / 256 % 256 then (if (n - -32768) % 256 = (m - -32768) % 256 then false else decide ((n - -32768) % 256 < (m - -32768) % 256)) else decide ((n - -32768) / 256 % 256 < (m - -32768) / 256 % 256)) = _
      by_cases h : n = m
      · subst h; simp
      · rw [if_neg h]
        by_cases h1 : (n - -32768) / 256 % 256 = (m - -32768) / 256 % 256
        · have h2 : ¬ (n - -32768) % 256 = (m - -32768) % 256 := by omega
          rw [if_pos h1, if_neg h2]
          exact decide_eq_decide.mpr (by omega)
        · rw [if_neg h1]
          exact decide_eq_decide.mpr (by omega)
  | tx l =>
    cases w with
    | no => simp [Vl.key, lexB, rkB, Vl.tg]
    | nu n => simp [Vl.key, lexB, rkB, Vl.tg]
    | tx m =>
      show (if (2 : Int) = 2 then lexB (L1 l) (L1 m) else _) = (if (2 : Int) = 2 then (if (0 : Int) = 0 then decide ((T l).cps.toList < (T m).cps.toList) else _) else _)
      rw [if_pos rfl, if_pos rfl, if_pos rfl, lex_text, T_cps, T_cps]
end K01

end
section
set_option Elab.async false
set_option linter.all false
set_option maxRecDepth 100000
set_option maxHeartbeats 1000000
namespace L3
theorem sForX_go {ρ : L3.Env} {S S' : Store} {it : Xa} {tg : Tg} {m : Sm} {xs : List PV} (h : it ρ S = some (.ok xs, S')) : sForX it tg m ρ S = sLoop tg m xs ρ S' := by unfold sForX; rw [h]
theorem iRange1X_is {ρ : L3.Env} {S S' : Store} {m : Xa} {j : Int} (h : m ρ S = some (.ok [.int j], S')) (hj : 0 ≤ j ∧ j ≤ 1000000) : iRange1X m ρ S = some (.ok (rngP 0 j.toNat), S') := by
  unfold iRange1X
  rw [h]
  show (if rOk j = true then _ else _) = _
  have : rOk j = true := by
    unfold rOk
    rw [decide_eq_true (show -two62 ≤ j by unfold two62; omega), decide_eq_true (show j < two62 by unfold two62; omega)]
    rfl
  rw [if_pos this]
theorem oAdd_str (a b : PySem.Str) (h : a.length + b.length ≤ 1000000) : oAdd (.str a) (.str b) = some (.str (a ++ b)) := by
  have : decide (a.length + b.length ≤ most) = true := decide_eq_true h
  simp [oAdd, oE, oI0, oSAdd, this]
theorem xLstX_is {ρ : L3.Env} {S S' : Store} {m : Xa} {xs : List PV} (h : m ρ S = some (.ok xs, S')) (hl : xs.length ≤ 1000000) : xLstX m ρ S = some (.ok (.lst xs), S') := by
  unfold xLstX
  rw [h]
  show (if decide (xs.length ≤ most) = true then _ else _) = _
  rw [if_pos (decide_eq_true (show xs.length ≤ most from hl))]
theorem yOrX_f {ρ : L3.Env} {S S' : Store} {m n : Tm} (h : m ρ S = some (.ok false, S')) : yOrX m n ρ S = n ρ S' := by unfold yOrX; rw [h]
theorem yNotX_ok {ρ : L3.Env} {S S' : Store} {m : Tm} {b : Bool} (h : m ρ S = some (.ok b, S')) : yNotX m ρ S = some (.ok (!b), S') := by unfold yNotX; rw [h]
theorem oIxA_lstP (L : List PV) (v : Int) (h0 : 0 ≤ v) (h1 : v < L.length) : oIxA (.lst L) (.int v) = some (L[v.toNat]'(by omega)) := by
  have e : L2.atI L v = some (L[v.toNat]'(by omega)) := by simp [L2.atI, L2.ixN, h0, h1]
  simp [oIxA, oE, oIx, sqOf, e]
end L3
namespace K01
open PySem L3 L2
set_option autoImplicit false
def q0 : Sm := (sAsg (gN 3) (xCallX bTuple (aXCons (xFzX (lLcX (iRange1X (aXCons (xOpX oAdd (xP (xC (.int 1))) (xFnX f__law_take 2 (aP (aCons (xVar 1) (aCons (xC (.int 6)) aNil))))) aXNil)) (gN 10) yYesX (xFnX f__law_pick 2 (aP (aCons (xVar 1) (aCons (xLst (aCons (xC (.str ("number" : Str))) (aCons (xC (.str ("text" : Str))) aNil))) aNil)))) [10])) aXNil)))
def q1 : Sm := (sAsg (gL 2 (gsCons (gN 4) (gsCons (gN 5) gsNil))) (xFzX (lLcX (iP (iRange1 (aCons (xC (.int 2)) aNil))) (gN 9) yYesX (xCallX bTuple (aXCons (xFzX (lLcX (iP (iSeq (xVar 3))) (gN 11) yYesX (xFnX f__law_value 2 (aP (aCons (xVar 1) (aCons (xVar 11) aNil)))) [11])) aXNil)) [9])))
def q2 : Sm := (sAsg (gN 6) (xP (xFn f_encode_row 2 (aCons (xVar 3) (aCons (xVar 4) aNil)))))
def q3 : Sm := (sIf (tP (yOr (bT (xOp oNe (xVar 6) (xFn f__law_row_bytes 1 (aCons (xVar 4) aNil)))) (bT (xOp oNe (xFn f_decode_row 2 (aCons (xVar 3) (aCons (xVar 6) aNil))) (xVar 4))))) (sRet (xP (xC (.bl false)))) sNil)
def q4 : Sm := (sIf (tP (bT (xOp oNe (xOp oEq (xFn f_encode_row 2 (aCons (xVar 3) (aCons (xVar 5) aNil))) (xVar 6)) (xOp oEq (xVar 5) (xVar 4))))) (sRet (xP (xC (.bl false)))) sNil)
def zb : Sm := (sSeq (sIf (tP (yOr (bT (xOp oNe (xFn f_encode_key 1 (aCons (xVar 7) aNil)) (xFn f__law_key 1 (aCons (xVar 7) aNil)))) (bT (xOp oNe (xFn f_decode_key 1 (aCons (xFn f__law_key 1 (aCons (xVar 7) aNil)) aNil)) (xVar 7))))) (sRet (xP (xC (.bl false)))) sNil) (sIf (tP (bT (xOp oNe (xOp oLt (xFn f_encode_key 1 (aCons (xVar 7) aNil)) (xFn f_encode_key 1 (aCons (xVar 8) aNil))) (xOp oLt (xFn f__law_rank 1 (aCons (xVar 7) aNil)) (xFn f__law_rank 1 (aCons (xVar 8) aNil)))))) (sRet (xP (xC (.bl false)))) sNil))
def q5 : Sm := sFor (iZipP (aCons (xVar 4) (aCons (xVar 5) aNil))) (gT 2 (gsCons (gN 7) (gsCons (gN 8) gsNil))) zb
def zb0 : Sm := (sIf (tP (yOr (bT (xOp oNe (xFn f_encode_key 1 (aCons (xVar 7) aNil)) (xFn f__law_key 1 (aCons (xVar 7) aNil)))) (bT (xOp oNe (xFn f_decode_key 1 (aCons (xFn f__law_key 1 (aCons (xVar 7) aNil)) aNil)) (xVar 7))))) (sRet (xP (xC (.bl false)))) sNil)
def zb1 : Sm := (sIf (tP (bT (xOp oNe (xOp oLt (xFn f_encode_key 1 (aCons (xVar 7) aNil)) (xFn f_encode_key 1 (aCons (xVar 8) aNil))) (xOp oLt (xFn f__law_rank 1 (aCons (xVar 7) aNil)) (xFn f__law_rank 1 (aCons (xVar 8) aNil)))))) (sRet (xP (xC (.bl false)))) sNil)
def q6 : Sm := (sPar2 7 8 (fX (xFnX f__law_text 2 (aP (aCons (xVar 1) (aCons (xC (.int 12)) aNil))))) (fX (xFnX f__law_pick 2 (aP (aCons (xVar 1) (aCons (xLst (aCons (xC (.int 0)) (aCons (xUn oNeg (xC (.int 32768))) (aCons (xC (.int 32767)) (aCons (xC .non) (aCons (xC (.str ("" : Str))) (aCons (xC (.str ("a" : Str))) aNil))))))) aNil))))))
def q7 : Sm := (sIf (yOrX (tP (bT (xOp oNe (xOp oLe (xFn f_encode_key 1 (aCons (xVar 7) aNil)) (xFn f_encode_key 1 (aCons (xVar 8) aNil))) (xOp oLe (xFn f__law_rank 1 (aCons (xVar 7) aNil)) (xFn f__law_rank 1 (aCons (xVar 8) aNil)))))) (yNotX (bTX (xFnX f__law_numbers_right 1 (aP (aCons (xVar 1) aNil)))))) (sRet (xP (xC (.bl false)))) sNil)
def qb : Sm := (sSeq q0 (sSeq q1 (sSeq q2 (sSeq q3 (sSeq q4 (sSeq q5 (sSeq q6 q7)))))))
theorem l_1_is : l_1 = sFor (iRange1 (aCons (xC (.int 4)) aNil)) (gN 2) qb := rfl
theorem zb_is : zb = sSeq zb0 zb1 := rfl
section
variable {xs : List Int}
theorem tk {c : Int} (hx : xs.length ≤ 63) (m : Int) (hm : 0 < m) {ρ : L3.Env} {i : Nat} (hi : xVar i ρ (St xs c) = some (.ok (.ref 0))) : ∃ v : Int, (0 ≤ v ∧ v < m) ∧ xFnX f__law_take 2 (aP (aCons (xVar i) (aCons (xC (.int m)) aNil))) ρ (St xs c) = some (.ok (.int v), St xs (c + 1)) := by
  obtain ⟨v, h, e⟩ := take_ok (c := c) hx m hm
  exact ⟨v, h, (xFnX_ok (aP_ok (two2 hi rfl) rfl) rfl).trans e⟩
theorem pick_ok (hx : xs.length ≤ 63) (c : Int) (L : List PV) (hL : L ≠ []) (hf : ∀ x ∈ L, fz x = true) : ∃ x ∈ L, f__law_pick [.ref 0, .lst L] (St xs c) = some (.ok x, St xs (c + 1)) := by
  obtain ⟨v, ⟨v1, v2⟩, e⟩ := take_ok (c := c) hx L.length (by have := List.length_pos_iff.mpr hL; omega)
  refine ⟨L[v.toNat]'(by omega), List.getElem_mem _, ?_⟩
  exact fn_rt (sRet_ok (xOpX_is (xP_ok rfl) rfl ((xFnX_ok (aP_ok (two2 rfl (xCall_is (one1 rfl) (bLenA_lst L))) rfl) rfl).trans e) (oIxA_lstP L v v1 v2)) (hf _ (List.getElem_mem _)))
theorem text_go (hx : xs.length ≤ 63) (q : Option PV) : ∀ (l : List PV) (c : Int) (acc : List Nat) (e : Option PV), acc.length + l.length ≤ 100 → ∃ (w : List Nat) (c' : Int) (e' : Option PV), w.length = l.length ∧ (∀ i ∈ w, i < 26) ∧
    sLoop (gN 3) (sAsg (gN 2) (xOpX oAdd (xP (xVar 2)) (xOpX oIxA (xP (xC (.str LET))) (xFnX f__law_take 2 (aP (aCons (xVar 0) (aCons (xC (.int 26)) aNil))))))) l [some (.ref 0), q, some (.str (T acc)), e] (St xs c) = some (.nx [some (.ref 0), q, some (.str (T (acc ++ w))), e'], St xs c')
  | [], c, acc, e, _ => ⟨[], c, e, rfl, (fun i h => by cases h), by rw [List.append_nil]; rfl⟩
  | x :: l, c, acc, e, hl => by
    rw [List.length_cons] at hl
    obtain ⟨v, ⟨v1, v2⟩, hv⟩ := tk (c := c) hx 26 (by decide) (ρ := [some (.ref 0), q, some (.str (T acc)), some x]) (i := 0) rfl
    obtain ⟨w, c', e', h1, h2, ih⟩ := text_go hx q l (c + 1) (acc ++ [v.toNat]) (some x) (by rw [List.length_append, List.length_singleton]; omega)
    have hn : v.toNat < 26 := by omega
    have at1 := at_LET v.toNat hn
    rw [show ((v.toNat : Nat) : Int) = v by omega] at at1
    have ad : oAdd (.str (T acc)) (.str (T [v.toNat])) = some (.str (T (acc ++ [v.toNat]))) := by rw [oAdd_str _ _ (by rw [T_len, T_len]; simp; omega), T_app]
    refine ⟨v.toNat :: w, c', e', by simp [h1], ?_, ?_⟩
    · intro i hi
      rcases List.mem_cons.mp hi with rfl | hi
      · exact hn
      · exact h2 i hi
    · refine (sLoop_nx (ρ1 := [some (.ref 0), q, some (.str (T acc)), some x]) rfl (sAsg_ok (i := 2) (xOpX_is (xP_ok rfl) rfl (xOpX_is (xP_ok rfl) rfl hv at1) ad) rfl)).trans (ih.trans ?_)
      rw [List.append_assoc]
      rfl
theorem text_ok (hx : xs.length ≤ 63) (c m : Int) (hm : 0 ≤ m ∧ m ≤ 12) : ∃ (l : List Nat) (c' : Int), OkL l ∧ f__law_text [.ref 0, .int m] (St xs c) = some (.ok (.str (T l)), St xs c') := by
  obtain ⟨v, ⟨v1, v2⟩, hv⟩ := take_ok (c := c) hx (m + 1) (by omega)
  obtain ⟨w, c', e', h1, h2, h3⟩ := text_go hx (some (.int m)) (rngP 0 v.toNat) (c + 1) [] none (by rw [rng_len]; simp; omega)
  rw [rng_len] at h1
  rw [List.nil_append] at h3
  refine ⟨w, c', ⟨h2, by omega⟩, ?_⟩
  have r1 : iRange1X (aXCons (xFnX f__law_take 2 (aP (aCons (xVar 0) (aCons (xOp oAdd (xVar 1) (xC (.int 1))) aNil)))) aXNil) [some (.ref 0), some (.int m), some (.str (T [])), none] (St xs c) = some (.ok (rngP 0 v.toNat), St xs (c + 1)) :=
    iRange1X_is (aXCons_ok ((xFnX_ok (aP_ok (two2 rfl (xOp_is rfl rfl (oAdd_int m 1))) rfl) rfl).trans hv) rfl rfl) ⟨v1, by omega⟩
  exact fn_rt ((sSeq_nx (ρ' := [some (.ref 0), some (.int m), some (.str (T [])), none]) (S' := St xs c) rfl).trans ((sSeq_nx ((sForX_go r1).trans h3)).trans (sRet_ok (xP_ok rfl) rfl)))
theorem value_ok (hx : xs.length ≤ 63) (c : Int) (b : Bool) : ∃ (v : Vl) (c' : Int), v.ok ∧ v.kd b ∧ f__law_value [.ref 0, .str (kS b)] (St xs c) = some (.ok v.pv, St xs c') := by
  obtain ⟨v, ⟨v1, v2⟩, hv⟩ := tk (c := c) hx 6 (by decide) (ρ := [some (.ref 0), some (.str (kS b))]) (i := 0) rfl
  by_cases q : v = 0
  · have e : oEq (.int v) (.int 0) = some (.bl true) := by rw [oEq_int, decide_eq_true q]
    exact ⟨.no, c + 1, trivial, trivial, fn_rt (sSeq_rt ((sIf_t (bTX_ok (xOpX_is hv rfl (xP_ok rfl) e))).trans (sRet_ok (x := .non) (xP_ok rfl) rfl)))⟩
  · have e : oEq (.int v) (.int 0) = some (.bl false) := by rw [oEq_int, decide_eq_false q]
    have s0 : sIf (bTX (xOpX oEq (xFnX f__law_take 2 (aP (aCons (xVar 0) (aCons (xC (.int 6)) aNil)))) (xP (xC (.int 0))))) (sRet (xP (xC .non))) sNil [some (.ref 0), some (.str (kS b))] (St xs c) = some (.nx [some (.ref 0), some (.str (kS b))], St xs (c + 1)) := (sIf_f (bTX_ok (xOpX_is hv rfl (xP_ok rfl) e))).trans rfl
    cases b with
    | true =>
      obtain ⟨u, ⟨u1, u2⟩, hu⟩ := tk (c := c + 1) hx 4 (by decide) (ρ := [some (.ref 0), some (.str (kS true))]) (i := 0) rfl
      obtain ⟨m, hm, em⟩ : ∃ m : Int, (0 ≤ m ∧ m ≤ 12) ∧ xIfX (bTX (xOpX oEq (xFnX f__law_take 2 (aP (aCons (xVar 0) (aCons (xC (.int 4)) aNil)))) (xP (xC (.int 0))))) (xP (xC (.int 12))) (xP (xC (.int 2))) [some (.ref 0), some (.str (kS true))] (St xs (c + 1)) = some (.ok (.int m), St xs (c + 1 + 1)) := by
        by_cases w : u = 0
        · have e : oEq (.int u) (.int 0) = some (.bl true) := by rw [oEq_int, decide_eq_true w]
          exact ⟨12, by decide, (xIfX_t (bTX_ok (xOpX_is hu rfl (xP_ok rfl) e))).trans rfl⟩
        · have e : oEq (.int u) (.int 0) = some (.bl false) := by rw [oEq_int, decide_eq_false w]
          exact ⟨2, by decide, (xIfX_f (bTX_ok (xOpX_is hu rfl (xP_ok rfl) e))).trans rfl⟩
      obtain ⟨l, c', hl, ht⟩ := text_ok hx (c + 1 + 1) m hm
      exact ⟨.tx l, c', hl, rfl, fn_rt ((sSeq_nx s0).trans (sSeq_rt ((sIf_t (tP_ok (bOp rfl rfl kS_txt))).trans (sRet_ok ((xFnX_ok (aXCons_ok (xP_ok rfl) rfl (aXCons_ok em rfl rfl)) rfl).trans ht) rfl))))⟩
    | false =>
      obtain ⟨u, ⟨u1, u2⟩, hu⟩ := tk (c := c + 1) hx 5 (by decide) (ρ := [some (.ref 0), some (.str (kS false))]) (i := 0) rfl
      obtain ⟨w, ⟨w1, w2⟩, hw⟩ := tk (c := c + 1 + 1) hx 65536 (by decide) (ρ := [some (.ref 0), some (.str (kS false))]) (i := 0) rfl
      obtain ⟨x, hm, hp⟩ := pick_ok hx (c + 1 + 1 + 1) [.int u, .int (w - 32768), .int (-32768), .int 32767, .int (-1), .int 255, .int 256] (by simp) (by intro x hx; simp at hx; rcases hx with rfl | rfl | rfl | rfl | rfl | rfl | rfl <;> rfl)
      have lst : xLstX (aXCons (xFnX f__law_take 2 (aP (aCons (xVar 0) (aCons (xC (.int 5)) aNil)))) (aXCons (xOpX oSub (xFnX f__law_take 2 (aP (aCons (xVar 0) (aCons (xC (.int 65536)) aNil)))) (xP (xC (.int 32768)))) (aXCons (xP (xUn oNeg (xC (.int 32768)))) (aXCons (xP (xC (.int 32767))) (aXCons (xP (xUn oNeg (xC (.int 1)))) (aXCons (xP (xC (.int 255))) (aXCons (xP (xC (.int 256))) aXNil))))))) [some (.ref 0), some (.str (kS false))] (St xs (c + 1)) = some (.ok (.lst [.int u, .int (w - 32768), .int (-32768), .int 32767, .int (-1), .int 255, .int 256]), St xs (c + 1 + 1 + 1)) :=
        xLstX_is (aXCons_ok hu rfl (aXCons_ok (xOpX_is hw rfl (xP_ok rfl) (oSub_int w 32768)) rfl rfl)) (by simp)
      obtain ⟨n, hn, rfl⟩ : ∃ n : Int, (-32768 ≤ n ∧ n ≤ 32767) ∧ x = .int n := by
        simp at hm
        rcases hm with rfl | rfl | rfl | rfl | rfl | rfl | rfl
        · exact ⟨u, by omega, rfl⟩
        · exact ⟨w - 32768, by omega, rfl⟩
        · exact ⟨-32768, by decide, rfl⟩
        · exact ⟨32767, by decide, rfl⟩
        · exact ⟨-1, by decide, rfl⟩
        · exact ⟨255, by decide, rfl⟩
        · exact ⟨256, by decide, rfl⟩
      have kt : oEq (.str (kS false)) (.str ("text" : Str)) = some (.bl false) := rfl
      exact ⟨.nu n, c + 1 + 1 + 1 + 1, hn, rfl, fn_rt ((sSeq_nx s0).trans ((sSeq_nx (ρ' := [some (.ref 0), some (.str (kS false))]) (S' := St xs (c + 1)) ((sIf_f (tP_ok (bOp rfl rfl kt))).trans rfl)).trans (sRet_ok ((xFnX_ok (aXCons_ok (xP_ok rfl) rfl (aXCons_ok lst rfl rfl)) rfl).trans hp) rfl)))⟩
end
end K01

end
section
set_option Elab.async false
set_option linter.all false
set_option maxRecDepth 100000
set_option maxHeartbeats 1000000
namespace K01
open PySem L3 L2
set_option autoImplicit false
section
variable {xs : List Int}
@[reducible] def En (ns : List Int) (e2 e3 e4 e5 e6 e7 e8 e9 e10 e11 : Option PV) : L3.Env := [some (.kl (ns.map .int)), some (.ref 0), e2, e3, e4, e5, e6, e7, e8, e9, e10, e11]
variable {ns : List Int} {e2 e3 e4 e5 e6 e7 e8 e9 e10 e11 : Option PV}
theorem kinds_draw (hx : xs.length ≤ 63) : ∀ (l : List PV) (c : Int), ∃ (ks : List Bool) (c' : Int), ks.length = l.length ∧
    lcGoX (gN 10) yYesX (xFnX f__law_pick 2 (aP (aCons (xVar 1) (aCons (xLst (aCons (xC (.str ("number" : Str))) (aCons (xC (.str ("text" : Str))) aNil))) aNil)))) (En ns e2 e3 e4 e5 e6 e7 e8 e9 none e11) l (St xs c) = some (kP ks, St xs c')
  | [], c => ⟨[], c, rfl, rfl⟩
  | x :: l, c => by
    obtain ⟨y, hm, hp⟩ := pick_ok hx c [.str ("number" : Str), .str ("text" : Str)] (by simp) (by intro x hx; simp at hx; rcases hx with rfl | rfl <;> rfl)
    obtain ⟨ks, c', h1, ih⟩ := kinds_draw hx l (c + 1)
    obtain ⟨b, rfl⟩ : ∃ b : Bool, y = .str (kS b) := by
      simp at hm
      rcases hm with rfl | rfl
      · exact ⟨false, rfl⟩
      · exact ⟨true, rfl⟩
    refine ⟨b :: ks, c', by simp [h1], ?_⟩
    have e : xFnX f__law_pick 2 (aP (aCons (xVar 1) (aCons (xLst (aCons (xC (.str ("number" : Str))) (aCons (xC (.str ("text" : Str))) aNil))) aNil))) ((En ns e2 e3 e4 e5 e6 e7 e8 e9 none e11).set 10 (some x)) (St xs c) = some (.ok (.str (kS b)), St xs (c + 1)) := (xFnX_ok (aP_ok (two2 rfl rfl) rfl) rfl).trans hp
    unfold lcGoX
    simp only [gN, yYesX, e, ih, fz, if_true, Option.map_some]
    rfl
theorem row_draw (hx : xs.length ≤ 63) : ∀ (ks : List Bool) (c : Int), ∃ (vs : List Vl) (c' : Int), Row ks vs ∧
    lcGoX (gN 11) yYesX (xFnX f__law_value 2 (aP (aCons (xVar 1) (aCons (xVar 11) aNil)))) (En ns e2 e3 e4 e5 e6 e7 e8 e9 e10 none) (kP ks) (St xs c) = some (vP vs, St xs c')
  | [], c => ⟨[], c, .nil, rfl⟩
  | b :: ks, c => by
    obtain ⟨v, c1, h1, h2, hv⟩ := value_ok hx c b
    obtain ⟨vs, c', hr, ih⟩ := row_draw hx ks c1
    refine ⟨v :: vs, c', .cons h1 h2 hr, ?_⟩
    have e : xFnX f__law_value 2 (aP (aCons (xVar 1) (aCons (xVar 11) aNil))) ((En ns e2 e3 e4 e5 e6 e7 e8 e9 e10 none).set 11 (some (.str (kS b)))) (St xs c) = some (.ok v.pv, St xs c1) := (xFnX_ok (aP_ok (two2 rfl rfl) rfl) rfl).trans hv
    show lcGoX _ _ _ _ (PV.str (kS b) :: kP ks) _ = _
    unfold lcGoX
    simp only [gN, yYesX, e, ih, fz_pv, if_true, Option.map_some]
    rfl
theorem q0_ok (hx : xs.length ≤ 63) (c : Int) : ∃ (ks : List Bool) (c' : Int), ks ≠ [] ∧ ks.length ≤ 10 ∧ q0 (En ns e2 e3 e4 e5 e6 e7 e8 e9 e10 e11) (St xs c) = some (.nx (En ns e2 (some (.tup (kP ks))) e4 e5 e6 e7 e8 e9 e10 e11), St xs c') := by
  obtain ⟨v, ⟨v1, v2⟩, hv⟩ := tk (c := c) hx 6 (by decide) (ρ := En ns e2 e3 e4 e5 e6 e7 e8 e9 e10 e11) (i := 1) rfl
  obtain ⟨ks, c', h1, h2⟩ := kinds_draw (ns := ns) (e2 := e2) (e3 := e3) (e4 := e4) (e5 := e5) (e6 := e6) (e7 := e7) (e8 := e8) (e9 := e9) (e11 := e11) hx (rngP 0 (1 + v).toNat) (c + 1)
  rw [rng_len] at h1
  refine ⟨ks, c', fun z => by rw [z] at h1; simp at h1; omega, by omega, ?_⟩
  have r1 := iRange1X_is (aXCons_ok (n := aXNil) (xOpX_is (m := xP (xC (.int 1))) (xP_ok rfl) rfl hv (oAdd_int 1 v)) rfl rfl) ⟨by omega, by omega⟩
  exact sAsg_ok (i := 3) (xCallX_is (aXCons_ok (xFzX_is (lLcX_is r1 (by rw [rng_len]; omega) h2)) rfl rfl) (bTuple_lst _)) rfl
theorem q1_ok (hx : xs.length ≤ 63) (c : Int) (ks : List Bool) (hk : ks.length ≤ 10) : ∃ (a b : List Vl) (c' : Int), Row ks a ∧ Row ks b ∧ q1 (En ns e2 (some (.tup (kP ks))) e4 e5 e6 e7 e8 e9 e10 e11) (St xs c) = some (.nx (En ns e2 (some (.tup (kP ks))) (some (.tup (vP a))) (some (.tup (vP b))) e6 e7 e8 e9 e10 e11), St xs c') := by
  obtain ⟨a, c1, ha, ea⟩ := row_draw (ns := ns) (e2 := e2) (e3 := some (.tup (kP ks))) (e4 := e4) (e5 := e5) (e6 := e6) (e7 := e7) (e8 := e8) (e9 := some (.int 0)) (e10 := e10) hx ks c
  obtain ⟨b, c2, hb, eb⟩ := row_draw (ns := ns) (e2 := e2) (e3 := some (.tup (kP ks))) (e4 := e4) (e5 := e5) (e6 := e6) (e7 := e7) (e8 := e8) (e9 := some (.int 1)) (e10 := e10) hx ks c1
  refine ⟨a, b, c2, ha, hb, ?_⟩
  have kl : (kP ks).length ≤ 1000000 := by unfold kP; rw [List.length_map]; omega
  have one : ∀ (i : Int) (c c' : Int) (w : List Vl), lcGoX (gN 11) yYesX (xFnX f__law_value 2 (aP (aCons (xVar 1) (aCons (xVar 11) aNil)))) (En ns e2 (some (.tup (kP ks))) e4 e5 e6 e7 e8 (some (.int i)) e10 none) (kP ks) (St xs c) = some (vP w, St xs c') →
      xCallX bTuple (aXCons (xFzX (lLcX (iP (iSeq (xVar 3))) (gN 11) yYesX (xFnX f__law_value 2 (aP (aCons (xVar 1) (aCons (xVar 11) aNil)))) [11])) aXNil) (En ns e2 (some (.tup (kP ks))) e4 e5 e6 e7 e8 (some (.int i)) e10 e11) (St xs c) = some (.ok (.tup (vP w)), St xs c') :=
    fun i c c' w h => xCallX_is (aXCons_ok (xFzX_is (lLcX_is (iP_ok (iSeq_tup (xs := kP ks) rfl)) kl h)) rfl rfl) (bTuple_lst _)
  have g1 := one 0 c c1 a ea
  have g2 := one 1 c1 c2 b eb
  have go : lcGoX (gN 9) yYesX (xCallX bTuple (aXCons (xFzX (lLcX (iP (iSeq (xVar 3))) (gN 11) yYesX (xFnX f__law_value 2 (aP (aCons (xVar 1) (aCons (xVar 11) aNil)))) [11])) aXNil)) (En ns e2 (some (.tup (kP ks))) e4 e5 e6 e7 e8 none e10 e11) (rngP 0 2) (St xs c) = some ([.tup (vP a), .tup (vP b)], St xs c2) := by
    have g1' : xCallX bTuple (aXCons (xFzX (lLcX (iP (iSeq (xVar 3))) (gN 11) yYesX (xFnX f__law_value 2 (aP (aCons (xVar 1) (aCons (xVar 11) aNil)))) [11])) aXNil) ((En ns e2 (some (.tup (kP ks))) e4 e5 e6 e7 e8 none e10 e11).set 9 (some (.int 0))) (St xs c) = some (.ok (.tup (vP a)), St xs c1) := g1
    have g2' : xCallX bTuple (aXCons (xFzX (lLcX (iP (iSeq (xVar 3))) (gN 11) yYesX (xFnX f__law_value 2 (aP (aCons (xVar 1) (aCons (xVar 11) aNil)))) [11])) aXNil) ((En ns e2 (some (.tup (kP ks))) e4 e5 e6 e7 e8 none e10 e11).set 9 (some (.int 1))) (St xs c1) = some (.ok (.tup (vP b)), St xs c2) := g2
    have er : rngP 0 2 = [.int 0, .int 1] := rfl
    rw [er]
    unfold lcGoX
    simp only [gN, yYesX, g1', fz, if_true]
    unfold lcGoX
    simp only [gN, yYesX, g2', fz, if_true]
    rfl
  have r1 := iRange1_is (ρ := En ns e2 (some (.tup (kP ks))) e4 e5 e6 e7 e8 e9 e10 e11) (S := St xs c) (m := aCons (xC (.int 2)) aNil) (j := 2) rfl (by decide)
  unfold q1 sAsg
  exact (xThen_ok (xFzX_is (lLcX_is (iP_ok r1) (by decide) go))).trans rfl
theorem q2_ok (S : Store) (ks : List Bool) (a b : List Vl) (ha : Row ks a) (hn : ks ≠ []) (hk : ks.length ≤ 10) : q2 (En ns e2 (some (.tup (kP ks))) (some (.tup (vP a))) (some (.tup (vP b))) e6 e7 e8 e9 e10 e11) S = some (.nx (En ns e2 (some (.tup (kP ks))) (some (.tup (vP a))) (some (.tup (vP b))) (some (.tup ((bys a).map .int))) e7 e8 e9 e10 e11), S) :=
  sAsg_ok (i := 6) (xP_ok (xFn_ok (two2 rfl rfl) rfl (encode_row_ok ha hn hk S))) rfl
theorem q34_ok (S : Store) (ks : List Bool) (a b : List Vl) (ha : Row ks a) (hb : Row ks b) (hn : ks ≠ []) (hk : ks.length ≤ 10) (ρ : L3.Env) (hρ : ρ = En ns e2 (some (.tup (kP ks))) (some (.tup (vP a))) (some (.tup (vP b))) (some (.tup ((bys a).map .int))) e7 e8 e9 e10 e11) : q3 ρ S = some (.nx ρ, S) ∧ q4 ρ S = some (.nx ρ, S) := by
  subst hρ
  have la := ha.len
  have n2 : oNe (.tup (vP a)) (.tup (vP a)) = some (.bl false) := by simp [oNe, eqvP_vP]
  have b1 : bT (xOp oNe (xVar 6) (xFn f__law_row_bytes 1 (aCons (xVar 4) aNil))) (En ns e2 (some (.tup (kP ks))) (some (.tup (vP a))) (some (.tup (vP b))) (some (.tup ((bys a).map .int))) e7 e8 e9 e10 e11) S = some (.ok false) := bOp rfl (xFn_ok (one1 rfl) rfl (law_row_bytes_ok ha.all (by omega) S)) (oNe_self_ints _)
  have b2 : bT (xOp oNe (xFn f_decode_row 2 (aCons (xVar 3) (aCons (xVar 6) aNil))) (xVar 4)) (En ns e2 (some (.tup (kP ks))) (some (.tup (vP a))) (some (.tup (vP b))) (some (.tup ((bys a).map .int))) e7 e8 e9 e10 e11) S = some (.ok false) := bOp (xFn_ok (two2 rfl rfl) rfl (decode_row_ok ha hn hk S)) rfl n2
  have o1 : oEq (.tup ((bys b).map .int)) (.tup ((bys a).map .int)) = some (.bl (decide (b = a))) := by
    rw [oEq_ints, decide_eq_decide.mpr (bys_inj hb ha hn hk)]
  have o2 : oEq (.tup (vP b)) (.tup (vP a)) = some (.bl (decide (b = a))) := by simp [oEq, eqvP_vP]
  have b3 : bT (xOp oNe (xOp oEq (xFn f_encode_row 2 (aCons (xVar 3) (aCons (xVar 5) aNil))) (xVar 6)) (xOp oEq (xVar 5) (xVar 4))) (En ns e2 (some (.tup (kP ks))) (some (.tup (vP a))) (some (.tup (vP b))) (some (.tup ((bys a).map .int))) e7 e8 e9 e10 e11) S = some (.ok false) := bOp (xOp_is (xFn_ok (two2 rfl rfl) rfl (encode_row_ok hb hn hk S)) rfl o1) (xOp_is rfl rfl o2) (oNe_bl _)
  exact ⟨(sIf_f (tP_ok ((yOr_f b1).trans b2))).trans rfl, (sIf_f (tP_ok b3)).trans rfl⟩
theorem fz1 (v : Vl) : ([v.pv].all fz && [v.pv].length == 1) = true := by rw [List.all_cons, fz_pv]; rfl
theorem zb_ok (S : Store) (v w : Vl) (hv : v.ok) (hw : w.ok) : zb (En ns e2 e3 e4 e5 e6 (some v.pv) (some w.pv) e9 e10 e11) S = some (.nx (En ns e2 e3 e4 e5 e6 (some v.pv) (some w.pv) e9 e10 e11), S) := by
  have b1 : bT (xOp oNe (xFn f_encode_key 1 (aCons (xVar 7) aNil)) (xFn f__law_key 1 (aCons (xVar 7) aNil))) (En ns e2 e3 e4 e5 e6 (some v.pv) (some w.pv) e9 e10 e11) S = some (.ok false) := bOp (xFn_ok (one1 rfl) (fz1 v) (encode_key_ok v hv S)) (xFn_ok (one1 rfl) (fz1 v) (law_key_ok v hv S)) (oNe_self_ints _)
  have b2 : bT (xOp oNe (xFn f_decode_key 1 (aCons (xFn f__law_key 1 (aCons (xVar 7) aNil)) aNil)) (xVar 7)) (En ns e2 e3 e4 e5 e6 (some v.pv) (some w.pv) e9 e10 e11) S = some (.ok false) := bOp (xFn_ok (one1 (xFn_ok (one1 rfl) (fz1 v) (law_key_ok v hv S))) rfl (decode_key_ok v hv S)) rfl (oNe_pv v)
  have l1 := lt_ints v.key w.key
  rw [key_rank v w hv hw] at l1
  have b3 : bT (xOp oNe (xOp oLt (xFn f_encode_key 1 (aCons (xVar 7) aNil)) (xFn f_encode_key 1 (aCons (xVar 8) aNil))) (xOp oLt (xFn f__law_rank 1 (aCons (xVar 7) aNil)) (xFn f__law_rank 1 (aCons (xVar 8) aNil)))) (En ns e2 e3 e4 e5 e6 (some v.pv) (some w.pv) e9 e10 e11) S = some (.ok false) :=
    bOp (xOp_is (xFn_ok (one1 rfl) (fz1 v) (encode_key_ok v hv S)) (xFn_ok (one1 rfl) (fz1 w) (encode_key_ok w hw S)) l1) (xOp_is (xFn_ok (one1 rfl) (fz1 v) (rank_ok v S)) (xFn_ok (one1 rfl) (fz1 w) (rank_ok w S)) (lt_rk v w)) (oNe_bl _)
  rw [zb_is]
  have z0 : zb0 (En ns e2 e3 e4 e5 e6 (some v.pv) (some w.pv) e9 e10 e11) S = some (.nx (En ns e2 e3 e4 e5 e6 (some v.pv) (some w.pv) e9 e10 e11), S) := (sIf_f (tP_ok ((yOr_f b1).trans b2))).trans rfl
  exact (sSeq_nx z0).trans ((sIf_f (tP_ok b3)).trans rfl)
theorem zip_go (S : Store) : ∀ (a b : List Vl) (e7 e8 : Option PV), (∀ v ∈ a, v.ok) → (∀ v ∈ b, v.ok) → ∃ f7 f8, sLoop (gT 2 (gsCons (gN 7) (gsCons (gN 8) gsNil))) zb (zipP (vP a) (vP b)) (En ns e2 e3 e4 e5 e6 e7 e8 e9 e10 e11) S = some (.nx (En ns e2 e3 e4 e5 e6 f7 f8 e9 e10 e11), S)
  | [], b, e7, e8, _, _ => ⟨e7, e8, rfl⟩
  | v :: a, [], e7, e8, _, _ => ⟨e7, e8, rfl⟩
  | v :: a, w :: b, e7, e8, ha, hb => by
    obtain ⟨f7, f8, ih⟩ := zip_go S a b (some v.pv) (some w.pv) (fun x hx => ha x (List.mem_cons_of_mem _ hx)) (fun x hx => hb x (List.mem_cons_of_mem _ hx))
    exact ⟨f7, f8, (sLoop_nx (ρ1 := En ns e2 e3 e4 e5 e6 (some v.pv) (some w.pv) e9 e10 e11) rfl (zb_ok S v w (ha v List.mem_cons_self) (hb w List.mem_cons_self))).trans ih⟩
theorem q67_ok (hx : xs.length ≤ 63) (c : Int) : ∃ (f7 f8 : Option PV) (c' : Int), sSeq q6 q7 (En ns e2 e3 e4 e5 e6 e7 e8 e9 e10 e11) (St xs c) = some (.nx (En ns e2 e3 e4 e5 e6 f7 f8 e9 e10 e11), St xs c') := by
  obtain ⟨l, c1, hl, ht⟩ := text_ok hx c 12 (by decide)
  obtain ⟨x, hm, hp⟩ := pick_ok hx c1 [.int 0, .int (-32768), .int 32767, .non, .str ("" : Str), .str ("a" : Str)] (by simp) (by intro x hx; simp at hx; rcases hx with rfl | rfl | rfl | rfl | rfl | rfl <;> rfl)
  obtain ⟨w, hw, rfl⟩ : ∃ w : Vl, w.ok ∧ x = w.pv := by
    simp at hm
    rcases hm with rfl | rfl | rfl | rfl | rfl | rfl
    · exact ⟨.nu 0, by unfold Vl.ok; decide, rfl⟩
    · exact ⟨.nu (-32768), by unfold Vl.ok; decide, rfl⟩
    · exact ⟨.nu 32767, by unfold Vl.ok; decide, rfl⟩
    · exact ⟨.no, trivial, rfl⟩
    · exact ⟨.tx [], ⟨by simp, by simp⟩, rfl⟩
    · exact ⟨.tx [0], ⟨by simp, by simp⟩, rfl⟩
  have hv : (Vl.tx l).ok := hl
  obtain ⟨c2, hr⟩ := numbers_right_ok hx (c1 + 1)
  have s6 : q6 (En ns e2 e3 e4 e5 e6 e7 e8 e9 e10 e11) (St xs c) = some (.nx (En ns e2 e3 e4 e5 e6 (some (.str (T l))) (some w.pv) e9 e10 e11), St xs (c1 + 1)) :=
    sPar2_ok (i := 7) (j := 8) (fX_ok ((xFnX_ok (aP_ok (two2 rfl rfl) rfl) rfl).trans ht) rfl) (fX_ok ((xFnX_ok (aP_ok (two2 rfl rfl) rfl) rfl).trans hp) (fz_pv w))
  have l1 := le_ints (Vl.tx l).key w.key
  rw [key_rank w (.tx l) hw hv] at l1
  have b3 : bT (xOp oNe (xOp oLe (xFn f_encode_key 1 (aCons (xVar 7) aNil)) (xFn f_encode_key 1 (aCons (xVar 8) aNil))) (xOp oLe (xFn f__law_rank 1 (aCons (xVar 7) aNil)) (xFn f__law_rank 1 (aCons (xVar 8) aNil)))) (En ns e2 e3 e4 e5 e6 (some (.str (T l))) (some w.pv) e9 e10 e11) (St xs (c1 + 1)) = some (.ok false) :=
    bOp (xOp_is (xFn_ok (one1 rfl) (fz1 (.tx l)) (encode_key_ok (.tx l) hv _)) (xFn_ok (one1 rfl) (fz1 w) (encode_key_ok w hw _)) l1) (xOp_is (xFn_ok (one1 rfl) (fz1 (.tx l)) (rank_ok (.tx l) _)) (xFn_ok (one1 rfl) (fz1 w) (rank_ok w _)) (le_rk (.tx l) w)) (oNe_bl _)
  have s7 : q7 (En ns e2 e3 e4 e5 e6 (some (.str (T l))) (some w.pv) e9 e10 e11) (St xs (c1 + 1)) = some (.nx (En ns e2 e3 e4 e5 e6 (some (.str (T l))) (some w.pv) e9 e10 e11), St xs c2) :=
    (sIf_f ((yOrX_f (tP_ok b3)).trans (yNotX_ok (b := true) (bTX_ok ((xFnX_ok (aP_ok (one1 rfl) rfl) rfl).trans hr))))).trans rfl
  exact ⟨_, _, c2, (sSeq_nx s6).trans s7⟩
theorem qb_ok (hx : xs.length ≤ 63) (c : Int) : ∃ (f3 f4 f5 f6 f7 f8 : Option PV) (c' : Int), qb (En ns e2 e3 e4 e5 e6 e7 e8 e9 e10 e11) (St xs c) = some (.nx (En ns e2 f3 f4 f5 f6 f7 f8 e9 e10 e11), St xs c') := by
  obtain ⟨ks, c1, hn, hk, s0⟩ := q0_ok (ns := ns) (e2 := e2) (e3 := e3) (e4 := e4) (e5 := e5) (e6 := e6) (e7 := e7) (e8 := e8) (e9 := e9) (e10 := e10) (e11 := e11) hx c
  obtain ⟨a, b, c2, ha, hb, s1⟩ := q1_ok (ns := ns) (e2 := e2) (e4 := e4) (e5 := e5) (e6 := e6) (e7 := e7) (e8 := e8) (e9 := e9) (e10 := e10) (e11 := e11) hx c1 ks hk
  have s2 := q2_ok (ns := ns) (e2 := e2) (e6 := e6) (e7 := e7) (e8 := e8) (e9 := e9) (e10 := e10) (e11 := e11) (St xs c2) ks a b ha hn hk
  obtain ⟨s3, s4⟩ := q34_ok (St xs c2) ks a b ha hb hn hk _ (rfl : _ = En ns e2 (some (.tup (kP ks))) (some (.tup (vP a))) (some (.tup (vP b))) (some (.tup ((bys a).map .int))) e7 e8 e9 e10 e11)
  obtain ⟨f7, f8, z⟩ := zip_go (ns := ns) (e2 := e2) (e3 := some (.tup (kP ks))) (e4 := some (.tup (vP a))) (e5 := some (.tup (vP b))) (e6 := some (.tup ((bys a).map .int))) (e9 := e9) (e10 := e10) (e11 := e11) (St xs c2) a b e7 e8 ha.all hb.all
  have s5 : q5 (En ns e2 (some (.tup (kP ks))) (some (.tup (vP a))) (some (.tup (vP b))) (some (.tup ((bys a).map .int))) e7 e8 e9 e10 e11) (St xs c2) = some (.nx (En ns e2 (some (.tup (kP ks))) (some (.tup (vP a))) (some (.tup (vP b))) (some (.tup ((bys a).map .int))) f7 f8 e9 e10 e11), St xs c2) := (sFor_go (xs := zipP (vP a) (vP b)) rfl).trans z
  obtain ⟨g7, g8, c3, s6⟩ := q67_ok (ns := ns) (e2 := e2) (e3 := some (.tup (kP ks))) (e4 := some (.tup (vP a))) (e5 := some (.tup (vP b))) (e6 := some (.tup ((bys a).map .int))) (e7 := f7) (e8 := f8) (e9 := e9) (e10 := e10) (e11 := e11) hx c2
  exact ⟨_, _, _, _, _, _, c3, (sSeq_nx s0).trans ((sSeq_nx s1).trans ((sSeq_nx s2).trans ((sSeq_nx s3).trans ((sSeq_nx s4).trans ((sSeq_nx s5).trans s6)))))⟩
theorem turns (hx : xs.length ≤ 63) : ∀ (l : List PV) (c : Int) (e2 e3 e4 e5 e6 e7 e8 : Option PV), ∃ (f2 f3 f4 f5 f6 f7 f8 : Option PV) (c' : Int), sLoop (gN 2) qb l (En ns e2 e3 e4 e5 e6 e7 e8 e9 e10 e11) (St xs c) = some (.nx (En ns f2 f3 f4 f5 f6 f7 f8 e9 e10 e11), St xs c')
  | [], c, e2, e3, e4, e5, e6, e7, e8 => ⟨e2, e3, e4, e5, e6, e7, e8, c, rfl⟩
  | x :: l, c, e2, e3, e4, e5, e6, e7, e8 => by
    obtain ⟨f3, f4, f5, f6, f7, f8, c1, s⟩ := qb_ok (ns := ns) (e2 := some x) (e3 := e3) (e4 := e4) (e5 := e5) (e6 := e6) (e7 := e7) (e8 := e8) (e9 := e9) (e10 := e10) (e11 := e11) hx c
    obtain ⟨g2, g3, g4, g5, g6, g7, g8, c2, ih⟩ := turns hx l c1 (some x) f3 f4 f5 f6 f7 f8
    exact ⟨g2, g3, g4, g5, g6, g7, g8, c2, (sLoop_nx (ρ1 := En ns (some x) e3 e4 e5 e6 e7 e8 e9 e10 e11) rfl s).trans ih⟩
end
theorem LAW (ns : List Int) (hl : ns.length ≤ 63) : ∃ S, law0 (fBody 12 b_f_law) [.kl (ns.map .int)] [] = some (.ok (.bl true), S) := by
  have s0 : l_0 (([PV.kl (ns.map .int)] : List PV).map some ++ List.replicate 11 none) [] = some (.nx (En ns none none none none none none none none none none), St ns 0) := rfl
  obtain ⟨g2, g3, g4, g5, g6, g7, g8, c2, z⟩ := turns (ns := ns) (e9 := none) (e10 := none) (e11 := none) hl (rngP 0 4) 0 none none none none none none none
  have s1 : l_1 (En ns none none none none none none none none none none) (St ns 0) = some (.nx (En ns g2 g3 g4 g5 g6 g7 g8 none none none), St ns c2) := by
    rw [l_1_is]
    exact (sFor_go (xs := rngP 0 4) rfl).trans z
  refine ⟨St ns c2, ?_⟩
  have : fBody 12 b_f_law [.kl (ns.map .int)] [] = some (.ok (.bl true), St ns c2) := fn_rt ((sSeq_nx s0).trans ((sSeq_nx s1).trans (sRet_ok (xP_ok rfl) rfl)))
  unfold law0
  rw [this]
end K01
theorem PySem.Challenge.cw_tidebase_k01_whole_rows_holds : PySem.Challenge.rw_tidebase_k01_whole_rows.Holds := by
  exact K01.holds K01.LAW

end
