import PyProof.Rows.All
import Wide.All
import OpenK.AllK
import Wide.FinOn
import HandS.ForMost
import HandS.Exc
import HandS.TryOnly
import HandS.ExcOwn
import HandS.WordsExc
import HandS.Star
import HandS.TupAny
import HandS.TupMul
import HandS.IsInst
import HandS.Style
import HandS.Flow
import HandS.Conv
import HandS.Deep
import HandS.SortInts
import HandS.Codes
import HandS.DictComp
import HandS.ListItems
import HandS.SetKeys
import HandS.SortKw
import HandS.Zip
import HandS.TupLe
import HandS.Lambda
import HandS.ClsMeth
import HandS.Property
import HandS.Defaults
import HandS.ExcSuper
import HandS.Head0
import HandS.Head1
import HandS.Head2
import HandS.HeadEnd
import HandS.HeadHook1
import HandS.HeadHook2
import KE.DataEq
import KE.GoesMore
import KE.GoesEnum
import HandS.NoneIn
import HandS.Replace
import KE.DataCmp
import KE.DataMinMax
import KE.SortData
import PyProof.Rows.RowBridgeK
import HandS.More
import PySem.Challenge.RW_tidebase_k35_edges_of_nodes
set_option Elab.async false
set_option linter.all false
set_option maxRecDepth 100000
/-! L3: plain values (PV), plain environments, a plain store; what a heap bears of them; the judgements «this text computes that plain function». -/
namespace L3
open PySem PySem.Spec L2
set_option autoImplicit false

/-- a plain value. tup, lst, dct: never changed again; ref: an object of the store; ol, od: a list, a dict that its one owner may change -/
inductive PV where
  | non | bl (b : Bool) | int (i : Int) | str (x : Str) | ty (n : String)
  | tup (xs : List PV) | lst (xs : List PV) | dct (kvs : List (Key × PV))
  | ref (n : Nat) | kl (xs : List PV)
  | ol (xs : List PV) | od (kvs : List (Key × PV))

/-- never changed again -/
def fz : PV → Bool
  | .ol _ => false
  | .od _ => false
  | _ => true

/-- an object of the store -/
inductive SO where
  | ins (c : Str) (fs : List (Str × PV))
  | lst (xs : List PV)
  | dct (kvs : List (Key × PV))
abbrev Store := List SO
abbrev Env := List (Option PV)

/-- the ghost: what stands still (F), where the store's objects stand (mu), how many there are (k), what belongs to them (M) -/
structure G where
  F : Hp
  mu : Nat → Addr
  k : Nat
  M : Addr → Prop

section
variable (K : PySem.W.Frag)
mutual
/-- at rest: v is pv, for ever -/
inductive FR (g : G) : PV → V → Prop
  | non : FR g .non .non
  | bl (b : Bool) : FR g (.bl b) (.bl b)
  | int (i : Int) : FR g (.int i) (.int i)
  | str (x : Str) : FR g (.str x) (.str x)
  | ty (n : String) : FR g (.ty n) (.ty n)
  | tup {a : Addr} {xs : List PV} {vs : List V} : SqT K g.F a vs → FRs g xs vs → FR g (.tup xs) (.ref a)
  | lst {a : Addr} {xs : List PV} {vs : List V} : Rd g.F a (.lst vs) → FRs g xs vs → FR g (.lst xs) (.ref a)
  | dct {a : Addr} {xs : List (Key × PV)} {vs : List (Key × V)} : Rd g.F a (.dK vs) → FRk g xs vs → FR g (.dct xs) (.ref a)
  | ref {n : Nat} : n < g.k → FR g (.ref n) (.ref (g.mu n))
  | kl {a : Addr} {xs : List PV} {vs : List V} : SqL K g.F a vs → FRs g xs vs → FR g (.kl xs) (.ref a)
inductive FRs (g : G) : List PV → List V → Prop
  | nil : FRs g [] []
  | cons {x : PV} {xs : List PV} {v : V} {vs : List V} : FR g x v → FRs g xs vs → FRs g (x :: xs) (v :: vs)
inductive FRk (g : G) : List (Key × PV) → List (Key × V) → Prop
  | nil : FRk g [] []
  | cons {k : Key} {x : PV} {xs : List (Key × PV)} {v : V} {vs : List (Key × V)} : FR g x v → FRk g xs vs → FRk g ((k, x) :: xs) ((k, v) :: vs)
end
mutual
/-- at present: v is pv now -/
inductive OV (g : G) (H : Hp) : PV → V → Prop
  | frz {x : PV} {v : V} : FR K g x v → OV g H x v
  | ol {a : Addr} {xs : List PV} {vs : List V} : Rd H a (.lst vs) → FRs K g xs vs → OV g H (.ol xs) (.ref a)
  | od {a : Addr} {xs : List (Key × PV)} {vs : List (Key × V)} : Rd H a (.dK vs) → OVk g H xs vs → OV g H (.od xs) (.ref a)
inductive OVk (g : G) (H : Hp) : List (Key × PV) → List (Key × V) → Prop
  | nil : OVk g H [] []
  | cons {k : Key} {x : PV} {xs : List (Key × PV)} {v : V} {vs : List (Key × V)} : OV g H x v → OVk g H xs vs → OVk g H ((k, x) :: xs) ((k, v) :: vs)
end
inductive OVs (g : G) (H : Hp) : List PV → List V → Prop
  | nil : OVs g H [] []
  | cons {x : PV} {xs : List PV} {v : V} {vs : List V} : OV K g H x v → OVs g H xs vs → OVs g H (x :: xs) (v :: vs)
end

/-- what may be read in F may be read in H -/
def RdLe (F H : Hp) : Prop := ∀ a u, Rd F a u → Rd H a u
theorem RdLe.refl (F : Hp) : RdLe F F := fun _ _ h => h
theorem RdLe.trans {F H J : Hp} (a : RdLe F H) (b : RdLe H J) : RdLe F J := fun x u h => b x u (a x u h)
theorem RdLe.of_same {F H : Hp} (h : Same F H) : RdLe F H := fun a u r => by
  rcases r with r | ⟨o, r⟩
  · exact .inl (h _ _ r)
  · exact .inr ⟨o, h _ _ r⟩
theorem RdLe.sqT {K : PySem.W.Frag} {F H : Hp} (h : RdLe F H) {a : Addr} {xs : List V} (q : SqT K F a xs) : SqT K H a xs := q.elim (fun r => .inl (h _ _ r)) .inr
theorem RdLe.sqL {K : PySem.W.Frag} {F H : Hp} (h : RdLe F H) {a : Addr} {xs : List V} (q : SqL K F a xs) : SqL K H a xs := q.elim (fun r => .inl (h _ _ r)) .inr

/-- g' knows all that g knows -/
structure GLe (g g' : G) : Prop where
  f : Same g.F g'.F
  k : g.k ≤ g'.k
  m : ∀ n, n < g.k → g'.mu n = g.mu n
theorem GLe.refl (g : G) : GLe g g := ⟨Same.refl _, Nat.le_refl _, fun _ _ => rfl⟩
theorem GLe.trans {a b c : G} (h : GLe a b) (k : GLe b c) : GLe a c := ⟨h.f.trans k.f, Nat.le_trans h.k k.k, fun n hn => (k.m n (Nat.lt_of_lt_of_le hn h.k)).trans (h.m n hn)⟩

section
variable {K : PySem.W.Frag} {g g' : G} {H H' : Hp}
mutual
theorem FR.mono (h : GLe g g') : ∀ (x : PV) (v : V), FR K g x v → FR K g' x v
  | .non, _, q => by cases q; exact .non
  | .bl _, _, q => by cases q; exact .bl _
  | .int _, _, q => by cases q; exact .int _
  | .str _, _, q => by cases q; exact .str _
  | .ty _, _, q => by cases q; exact .ty _
  | .tup xs, _, q => by cases q with | tup s r => exact .tup ((RdLe.of_same h.f).sqT s) (FRs.mono h xs _ r)
  | .lst xs, _, q => by cases q with | lst s r => exact .lst (RdLe.of_same h.f _ _ s) (FRs.mono h xs _ r)
  | .dct xs, _, q => by cases q with | dct s r => exact .dct (RdLe.of_same h.f _ _ s) (FRk.mono h xs _ r)
  | .ref n, _, q => by cases q with | ref hn => rw [← h.m n hn]; exact .ref (Nat.lt_of_lt_of_le hn h.k)
  | .kl xs, _, q => by cases q with | kl s r => exact .kl ((RdLe.of_same h.f).sqL s) (FRs.mono h xs _ r)
  | .ol _, _, q => by cases q
  | .od _, _, q => by cases q
theorem FRs.mono (h : GLe g g') : ∀ (x : List PV) (v : List V), FRs K g x v → FRs K g' x v
  | [], _, q => by cases q; exact .nil
  | x :: xs, _, q => by cases q with | cons a b => exact .cons (FR.mono h x _ a) (FRs.mono h xs _ b)
theorem FRk.mono (h : GLe g g') : ∀ (x : List (Key × PV)) (v : List (Key × V)), FRk K g x v → FRk K g' x v
  | [], _, q => by cases q; exact .nil
  | (k, x) :: xs, _, q => by cases q with | cons a b => exact .cons (FR.mono h x _ a) (FRk.mono h xs _ b)
end
mutual
theorem OV.mono (h : GLe g g') (hh : RdLe H H') : ∀ (x : PV) (v : V), OV K g H x v → OV K g' H' x v
  | .ol xs, _, q => by
    cases q with
    | frz z => cases z
    | ol a b => exact .ol (hh _ _ a) (FRs.mono h _ _ b)
  | .od xs, _, q => by
    cases q with
    | frz z => cases z
    | od a b => exact .od (hh _ _ a) (OVk.mono h hh xs _ b)
  | .non, _, q => by cases q with | frz z => exact .frz (FR.mono h _ _ z)
  | .bl _, _, q => by cases q with | frz z => exact .frz (FR.mono h _ _ z)
  | .int _, _, q => by cases q with | frz z => exact .frz (FR.mono h _ _ z)
  | .str _, _, q => by cases q with | frz z => exact .frz (FR.mono h _ _ z)
  | .ty _, _, q => by cases q with | frz z => exact .frz (FR.mono h _ _ z)
  | .kl _, _, q => by cases q with | frz z => exact .frz (FR.mono h _ _ z)
  | .tup _, _, q => by cases q with | frz z => exact .frz (FR.mono h _ _ z)
  | .lst _, _, q => by cases q with | frz z => exact .frz (FR.mono h _ _ z)
  | .dct _, _, q => by cases q with | frz z => exact .frz (FR.mono h _ _ z)
  | .ref _, _, q => by cases q with | frz z => exact .frz (FR.mono h _ _ z)
theorem OVk.mono (h : GLe g g') (hh : RdLe H H') : ∀ (x : List (Key × PV)) (v : List (Key × V)), OVk K g H x v → OVk K g' H' x v
  | [], _, q => by cases q; exact .nil
  | (k, x) :: xs, _, q => by cases q with | cons a b => exact .cons (OV.mono h hh x _ a) (OVk.mono h hh xs _ b)
end
theorem OVs.mono (h : GLe g g') (hh : RdLe H H') : ∀ {x : List PV} {v : List V}, OVs K g H x v → OVs K g' H' x v
  | _, _, .nil => .nil
  | _, _, .cons a b => .cons (OV.mono h hh _ _ a) (OVs.mono h hh b)
theorem OV.fr {x : PV} {v : V} (q : OV K g H x v) (h : fz x = true) : FR K g x v := by
  cases q with
  | frz z => exact z
  | ol _ _ => cases h
  | od _ _ => cases h
theorem FRs.length {x : List PV} {v : List V} (q : FRs K g x v) : x.length = v.length := by
  induction x generalizing v with
  | nil => cases q; rfl
  | cons a r ih => cases q with | cons _ b => simp [ih b]
theorem FRs.ovs {x : List PV} {v : List V} (q : FRs K g x v) : OVs K g H x v := by
  induction x generalizing v with
  | nil => cases q; exact .nil
  | cons a r ih => cases q with | cons c b => exact .cons (.frz c) (ih b)
theorem OVs.frs {x : List PV} {v : List V} (q : OVs K g H x v) (h : x.all fz = true) : FRs K g x v := by
  induction x generalizing v with
  | nil => cases q; exact .nil
  | cons a r ih =>
    cases q with
    | cons c b =>
      simp only [List.all_cons, Bool.and_eq_true] at h
      exact .cons (c.fr h.1) (ih b h.2)
theorem FRs.get {x : List PV} {v : List V} (q : FRs K g x v) : ∀ {i : Nat} {p : PV}, x[i]? = some p → ∃ u, v[i]? = some u ∧ FR K g p u := by
  induction x generalizing v with
  | nil => intro i p h; simp at h
  | cons a r ih =>
    cases q with
    | cons c b =>
      intro i p h
      cases i with
      | zero => simp at h; subst h; exact ⟨_, rfl, c⟩
      | succ i => simpa using ih b (by simpa using h)
theorem FRs.append {x y : List PV} {v w : List V} (q : FRs K g x v) (r : FRs K g y w) : FRs K g (x ++ y) (v ++ w) := by
  induction x generalizing v with
  | nil => cases q; exact r
  | cons a t ih => cases q with | cons c b => exact .cons c (ih b)
theorem FRs.take {x : List PV} {v : List V} (q : FRs K g x v) (n : Nat) : FRs K g (x.take n) (v.take n) := by
  induction n generalizing x v with
  | zero => simp; exact .nil
  | succ n ih =>
    cases q with
    | nil => simp; exact .nil
    | cons c b => simp only [List.take_succ_cons]; exact .cons c (ih b)
theorem FRs.drop {x : List PV} {v : List V} (q : FRs K g x v) (n : Nat) : FRs K g (x.drop n) (v.drop n) := by
  induction n generalizing x v with
  | zero => exact q
  | succ n ih =>
    cases q with
    | nil => simp; exact .nil
    | cons c b => simp only [List.drop_succ_cons]; exact ih b
theorem FRs.reverse {x : List PV} {v : List V} (q : FRs K g x v) : FRs K g x.reverse v.reverse := by
  induction x generalizing v with
  | nil => cases q; exact .nil
  | cons a t ih =>
    cases q with
    | cons c b =>
      simp only [List.reverse_cons]
      exact (ih b).append (.cons c .nil)
end

/-- the fields of an instance, its class's name c standing at C -/
inductive OVf (K : PySem.W.Frag) (g : G) (H : Hp) : List (Str × PV) → List (Str × V) → Prop
  | nil : OVf K g H [] []
  | cons {n : Str} {x : PV} {xs : List (Str × PV)} {v : V} {vs : List (Str × V)} : OV K g H x v → OVf K g H xs vs → OVf K g H ((n, x) :: xs) ((n, v) :: vs)
theorem OVf.mono {K : PySem.W.Frag} {g g' : G} {H H' : Hp} (h : GLe g g') (hh : RdLe H H') : ∀ {x : List (Str × PV)} {v : List (Str × V)}, OVf K g H x v → OVf K g' H' x v
  | _, _, .nil => .nil
  | _, _, .cons a b => .cons (OV.mono h hh _ _ a) (OVf.mono h hh b)
/-- an object of the store, as it may be read -/
def SOr (K : PySem.W.Frag) (g : G) (H : Hp) (a : Addr) : SO → Prop
  | .ins c fs => ∃ dx vs, H a = some (.ins (He.ga K c) dx vs) ∧ OVf K g H fs vs
  | .lst xs => ∃ vs, Rd H a (.lst vs) ∧ FRs K g xs vs
  | .dct kvs => ∃ vs, Rd H a (.dK vs) ∧ OVk K g H kvs vs
theorem SOr.mono {K : PySem.W.Frag} {g g' : G} {H H' : Hp} {a : Addr} (h : GLe g g') (hh : Same H H') : ∀ {o : SO}, SOr K g H a o → SOr K g' H' a o
  | .ins c fs, ⟨dx, vs, e, q⟩ => ⟨dx, vs, hh _ _ e, q.mono h (RdLe.of_same hh)⟩
  | .lst xs, ⟨vs, e, q⟩ => ⟨vs, RdLe.of_same hh _ _ e, FRs.mono h _ _ q⟩
  | .dct xs, ⟨vs, e, q⟩ => ⟨vs, RdLe.of_same hh _ _ e, OVk.mono h (RdLe.of_same hh) _ _ q⟩
/-- the heap bears the ghost and the store, to be read -/
structure WR (K : PySem.W.Frag) (g : G) (S : Store) (H : Hp) : Prop where
  f : RdLe g.F H
  k : S.length ≤ g.k
  s : ∀ (n : Nat) (o : SO), S[n]? = some o → SOr K g H (g.mu n) o

/-- the heap has grown; what was there stands; what is at rest now was at rest, or is new -/
structure Grow (g : G) (H : Hp) (g' : G) (H' : Hp) : Prop where
  le : GLe g g'
  mu : g'.mu = g.mu
  k : g'.k = g.k
  m : g'.M = g.M
  h : Same H H'
  f : RdLe g'.F H'
  n : ∀ a, g'.F a ≠ none → g.F a ≠ none ∨ H a = none
theorem Grow.refl {K : PySem.W.Frag} {g : G} {S : Store} {H : Hp} (w : WR K g S H) : Grow g H g H := ⟨.refl _, rfl, rfl, rfl, Same.refl _, w.f, fun _ h => .inl h⟩
theorem Grow.trans {a b c : G} {H J L : Hp} (x : Grow a H b J) (y : Grow b J c L) : Grow a H c L :=
  ⟨x.le.trans y.le, y.mu.trans x.mu, y.k.trans x.k, y.m.trans x.m, x.h.trans y.h, y.f, fun p h => (y.n p h).elim (x.n p) fun q => .inr (x.h.free q)⟩
theorem Grow.wr {K : PySem.W.Frag} {a b : G} {S : Store} {H J : Hp} (x : Grow a H b J) (w : WR K a S H) : WR K b S J :=
  ⟨x.f, by rw [x.k]; exact w.k, fun n o e => by rw [x.mu]; exact (w.s n o e).mono x.le x.h⟩
theorem Grow.ov {K : PySem.W.Frag} {a b : G} {H J : Hp} (x : Grow a H b J) {p : PV} {v : V} (q : OV K a H p v) : OV K b J p v := OV.mono x.le (RdLe.of_same x.h) _ _ q
theorem Grow.fr {K : PySem.W.Frag} {a b : G} {H J : Hp} (x : Grow a H b J) {p : PV} {v : V} (q : FR K a p v) : FR K b p v := FR.mono x.le _ _ q
theorem Grow.ovs {K : PySem.W.Frag} {a b : G} {H J : Hp} (x : Grow a H b J) {p : List PV} {v : List V} (q : OVs K a H p v) : OVs K b J p v := OVs.mono x.le (RdLe.of_same x.h) q
theorem Grow.frs {K : PySem.W.Frag} {a b : G} {H J : Hp} (x : Grow a H b J) {p : List PV} {v : List V} (q : FRs K a p v) : FRs K b p v := FRs.mono x.le _ _ q
/-- a new object that stands still from now on -/
theorem Grow.laid {K : PySem.W.Frag} {g : G} {S : Store} {H : Hp} (w : WR K g S H) {p : Addr} {o : HO} (hp : H p = none) : Grow g H { g with F := upd g.F p o } (upd H p o) := by
  have fp : g.F p = none := by
    cases e : g.F p with
    | none => rfl
    | some u =>
      rcases w.f p u (.inl e) with q | ⟨_, q⟩ <;> rw [hp] at q <;> cases q
  refine ⟨⟨fun b u e => ?_, Nat.le_refl _, fun _ _ => rfl⟩, rfl, rfl, rfl, fun b u e => ?_, fun b u e => ?_, fun b e => ?_⟩
  · show upd g.F p o b = some u
    rw [upd_ne (ne_of_none e fp)]; exact e
  · rw [upd_ne (ne_of_none e hp)]; exact e
  · by_cases hb : b = p
    · subst hb
      rcases e with e | ⟨ob, e⟩
      · have e : upd g.F b o b = some u := e
        rw [upd_same] at e; exact .inl (by rw [upd_same]; exact e)
      · have e : upd g.F b o b = some (.frz ob u) := e
        rw [upd_same] at e; exact .inr ⟨ob, by rw [upd_same]; exact e⟩
    · have e' : Rd g.F b u := by
        rcases e with e | ⟨ob, e⟩
        · have e : upd g.F p o b = some u := e
          rw [upd_ne hb] at e; exact .inl e
        · have e : upd g.F p o b = some (.frz ob u) := e
          rw [upd_ne hb] at e; exact .inr ⟨ob, e⟩
      rcases w.f b u e' with q | ⟨ob, q⟩
      · exact .inl (by rw [upd_ne hb]; exact q)
      · exact .inr ⟨ob, by rw [upd_ne hb]; exact q⟩
  · by_cases hb : b = p
    · subst hb; exact .inr hp
    · left
      have e : upd g.F p o b ≠ none := e
      rw [upd_ne hb] at e; exact e
/-- a new object that an owner may change -/
theorem Grow.loose {K : PySem.W.Frag} {g : G} {S : Store} {H : Hp} (w : WR K g S H) {p : Addr} {o : HO} (hp : H p = none) : Grow g H g (upd H p o) := by
  have hs : Same H (upd H p o) := fun b u e => by rw [upd_ne (ne_of_none e hp)]; exact e
  exact ⟨.refl _, rfl, rfl, rfl, hs, w.f.trans (RdLe.of_same hs), fun b e => .inl e⟩

/-- one slot -/
def SlR (K : PySem.W.Frag) (g : G) (H : Hp) (v : V) : PV → Prop
  | .ol xs => ∃ a vs, v = .ref a ∧ H a = some (.lst vs) ∧ FRs K g xs vs ∧ g.F a = none
  | .od kvs => ∃ a vs, v = .ref a ∧ H a = some (.dK vs) ∧ FRk K g kvs vs ∧ g.F a = none
  | x => FR K g x v
theorem SlR.ov {K : PySem.W.Frag} {g : G} {H : Hp} {v : V} : ∀ {x : PV}, SlR K g H v x → OV K g H x v
  | .ol xs, ⟨a, vs, e, h, q, _⟩ => by subst e; exact .ol (.inl h) q
  | .od xs, ⟨a, vs, e, h, q, _⟩ => by
    subst e
    have z : ∀ {xs : List (Key × PV)} {vs : List (Key × V)}, FRk K g xs vs → OVk K g H xs vs := fun {xs} => by
      induction xs with
      | nil => intro vs q; cases q; exact .nil
      | cons a r ih => intro vs q; cases q with | cons c d => exact .cons (.frz c) (ih d)
    exact .od (.inl h) (z q)
  | .non, h => .frz h | .bl _, h => .frz h | .int _, h => .frz h | .str _, h => .frz h | .ty _, h => .frz h
  | .tup _, h => .frz h | .lst _, h => .frz h | .dct _, h => .frz h | .ref _, h => .frz h | .kl _, h => .frz h
theorem SlR.of_fr {K : PySem.W.Frag} {g : G} {H : Hp} {v : V} {x : PV} (h : FR K g x v) : SlR K g H v x := by
  cases h
  all_goals first
    | exact FR.non | exact FR.bl _ | exact FR.int _ | exact FR.str _ | exact FR.ty _ | exact FR.tup (by assumption) (by assumption) | exact FR.lst (by assumption) (by assumption) | exact FR.dct (by assumption) (by assumption) | exact FR.ref (by assumption) | exact FR.kl (by assumption) (by assumption)
theorem Grow.none {a b : G} {H J : Hp} (x : Grow a H b J) {p : Addr} {o : HO} (h : H p = some o) (e : a.F p = none) : b.F p = none := by
  cases q : b.F p with
  | none => rfl
  | some u =>
    rcases x.n p (by rw [q]; simp) with z | z
    · exact absurd e z
    · rw [h] at z; cases z
theorem SlR.mono {K : PySem.W.Frag} {g g' : G} {H H' : Hp} {v : V} (r : Grow g H g' H') : ∀ {x : PV}, SlR K g H v x → SlR K g' H' v x
  | .ol xs, ⟨a, vs, e, h, q, f⟩ => ⟨a, vs, e, r.h _ _ h, FRs.mono r.le _ _ q, r.none h f⟩
  | .od xs, ⟨a, vs, e, h, q, f⟩ => ⟨a, vs, e, r.h _ _ h, FRk.mono r.le _ _ q, r.none h f⟩
  | .non, h => FR.mono r.le _ _ h | .bl _, h => FR.mono r.le _ _ h | .int _, h => FR.mono r.le _ _ h | .str _, h => FR.mono r.le _ _ h | .ty _, h => FR.mono r.le _ _ h
  | .tup _, h => FR.mono r.le _ _ h | .lst _, h => FR.mono r.le _ _ h | .dct _, h => FR.mono r.le _ _ h | .ref _, h => FR.mono r.le _ _ h | .kl _, h => FR.mono r.le _ _ h
/-- the slots -/
structure EnvR (K : PySem.W.Frag) (g : G) (H : Hp) (σ : St) (ρ : Env) : Prop where
  len : ρ.length = σ.length
  at_ : ∀ (i : Nat) (x : PV), ρ[i]? = some (some x) → ∃ v, σ[i]? = some (some v) ∧ SlR K g H v x
  inj : ∀ (i j : Nat) (x y : PV) (v : V), ρ[i]? = some (some x) → ρ[j]? = some (some y) → fz x = false → fz y = false → σ[i]? = some (some v) → σ[j]? = some (some v) → i = j
theorem EnvR.mono {K : PySem.W.Frag} {g g' : G} {H H' : Hp} {σ : St} {ρ : Env} (e : EnvR K g H σ ρ) (r : Grow g H g' H') : EnvR K g' H' σ ρ :=
  ⟨e.len, fun i x h => by obtain ⟨v, q, z⟩ := e.at_ i x h; exact ⟨v, q, z.mono r⟩, e.inj⟩
end L3

set_option Elab.async false
set_option linter.all false
set_option maxRecDepth 100000
set_option maxHeartbeats 4000000
namespace L3
open PySem PySem.Spec L2
set_option autoImplicit false

/-- a result: a value, or an own exception by its class's name and fields -/
inductive Res (α : Type) where
  | ok (a : α)
  | ex (c : Str) (fs : List (Str × PV))
abbrev M (α : Type) := Option (Res α)
def mb {α β : Type} (x : M α) (f : α → M β) : M β := match x with
  | some (.ok a) => f a
  | some (.ex c fs) => some (.ex c fs)
  | none => none
def mo {α : Type} (x : Option α) : M α := match x with
  | some a => some (.ok a)
  | none => none
abbrev Ex := Env → Store → M PV
abbrev Te := Env → Store → M Bool
abbrev Ar := Env → Store → M (List PV)
abbrev WX0 : WX := fun _ _ _ _ => False

/-- an exception of the class c with these fields -/
def XR (K : PySem.W.Frag) (g : G) (H : Hp) (c : Str) (fs : List (Str × PV)) (cls : Value) (d : Option Addr) : Prop :=
  cls = .ref (He.ga K c) ∧ ((fs = [] ∧ d = none) ∨ ∃ dd vs, d = some dd ∧ H dd = some (.xd vs) ∧ OVf K g H fs vs)
/-- what is wanted of a result -/
def Po {α β : Type} (K : PySem.W.Frag) (R : G → Hp → α → β → Prop) (g : G) (H : Hp) (σ : St) (W : WX) (Q : β → Hp → Prop) : Res α → Prop
  | .ok r => ∀ v g' H', Grow g H g' H' → R g' H' r v → Q v H'
  | .ex c fs => ∀ cls d g' H', Grow g H g' H' → XR K g' H' c fs cls d → W cls d σ H'
/-- «this reading is reached by that plain function» -/
def Rch {α β : Type} (K : PySem.W.Frag) (R : G → Hp → α → β → Prop) (W : WX) (t : St → Hp → (β → Hp → Prop) → Prop) (m : Env → Store → M α) : Prop :=
  ∀ (σ : St) (H : Hp) (g : G) (S : Store) (ρ : Env) (Q : β → Hp → Prop) (r : Res α), WR K g S H → EnvR K g H σ ρ → m ρ S = some r → Po K R g H σ W Q r → t σ H Q
abbrev RV (K : PySem.W.Frag) : G → Hp → PV → V → Prop := fun g H r v => OV K g H r v
abbrev RB : G → Hp → Bool → Bool → Prop := fun _ _ r v => r = v
abbrev RL (K : PySem.W.Frag) : G → Hp → List PV → List V → Prop := fun g H r v => OVs K g H r v
structure SimE (X : Cx) (W : WX) (e : Expr) (m : Ex) : Prop where
  ex : ∃ t : TE, PE X e t ∧ Rch X.K (RV X.K) W t m
structure SimT (X : Cx) (W : WX) (e : Expr) (m : Te) : Prop where
  ex : ∃ t : TT, PT X e t ∧ Rch X.K RB W t m
structure SimW (X : Cx) (W : WX) (e : Expr) (m : Te) : Prop where
  ex : ∃ t : TT, PW X e t ∧ Rch X.K RB W t m
structure SimA (X : Cx) (W : WX) (es : List Expr) (m : Ar) : Prop where
  ex : ∃ t : TA, PA X es t ∧ Rch X.K (RL X.K) W t m

section
variable {K : PySem.W.Frag} {α β γ δ : Type} {R : G → Hp → α → β → Prop} {R' : G → Hp → γ → δ → Prop} {W : WX}
/-- one reading, then another -/
theorem Rch.bind {t : St → Hp → (β → Hp → Prop) → Prop} {m : Env → Store → M α} (h : Rch K R W t m) {k : α → Env → Store → M γ}
    {tk : β → St → Hp → (δ → Hp → Prop) → Prop}
    (hk : ∀ (a : α) (b : β) (σ : St) (H : Hp) (g : G) (S : Store) (ρ : Env) (Q : δ → Hp → Prop) (r : Res γ), WR K g S H → EnvR K g H σ ρ → R g H a b → k a ρ S = some r → Po K R' g H σ W Q r → tk b σ H Q) :
    Rch K R' W (fun σ H Q => t σ H fun x H1 => tk x σ H1 Q) (fun ρ S => mb (m ρ S) fun a => k a ρ S) := by
  intro σ H g S ρ Q r w e hm po
  have hm : mb (m ρ S) (fun a => k a ρ S) = some r := hm
  cases q : m ρ S with
  | none => rw [q] at hm; cases hm
  | some res =>
    rw [q] at hm
    cases res with
    | ok a =>
      refine h σ H g S ρ _ (.ok a) w e q fun v g' H' gr rv => ?_
      refine hk a v σ H' g' S ρ Q r (gr.wr w) (e.mono gr) rv hm ?_
      cases r with
      | ok z => exact fun v2 g2 H2 gr2 r2 => po v2 g2 H2 (gr.trans gr2) r2
      | ex c fs => exact fun cls d g2 H2 gr2 x2 => po cls d g2 H2 (gr.trans gr2) x2
    | ex c fs =>
      have e2 : r = .ex c fs := (Option.some.inj hm).symm
      subst e2
      exact h σ H g S ρ _ (.ex c fs) w e q po
end

/-- an operation on plain values, and the layer's rule for it -/
def OpOk (K : PySem.W.Frag) (op : PV → PV → Option PV) (r : R2) : Prop :=
  ∀ (g : G) (S : Store) (H : Hp) (x y z : PV) (u v : V) (Q : VK), WR K g S H → OV K g H x u → OV K g H y v → op x y = some z → (∀ w g' H', Grow g H g' H' → OV K g' H' z w → Q w H') → r u v H Q
def oE (a b : PV → PV → Option PV) : PV → PV → Option PV := fun x y => match a x y with
  | some z => some z
  | none => b x y
theorem OpOk.or {K : PySem.W.Frag} {a b : PV → PV → Option PV} {r r' : R2} (h : OpOk K a r) (h' : OpOk K b r') : OpOk K (oE a b) (fun x y H Q => r x y H Q ∨ r' x y H Q) := by
  intro g S H x y z u v Q w hx hy e q
  unfold oE at e
  cases c : a x y with
  | some t =>
    rw [c] at e
    exact .inl (h g S H x y z u v Q w hx hy (c.trans e) q)
  | none =>
    rw [c] at e
    exact .inr (h' g S H x y z u v Q w hx hy e q)
/-- .. on one value; on a list of arguments; a method -/
def UnOk (K : PySem.W.Frag) (op : PV → Option PV) (r : V → Hp → VK → Prop) : Prop :=
  ∀ (g : G) (S : Store) (H : Hp) (x z : PV) (u : V) (Q : VK), WR K g S H → OV K g H x u → op x = some z → (∀ w g' H', Grow g H g' H' → OV K g' H' z w → Q w H') → r u H Q
def CallOk (K : PySem.W.Frag) (op : List PV → Option PV) (r : List V → Hp → VK → Prop) : Prop :=
  ∀ (g : G) (S : Store) (H : Hp) (xs : List PV) (z : PV) (us : List V) (Q : VK), WR K g S H → OVs K g H xs us → op xs = some z → (∀ w g' H', Grow g H g' H' → OV K g' H' z w → Q w H') → r us H Q
def MtOk (K : PySem.W.Frag) (op : PV → List PV → Option PV) (r : V → List V → Hp → VK → Prop) : Prop :=
  ∀ (g : G) (S : Store) (H : Hp) (x : PV) (xs : List PV) (z : PV) (u : V) (us : List V) (Q : VK), WR K g S H → OV K g H x u → OVs K g H xs us → op x xs = some z → (∀ w g' H', Grow g H g' H' → OV K g' H' z w → Q w H') → r u us H Q

section
variable {X : Cx} {W : WX} {a b c e : Expr} {es rest : List Expr} {pos : Pos}

/-! ### names, constants -/
def xVar (i : Nat) : Ex := fun ρ _ => match ρ[i]? with
  | some (some x) => some (.ok x)
  | _ => none
theorem e_var {i : Nat} {x : Str} (hN : X.N[i]? = some x) (hv : Vis X.env.scope x) (hd : (x == ("__debug__" : Str)) = false := by decide) (hcd : (x == ("__classdict__" : Str)) = false := by decide) : SimE X W (.Name x pos) (xVar i) := by
  refine ⟨_, pe_var hN hv hd hcd, fun σ H g S ρ Q r w er hm po => ?_⟩
  unfold xVar at hm
  split at hm
  · rename_i y hy
    cases hm
    obtain ⟨v, hv, sl⟩ := er.at_ i y hy
    exact ⟨v, hv, po v g H (.refl w) sl.ov⟩
  · cases hm
def xC (x : PV) : Ex := fun _ _ => some (.ok x)
theorem c_of {t : TE} {v : V} {x : PV} (h : PE X e t) (ht : t = tC v) (hx : ∀ g, FR X.K g x v) : SimE X W e (xC x) := by
  subst ht
  refine ⟨_, h, fun σ H g S ρ Q r w er hm po => ?_⟩
  cases hm
  exact po v g H (.refl w) (.frz (hx g))
theorem e_int {i : Int} {j : Nat} : SimE X W (.Constant (.int i) j pos) (xC (.int i)) := c_of pe_int rfl fun _ => .int i
theorem e_bl {i : Bool} {j : Nat} : SimE X W (.Constant (.bool i) j pos) (xC (.bl i)) := c_of pe_bl rfl fun _ => .bl i
theorem e_non {j : Nat} : SimE X W (.Constant .none j pos) (xC .non) := c_of pe_non rfl fun _ => .non
theorem e_str {x : Str} {j : Nat} : SimE X W (.Constant (.str x) j pos) (xC (.str x)) := c_of pe_str rfl fun _ => .str x
/-- a module's constant -/
structure Con (X : Cx) (x : Str) (p : PV) : Prop where
  ex : ∃ u v, X.mg x = some u ∧ RelV v u ∧ ∀ g, FR X.K g p v
theorem e_con {x : Str} {p : PV} (hg : Gl X x) (hc : Con X x p) (hd : (x == ("__debug__" : Str)) = false := by decide) : SimE X W (.Name x pos) (xC p) := by
  obtain ⟨u, v, hm, r, hf⟩ := hc.ex
  exact c_of (pe_glob hg hm r hd) rfl hf
theorem e_ty {x : Str} {T : String} (hg : Gl X x) (hm : X.mg x = none) (hv : bootBuiltins x = some (.type T)) (hn : x ≠ "__name__" := by decide) (hd : (x == ("__debug__" : Str)) = false := by decide) : SimE X W (.Name x pos) (xC (.ty T)) :=
  c_of (pe_bltn (v := .ty T) hg hm hv rfl hn hd) rfl fun _ => .ty T

/-! ### operators -/
def xOp (op : PV → PV → Option PV) (ma mb' : Ex) : Ex := fun ρ S => mb (ma ρ S) fun x => mb (mb' ρ S) fun y => mo (op x y)
theorem rch_op {r : R2} {op : PV → PV → Option PV} {ta tb : TE} {ma mb' : Ex} (hk : OpOk X.K op r) (ha : Rch X.K (RV X.K) W ta ma) (hb : Rch X.K (RV X.K) W tb mb') : Rch X.K (RV X.K) W (tOp r ta tb) (xOp op ma mb') := by
  refine Rch.bind (k := fun x ρ S => mb (mb' ρ S) fun y => mo (op x y)) ha fun x u σ H g S ρ Q res w er hx hm po => ?_
  cases q : mb' ρ S with
  | none => rw [q] at hm; cases hm
  | some r2 =>
    rw [q] at hm
    cases r2 with
    | ex c fs =>
      have e2 : res = .ex c fs := (Option.some.inj hm).symm
      subst e2
      exact hb σ H g S ρ _ (.ex c fs) w er q po
    | ok y =>
      refine hb σ H g S ρ _ (.ok y) w er q fun v g' H' gr hy => ?_
      have hm : mo (op x y) = some res := hm
      cases z : op x y with
      | none => rw [z] at hm; cases hm
      | some zz =>
        rw [z] at hm
        have e2 : res = .ok zz := (Option.some.inj hm).symm
        subst e2
        exact hk g' S H' x y zz u v Q (gr.wr w) (gr.ov hx) hy z fun w2 g2 H2 gr2 r2 => po w2 g2 H2 (gr.trans gr2) r2
theorem e_op {o : Operator} {r : R2} {op : PV → PV → Option PV} {ma mb' : Ex} (ho : OpR X (binaryOp o) r) (hk : OpOk X.K op r) (ha : SimE X W a ma) (hb : SimE X W b mb') : SimE X W (.BinOp a o b pos) (xOp op ma mb') := by
  obtain ⟨ta, pa, ra⟩ := ha.ex
  obtain ⟨tb, pb, rb⟩ := hb.ex
  exact ⟨_, pe_op ho pa pb, rch_op hk ra rb⟩
theorem e_cmp {o : CmpOp} {r : R2} {op : PV → PV → Option PV} {ma mb' : Ex} (ho : OpR X (compareOp o) r) (hk : OpOk X.K op r) (ha : SimE X W a ma) (hb : SimE X W b mb') (hm : behindInMarks o b = false) : SimE X W (.Compare a [o] [b] pos) (xOp op ma mb') := by
  obtain ⟨ta, pa, ra⟩ := ha.ex
  obtain ⟨tb, pb, rb⟩ := hb.ex
  exact ⟨_, pe_cmpR ho pa pb hm, rch_op hk ra rb⟩
/-- a bool as a test -/
def bT (m : Ex) : Te := fun ρ S => mb (m ρ S) fun x => match x with
  | .bl k => some (.ok k)
  | _ => none
theorem rch_bT {t : TE} {m : Ex} (h : Rch X.K (RV X.K) W t m) : Rch X.K RB W (fun σ H Q => t σ H fun x H1 => ∃ c, x = .bl c ∧ Q c H1) (bT m) := by
  refine Rch.bind (k := fun x _ _ => match x with | .bl k => some (.ok k) | _ => none) (tk := fun x _ H1 Q => ∃ c, x = .bl c ∧ Q c H1) h fun x u σ H g S ρ Q res w er hx hm po => ?_
  cases x with
  | bl k =>
    cases hm
    have z := hx.fr rfl
    cases z
    exact ⟨k, rfl, po k g H (.refl w) rfl⟩
  | _ => cases hm
theorem t_cmp {o : CmpOp} {r : R2} {op : PV → PV → Option PV} {ma mb' : Ex} (ho : OpR X (compareOp o) r) (hk : OpOk X.K op r) (ha : SimE X W a ma) (hb : SimE X W b mb') (hm : behindInMarks o b = false) : SimT X W (.Compare a [o] [b] pos) (bT (xOp op ma mb')) := by
  obtain ⟨ta, pa, ra⟩ := ha.ex
  obtain ⟨tb, pb, rb⟩ := hb.ex
  exact ⟨_, pt_cmpR ho pa pb hm, rch_bT (rch_op hk ra rb)⟩
theorem t_val {m : Ex} (h : SimE X W e m) (he : ∀ whole, isTrue e X.env whole = (do let v ← whole; standAt e.pos; holding [v] (truthy v)) := by intro _; rfl) : SimT X W e (bT m) := by
  obtain ⟨t, p, r⟩ := h.ex
  exact ⟨_, pt_val p he, rch_bT r⟩
def xUn (op : PV → Option PV) (m : Ex) : Ex := fun ρ S => mb (m ρ S) fun x => mo (op x)
theorem rch_un {r : V → Hp → VK → Prop} {op : PV → Option PV} {t : TE} {m : Ex} (hk : UnOk X.K op r) (h : Rch X.K (RV X.K) W t m) : Rch X.K (RV X.K) W (fun σ H Q => t σ H fun x H1 => r x H1 Q) (xUn op m) := by
  refine Rch.bind (k := fun x _ _ => mo (op x)) (tk := fun x _ H1 Q => r x H1 Q) h fun x u σ H g S ρ Q res w er hx hm po => ?_
  cases z : op x with
  | none => rw [z] at hm; cases hm
  | some zz =>
    rw [z] at hm
    have e2 : res = .ok zz := (Option.some.inj hm).symm
    subst e2
    exact hk g S H x zz u Q w hx z po
theorem e_un {o : UnaryOp} {r : V → Hp → VK → Prop} {op : PV → Option PV} {m : Ex} (ho : UnR X (unaryOp o) r) (hk : UnOk X.K op r) (h : SimE X W a m) : SimE X W (.UnaryOp o a pos) (xUn op m) := by
  obtain ⟨t, p, q⟩ := h.ex
  exact ⟨tUn r t, pe_un ho p, rch_un (r := r) hk q⟩
/-- a op b op' c -/
def xChain (op op' : PV → PV → Option PV) (ma mb' mc : Ex) : Ex := fun ρ S => mb (ma ρ S) fun x => mb (mb' ρ S) fun y => match op x y with
  | some (.bl true) => mb (mc ρ S) fun z => mo (op' y z)
  | some (.bl false) => some (.ok (.bl false))
  | _ => none
theorem rch_chain {r r' : R2} {op op' : PV → PV → Option PV} {ta tb tc : TE} {ma mb' mc : Ex} (hk : OpOk X.K op r) (hk' : OpOk X.K op' r') (ha : Rch X.K (RV X.K) W ta ma) (hb : Rch X.K (RV X.K) W tb mb') (hc : Rch X.K (RV X.K) W tc mc) :
    Rch X.K (RV X.K) W (tChain r r' ta tb tc) (xChain op op' ma mb' mc) := by
  refine Rch.bind (tk := fun x σ H1 Q => tb σ H1 fun y H2 => r x y H2 fun z H3 => ∃ k, z = .bl k ∧ (if k = true then tc σ H3 fun w' H4 => r' y w' H4 Q else Q (.bl false) H3)) (k := fun x ρ S => mb (mb' ρ S) fun y => match op x y with
    | some (.bl true) => mb (mc ρ S) fun z => mo (op' y z)
    | some (.bl false) => some (.ok (.bl false))
    | _ => none) ha fun x u σ H g S ρ Q res w er hx hm po => ?_
  cases q : mb' ρ S with
  | none => rw [q] at hm; cases hm
  | some r2 =>
    rw [q] at hm
    cases r2 with
    | ex c fs =>
      have e2 : res = .ex c fs := (Option.some.inj hm).symm
      subst e2
      exact hb σ H g S ρ _ (.ex c fs) w er q po
    | ok y =>
      refine hb σ H g S ρ _ (.ok y) w er q fun v g' H' gr hy => ?_
      have hm : (match op x y with
        | some (.bl true) => mb (mc ρ S) fun z => mo (op' y z)
        | some (.bl false) => some (.ok (.bl false))
        | _ => none) = some res := hm
      split at hm
      · rename_i z
        refine hk g' S H' x y _ u v _ (gr.wr w) (gr.ov hx) hy z fun w2 g2 H2 gr2 r2 => ?_
        cases r2.fr rfl
        refine ⟨true, rfl, ?_⟩
        rw [if_pos rfl]
        cases q3 : mc ρ S with
        | none => rw [q3] at hm; cases hm
        | some r3 =>
          rw [q3] at hm
          cases r3 with
          | ex c fs =>
            have e2 : res = .ex c fs := (Option.some.inj hm).symm
            subst e2
            exact hc σ H2 g2 S ρ _ (.ex c fs) (gr2.wr (gr.wr w)) ((er.mono gr).mono gr2) q3 fun cls d g4 H4 gr4 x4 => po cls d g4 H4 ((gr.trans gr2).trans gr4) x4
          | ok zc =>
            refine hc σ H2 g2 S ρ _ (.ok zc) (gr2.wr (gr.wr w)) ((er.mono gr).mono gr2) q3 fun v3 g3 H3 gr3 hz => ?_
            have hm : mo (op' y zc) = some res := hm
            cases z4 : op' y zc with
            | none => rw [z4] at hm; cases hm
            | some zz =>
              rw [z4] at hm
              have e2 : res = .ok zz := (Option.some.inj hm).symm
              subst e2
              exact hk' g3 S H3 y zc zz v v3 Q (gr3.wr (gr2.wr (gr.wr w))) (gr3.ov (gr2.ov hy)) hz z4 fun w5 g5 H5 gr5 r5 => po w5 g5 H5 (((gr.trans gr2).trans gr3).trans gr5) r5
      · rename_i z
        cases hm
        refine hk g' S H' x y _ u v _ (gr.wr w) (gr.ov hx) hy z fun w2 g2 H2 gr2 r2 => ?_
        cases r2.fr rfl
        refine ⟨false, rfl, ?_⟩
        rw [if_neg Bool.false_ne_true]
        exact po _ g2 H2 (gr.trans gr2) (.frz (.bl false))
      · cases hm
theorem e_chain {o o' : CmpOp} {r r' : R2} {op op' : PV → PV → Option PV} {ma mb' mc : Ex} (ho : OpR X (compareOp o) r) (ho' : OpR X (compareOp o') r') (hk : OpOk X.K op r) (hk' : OpOk X.K op' r') (ha : SimE X W a ma) (hb : SimE X W b mb') (hc : SimE X W c mc)
    (hm : lastMarks [o, o'] [b, c] = false := by with_unfolding_all rfl) : SimE X W (.Compare a [o, o'] [b, c] pos) (xChain op op' ma mb' mc) := by
  obtain ⟨ta, pa, ra⟩ := ha.ex
  obtain ⟨tb, pb, rb⟩ := hb.ex
  obtain ⟨tc, pc, rc⟩ := hc.ex
  exact ⟨_, pe_chain ho ho' pa pb pc hm, rch_chain hk hk' ra rb rc⟩
theorem t_chain {o o' : CmpOp} {r r' : R2} {op op' : PV → PV → Option PV} {ma mb' mc : Ex} (ho : OpR X (compareOp o) r) (ho' : OpR X (compareOp o') r') (hk : OpOk X.K op r) (hk' : OpOk X.K op' r') (ha : SimE X W a ma) (hb : SimE X W b mb') (hc : SimE X W c mc)
    (hm : lastMarks [o, o'] [b, c] = false := by with_unfolding_all rfl) : SimT X W (.Compare a [o, o'] [b, c] pos) (bT (xChain op op' ma mb' mc)) := by
  obtain ⟨ta, pa, ra⟩ := ha.ex
  obtain ⟨tb, pb, rb⟩ := hb.ex
  obtain ⟨tc, pc, rc⟩ := hc.ex
  exact ⟨_, pt_chain ho ho' pa pb pc hm, rch_bT (rch_chain hk hk' ra rb rc)⟩

/-! ### and, or, not, if -/
def yAnd (m n : Te) : Te := fun ρ S => mb (m ρ S) fun k => match k with
  | true => n ρ S
  | false => some (.ok false)
def yOr (m n : Te) : Te := fun ρ S => mb (m ρ S) fun k => match k with
  | true => some (.ok true)
  | false => n ρ S
def yNot (m : Te) : Te := fun ρ S => mb (m ρ S) fun k => some (.ok (!k))
theorem w_and1 {m : Te} (h : SimT X W a m) : SimW X W (.BoolOp .And [a] pos) m := by
  obtain ⟨t, p, r⟩ := h.ex
  exact ⟨_, pw_and1 p, r⟩
theorem w_or1 {m : Te} (h : SimT X W a m) : SimW X W (.BoolOp .Or [a] pos) m := by
  obtain ⟨t, p, r⟩ := h.ex
  exact ⟨_, pw_or1 p, r⟩
theorem rch_and {t u : TT} {m n : Te} (h : Rch X.K RB W t m) (h' : Rch X.K RB W u n) : Rch X.K RB W (tAnd t u) (yAnd m n) := by
  refine Rch.bind (k := fun k ρ S => match k with | true => n ρ S | false => some (.ok false)) (tk := fun c σ H1 Q => if c = true then u σ H1 Q else Q false H1) h fun x c σ H g S ρ Q res w er hx hm po => ?_
  subst hx
  cases x with
  | true => rw [if_pos rfl]; exact h' σ H g S ρ Q res w er hm po
  | false => rw [if_neg Bool.false_ne_true]; cases hm; exact po false g H (.refl w) rfl
theorem rch_or {t u : TT} {m n : Te} (h : Rch X.K RB W t m) (h' : Rch X.K RB W u n) : Rch X.K RB W (tOr t u) (yOr m n) := by
  refine Rch.bind (k := fun k ρ S => match k with | true => some (.ok true) | false => n ρ S) (tk := fun c σ H1 Q => if c = true then Q true H1 else u σ H1 Q) h fun x c σ H g S ρ Q res w er hx hm po => ?_
  subst hx
  cases x with
  | true => rw [if_pos rfl]; cases hm; exact po true g H (.refl w) rfl
  | false => rw [if_neg Bool.false_ne_true]; exact h' σ H g S ρ Q res w er hm po
theorem w_and {m n : Te} (h : SimT X W a m) (h' : SimW X W (.BoolOp .And (b :: rest) pos) n) : SimW X W (.BoolOp .And (a :: b :: rest) pos) (yAnd m n) := by
  obtain ⟨t, p, r⟩ := h.ex
  obtain ⟨t', p', r'⟩ := h'.ex
  exact ⟨_, pw_and p p', rch_and r r'⟩
theorem w_or {m n : Te} (h : SimT X W a m) (h' : SimW X W (.BoolOp .Or (b :: rest) pos) n) : SimW X W (.BoolOp .Or (a :: b :: rest) pos) (yOr m n) := by
  obtain ⟨t, p, r⟩ := h.ex
  obtain ⟨t', p', r'⟩ := h'.ex
  exact ⟨_, pw_or p p', rch_or r r'⟩
theorem t_w {m : Te} (h : SimW X W e m) : SimT X W e m := by
  obtain ⟨t, p, r⟩ := h.ex
  exact ⟨_, p.pt, r⟩
theorem t_not {m : Te} (h : SimT X W a m) : SimT X W (.UnaryOp .Not a pos) (yNot m) := by
  obtain ⟨t, p, r⟩ := h.ex
  refine ⟨_, pt_not p, ?_⟩
  refine Rch.bind (k := fun k _ _ => some (.ok (!k))) (tk := fun c _ H1 Q => Q (!c) H1) r fun x c σ H g S ρ Q res w er hx hm po => ?_
  subst hx
  cases hm
  exact po (!x) g H (.refl w) rfl
/-- as values -/
def xAnd (m n : Ex) : Ex := fun ρ S => mb (m ρ S) fun k => match k with
  | .bl true => n ρ S
  | .bl false => some (.ok (.bl false))
  | _ => none
def xOr (m n : Ex) : Ex := fun ρ S => mb (m ρ S) fun k => match k with
  | .bl true => some (.ok (.bl true))
  | .bl false => n ρ S
  | _ => none
def xNot (m : Ex) : Ex := fun ρ S => mb (m ρ S) fun k => match k with
  | .bl k => some (.ok (.bl (!k)))
  | _ => none
theorem e_one {o : BoolOp} {m : Ex} (h : SimE X W a m) : SimE X W (.BoolOp o [a] pos) m := by
  obtain ⟨t, p, r⟩ := h.ex
  exact ⟨_, pe_one p, r⟩
theorem e_and {m n : Ex} (h : SimE X W a m) (h' : SimE X W (.BoolOp .And (b :: rest) pos) n) : SimE X W (.BoolOp .And (a :: b :: rest) pos) (xAnd m n) := by
  obtain ⟨t, p, r⟩ := h.ex
  obtain ⟨t', p', r'⟩ := h'.ex
  refine ⟨_, pe_and p p', ?_⟩
  refine Rch.bind (k := fun k ρ S => match k with | .bl true => n ρ S | .bl false => some (.ok (.bl false)) | _ => none) (tk := fun x σ H1 Q => ∃ c, x = .bl c ∧ if c = true then t' σ H1 Q else Q (.bl false) H1) r fun x c σ H g S ρ Q res w er hx hm po => ?_
  split at hm
  · cases hx.fr rfl; exact ⟨true, rfl, by rw [if_pos rfl]; exact r' σ H g S ρ Q res w er hm po⟩
  · cases hx.fr rfl; cases hm; exact ⟨false, rfl, by rw [if_neg Bool.false_ne_true]; exact po _ g H (.refl w) (.frz (.bl false))⟩
  · cases hm
theorem e_or {m n : Ex} (h : SimE X W a m) (h' : SimE X W (.BoolOp .Or (b :: rest) pos) n) : SimE X W (.BoolOp .Or (a :: b :: rest) pos) (xOr m n) := by
  obtain ⟨t, p, r⟩ := h.ex
  obtain ⟨t', p', r'⟩ := h'.ex
  refine ⟨_, pe_or p p', ?_⟩
  refine Rch.bind (k := fun k ρ S => match k with | .bl true => some (.ok (.bl true)) | .bl false => n ρ S | _ => none) (tk := fun x σ H1 Q => ∃ c, x = .bl c ∧ if c = true then Q (.bl true) H1 else t' σ H1 Q) r fun x c σ H g S ρ Q res w er hx hm po => ?_
  split at hm
  · cases hx.fr rfl; cases hm; exact ⟨true, rfl, by rw [if_pos rfl]; exact po _ g H (.refl w) (.frz (.bl true))⟩
  · cases hx.fr rfl; exact ⟨false, rfl, by rw [if_neg Bool.false_ne_true]; exact r' σ H g S ρ Q res w er hm po⟩
  · cases hm
theorem e_not {m : Ex} (h : SimE X W a m) : SimE X W (.UnaryOp .Not a pos) (xNot m) := by
  obtain ⟨t, p, r⟩ := h.ex
  refine ⟨_, pe_not p, ?_⟩
  refine Rch.bind (R' := RV X.K) (k := fun k _ _ => match k with | PV.bl k => some (.ok (PV.bl (!k))) | _ => none) (tk := fun x _ H1 Q => ∃ c, x = V.bl c ∧ Q (V.bl (!c)) H1) r fun x c σ H g S ρ Q res w er hx hm po => ?_
  split at hm
  · cases hx.fr rfl; cases hm; exact ⟨_, rfl, po _ g H (.refl w) (.frz (.bl _))⟩
  · cases hm
def xIf (c : Te) (m n : Ex) : Ex := fun ρ S => mb (c ρ S) fun k => match k with
  | true => m ρ S
  | false => n ρ S
theorem e_if {k : Te} {m n : Ex} (hc : SimT X W c k) (h : SimE X W a m) (h' : SimE X W b n) : SimE X W (.IfExp c a b pos) (xIf k m n) := by
  obtain ⟨tc, pc, rc⟩ := hc.ex
  obtain ⟨t, p, r⟩ := h.ex
  obtain ⟨t', p', r'⟩ := h'.ex
  refine ⟨_, pe_ifExp pc p p', ?_⟩
  refine Rch.bind (k := fun k ρ S => match k with | true => m ρ S | false => n ρ S) (tk := fun c σ H1 Q => if c = true then t σ H1 Q else t' σ H1 Q) rc fun x c σ H g S ρ Q res w er hx hm po => ?_
  subst hx
  cases x with
  | true => rw [if_pos rfl]; exact r σ H g S ρ Q res w er hm po
  | false => rw [if_neg Bool.false_ne_true]; exact r' σ H g S ρ Q res w er hm po

/-! ### lists of expressions, displays -/
def aNil : Ar := fun _ _ => some (.ok [])
def aCons (m : Ex) (n : Ar) : Ar := fun ρ S => mb (m ρ S) fun x => mb (n ρ S) fun xs => some (.ok (x :: xs))
def aStar (m : Ex) (n : Ar) : Ar := fun ρ S => mb (m ρ S) fun x => match x with
  | .tup ys => mb (n ρ S) fun xs => some (.ok (ys ++ xs))
  | .lst ys => mb (n ρ S) fun xs => some (.ok (ys ++ xs))
  | .ol ys => mb (n ρ S) fun xs => some (.ok (ys ++ xs))
  | _ => none
theorem a_nil : SimA X W [] aNil := ⟨_, pa_nil, fun σ H g S ρ Q r w er hm po => by cases hm; exact po [] g H (.refl w) .nil⟩
theorem a_cons {m : Ex} {n : Ar} (h : SimE X W e m) (h' : SimA X W es n) (hs : starEach (e :: es) X.env = (false, eval e X.env) :: starEach es X.env := by rfl) : SimA X W (e :: es) (aCons m n) := by
  obtain ⟨t, p, r⟩ := h.ex
  obtain ⟨t', p', r'⟩ := h'.ex
  refine ⟨_, pa_cons p p' hs, ?_⟩
  refine Rch.bind (k := fun x ρ S => mb (n ρ S) fun xs => some (.ok (x :: xs))) (tk := fun x σ H1 Q => t' σ H1 fun xs H2 => Q (x :: xs) H2) r fun x u σ H g S ρ Q res w er hx hm po => ?_
  cases q : n ρ S with
  | none => rw [q] at hm; cases hm
  | some r2 =>
    rw [q] at hm
    cases r2 with
    | ex c fs =>
      have e2 : res = .ex c fs := (Option.some.inj hm).symm
      subst e2
      exact r' σ H g S ρ _ (.ex c fs) w er q po
    | ok ys =>
      have e2 : res = .ok (x :: ys) := (Option.some.inj hm).symm
      subst e2
      exact r' σ H g S ρ _ (.ok ys) w er q fun v g' H' gr hy => po _ g' H' gr (.cons (gr.ov hx) hy)
theorem FRs.ovsg {K : PySem.W.Frag} {g : G} {H : Hp} {x : List PV} {v : List V} (q : FRs K g x v) {y : List PV} {u : List V} (r : OVs K g H y u) : OVs K g H (x ++ y) (v ++ u) := by
  induction x generalizing v with
  | nil => cases q; exact r
  | cons a t ih => cases q with | cons c b => exact .cons (.frz c) (ih b)
theorem a_star {m : Ex} {n : Ar} {p0 : Pos} (h : SimE X W e m) (h' : SimA X W es n) (hs : starEach (.Starred e p0 :: es) X.env = (true, eval e X.env) :: starEach es X.env := by rfl) : SimA X W (.Starred e p0 :: es) (aStar m n) := by
  obtain ⟨t, p, r⟩ := h.ex
  obtain ⟨t', p', r'⟩ := h'.ex
  refine ⟨_, StX.pa_star p p' hs, ?_⟩
  refine Rch.bind (k := fun x ρ S => match x with
    | .tup ys => mb (n ρ S) fun xs => some (.ok (ys ++ xs))
    | .lst ys => mb (n ρ S) fun xs => some (.ok (ys ++ xs))
    | .ol ys => mb (n ρ S) fun xs => some (.ok (ys ++ xs))
    | _ => none) (tk := fun x σ H1 Q => ∃ p xs, x = V.ref p ∧ (SqT X.K H1 p xs ∨ SqL X.K H1 p xs) ∧ t' σ H1 fun ys H2 => Q (xs ++ ys) H2) r fun x u σ H g S ρ Q res w er hx hm po => ?_
  have main : ∀ (ys : List PV) (vs : List V), FRs X.K g ys vs → mb (n ρ S) (fun xs => some (.ok (ys ++ xs))) = some res → t' σ H fun zs H2 => Q (vs ++ zs) H2 := fun ys vs hf hm => by
    cases q : n ρ S with
    | none => rw [q] at hm; cases hm
    | some r2 =>
      rw [q] at hm
      cases r2 with
      | ex c fs =>
        have e2 : res = .ex c fs := (Option.some.inj hm).symm
        subst e2
        exact r' σ H g S ρ _ (.ex c fs) w er q po
      | ok zs =>
        have e2 : res = .ok (ys ++ zs) := (Option.some.inj hm).symm
        subst e2
        exact r' σ H g S ρ _ (.ok zs) w er q fun v g' H' gr hy => po _ g' H' gr ((gr.frs hf).ovsg hy)
  split at hm
  · rename_i ys
    have z := hx.fr rfl
    cases z with
    | tup sq fr => exact ⟨_, _, rfl, .inl (w.f.sqT sq), main _ _ fr hm⟩
  · rename_i ys
    have z := hx.fr rfl
    cases z with
    | lst sq fr => exact ⟨_, _, rfl, .inr (.inl (w.f _ _ sq)), main _ _ fr hm⟩
  · rename_i ys
    cases hx with
    | frz z => cases z
    | ol rd fr => exact ⟨_, _, rfl, .inr (.inl rd), main _ _ fr hm⟩
  · cases hm
/-- a tuple, a list that stands still; at most a thousand times a thousand items -/
def most : Nat := 1000000
theorem most_le : most ≤ sizeLine := by rw [sizeLine_eq]; decide
def xTup (m : Ar) : Ex := fun ρ S => mb (m ρ S) fun xs => if xs.all fz && decide (xs.length ≤ most) then some (.ok (.tup xs)) else none
def xLst (m : Ar) : Ex := fun ρ S => mb (m ρ S) fun xs => if xs.all fz && decide (xs.length ≤ most) then some (.ok (.lst xs)) else none
theorem new_tup {K : PySem.W.Frag} {g : G} {S : Store} {H : Hp} (w : WR K g S H) {p : Addr} (hp : H p = none) {xs : List PV} {vs : List V} (q : FRs K g xs vs) :
    Grow g H { g with F := upd g.F p (.tup vs) } (upd H p (.tup vs)) ∧ FR K { g with F := upd g.F p (.tup vs) } (.tup xs) (.ref p) :=
  ⟨.laid w hp, .tup (.inl (.inl upd_same)) ((Grow.laid w hp).frs q)⟩
theorem new_lst {K : PySem.W.Frag} {g : G} {S : Store} {H : Hp} (w : WR K g S H) {p : Addr} (hp : H p = none) {xs : List PV} {vs : List V} (q : FRs K g xs vs) :
    Grow g H { g with F := upd g.F p (.lst vs) } (upd H p (.lst vs)) ∧ FR K { g with F := upd g.F p (.lst vs) } (.lst xs) (.ref p) :=
  ⟨.laid w hp, .lst (.inl upd_same) ((Grow.laid w hp).frs q)⟩
theorem e_tup {x1 : Nat} {m : Ar} (h : SimA X W es m) : SimE X W (.Tuple es x1 pos) (xTup m) := by
  obtain ⟨t, p, r⟩ := h.ex
  refine ⟨_, pe_tup p, ?_⟩
  refine Rch.bind (R' := RV X.K) (k := fun xs _ _ => if xs.all fz && decide (xs.length ≤ most) then some (.ok (PV.tup xs)) else none) (tk := fun xs _ H1 Q => xs.length ≤ sizeLine ∧ ∀ p, H1 p = none → Q (V.ref p) (upd H1 p (.tup xs))) r fun xs us σ H g S ρ Q res w er hx hm po => ?_
  split at hm
  · rename_i hc
    cases hm
    simp only [Bool.and_eq_true, decide_eq_true_eq] at hc
    have fr := OVs.frs hx hc.1
    refine ⟨by rw [← fr.length]; exact Nat.le_trans hc.2 most_le, fun q hq => ?_⟩
    obtain ⟨gr, f2⟩ := new_tup w hq fr
    exact po _ _ _ gr (.frz f2)
  · cases hm
theorem e_lst {m : Ar} (h : SimA X W es m) : SimE X W (.List es pos) (xLst m) := by
  obtain ⟨t, p, r⟩ := h.ex
  refine ⟨_, pe_lst p, ?_⟩
  refine Rch.bind (R' := RV X.K) (k := fun xs _ _ => if xs.all fz && decide (xs.length ≤ most) then some (.ok (PV.lst xs)) else none) (tk := fun xs _ H1 Q => xs.length ≤ sizeLine ∧ ∀ p, H1 p = none → Q (V.ref p) (upd H1 p (.lst xs))) r fun xs us σ H g S ρ Q res w er hx hm po => ?_
  split at hm
  · rename_i hc
    cases hm
    simp only [Bool.and_eq_true, decide_eq_true_eq] at hc
    have fr := OVs.frs hx hc.1
    refine ⟨by rw [← fr.length]; exact Nat.le_trans hc.2 most_le, fun q hq => ?_⟩
    obtain ⟨gr, f2⟩ := new_lst w hq fr
    exact po _ _ _ gr (.frz f2)
  · cases hm

/-! ### calls of built-ins by name -/
def xCall (op : List PV → Option PV) (m : Ar) : Ex := fun ρ S => mb (m ρ S) fun xs => mo (op xs)
theorem rch_call {r : List V → Hp → VK → Prop} {op : List PV → Option PV} {t : TA} {m : Ar} (hk : CallOk X.K op r) (h : Rch X.K (RL X.K) W t m) : Rch X.K (RV X.K) W (tCB r t) (xCall op m) := by
  refine Rch.bind (k := fun xs _ _ => mo (op xs)) (tk := fun xs _ H1 Q => r xs H1 Q) h fun x u σ H g S ρ Q res w er hx hm po => ?_
  cases z : op x with
  | none => rw [z] at hm; cases hm
  | some zz =>
    rw [z] at hm
    have e2 : res = .ok zz := (Option.some.inj hm).symm
    subst e2
    exact hk g S H x zz u Q w hx z po
theorem e_callB {x : Str} {p : Pos} {id : String} {r : List V → Hp → VK → Prop} {op : List PV → Option PV} {m : Ar} (hc : CallR X (.builtin id) r) (hk : CallOk X.K op r) (hg : Gl X x) (hm : X.mg x = none) (hv : bootBuiltins x = some (.builtin id)) (ha : SimA X W (e :: es) m)
    (hn : x ≠ "__name__" := by decide) (hdb : (x == ("__debug__" : Str)) = false := by decide)
    (he : starEach (e :: es) X.env = (false, eval e X.env) :: starEach es X.env := by rfl) (hpl : (backTo pos (starEach es X.env)).any (·.1) = false := by rfl) : SimE X W (.Call (.Name x p) (e :: es) [] pos) (xCall op m) := by
  obtain ⟨t, pp, rr⟩ := ha.ex
  exact ⟨_, pe_callB hc hg hm hv pp hn hdb he hpl, rch_call hk rr⟩
theorem e_callTy {x : Str} {p : Pos} {T : String} {r : List V → Hp → VK → Prop} {op : List PV → Option PV} {m : Ar} (hc : CallR X (.type T) r) (hk : CallOk X.K op r) (hg : Gl X x) (hm : X.mg x = none) (hv : bootBuiltins x = some (.type T)) (ha : SimA X W (e :: es) m)
    (hn : x ≠ "__name__" := by decide) (hdb : (x == ("__debug__" : Str)) = false := by decide)
    (he : starEach (e :: es) X.env = (false, eval e X.env) :: starEach es X.env := by rfl) (hpl : (backTo pos (starEach es X.env)).any (·.1) = false := by rfl) : SimE X W (.Call (.Name x p) (e :: es) [] pos) (xCall op m) := by
  obtain ⟨t, pp, rr⟩ := ha.ex
  exact ⟨_, pe_callTy hc hg hm hv pp hn hdb he hpl, rch_call hk rr⟩

/-! ### items, slices -/
theorem e_ix {r : R2} {op : PV → PV → Option PV} {ma mb' : Ex} (hr : IxR X r) (hk : OpOk X.K op r) (ha : SimE X W a ma) (hb : SimE X W b mb') (hs : PlainIx b := by intro _ _; rfl) : SimE X W (.Subscript a b pos) (xOp op ma mb') := by
  obtain ⟨ta, pa, ra⟩ := ha.ex
  obtain ⟨tb, pb, rb⟩ := hb.ex
  exact ⟨_, pe_ix hr pa pb hs, rch_op hk ra rb⟩
end
end L3

set_option Elab.async false
set_option linter.all false
set_option maxRecDepth 100000
set_option maxHeartbeats 4000000
namespace L3
open PySem PySem.Spec L2
set_option autoImplicit false

/-! ### whole numbers -/
def oI (C : Int → Int → Bool) (f : Int → Int → PV) : PV → PV → Option PV
  | .int i, .int j => if C i j then some (f i j) else none
  | _, _ => none
theorem oI_ok {K : PySem.W.Frag} {P : Int → Int → Prop} {C : Int → Int → Bool} {f : Int → Int → PV} {fv : Int → Int → V} (hP : ∀ i j, C i j = true → P i j) (hf : ∀ g i j, FR K g (f i j) (fv i j)) : OpOk K (oI C f) (rI P fv) := by
  intro g S H x y z u v Q w hx hy e q
  unfold oI at e
  split at e
  · rename_i i j
    split at e
    · rename_i hc
      cases e
      cases hx.fr rfl
      cases hy.fr rfl
      exact ⟨i, j, rfl, rfl, hP i j hc, q _ g H (.refl w) (.frz (hf g i j))⟩
    · cases e
  · cases e
def oI0 (f : Int → Int → PV) : PV → PV → Option PV
  | .int i, .int j => some (f i j)
  | _, _ => none
theorem oI0_ok {K : PySem.W.Frag} {f : Int → Int → PV} {fv : Int → Int → V} (hf : ∀ g i j, FR K g (f i j) (fv i j)) : OpOk K (oI0 f) (rI0 fv) := by
  intro g S H x y z u v Q w hx hy e q
  unfold oI0 at e
  split at e
  · rename_i i j
    cases e
    cases hx.fr rfl
    cases hy.fr rfl
    exact ⟨i, j, rfl, rfl, q _ g H (.refl w) (.frz (hf g i j))⟩
  · cases e
def two64 : Int := 18446744073709551616
def cMul (i j : Int) : Bool := (decide (-two64 < i) && decide (i < two64)) || (decide (-two64 < j) && decide (j < two64))
def cDiv (_ j : Int) : Bool := decide (0 < j) && decide (j < 1073741824)
def cPos (_ j : Int) : Bool := decide (0 < j)
theorem cMul_ok (i j : Int) (h : cMul i j = true) : CMul i j := by
  simp only [cMul, Bool.or_eq_true, Bool.and_eq_true, decide_eq_true_eq, two64] at h
  have e : (2 : Int) ^ 64 = 18446744073709551616 := by decide
  unfold CMul
  rw [e]
  rcases h with ⟨h1, h2⟩ | ⟨h1, h2⟩
  · exact .inl ⟨of_decide_eq_true h1, of_decide_eq_true h2⟩
  · exact .inr ⟨of_decide_eq_true h1, of_decide_eq_true h2⟩
theorem cDiv_ok (i j : Int) (h : cDiv i j = true) : CDiv i j := by
  simp only [cDiv, Bool.and_eq_true, decide_eq_true_eq] at h
  exact h
theorem cPos_ok (i j : Int) (h : cPos i j = true) : 0 < j := by
  simpa [cPos] using h

/-! ### texts, tuples, lists: + -/
def oSAdd : PV → PV → Option PV
  | .str a, .str b => if decide (a.length + b.length ≤ most) then some (.str (a ++ b)) else none
  | _, _ => none
theorem oSAdd_ok {K : PySem.W.Frag} : OpOk K oSAdd (fun x y H Q => ∃ i j, x = .str i ∧ y = .str j ∧ i.length + j.length ≤ sizeLine ∧ Q (.str (i ++ j)) H) := by
  intro g S H x y z u v Q w hx hy e q
  unfold oSAdd at e
  split at e
  · rename_i a b
    split at e
    · rename_i hc
      cases e
      cases hx.fr rfl
      cases hy.fr rfl
      exact ⟨a, b, rfl, rfl, Nat.le_trans (of_decide_eq_true hc) most_le, q _ g H (.refl w) (.frz (.str _))⟩
    · cases e
  · cases e
def oTCat : PV → PV → Option PV
  | .tup a, .tup b => if decide (a.length + b.length ≤ most) then some (.tup (a ++ b)) else none
  | _, _ => none
theorem oTCat_ok {K : PySem.W.Frag} : OpOk K oTCat (rCatA K) := by
  intro g S H x y z u v Q w hx hy e q
  unfold oTCat at e
  split at e
  · rename_i a b
    split at e
    · rename_i hc
      cases e
      cases hx.fr rfl with
      | tup sa fa =>
        cases hy.fr rfl with
        | tup sb fb =>
          rename_i pa va pb vb
          have hl : va.length + vb.length ≤ sizeLine := by rw [← fa.length, ← fb.length]; exact Nat.le_trans (of_decide_eq_true hc) most_le
          refine ⟨pa, pb, va, vb, rfl, rfl, w.f.sqT sa, w.f.sqT sb, hl, fun h => ?_, fun _ h => ?_, fun _ _ p hp => ?_⟩
          · subst h
            cases fa
            exact q _ g H (.refl w) (.frz (.tup sb fb))
          · subst h
            cases fb
            rw [List.append_nil] at q
            exact q _ g H (.refl w) (.frz (.tup sa fa))
          · obtain ⟨gr, f2⟩ := new_tup w hp (fa.append fb)
            exact q _ _ _ gr (.frz f2)
    · cases e
  · cases e
/-- a list that may be read here: its items at rest -/
theorem OV.list {K : PySem.W.Frag} {g : G} {S : Store} {H : Hp} {x : PV} {u : V} (w : WR K g S H) (h : OV K g H x u) {xs : List PV} (e : x = .lst xs ∨ x = .ol xs) : ∃ a vs, u = .ref a ∧ Rd H a (.lst vs) ∧ FRs K g xs vs := by
  rcases e with rfl | rfl
  · cases h.fr rfl with
    | lst s f => exact ⟨_, _, rfl, w.f _ _ s, f⟩
  · cases h with
    | frz z => cases z
    | ol r f => exact ⟨_, _, rfl, r, f⟩
def lsOf : PV → Option (List PV)
  | .lst xs => some xs
  | .ol xs => some xs
  | _ => none
theorem lsOf_ok {K : PySem.W.Frag} {g : G} {S : Store} {H : Hp} {x : PV} {u : V} {xs : List PV} (w : WR K g S H) (h : OV K g H x u) (e : lsOf x = some xs) : ∃ a vs, u = .ref a ∧ Rd H a (.lst vs) ∧ FRs K g xs vs := by
  unfold lsOf at e
  split at e
  · cases e; exact h.list w (.inl rfl)
  · cases e; exact h.list w (.inr rfl)
  · cases e
/-- the items of a list or tuple -/
def sqOf : PV → Option (List PV)
  | .kl xs => some xs
  | .lst xs => some xs
  | .ol xs => some xs
  | .tup xs => some xs
  | _ => none
theorem sqOf_ok {K : PySem.W.Frag} {g : G} {S : Store} {H : Hp} {x : PV} {u : V} {xs : List PV} (w : WR K g S H) (h : OV K g H x u) (e : sqOf x = some xs) : ∃ a vs, u = .ref a ∧ (SqL K H a vs ∨ SqT K H a vs) ∧ FRs K g xs vs := by
  unfold sqOf at e
  split at e
  · cases e
    cases h.fr rfl with
    | kl s f => exact ⟨_, _, rfl, .inl (w.f.sqL s), f⟩
  · cases e; obtain ⟨a, vs, e1, e2, e3⟩ := h.list w (.inl rfl); exact ⟨a, vs, e1, .inl (.inl e2), e3⟩
  · cases e; obtain ⟨a, vs, e1, e2, e3⟩ := h.list w (.inr rfl); exact ⟨a, vs, e1, .inl (.inl e2), e3⟩
  · cases e
    cases h.fr rfl with
    | tup s f => exact ⟨_, _, rfl, .inr (w.f.sqT s), f⟩
  · cases e
def oLCat : PV → PV → Option PV := fun x y => match lsOf x, lsOf y with
  | some a, some b => if decide (a.length + b.length ≤ most) then some (.lst (a ++ b)) else none
  | _, _ => none
def rCatR : R2 := fun x y H Q => ∃ l b xs zs, x = .ref l ∧ y = .ref b ∧ Rd H l (.lst xs) ∧ Rd H b (.lst zs) ∧ xs.length + zs.length ≤ sizeLine ∧ ∀ p, H p = none → Q (.ref p) (upd H p (.lst (xs ++ zs)))
theorem op_catR {X : Cx} : OpR X (binaryOp .Add) rCatR := by
  intro pins s σ H x y v u Q I rx ry h
  obtain ⟨l, b, xs, zs, rfl, rfl, hH, hB, hz, q⟩ := h
  cases rx
  cases ry
  obtain ⟨z, its, n, r, e⟩ := hH.ok I.hok
  obtain ⟨z2, its2, n2, r2, e2⟩ := hB.ok I.hok
  have hl := r.length
  have hl2 := r2.length
  refine PySem.P.add_list e e2 ?_ (by rw [List.size_toArray, List.size_toArray]; omega)
  have ea : its.toArray ++ its2.toArray = (its ++ its2).toArray := by simp
  rw [ea]
  exact ⟨.ref _, _, I.lnew (t' := s.toks) (r.append r2) (by rw [List.length_append]; omega), rfl, q _ I.fresh⟩
theorem oLCat_ok {K : PySem.W.Frag} : OpOk K oLCat rCatR := by
  intro g S H x y z u v Q w hx hy e q
  unfold oLCat at e
  split at e
  · rename_i a b ea eb
    split at e
    · rename_i hc
      cases e
      obtain ⟨pa, va, rfl, ra, fa⟩ := lsOf_ok w hx ea
      obtain ⟨pb, vb, rfl, rb, fb⟩ := lsOf_ok w hy eb
      refine ⟨pa, pb, va, vb, rfl, rfl, ra, rb, by rw [← fa.length, ← fb.length]; exact Nat.le_trans (of_decide_eq_true hc) most_le, fun p hp => ?_⟩
      obtain ⟨gr, f2⟩ := new_lst w hp (fa.append fb)
      exact q _ _ _ gr (.frz f2)
    · cases e
  · cases e
def oAdd : PV → PV → Option PV := oE (oI0 fun i j => .int (i + j)) (oE oSAdd (oE oTCat oLCat))
def oSub : PV → PV → Option PV := oI0 fun i j => .int (i - j)
def oFdiv : PV → PV → Option PV := oI cDiv fun i j => .int (i / j)
def oMod : PV → PV → Option PV := oI cPos fun i j => .int (i % j)
def oMulI : PV → PV → Option PV := oI cMul fun i j => .int (i * j)

/-! ### items -/
def ixP {α : Type} (xs : List α) (i : Int) : Option α := atI xs i
theorem FRs.atI {K : PySem.W.Frag} {g : G} {xs : List PV} {vs : List V} (f : FRs K g xs vs) {i : Int} {x : PV} (h : L2.atI xs i = some x) : ∃ v, L2.atI vs i = some v ∧ FR K g x v := by
  unfold L2.atI at h ⊢
  rw [← f.length]
  cases e : ixN xs.length i with
  | none => rw [e] at h; cases h
  | some j =>
    rw [e] at h
    exact f.get h
def oIx : PV → PV → Option PV := fun x y => match y with
  | .int i => (match x with
    | .str z => if decide (z.length ≤ most) then (atI z.cps.toList i).map fun c => .str ⟨#[c]⟩ else none
    | _ => match sqOf x with
      | some xs => atI xs i
      | none => none)
  | _ => none
theorem oIx_ok {K : PySem.W.Frag} : OpOk K oIx (rIx K) := by
  intro g S H x y z u v Q w hx hy e q
  unfold oIx at e
  split at e
  · rename_i i
    cases hy.fr rfl
    split at e
    · rename_i s
      split at e
      · rename_i hc
        cases hx.fr rfl
        cases e2 : atI s.cps.toList i with
        | none => rw [e2] at e; cases e
        | some c =>
          rw [e2] at e
          have e3 : z = .str ⟨#[c]⟩ := (Option.some.inj e).symm
          subst e3
          exact .inr (.inr ⟨s, i, c, rfl, rfl, Nat.le_trans (of_decide_eq_true hc) most_le, e2, q _ g H (.refl w) (.frz (.str _))⟩)
      · cases e
    · split at e
      · rename_i xs es
        obtain ⟨a, vs, rfl, sq, f⟩ := sqOf_ok w hx es
        obtain ⟨v, e4, fv⟩ := f.atI e
        rcases sq with sq | sq
        · exact .inl ⟨a, vs, i, v, rfl, rfl, sq, e4, q _ g H (.refl w) (.frz fv)⟩
        · exact .inr (.inl ⟨a, vs, i, v, rfl, rfl, sq, e4, q _ g H (.refl w) (.frz fv)⟩)
      · cases e
  · cases e

/-! ### equality -/
mutual
def toD : PV → PyData
  | .non => .none
  | .bl b => .bool b
  | .int i => .int i
  | .str x => .str x
  | .tup xs => .tuple (toDs xs)
  | .lst xs => .list (toDs xs)
  | .ol xs => .list (toDs xs)
  | .kl xs => .list (toDs xs)
  | _ => .dict []
def toDs : List PV → List PyData
  | [] => []
  | x :: xs => toD x :: toDs xs
end
mutual
/-- data alone: no object, no dict, no class within -/
def isD : PV → Bool
  | .non => true
  | .bl _ => true
  | .int _ => true
  | .str _ => true
  | .tup xs => isDs xs
  | .lst xs => isDs xs
  | .ol xs => isDs xs
  | .kl xs => isDs xs
  | _ => false
def isDs : List PV → Bool
  | [] => true
  | x :: xs => isD x && isDs xs
end
mutual
def dep : PV → Nat
  | .tup xs => 1 + deps xs
  | .lst xs => 1 + deps xs
  | .ol xs => 1 + deps xs
  | .kl xs => 1 + deps xs
  | _ => 0
def deps : List PV → Nat
  | [] => 0
  | x :: xs => max (dep x) (deps xs)
end
section
variable {K : PySem.W.Frag} {g : G} {H : Hp}
mutual
theorem FR.dp (hr : RdLe g.F H) : ∀ (x : PV) (v : V), FR K g x v → isD x = true → Dp K H v (toD x)
  | .non, _, q, _ => by cases q; exact .non
  | .bl _, _, q, _ => by cases q; exact .bl _
  | .int _, _, q, _ => by cases q; exact .int _
  | .str _, _, q, _ => by cases q; exact .str _
  | .tup xs, _, q, h => by
    cases q with
    | tup s f => rw [toD]; exact .tup (hr.sqT s) (FRs.dp hr xs _ f (by simpa [isD] using h))
  | .lst xs, _, q, h => by
    cases q with
    | lst s f => rw [toD]; exact .lst (.inl (hr _ _ s)) (FRs.dp hr xs _ f (by simpa [isD] using h))
  | .kl xs, _, q, h => by
    cases q with
    | kl s f => rw [toD]; exact .lst (hr.sqL s) (FRs.dp hr xs _ f (by simpa [isD] using h))
  | .ty _, _, _, h => by simp [isD] at h
  | .dct _, _, _, h => by simp [isD] at h
  | .ref _, _, _, h => by simp [isD] at h
  | .od _, _, _, h => by simp [isD] at h
  | .ol _, _, q, _ => by cases q
theorem FRs.dp (hr : RdLe g.F H) : ∀ (x : List PV) (v : List V), FRs K g x v → isDs x = true → DpAll K H v (toDs x)
  | [], _, q, _ => by cases q; rw [toDs]; exact .nil
  | x :: xs, _, q, h => by
    cases q with
    | cons a b =>
      have h' : isD x = true ∧ isDs xs = true := by simpa [isDs] using h
      rw [toDs]
      exact .cons (FR.dp hr x _ a h'.1) (FRs.dp hr xs _ b h'.2)
end
theorem OV.dp (hr : RdLe g.F H) {x : PV} {v : V} (q : OV K g H x v) (h : isD x = true) : Dp K H v (toD x) := by
  cases q with
  | frz z => exact z.dp hr _ _ h
  | ol r f => rw [toD]; exact .lst (.inl r) (f.dp hr _ _ (by simpa [isD] using h))
  | od _ _ => simp [isD] at h
mutual
theorem plain_toD : ∀ (x : PV), isD x = true → (toD x).plain = true
  | .non, _ => rfl
  | .bl _, _ => rfl
  | .int _, _ => rfl
  | .str _, _ => rfl
  | .tup xs, h => by rw [toD, PyData.plain]; exact plain_toDs xs (by simpa [isD] using h)
  | .lst xs, h => by rw [toD, PyData.plain]; exact plain_toDs xs (by simpa [isD] using h)
  | .ol xs, h => by rw [toD, PyData.plain]; exact plain_toDs xs (by simpa [isD] using h)
  | .kl xs, h => by rw [toD, PyData.plain]; exact plain_toDs xs (by simpa [isD] using h)
  | .ty _, h => by simp [isD] at h
  | .dct _, h => by simp [isD] at h
  | .ref _, h => by simp [isD] at h
  | .od _, h => by simp [isD] at h
theorem plain_toDs : ∀ (x : List PV), isDs x = true → PyData.plainAll (toDs x) = true
  | [], _ => by rw [toDs]; rfl
  | x :: xs, h => by
    have h' : isD x = true ∧ isDs xs = true := by simpa [isDs] using h
    rw [toDs, PyData.plainAll, plain_toD x h'.1, plain_toDs xs h'.2]; rfl
end
end
end L3

set_option Elab.async false
set_option linter.all false
set_option maxRecDepth 100000
set_option maxHeartbeats 4000000
namespace L3
open PySem PySem.Spec L2
set_option autoImplicit false

/-! ### == and != of data -/
mutual
theorem depth_toD : ∀ (x : PV), isD x = true → (toD x).depth = dep x
  | .non, _ => rfl
  | .bl _, _ => rfl
  | .int _, _ => rfl
  | .str _, _ => rfl
  | .tup xs, h => by rw [toD, PyData.depth, dep, depth_toDs xs (by simpa [isD] using h), Nat.add_comm]
  | .lst xs, h => by rw [toD, PyData.depth, dep, depth_toDs xs (by simpa [isD] using h), Nat.add_comm]
  | .ol xs, h => by rw [toD, PyData.depth, dep, depth_toDs xs (by simpa [isD] using h), Nat.add_comm]
  | .kl xs, h => by rw [toD, PyData.depth, dep, depth_toDs xs (by simpa [isD] using h), Nat.add_comm]
  | .ty _, h => by simp [isD] at h
  | .dct _, h => by simp [isD] at h
  | .ref _, h => by simp [isD] at h
  | .od _, h => by simp [isD] at h
theorem depth_toDs : ∀ (x : List PV), isDs x = true → PyData.depthAll (toDs x) = deps x
  | [], _ => by rw [toDs, PyData.depthAll, deps]
  | x :: xs, h => by
    have h' : isD x = true ∧ isDs xs = true := by simpa [isDs] using h
    rw [toDs, PyData.depthAll, deps, depth_toD x h'.1, depth_toDs xs h'.2]
end
/-- both are data, one of them at most sixty deep -/
def eqvP (x y : PV) : Option Bool := if isD x && isD y && decide (min (dep x) (dep y) ≤ 60) then some (PyData.eqv (toD x) (toD y)) else none
def oEq : PV → PV → Option PV := fun x y => (eqvP x y).map .bl
def oNe : PV → PV → Option PV := fun x y => (eqvP x y).map fun b => .bl (!b)
def rEqP (K : PySem.W.Frag) (f : Bool → Bool) : R2 := fun x y H Q => ∃ d e, Dp K H x d ∧ Dp K H y e ∧ d.plain = true ∧ e.plain = true ∧ min d.depth e.depth ≤ 60 ∧ Q (.bl (f (PyData.eqv d e))) H
theorem op_eqP {X : Cx} (hu : X.A.units + 64 < cLine) : OpR X (compareOp .Eq) (rEqP X.K fun b => b) := by
  intro pins s σ H x y v u Q I rx ry h
  obtain ⟨d, e, hd, he, sd, se, hm, q⟩ := h
  obtain ⟨as, r1⟩ := Dp.reads I d x v hd rx
  obtain ⟨bs, r2⟩ := Dp.reads I e y u he ry
  exact PySem.SeqAt.eq_plain r1 r2 sd se (by omega) ⟨.bl _, H, I, rfl, q⟩
theorem op_neP {X : Cx} (hu : X.A.units + 64 < cLine) : OpR X (compareOp .NotEq) (rEqP X.K fun b => !b) := by
  intro pins s σ H x y v u Q I rx ry h
  obtain ⟨d, e, hd, he, sd, se, hm, q⟩ := h
  obtain ⟨as, r1⟩ := Dp.reads I d x v hd rx
  obtain ⟨bs, r2⟩ := Dp.reads I e y u he ry
  exact PySem.SeqAt.ne_plain r1 r2 sd se (by omega) ⟨.bl _, H, I, rfl, q⟩
theorem eqP_ok {K : PySem.W.Frag} {f : Bool → Bool} : OpOk K (fun x y => (eqvP x y).map fun b => .bl (f b)) (rEqP K f) := by
  intro g S H x y z u v Q w hx hy e q
  replace e : (eqvP x y).map (fun b => PV.bl (f b)) = some z := e
  unfold eqvP at e
  split at e
  · rename_i hc
    simp only [Bool.and_eq_true, decide_eq_true_eq] at hc
    obtain ⟨⟨h1, h2⟩, h3⟩ := hc
    cases e
    refine ⟨_, _, hx.dp w.f h1, hy.dp w.f h2, plain_toD _ h1, plain_toD _ h2, ?_, q _ g H (.refl w) (.frz (.bl _))⟩
    rw [depth_toD x h1, depth_toD y h2]
    exact h3
  · cases e
theorem oEq_ok {K : PySem.W.Frag} : OpOk K oEq (rEqP K fun b => b) := eqP_ok
theorem oNe_ok {K : PySem.W.Frag} : OpOk K oNe (rEqP K fun b => !b) := eqP_ok

/-! ### order of whole numbers -/
def oLtI : PV → PV → Option PV := oI0 fun i j => .bl (decide (i < j))
def oLeI : PV → PV → Option PV := oI0 fun i j => .bl (decide (i ≤ j))
def oGtI : PV → PV → Option PV := oI0 fun i j => .bl (decide (j < i))
def oGeI : PV → PV → Option PV := oI0 fun i j => .bl (decide (j ≤ i))

/-! ### is None -/
def isNon : PV → Bool
  | .non => true
  | _ => false
def oIsN : PV → PV → Option PV := fun x y => match y with
  | .non => some (.bl (isNon x))
  | _ => none
def oNotN : PV → PV → Option PV := fun x y => match y with
  | .non => some (.bl (!isNon x))
  | _ => none
theorem isNon_ok {K : PySem.W.Frag} {g : G} {H : Hp} {x : PV} {u : V} (h : OV K g H x u) : decide (u = .non) = isNon x := by
  cases h with
  | frz z => cases z <;> first | rfl | exact decide_eq_false (fun e => by cases e)
  | ol _ _ => exact decide_eq_false (fun e => by cases e)
  | od _ _ => exact decide_eq_false (fun e => by cases e)
theorem oIsN_ok {K : PySem.W.Frag} : OpOk K oIsN (fun x y H Q => y = .non ∧ Q (.bl (decide (x = .non))) H) := by
  intro g S H x y z u v Q w hx hy e q
  unfold oIsN at e
  split at e
  · cases e
    cases hy.fr rfl
    exact ⟨rfl, by rw [isNon_ok hx]; exact q _ g H (.refl w) (.frz (.bl _))⟩
  · cases e
theorem oNotN_ok {K : PySem.W.Frag} : OpOk K oNotN (fun x y H Q => y = .non ∧ Q (.bl (!decide (x = .non))) H) := by
  intro g S H x y z u v Q w hx hy e q
  unfold oNotN at e
  split at e
  · cases e
    cases hy.fr rfl
    exact ⟨rfl, by rw [isNon_ok hx]; exact q _ g H (.refl w) (.frz (.bl _))⟩
  · cases e


/-! ### in -/
def inP (x : PV) (xs : List PV) : Bool := (toDs xs).any fun y => PyData.eqv y (toD x)
def inO (x y : PV) : Option Bool := match sqOf y with
  | some xs => if isD x && isDs xs && decide (min (deps xs) (dep x) ≤ 60) then some (inP x xs) else none
  | none => (match x, y with
    | .str a, .str z => (match a.cps.toList with
      | [c] => some (decide (c ∈ z.cps.toList))
      | _ => none)
    | _, _ => none)
def oIn : PV → PV → Option PV := fun x y => (inO x y).map fun b => .bl b
def oNotIn : PV → PV → Option PV := fun x y => (inO x y).map fun b => .bl (!b)
def rInP (K : PySem.W.Frag) (f : Bool → Bool) : R2 := fun x y H Q => (∃ d ds, Dp K H x d ∧ (Dp K H y (.list ds) ∨ Dp K H y (.tuple ds)) ∧ d.plain = true ∧ PyData.plainAll ds = true ∧ min (PyData.depthAll ds) d.depth ≤ 60 ∧ Q (.bl (f (ds.any fun z => PyData.eqv z d))) H) ∨
  ∃ (c : Nat) (z : Str), x = .str ⟨#[c]⟩ ∧ y = .str z ∧ Q (.bl (f (decide (c ∈ z.cps.toList)))) H
theorem op_inP {X : Cx} (hu : X.A.units + 64 < cLine) : OpR X (compareOp .In) (rInP X.K fun b => b) := by
  intro pins s σ H x y v u Q I rx ry h
  rcases h with ⟨d, ds, hd, hy, pd, pds, hm, q⟩ | h
  · obtain ⟨as, r1⟩ := Dp.reads I d x v hd rx
    rcases hy with hy | hy
    · obtain ⟨bs, r2⟩ := Dp.reads I _ y u hy ry
      exact PySem.SeqAt.in_list_data r2 r1 pds pd (by omega) ⟨.bl _, H, I, rfl, q⟩
    · obtain ⟨bs, r2⟩ := Dp.reads I _ y u hy ry
      exact PySem.SeqAt.in_tuple_data r2 r1 pds pd (by omega) ⟨.bl _, H, I, rfl, q⟩
  · exact op_in_sign pins s σ H x y v u Q I rx ry h
theorem op_notInP {X : Cx} (hu : X.A.units + 64 < cLine) : OpR X (compareOp .NotIn) (rInP X.K fun b => !b) := by
  intro pins s σ H x y v u Q I rx ry h
  rcases h with ⟨d, ds, hd, hy, pd, pds, hm, q⟩ | h
  · obtain ⟨as, r1⟩ := Dp.reads I d x v hd rx
    rcases hy with hy | hy
    · obtain ⟨bs, r2⟩ := Dp.reads I _ y u hy ry
      exact PySem.SeqAt.notIn_list_data r2 r1 pds pd (by omega) ⟨.bl _, H, I, rfl, q⟩
    · obtain ⟨bs, r2⟩ := Dp.reads I _ y u hy ry
      exact PySem.SeqAt.notIn_tuple_data r2 r1 pds pd (by omega) ⟨.bl _, H, I, rfl, q⟩
  · exact op_notIn_sign pins s σ H x y v u Q I rx ry h
theorem sq_dp {K : PySem.W.Frag} {g : G} {H : Hp} {y : PV} {v : V} {xs : List PV} (hr : RdLe g.F H) (hy : OV K g H y v) (e : sqOf y = some xs) (h : isDs xs = true) : Dp K H v (.list (toDs xs)) ∨ Dp K H v (.tuple (toDs xs)) := by
  unfold sqOf at e
  split at e
  · cases e; have := hy.dp hr (by rw [isD]; exact h); rw [toD] at this; exact .inl this
  · cases e; have := hy.dp hr (by rw [isD]; exact h); rw [toD] at this; exact .inl this
  · cases e; have := hy.dp hr (by rw [isD]; exact h); rw [toD] at this; exact .inl this
  · cases e; have := hy.dp hr (by rw [isD]; exact h); rw [toD] at this; exact .inr this
  · cases e
theorem sign_of {a : Str} {c : Nat} (h : a.cps.toList = [c]) : V.str a = .str ⟨#[c]⟩ := by
  obtain ⟨⟨l⟩⟩ := a
  have h : l = [c] := h
  rw [h]
theorem inP_ok {K : PySem.W.Frag} {f : Bool → Bool} : OpOk K (fun x y => (inO x y).map fun b => .bl (f b)) (rInP K f) := by
  intro g S H x y z u v Q w hx hy e q
  replace e : (inO x y).map (fun b => PV.bl (f b)) = some z := e
  unfold inO at e
  split at e
  · rename_i xs es
    split at e
    · rename_i hc
      simp only [Bool.and_eq_true, decide_eq_true_eq] at hc
      obtain ⟨⟨h1, h2⟩, h3⟩ := hc
      cases e
      refine .inl ⟨_, _, hx.dp w.f h1, sq_dp w.f hy es h2, plain_toD _ h1, plain_toDs _ h2, ?_, q _ g H (.refl w) (.frz (.bl _))⟩
      rw [depth_toD x h1, depth_toDs xs h2]
      exact h3
    · cases e
  · split at e
    · split at e
      · rename_i c hc
        cases e
        cases hx.fr rfl
        cases hy.fr rfl
        refine .inr ⟨c, _, ?_, rfl, q _ g H (.refl w) (.frz (.bl _))⟩
        exact sign_of hc
      · cases e
    · cases e
theorem oIn_ok {K : PySem.W.Frag} : OpOk K oIn (rInP K fun b => b) := inP_ok
theorem oNotIn_ok {K : PySem.W.Frag} : OpOk K oNotIn (rInP K fun b => !b) := inP_ok

/-! ### built-ins -/
theorem ovs1 {K : PySem.W.Frag} {g : G} {H : Hp} {x : PV} {us : List V} (h : OVs K g H [x] us) : ∃ u, us = [u] ∧ OV K g H x u := by
  cases h with
  | cons a b => cases b; exact ⟨_, rfl, a⟩
theorem ovs2 {K : PySem.W.Frag} {g : G} {H : Hp} {x y : PV} {us : List V} (h : OVs K g H [x, y] us) : ∃ u v, us = [u, v] ∧ OV K g H x u ∧ OV K g H y v := by
  cases h with
  | cons a b => cases b with | cons c d => cases d; exact ⟨_, _, rfl, a, c⟩
def bLen : List PV → Option PV
  | [.str z] => if decide (z.length ≤ most) then some (.int z.length) else none
  | [x] => (sqOf x).map fun xs => .int xs.length
  | _ => none
theorem bLen_ok {K : PySem.W.Frag} : CallOk K bLen (fun xs H Q => ∃ x n, xs = [x] ∧ LenV K x H n ∧ Q (.int n) H) := by
  intro g S H xs z us Q w hx e q
  unfold bLen at e
  split at e
  · obtain ⟨u, rfl, hu⟩ := ovs1 hx
    split at e
    · rename_i hc
      cases e
      cases hu.fr rfl
      exact ⟨_, _, rfl, ⟨Nat.le_trans (of_decide_eq_true hc) most_le, rfl⟩, q _ g H (.refl w) (.frz (.int _))⟩
    · cases e
  · obtain ⟨u, rfl, hu⟩ := ovs1 hx
    rename_i x _
    cases e2 : sqOf x with
    | none => rw [e2] at e; cases e
    | some xs =>
      rw [e2] at e
      have e3 : z = .int xs.length := (Option.some.inj e).symm
      subst e3
      obtain ⟨a, vs, rfl, sq, f⟩ := sqOf_ok w hu e2
      refine ⟨_, vs.length, rfl, ?_, q _ g H (.refl w) (by rw [f.length]; exact .frz (.int _))⟩
      exact sq.elim (fun s => .inl ⟨vs, s, rfl⟩) (fun s => .inr ⟨vs, s, rfl⟩)
  · cases e
def bTuple : List PV → Option PV
  | [x] => (sqOf x).map .tup
  | _ => none
theorem bTuple_ok {K : PySem.W.Frag} : CallOk K bTuple (fun xs H Q => ∃ p ys, xs = [.ref p] ∧ ((SqL K H p ys ∧ ∀ l, H l = none → Q (.ref l) (upd H l (.tup ys))) ∨ (SqT K H p ys ∧ Q (.ref p) H))) := by
  intro g S H xs z us Q w hx e q
  unfold bTuple at e
  split at e
  · obtain ⟨u, rfl, hu⟩ := ovs1 hx
    rename_i x
    cases e2 : sqOf x with
    | none => rw [e2] at e; cases e
    | some xs =>
      rw [e2] at e
      have e3 : z = .tup xs := (Option.some.inj e).symm
      subst e3
      cases x with
      | tup ys =>
        have e4 : ys = xs := Option.some.inj e2
        subst e4
        cases hu.fr rfl with
        | tup s f => exact ⟨_, _, rfl, .inr ⟨w.f.sqT s, q _ g H (.refl w) (.frz (.tup s f))⟩⟩
      | lst ys =>
        have e4 : ys = xs := Option.some.inj e2
        subst e4
        obtain ⟨a, vs, rfl, r, f⟩ := hu.list w (.inl rfl)
        refine ⟨_, _, rfl, .inl ⟨.inl r, fun p hp => ?_⟩⟩
        obtain ⟨gr, f2⟩ := new_tup w hp f
        exact q _ _ _ gr (.frz f2)
      | kl ys =>
        have e4 : ys = xs := Option.some.inj e2
        subst e4
        cases hu.fr rfl with
        | kl s f =>
          refine ⟨_, _, rfl, .inl ⟨w.f.sqL s, fun p hp => ?_⟩⟩
          obtain ⟨gr, f2⟩ := new_tup w hp f
          exact q _ _ _ gr (.frz f2)
      | ol ys =>
        have e4 : ys = xs := Option.some.inj e2
        subst e4
        obtain ⟨a, vs, rfl, r, f⟩ := hu.list w (.inr rfl)
        refine ⟨_, _, rfl, .inl ⟨.inl r, fun p hp => ?_⟩⟩
        obtain ⟨gr, f2⟩ := new_tup w hp f
        exact q _ _ _ gr (.frz f2)
      | _ => cases e2
  · cases e
def bInt : List PV → Option PV
  | [.int i] => some (.int i)
  | [.bl b] => some (.int (if b then 1 else 0))
  | _ => none
theorem bInt_ok {K : PySem.W.Frag} : CallOk K bInt (fun xs H Q => (∃ i, xs = [.int i] ∧ Q (.int i) H) ∨ ∃ k, xs = [.bl k] ∧ Q (.int (if k then 1 else 0)) H) := by
  intro g S H xs z us Q w hx e q
  unfold bInt at e
  split at e
  · obtain ⟨u, rfl, hu⟩ := ovs1 hx
    cases e; cases hu.fr rfl
    exact .inl ⟨_, rfl, q _ g H (.refl w) (.frz (.int _))⟩
  · obtain ⟨u, rfl, hu⟩ := ovs1 hx
    cases e; cases hu.fr rfl
    exact .inr ⟨_, rfl, q _ g H (.refl w) (.frz (.int _))⟩
  · cases e
def bAbs : List PV → Option PV
  | [.int i] => some (.int (if i < 0 then -i else i))
  | _ => none
theorem bAbs_ok {K : PySem.W.Frag} : CallOk K bAbs (fun xs H Q => ∃ i, xs = [.int i] ∧ Q (.int (if i < 0 then -i else i)) H) := by
  intro g S H xs z us Q w hx e q
  unfold bAbs at e
  split at e
  · obtain ⟨u, rfl, hu⟩ := ovs1 hx
    cases e; cases hu.fr rfl
    exact ⟨_, rfl, q _ g H (.refl w) (.frz (.int _))⟩
  · cases e
/-- a list of whole numbers; of bools -/
def intsOf : List PV → Option (List Int)
  | [] => some []
  | .int i :: r => (intsOf r).map (i :: ·)
  | _ => none
def blsOf : List PV → Option (List Bool)
  | [] => some []
  | .bl i :: r => (blsOf r).map (i :: ·)
  | _ => none
theorem intsOf_ok {K : PySem.W.Frag} {g : G} : ∀ {xs : List PV} {vs : List V} {ns : List Int}, FRs K g xs vs → intsOf xs = some ns → vs = ns.map V.int
  | [], _, _, h, e => by cases h; cases e; rfl
  | .int i :: r, _, _, h, e => by
    cases h with
    | cons a b =>
      cases a
      unfold intsOf at e
      cases e2 : intsOf r with
      | none => rw [e2] at e; cases e
      | some ms => rw [e2] at e; cases e; rw [intsOf_ok b e2]; rfl
  | .non :: _, _, _, _, e => by simp [intsOf] at e
  | .bl _ :: _, _, _, _, e => by simp [intsOf] at e
  | .str _ :: _, _, _, _, e => by simp [intsOf] at e
  | .ty _ :: _, _, _, _, e => by simp [intsOf] at e
  | .tup _ :: _, _, _, _, e => by simp [intsOf] at e
  | .lst _ :: _, _, _, _, e => by simp [intsOf] at e
  | .dct _ :: _, _, _, _, e => by simp [intsOf] at e
  | .ref _ :: _, _, _, _, e => by simp [intsOf] at e
  | .ol _ :: _, _, _, _, e => by simp [intsOf] at e
  | .od _ :: _, _, _, _, e => by simp [intsOf] at e
theorem blsOf_ok {K : PySem.W.Frag} {g : G} : ∀ {xs : List PV} {vs : List V} {ns : List Bool}, FRs K g xs vs → blsOf xs = some ns → vs = ns.map V.bl
  | [], _, _, h, e => by cases h; cases e; rfl
  | .bl i :: r, _, _, h, e => by
    cases h with
    | cons a b =>
      cases a
      unfold blsOf at e
      cases e2 : blsOf r with
      | none => rw [e2] at e; cases e
      | some ms => rw [e2] at e; cases e; rw [blsOf_ok b e2]; rfl
  | .non :: _, _, _, _, e => by simp [blsOf] at e
  | .int _ :: _, _, _, _, e => by simp [blsOf] at e
  | .str _ :: _, _, _, _, e => by simp [blsOf] at e
  | .ty _ :: _, _, _, _, e => by simp [blsOf] at e
  | .tup _ :: _, _, _, _, e => by simp [blsOf] at e
  | .lst _ :: _, _, _, _, e => by simp [blsOf] at e
  | .dct _ :: _, _, _, _, e => by simp [blsOf] at e
  | .ref _ :: _, _, _, _, e => by simp [blsOf] at e
  | .ol _ :: _, _, _, _, e => by simp [blsOf] at e
  | .od _ :: _, _, _, _, e => by simp [blsOf] at e
/-- of one list, its numbers -/
def onInts (f : List Int → Option PV) : List PV → Option PV
  | [x] => (lsOf x).bind fun xs => (intsOf xs).bind f
  | _ => none
theorem onInts_ok {K : PySem.W.Frag} {f : List Int → Option PV} {r : List V → Hp → VK → Prop} (h : ∀ (g : G) (S : Store) (H : Hp) (a : Addr) (ns : List Int) (z : PV) (Q : VK), WR K g S H → SqL K H a (ns.map V.int) → f ns = some z → (∀ w g' H', Grow g H g' H' → OV K g' H' z w → Q w H') → r [.ref a] H Q) : CallOk K (onInts f) r := by
  intro g S H xs z us Q w hx e q
  unfold onInts at e
  split at e
  · obtain ⟨u, rfl, hu⟩ := ovs1 hx
    rename_i x
    cases e2 : lsOf x with
    | none => rw [e2] at e; cases e
    | some ys =>
      rw [e2] at e
      have e : (intsOf ys).bind f = some z := e
      cases e3 : intsOf ys with
      | none => rw [e3] at e; cases e
      | some ns =>
        rw [e3] at e
        obtain ⟨a, vs, rfl, rd, fr⟩ := lsOf_ok w hu e2
        have e4 := intsOf_ok fr e3
        subst e4
        exact h g S H a ns z Q w (.inl rd) e q
  · cases e
def onBls (f : List Bool → Option PV) : List PV → Option PV
  | [x] => (lsOf x).bind fun xs => (blsOf xs).bind f
  | _ => none
theorem onBls_ok {K : PySem.W.Frag} {f : List Bool → Option PV} {r : List V → Hp → VK → Prop} (h : ∀ (g : G) (S : Store) (H : Hp) (a : Addr) (ns : List Bool) (z : PV) (Q : VK), WR K g S H → SqL K H a (ns.map V.bl) → f ns = some z → (∀ w g' H', Grow g H g' H' → OV K g' H' z w → Q w H') → r [.ref a] H Q) : CallOk K (onBls f) r := by
  intro g S H xs z us Q w hx e q
  unfold onBls at e
  split at e
  · obtain ⟨u, rfl, hu⟩ := ovs1 hx
    rename_i x
    cases e2 : lsOf x with
    | none => rw [e2] at e; cases e
    | some ys =>
      rw [e2] at e
      have e : (blsOf ys).bind f = some z := e
      cases e3 : blsOf ys with
      | none => rw [e3] at e; cases e
      | some ns =>
        rw [e3] at e
        obtain ⟨a, vs, rfl, rd, fr⟩ := lsOf_ok w hu e2
        have e4 := blsOf_ok fr e3
        subst e4
        exact h g S H a ns z Q w (.inl rd) e q
  · cases e
def bSum : List PV → Option PV := onInts fun ns => some (.int ns.sum)
theorem bSum_ok {K : PySem.W.Frag} : CallOk K bSum (rSum K) := onInts_ok fun g S H a ns z Q w sq e q => by cases e; exact ⟨a, ns, rfl, sq, q _ g H (.refl w) (.frz (.int _))⟩
def bAll : List PV → Option PV := onBls fun ns => some (.bl (ns.all id))
theorem bAll_ok {K : PySem.W.Frag} : CallOk K bAll (rAll K) := onBls_ok fun g S H a ns z Q w sq e q => by cases e; exact ⟨a, ns, rfl, sq, q _ g H (.refl w) (.frz (.bl _))⟩
def bAny : List PV → Option PV := onBls fun ns => some (.bl (ns.any id))
theorem bAny_ok {K : PySem.W.Frag} : CallOk K bAny (rAny K) := onBls_ok fun g S H a ns z Q w sq e q => by cases e; exact ⟨a, ns, rfl, sq, q _ g H (.refl w) (.frz (.bl _))⟩
end L3

set_option Elab.async false
set_option linter.all false
set_option maxRecDepth 100000
set_option maxHeartbeats 4000000
namespace L3
open PySem PySem.Spec L2
set_option autoImplicit false

theorem GLe.laid {g : G} {a : Addr} {o : HO} (e : g.F a = none) : GLe g { g with F := upd g.F a o } := ⟨fun b v q => by show upd g.F a o b = some v; rw [upd_ne (ne_of_none q e)]; exact q, Nat.le_refl _, fun _ _ => rfl⟩
/-! ### modes: the store is read alone (Pm), or changed -/
structure Md (K : PySem.W.Frag) where
  R : G → Store → Hp → Prop
  T : G → Hp → Store → G → Hp → Store → Prop
  fr : G → Addr → Prop
  wr : ∀ {g : G} {S : Store} {H : Hp}, R g S H → WR K g S H
  refl : ∀ {g : G} {S : Store} {H : Hp}, R g S H → T g H S g H S
  trans : ∀ {a b c : G} {H J L : Hp} {S S1 S2 : Store}, T a H S b J S1 → T b J S1 c L S2 → T a H S c L S2
  grow : ∀ {g g' : G} {S : Store} {H H' : Hp}, R g S H → Grow g H g' H' → R g' S H' ∧ T g H S g' H' S
  le : ∀ {g g' : G} {H H' : Hp} {S S' : Store}, T g H S g' H' S' → GLe g g'
  free : ∀ {g g' : G} {H H' : Hp} {S S' : Store} {a : Addr}, T g H S g' H' S' → H' a = none → H a = none
  own : ∀ {g g' : G} {H H' : Hp} {S S' : Store} {a : Addr} {o : HO}, T g H S g' H' S' → H a = some o → g.F a = none → fr g a → H' a = some o ∧ g'.F a = none ∧ fr g' a
  new : ∀ {g g' : G} {S : Store} {H H' : Hp} {p : Addr}, R g S H → Grow g H g' H' → H p = none → fr g' p
  put : ∀ {g0 g : G} {H0 H : Hp} {S0 S : Store} {a : Addr} {u : HO} (o : HO), R g0 S0 H0 → T g0 H0 S0 g H S → R g S H → H a = some u → H0 a = none → g.F a = none → fr g a → R g S (upd H a o) ∧ T g0 H0 S0 g (upd H a o) S
  rest : ∀ {g0 g : G} {H0 H : Hp} {S0 S : Store} {a : Addr} {o : HO}, T g0 H0 S0 g H S → R g S H → H a = some o → H0 a = none → g.F a = none → fr g a → R { g with F := upd g.F a o } S H ∧ T g0 H0 S0 { g with F := upd g.F a o } H S

/-- the store is read alone -/
def Pm (K : PySem.W.Frag) : Md K where
  R := WR K
  T := fun g H S g' H' S' => Grow g H g' H' ∧ S' = S
  fr := fun _ _ => True
  wr := fun h => h
  refl := fun h => ⟨.refl h, rfl⟩
  trans := fun x y => ⟨x.1.trans y.1, y.2.trans x.2⟩
  grow := fun r x => ⟨x.wr r, x, rfl⟩
  le := fun x => x.1.le
  free := fun x h => x.1.h.free h
  own := fun x h e _ => ⟨x.1.h _ _ h, x.1.none h e, trivial⟩
  new := fun _ _ _ => trivial
  put := fun {g0 g H0 H S0 S a u} o r0 x r h h0 e _ => by
    obtain ⟨x, rfl⟩ := x
    have z : Grow g0 H0 g (upd H a o) := by
      refine ⟨x.le, x.mu, x.k, x.m, fun b v q => ?_, fun b v q => ?_, x.n⟩
      · rw [upd_ne (ne_of_none q h0)]; exact x.h _ _ q
      · have nb : b ≠ a := by
          rintro rfl
          rcases q with q | ⟨_, q⟩ <;> rw [e] at q <;> cases q
        rcases x.f b v q with q | ⟨ob, q⟩
        · exact .inl (by rw [upd_ne nb]; exact q)
        · exact .inr ⟨ob, by rw [upd_ne nb]; exact q⟩
    exact ⟨z.wr r0, z, rfl⟩
  rest := fun {g0 g H0 H S0 S a o} x r h h0 e _ => by
    obtain ⟨x, rfl⟩ := x
    have hs : Same g.F (upd g.F a o) := fun b v q => by rw [upd_ne (ne_of_none q e)]; exact q
    have hf : RdLe (upd g.F a o) H := fun b v q => by
      by_cases hb : b = a
      · subst hb
        rcases q with q | ⟨ob, q⟩
        · rw [upd_same] at q; cases q; exact .inl h
        · rw [upd_same] at q; cases q; exact .inr ⟨ob, h⟩
      · rcases q with q | ⟨ob, q⟩
        · rw [upd_ne hb] at q; exact x.f _ _ (.inl q)
        · rw [upd_ne hb] at q; exact x.f _ _ (.inr ⟨ob, q⟩)
    refine ⟨⟨hf, r.k, fun n ob q => (r.s n ob q).mono (GLe.laid e) (Same.refl _)⟩, ⟨⟨x.le.f.trans hs, x.le.k, x.le.m⟩, x.mu, x.k, x.m, x.h, hf, fun b q => ?_⟩, rfl⟩
    by_cases hb : b = a
    · subst hb; exact .inr h0
    · have q : upd g.F a o b ≠ none := q
      rw [upd_ne hb] at q
      exact x.n b q

/-! ### environments -/
structure EnvF {K : PySem.W.Frag} (md : Md K) (g : G) (H : Hp) (σ : St) (ρ : Env) : Prop where
  r : EnvR K g H σ ρ
  o : ∀ (i : Nat) (x : PV) (a : Addr), ρ[i]? = some (some x) → fz x = false → σ[i]? = some (some (.ref a)) → md.fr g a
theorem EnvF.step {K : PySem.W.Frag} {md : Md K} {g g' : G} {H H' : Hp} {S S' : Store} {σ : St} {ρ : Env} (e : EnvF md g H σ ρ) (t : md.T g H S g' H' S') : EnvF md g' H' σ ρ := by
  have le := md.le t
  have key : ∀ (i : Nat) (x : PV), ρ[i]? = some (some x) → ∃ v, σ[i]? = some (some v) ∧ SlR K g' H' v x ∧ (fz x = false → ∀ a, v = .ref a → md.fr g' a) := fun i x h => by
    obtain ⟨v, hv, sl⟩ := e.r.at_ i x h
    refine ⟨v, hv, ?_⟩
    cases x with
    | ol xs =>
      obtain ⟨a, vs, e1, e2, e3, e4⟩ := sl
      obtain ⟨q1, q2, q3⟩ := md.own t e2 e4 (e.o i _ a h rfl (e1 ▸ hv))
      exact ⟨⟨a, vs, e1, q1, FRs.mono le _ _ e3, q2⟩, fun _ b eb => by rw [e1] at eb; cases eb; exact q3⟩
    | od xs =>
      obtain ⟨a, vs, e1, e2, e3, e4⟩ := sl
      obtain ⟨q1, q2, q3⟩ := md.own t e2 e4 (e.o i _ a h rfl (e1 ▸ hv))
      exact ⟨⟨a, vs, e1, q1, FRk.mono le _ _ e3, q2⟩, fun _ b eb => by rw [e1] at eb; cases eb; exact q3⟩
    | _ => exact ⟨FR.mono le _ _ sl, fun z => by cases z⟩
  refine ⟨⟨e.r.len, fun i x h => ?_, e.r.inj⟩, fun i x a h hf hs => ?_⟩
  · obtain ⟨v, h1, h2, _⟩ := key i x h; exact ⟨v, h1, h2⟩
  · obtain ⟨v, h1, _, h3⟩ := key i x h
    rw [h1] at hs
    exact h3 hf a (Option.some.inj (Option.some.inj hs))
/-- .. of a def's body that began at H0 -/
structure EnvS {K : PySem.W.Frag} (md : Md K) (H0 : Hp) (g : G) (H : Hp) (σ : St) (ρ : Env) : Prop where
  f : EnvF md g H σ ρ
  n : ∀ (i : Nat) (x : PV) (a : Addr), ρ[i]? = some (some x) → fz x = false → σ[i]? = some (some (.ref a)) → H0 a = none
theorem EnvS.step {K : PySem.W.Frag} {md : Md K} {H0 : Hp} {g g' : G} {H H' : Hp} {S S' : Store} {σ : St} {ρ : Env} (e : EnvS md H0 g H σ ρ) (t : md.T g H S g' H' S') : EnvS md H0 g' H' σ ρ := ⟨e.f.step t, e.n⟩
theorem get_set {α : Type} {l : List α} {i j : Nat} {x y : α} (h : (l.set i x)[j]? = some y) : (j = i ∧ i < l.length ∧ y = x) ∨ (j ≠ i ∧ l[j]? = some y) := by
  by_cases e : j = i
  · subst e
    by_cases hl : j < l.length
    · rw [List.getElem?_set_self hl] at h; exact .inl ⟨rfl, hl, (Option.some.inj h).symm⟩
    · rw [List.getElem?_eq_none (by simpa using hl)] at h; cases h
  · rw [List.getElem?_set_ne (Ne.symm e)] at h; exact .inr ⟨e, h⟩
/-- a value at rest is stored -/
theorem EnvS.set {K : PySem.W.Frag} {md : Md K} {H0 : Hp} {g : G} {H : Hp} {σ : St} {ρ : Env} (e : EnvS md H0 g H σ ρ) {i : Nat} {x : PV} {v : V} (f : FR K g x v) (hx : fz x = true) : EnvS md H0 g H (σ.set i (some v)) (ρ.set i (some x)) := by
  have hl := e.f.r.len
  have old : ∀ (j : Nat) (y : PV), j ≠ i → (σ.set i (some v))[j]? = σ[j]? := fun j y h => by rw [List.getElem?_set_ne (Ne.symm h)]
  refine ⟨⟨⟨by simp [hl], fun j y h => ?_, fun j k y z u h1 h2 f1 f2 s1 s2 => ?_⟩, fun j y a h hf hs => ?_⟩, fun j y a h hf hs => ?_⟩
  · rcases get_set h with ⟨rfl, hlt, hy⟩ | ⟨ne, h⟩
    · cases hy
      exact ⟨v, by rw [List.getElem?_set_self (by omega)], SlR.of_fr f⟩
    · rw [old j y ne]; exact e.f.r.at_ j y h
  · rcases get_set h1 with ⟨_, _, hy⟩ | ⟨n1, h1⟩
    · cases hy; rw [hx] at f1; cases f1
    · rcases get_set h2 with ⟨_, _, hy⟩ | ⟨n2, h2⟩
      · cases hy; rw [hx] at f2; cases f2
      · rw [old j y n1] at s1; rw [old k z n2] at s2
        exact e.f.r.inj j k y z u h1 h2 f1 f2 s1 s2
  · rcases get_set h with ⟨_, _, hy⟩ | ⟨n1, h⟩
    · cases hy; rw [hx] at hf; cases hf
    · rw [old j y n1] at hs; exact e.f.o j y a h hf hs
  · rcases get_set h with ⟨_, _, hy⟩ | ⟨n1, h⟩
    · cases hy; rw [hx] at hf; cases hf
    · rw [old j y n1] at hs; exact e.n j y a h hf hs
/-- a new list or dict that the slot owns is stored; a stands in no other slot -/
theorem EnvS.setO {K : PySem.W.Frag} {md : Md K} {H0 : Hp} {g : G} {H : Hp} {σ : St} {ρ : Env} (e : EnvS md H0 g H σ ρ) {i : Nat} {x : PV} {a : Addr} (f : SlR K g H (.ref a) x) (hx : fz x = false) (h0 : H0 a = none) (hf : md.fr g a)
    (hn : ∀ (j : Nat) (y : PV), j ≠ i → ρ[j]? = some (some y) → fz y = false → σ[j]? ≠ some (some (.ref a))) : EnvS md H0 g H (σ.set i (some (.ref a))) (ρ.set i (some x)) := by
  have hl := e.f.r.len
  have old : ∀ (j : Nat), j ≠ i → (σ.set i (some (.ref a)))[j]? = σ[j]? := fun j h => by rw [List.getElem?_set_ne (Ne.symm h)]
  refine ⟨⟨⟨by simp [hl], fun j y h => ?_, fun j k y z u h1 h2 f1 f2 s1 s2 => ?_⟩, fun j y b h hfz hs => ?_⟩, fun j y b h hfz hs => ?_⟩
  · rcases get_set h with ⟨rfl, hlt, hy⟩ | ⟨ne, h⟩
    · cases hy
      exact ⟨_, by rw [List.getElem?_set_self (by omega)], f⟩
    · rw [old j ne]; exact e.f.r.at_ j y h
  · rcases get_set h1 with ⟨e1, l1, hy1⟩ | ⟨n1, h1⟩
    · rcases get_set h2 with ⟨e2, _, _⟩ | ⟨n2, h2⟩
      · rw [e1, e2]
      · subst e1
        rw [List.getElem?_set_self (by omega)] at s1
        rw [old k n2, ← s1] at s2
        exact absurd s2 (hn k z n2 (by assumption) f2)
    · rcases get_set h2 with ⟨e2, l2, _⟩ | ⟨n2, h2⟩
      · subst e2
        rw [List.getElem?_set_self (by omega)] at s2
        rw [old j n1, ← s2] at s1
        exact absurd s1 (hn j y n1 (by assumption) f1)
      · rw [old j n1] at s1; rw [old k n2] at s2
        exact e.f.r.inj j k y z u h1 h2 f1 f2 s1 s2
  · rcases get_set h with ⟨e1, l1, _⟩ | ⟨n1, h⟩
    · subst e1; rw [List.getElem?_set_self (by omega)] at hs; cases hs; exact hf
    · rw [old j n1] at hs; exact e.f.o j y b h hfz hs
  · rcases get_set h with ⟨e1, l1, _⟩ | ⟨n1, h⟩
    · subst e1; rw [List.getElem?_set_self (by omega)] at hs; cases hs; exact h0
    · rw [old j n1] at hs; exact e.n j y b h hfz hs

/-! ### expressions in a mode -/
abbrev Xm := Env → Store → Option (Res PV × Store)
def PoX {K : PySem.W.Frag} (md : Md K) (g : G) (H : Hp) (S : Store) (σ : St) (W : WX) (Q : VK) : Res PV × Store → Prop
  | (.ok r, S') => ∀ v g' H', md.R g' S' H' → md.T g H S g' H' S' → OV K g' H' r v → Q v H'
  | (.ex c fs, S') => ∀ cls d g' H', md.R g' S' H' → md.T g H S g' H' S' → XR K g' H' c fs cls d → W cls d σ H'
def RchX {K : PySem.W.Frag} (md : Md K) (W : WX) (t : TE) (m : Xm) : Prop :=
  ∀ (σ : St) (H : Hp) (g : G) (S : Store) (ρ : Env) (Q : VK) (r : Res PV × Store), md.R g S H → EnvF md g H σ ρ → m ρ S = some r → PoX md g H S σ W Q r → t σ H Q
structure SimX (X : Cx) (md : Md X.K) (W : WX) (e : Expr) (m : Xm) : Prop where
  ex : ∃ t : TE, PE X e t ∧ RchX md W t m
def xP (m : Ex) : Xm := fun ρ S => (m ρ S).map fun r => (r, S)
theorem x_p {X : Cx} {md : Md X.K} {W : WX} {e : Expr} {m : Ex} (h : SimE X W e m) : SimX X md W e (xP m) := by
  obtain ⟨t, p, r⟩ := h.ex
  refine ⟨t, p, fun σ H g S ρ Q res rr er hm po => ?_⟩
  unfold xP at hm
  cases q : m ρ S with
  | none => rw [q] at hm; cases hm
  | some z =>
    rw [q] at hm
    have e2 : res = (z, S) := (Option.some.inj hm).symm
    subst e2
    refine r σ H g S ρ Q z (md.wr rr) er.r q ?_
    cases z with
    | ok x => exact fun v g' H' gr ov => by obtain ⟨a, b⟩ := md.grow rr gr; exact po v g' H' a b ov
    | ex c fs => exact fun cls d g' H' gr ov => by obtain ⟨a, b⟩ := md.grow rr gr; exact po cls d g' H' a b ov

/-- from a body's beginning to here; what gb knew is known still -/
structure Tr {K : PySem.W.Frag} (md : Md K) (gb g0 : G) (H0 : Hp) (S0 : Store) (g : G) (H : Hp) (S : Store) : Prop where
  t : md.T g0 H0 S0 g H S
  l : GLe gb g
theorem Tr.step {K : PySem.W.Frag} {md : Md K} {gb g0 g g' : G} {H0 H H' : Hp} {S0 S S' : Store} (x : Tr md gb g0 H0 S0 g H S) (y : md.T g H S g' H' S') : Tr md gb g0 H0 S0 g' H' S' := ⟨md.trans x.t y, x.l.trans (md.le y)⟩
/-! ### statements -/
inductive SR where
  | nx (ρ : Env) | rt (x : PV) | bk (ρ : Env) | ct (ρ : Env) | xx (c : Str) (fs : List (Str × PV)) (ρ : Env)
abbrev Sm := Env → Store → Option (SR × Store)
def PoS {K : PySem.W.Frag} (md : Md K) (gb g0 : G) (H0 : Hp) (S0 : Store) (W : WX) (D : Ends) : SR × Store → Prop
  | (.nx ρ, S) => ∀ σ g H, md.R g S H → Tr md gb g0 H0 S0 g H S → EnvS md H0 g H σ ρ → D.nx σ H
  | (.bk ρ, S) => ∀ σ g H, md.R g S H → Tr md gb g0 H0 S0 g H S → EnvS md H0 g H σ ρ → D.bk σ H
  | (.ct ρ, S) => ∀ σ g H, md.R g S H → Tr md gb g0 H0 S0 g H S → EnvS md H0 g H σ ρ → D.ct σ H
  | (.rt x, S) => ∀ v g H, md.R g S H → Tr md gb g0 H0 S0 g H S → FR K g x v → D.rt v H
  | (.xx c fs ρ, S) => ∀ cls d σ g H, md.R g S H → Tr md gb g0 H0 S0 g H S → EnvS md H0 g H σ ρ → XR K g H c fs cls d → W cls d σ H
def RchS {K : PySem.W.Frag} (md : Md K) (W : WX) (t : TS) (m : Sm) : Prop :=
  ∀ (σ : St) (H : Hp) (g : G) (S : Store) (ρ : Env) (gb g0 : G) (H0 : Hp) (S0 : Store) (D : Ends) (r : SR × Store), md.R g0 S0 H0 → md.R g S H → Tr md gb g0 H0 S0 g H S → EnvS md H0 g H σ ρ → m ρ S = some r → PoS md gb g0 H0 S0 W D r → t D σ H
structure SimS (X : Cx) (md : Md X.K) (W : WX) (st : Stmt) (m : Sm) : Prop where
  ex : ∃ t : TS, PS X st t ∧ RchS md W t m
structure SimB (X : Cx) (md : Md X.K) (W : WX) (st : List Stmt) (m : Sm) : Prop where
  ex : ∃ t : TS, PSs X st t ∧ RchS md W t m

section
variable {X : Cx} {md : Md X.K} {W : WX} {st : Stmt} {sts : List Stmt} {e : Expr} {pos : Pos}
def sNil : Sm := fun ρ S => some (.nx ρ, S)
theorem b_nil : SimB X md W [] sNil := ⟨_, pss_nil, fun σ H g S ρ gb g0 H0 S0 D r r0 rr t er hm po => by cases hm; exact po σ g H rr t er⟩
def sSeq (m n : Sm) : Sm := fun ρ S => match m ρ S with
  | some (.nx ρ', S') => n ρ' S'
  | r => r
theorem RchS.seq {t u : TS} {m n : Sm} (h : RchS md W t m) (k : RchS md W u n) : RchS md W (tSeq t u) (sSeq m n) := by
  intro σ H g S ρ gb g0 H0 S0 D r r0 rr tt er hm po
  unfold sSeq at hm
  split at hm
  · rename_i ρ' S' q
    refine h σ H g S ρ gb g0 H0 S0 _ (.nx ρ', S') r0 rr tt er q ?_
    exact fun σ' g' H' r' t' e' => k σ' H' g' S' ρ' gb g0 H0 S0 D r r0 r' t' e' hm po
  · rename_i q nq
    refine h σ H g S ρ gb g0 H0 S0 _ r r0 rr tt er hm ?_
    obtain ⟨r1, S1⟩ := r
    cases r1 with
    | nx ρ' => exact absurd hm (nq ρ' S1)
    | _ => exact po
theorem b_one {m : Sm} (h : SimS X md W st m) : SimB X md W [st] m := by
  obtain ⟨t, p, r⟩ := h.ex
  exact ⟨_, pss_one p, r⟩
theorem b_cons {m n : Sm} (h : SimS X md W st m) (k : SimB X md W sts n) : SimB X md W (st :: sts) (sSeq m n) := by
  obtain ⟨t, p, r⟩ := h.ex
  obtain ⟨t', p', r'⟩ := k.ex
  exact ⟨_, pss_cons p p', r.seq r'⟩
/-- what is never come to -/
def sNever : Sm := fun _ _ => none
theorem s_never : SimS X md W st sNever := ⟨_, ps_never, fun _ _ _ _ _ _ _ _ _ _ _ _ _ _ _ hm => by cases hm⟩
def sPass : Sm := fun ρ S => some (.nx ρ, S)
theorem s_pass : SimS X md W (.Pass pos) sPass := ⟨_, ps_pass, fun σ H g S ρ gb g0 H0 S0 D r r0 rr t er hm po => by cases hm; exact po σ g H rr t er⟩
def sBreak : Sm := fun ρ S => some (.bk ρ, S)
theorem s_break : SimS X md W (.Break pos) sBreak := ⟨_, ps_break, fun σ H g S ρ gb g0 H0 S0 D r r0 rr t er hm po => by cases hm; exact po σ g H rr t er⟩
def sCont : Sm := fun ρ S => some (.ct ρ, S)
theorem s_cont : SimS X md W (.Continue pos) sCont := ⟨_, ps_continue, fun σ H g S ρ gb g0 H0 S0 D r r0 rr t er hm po => by cases hm; exact po σ g H rr t er⟩

/-- an expression, then a statement's end by its value -/
def xThen (m : Xm) (k : PV → Env → Store → Option (SR × Store)) : Sm := fun ρ S => match m ρ S with
  | some (.ok x, S') => k x ρ S'
  | some (.ex c fs, S') => some (.xx c fs ρ, S')
  | none => none
theorem RchX.thn {t : TE} {m : Xm} (h : RchX md W t m) {k : PV → Env → Store → Option (SR × Store)} {tk : V → TS}
    (hk : ∀ (x : PV) (v : V) (σ : St) (H : Hp) (g : G) (S : Store) (ρ : Env) (gb g0 : G) (H0 : Hp) (S0 : Store) (D : Ends) (r : SR × Store), md.R g0 S0 H0 → md.R g S H → Tr md gb g0 H0 S0 g H S → EnvS md H0 g H σ ρ → OV X.K g H x v → k x ρ S = some r → PoS md gb g0 H0 S0 W D r → tk v D σ H) :
    RchS md W (fun D σ H => t σ H fun v H1 => tk v D σ H1) (xThen m k) := by
  intro σ H g S ρ gb g0 H0 S0 D r r0 rr tt er hm po
  unfold xThen at hm
  split at hm
  · rename_i x S' q
    refine h σ H g S ρ _ (.ok x, S') rr er.f q fun v g' H' r' t' ov => ?_
    exact hk x v σ H' g' S' ρ gb g0 H0 S0 D r r0 r' (tt.step t') (er.step t') ov hm po
  · rename_i c fs S' q
    cases hm
    refine h σ H g S ρ _ (.ex c fs, S') rr er.f q fun cls d g' H' r' t' xr => ?_
    exact po cls d σ g' H' r' (tt.step t') (er.step t') xr
  · cases hm
/-- e -/
def sExpr (m : Xm) : Sm := xThen m fun _ ρ S => some (.nx ρ, S)
theorem s_expr {m : Xm} (h : SimX X md W e m) (hs : swapsWith e none pos.line X.env = pure false := by rfl) : SimS X md W (.Expr e pos) (sExpr m) := by
  obtain ⟨t, p, r⟩ := h.ex
  refine ⟨_, ps_expr p hs, RchX.thn (tk := fun _ D σ H => D.nx σ H) r fun x v σ H g S ρ gb g0 H0 S0 D r r0 rr tt er ov hm po => ?_⟩
  cases hm
  exact po σ g H rr tt er
/-- return e -/
def sRet (m : Xm) : Sm := xThen m fun x _ S => if fz x then some (.rt x, S) else none
theorem s_ret {m : Xm} (h : SimX X md W e m) : SimS X md W (.Return (some e) pos) (sRet m) := by
  obtain ⟨t, p, r⟩ := h.ex
  refine ⟨_, ps_ret p, RchX.thn (tk := fun v D _ H => D.rt v H) r fun x v σ H g S ρ gb g0 H0 S0 D r r0 rr tt er ov hm po => ?_⟩
  split at hm
  · rename_i hf
    cases hm
    exact po v g H rr tt (ov.fr hf)
  · cases hm
def sRetN : Sm := fun _ S => some (.rt .non, S)
theorem s_retN : SimS X md W (.Return none pos) sRetN := ⟨_, ps_retN, fun σ H g S ρ gb g0 H0 S0 D r r0 rr t er hm po => by cases hm; exact po _ g H rr t .non⟩
/-- return x, a list that x owned -/
def sRetO (i : Nat) : Sm := fun ρ S => match ρ[i]? with
  | some (some (.ol xs)) => some (.rt (.lst xs), S)
  | some (some (.od xs)) => some (.rt (.dct xs), S)
  | _ => none
theorem s_retO {i : Nat} {x : Str} {pos' : Pos} (hN : X.N[i]? = some x) (hv : Vis X.env.scope x) (hd : (x == ("__debug__" : Str)) = false := by decide) (hcd : (x == ("__classdict__" : Str)) = false := by decide) : SimS X md W (.Return (some (.Name x pos')) pos) (sRetO i) := by
  refine ⟨_, ps_ret (pe_var hN hv hd hcd), fun σ H g S ρ gb g0 H0 S0 D r r0 rr t er hm po => ?_⟩
  unfold sRetO at hm
  split at hm
  · rename_i xs hi
    cases hm
    obtain ⟨v, hv, a, vs, rfl, h1, h2, h3⟩ := er.f.r.at_ i _ hi
    obtain ⟨ra, ta⟩ := md.rest t.t rr h1 (er.n i _ a hi rfl hv) h3 (er.f.o i _ a hi rfl hv)
    refine ⟨_, hv, po _ _ H ra ⟨ta, t.l.trans (GLe.laid h3)⟩ (.lst (.inl upd_same) (FRs.mono (GLe.laid h3) _ _ h2))⟩
  · rename_i xs hi
    cases hm
    obtain ⟨v, hv, a, vs, rfl, h1, h2, h3⟩ := er.f.r.at_ i _ hi
    obtain ⟨ra, ta⟩ := md.rest t.t rr h1 (er.n i _ a hi rfl hv) h3 (er.f.o i _ a hi rfl hv)
    refine ⟨_, hv, po _ _ H ra ⟨ta, t.l.trans (GLe.laid h3)⟩ (.dct (.inl upd_same) (FRk.mono (GLe.laid h3) _ _ h2))⟩
  · cases hm
end
end L3

set_option Elab.async false
set_option linter.all false
set_option maxRecDepth 100000
set_option maxHeartbeats 4000000
namespace L3
open PySem PySem.Spec L2
set_option autoImplicit false

/-! ### targets -/
abbrev Tg := PV → Env → Option Env
abbrev Tgs := List PV → Env → Option Env
/-- the slots ks alone may have been stored to, values at rest -/
structure Tgt (K : PySem.W.Frag) (g : G) (H : Hp) (σ : St) (ρ : Env) (σ' : St) (ρ' : Env) (ks : List Nat) : Prop where
  r : EnvR K g H σ' ρ'
  l : σ'.length = σ.length
  s : ∀ i, i ∉ ks → σ'[i]? = σ[i]?
  o : ∀ (i : Nat) (x : PV), ρ'[i]? = some (some x) → fz x = false → ρ[i]? = some (some x) ∧ σ'[i]? = σ[i]?
theorem EnvS.tgt {K : PySem.W.Frag} {md : Md K} {H0 : Hp} {g : G} {H : Hp} {σ σ' : St} {ρ ρ' : Env} {ks : List Nat} (e : EnvS md H0 g H σ ρ) (t : Tgt K g H σ ρ σ' ρ' ks) : EnvS md H0 g H σ' ρ' :=
  ⟨⟨t.r, fun i x a h hf hs => by obtain ⟨h1, h2⟩ := t.o i x h hf; exact e.f.o i x a h1 hf (h2 ▸ hs)⟩, fun i x a h hf hs => by obtain ⟨h1, h2⟩ := t.o i x h hf; exact e.n i x a h1 hf (h2 ▸ hs)⟩
theorem EnvR.set {K : PySem.W.Frag} {g : G} {H : Hp} {σ : St} {ρ : Env} (e : EnvR K g H σ ρ) {i : Nat} {x : PV} {v : V} (f : FR K g x v) (hx : fz x = true) : Tgt K g H σ ρ (σ.set i (some v)) (ρ.set i (some x)) [i] := by
  have hl := e.len
  have old : ∀ (j : Nat), j ≠ i → (σ.set i (some v))[j]? = σ[j]? := fun j h => by rw [List.getElem?_set_ne (Ne.symm h)]
  refine ⟨⟨by simp [hl], fun j y h => ?_, fun j k y z u h1 h2 f1 f2 s1 s2 => ?_⟩, by simp, fun j hj => old j (by simpa using hj), fun j y h hf => ?_⟩
  · rcases get_set h with ⟨rfl, hlt, hy⟩ | ⟨ne, h⟩
    · cases hy
      exact ⟨v, by rw [List.getElem?_set_self (by omega)], SlR.of_fr f⟩
    · rw [old j ne]; exact e.at_ j y h
  · rcases get_set h1 with ⟨_, _, hy⟩ | ⟨n1, h1⟩
    · cases hy; rw [hx] at f1; cases f1
    · rcases get_set h2 with ⟨_, _, hy⟩ | ⟨n2, h2⟩
      · cases hy; rw [hx] at f2; cases f2
      · rw [old j n1] at s1; rw [old k n2] at s2
        exact e.inj j k y z u h1 h2 f1 f2 s1 s2
  · rcases get_set h with ⟨_, _, hy⟩ | ⟨n1, h⟩
    · cases hy; rw [hx] at hf; cases hf
    · exact ⟨h, old j n1⟩
theorem Tgt.refl {K : PySem.W.Frag} {g : G} {H : Hp} {σ : St} {ρ : Env} (e : EnvR K g H σ ρ) : Tgt K g H σ ρ σ ρ [] := ⟨e, rfl, fun _ _ => rfl, fun _ _ h _ => ⟨h, rfl⟩⟩
theorem Tgt.trans {K : PySem.W.Frag} {g : G} {H : Hp} {σ σ' σ2 : St} {ρ ρ' ρ2 : Env} {ks ls : List Nat} (a : Tgt K g H σ ρ σ' ρ' ks) (b : Tgt K g H σ' ρ' σ2 ρ2 ls) : Tgt K g H σ ρ σ2 ρ2 (ks ++ ls) :=
  ⟨b.r, b.l.trans a.l, fun i h => by simp only [List.mem_append, not_or] at h; exact (b.s i h.2).trans (a.s i h.1), fun i x h hf => by obtain ⟨h1, h2⟩ := b.o i x h hf; obtain ⟨h3, h4⟩ := a.o i x h1 hf; exact ⟨h3, h2.trans h4⟩⟩
def RchG (K : PySem.W.Frag) (t : TG) (ks : List Nat) (tg : Tg) : Prop :=
  ∀ (v : V) (σ : St) (H : Hp) (g : G) (S : Store) (ρ ρ' : Env) (x : PV) (Q : St → Hp → Prop), WR K g S H → EnvR K g H σ ρ → FR K g x v → tg x ρ = some ρ' → (∀ σ', Tgt K g H σ ρ σ' ρ' ks → Q σ' H) → t v σ H Q
def RchGs (K : PySem.W.Frag) (t : TGs) (ks : List Nat) (tg : Tgs) : Prop :=
  ∀ (vs : List V) (σ : St) (H : Hp) (g : G) (S : Store) (ρ ρ' : Env) (xs : List PV) (Q : St → Hp → Prop), WR K g S H → EnvR K g H σ ρ → FRs K g xs vs → tg xs ρ = some ρ' → (∀ σ', Tgt K g H σ ρ σ' ρ' ks → Q σ' H) → t vs σ H Q
structure SimG (X : Cx) (target : Expr) (ks : List Nat) (tg : Tg) : Prop where
  ex : ∃ t : TG, PG X target t ∧ RchG X.K t ks tg
structure SimGs (X : Cx) (ts : List Expr) (ks : List Nat) (tg : Tgs) : Prop where
  ex : ∃ t : TGs, PGs X ts t ∧ RchGs X.K t ks tg
theorem FR.fz {K : PySem.W.Frag} {g : G} {x : PV} {v : V} (h : FR K g x v) : fz x = true := by cases h <;> rfl
section
variable {X : Cx} {md : Md X.K} {W : WX} {st : Stmt} {sts : List Stmt} {e : Expr} {es : List Expr} {pos : Pos}
def gN (i : Nat) : Tg := fun x ρ => some (ρ.set i (some x))
theorem rch_gN {i : Nat} : RchG X.K (gName i) [i] (gN i) := fun v σ H g S ρ ρ' x Q w er f hm q => by
  cases hm
  exact q _ (er.set f f.fz)
theorem g_name {i : Nat} {x : Str} (hN : X.N.Nodup) (hi : X.N[i]? = some x) (hx : Loc X.env.scope x) (hf : X.fn x = true ∨ X.env.scope.names.lookup x = some .local := by first | exact .inl rfl | exact .inr rfl | assumption) : SimG X (.Name x pos) [i] (gN i) :=
  ⟨_, pg_name hN hi hx hf, rch_gN⟩
def gsNil : Tgs := fun xs ρ => match xs with
  | [] => some ρ
  | _ => none
def gsCons (a : Tg) (b : Tgs) : Tgs := fun xs ρ => match xs with
  | x :: r => (a x ρ).bind fun ρ' => b r ρ'
  | [] => none
theorem gs_nil : SimGs X [] [] gsNil := by
  refine ⟨_, pgs_nil, fun vs σ H g S ρ ρ' xs Q w er f hm q => ?_⟩
  unfold gsNil at hm
  split at hm
  · cases hm; cases f; exact ⟨rfl, q _ (.refl er)⟩
  · cases hm
theorem gs_cons {a : Tg} {b : Tgs} {ks ls : List Nat} (h : SimG X e ks a) (k : SimGs X es ls b) (hs : (assignEach (e :: es) X.env).map (·.2) = assign e X.env :: (assignEach es X.env).map (·.2) := by rfl) : SimGs X (e :: es) (ks ++ ls) (gsCons a b) := by
  obtain ⟨t, p, r⟩ := h.ex
  obtain ⟨t', p', r'⟩ := k.ex
  refine ⟨_, pgs_cons p p' hs, fun vs σ H g S ρ ρ' xs Q w er f hm q => ?_⟩
  unfold gsCons at hm
  split at hm
  · rename_i x xr
    cases f with
    | cons fa fb =>
      cases z : a x ρ with
      | none => rw [z] at hm; cases hm
      | some ρ1 =>
        rw [z] at hm
        exact ⟨_, _, rfl, r _ σ H g S ρ ρ1 x _ w er fa z fun σ' er' => r' _ σ' H g S ρ1 ρ' xr Q w er'.r fb hm fun σ2 e2 => q σ2 (er'.trans e2)⟩
  · cases hm
def gT (n : Nat) (b : Tgs) : Tg := fun x ρ => match x with
  | .tup xs => if xs.length == n then b xs ρ else none
  | _ => none
theorem g_tup {k : Nat} {n : Nat} {b : Tgs} {ks : List Nat} (hc : X.calm = true) (h : SimGs X es ks b) (hn : (assignEach es X.env).length = n := by rfl) (hst : (assignEach es X.env).findIdx? (·.1) = none := by rfl) : SimG X (.Tuple es k pos) ks (gT n b) := by
  obtain ⟨t, p, r⟩ := h.ex
  refine ⟨_, pg_tup hc p hn hst, fun v σ H g S ρ ρ' x Q w er f hm q => ?_⟩
  unfold gT at hm
  split at hm
  · rename_i xs
    split at hm
    · rename_i hl
      cases f with
      | tup s fr => exact ⟨_, _, rfl, w.f.sqT s, by rw [← fr.length]; exact eq_of_beq hl, r _ σ H g S ρ ρ' xs Q w er fr hm q⟩
    · cases hm
  · cases hm

/-! ### target = e -/
def sAsg (tg : Tg) (m : Xm) : Sm := xThen m fun x ρ S => if fz x then (tg x ρ).map fun ρ' => (.nx ρ', S) else none
theorem RchS.asg {t : TE} {m : Xm} {tt : TG} {tg : Tg} {ks : List Nat} (h : RchX md W t m) (k : RchG X.K tt ks tg) : RchS md W (tAsg t tt) (sAsg tg m) := by
  refine RchX.thn (tk := fun v D σ H => tt v σ H D.nx) h fun x v σ H g S ρ gb g0 H0 S0 D r r0 rr tt' er ov hm po => ?_
  split at hm
  · rename_i hf
    cases z : tg x ρ with
    | none => rw [z] at hm; cases hm
    | some ρ' =>
      rw [z] at hm
      have e2 : r = (.nx ρ', S) := (Option.some.inj hm).symm
      subst e2
      exact k v σ H g S ρ ρ' x _ (md.wr rr) er.f.r (ov.fr hf) z fun σ' er' => po σ' g H rr tt' (er.tgt er')
  · cases hm
theorem s_set {i : Nat} {x : Str} {pos' : Pos} {m : Xm} (hN : X.N.Nodup) (hi : X.N[i]? = some x) (hx : Loc X.env.scope x) (he : SimX X md W e m) (hs : swapsWith e (some (.Name x pos')) pos.line X.env = pure false := by rfl)
    (hf : X.fn x = true ∨ X.env.scope.names.lookup x = some .local := by first | exact .inl rfl | exact .inr rfl | assumption) : SimS X md W (.Assign [.Name x pos'] e pos) (sAsg (gN i) m) := by
  obtain ⟨t, p, r⟩ := he.ex
  exact ⟨_, ps_set hN hi hx p hs hf, RchS.asg r rch_gN⟩
theorem s_asg {tg : Expr} {g : Tg} {m : Xm} {ks : List Nat} (he : SimX X md W e m) (hg : SimG X tg ks g) (hs : swapsWithSole [tg] e pos.line X.env = pure false := by rfl) (hw : swappedStores [tg] e X.env = pure none := by rfl)
    (h1 : (assignEach [tg] X.env).map (·.2) = [assign tg X.env] := by rfl) : SimS X md W (.Assign [tg] e pos) (sAsg g m) := by
  obtain ⟨t, p, r⟩ := he.ex
  obtain ⟨t', p', r'⟩ := hg.ex
  exact ⟨_, ps_asg p p' hs hw h1, RchS.asg r r'⟩
/-- name op= e -/
def sAug (op : PV → PV → Option PV) (i : Nat) (m : Ex) : Sm := fun ρ S => match ρ[i]? with
  | some (some x) => (match m ρ S with
    | some (.ok y) => (match op x y with
      | some z => if fz z then some (.nx (ρ.set i (some z)), S) else none
      | none => none)
    | some (.ex c fs) => some (.xx c fs ρ, S)
    | none => none)
  | _ => none
theorem s_aug {i : Nat} {x : Str} {pos' : Pos} {o : Operator} {r : R2} {op : PV → PV → Option PV} {m : Ex} (hN : X.N.Nodup) (hi : X.N[i]? = some x) (hx : Loc X.env.scope x) (ho : PIp X o r) (hk : OpOk X.K op r) (he : SimE X W e m)
    (hf : X.fn x = true ∨ X.env.scope.names.lookup x = some .local := by first | exact .inl rfl | exact .inr rfl | assumption) : SimS X md W (.AugAssign (.Name x pos') o e pos) (sAug op i m) := by
  obtain ⟨t, p, rc⟩ := he.ex
  refine ⟨_, ps_aug hN hi hx p ho hf, fun σ H g S ρ gb g0 H0 S0 D res r0 rr tt er hm po => ?_⟩
  unfold sAug at hm
  split at hm
  · rename_i y hy
    obtain ⟨v, hv, sl⟩ := er.f.r.at_ i y hy
    refine ⟨v, hv, ?_⟩
    split at hm
    · rename_i z hz
      refine rc σ H g S ρ _ (.ok z) (md.wr rr) er.f.r hz fun u g' H' gr ov => ?_
      split at hm
      · rename_i zz hzz
        split at hm
        · rename_i hfz
          cases hm
          obtain ⟨r1, t1⟩ := md.grow rr gr
          refine hk g' S H' y z zz v u _ (md.wr r1) (gr.ov sl.ov) ov hzz fun w2 g2 H2 gr2 o2 => ?_
          obtain ⟨r2, t2⟩ := md.grow r1 gr2
          exact po _ g2 H2 r2 ((tt.step t1).step t2) (((er.step t1).step t2).set (o2.fr hfz) hfz)
        · cases hm
      · cases hm
    · rename_i c fs hz
      cases hm
      refine rc σ H g S ρ _ (.ex c fs) (md.wr rr) er.f.r hz fun cls d g' H' gr xr => ?_
      obtain ⟨r1, t1⟩ := md.grow rr gr
      exact po cls d σ g' H' r1 (tt.step t1) (er.step t1) xr
    · cases hm
  · cases hm

/-! ### if, while -/
abbrev Tm := Env → Store → Option (Res Bool × Store)
def PoT {K : PySem.W.Frag} (md : Md K) (g : G) (H : Hp) (S : Store) (σ : St) (W : WX) (Q : Bool → Hp → Prop) : Res Bool × Store → Prop
  | (.ok r, S') => ∀ g' H', md.R g' S' H' → md.T g H S g' H' S' → Q r H'
  | (.ex c fs, S') => ∀ cls d g' H', md.R g' S' H' → md.T g H S g' H' S' → XR K g' H' c fs cls d → W cls d σ H'
def RchT {K : PySem.W.Frag} (md : Md K) (W : WX) (t : TT) (m : Tm) : Prop :=
  ∀ (σ : St) (H : Hp) (g : G) (S : Store) (ρ : Env) (Q : Bool → Hp → Prop) (r : Res Bool × Store), md.R g S H → EnvF md g H σ ρ → m ρ S = some r → PoT md g H S σ W Q r → t σ H Q
structure SimTX (X : Cx) (md : Md X.K) (W : WX) (e : Expr) (m : Tm) : Prop where
  ex : ∃ t : TT, PT X e t ∧ RchT md W t m
def tP (m : Te) : Tm := fun ρ S => (m ρ S).map fun r => (r, S)
theorem t_p {m : Te} (h : SimT X W e m) : SimTX X md W e (tP m) := by
  obtain ⟨t, p, r⟩ := h.ex
  refine ⟨t, p, fun σ H g S ρ Q res rr er hm po => ?_⟩
  unfold tP at hm
  cases q : m ρ S with
  | none => rw [q] at hm; cases hm
  | some z =>
    rw [q] at hm
    have e2 : res = (z, S) := (Option.some.inj hm).symm
    subst e2
    refine r σ H g S ρ Q z (md.wr rr) er.r q ?_
    cases z with
    | ok x => exact fun v g' H' gr ov => by obtain ⟨a, b⟩ := md.grow rr gr; cases ov; exact po g' H' a b
    | ex c fs => exact fun cls d g' H' gr ov => by obtain ⟨a, b⟩ := md.grow rr gr; exact po cls d g' H' a b ov
def sIf (c : Tm) (m n : Sm) : Sm := fun ρ S => match c ρ S with
  | some (.ok true, S') => m ρ S'
  | some (.ok false, S') => n ρ S'
  | some (.ex c fs, S') => some (.xx c fs ρ, S')
  | none => none
theorem s_if {c : Expr} {body orelse : List Stmt} {k : Tm} {m n : Sm} (hc : SimTX X md W c k) (h : SimB X md W body m) (h' : SimB X md W orelse n) : SimS X md W (.If c body orelse pos) (sIf k m n) := by
  obtain ⟨tc, pc, rc⟩ := hc.ex
  obtain ⟨t, p, r⟩ := h.ex
  obtain ⟨t', p', r'⟩ := h'.ex
  refine ⟨_, ps_if pc p p', fun σ H g S ρ gb g0 H0 S0 D res r0 rr tt er hm po => ?_⟩
  unfold sIf at hm
  split at hm
  · rename_i S' q
    refine rc σ H g S ρ _ (.ok true, S') rr er.f q fun g' H' r1 t1 => ?_
    rw [if_pos rfl]
    exact r σ H' g' S' ρ gb g0 H0 S0 D res r0 r1 (tt.step t1) (er.step t1) hm po
  · rename_i S' q
    refine rc σ H g S ρ _ (.ok false, S') rr er.f q fun g' H' r1 t1 => ?_
    rw [if_neg Bool.false_ne_true]
    exact r' σ H' g' S' ρ gb g0 H0 S0 D res r0 r1 (tt.step t1) (er.step t1) hm po
  · rename_i c fs S' q
    cases hm
    exact rc σ H g S ρ _ (.ex c fs, S') rr er.f q fun cls d g' H' r1 t1 xr => po cls d σ g' H' r1 (tt.step t1) (er.step t1) xr
  · cases hm
def sWhile (c : Tm) (m : Sm) : Nat → Sm
  | 0, _, _ => none
  | n + 1, ρ, S => match c ρ S with
    | some (.ok true, S') => (match m ρ S' with
      | some (.nx ρ', S2) => sWhile c m n ρ' S2
      | some (.ct ρ', S2) => sWhile c m n ρ' S2
      | some (.bk ρ', S2) => some (.nx ρ', S2)
      | r => r)
    | some (.ok false, S') => some (.nx ρ, S')
    | some (.ex c fs, S') => some (.xx c fs ρ, S')
    | none => none
theorem s_while {c : Expr} {body : List Stmt} {k : Tm} {m : Sm} (n : Nat) (hp : PassesOwn (model X.prog X.w) X.A X.env X.xe) (hc : SimTX X md W c k) (h : SimB X md W body m) : SimS X md W (.While c body [] pos) (sWhile k m n) := by
  obtain ⟨tc, pc, rc⟩ := hc.ex
  obtain ⟨t, p, r⟩ := h.ex
  refine ⟨_, ps_while hp pc p, fun σ H g S ρ gb g0 H0 S0 D res r0 rr tt er hm po => ?_⟩
  refine ⟨fun j σ H => ∃ g S ρ, md.R g S H ∧ Tr md gb g0 H0 S0 g H S ∧ EnvS md H0 g H σ ρ ∧ sWhile k m j ρ S = some res, ⟨n, g, S, ρ, rr, tt, er, hm⟩, ?_⟩
  rintro j σ H ⟨g, S, ρ, rr, tt, er, hm⟩
  cases j with
  | zero => cases hm
  | succ j =>
    unfold sWhile at hm
    split at hm
    · rename_i S' q
      refine rc σ H g S ρ _ (.ok true, S') rr er.f q fun g' H' r1 t1 => ?_
      rw [if_pos rfl]
      refine ⟨fun σ H => ∃ g S ρ, md.R g S H ∧ Tr md gb g0 H0 S0 g H S ∧ EnvS md H0 g H σ ρ ∧ sWhile k m j ρ S = some res, fun σ' H' z => ⟨j, Nat.lt_succ_self j, z⟩, ?_⟩
      split at hm
      · rename_i ρ' S2 q2
        exact r σ H' g' S' ρ gb g0 H0 S0 _ (.nx ρ', S2) r0 r1 (tt.step t1) (er.step t1) q2 fun σ2 g2 H2 r2 t2 e2 => ⟨g2, S2, ρ', r2, t2, e2, hm⟩
      · rename_i ρ' S2 q2
        exact r σ H' g' S' ρ gb g0 H0 S0 _ (.ct ρ', S2) r0 r1 (tt.step t1) (er.step t1) q2 fun σ2 g2 H2 r2 t2 e2 => ⟨g2, S2, ρ', r2, t2, e2, hm⟩
      · rename_i ρ' S2 q2
        cases hm
        exact r σ H' g' S' ρ gb g0 H0 S0 _ (.bk ρ', S2) r0 r1 (tt.step t1) (er.step t1) q2 po
      · rename_i n1 n2 n3
        obtain ⟨res1, S1⟩ := res
        refine r σ H' g' S' ρ gb g0 H0 S0 _ (res1, S1) r0 r1 (tt.step t1) (er.step t1) hm ?_
        cases res1 with
        | nx ρ' => exact absurd hm (n1 ρ' S1)
        | ct ρ' => exact absurd hm (n2 ρ' S1)
        | bk ρ' => exact absurd hm (n3 ρ' S1)
        | rt x => exact po
        | xx c fs ρ' => exact po
    · rename_i S' q
      cases hm
      refine rc σ H g S ρ _ (.ok false, S') rr er.f q fun g' H' r1 t1 => ?_
      rw [if_neg Bool.false_ne_true]
      exact po σ g' H' r1 (tt.step t1) (er.step t1)
    · rename_i c fs S' q
      cases hm
      exact rc σ H g S ρ _ (.ex c fs, S') rr er.f q fun cls d g' H' r1 t1 xr => po cls d σ g' H' r1 (tt.step t1) (er.step t1) xr
    · cases hm

/-! ### for -/
/-- the iterator J yields the items xs, at rest, whatever else is laid meanwhile -/
structure Wk (K : PySem.W.Frag) (g : G) (J : It) (xs : List PV) : Prop where
  go : ∀ (g' : G) (H : Hp) (i : Nat) (x : PV), GLe g g' → RdLe g'.F H → xs[i]? = some x → J.go i H
  yld : ∀ (g' : G) (S : Store) (H : Hp) (i : Nat) (x : PV) (v : V) (H' : Hp), GLe g g' → WR K g' S H → xs[i]? = some x → J.yld i H v H' → ∃ g2, Grow g' H g2 H' ∧ FR K g2 x v
  stop : ∀ (g' : G) (H : Hp), GLe g g' → RdLe g'.F H → J.stop xs.length H
/-- what a for walks: the items -/
structure SimI (X : Cx) (W : WX) (tg iter : Expr) (m : Ar) : Prop where
  ex : ∃ wi : TI, PI X tg iter wi ∧ ∀ (σ : St) (H : Hp) (g : G) (S : Store) (ρ : Env) (R : It → Hp → Prop) (r : Res (List PV)), WR X.K g S H → EnvR X.K g H σ ρ → m ρ S = some r →
    Po X.K (fun g' _ xs J => Wk X.K g' J xs) g H σ W R r → wi σ H R
def sLoop (tg : Tg) (m : Sm) : List PV → Sm
  | [], ρ, S => some (.nx ρ, S)
  | x :: xs, ρ, S => match tg x ρ with
    | none => none
    | some ρ1 => match m ρ1 S with
      | some (.nx ρ', S2) => sLoop tg m xs ρ' S2
      | some (.ct ρ', S2) => sLoop tg m xs ρ' S2
      | some (.bk ρ', S2) => some (.nx ρ', S2)
      | r => r
def sFor (it : Ar) (tg : Tg) (m : Sm) : Sm := fun ρ S => match it ρ S with
  | some (.ok xs) => sLoop tg m xs ρ S
  | some (.ex c fs) => some (.xx c fs ρ, S)
  | none => none
theorem PoS.weak {K : PySem.W.Frag} {md : Md K} {gb gb' g0 : G} {H0 : Hp} {S0 : Store} {W : WX} {D : Ends} (l : GLe gb gb') : ∀ {r : SR × Store}, PoS md gb g0 H0 S0 W D r → PoS md gb' g0 H0 S0 W D r
  | (.nx _, _), po => fun σ g H r t e => po σ g H r ⟨t.t, l.trans t.l⟩ e
  | (.bk _, _), po => fun σ g H r t e => po σ g H r ⟨t.t, l.trans t.l⟩ e
  | (.ct _, _), po => fun σ g H r t e => po σ g H r ⟨t.t, l.trans t.l⟩ e
  | (.rt _, _), po => fun v g H r t e => po v g H r ⟨t.t, l.trans t.l⟩ e
  | (.xx _ _ _, _), po => fun c d σ g H r t e x => po c d σ g H r ⟨t.t, l.trans t.l⟩ e x
theorem s_for {tg iter : Expr} {body : List Stmt} {it : Ar} {g1 : Tg} {m : Sm} {ks : List Nat} (hp : PassesOwn (model X.prog X.w) X.A X.env X.xe) (hc : X.calm = true) (hi : SimI X W tg iter it) (hg : SimG X tg ks g1) (h : SimB X md W body m)
    (hs : ∀ x, foldedSetIterable iter X.env x = pure x := by intro _; rfl) : SimS X md W (.For tg iter body [] pos) (sFor it g1 m) := by
  obtain ⟨wi, pi, ri⟩ := hi.ex
  obtain ⟨tt1, pg, rg⟩ := hg.ex
  obtain ⟨t, p, r⟩ := h.ex
  refine ⟨_, ps_for hp hc pi pg p hs, fun σ H g S ρ gb g0 H0 S0 D res r0 rr tt er hm po => ?_⟩
  unfold sFor at hm
  split at hm
  · rename_i xs q
    refine ri σ H g S ρ _ (.ok xs) (md.wr rr) er.f.r q fun J gJ H1 grJ wk => ?_
    obtain ⟨r1, t1⟩ := md.grow rr grJ
    have po : PoS md gJ g0 H0 S0 W D res := po.weak (tt.l.trans grJ.le)
    refine ⟨fun i j σ H => ∃ g S ρ, md.R g S H ∧ Tr md gJ g0 H0 S0 g H S ∧ EnvS md H0 g H σ ρ ∧ sLoop g1 m (xs.drop i) ρ S = some res ∧ i + j = xs.length, ⟨xs.length, gJ, S, ρ, r1, ⟨md.trans tt.t t1, .refl _⟩, er.step t1, by simpa using hm, by omega⟩, ?_⟩
    rintro i j σ H ⟨g, S, ρ, rr, tt, er, hm, hj⟩
    by_cases hi : i < xs.length
    · have hd : xs.drop i = xs[i] :: xs.drop (i + 1) := List.drop_eq_getElem_cons hi
      have hx : xs[i]? = some xs[i] := List.getElem?_eq_getElem hi
      rw [hd] at hm
      unfold sLoop at hm
      refine .inr ⟨wk.go g H i _ tt.l (md.wr rr).f hx, fun σ' H' => ∃ g S ρ, md.R g S H' ∧ Tr md gJ g0 H0 S0 g H' S ∧ EnvS md H0 g H' σ' ρ ∧ sLoop g1 m (xs.drop (i + 1)) ρ S = some res, fun σ' H' ⟨g', S', ρ', a2, a3, a4, a5⟩ => ⟨j - 1, by omega, g', S', ρ', a2, a3, a4, a5, by omega⟩, fun v H' hy => ?_⟩
      obtain ⟨g2, gr2, fx⟩ := wk.yld g S H i _ v H' tt.l (md.wr rr) hx hy
      obtain ⟨r2, t2⟩ := md.grow rr gr2
      split at hm
      · cases hm
      · rename_i ρ1 q1
        refine rg v σ H' g2 S ρ ρ1 _ _ (md.wr r2) (er.step t2).f.r fx q1 fun σ3 tg3 => ?_
        have er3 := (er.step t2).tgt tg3
        split at hm
        · rename_i ρ' S2 q2
          exact r σ3 H' g2 S ρ1 gJ g0 H0 S0 _ (.nx ρ', S2) r0 r2 (tt.step t2) er3 q2 fun σ4 g4 H4 r4 t4 e4 => ⟨g4, S2, ρ', r4, t4, e4, hm⟩
        · rename_i ρ' S2 q2
          exact r σ3 H' g2 S ρ1 gJ g0 H0 S0 _ (.ct ρ', S2) r0 r2 (tt.step t2) er3 q2 fun σ4 g4 H4 r4 t4 e4 => ⟨g4, S2, ρ', r4, t4, e4, hm⟩
        · rename_i ρ' S2 q2
          cases hm
          exact r σ3 H' g2 S ρ1 gJ g0 H0 S0 _ (.bk ρ', S2) r0 r2 (tt.step t2) er3 q2 po
        · rename_i n1 n2 n3
          obtain ⟨res1, S1⟩ := res
          refine r σ3 H' g2 S ρ1 gJ g0 H0 S0 _ (res1, S1) r0 r2 (tt.step t2) er3 hm ?_
          cases res1 with
          | nx ρ' => exact absurd hm (n1 ρ' S1)
          | ct ρ' => exact absurd hm (n2 ρ' S1)
          | bk ρ' => exact absurd hm (n3 ρ' S1)
          | rt x => exact po
          | xx c fs ρ' => exact po
    · have hi2 : i = xs.length := by omega
      rw [List.drop_of_length_le (by omega)] at hm
      unfold sLoop at hm
      cases hm
      subst hi2
      exact .inl ⟨wk.stop g H tt.l (md.wr rr).f, po σ g H rr tt er⟩
  · rename_i c fs q
    cases hm
    refine ri σ H g S ρ _ (.ex c fs) (md.wr rr) er.f.r q fun cls d g' H' gr xr => ?_
    obtain ⟨r1, t1⟩ := md.grow rr gr
    exact po cls d σ g' H' r1 (tt.step t1) (er.step t1) xr
  · cases hm
end
end L3

set_option Elab.async false
set_option linter.all false
set_option maxRecDepth 100000
set_option maxHeartbeats 4000000
namespace L3
open PySem PySem.Spec L2 PySem.P
set_option autoImplicit false
section
variable {X : Cx} {md : Md X.K} {W : WX} {st : Stmt} {sts : List Stmt} {e tg iter : Expr} {es : List Expr} {pos : Pos}

/-! ### what is walked -/
theorem PI.or {a b : TI} (h : PI X tg iter a) (k : PI X tg iter b) : PI X tg iter (fun σ H R => a σ H R ∨ b σ H R) := by
  refine ⟨fun pins s σ H R I q => ?_⟩
  rcases q with q | q
  · exact h.run pins s σ H R I q
  · exact k.run pins s σ H R I q
def signs (x : Str) : List PV := x.cps.toList.map fun c => .str ⟨#[c]⟩
def itemsOf : PV → Option (List PV)
  | .kl xs => some xs
  | .lst xs => some xs
  | .tup xs => some xs
  | .str x => some (signs x)
  | _ => none
/-- a list, a tuple, a text -/
def iSeq (m : Ex) : Ar := fun ρ S => mb (m ρ S) fun x => mo (itemsOf x)
theorem wk_list {K : PySem.W.Frag} {g : G} {a : Addr} {xs : List PV} {vs : List V} (r : SqL K g.F a vs) (f : FRs K g xs vs) : Wk K g (Itl K a) xs where
  go := fun g' H i x le rd hx => by
    obtain ⟨v, hv, _⟩ := f.get hx
    exact ⟨vs, v, rd.sqL ((RdLe.of_same le.f).sqL r), hv⟩
  yld := fun g' S H i x v H' le w hx hy => by
    obtain ⟨rfl, hy⟩ := hy
    obtain ⟨u, hu, fu⟩ := f.get hx
    have e := hy vs (w.f.sqL ((RdLe.of_same le.f).sqL r))
    rw [hu] at e
    cases e
    exact ⟨g', .refl w, FR.mono le _ _ fu⟩
  stop := fun g' H le rd => ⟨vs, rd.sqL ((RdLe.of_same le.f).sqL r), by rw [f.length]; exact Nat.le_refl _⟩
theorem wk_tup {K : PySem.W.Frag} {g : G} {a : Addr} {xs : List PV} {vs : List V} (r : SqT K g.F a vs) (f : FRs K g xs vs) : Wk K g (Itt K a) xs where
  go := fun g' H i x le rd hx => by
    obtain ⟨v, hv, _⟩ := f.get hx
    exact ⟨vs, v, rd.sqT ((RdLe.of_same le.f).sqT r), hv⟩
  yld := fun g' S H i x v H' le w hx hy => by
    obtain ⟨rfl, hy⟩ := hy
    obtain ⟨u, hu, fu⟩ := f.get hx
    have e := hy vs (w.f.sqT ((RdLe.of_same le.f).sqT r))
    rw [hu] at e
    cases e
    exact ⟨g', .refl w, FR.mono le _ _ fu⟩
  stop := fun g' H le rd => ⟨vs, rd.sqT ((RdLe.of_same le.f).sqT r), by rw [f.length]; exact Nat.le_refl _⟩
theorem wk_str {K : PySem.W.Frag} {g : G} (x : Str) : Wk K g (Its x) (signs x) where
  go := fun g' H i p le rd hx => by
    have h : i < (signs x).length := (List.getElem?_eq_some_iff.mp hx).1
    show i < x.cps.size
    simpa [signs] using h
  yld := fun g' S H i p v H' le w hx hy => by
    obtain ⟨rfl, c, hc, rfl⟩ := hy
    have hc : x.cps.toList[i]? = some c := by simpa using hc
    unfold signs at hx
    rw [List.getElem?_map, hc] at hx
    cases hx
    exact ⟨g', .refl w, .str _⟩
  stop := fun g' H le rd => by
    show x.cps.size ≤ (signs x).length
    simp [signs]
theorem i_seq {m : Ex} (h : SimE X W iter m) : SimI X W tg iter (iSeq m) := by
  obtain ⟨t, p, r⟩ := h.ex
  refine ⟨_, PI.or (pi_list p) (PI.or (pi_tup p) (pi_str p)), fun σ H g S ρ R res w er hm po => ?_⟩
  unfold iSeq at hm
  cases q : m ρ S with
  | none => rw [q] at hm; cases hm
  | some z =>
    rw [q] at hm
    cases z with
    | ex c fs =>
      have e2 : res = .ex c fs := (Option.some.inj hm).symm
      subst e2
      exact .inl (r σ H g S ρ _ (.ex c fs) w er q po)
    | ok x =>
      have hm : mo (itemsOf x) = some res := hm
      cases x with
      | lst xs =>
        cases hm
        refine .inl (r σ H g S ρ _ (.ok (.lst xs)) w er q fun v g' H' gr ov => ?_)
        cases ov.fr rfl with
        | lst s f => exact ⟨_, rfl, ⟨_, .inl (gr.f _ _ s)⟩, po _ g' H' gr (wk_list (.inl s) f)⟩
      | kl xs =>
        cases hm
        refine .inl (r σ H g S ρ _ (.ok (.kl xs)) w er q fun v g' H' gr ov => ?_)
        cases ov.fr rfl with
        | kl s f => exact ⟨_, rfl, ⟨_, gr.f.sqL s⟩, po _ g' H' gr (wk_list s f)⟩
      | tup xs =>
        cases hm
        refine .inr (.inl (r σ H g S ρ _ (.ok (.tup xs)) w er q fun v g' H' gr ov => ?_))
        cases ov.fr rfl with
        | tup s f => exact ⟨_, rfl, ⟨_, gr.f.sqT s⟩, po _ g' H' gr (wk_tup s f)⟩
      | str xs =>
        cases hm
        refine .inr (.inr (r σ H g S ρ _ (.ok (.str xs)) w er q fun v g' H' gr ov => ?_))
        cases ov.fr rfl
        exact ⟨_, rfl, po _ g' H' gr (wk_str xs)⟩
      | _ => cases hm
/-- range -/
def rngP (lo : Int) (n : Nat) : List PV := (List.range n).map fun (i : Nat) => .int (lo + (i : Int))
theorem wk_rng {K : PySem.W.Frag} {g : G} (lo : Int) (n : Nat) : Wk K g (Itr lo n) (rngP lo n) where
  go := fun g' H i p le rd hx => by
    have h : i < (rngP lo n).length := (List.getElem?_eq_some_iff.mp hx).1
    show i < n
    simpa [rngP] using h
  yld := fun g' S H i p v H' le w hx hy => by
    obtain ⟨rfl, rfl⟩ := hy
    unfold rngP at hx
    rw [List.getElem?_map] at hx
    by_cases hi : i < n
    · rw [List.getElem?_range hi] at hx
      cases hx
      exact ⟨g', .refl w, .int _⟩
    · rw [List.getElem?_eq_none (by simpa using hi)] at hx; cases hx
  stop := fun g' H le rd => by
    show n ≤ (rngP lo n).length
    simp [rngP]
def two62 : Int := 4611686018427387904
theorem two62_eq : (2 : Int) ^ 62 = two62 := by decide
def rOk (j : Int) : Bool := decide (-two62 ≤ j) && decide (j < two62)
theorem rOk_ok {j : Int} (h : rOk j = true) : -(2 ^ 62) ≤ j ∧ j < 2 ^ 62 := by
  simp only [rOk, Bool.and_eq_true, decide_eq_true_eq] at h
  rw [two62_eq]
  exact h
def iRange1 (m : Ar) : Ar := fun ρ S => mb (m ρ S) fun xs => match xs with
  | [.int j] => if rOk j then some (.ok (rngP 0 j.toNat)) else none
  | _ => none
theorem i_range1 {a : Expr} {m : Ar} {p : Pos} (hg : Gl X "range") (hm : X.mg "range" = none) (ha : SimA X W [a] m) (hs : starEach [a] X.env = [(false, eval a X.env)] := by rfl) : SimI X W tg (.Call (.Name "range" p) [a] [] pos) (iRange1 m) := by
  obtain ⟨t, pp, r⟩ := ha.ex
  refine ⟨_, pi_range1 hg hm pp hs, fun σ H g S ρ R res w er hm po => ?_⟩
  refine Rch.bind (R' := fun g' _ xs J => Wk X.K g' J xs) (k := fun xs _ _ => match xs with | [.int j] => if rOk j then some (.ok (rngP 0 j.toNat)) else none | _ => none) (tk := fun vs _ H1 R => ∃ j : Int, vs = [.int j] ∧ -(2 ^ 62) ≤ j ∧ j < 2 ^ 62 ∧ R (Itr 0 j.toNat) H1) r (fun xs us σ H g S ρ Q res w er hx hm po => ?_) σ H g S ρ R res w er hm po
  split at hm
  · obtain ⟨u, rfl, hu⟩ := ovs1 hx
    split at hm
    · rename_i hc
      cases hm
      cases hu.fr rfl
      obtain ⟨h1, h2⟩ := rOk_ok hc
      exact ⟨_, rfl, h1, h2, po _ g H (.refl w) (wk_rng _ _)⟩
    · cases hm
  · cases hm
def iRange2 (m : Ar) : Ar := fun ρ S => mb (m ρ S) fun xs => match xs with
  | [.int i, .int j] => if rOk i && rOk j then some (.ok (rngP i (j - i).toNat)) else none
  | _ => none
theorem i_range2 {a b : Expr} {m : Ar} {p : Pos} (hg : Gl X "range") (hm : X.mg "range" = none) (ha : SimA X W [a, b] m) (hs : starEach [a, b] X.env = [(false, eval a X.env), (false, eval b X.env)] := by rfl) (hs2 : starEach [b] X.env = [(false, eval b X.env)] := by rfl) : SimI X W tg (.Call (.Name "range" p) [a, b] [] pos) (iRange2 m) := by
  obtain ⟨t, pp, r⟩ := ha.ex
  refine ⟨_, pi_range2 hg hm pp hs hs2, fun σ H g S ρ R res w er hm po => ?_⟩
  refine Rch.bind (R' := fun g' _ xs J => Wk X.K g' J xs) (k := fun xs _ _ => match xs with | [.int i, .int j] => if rOk i && rOk j then some (.ok (rngP i (j - i).toNat)) else none | _ => none) (tk := fun vs _ H1 R => ∃ i j : Int, vs = [.int i, .int j] ∧ (-(2 ^ 62) ≤ i ∧ i < 2 ^ 62 ∧ -(2 ^ 62) ≤ j ∧ j < 2 ^ 62) ∧ R (Itr i (j - i).toNat) H1) r (fun xs us σ H g S ρ Q res w er hx hm po => ?_) σ H g S ρ R res w er hm po
  split at hm
  · obtain ⟨u, v, rfl, hu, hv⟩ := ovs2 hx
    split at hm
    · rename_i hc
      cases hm
      cases hu.fr rfl
      cases hv.fr rfl
      simp only [Bool.and_eq_true] at hc
      obtain ⟨h1, h2⟩ := rOk_ok hc.1
      obtain ⟨h3, h4⟩ := rOk_ok hc.2
      exact ⟨_, _, rfl, ⟨h1, h2, h3, h4⟩, po _ g H (.refl w) (wk_rng _ _)⟩
    · cases hm
  · cases hm

/-! ### new lists -/
/-- an expression that makes a new list -/
structure SimL (X : Cx) (W : WX) (e : Expr) (m : Ar) : Prop where
  ex : ∃ t : TE, PE X e t ∧ ∀ (σ : St) (H : Hp) (g : G) (S : Store) (ρ : Env) (Q : VK) (r : Res (List PV)), WR X.K g S H → EnvR X.K g H σ ρ → m ρ S = some r →
    (match r with
      | .ok xs => ∀ p vs g' H', Grow g H g' H' → H p = none → H' p = some (.lst vs) → g'.F p = none → FRs X.K g' xs vs → Q (.ref p) H'
      | .ex c fs => ∀ cls d g' H', Grow g H g' H' → XR X.K g' H' c fs cls d → W cls d σ H') → t σ H Q
theorem l_lst {m : Ar} (h : SimA X W es m) : SimL X W (.List es pos) (fun ρ S => mb (m ρ S) fun xs => if xs.all fz && decide (xs.length ≤ most) then some (.ok xs) else none) := by
  obtain ⟨t, p, r⟩ := h.ex
  refine ⟨_, pe_lst p, fun σ H g S ρ Q res w er hm po => ?_⟩
  cases q : m ρ S with
  | none => rw [q] at hm; cases hm
  | some z =>
    rw [q] at hm
    cases z with
    | ex c fs =>
      have e2 : res = .ex c fs := (Option.some.inj hm).symm
      subst e2
      exact r σ H g S ρ _ (.ex c fs) w er q po
    | ok xs =>
      have hm : (if xs.all fz && decide (xs.length ≤ most) then some (.ok xs) else none) = some res := hm
      split at hm
      · rename_i hc
        cases hm
        simp only [Bool.and_eq_true, decide_eq_true_eq] at hc
        refine r σ H g S ρ _ (.ok xs) w er q fun vs g' H' gr hx => ?_
        have fr := OVs.frs hx hc.1
        refine ⟨by rw [← fr.length]; exact Nat.le_trans hc.2 most_le, fun p hp => ?_⟩
        have w' := gr.wr w
        have fp : g'.F p = none := by
          cases e : g'.F p with
          | none => rfl
          | some u => rcases w'.f p u (.inl e) with q | ⟨_, q⟩ <;> rw [hp] at q <;> cases q
        exact po p vs g' _ (gr.trans (.loose w' hp)) (gr.h.free hp) upd_same fp fr
      · cases hm
/-- it is never changed -/
def xFz (m : Ar) : Ex := fun ρ S => mb (m ρ S) fun xs => some (.ok (.lst xs))
theorem e_fz {m : Ar} (h : SimL X W e m) : SimE X W e (xFz m) := by
  obtain ⟨t, p, r⟩ := h.ex
  refine ⟨t, p, fun σ H g S ρ Q res w er hm po => ?_⟩
  unfold xFz at hm
  cases q : m ρ S with
  | none => rw [q] at hm; cases hm
  | some z =>
    rw [q] at hm
    cases z with
    | ex c fs =>
      have e2 : res = .ex c fs := (Option.some.inj hm).symm
      subst e2
      exact r σ H g S ρ _ (.ex c fs) w er q po
    | ok xs =>
      have e2 : res = .ok (.lst xs) := (Option.some.inj hm).symm
      subst e2
      refine r σ H g S ρ _ (.ok xs) w er q fun p vs g' H' gr hp hp' fp fr => ?_
      have w' := gr.wr w
      have tt : (Pm X.K).T g H S g' H' S := ⟨gr, rfl⟩
      obtain ⟨_, z, _⟩ := (Pm X.K).rest tt w' hp' hp fp trivial
      exact po _ _ H' z (.frz (.lst (.inl upd_same) (FRs.mono (GLe.laid fp) _ _ fr)))
/-- x = e, x owns the new list -/
def sOwn (i : Nat) (m : Ar) : Sm := fun ρ S => match m ρ S with
  | some (.ok xs) => some (.nx (ρ.set i (some (.ol xs))), S)
  | some (.ex c fs) => some (.xx c fs ρ, S)
  | none => none
theorem EnvS.laidO {K : PySem.W.Frag} {md : Md K} {H0 : Hp} {g g' : G} {H H' : Hp} {S : Store} {σ : St} {ρ : Env} (er : EnvS md H0 g H σ ρ) (rr : md.R g S H) (gr : Grow g H g' H') {p : Addr} {vs : List V} {xs : List PV} (h0 : H0 p = none) (hp : H p = none) (hp' : H' p = some (.lst vs)) (fp : g'.F p = none) (fr : FRs K g' xs vs) (i : Nat) :
    EnvS md H0 g' H' (σ.set i (some (.ref p))) (ρ.set i (some (.ol xs))) := by
  obtain ⟨r1, t1⟩ := md.grow rr gr
  refine (er.step t1).setO (x := .ol xs) ⟨p, vs, rfl, hp', fr, fp⟩ rfl h0 (md.new rr gr hp) fun j y hj hy hfy hs => ?_
  obtain ⟨v, hv, sl⟩ := er.f.r.at_ j y hy
  rw [hv] at hs
  have e1 : v = .ref p := Option.some.inj (Option.some.inj hs)
  subst e1
  cases y with
  | ol ys => obtain ⟨a, vs, e, h, _⟩ := sl; cases e; rw [hp] at h; cases h
  | od ys => obtain ⟨a, vs, e, h, _⟩ := sl; cases e; rw [hp] at h; cases h
  | _ => cases hfy
theorem s_own {i : Nat} {x : Str} {pos' : Pos} {m : Ar} (hN : X.N.Nodup) (hi : X.N[i]? = some x) (hx : Loc X.env.scope x) (he : SimL X W e m) (hs : swapsWith e (some (.Name x pos')) pos.line X.env = pure false := by rfl)
    (hf : X.fn x = true ∨ X.env.scope.names.lookup x = some .local := by first | exact .inl rfl | exact .inr rfl | assumption) : SimS X md W (.Assign [.Name x pos'] e pos) (sOwn i m) := by
  obtain ⟨t, p, r⟩ := he.ex
  refine ⟨_, ps_set hN hi hx p hs hf, fun σ H g S ρ gb g0 H0 S0 D res r0 rr tt er hm po => ?_⟩
  unfold sOwn at hm
  split at hm
  · rename_i xs q
    cases hm
    refine r σ H g S ρ _ (.ok xs) (md.wr rr) er.f.r q fun p vs g' H' gr hp hp' fp fr => ?_
    obtain ⟨r1, t1⟩ := md.grow rr gr
    exact po _ g' H' r1 (tt.step t1) (er.laidO rr gr (md.free tt.t hp) hp hp' fp fr i)
  · rename_i c fs q
    cases hm
    refine r σ H g S ρ _ (.ex c fs) (md.wr rr) er.f.r q fun cls d g' H' gr xr => ?_
    obtain ⟨r1, t1⟩ := md.grow rr gr
    exact po cls d σ g' H' r1 (tt.step t1) (er.step t1) xr
  · cases hm
/-- what a slot owns is changed in place -/
theorem EnvS.upd {K : PySem.W.Frag} {md : Md K} {H0 : Hp} {g : G} {H : Hp} {σ : St} {ρ : Env} (e : EnvS md H0 g H σ ρ) {i : Nat} {x y : PV} {a : Addr} {o : HO} (hi : ρ[i]? = some (some x)) (hx : fz x = false) (hs : σ[i]? = some (some (.ref a))) (hy : fz y = false) (f : SlR K g (L2.upd H a o) (.ref a) y) :
    EnvS md H0 g (L2.upd H a o) σ (ρ.set i (some y)) := by
  have hl := e.f.r.len
  have hlt : i < ρ.length := (List.getElem?_eq_some_iff.mp hi).1
  refine ⟨⟨⟨by simp [hl], fun j z h => ?_, fun j k z u v h1 h2 f1 f2 s1 s2 => ?_⟩, fun j z b h hfz hs' => ?_⟩, fun j z b h hfz hs' => ?_⟩
  · rcases get_set h with ⟨rfl, _, hz⟩ | ⟨ne, h⟩
    · cases hz; exact ⟨_, hs, f⟩
    · obtain ⟨v, hv, sl⟩ := e.f.r.at_ j z h
      refine ⟨v, hv, ?_⟩
      cases z with
      | ol ys =>
        obtain ⟨b, vs, e1, e2, e3, e4⟩ := sl
        have nb : b ≠ a := fun eb => ne (e.f.r.inj j i _ x (.ref a) h hi rfl hx (by rw [hv, e1, eb]) hs)
        exact ⟨b, vs, e1, by rw [upd_ne nb]; exact e2, e3, e4⟩
      | od ys =>
        obtain ⟨b, vs, e1, e2, e3, e4⟩ := sl
        have nb : b ≠ a := fun eb => ne (e.f.r.inj j i _ x (.ref a) h hi rfl hx (by rw [hv, e1, eb]) hs)
        exact ⟨b, vs, e1, by rw [upd_ne nb]; exact e2, e3, e4⟩
      | _ => exact sl
  · have old : ∀ (j : Nat) (z : PV), (ρ.set i (some y))[j]? = some (some z) → fz z = false → ∃ z', ρ[j]? = some (some z') ∧ fz z' = false := fun j z h hf => by
      rcases get_set h with ⟨rfl, _, _⟩ | ⟨_, h⟩
      · exact ⟨x, hi, hx⟩
      · exact ⟨z, h, hf⟩
    obtain ⟨z', a1, a2⟩ := old j z h1 f1
    obtain ⟨u', b1, b2⟩ := old k u h2 f2
    exact e.f.r.inj j k z' u' v a1 b1 a2 b2 s1 s2
  · rcases get_set h with ⟨rfl, _, _⟩ | ⟨_, h⟩
    · exact e.f.o _ x b hi hx hs'
    · exact e.f.o j z b h hfz hs'
  · rcases get_set h with ⟨rfl, _, _⟩ | ⟨_, h⟩
    · exact e.n _ x b hi hx hs'
    · exact e.n j z b h hfz hs'
/-- x.append(e) -/
def sAppend (i : Nat) (m : Ex) : Sm := fun ρ S => match ρ[i]? with
  | some (some (.ol xs)) => (match m ρ S with
    | some (.ok y) => if fz y && decide (xs.length < most) then some (.nx (ρ.set i (some (.ol (xs ++ [y])))), S) else none
    | some (.ex c fs) => some (.xx c fs ρ, S)
    | none => none)
  | _ => none
theorem s_append {i : Nat} {x : Str} {pos' apos : Pos} {epos : Pos} {m : Ex} (hN : X.N[i]? = some x) (hv : Vis X.env.scope x) (he : SimE X W e m) (hd : (x == ("__debug__" : Str)) = false := by decide) (hcd : (x == ("__classdict__" : Str)) = false := by decide)
    (hbase : attributeBase (.Name x pos') "append" X.env (eval (.Name x pos') X.env) = eval (.Name x pos') X.env := by rfl)
    (hfew : ((backTo pos (starEach [e] X.env)).all (fun x => !x.1) && (backToKw pos (keywordEach [] X.env)).all (fun x => x.1.isSome)
      && decide ([e].length + ([] : List Keyword).length + (if ([] : List Keyword).isEmpty then 0 else 1) < 30)) = true := by rfl)
    (hline : (apos.endLine == pos.line) = true := by rfl) (hs : starEach [e] X.env = (false, eval e X.env) :: starEach [] X.env := by rfl) (hplain : (backTo pos (starEach [] X.env)).any (·.1) = false := by rfl)
    (hsw : swapsWith (.Call (.Attribute (.Name x pos') "append" apos) [e] [] pos) none epos.line X.env = pure false := by rfl) :
    SimS X md W (.Expr (.Call (.Attribute (.Name x pos') "append" apos) [e] [] pos) epos) (sAppend i m) := by
  obtain ⟨t, p, r⟩ := he.ex
  refine ⟨_, ps_expr (pe_bm PySem.F.plainAttrs_list PySem.F.slot_list_append PySem.F.type_list_append mt_append (pe_var hN hv hd hcd) (pa_cons p pa_nil hs) hbase hfew hline hs hplain) hsw, fun σ H g S ρ gb g0 H0 S0 D res r0 rr tt er hm po => ?_⟩
  unfold sAppend at hm
  split at hm
  · rename_i xs hi
    obtain ⟨v, hv, a, vs, rfl, h1, h2, h3⟩ := er.f.r.at_ i _ hi
    refine ⟨_, hv, .inl ⟨rfl, _, .inl (.inl h1)⟩, ?_⟩
    split at hm
    · rename_i y q
      split at hm
      · rename_i hc
        cases hm
        simp only [Bool.and_eq_true, decide_eq_true_eq] at hc
        refine r σ H g S ρ _ (.ok y) (md.wr rr) er.f.r q fun u g' H' gr ov => ?_
        obtain ⟨r1, t1⟩ := md.grow rr gr
        have er1 := er.step t1
        obtain ⟨q1, q2, q3⟩ := md.own t1 h1 h3 (er.f.o i _ a hi rfl hv)
        have f2 : FRs X.K g' (xs ++ [y]) (vs ++ [u]) := (FRs.mono gr.le _ _ h2).append (.cons (ov.fr hc.1) .nil)
        refine ⟨a, vs, u, rfl, rfl, q1, ?_, ?_⟩
        · rw [← h2.length]; exact Nat.lt_of_lt_of_le hc.2 most_le
        · obtain ⟨r2, t2⟩ := md.put (.lst (vs ++ [u])) r0 (tt.step t1).t r1 q1 (er.n i _ a hi rfl hv) q2 q3
          refine po σ g' _ r2 ⟨t2, (tt.step t1).l⟩ (er1.upd hi rfl hv rfl ⟨a, _, rfl, upd_same, f2, q2⟩)
      · cases hm
    · rename_i c fs q
      cases hm
      refine r σ H g S ρ _ (.ex c fs) (md.wr rr) er.f.r q fun cls d g' H' gr xr => ?_
      obtain ⟨r1, t1⟩ := md.grow rr gr
      exact po cls d σ g' H' r1 (tt.step t1) (er.step t1) xr
    · cases hm
  · cases hm
theorem ext_tupW (l : Addr) (items : Array Value) (n : Nat) (b : Addr) (items2 : Array Value) (n2 : Nat) (dd : Option Addr) (sl : Array (Option Value)) (hs0 : ¬(!items.isEmpty && Builtin.List.listTooLong (items.size + items2.size)) = true) (hs1 : items.size ≤ sizeLine) (hs2 : items.size + items2.size ≤ sizeLine + 1) :
    Meets (Builtin.«list.extend» ⟨[.ref l, .ref b], []⟩) (fun _ R s => s.heap.get? l = some { cls := .type "list", dict := none, data := .seq items n, slots := #[] } ∧ s.heap.get? b = some { cls := .type "tuple", dict := dd, data := .seq items2 n2, slots := sl } ∧ R (.ok (.ret Value.none)) { s with heap := s.heap.update l (Obj.mapSeq fun x => x ++ items2), toks := s.toks }) :=
  .of_wp fun prog w A R s h => by
    obtain ⟨hp, g, d, tk, os⟩ := s; obtain ⟨hl, hb, h⟩ := h; have f1 := AutoSeq1.idx_int; have f2 := AutoSeq1.sub_tuple_tuple; have f3 := AutoSeq1.sub_list_list; have f4 := AutoSeq1.sub_tuple_list; have f5 := AutoSeq1.sub_list_tuple;
    have hz' : (items ++ items2).size ≤ sizeLine + 1 := by rw [Array.size_append]; exact hs2
    wp_walk using (wpAny_updateSeq hl rfl (hz := hs1) (_hz' := hz')), AutoSeq1.wpAny_loadPart' hl, AutoSeq1.wpAny_loadPart' hb; exact ⟨_, rfl, h⟩
/-- x.extend(e), e a list or a tuple -/
def rExtR (K : PySem.W.Frag) : V → List V → Hp → VK → Prop := fun x vs H Q => ∃ l b xs zs, x = .ref l ∧ vs = [.ref b] ∧ H l = some (.lst xs) ∧ (Rd H b (.lst zs) ∨ SqT K H b zs) ∧ xs.length + zs.length ≤ sizeLine ∧ Q .non (L2.upd H l (.lst (xs ++ zs)))
theorem mt_extR : MtR X "list.extend" (rExtR X.K) := by
  intro pins s σ H x vs v us Q I rx rv h
  obtain ⟨l, b, xs, zs, rfl, rfl, hH, hB, hz, q⟩ := h
  cases rx
  obtain ⟨u, rfl, ru⟩ := rv.one
  cases ru
  obtain ⟨z, its, n, r, hl, e⟩ := I.lstM hH
  rcases hB with hB | hB
  · obtain ⟨z2, its2, n2, r2, e2⟩ := hB.ok I.hok
    have hl2 := r2.length
    have hsz : its.toArray.size + its2.toArray.size ≤ sizeLine := by rw [List.size_toArray, List.size_toArray]; omega
    have hlong : ¬ (!its.toArray.isEmpty && Builtin.List.listTooLong (its.toArray.size + its2.toArray.size)) = true := by
      rw [notLongL hsz, Bool.and_false]
      exact Bool.false_ne_true
    refine call_meets F.slot_list_extend ⟨_, e, rfl⟩ F.entry_list_extend (F.args_list_extend_2 _ _)
      (AutoSeq1.list_extend_list_list_0 l its.toArray n b its2.toArray n2 hlong (by rw [List.size_toArray]; omega) (by omega)) ⟨e, e2, ?_⟩
    refine ⟨.non, _, I.lset (its' := its ++ its2) hH e (by simp) (r.append r2) ?_, rfl, q⟩
    rw [List.length_append]
    omega
  · obtain ⟨its2, r2, ⟨⟨cls, dd, data, sl⟩, e2, hc, n2, hd⟩, z2⟩ := I.tuple hB
    simp only at hc hd
    subst hc hd
    have hl2 := r2.length
    have hsz : its.toArray.size + its2.toArray.size ≤ sizeLine := by rw [List.size_toArray, List.size_toArray]; omega
    have hlong : ¬ (!its.toArray.isEmpty && Builtin.List.listTooLong (its.toArray.size + its2.toArray.size)) = true := by
      rw [notLongL hsz, Bool.and_false]
      exact Bool.false_ne_true
    refine call_meets F.slot_list_extend ⟨_, e, rfl⟩ F.entry_list_extend (F.args_list_extend_2 _ _)
      (ext_tupW l its.toArray n b its2.toArray n2 dd sl hlong (by rw [List.size_toArray]; omega) (by omega)) ⟨e, e2, ?_⟩
    refine ⟨.non, _, I.lset (its' := its ++ its2) hH e (by simp) (r.append r2) ?_, rfl, q⟩
    rw [List.length_append]
    omega
def sExtend (i : Nat) (m : Ex) : Sm := fun ρ S => match ρ[i]? with
  | some (some (.ol xs)) => (match m ρ S with
    | some (.ok y) => (match y with
      | .lst ys => if decide (xs.length + ys.length ≤ most) then some (.nx (ρ.set i (some (.ol (xs ++ ys)))), S) else none
      | .tup ys => if decide (xs.length + ys.length ≤ most) then some (.nx (ρ.set i (some (.ol (xs ++ ys)))), S) else none
      | _ => none)
    | some (.ex c fs) => some (.xx c fs ρ, S)
    | none => none)
  | _ => none
theorem s_extend {i : Nat} {x : Str} {pos' apos : Pos} {epos : Pos} {m : Ex} (hN : X.N[i]? = some x) (hv : Vis X.env.scope x) (he : SimE X W e m) (hd : (x == ("__debug__" : Str)) = false := by decide) (hcd : (x == ("__classdict__" : Str)) = false := by decide)
    (hbase : attributeBase (.Name x pos') "extend" X.env (eval (.Name x pos') X.env) = eval (.Name x pos') X.env := by rfl)
    (hfew : ((backTo pos (starEach [e] X.env)).all (fun x => !x.1) && (backToKw pos (keywordEach [] X.env)).all (fun x => x.1.isSome)
      && decide ([e].length + ([] : List Keyword).length + (if ([] : List Keyword).isEmpty then 0 else 1) < 30)) = true := by rfl)
    (hline : (apos.endLine == pos.line) = true := by rfl) (hs : starEach [e] X.env = (false, eval e X.env) :: starEach [] X.env := by rfl) (hplain : (backTo pos (starEach [] X.env)).any (·.1) = false := by rfl)
    (hsw : swapsWith (.Call (.Attribute (.Name x pos') "extend" apos) [e] [] pos) none epos.line X.env = pure false := by rfl) :
    SimS X md W (.Expr (.Call (.Attribute (.Name x pos') "extend" apos) [e] [] pos) epos) (sExtend i m) := by
  obtain ⟨t, p, r⟩ := he.ex
  refine ⟨_, ps_expr (pe_bm PySem.F.plainAttrs_list PySem.F.slot_list_extend PySem.F.type_list_extend mt_extR (pe_var hN hv hd hcd) (pa_cons p pa_nil hs) hbase hfew hline hs hplain) hsw, fun σ H g S ρ gb g0 H0 S0 D res r0 rr tt er hm po => ?_⟩
  unfold sExtend at hm
  split at hm
  · rename_i xs hi
    obtain ⟨v, hv, a, vs, rfl, h1, h2, h3⟩ := er.f.r.at_ i _ hi
    refine ⟨_, hv, .inl ⟨rfl, _, .inl (.inl h1)⟩, ?_⟩
    split at hm
    · rename_i y q
      refine r σ H g S ρ _ (.ok y) (md.wr rr) er.f.r q fun u g' H' gr ov => ?_
      obtain ⟨r1, t1⟩ := md.grow rr gr
      have er1 := er.step t1
      obtain ⟨q1, q2, q3⟩ := md.own t1 h1 h3 (er.f.o i _ a hi rfl hv)
      have main : ∀ (ys : List PV) (zs : List V) (b : Addr), u = .ref b → (Rd H' b (.lst zs) ∨ SqT X.K H' b zs) → FRs X.K g' ys zs → (if decide (xs.length + ys.length ≤ most) = true then some (SR.nx (ρ.set i (some (.ol (xs ++ ys)))), S) else none) = some res → rExtR X.K (.ref a) [u] H' (fun _ H1 => D.nx σ H1) := fun ys zs b hu hb hf hm => by
        split at hm
        · rename_i hc
          cases hm
          have f2 : FRs X.K g' (xs ++ ys) (vs ++ zs) := (FRs.mono gr.le _ _ h2).append hf
          refine ⟨a, b, vs, zs, rfl, by rw [hu], q1, hb, by rw [← h2.length, ← hf.length]; exact Nat.le_trans (of_decide_eq_true hc) most_le, ?_⟩
          obtain ⟨r2, t2⟩ := md.put (.lst (vs ++ zs)) r0 (tt.step t1).t r1 q1 (er.n i _ a hi rfl hv) q2 q3
          exact po σ g' _ r2 ⟨t2, (tt.step t1).l⟩ (er1.upd hi rfl hv rfl ⟨a, _, rfl, upd_same, f2, q2⟩)
        · cases hm
      split at hm
      · rename_i ys
        cases ov.fr rfl with
        | lst s f => exact main ys _ _ rfl (.inl ((md.wr r1).f _ _ s)) f hm
      · rename_i ys
        cases ov.fr rfl with
        | tup s f => exact main ys _ _ rfl (.inr ((md.wr r1).f.sqT s)) f hm
      · cases hm
    · rename_i c fs q
      cases hm
      refine r σ H g S ρ _ (.ex c fs) (md.wr rr) er.f.r q fun cls d g' H' gr xr => ?_
      obtain ⟨r1, t1⟩ := md.grow rr gr
      exact po cls d σ g' H' r1 (tt.step t1) (er.step t1) xr
    · cases hm
  · cases hm
end
end L3

set_option Elab.async false
set_option linter.all false
set_option maxRecDepth 100000
set_option maxHeartbeats 4000000
namespace L3
open PySem PySem.Spec L2
set_option autoImplicit false

/-! ### defs -/
abbrev Fm := List PV → Store → Option (Res PV × Store)
/-- what a def promises: it computes m, in the mode md -/
def spM {K : PySem.W.Frag} (md : Md K) (n : Nat) (m : Fm) : Sp := fun vs H Q E => ∃ (g : G) (S : Store) (xs : List PV) (r : Res PV × Store), md.R g S H ∧ FRs K g xs vs ∧ xs.length = n ∧ m xs S = some r ∧
  match r with
  | (.ok z, S') => ∀ v g' H', md.R g' S' H' → md.T g H S g' H' S' → FR K g' z v → Q v H'
  | (.ex c fs, S') => ∀ cls d g' H', md.R g' S' H' → md.T g H S g' H' S' → XR K g' H' c fs cls d → E cls d H'
/-- a body as a function of its arguments; l slots in all -/
def fBody (l : Nat) (m : Sm) : Fm := fun xs S => match m (xs.map some ++ List.replicate (l - xs.length) none) S with
  | some (.rt z, S') => some (.ok z, S')
  | some (.nx _, S') => some (.ok .non, S')
  | some (.xx c fs _, S') => some (.ex c fs, S')
  | _ => none
section
variable {P : Program} {w : World} {K : PySem.W.Frag} {mg : Str → Option Value} {base : Heap}
theorem env_start {md : Md K} {H0 : Hp} {g : G} {H : Hp} {N : List Str} {xs : List PV} {vs : List V} (f : FRs K g xs vs) : EnvS md H0 g H (L2.start N vs) (xs.map some ++ List.replicate (N.length - xs.length) none) := by
  have hl := f.length
  have key : ∀ (i : Nat) (x : PV), (xs.map some ++ List.replicate (N.length - xs.length) none)[i]? = some (some x) → xs[i]? = some x := fun i x h => by
    by_cases hi : i < xs.length
    · rw [List.getElem?_append_left (by simpa using hi), List.getElem?_map] at h
      cases e : xs[i]? with
      | none => rw [e] at h; cases h
      | some y => rw [e] at h; cases h; rfl
    · rw [List.getElem?_append_right (by simpa using hi), List.getElem?_replicate] at h
      split at h <;> cases h
  have fzk : ∀ (i : Nat) (x : PV), (xs.map some ++ List.replicate (N.length - xs.length) none)[i]? = some (some x) → fz x = true := fun i x h => by
    obtain ⟨v, _, fv⟩ := f.get (key i x h)
    exact fv.fz
  refine ⟨⟨⟨?_, fun i x h => ?_, fun i j x y v h1 h2 f1 => ?_⟩, fun i x a h hf => ?_⟩, fun i x a h hf => ?_⟩
  · unfold L2.start
    rw [List.length_append, List.length_append, List.length_map, List.length_map, List.length_replicate, List.length_replicate]
    omega
  · obtain ⟨v, hv, fv⟩ := f.get (key i x h)
    refine ⟨v, ?_, SlR.of_fr fv⟩
    unfold L2.start
    have hi : i < vs.length := (List.getElem?_eq_some_iff.mp hv).1
    rw [List.getElem?_append_left (by simpa using hi), List.getElem?_map, hv]
    rfl
  · rw [fzk i x h1] at f1; cases f1
  · rw [fzk i x h] at hf; cases hf
  · rw [fzk i x h] at hf; cases hf
/-- a def that may raise an own exception: its body computes m -/
theorem fn_sim {x qual : Str} {st : Stmt} {f : Addr} {fd : FuncData} {N ps : List Str} {k n : Nat} {dvs : List V} {kws : List (Str × V)} {md : Md K} {m : Sm} (F : FunD K x qual (defArgs st) (defBody st) (defScope st) dvs kws f fd) (S : FnScope N ps (defScope st)) (hn : ps.length = n)
    (hbody : ∀ (cdv : Value) (A : Around) (outer : List PySem.Env) (s : Shared) (H : Hp) (E : XK), Room k (A.deeper (PyProof.Rows.envOfC qual (defScope st) s.heap.objs.size f cdv)) →
      Takes (cxOf (L2.CX P w) P w K mg base N qual (defScope st) f cdv A outer s H E) (fun cls d _ H => E cls d H) →
      PassesOwn (model P w) (A.deeper (PyProof.Rows.envOfC qual (defScope st) s.heap.objs.size f cdv)) (PyProof.Rows.envOfC qual (defScope st) s.heap.objs.size f cdv) (cxOf (L2.CX P w) P w K mg base N qual (defScope st) f cdv A outer s H E).xe →
      SimB (cxOf (L2.CX P w) P w K mg base N qual (defScope st) f cdv A outer s H E) md (fun cls d _ H => E cls d H) (defBody st) m) : FnOk P w K mg base (L2.CX P w) (k + 1) f fd ps (spM md n (fBody N.length m)) := by
  refine F.ok S (fun vs H Q E h => ?_) (fun cdv A outer s H vs Q E hr h => ?_)
  · obtain ⟨g, S', xs, r, _, f, hl, _⟩ := h
    rw [← f.length, hl, hn]
  · obtain ⟨g, S', xs, r, rr, f, hl, hm, po⟩ := h
    obtain ⟨t, p, rc⟩ := (hbody cdv A outer s H E hr (takes_of rfl rfl rfl rfl) (passes_of rfl)).ex
    refine ⟨t, p, ?_⟩
    unfold fBody at hm
    split at hm
    · rename_i z S2 q
      cases hm
      exact rc _ H g S' _ g g H S' _ (.rt z, S2) rr rr ⟨md.refl rr, .refl _⟩ (env_start f) q fun v g' H' r1 t1 fz => po v g' H' r1 t1.t fz
    · rename_i ρ S2 q
      cases hm
      exact rc _ H g S' _ g g H S' _ (.nx ρ, S2) rr rr ⟨md.refl rr, .refl _⟩ (env_start f) q fun σ g' H' r1 t1 fz => po _ g' H' r1 t1.t .non
    · rename_i c fs ρ S2 q
      cases hm
      exact rc _ H g S' _ g g H S' _ (.xx c fs ρ, S2) rr rr ⟨md.refl rr, .refl _⟩ (env_start f) q fun cls d σ g' H' r1 t1 _ xr => po cls d g' H' r1 t1.t xr
    · cases hm
/-- a def from which nothing is raised (the law itself) -/
theorem fn_sim0 {x qual : Str} {st : Stmt} {f : Addr} {fd : FuncData} {N ps : List Str} {k n : Nat} {dvs : List V} {kws : List (Str × V)} {md : Md K} {m : Sm} (F : FunD K x qual (defArgs st) (defBody st) (defScope st) dvs kws f fd) (S : FnScope N ps (defScope st)) (hn : ps.length = n)
    (hbody : ∀ (cdv : Value) (A : Around) (outer : List PySem.Env) (s : Shared) (H : Hp) (E : XK), Room k (A.deeper (PyProof.Rows.envOfC qual (defScope st) s.heap.objs.size f cdv)) →
      Takes (cxOf CX0 P w K mg base N qual (defScope st) f cdv A outer s H E).nox WX0 →
      PassesOwn (model P w) (A.deeper (PyProof.Rows.envOfC qual (defScope st) s.heap.objs.size f cdv)) (PyProof.Rows.envOfC qual (defScope st) s.heap.objs.size f cdv) (cxOf CX0 P w K mg base N qual (defScope st) f cdv A outer s H E).nox.xe →
      SimB (cxOf CX0 P w K mg base N qual (defScope st) f cdv A outer s H E).nox md WX0 (defBody st) m) : FnOk P w K mg base CX0 (k + 1) f fd ps (spM md n fun xs S => match fBody N.length m xs S with
        | some (.ok z, S') => some (.ok z, S')
        | _ => none) := by
  refine F.ok S (fun vs H Q E h => ?_) (fun cdv A outer s H vs Q E hr h => ?_)
  · obtain ⟨g, S', xs, r, _, f, hl, _⟩ := h
    rw [← f.length, hl, hn]
  · obtain ⟨g, S', xs, r, rr, f, hl, hm, po⟩ := h
    obtain ⟨t, p, rc⟩ := (hbody cdv A outer s H E hr takes0 PassesOwn.never).ex
    refine ⟨t, p.nox, ?_⟩
    replace hm : (match fBody N.length m xs S' with
        | some (.ok z, S') => some (.ok z, S')
        | _ => none) = some r := hm
    split at hm
    · rename_i z0 S0 q0
      cases hm
      unfold fBody at q0
      split at q0
      · rename_i z S2 q
        cases q0
        exact rc _ H g S' _ g g H S' _ (.rt z0, S0) rr rr ⟨md.refl rr, .refl _⟩ (env_start f) q fun v g' H' r1 t1 fz => po v g' H' r1 t1.t fz
      · rename_i ρ S2 q
        cases q0
        exact rc _ H g S' _ g g H S' _ (.nx ρ, S0) rr rr ⟨md.refl rr, .refl _⟩ (env_start f) q fun σ g' H' r1 t1 fz => po _ g' H' r1 t1.t .non
      · cases q0
      · cases q0
    · cases hm
end

/-! ### calls of own defs -/
/-- a def of the module, in the mode md, below the level j -/
structure Fn (X : Cx) (md : Md X.K) (j : Nat) (x : Str) (n : Nat) (m : Fm) : Prop where
  ex : ∃ (k : Nat) (f : Addr) (fd : FuncData) (ps : List Str), k ≤ j ∧ FnOk X.prog X.w X.K X.mg X.base (L2.CX X.prog X.w) k f fd ps (spM md n m) ∧ X.mg x = some (.ref f) ∧ PySem.W.keepIn X.K (.ref f) = true ∧ Binds X.K fd ps []
section
variable {X : Cx} {md : Md X.K} {W : WX} {e : Expr} {es : List Expr} {pos : Pos}
/-- f(..), f reads the store alone -/
def xFn (m : Fm) (n : Nat) (a : Ar) : Ex := fun ρ S => mb (a ρ S) fun xs => if xs.all fz && xs.length == n then (m xs S).map (·.1) else none
theorem rch_fn {t : TA} {a : Ar} {n : Nat} {m : Fm} (ra : Rch X.K (RL X.K) W t a) : Rch X.K (RV X.K) W (tCallS (spM (Pm X.K) n m) (WE W) t) (xFn m n a) := by
  refine Rch.bind (R' := RV X.K) (k := fun xs _ S => if xs.all fz && xs.length == n then (m xs S).map (·.1) else none) (tk := fun vs σ H1 Q => spM (Pm X.K) n m vs H1 Q (WE W σ)) ra fun xs us σ H g S ρ Q res w er hx hm po => ?_
  split at hm
  · rename_i hc
    simp only [Bool.and_eq_true] at hc
    cases q : m xs S with
    | none => rw [q] at hm; cases hm
    | some z =>
      rw [q] at hm
      obtain ⟨z1, z2⟩ := z
      have e2 : res = z1 := (Option.some.inj hm).symm
      subst e2
      refine ⟨g, S, xs, (res, z2), w, OVs.frs hx hc.1, eq_of_beq hc.2, q, ?_⟩
      cases res with
      | ok y => exact fun v g' H' r1 t1 f1 => po v g' H' t1.1 (.frz f1)
      | ex c fs => exact fun cls d g' H' r1 t1 x1 => po cls d g' H' t1.1 x1
  · cases hm
theorem e_fn {x : Str} {p : Pos} {j n : Nat} {m : Fm} {a : Ar} (F : Fn X (Pm X.K) j x n m) (hr : Room j X.A) (tk : Takes X W) (hg : Gl X x) (ha : SimA X W (e :: es) a) (hdb : (x == ("__debug__" : Str)) = false := by decide)
    (he : starEach (e :: es) X.env = (false, eval e X.env) :: starEach es X.env := by rfl) (hpl : (backTo pos (starEach es X.env)).any (·.1) = false := by rfl) : SimE X W (.Call (.Name x p) (e :: es) [] pos) (xFn m n a) := by
  obtain ⟨k, f, fd, ps, hk, F, hm, kp, hb⟩ := F.ex
  obtain ⟨t, pa, ra⟩ := ha.ex
  exact ⟨_, pe_callS F (hr.mono hk) hg hm kp hb (fun σ => passAt tk σ) pa hdb he hpl, rch_fn ra⟩
theorem call0S {CX : CXT} {k : Nat} {f : Addr} {fd : FuncData} {ps : List Str} {sp : Sp} {E : St → XK} {x : Str} {p : Pos} (F : FnOk X.prog X.w X.K X.mg X.base CX k f fd ps sp) (hr : Room k X.A) (hg : Gl X x) (hm : X.mg x = some (.ref f)) (hk : PySem.W.keepIn X.K (.ref f) = true) (hb : Binds X.K fd ps []) (hx : ∀ σ, PassesAt CX X σ (E σ)) (hdb : (x == ("__debug__" : Str)) = false := by decide) :
    PE X (.Call (.Name x p) [] [] pos) (tCallS sp E tNil) := by
  refine ⟨fun pins s σ H Q I h => ?_⟩
  refine wpAny_Call_Name_kw (ld_glob I hg hm ?_ hdb)
  exact PySem.W.callWith_K0 I.kIn hk (run_fnS (us := []) F hr hb (hx σ) I .nil h)
theorem e_fn0 {x : Str} {p : Pos} {j n : Nat} {m : Fm} (F : Fn X (Pm X.K) j x n m) (hr : Room j X.A) (tk : Takes X W) (hg : Gl X x) (hdb : (x == ("__debug__" : Str)) = false := by decide) : SimE X W (.Call (.Name x p) [] [] pos) (xFn m n aNil) := by
  obtain ⟨k, f, fd, ps, hk, F, hm, kp, hb⟩ := F.ex
  exact ⟨_, call0S F (hr.mono hk) hg hm kp hb (fun σ => passAt tk σ) hdb, rch_fn (fun σ H g S ρ Q r w er hm po => by cases hm; exact po [] g H (.refl w) .nil)⟩
end
end L3

set_option Elab.async false
set_option linter.all false
set_option maxRecDepth 100000
set_option maxHeartbeats 4000000
namespace L3
open PySem PySem.Spec L2
set_option autoImplicit false

/-! ### the one reading of a plain function -/
def cE {α β : Type} (K : PySem.W.Frag) (R : G → Hp → α → β → Prop) (W : WX) (m : Env → Store → M α) : St → Hp → (β → Hp → Prop) → Prop :=
  fun σ H Q => ∃ (g : G) (S : Store) (ρ : Env) (r : Res α), WR K g S H ∧ EnvR K g H σ ρ ∧ m ρ S = some r ∧ Po K R g H σ W Q r
theorem Rch.c {α β : Type} {K : PySem.W.Frag} {R : G → Hp → α → β → Prop} {W : WX} {t : St → Hp → (β → Hp → Prop) → Prop} {m : Env → Store → M α} (h : Rch K R W t m) {σ : St} {H : Hp} {Q : β → Hp → Prop} (q : cE K R W m σ H Q) : t σ H Q := by
  obtain ⟨g, S, ρ, r, w, e, hm, po⟩ := q
  exact h σ H g S ρ Q r w e hm po
theorem SimE.c {X : Cx} {W : WX} {e : Expr} {m : Ex} (h : SimE X W e m) : PE X e (cE X.K (RV X.K) W m) := by
  obtain ⟨t, p, r⟩ := h.ex
  exact ⟨fun pins s σ H Q I q => p.run pins s σ H Q I (r.c q)⟩
theorem SimT.c {X : Cx} {W : WX} {e : Expr} {m : Te} (h : SimT X W e m) : PT X e (cE X.K RB W m) := by
  obtain ⟨t, p, r⟩ := h.ex
  exact ⟨fun pins s σ H Q I q => p.run pins s σ H Q I (r.c q)⟩
def cG (K : PySem.W.Frag) (ks : List Nat) (tg : Tg) : TG := fun v σ H Q => ∃ (g : G) (S : Store) (ρ ρ' : Env) (x : PV), WR K g S H ∧ EnvR K g H σ ρ ∧ FR K g x v ∧ tg x ρ = some ρ' ∧ ∀ σ', Tgt K g H σ ρ σ' ρ' ks → Q σ' H
theorem SimG.c {X : Cx} {e : Expr} {ks : List Nat} {tg : Tg} (h : SimG X e ks tg) : PG X e (cG X.K ks tg) := by
  obtain ⟨t, p, r⟩ := h.ex
  refine ⟨fun pins s σ H v u Q I rv q => p.run pins s σ H v u Q I rv ?_⟩
  obtain ⟨g, S, ρ, ρ', x, w, e, f, hm, k⟩ := q
  exact r v σ H g S ρ ρ' x Q w e f hm k
/-- the tests of a clause: none, or one -/
structure SimTs (X : Cx) (W : WX) (ifs : List Expr) (m : Te) : Prop where
  ex : PTs X ifs (cE X.K RB W m)
def yYes : Te := fun _ _ => some (.ok true)
theorem ts_nil {X : Cx} {W : WX} : SimTs X W [] yYes := ⟨⟨fun pins s σ H Q I q => by
  obtain ⟨g, S, ρ, r, w, e, hm, po⟩ := q
  cases hm
  exact pts_nil.run pins s σ H Q I (po true g H (.refl w) rfl)⟩⟩
theorem ts_one {X : Cx} {W : WX} {c : Expr} {m : Te} (h : SimT X W c m) : SimTs X W [c] m := ⟨pts_one h.c⟩

/-! ### slots wiped -/
theorem wipe_get (σ : St) : ∀ (vs : List Nat) (i : Nat), (wipe σ vs)[i]? = if i ∈ vs ∧ i < σ.length then some none else σ[i]?
  | [], i => by simp [wipe]
  | v :: vs, i => by
    unfold wipe
    by_cases h : i = v
    · subst h
      by_cases hl : i < σ.length
      · rw [List.getElem?_set_self (by rw [wipe_length]; exact hl), if_pos ⟨by simp, hl⟩]
      · rw [List.getElem?_eq_none (by simp [wipe_length]; omega), if_neg (by simp [hl]), List.getElem?_eq_none (by omega)]
    · rw [List.getElem?_set_ne (Ne.symm h), wipe_get σ vs i]
      have : (i ∈ v :: vs) ↔ i ∈ vs := by simp [h]
      simp only [this]
theorem wipe_same {σ σ' : St} {vs : List Nat} (hl : σ'.length = σ.length) (h : ∀ i, i ∉ vs → σ'[i]? = σ[i]?) : wipe σ' vs = wipe σ vs := by
  apply List.ext_getElem?
  intro i
  rw [wipe_get, wipe_get, hl]
  by_cases hi : i ∈ vs
  · by_cases hlt : i < σ.length
    · rw [if_pos ⟨hi, hlt⟩, if_pos ⟨hi, hlt⟩]
    · rw [if_neg (fun z => hlt z.2), if_neg (fun z => hlt z.2), List.getElem?_eq_none (by omega), List.getElem?_eq_none (by omega)]
  · rw [if_neg (fun z => hi z.1), if_neg (fun z => hi z.1), h i hi]
theorem wipe_wipe (σ : St) (vs : List Nat) : wipe (wipe σ vs) vs = wipe σ vs :=
  wipe_same (wipe_length σ vs) fun i hi => by rw [wipe_get, if_neg (fun z => hi z.1)]
def wipeP (ρ : Env) : List Nat → Env
  | [] => ρ
  | v :: vs => (wipeP ρ vs).set v none
theorem EnvR.forget {K : PySem.W.Frag} {g : G} {H : Hp} {σ : St} {ρ : Env} (e : EnvR K g H σ ρ) (v : Nat) : EnvR K g H (σ.set v none) (ρ.set v none) := by
  have key : ∀ (j : Nat) (y : PV), (ρ.set v none)[j]? = some (some y) → j ≠ v ∧ ρ[j]? = some (some y) := fun j y h => by
    rcases get_set h with ⟨_, _, hy⟩ | ⟨n, h⟩
    · cases hy
    · exact ⟨n, h⟩
  have old : ∀ (j : Nat), j ≠ v → (σ.set v none)[j]? = σ[j]? := fun j h => by rw [List.getElem?_set_ne (Ne.symm h)]
  refine ⟨by simp [e.len], fun j y h => ?_, fun j k y z u h1 h2 f1 f2 s1 s2 => ?_⟩
  · obtain ⟨n, h⟩ := key j y h
    rw [old j n]; exact e.at_ j y h
  · obtain ⟨n1, h1⟩ := key j y h1
    obtain ⟨n2, h2⟩ := key k z h2
    rw [old j n1] at s1; rw [old k n2] at s2
    exact e.inj j k y z u h1 h2 f1 f2 s1 s2
theorem EnvR.wipe {K : PySem.W.Frag} {g : G} {H : Hp} {σ : St} {ρ : Env} (e : EnvR K g H σ ρ) : ∀ vs : List Nat, EnvR K g H (L2.wipe σ vs) (wipeP ρ vs)
  | [] => e
  | v :: vs => (EnvR.wipe e vs).forget v

/-! ### list comprehensions -/
def lcGo (tg : Tg) (tt : Te) (te : Ex) (ρ : Env) (S : Store) : List PV → Option (List PV)
  | [] => some []
  | x :: xs => match tg x ρ with
    | none => none
    | some ρ1 => match tt ρ1 S with
      | some (.ok false) => lcGo tg tt te ρ S xs
      | some (.ok true) => (match te ρ1 S with
        | some (.ok y) => if fz y then (lcGo tg tt te ρ S xs).map (y :: ·) else none
        | _ => none)
      | _ => none
def lLc (it : Ar) (tg : Tg) (tt : Te) (te : Ex) (vs : List Nat) : Ar := fun ρ S => mb (it ρ S) fun xs => if decide (xs.length ≤ most) then mo (lcGo tg tt te (wipeP ρ vs) S xs) else none
section
variable {X : Cx} {md : Md X.K} {W : WX} {elt tg iter : Expr} {ifs : List Expr} {scope : Scope} {own : List (Str × Nat)} {pos : Pos}
theorem rch_lc {K : PySem.W.Frag} {it : Ar} {g1 : Tg} {tt : Te} {te : Ex} {vs ks : List Nat} {wi : TI} (hk : ∀ k ∈ ks, k ∈ vs)
    (ri : ∀ (σ : St) (H : Hp) (g : G) (S : Store) (ρ : Env) (R : It → Hp → Prop) (r : Res (List PV)), WR K g S H → EnvR K g H σ ρ → it ρ S = some r → Po K (fun g' _ xs J => Wk K g' J xs) g H σ W R r → wi σ H R) :
    ∀ (σ : St) (H : Hp) (g : G) (S : Store) (ρ : Env) (Q : VK) (r : Res (List PV)), WR K g S H → EnvR K g H σ ρ → lLc it g1 tt te vs ρ S = some r →
    (match r with
      | .ok xs => ∀ p vs g' H', Grow g H g' H' → H p = none → H' p = some (.lst vs) → g'.F p = none → FRs K g' xs vs → Q (.ref p) H'
      | .ex c fs => ∀ cls d g' H', Grow g H g' H' → XR K g' H' c fs cls d → W cls d σ H') →
    tLc wi (cG K ks g1) (cE K RB WX0 tt) (cE K (RV K) WX0 te) vs σ H Q := by
  intro σ H g S ρ Q r w er hm po
  unfold lLc at hm
  cases q : it ρ S with
  | none => rw [q] at hm; cases hm
  | some z =>
    rw [q] at hm
    cases z with
    | ex c fs =>
      have e2 : r = .ex c fs := (Option.some.inj hm).symm
      subst e2
      exact ri σ H g S ρ _ (.ex c fs) w er q po
    | ok xs =>
      have hm : (if decide (xs.length ≤ most) then mo (lcGo g1 tt te (wipeP ρ vs) S xs) else none) = some r := hm
      split at hm
      · rename_i hlen
        have hlen := of_decide_eq_true hlen
        cases q2 : lcGo g1 tt te (wipeP ρ vs) S xs with
        | none => rw [q2] at hm; cases hm
        | some ys =>
          rw [q2] at hm
          have e2 : r = .ok ys := (Option.some.inj hm).symm
          subst e2
          refine ri σ H g S ρ _ (.ok xs) w er q fun J gJ H1 grJ wk D hD => ?_
          have wJ : WR K gJ S H1 := grJ.wr w
          have fD : gJ.F D = none := by
            cases e : gJ.F D with
            | none => rfl
            | some u => rcases wJ.f D u (.inl e) with q | ⟨_, q⟩ <;> rw [hD] at q <;> cases q
          refine ⟨fun i j H => ∃ g vals done rest, Grow gJ H1 g H ∧ H D = some (.lst vals) ∧ g.F D = none ∧ FRs K g done vals ∧ lcGo g1 tt te (wipeP ρ vs) S (xs.drop i) = some rest ∧ done ++ rest = ys ∧ i + j = xs.length ∧ done.length ≤ i,
            ⟨xs.length, gJ, [], [], ys, .loose wJ hD, upd_same, fD, .nil, by simpa using q2, rfl, by omega, Nat.le_refl _⟩, ?_⟩
          rintro i j H ⟨g, vals, done, rest, gr, hHD, fD, fd, hgo, hys, hij, hdl⟩
          have wg : WR K g S H := gr.wr wJ
          by_cases hi : i < xs.length
          · have hd : xs.drop i = xs[i] :: xs.drop (i + 1) := List.drop_eq_getElem_cons hi
            have hx : xs[i]? = some xs[i] := List.getElem?_eq_getElem hi
            rw [hd] at hgo
            unfold lcGo at hgo
            refine .inr ⟨wk.go g H i _ gr.le wg.f hx, fun H' => ∃ g vals done rest, Grow gJ H1 g H' ∧ H' D = some (.lst vals) ∧ g.F D = none ∧ FRs K g done vals ∧ lcGo g1 tt te (wipeP ρ vs) S (xs.drop (i + 1)) = some rest ∧ done ++ rest = ys ∧ done.length ≤ i + 1,
              fun H' ⟨g', v', d', r', a1, a2, a3, a4, a5, a6, a7⟩ => ⟨j - 1, by omega, g', v', d', r', a1, a2, a3, a4, a5, a6, by omega, a7⟩, fun v H' hy => ?_⟩
            obtain ⟨g2, gr2, fx⟩ := wk.yld g S H i _ v H' gr.le wg hx hy
            have w2 := gr2.wr wg
            have e2 : EnvR K g2 H' (L2.wipe σ vs) (wipeP ρ vs) := (((er.mono grJ).mono gr).mono gr2).wipe vs
            split at hgo
            · cases hgo
            · rename_i ρ1 q1
              refine ⟨g2, S, _, ρ1, _, w2, e2, fx, q1, fun σ3 t3 => ⟨?_, ?_⟩⟩
              · rw [← wipe_wipe σ vs]
                exact wipe_same t3.l fun n hn => t3.s n fun z => hn (hk n z)
              · split at hgo
                · rename_i q3
                  refine ⟨g2, S, ρ1, _, w2, t3.r, q3, fun b g3 H3 gr3 eb => ?_⟩
                  subst eb
                  rw [if_neg Bool.false_ne_true]
                  refine ⟨g3, vals, done, rest, (gr.trans gr2).trans gr3, gr3.h _ _ (gr2.h _ _ hHD), gr3.none (gr2.h _ _ hHD) (gr2.none hHD fD), FRs.mono gr3.le _ _ (FRs.mono gr2.le _ _ fd), hgo, hys, by omega⟩
                · rename_i q3
                  refine ⟨g2, S, ρ1, _, w2, t3.r, q3, fun b g3 H3 gr3 eb => ?_⟩
                  subst eb
                  rw [if_pos rfl]
                  split at hgo
                  · rename_i y q4
                    split at hgo
                    · rename_i hfy
                      cases q5 : lcGo g1 tt te (wipeP ρ vs) S (xs.drop (i + 1)) with
                      | none => rw [q5] at hgo; cases hgo
                      | some rest' =>
                        rw [q5] at hgo
                        have e5 : rest = y :: rest' := (Option.some.inj hgo).symm
                        subst e5
                        refine ⟨g3, S, ρ1, _, gr3.wr w2, t3.r.mono gr3, q4, fun u g4 H4 gr4 ov => ?_⟩
                        have gA := ((gr.trans gr2).trans gr3).trans gr4
                        have hH4 : H4 D = some (.lst vals) := gr4.h _ _ (gr3.h _ _ (gr2.h _ _ hHD))
                        have fD4 : g4.F D = none := gr4.none (gr3.h _ _ (gr2.h _ _ hHD)) (gr3.none (gr2.h _ _ hHD) (gr2.none hHD fD))
                        have fd4 : FRs K g4 done vals := FRs.mono gr4.le _ _ (FRs.mono gr3.le _ _ (FRs.mono gr2.le _ _ fd))
                        have hvl : vals.length < sizeLine := by
                          rw [← fd.length, sizeLine_eq]
                          have : most = 1000000 := rfl
                          omega
                        refine ⟨vals, hH4, hvl, ?_⟩
                        obtain ⟨_, gB, _⟩ := (Pm K).put (g0 := gJ) (S0 := S) (H0 := H1) (S := S) (.lst (vals ++ [u])) wJ ⟨gA, rfl⟩ (gA.wr wJ) hH4 hD fD4 trivial
                        exact ⟨g4, vals ++ [u], done ++ [y], rest', gB, upd_same, fD4, fd4.append (.cons (ov.fr hfy) .nil), rfl, by rw [List.append_assoc]; exact hys, by simp; omega⟩
                    · cases hgo
                  · cases hgo
                · cases hgo
          · have hi2 : i = xs.length := by omega
            rw [List.drop_of_length_le (by omega)] at hgo
            unfold lcGo at hgo
            cases hgo
            rw [List.append_nil] at hys
            subst hys
            subst hi2
            exact .inl ⟨wk.stop g H gr.le wg.f, po D vals g H (grJ.trans gr) (grJ.h.free hD) hHD fD fd⟩
      · cases hm
theorem l_lc {it : Ar} {g1 : Tg} {tt : Te} {te : Ex} {ks : List Nat} (hc : X.calm = true) (hN : X.N.Nodup) (hi : SimI X W tg iter it) (ok : BlkOk X.N X.env.scope scope own) (hk : ∀ k ∈ ks, k ∈ own.map (·.2))
    (hg : ∀ (s : Shared) (H : Hp) (C : Addr) (cl : List (Str × Addr)) (fp : List Addr), SimG (X.blk s H scope (compEnvC scope cl C X.env) fp) tg ks g1) (ht : ∀ (s : Shared) (H : Hp) (C : Addr) (cl : List (Str × Addr)) (fp : List Addr), SimTs (X.blk s H scope (compEnvC scope cl C X.env) fp) WX0 ifs tt)
    (he : ∀ (s : Shared) (H : Hp) (C : Addr) (cl : List (Str × Addr)) (fp : List Addr), SimE (X.blk s H scope (compEnvC scope cl C X.env) fp) WX0 elt te) (hs : ∀ x, foldedSetIterable iter X.env x = pure x := by intro _; rfl) :
    SimL X W (.ListComp elt [⟨tg, iter, ifs, 0⟩] scope pos) (lLc it g1 tt te (own.map (·.2))) := by
  obtain ⟨wi, pi, ri⟩ := hi.ex
  exact ⟨_, pe_lc hc hN pi ok (fun s H C cl fp => (hg s H C cl fp).c) (fun s H C cl fp => (ht s H C cl fp).ex) (fun s H C cl fp => (he s H C cl fp).c) hs, rch_lc hk ri⟩
end
end L3

set_option Elab.async false
set_option linter.all false
set_option maxRecDepth 100000
set_option maxHeartbeats 4000000
namespace L3
open PySem PySem.Spec L2
set_option autoImplicit false

/-! ### the mode in which the store may be changed -/
inductive FRf (K : PySem.W.Frag) (g : G) : List (Str × PV) → List (Str × V) → Prop
  | nil : FRf K g [] []
  | cons {n : Str} {x : PV} {xs : List (Str × PV)} {v : V} {vs : List (Str × V)} : FR K g x v → FRf K g xs vs → FRf K g ((n, x) :: xs) ((n, v) :: vs)
theorem FRf.mono {K : PySem.W.Frag} {g g' : G} (h : GLe g g') : ∀ {x : List (Str × PV)} {v : List (Str × V)}, FRf K g x v → FRf K g' x v
  | _, _, .nil => .nil
  | _, _, .cons a b => .cons (FR.mono h _ _ a) (FRf.mono h b)
theorem FRf.ov {K : PySem.W.Frag} {g : G} {H : Hp} : ∀ {x : List (Str × PV)} {v : List (Str × V)}, FRf K g x v → OVf K g H x v
  | _, _, .nil => .nil
  | _, _, .cons a b => .cons (.frz a) (FRf.ov b)
theorem FRk.ov {K : PySem.W.Frag} {g : G} {H : Hp} : ∀ {x : List (Key × PV)} {v : List (Key × V)}, FRk K g x v → OVk K g H x v
  | [], _, q => by cases q; exact .nil
  | (k, x) :: xs, _, q => by cases q with | cons a b => exact .cons (.frz a) (FRk.ov b)
/-- an object of the store as it stands -/
def SOw (K : PySem.W.Frag) (g : G) (H : Hp) (a : Addr) : SO → Prop
  | .ins c fs => ∃ dx vs, H a = some (.ins (He.ga K c) dx vs) ∧ FRf K g fs vs
  | .lst xs => ∃ vs, H a = some (.lst vs) ∧ FRs K g xs vs
  | .dct kvs => ∃ vs, H a = some (.dK vs) ∧ FRk K g kvs vs
theorem SOw.r {K : PySem.W.Frag} {g : G} {H : Hp} {a : Addr} : ∀ {o : SO}, SOw K g H a o → SOr K g H a o
  | .ins c fs, ⟨dx, vs, e, f⟩ => ⟨dx, vs, e, f.ov⟩
  | .lst xs, ⟨vs, e, f⟩ => ⟨vs, .inl e, f⟩
  | .dct xs, ⟨vs, e, f⟩ => ⟨vs, .inl e, f.ov⟩
theorem SOw.mono {K : PySem.W.Frag} {g g' : G} {H H' : Hp} {a : Addr} (h : GLe g g') (hh : ∀ o, H a = some o → H' a = some o) : ∀ {o : SO}, SOw K g H a o → SOw K g' H' a o
  | .ins c fs, ⟨dx, vs, e, f⟩ => ⟨dx, vs, hh _ e, f.mono h⟩
  | .lst xs, ⟨vs, e, f⟩ => ⟨vs, hh _ e, FRs.mono h _ _ f⟩
  | .dct xs, ⟨vs, e, f⟩ => ⟨vs, hh _ e, FRk.mono h _ _ f⟩
theorem SOw.some {K : PySem.W.Frag} {g : G} {H : Hp} {a : Addr} : ∀ {o : SO}, SOw K g H a o → ∃ u, H a = some u ∧ Mut (some u)
  | .ins c fs, ⟨dx, vs, e, f⟩ => ⟨_, e, trivial⟩
  | .lst xs, ⟨vs, e, f⟩ => ⟨_, e, trivial⟩
  | .dct xs, ⟨vs, e, f⟩ => ⟨_, e, trivial⟩
structure RE (K : PySem.W.Frag) (g : G) (S : Store) (H : Hp) : Prop where
  f : RdLe g.F H
  k : S.length = g.k
  s : ∀ (n : Nat) (o : SO), S[n]? = some o → SOw K g H (g.mu n) o
  inj : ∀ n m, n < g.k → m < g.k → g.mu n = g.mu m → n = m
  nf : ∀ n, n < g.k → g.F (g.mu n) = none
structure TE' (g : G) (H : Hp) (g' : G) (H' : Hp) : Prop where
  le : GLe g g'
  dom : ∀ a, H' a = none → H a = none
  keep : ∀ a o, H a = some o → (∀ n, n < g.k → g.mu n ≠ a) → H' a = some o
  new : ∀ n, g.k ≤ n → n < g'.k → H (g'.mu n) = none
  fz : ∀ a, g'.F a ≠ none → g.F a ≠ none ∨ H a = none
theorem RE.wr {K : PySem.W.Frag} {g : G} {S : Store} {H : Hp} (r : RE K g S H) : WR K g S H := ⟨r.f, Nat.le_of_eq r.k, fun n o e => (r.s n o e).r⟩
theorem RE.at_ {K : PySem.W.Frag} {g : G} {S : Store} {H : Hp} (r : RE K g S H) {n : Nat} (h : n < g.k) : ∃ u, H (g.mu n) = some u ∧ Mut (some u) := by
  have : n < S.length := by rw [r.k]; exact h
  exact (r.s n S[n] (List.getElem?_eq_getElem this)).some
theorem TE'.own {g g' : G} {H H' : Hp} {a : Addr} {o : HO} (t : TE' g H g' H') (h : H a = some o) (hf : ∀ n, n < g.k → g.mu n ≠ a) : ∀ n, n < g'.k → g'.mu n ≠ a := fun n hn e => by
  by_cases hk : n < g.k
  · rw [t.le.m n hk] at e; exact hf n hk e
  · have := t.new n (by omega) hn
    rw [e, h] at this; cases this
def Em (K : PySem.W.Frag) : Md K where
  R := RE K
  T := fun g H _ g' H' _ => TE' g H g' H'
  fr := fun g a => ∀ n, n < g.k → g.mu n ≠ a
  wr := fun r => r.wr
  refl := fun {g S H} r => ⟨.refl _, fun _ h => h, fun _ _ h _ => h, fun n a b => by omega, fun _ h => .inl h⟩
  trans := fun {a b c H J L S S1 S2} x y => by
    refine ⟨x.le.trans y.le, fun p h => x.dom p (y.dom p h), fun p o h hf => y.keep p o (x.keep p o h hf) (x.own h hf), fun n h1 h2 => ?_, fun p h => ?_⟩
    · by_cases hk : n < b.k
      · rw [y.le.m n hk]; exact x.new n h1 hk
      · exact x.dom _ (y.new n (by omega) h2)
    · exact (y.fz p h).elim (x.fz p) fun q => .inr (x.dom p q)
  grow := fun {g g' S H H'} r x => by
    refine ⟨⟨x.f, by rw [x.k]; exact r.k, fun n o e => ?_, fun n m h1 h2 e => ?_, fun n h => ?_⟩, ⟨x.le, fun p h => x.h.free h, fun p o h _ => x.h _ _ h, fun n h1 h2 => ?_, x.n⟩⟩
    · rw [x.mu]; exact (r.s n o e).mono x.le fun o h => x.h _ _ h
    · rw [x.mu] at e; rw [x.k] at h1 h2; exact r.inj n m h1 h2 e
    · rw [x.k] at h
      rw [x.mu]
      obtain ⟨u, hu, _⟩ := r.at_ h
      exact x.none hu (r.nf n h)
    · rw [x.k] at h2; omega
  le := fun x => x.le
  free := fun x h => x.dom _ h
  own := fun {g g' H H' S S' a o} t h e hf => by
    refine ⟨t.keep a o h hf, ?_, t.own h hf⟩
    cases q : g'.F a with
    | none => rfl
    | some u =>
      rcases t.fz a (by rw [q]; simp) with z | z
      · exact absurd e z
      · rw [h] at z; cases z
  new := fun {g g' S H H' p} r x hp n hn e => by
    rw [x.k] at hn
    rw [x.mu] at e
    obtain ⟨u, hu, _⟩ := r.at_ hn
    rw [e, hp] at hu; cases hu
  put := fun {g0 g H0 H S0 S a u} o r0 t r h h0 e hf => by
    refine ⟨⟨fun b v q => ?_, r.k, fun n ob q => (r.s n ob q).mono (.refl _) fun o h => ?_, r.inj, r.nf⟩, ⟨t.le, fun p hp => ?_, fun p v hp hn => ?_, t.new, t.fz⟩⟩
    · have nb : b ≠ a := by
        rintro rfl
        rcases q with q | ⟨_, q⟩ <;> rw [e] at q <;> cases q
      rcases r.f b v q with q | ⟨ob, q⟩
      · exact .inl (by rw [upd_ne nb]; exact q)
      · exact .inr ⟨ob, by rw [upd_ne nb]; exact q⟩
    · rw [upd_ne]
      · exact h
      · refine hf n ?_
        rw [← r.k]; exact (List.getElem?_eq_some_iff.mp q).1
    · by_cases hb : p = a
      · subst hb; rw [upd_same] at hp; cases hp
      · rw [upd_ne hb] at hp; exact t.dom p hp
    · rw [upd_ne (ne_of_none hp h0)]; exact t.keep p v hp hn
  rest := fun {g0 g H0 H S0 S a o} t r h h0 e hf => by
    have le := GLe.laid (o := o) e
    refine ⟨⟨fun b v q => ?_, r.k, fun n ob q => (r.s n ob q).mono le fun _ h => h, r.inj, fun n hn => ?_⟩, ⟨t.le.trans le, t.dom, t.keep, t.new, fun b q => ?_⟩⟩
    · by_cases hb : b = a
      · subst hb
        rcases q with q | ⟨ob, q⟩
        · have q : upd g.F b o b = some v := q
          rw [upd_same] at q; cases q; exact .inl h
        · have q : upd g.F b o b = some (.frz ob v) := q
          rw [upd_same] at q; cases q; exact .inr ⟨ob, h⟩
      · rcases q with q | ⟨ob, q⟩
        · have q : upd g.F a o b = some v := q
          rw [upd_ne hb] at q; exact r.f _ _ (.inl q)
        · have q : upd g.F a o b = some (.frz ob v) := q
          rw [upd_ne hb] at q; exact r.f _ _ (.inr ⟨ob, q⟩)
    · show upd g.F a o (g.mu n) = none
      rw [upd_ne (hf n hn)]; exact r.nf n hn
    · by_cases hb : b = a
      · subst hb; exact .inr h0
      · have q : upd g.F a o b ≠ none := q
        rw [upd_ne hb] at q; exact t.fz b q

/-! ### an object of the store is changed; a new one is laid -/
theorem RE.store {K : PySem.W.Frag} {g : G} {S : Store} {H : Hp} (r : RE K g S H) {n : Nat} {o' : SO} {ho : HO} (hn : n < g.k) (new : SOw K g (upd H (g.mu n) ho) (g.mu n) o') :
    RE K g (S.set n o') (upd H (g.mu n) ho) ∧ TE' g H g (upd H (g.mu n) ho) := by
  refine ⟨⟨fun b v q => ?_, by rw [List.length_set]; exact r.k, fun m ob q => ?_, r.inj, r.nf⟩, ⟨.refl _, fun p hp => ?_, fun p v hp hf => ?_, fun m h1 h2 => by omega, fun p h => .inl h⟩⟩
  · have nb : b ≠ g.mu n := by
      rintro rfl
      have := r.nf n hn
      rcases q with q | ⟨_, q⟩ <;> rw [this] at q <;> cases q
    rcases r.f b v q with q | ⟨ob, q⟩
    · exact .inl (by rw [upd_ne nb]; exact q)
    · exact .inr ⟨ob, by rw [upd_ne nb]; exact q⟩
  · rcases get_set q with ⟨rfl, _, hy⟩ | ⟨ne, q⟩
    · subst hy; exact new
    · refine (r.s m ob q).mono (.refl _) fun o h => ?_
      have hm : m < g.k := by rw [← r.k]; exact (List.getElem?_eq_some_iff.mp q).1
      rw [upd_ne fun e => ne (r.inj m n hm hn e)]; exact h
  · by_cases hb : p = g.mu n
    · subst hb; rw [upd_same] at hp; cases hp
    · rw [upd_ne hb] at hp; exact hp
  · rw [upd_ne fun e => hf n hn e.symm]; exact hp
/-- the ghost with one object more -/
def G.add (g : G) (a : Addr) : G := { g with mu := fun n => if n = g.k then a else g.mu n, k := g.k + 1 }
theorem G.add_le (g : G) (a : Addr) : GLe g (g.add a) := ⟨Same.refl _, Nat.le_succ _, fun n hn => by show (if n = g.k then a else g.mu n) = g.mu n; rw [if_neg (by omega)]⟩
theorem G.add_mu (g : G) (a : Addr) : (g.add a).mu g.k = a := by show (if g.k = g.k then a else g.mu g.k) = a; rw [if_pos rfl]
theorem RE.laid {K : PySem.W.Frag} {g : G} {S : Store} {H H' : Hp} (r : RE K g S H) {a : Addr} {o : SO} (ha : H a = none) (hs : Same H H') (new : SOw K (g.add a) H' a o) :
    RE K (g.add a) (S ++ [o]) H' ∧ TE' g H (g.add a) H' ∧ FR K (g.add a) (.ref S.length) (.ref a) := by
  have le := g.add_le a
  have fa : g.F a = none := by
    cases e : g.F a with
    | none => rfl
    | some u => rcases r.f a u (.inl e) with q | ⟨_, q⟩ <;> rw [ha] at q <;> cases q
  have mu_old : ∀ n, n < g.k → (g.add a).mu n = g.mu n := le.m
  have ne_old : ∀ n, n < g.k → g.mu n ≠ a := fun n hn e => by
    obtain ⟨u, hu, _⟩ := r.at_ hn
    rw [e, ha] at hu; cases hu
  refine ⟨⟨r.f.trans (RdLe.of_same hs), by rw [List.length_append, List.length_singleton, r.k]; rfl, fun n ob q => ?_, fun n m h1 h2 e => ?_, fun n hn => ?_⟩, ⟨le, fun p h => hs.free h, fun p v h _ => hs _ _ h, fun n h1 h2 => ?_, fun p h => .inl h⟩, ?_⟩
  · by_cases hn : n < S.length
    · rw [List.getElem?_append_left hn] at q
      rw [mu_old n (by rw [← r.k]; exact hn)]
      exact (r.s n ob q).mono le fun o h => hs _ _ h
    · have hl : n < (S ++ [o]).length := (List.getElem?_eq_some_iff.mp q).1
      rw [List.length_append, List.length_singleton] at hl
      have e1 : n = S.length := by omega
      subst e1
      rw [List.getElem?_append_right (Nat.le_refl _), Nat.sub_self] at q
      cases q
      rw [r.k, G.add_mu]; exact new
  · have h1 : n < g.k + 1 := h1
    have h2 : m < g.k + 1 := h2
    by_cases e1 : n = g.k
    · by_cases e2 : m = g.k
      · rw [e1, e2]
      · rw [e1, G.add_mu, mu_old m (by omega)] at e
        exact absurd e.symm (ne_old m (by omega))
    · by_cases e2 : m = g.k
      · rw [e2, G.add_mu, mu_old n (by omega)] at e
        exact absurd e (ne_old n (by omega))
      · rw [mu_old n (by omega), mu_old m (by omega)] at e
        exact r.inj n m (by omega) (by omega) e
  · have hn : n < g.k + 1 := hn
    show g.F _ = none
    by_cases e1 : n = g.k
    · rw [e1, G.add_mu]; exact fa
    · rw [mu_old n (by omega)]; exact r.nf n (by omega)
  · have h2 : n < g.k + 1 := h2
    have e1 : n = g.k := by omega
    rw [e1, G.add_mu]; exact ha
  · have := FR.ref (K := K) (g := g.add a) (n := g.k) (Nat.lt_succ_self _)
    rw [G.add_mu] at this
    rw [r.k]; exact this
end L3

set_option Elab.async false
set_option linter.all false
set_option maxRecDepth 100000
set_option maxHeartbeats 4000000
namespace L3
open PySem PySem.Spec L2
set_option autoImplicit false

section
variable {X : Cx} {md : Md X.K} {W : WX} {a b c e o : Expr} {es rest : List Expr} {pos : Pos}
/-! ### expressions that may change the store -/
def xB (m : Xm) (k : PV → Env → Store → Option (Res PV × Store)) : Xm := fun ρ S => match m ρ S with
  | some (.ok x, S') => k x ρ S'
  | some (.ex c fs, S') => some (.ex c fs, S')
  | none => none
theorem PoX.trans {K : PySem.W.Frag} {md : Md K} {g g' : G} {H H' : Hp} {S S' : Store} {σ : St} {W : WX} {Q : VK} (t : md.T g H S g' H' S') : ∀ {r : Res PV × Store}, PoX md g H S σ W Q r → PoX md g' H' S' σ W Q r
  | (.ok _, _), po => fun v g2 H2 r2 t2 o2 => po v g2 H2 r2 (md.trans t t2) o2
  | (.ex _ _, _), po => fun cls d g2 H2 r2 t2 o2 => po cls d g2 H2 r2 (md.trans t t2) o2
theorem RchX.bind {t : TE} {m : Xm} (h : RchX md W t m) {k : PV → Env → Store → Option (Res PV × Store)} {tk : V → TE}
    (hk : ∀ (x : PV) (v : V) (σ : St) (H : Hp) (g : G) (S : Store) (ρ : Env) (Q : VK) (r : Res PV × Store), md.R g S H → EnvF md g H σ ρ → OV X.K g H x v → k x ρ S = some r → PoX md g H S σ W Q r → tk v σ H Q) :
    RchX md W (fun σ H Q => t σ H fun x H1 => tk x σ H1 Q) (xB m k) := by
  intro σ H g S ρ Q r rr er hm po
  unfold xB at hm
  split at hm
  · rename_i x S' q
    exact h σ H g S ρ _ (.ok x, S') rr er q fun v g' H' r1 t1 ov => hk x v σ H' g' S' ρ Q r r1 (er.step t1) ov hm (po.trans t1)
  · rename_i c fs S' q
    cases hm
    exact h σ H g S ρ _ (.ex c fs, S') rr er q po
  · cases hm
/-- two values, the first one at rest -/
def xOpX (op : PV → PV → Option PV) (ma mb' : Xm) : Xm := xB ma fun x ρ S => if fz x then (match mb' ρ S with
  | some (.ok y, S') => (op x y).map fun z => (.ok z, S')
  | some (.ex c fs, S') => some (.ex c fs, S')
  | none => none) else none
theorem rchx_op {r : R2} {op : PV → PV → Option PV} {ta tb : TE} {ma mb' : Xm} (hk : OpOk X.K op r) (ha : RchX md W ta ma) (hb : RchX md W tb mb') : RchX md W (tOp r ta tb) (xOpX op ma mb') := by
  refine RchX.bind (tk := fun x σ H1 Q => tb σ H1 fun y H2 => r x y H2 Q) ha fun x u σ H g S ρ Q res rr er hx hm po => ?_
  split at hm
  · rename_i hf
    have fx := hx.fr hf
    split at hm
    · rename_i y S' q
      refine hb σ H g S ρ _ (.ok y, S') rr er q fun v g' H' r1 t1 hy => ?_
      cases z : op x y with
      | none => rw [z] at hm; cases hm
      | some zz =>
        rw [z] at hm
        have e2 : res = (.ok zz, S') := (Option.some.inj hm).symm
        subst e2
        refine hk g' S' H' x y zz u v Q (md.wr r1) (.frz (FR.mono (md.le t1) _ _ fx)) hy z fun w2 g2 H2 gr2 o2 => ?_
        obtain ⟨r2, t2⟩ := md.grow r1 gr2
        exact po w2 g2 H2 r2 (md.trans t1 t2) o2
    · rename_i c fs S' q
      cases hm
      exact hb σ H g S ρ _ (.ex c fs, S') rr er q po
    · cases hm
  · cases hm
theorem x_op {o : Operator} {r : R2} {op : PV → PV → Option PV} {ma mb' : Xm} (ho : OpR X (binaryOp o) r) (hk : OpOk X.K op r) (ha : SimX X md W a ma) (hb : SimX X md W b mb') : SimX X md W (.BinOp a o b pos) (xOpX op ma mb') := by
  obtain ⟨ta, pa, ra⟩ := ha.ex
  obtain ⟨tb, pb, rb⟩ := hb.ex
  exact ⟨_, pe_op ho pa pb, rchx_op hk ra rb⟩
theorem x_cmp {o : CmpOp} {r : R2} {op : PV → PV → Option PV} {ma mb' : Xm} (ho : OpR X (compareOp o) r) (hk : OpOk X.K op r) (ha : SimX X md W a ma) (hb : SimX X md W b mb') (hm : behindInMarks o b = false) : SimX X md W (.Compare a [o] [b] pos) (xOpX op ma mb') := by
  obtain ⟨ta, pa, ra⟩ := ha.ex
  obtain ⟨tb, pb, rb⟩ := hb.ex
  exact ⟨_, pe_cmpR ho pa pb hm, rchx_op hk ra rb⟩
theorem x_ix {r : R2} {op : PV → PV → Option PV} {ma mb' : Xm} (hr : IxR X r) (hk : OpOk X.K op r) (ha : SimX X md W a ma) (hb : SimX X md W b mb') (hs : PlainIx b := by intro _ _; rfl) : SimX X md W (.Subscript a b pos) (xOpX op ma mb') := by
  obtain ⟨ta, pa, ra⟩ := ha.ex
  obtain ⟨tb, pb, rb⟩ := hb.ex
  exact ⟨_, pe_ix hr pa pb hs, rchx_op hk ra rb⟩
/-- tests -/
def bTX (m : Xm) : Tm := fun ρ S => match m ρ S with
  | some (.ok (.bl k), S') => some (.ok k, S')
  | some (.ex c fs, S') => some (.ex c fs, S')
  | _ => none
theorem rchx_bT {t : TE} {m : Xm} (h : RchX md W t m) : RchT md W (fun σ H Q => t σ H fun x H1 => ∃ c, x = .bl c ∧ Q c H1) (bTX m) := by
  intro σ H g S ρ Q r rr er hm po
  unfold bTX at hm
  split at hm
  · rename_i k S' q
    cases hm
    refine h σ H g S ρ _ (.ok (.bl k), S') rr er q fun v g' H' r1 t1 ov => ?_
    cases ov.fr rfl
    exact ⟨k, rfl, po g' H' r1 t1⟩
  · rename_i c fs S' q
    cases hm
    exact h σ H g S ρ _ (.ex c fs, S') rr er q po
  · cases hm
theorem tx_cmp {o : CmpOp} {r : R2} {op : PV → PV → Option PV} {ma mb' : Xm} (ho : OpR X (compareOp o) r) (hk : OpOk X.K op r) (ha : SimX X md W a ma) (hb : SimX X md W b mb') (hm : behindInMarks o b = false) : SimTX X md W (.Compare a [o] [b] pos) (bTX (xOpX op ma mb')) := by
  obtain ⟨ta, pa, ra⟩ := ha.ex
  obtain ⟨tb, pb, rb⟩ := hb.ex
  exact ⟨_, pt_cmpR ho pa pb hm, rchx_bT (rchx_op hk ra rb)⟩
theorem tx_val {m : Xm} (h : SimX X md W e m) (he : ∀ whole, isTrue e X.env whole = (do let v ← whole; standAt e.pos; holding [v] (truthy v)) := by intro _; rfl) : SimTX X md W e (bTX m) := by
  obtain ⟨t, p, r⟩ := h.ex
  exact ⟨_, pt_val p he, rchx_bT r⟩
structure SimWX (X : Cx) (md : Md X.K) (W : WX) (e : Expr) (m : Tm) : Prop where
  ex : ∃ t : TT, PW X e t ∧ RchT md W t m
def yAndX (m n : Tm) : Tm := fun ρ S => match m ρ S with
  | some (.ok true, S') => n ρ S'
  | r => r
def yOrX (m n : Tm) : Tm := fun ρ S => match m ρ S with
  | some (.ok false, S') => n ρ S'
  | r => r
def yNotX (m : Tm) : Tm := fun ρ S => match m ρ S with
  | some (.ok k, S') => some (.ok (!k), S')
  | r => r
theorem PoT.trans {K : PySem.W.Frag} {md : Md K} {g g' : G} {H H' : Hp} {S S' : Store} {σ : St} {W : WX} {Q : Bool → Hp → Prop} (t : md.T g H S g' H' S') : ∀ {r : Res Bool × Store}, PoT md g H S σ W Q r → PoT md g' H' S' σ W Q r
  | (.ok _, _), po => fun g2 H2 r2 t2 => po g2 H2 r2 (md.trans t t2)
  | (.ex _ _, _), po => fun cls d g2 H2 r2 t2 o2 => po cls d g2 H2 r2 (md.trans t t2) o2
theorem wx_and1 {m : Tm} (h : SimTX X md W a m) : SimWX X md W (.BoolOp .And [a] pos) m := by
  obtain ⟨t, p, r⟩ := h.ex
  exact ⟨_, pw_and1 p, r⟩
theorem wx_or1 {m : Tm} (h : SimTX X md W a m) : SimWX X md W (.BoolOp .Or [a] pos) m := by
  obtain ⟨t, p, r⟩ := h.ex
  exact ⟨_, pw_or1 p, r⟩
theorem wx_and {m n : Tm} (h : SimTX X md W a m) (h' : SimWX X md W (.BoolOp .And (b :: rest) pos) n) : SimWX X md W (.BoolOp .And (a :: b :: rest) pos) (yAndX m n) := by
  obtain ⟨t, p, r⟩ := h.ex
  obtain ⟨t', p', r'⟩ := h'.ex
  refine ⟨_, pw_and p p', fun σ H g S ρ Q res rr er hm po => ?_⟩
  unfold yAndX at hm
  split at hm
  · rename_i S' q
    refine r σ H g S ρ _ (.ok true, S') rr er q fun g' H' r1 t1 => ?_
    rw [if_pos rfl]
    exact r' σ H' g' S' ρ Q res r1 (er.step t1) hm (po.trans t1)
  · rename_i nq
    refine r σ H g S ρ _ res rr er hm ?_
    obtain ⟨res1, S1⟩ := res
    cases res1 with
    | ok k =>
      cases k with
      | true => exact absurd hm (nq S1)
      | false => exact fun g' H' r1 t1 => iteF (po g' H' r1 t1)
    | ex c fs => exact po
theorem wx_or {m n : Tm} (h : SimTX X md W a m) (h' : SimWX X md W (.BoolOp .Or (b :: rest) pos) n) : SimWX X md W (.BoolOp .Or (a :: b :: rest) pos) (yOrX m n) := by
  obtain ⟨t, p, r⟩ := h.ex
  obtain ⟨t', p', r'⟩ := h'.ex
  refine ⟨_, pw_or p p', fun σ H g S ρ Q res rr er hm po => ?_⟩
  unfold yOrX at hm
  split at hm
  · rename_i S' q
    refine r σ H g S ρ _ (.ok false, S') rr er q fun g' H' r1 t1 => ?_
    rw [if_neg Bool.false_ne_true]
    exact r' σ H' g' S' ρ Q res r1 (er.step t1) hm (po.trans t1)
  · rename_i nq
    refine r σ H g S ρ _ res rr er hm ?_
    obtain ⟨res1, S1⟩ := res
    cases res1 with
    | ok k =>
      cases k with
      | false => exact absurd hm (nq S1)
      | true => exact fun g' H' r1 t1 => iteT (po g' H' r1 t1)
    | ex c fs => exact po
theorem tx_w {m : Tm} (h : SimWX X md W e m) : SimTX X md W e m := by
  obtain ⟨t, p, r⟩ := h.ex
  exact ⟨_, p.pt, r⟩
theorem tx_not {m : Tm} (h : SimTX X md W a m) : SimTX X md W (.UnaryOp .Not a pos) (yNotX m) := by
  obtain ⟨t, p, r⟩ := h.ex
  refine ⟨_, pt_not p, fun σ H g S ρ Q res rr er hm po => ?_⟩
  unfold yNotX at hm
  split at hm
  · rename_i k S' q
    cases hm
    exact r σ H g S ρ _ (.ok k, S') rr er q fun g' H' r1 t1 => po g' H' r1 t1
  · rename_i nq
    refine r σ H g S ρ _ res rr er hm ?_
    obtain ⟨res1, S1⟩ := res
    cases res1 with
    | ok k => exact absurd hm (nq k S1)
    | ex c fs => exact po
/-- as values -/
def xAndX (m n : Xm) : Xm := fun ρ S => match m ρ S with
  | some (.ok (.bl true), S') => n ρ S'
  | some (.ok (.bl false), S') => some (.ok (.bl false), S')
  | some (.ex c fs, S') => some (.ex c fs, S')
  | _ => none
def xOrX (m n : Xm) : Xm := fun ρ S => match m ρ S with
  | some (.ok (.bl false), S') => n ρ S'
  | some (.ok (.bl true), S') => some (.ok (.bl true), S')
  | some (.ex c fs, S') => some (.ex c fs, S')
  | _ => none
theorem x_one {o : BoolOp} {m : Xm} (h : SimX X md W a m) : SimX X md W (.BoolOp o [a] pos) m := by
  obtain ⟨t, p, r⟩ := h.ex
  exact ⟨_, pe_one p, r⟩
theorem x_and {m n : Xm} (h : SimX X md W a m) (h' : SimX X md W (.BoolOp .And (b :: rest) pos) n) : SimX X md W (.BoolOp .And (a :: b :: rest) pos) (xAndX m n) := by
  obtain ⟨t, p, r⟩ := h.ex
  obtain ⟨t', p', r'⟩ := h'.ex
  refine ⟨_, pe_and p p', fun σ H g S ρ Q res rr er hm po => ?_⟩
  unfold xAndX at hm
  split at hm
  · rename_i S' q
    refine r σ H g S ρ _ (.ok (.bl true), S') rr er q fun v g' H' r1 t1 ov => ?_
    cases ov.fr rfl
    exact ⟨true, rfl, by rw [if_pos rfl]; exact r' σ H' g' S' ρ Q res r1 (er.step t1) hm (po.trans t1)⟩
  · rename_i S' q
    cases hm
    refine r σ H g S ρ _ (.ok (.bl false), S') rr er q fun v g' H' r1 t1 ov => ?_
    cases ov.fr rfl
    exact ⟨false, rfl, by rw [if_neg Bool.false_ne_true]; exact po _ g' H' r1 t1 (.frz (.bl _))⟩
  · rename_i c fs S' q
    cases hm
    exact r σ H g S ρ _ (.ex c fs, S') rr er q po
  · cases hm
theorem x_or {m n : Xm} (h : SimX X md W a m) (h' : SimX X md W (.BoolOp .Or (b :: rest) pos) n) : SimX X md W (.BoolOp .Or (a :: b :: rest) pos) (xOrX m n) := by
  obtain ⟨t, p, r⟩ := h.ex
  obtain ⟨t', p', r'⟩ := h'.ex
  refine ⟨_, pe_or p p', fun σ H g S ρ Q res rr er hm po => ?_⟩
  unfold xOrX at hm
  split at hm
  · rename_i S' q
    refine r σ H g S ρ _ (.ok (.bl false), S') rr er q fun v g' H' r1 t1 ov => ?_
    cases ov.fr rfl
    exact ⟨false, rfl, by rw [if_neg Bool.false_ne_true]; exact r' σ H' g' S' ρ Q res r1 (er.step t1) hm (po.trans t1)⟩
  · rename_i S' q
    cases hm
    refine r σ H g S ρ _ (.ok (.bl true), S') rr er q fun v g' H' r1 t1 ov => ?_
    cases ov.fr rfl
    exact ⟨true, rfl, by rw [if_pos rfl]; exact po _ g' H' r1 t1 (.frz (.bl _))⟩
  · rename_i c fs S' q
    cases hm
    exact r σ H g S ρ _ (.ex c fs, S') rr er q po
  · cases hm
def xIfX (c : Tm) (m n : Xm) : Xm := fun ρ S => match c ρ S with
  | some (.ok true, S') => m ρ S'
  | some (.ok false, S') => n ρ S'
  | some (.ex c fs, S') => some (.ex c fs, S')
  | none => none
theorem x_if {k : Tm} {m n : Xm} (hc : SimTX X md W c k) (h : SimX X md W a m) (h' : SimX X md W b n) : SimX X md W (.IfExp c a b pos) (xIfX k m n) := by
  obtain ⟨tc, pc, rc⟩ := hc.ex
  obtain ⟨t, p, r⟩ := h.ex
  obtain ⟨t', p', r'⟩ := h'.ex
  refine ⟨_, pe_ifExp pc p p', fun σ H g S ρ Q res rr er hm po => ?_⟩
  unfold xIfX at hm
  split at hm
  · rename_i S' q
    refine rc σ H g S ρ _ (.ok true, S') rr er q fun g' H' r1 t1 => ?_
    rw [if_pos rfl]
    exact r σ H' g' S' ρ Q res r1 (er.step t1) hm (po.trans t1)
  · rename_i S' q
    refine rc σ H g S ρ _ (.ok false, S') rr er q fun g' H' r1 t1 => ?_
    rw [if_neg Bool.false_ne_true]
    exact r' σ H' g' S' ρ Q res r1 (er.step t1) hm (po.trans t1)
  · rename_i c fs S' q
    cases hm
    exact rc σ H g S ρ _ (.ex c fs, S') rr er q po
  · cases hm

/-! ### arguments -/
abbrev Xa := Env → Store → Option (Res (List PV) × Store)
def PoA {K : PySem.W.Frag} (md : Md K) (g : G) (H : Hp) (S : Store) (σ : St) (W : WX) (Q : List V → Hp → Prop) : Res (List PV) × Store → Prop
  | (.ok r, S') => ∀ v g' H', md.R g' S' H' → md.T g H S g' H' S' → FRs K g' r v → Q v H'
  | (.ex c fs, S') => ∀ cls d g' H', md.R g' S' H' → md.T g H S g' H' S' → XR K g' H' c fs cls d → W cls d σ H'
def RchA {K : PySem.W.Frag} (md : Md K) (W : WX) (t : TA) (m : Xa) : Prop :=
  ∀ (σ : St) (H : Hp) (g : G) (S : Store) (ρ : Env) (Q : List V → Hp → Prop) (r : Res (List PV) × Store), md.R g S H → EnvF md g H σ ρ → m ρ S = some r → PoA md g H S σ W Q r → t σ H Q
structure SimXA (X : Cx) (md : Md X.K) (W : WX) (es : List Expr) (m : Xa) : Prop where
  ex : ∃ t : TA, PA X es t ∧ RchA md W t m
def aP (m : Ar) : Xa := fun ρ S => match m ρ S with
  | some (.ok xs) => if xs.all fz then some (.ok xs, S) else none
  | some (.ex c fs) => some (.ex c fs, S)
  | none => none
theorem rcha_p {t : TA} {m : Ar} (h : Rch X.K (RL X.K) W t m) : RchA md W t (aP m) := by
  intro σ H g S ρ Q r rr er hm po
  unfold aP at hm
  split at hm
  · rename_i xs q
    split at hm
    · rename_i hf
      cases hm
      refine h σ H g S ρ _ (.ok xs) (md.wr rr) er.r q fun v g' H' gr ov => ?_
      obtain ⟨r1, t1⟩ := md.grow rr gr
      exact po v g' H' r1 t1 (OVs.frs ov hf)
    · cases hm
  · rename_i c fs q
    cases hm
    refine h σ H g S ρ _ (.ex c fs) (md.wr rr) er.r q fun cls d g' H' gr ov => ?_
    obtain ⟨r1, t1⟩ := md.grow rr gr
    exact po cls d g' H' r1 t1 ov
  · cases hm
theorem xa_p {m : Ar} (h : SimA X W es m) : SimXA X md W es (aP m) := by
  obtain ⟨t, p, r⟩ := h.ex
  exact ⟨t, p, rcha_p r⟩
def aXNil : Xa := fun _ S => some (.ok [], S)
theorem xa_nil : SimXA X md W [] aXNil := ⟨_, pa_nil, fun σ H g S ρ Q r rr er hm po => by cases hm; exact po [] g H rr (md.refl rr) .nil⟩
def aXCons (m : Xm) (n : Xa) : Xa := fun ρ S => match m ρ S with
  | some (.ok x, S1) => if fz x then (match n ρ S1 with
    | some (.ok xs, S2) => some (.ok (x :: xs), S2)
    | r => r) else none
  | some (.ex c fs, S1) => some (.ex c fs, S1)
  | none => none
theorem xa_cons {m : Xm} {n : Xa} (h : SimX X md W e m) (k : SimXA X md W es n) (hs : starEach (e :: es) X.env = (false, eval e X.env) :: starEach es X.env := by rfl) : SimXA X md W (e :: es) (aXCons m n) := by
  obtain ⟨t, p, r⟩ := h.ex
  obtain ⟨t', p', r'⟩ := k.ex
  refine ⟨_, pa_cons p p' hs, fun σ H g S ρ Q res rr er hm po => ?_⟩
  unfold aXCons at hm
  split at hm
  · rename_i x S1 q
    split at hm
    · rename_i hf
      refine r σ H g S ρ _ (.ok x, S1) rr er q fun v g1 H1 r1 t1 ov => ?_
      split at hm
      · rename_i xs S2 q2
        cases hm
        exact r' σ H1 g1 S1 ρ _ (.ok xs, S2) r1 (er.step t1) q2 fun vs g2 H2 r2 t2 fs => po _ g2 H2 r2 (md.trans t1 t2) (.cons (FR.mono (md.le t2) _ _ (ov.fr hf)) fs)
      · rename_i nq
        obtain ⟨res1, S2⟩ := res
        refine r' σ H1 g1 S1 ρ _ (res1, S2) r1 (er.step t1) hm ?_
        cases res1 with
        | ok xs => exact absurd hm (nq xs S2)
        | ex c fs => exact fun cls d g2 H2 r2 t2 xr => po cls d g2 H2 r2 (md.trans t1 t2) xr
    · cases hm
  · rename_i c fs S1 q
    cases hm
    exact r σ H g S ρ _ (.ex c fs, S1) rr er q po
  · cases hm
/-- f(..) -/
def xFnX (m : Fm) (n : Nat) (a : Xa) : Xm := fun ρ S => match a ρ S with
  | some (.ok xs, S') => if xs.length == n then m xs S' else none
  | some (.ex c fs, S') => some (.ex c fs, S')
  | none => none
theorem rchx_fn {t : TA} {a : Xa} {n : Nat} {m : Fm} (ra : RchA md W t a) : RchX md W (tCallS (spM md n m) (WE W) t) (xFnX m n a) := by
  intro σ H g S ρ Q res rr er hm po
  unfold xFnX at hm
  split at hm
  · rename_i xs S' q
    split at hm
    · rename_i hl
      refine ra σ H g S ρ _ (.ok xs, S') rr er q fun vs g1 H1 r1 t1 fs => ?_
      refine ⟨g1, S', xs, res, r1, fs, eq_of_beq hl, hm, ?_⟩
      obtain ⟨res1, S2⟩ := res
      cases res1 with
      | ok y => exact fun v g' H' r2 t2 f2 => po v g' H' r2 (md.trans t1 t2) (.frz f2)
      | ex c fs => exact fun cls d g' H' r2 t2 x2 => po cls d g' H' r2 (md.trans t1 t2) x2
    · cases hm
  · rename_i c fs S' q
    cases hm
    exact ra σ H g S ρ _ (.ex c fs, S') rr er q po
  · cases hm
theorem x_fn {x : Str} {p : Pos} {j n : Nat} {m : Fm} {a : Xa} (F : Fn X md j x n m) (hr : Room j X.A) (tk : Takes X W) (hg : Gl X x) (ha : SimXA X md W (e :: es) a) (hdb : (x == ("__debug__" : Str)) = false := by decide)
    (he : starEach (e :: es) X.env = (false, eval e X.env) :: starEach es X.env := by rfl) (hpl : (backTo pos (starEach es X.env)).any (·.1) = false := by rfl) : SimX X md W (.Call (.Name x p) (e :: es) [] pos) (xFnX m n a) := by
  obtain ⟨k, f, fd, ps, hk, F, hm, kp, hb⟩ := F.ex
  obtain ⟨t, pa, ra⟩ := ha.ex
  exact ⟨_, pe_callS F (hr.mono hk) hg hm kp hb (fun σ => passAt tk σ) pa hdb he hpl, rchx_fn ra⟩
theorem x_fn0 {x : Str} {p : Pos} {j n : Nat} {m : Fm} (F : Fn X md j x n m) (hr : Room j X.A) (tk : Takes X W) (hg : Gl X x) (hdb : (x == ("__debug__" : Str)) = false := by decide) : SimX X md W (.Call (.Name x p) [] [] pos) (xFnX m n aXNil) := by
  obtain ⟨k, f, fd, ps, hk, F, hm, kp, hb⟩ := F.ex
  exact ⟨_, call0S F (hr.mono hk) hg hm kp hb (fun σ => passAt tk σ) hdb, rchx_fn (fun σ H g S ρ Q r rr er hm po => by cases hm; exact po [] g H rr (md.refl rr) .nil)⟩
/-- displays -/
def xTupX (m : Xa) : Xm := fun ρ S => match m ρ S with
  | some (.ok xs, S') => if decide (xs.length ≤ most) then some (.ok (.tup xs), S') else none
  | some (.ex c fs, S') => some (.ex c fs, S')
  | none => none
theorem x_tup {x1 : Nat} {m : Xa} (h : SimXA X md W es m) : SimX X md W (.Tuple es x1 pos) (xTupX m) := by
  obtain ⟨t, p, r⟩ := h.ex
  refine ⟨_, pe_tup p, fun σ H g S ρ Q res rr er hm po => ?_⟩
  unfold xTupX at hm
  split at hm
  · rename_i xs S' q
    split at hm
    · rename_i hl
      cases hm
      refine r σ H g S ρ _ (.ok xs, S') rr er q fun vs g1 H1 r1 t1 fr => ⟨by rw [← fr.length]; exact Nat.le_trans (of_decide_eq_true hl) most_le, fun q hq => ?_⟩
      obtain ⟨gr, f2⟩ := new_tup (md.wr r1) hq fr
      obtain ⟨r2, t2⟩ := md.grow r1 gr
      exact po _ _ _ r2 (md.trans t1 t2) (.frz f2)
    · cases hm
  · rename_i c fs S' q
    cases hm
    exact r σ H g S ρ _ (.ex c fs, S') rr er q po
  · cases hm
def xLstX (m : Xa) : Xm := fun ρ S => match m ρ S with
  | some (.ok xs, S') => if decide (xs.length ≤ most) then some (.ok (.lst xs), S') else none
  | some (.ex c fs, S') => some (.ex c fs, S')
  | none => none
theorem x_lst {m : Xa} (h : SimXA X md W es m) : SimX X md W (.List es pos) (xLstX m) := by
  obtain ⟨t, p, r⟩ := h.ex
  refine ⟨_, pe_lst p, fun σ H g S ρ Q res rr er hm po => ?_⟩
  unfold xLstX at hm
  split at hm
  · rename_i xs S' q
    split at hm
    · rename_i hl
      cases hm
      refine r σ H g S ρ _ (.ok xs, S') rr er q fun vs g1 H1 r1 t1 fr => ⟨by rw [← fr.length]; exact Nat.le_trans (of_decide_eq_true hl) most_le, fun q hq => ?_⟩
      obtain ⟨gr, f2⟩ := new_lst (md.wr r1) hq fr
      obtain ⟨r2, t2⟩ := md.grow r1 gr
      exact po _ _ _ r2 (md.trans t1 t2) (.frz f2)
    · cases hm
  · rename_i c fs S' q
    cases hm
    exact r σ H g S ρ _ (.ex c fs, S') rr er q po
  · cases hm
/-- built-ins of values that were made by effects -/
def xCallX (op : List PV → Option PV) (m : Xa) : Xm := fun ρ S => match m ρ S with
  | some (.ok xs, S') => (op xs).map fun z => (.ok z, S')
  | some (.ex c fs, S') => some (.ex c fs, S')
  | none => none
theorem rchx_call {r : List V → Hp → VK → Prop} {op : List PV → Option PV} {t : TA} {m : Xa} (hk : CallOk X.K op r) (h : RchA md W t m) : RchX md W (tCB r t) (xCallX op m) := by
  intro σ H g S ρ Q res rr er hm po
  unfold xCallX at hm
  split at hm
  · rename_i xs S' q
    cases z : op xs with
    | none => rw [z] at hm; cases hm
    | some zz =>
      rw [z] at hm
      have e2 : res = (.ok zz, S') := (Option.some.inj hm).symm
      subst e2
      refine h σ H g S ρ _ (.ok xs, S') rr er q fun vs g1 H1 r1 t1 fr => ?_
      refine hk g1 S' H1 xs zz vs Q (md.wr r1) fr.ovs z fun w2 g2 H2 gr2 o2 => ?_
      obtain ⟨r2, t2⟩ := md.grow r1 gr2
      exact po w2 g2 H2 r2 (md.trans t1 t2) o2
  · rename_i c fs S' q
    cases hm
    exact h σ H g S ρ _ (.ex c fs, S') rr er q po
  · cases hm
theorem x_callB {x : Str} {p : Pos} {id : String} {r : List V → Hp → VK → Prop} {op : List PV → Option PV} {m : Xa} (hc : CallR X (.builtin id) r) (hk : CallOk X.K op r) (hg : Gl X x) (hm : X.mg x = none) (hv : bootBuiltins x = some (.builtin id)) (ha : SimXA X md W (e :: es) m)
    (hn : x ≠ "__name__" := by decide) (hdb : (x == ("__debug__" : Str)) = false := by decide)
    (he : starEach (e :: es) X.env = (false, eval e X.env) :: starEach es X.env := by rfl) (hpl : (backTo pos (starEach es X.env)).any (·.1) = false := by rfl) : SimX X md W (.Call (.Name x p) (e :: es) [] pos) (xCallX op m) := by
  obtain ⟨t, pp, rr⟩ := ha.ex
  exact ⟨_, pe_callB hc hg hm hv pp hn hdb he hpl, rchx_call hk rr⟩
theorem x_callTy {x : Str} {p : Pos} {T : String} {r : List V → Hp → VK → Prop} {op : List PV → Option PV} {m : Xa} (hc : CallR X (.type T) r) (hk : CallOk X.K op r) (hg : Gl X x) (hm : X.mg x = none) (hv : bootBuiltins x = some (.type T)) (ha : SimXA X md W (e :: es) m)
    (hn : x ≠ "__name__" := by decide) (hdb : (x == ("__debug__" : Str)) = false := by decide)
    (he : starEach (e :: es) X.env = (false, eval e X.env) :: starEach es X.env := by rfl) (hpl : (backTo pos (starEach es X.env)).any (·.1) = false := by rfl) : SimX X md W (.Call (.Name x p) (e :: es) [] pos) (xCallX op m) := by
  obtain ⟨t, pp, rr⟩ := ha.ex
  exact ⟨_, pe_callTy hc hg hm hv pp hn hdb he hpl, rchx_call hk rr⟩
end
end L3

set_option Elab.async false
set_option linter.all false
set_option maxRecDepth 100000
set_option maxHeartbeats 4000000
namespace L3
open PySem PySem.Spec L2
set_option autoImplicit false
section
variable {X : Cx} {md : Md X.K} {W : WX} {a b c e o : Expr} {es rest : List Expr} {pos : Pos}

/-! ### an object of the store seen as what it holds now -/
def view (S : Store) : PV → PV
  | .ref n => (match S[n]? with
    | some (.lst xs) => .ol xs
    | some (.dct kvs) => .od kvs
    | _ => .ref n)
  | x => x
theorem view_ok {K : PySem.W.Frag} {g : G} {S : Store} {H : Hp} {x : PV} {v : V} (w : WR K g S H) (h : OV K g H x v) : OV K g H (view S x) v := by
  cases x with
  | ref n =>
    show OV K g H (match S[n]? with
      | some (.lst xs) => .ol xs
      | some (.dct kvs) => .od kvs
      | _ => .ref n) v
    cases q : S[n]? with
    | none => exact h
    | some o =>
      cases o with
      | ins c fs => exact h
      | lst xs =>
        cases h.fr rfl with
        | ref hn =>
          obtain ⟨vs, r, f⟩ := w.s n _ q
          exact .ol r f
      | dct xs =>
        cases h.fr rfl with
        | ref hn =>
          obtain ⟨vs, r, f⟩ := w.s n _ q
          exact .od r f
  | _ => exact h
def xView (m : Ex) : Ex := fun ρ S => mb (m ρ S) fun x => some (.ok (view S x))
theorem e_view {m : Ex} (h : SimE X W e m) : SimE X W e (xView m) := by
  obtain ⟨t, p, r⟩ := h.ex
  refine ⟨t, p, fun σ H g S ρ Q res w er hm po => ?_⟩
  unfold xView at hm
  cases q : m ρ S with
  | none => rw [q] at hm; cases hm
  | some z =>
    rw [q] at hm
    cases z with
    | ex c fs =>
      have e2 : res = .ex c fs := (Option.some.inj hm).symm
      subst e2
      exact r σ H g S ρ _ (.ex c fs) w er q po
    | ok x =>
      have e2 : res = .ok (view S x) := (Option.some.inj hm).symm
      subst e2
      exact r σ H g S ρ _ (.ok x) w er q fun v g' H' gr ov => po v g' H' gr (view_ok (gr.wr w) ov)

/-! ### fields -/
/-- the classes cs have no attribute f of their own -/
def FldOk (K : PySem.W.Frag) (cs : List Str) (f : Str) : Prop := ∀ c ∈ cs, Cls K (He.ga K c) ∧ NoAttr K (He.ga K c) f
theorem OVf.look {K : PySem.W.Frag} {g : G} {H : Hp} {f : Str} {x : PV} : ∀ {xs : List (Str × PV)} {vs : List (Str × V)}, OVf K g H xs vs → xs.lookup f = some x → ∃ v, vs.lookup f = some v ∧ OV K g H x v
  | _, _, .nil, e => by cases e
  | _, _, .cons (n := n) a b, e => by
    rw [List.lookup_cons] at e ⊢
    cases q : f == n with
    | true => rw [q] at e; cases e; exact ⟨_, rfl, a⟩
    | false => rw [q] at e; exact OVf.look b e
def xFld (cs : List Str) (f : Str) (m : Ex) : Ex := fun ρ S => mb (m ρ S) fun x => match x with
  | .ref n => (match S[n]? with
    | some (.ins c fs) => if decide (c ∈ cs) then mo (fs.lookup f) else none
    | _ => none)
  | _ => none
theorem e_fld {cs : List Str} {f : Str} {m : Ex} (hc : FldOk X.K cs f) (h : SimE X W o m) (hb : attributeBase o f X.env (eval o X.env) = eval o X.env := by rfl) : SimE X W (.Attribute o f pos) (xFld cs f m) := by
  obtain ⟨t, p, r⟩ := h.ex
  refine ⟨_, pe_fld p hb, ?_⟩
  refine Rch.bind (R' := RV X.K) (k := fun x _ S => match x with
    | .ref n => (match S[n]? with
      | some (.ins c fs) => if decide (c ∈ cs) then mo (fs.lookup f) else none
      | _ => none)
    | _ => none) (tk := fun x _ H1 Q => ∃ a C dx fs v, x = .ref a ∧ H1 a = some (.ins C dx fs) ∧ Cls X.K C ∧ NoAttr X.K C f ∧ fs.lookup f = some v ∧ Q v H1) r fun x u σ H g S ρ Q res w er hx hm po => ?_
  split at hm
  · rename_i n
    split at hm
    · rename_i c fs q
      split at hm
      · rename_i hcs
        cases q2 : fs.lookup f with
        | none => rw [q2] at hm; cases hm
        | some z =>
          rw [q2] at hm
          have e2 : res = .ok z := (Option.some.inj hm).symm
          subst e2
          cases hx.fr rfl with
          | ref hn =>
            obtain ⟨dx, vs, h1, h2⟩ := w.s n _ q
            obtain ⟨v, h3, h4⟩ := h2.look q2
            obtain ⟨k1, k2⟩ := hc c (of_decide_eq_true hcs)
            exact ⟨_, _, dx, vs, v, rfl, h1, k1, k2, h3, po v g H (.refl w) h4⟩
      · cases hm
    · cases hm
  · cases hm
def putP (f : Str) (v : PV) : List (Str × PV) → List (Str × PV)
  | [] => [(f, v)]
  | (g, x) :: r => if g = f then (g, v) :: r else (g, x) :: putP f v r
theorem FRf.put {K : PySem.W.Frag} {g : G} {f : Str} {x : PV} {v : V} (h : FR K g x v) : ∀ {xs : List (Str × PV)} {vs : List (Str × V)}, FRf K g xs vs → FRf K g (putP f x xs) (putF f v vs)
  | _, _, .nil => .cons h .nil
  | _, _, .cons (n := n) a b => by
    unfold putP putF
    by_cases e : n = f
    · rw [if_pos e, if_pos e]; exact .cons h b
    · rw [if_neg e, if_neg e]; exact .cons a (FRf.put h b)
theorem FRf.length {K : PySem.W.Frag} {g : G} : ∀ {xs : List (Str × PV)} {vs : List (Str × V)}, FRf K g xs vs → xs.length = vs.length
  | _, _, .nil => rfl
  | _, _, .cons _ b => by simp [FRf.length b]
/-- o.f = e -/
def sFldS (cs : List Str) (f : Str) (m : Ex) (mv : Xm) : Sm := xThen mv fun y ρ S => if fz y then (match m ρ S with
  | some (.ok (.ref n)) => (match S[n]? with
    | some (.ins c fs) => if decide (c ∈ cs) && decide (fs.length < 900) then some (.nx ρ, S.set n (.ins c (putP f y fs))) else none
    | _ => none)
  | _ => none) else none
theorem s_fld {cs : List Str} {f : Str} {m : Ex} {mv : Xm} {pos' : Pos} (hc : FldOk X.K cs f) (h : SimE X W o m) (hv : SimX X (Em X.K) W e mv) (hs : swapsWith e (some (.Attribute o f pos')) pos.line X.env = pure false := by rfl) : SimS X (Em X.K) W (.Assign [.Attribute o f pos'] e pos) (sFldS cs f m mv) := by
  obtain ⟨t, p, r⟩ := h.ex
  obtain ⟨tv, pv, rv⟩ := hv.ex
  refine ⟨_, ps_fld p pv hs, RchX.thn (tk := fun y D σ H1 => t σ H1 fun x H2 => ∃ a C dx fs, x = .ref a ∧ H2 a = some (.ins C dx fs) ∧ Cls X.K C ∧ NoAttr X.K C f ∧ fs.length < 1000 ∧ D.nx σ (upd H2 a (.ins C dx (putF f y fs)))) rv fun y v σ H g S ρ gb g0 H0 S0 D res r0 rr tt er ov hm po => ?_⟩
  split at hm
  · rename_i hf
    have fy := ov.fr hf
    split at hm
    · rename_i n q
      split at hm
      · rename_i c fs q2
        split at hm
        · rename_i hcs
          cases hm
          simp only [Bool.and_eq_true, decide_eq_true_eq] at hcs
          refine r σ H g S ρ _ (.ok (.ref n)) ((Em X.K).wr rr) er.f.r q fun x g' H' gr ov' => ?_
          obtain ⟨r1, t1⟩ := (Em X.K).grow rr gr
          cases ov'.fr rfl with
          | ref hn =>
            obtain ⟨dx, vs, h1, h2⟩ := r1.s n _ q2
            obtain ⟨k1, k2⟩ := hc c hcs.1
            obtain ⟨r2, t2⟩ := r1.store (n := n) (o' := .ins c (putP f y fs)) (ho := .ins (He.ga X.K c) dx (putF f v vs)) hn ⟨dx, _, upd_same, FRf.put (FR.mono gr.le _ _ fy) h2⟩
            refine ⟨_, _, dx, vs, rfl, h1, k1, k2, by rw [← h2.length]; omega, po σ g' _ r2 (((tt.step t1).step (S' := S.set n (.ins c (putP f y fs))) t2)) ((er.step t1).step (S' := S.set n (.ins c (putP f y fs))) (md := Em X.K) (S := S) t2)⟩
        · cases hm
      · cases hm
    · cases hm
  · cases hm

/-! ### new instances -/
/-- a class with its __init__, below the level j -/
structure Nw (X : Cx) (j : Nat) (c : Str) (n : Nat) (m : Fm) : Prop where
  ex : ∃ (k : Nat) (f : Addr) (fd : FuncData) (ps : List Str), k + 1 ≤ j ∧ FnOk X.prog X.w X.K X.mg X.base (L2.CX X.prog X.w) k f fd ps (spM (Em X.K) n m) ∧ Mk X.K (He.ga X.K c) f ∧ X.mg c = some (.ref (He.ga X.K c)) ∧ Binds X.K fd ps []
def xNew (c : Str) (m : Fm) (n : Nat) (a : Xa) : Xm := fun ρ S => match a ρ S with
  | some (.ok xs, S') => if xs.length + 1 == n then (match m (.ref S'.length :: xs) (S' ++ [.ins c []]) with
    | some (.ok .non, S2) => some (.ok (.ref S'.length), S2)
    | _ => none) else none
  | some (.ex c fs, S') => some (.ex c fs, S')
  | none => none
theorem rchx_new {c : Str} {t : TA} {ar : Xa} {n : Nat} {m : Fm} {E : XK} (ra : RchA (Em X.K) W t ar) : RchX (Em X.K) W (tMake (He.ga X.K c) (spM (Em X.K) n m) [] E t) (xNew c m n ar) := by
  intro σ H g S ρ Q res rr er hm po
  unfold xNew at hm
  split at hm
  · rename_i xs S' q
    split at hm
    · rename_i hl
      split at hm
      · rename_i S2 q2
        cases hm
        refine ra σ H g S ρ _ (.ok xs, S') rr er q fun vs g1 H1 r1 t1 fs x dx hx hdx ne => ?_
        rw [List.append_nil]
        have hs : Same H1 (upd (upd H1 dx (.own x)) x (.ins (He.ga X.K c) dx [])) := fun b u e => by
          rw [upd_ne (ne_of_none e hx), upd_ne (ne_of_none e hdx)]; exact e
        obtain ⟨r2, t2, f2⟩ := r1.laid (a := x) (o := .ins c []) hx hs ⟨dx, [], upd_same, .nil⟩
        refine ⟨g1.add x, S' ++ [SO.ins c []], .ref S'.length :: xs, (.ok .non, S2), r2, .cons f2 (FRs.mono (g1.add_le x) _ _ fs), by simpa using eq_of_beq hl, q2, fun v g' H' r3 t3 f3 => ?_⟩
        cases f3
        refine ⟨rfl, po _ g' H' r3 ((Em X.K).trans (S1 := S') t1 ((Em X.K).trans (S1 := S' ++ [SO.ins c []]) t2 t3)) (.frz (FR.mono t3.le _ _ f2))⟩
      · cases hm
    · cases hm
  · rename_i c fs S' q
    cases hm
    exact ra σ H g S ρ _ (.ex c fs, S') rr er q po
  · cases hm
theorem x_new {x : Str} {p : Pos} {j n : Nat} {m : Fm} {ar : Xa} (F : Nw X j x n m) (hr : Room j X.A) (hg : Gl X x) (ha : SimXA X (Em X.K) W (e :: es) ar) (hdb : (x == ("__debug__" : Str)) = false := by decide)
    (he : starEach (e :: es) X.env = (false, eval e X.env) :: starEach es X.env := by rfl) (hpl : (backTo pos (starEach es X.env)).any (·.1) = false := by rfl) : SimX X (Em X.K) W (.Call (.Name x p) (e :: es) [] pos) (xNew x m n ar) := by
  obtain ⟨k, f, fd, ps, hk, F, M, hm, hb⟩ := F.ex
  obtain ⟨t, pa, ra⟩ := ha.ex
  exact ⟨_, pe_make M F (hr.mono hk) hg hm hb .nil passL pa hdb he hpl, rchx_new ra⟩
theorem x_new0 {x : Str} {p : Pos} {j n : Nat} {m : Fm} (F : Nw X j x n m) (hr : Room j X.A) (hg : Gl X x) (hdb : (x == ("__debug__" : Str)) = false := by decide) : SimX X (Em X.K) W (.Call (.Name x p) [] [] pos) (xNew x m n aXNil) := by
  obtain ⟨k, f, fd, ps, hk, F, M, hm, hb⟩ := F.ex
  exact ⟨_, pe_make0 M F (hr.mono hk) hg hm hb .nil passL hdb, rchx_new (fun σ H g S ρ Q r rr er hm po => by cases hm; exact po [] g H rr ((Em X.K).refl rr) .nil)⟩
end
end L3

set_option Elab.async false
set_option linter.all false
set_option maxRecDepth 100000
set_option maxHeartbeats 4000000
/-! enumerate(tuple) -/
namespace L3E
open PySem PySem.Spec L2
open AutoSeq1 (wpAny_loadPart')
set_option autoImplicit false
theorem meets_enumerate_newT (l : Addr) (items : Array Value) (n : Nat) (dct : Option Addr) (sl : Array (Option Value)) :
    Meets (Builtin.«enumerate.__new__» ⟨[.type "enumerate", .ref l], []⟩) (fun _ R s => s.heap.get? l = some { cls := .type "tuple", dict := dct, data := .seq items n, slots := sl } ∧
      R (.ok (.ret (.ref (s.heap.push { cls := .type "tuple_iterator", data := .fields #[.ref l, .int 0 0] }).objs.size)))
        { s with heap := (s.heap.push { cls := .type "tuple_iterator", data := .fields #[.ref l, .int 0 0] }).push { cls := .type "enumerate", data := .fields #[.none, .bool false, .ref s.heap.objs.size, rawInt 0, .none, .none] } }) :=
  .of_wp fun prog w A R s h => by
    obtain ⟨hp, g, d, tk, os⟩ := s; obtain ⟨hl, h⟩ := h
    have hsub := sub_enumerate
    have hL : Heap.IsTuple (Shared.heap ⟨hp, g, d, tk, os⟩) l items := ⟨_, hl, rfl, n, rfl⟩
    wp_walk using wpAny_loadPart' hl
    refine wpAny_stack_any fun st => wpAny_pure ?_
    split
    · rename_i c _ _ _ _ _
      cases (c == Value.type "enumerate")
      · wp_walk using wpAny_loadPart' hl, wpAny_pyIter_tuple hL
        exact ⟨_, rfl, h⟩
      · wp_walk using wpAny_loadPart' hl, wpAny_pyIter_tuple hL
        exact ⟨_, rfl, h⟩
    · wp_walk using wpAny_loadPart' hl, wpAny_pyIter_tuple hL
      exact ⟨_, rfl, h⟩
section
variable {prog : Program} {w : World} {A : Around} {E : Value → Shared → Prop} {s : Shared}
theorem call_enumerate_tup {l : Addr} {items : Array Value} {Q : Value → Shared → Prop} (hL : s.heap.IsTuple l items)
    (h : ∀ h', IsEnum h' (s.heap.objs.size + 1) s.heap.objs.size 0 .none → h'.IsTupleIter s.heap.objs.size l 0 → h'.objs.size = s.heap.objs.size + 2 →
      (∀ b o, s.heap.get? b = some o → h'.get? b = some o) → Q (.ref (s.heap.objs.size + 1)) { s with heap := h' }) :
    wpAny (model prog w) A (call (.type "enumerate") [.ref l]) Q E s := by
  obtain ⟨⟨c, dct, dt, sl⟩, hl, hc, n, hd⟩ := hL
  replace hc : c = .type "tuple" := hc
  replace hd : dt = .seq items n := hd
  subst hc hd
  refine callType_new F.called_enumerate (by decide) (F.typeCall_enumerate_1 _) (F.newCall_enumerate_1 _) (fun obj => F.args_object_init_2 obj _) F.entry_enumerate_new
    (meets_enumerate_newT l items n dct sl) ⟨hl, ?_⟩
  have hz : (s.heap.push { cls := .type "tuple_iterator", data := .fields #[.ref l, .int 0 0] }).objs.size = s.heap.objs.size + 1 := Heap.size_push ..
  show _ ∧ _
  rw [hz]
  have he : IsEnum ((s.heap.push { cls := .type "tuple_iterator", data := .fields #[.ref l, .int 0 0] }).push
      { cls := .type "enumerate", data := .fields #[.none, .bool false, .ref s.heap.objs.size, rawInt 0, .none, .none] }) (s.heap.objs.size + 1) s.heap.objs.size 0 .none := by
    have := Heap.get?_push_size (s.heap.push { cls := .type "tuple_iterator", data := .fields #[.ref l, .int 0 0] })
      (o := { cls := .type "enumerate", data := .fields #[.none, .bool false, .ref s.heap.objs.size, rawInt 0, .none, .none] }) rfl
    rw [hz] at this; exact this
  refine ⟨⟨_, he, rfl⟩, h _ he ⟨_, Heap.get?_push_of_some _ (Heap.get?_push_size _ rfl), rfl, rfl⟩ (by rw [Heap.size_push, hz]) fun b o x => Heap.get?_push_of_some _ (Heap.get?_push_of_some _ x)⟩
end
def IteT (K : PySem.W.Frag) (a : Addr) : It :=
  ⟨fun i H => ∃ (xs : List V) (x : V), SqT K H a xs ∧ xs[i]? = some x, fun i H v H' => ∃ T x, v = .ref T ∧ H T = none ∧ H' = upd H T (.tup [.int (i : Nat), x]) ∧ ∀ xs, SqT K H a xs → xs[i]? = some x, fun i H => ∃ xs : List V, SqT K H a xs ∧ xs.length = i⟩
theorem turn_enumT {P : Program} {w : World} {K : PySem.W.Frag} {elts : List Expr} {kk : Nat} {tpos : Pos} (a e it : Addr) :
    Turn P w K (.Tuple elts kk tpos) (IteT K a) [e, it] e (fun i h => (∃ old, IsEnum h e it ((i : Nat) : Int) old) ∧ h.IsTupleIter it a i ∧ e ≠ it) where
  mem := by simp
  obj := fun i h st b hb => by
    obtain ⟨⟨old, he⟩, ⟨o, ho, hc, hd⟩, _⟩ := st
    have e' : b = e ∨ b = it := by simpa using hb
    rcases e' with z | z
    · rw [z]; exact ⟨_, he, fun v q => nomatch q⟩
    · rw [z]; exact ⟨o, ho, fun v q => by rw [hd] at q; cases q⟩
  keep := fun i h h' st k => let ⟨⟨old, he⟩, hi, hne⟩ := st; ⟨⟨old, k e (by simp) _ he⟩, hi.at fun o q => k it (by simp) o q, hne⟩
  item := by
    intro X hP hw hK hc i pins s σ H E I hf st hg
    subst hP hw hK
    obtain ⟨⟨old, he⟩, hit, hne⟩ := st
    obtain ⟨xs, x, hq, hx⟩ := hg
    obtain ⟨its, rv, p, hz⟩ := I.tuple hq
    obtain ⟨u, hu, ru⟩ := rv.get hx
    have hel : e < s.heap.objs.size := Heap.lt_size he
    have hil : it < s.heap.objs.size := by obtain ⟨_, q, _⟩ := hit; exact Heap.lt_size q
    have hai : a ≠ it := fun z => by
      obtain ⟨o1, h1, c1, _⟩ := hit
      obtain ⟨o2, h2, c2, _⟩ := p
      rw [z, h1] at h2; cases h2; rw [c1] at c2; exact absurd c2 (by decide)
    have hae : e ≠ a := fun z => by
      obtain ⟨o2, h2, c2, _⟩ := p
      have he' : s.heap.get? e = some _ := he
      rw [z, h2] at he'; cases he'; exact absurd (show Value.type "enumerate" = Value.type "tuple" from c2) (by decide)
    have D := Draws.tuple (prog := X.prog) (w := X.w) (A := X.A.in1) (show X.A.in1.handled = none from I.ok.hd hc) it a hai its.toArray
    have hlt : i < its.toArray.size := by
      rw [List.size_toArray]; exact (List.getElem?_eq_some_iff.mp hu).1
    refine wpAny_pyNext_enum_itemD D he ⟨hit, p⟩ hlt hne (by simp [hne, hae]) fun x' h' tk hP' ho hst' hT hsz hk => ?_
    have ex' : x' = u := by
      have hP' : its.toArray[i]? = some x' := hP'
      rw [show its.toArray[i]? = its[i]? by simp, hu] at hP'
      exact (Option.some.inj hP').symm
    subst ex'
    refine ⟨_, rfl, wpAny_letOwnedTupleGo_enum (s := { s with heap := h', toks := tk + 1 }) ho fun h'' he' sb => ?_⟩
    have hT2 : h''.get? s.heap.objs.size = some { cls := .type "tuple", data := .seq #[.int i tk, x'] } := (sb.2 _ (Nat.ne_of_gt hel)).trans hT
    have new : ObjOk X.prog X.w (upd H s.heap.objs.size (.tup [.int (i : Nat), x])) h'' s.heap.objs.size (.tup [.int (i : Nat), x]) :=
      ⟨by show 2 ≤ sizeLine; decide, [.int i tk, x'], .cons ⟨_, rfl⟩ (.cons ru .nil), ⟨_, hT2, rfl, _, rfl⟩⟩
    have I1 : Inv X pins σ (upd H s.heap.objs.size (.tup [.int (i : Nat), x])) { s with heap := h'', toks := tk + 1 } :=
      I.turnedNew (ch := [e, it]) (fun b ob hb q => (sb.2 b (fun z => hb (by simp [z]))).trans (hk b ob (fun z => hb (by simp [z])) (fun z => hb (by simp [z])) q)) hf (Nat.le_refl _) new
    refine ⟨.ref s.heap.objs.size, _, I1, rfl, ⟨_, x, rfl, I.hok.fresh (Nat.le_refl _), rfl, fun ys hy => ?_⟩, ⟨⟨x', ?_⟩, hst'.1.at fun o q => (sb.2 it (Ne.symm hne)).trans q, hne⟩, fun b hb => ?_⟩
    · have e1 : ys = xs := I.tuple_inj hy hq
      rw [e1]; exact hx
    · have e1 : ((i + 1 : Nat) : Int) = (i : Int) + 1 := by omega
      rw [e1]; exact he'
    · have hb' : b < s.heap.objs.size := by
        have e' : b = e ∨ b = it := by simpa using hb
        rcases e' with z | z
        · rw [z]; exact hel
        · rw [z]; exact hil
      rw [upd_ne (Nat.ne_of_lt hb')]
      exact (hf b hb).1
  done := by
    intro X hP hw hK hc i pins s σ H E I hf st hg
    subst hP hw hK
    obtain ⟨⟨old, he⟩, hit, hne⟩ := st
    obtain ⟨xs, hq, hx⟩ := hg
    obtain ⟨its, rv, p, hz⟩ := I.tuple hq
    obtain ⟨f0, f1, f2, f3, f4, f5⟩ := hf it (by simp)
    have hl := rv.length
    have hai : a ≠ it := fun z => by
      obtain ⟨o1, h1, c1, _⟩ := hit
      obtain ⟨o2, h2, c2, _⟩ := p
      rw [z, h1] at h2; cases h2; rw [c1] at c2; exact absurd c2 (by decide)
    have D := Draws.tuple (prog := X.prog) (w := X.w) (A := X.A.in1) (show X.A.in1.handled = none from I.ok.hd hc) it a hai its.toArray
    have hi : i = its.toArray.size := by rw [List.size_toArray]; omega
    exact wpAny_pyNext_enum_endD D he (by rw [← hi]; exact ⟨hit, p⟩) fun h' eb => ⟨rfl, I.turned (t' := s.toks) (fun b o hb q => eb b o hb q) f0 f1 f3 f4 f5⟩
  self := fun A i s Q E st h => let ⟨⟨_, he⟩, _⟩ := st; wpAny_pyIter_enum he h
def iEnumT (K : PySem.W.Frag) (ta : TA) : TI := fun σ H R => ta σ H fun vs H1 => ∃ a xs, vs = [.ref a] ∧ SqT K H1 a xs ∧ R (IteT K a) H1
theorem pi_enumT {X : Cx} {e : Expr} {ta : TA} {p pos tpos : Pos} {elts : List Expr} {kk : Nat} (hg : Gl X "enumerate") (hm : X.mg "enumerate" = none) (ha : PA X [e] ta) (hs : starEach [e] X.env = [(false, eval e X.env)] := by rfl) :
    PI X (.Tuple elts kk tpos) (.Call (.Name "enumerate" p) [e] [] pos) (iEnumT X.K ta) := by
  refine ⟨fun pins s σ H R I h => ?_⟩
  refine PyProof.Rows.Call_ (ld_blt I hg hm PyProof.Rows.boot_enumerate (PyProof.Rows.callWith_type1 (thn (ha.run pos pins s σ H _ I h) fun us s1 ⟨vs, H1, I1, r1, q1⟩ => ?_) hs rfl))
  obtain ⟨a, xs, ex, hq, q⟩ := q1
  subst ex
  cases r1 with
  | cons r rr =>
    cases rr
    cases r
    obtain ⟨its, rv, p', hz⟩ := I1.tuple hq
    refine call_enumerate_tup p' fun h' he hit hsz hk => wpAny_pyIter_enum he ?_
    have I2 : Inv X pins σ H1 { s1 with heap := h' } := I1.kept (t' := s1.toks) hk
    refine ⟨s1.heap.objs.size + 1, [s1.heap.objs.size + 1, s1.heap.objs.size], _, _, H1, rfl, I2, turn_enumT a (s1.heap.objs.size + 1) s1.heap.objs.size, ⟨⟨.none, he⟩, hit, Nat.succ_ne_self _⟩, fun b hb => ?_, q⟩
    have e' : b = s1.heap.objs.size + 1 ∨ b = s1.heap.objs.size := by simpa using hb
    have hle : s1.heap.objs.size ≤ b := by
      rcases e' with z | z
      · rw [z]; exact Nat.le_add_right _ _
      · rw [z]; exact Nat.le_refl _
    exact I1.fpOk hle (I1.hok.fresh hle)
end L3E

set_option Elab.async false
set_option linter.all false
set_option maxRecDepth 100000
set_option maxHeartbeats 4000000
namespace L3
open PySem PySem.Spec L2
set_option autoImplicit false
section
variable {X : Cx} {md : Md X.K} {W : WX} {a b c e e2 o tg iter : Expr} {es rest elts : List Expr} {pos tpos : Pos} {kk : Nat}

/-! ### enumerate, zip -/
def enumP : Nat → List PV → List PV
  | _, [] => []
  | i, x :: xs => .tup [.int (i : Int), x] :: enumP (i + 1) xs
theorem enumP_get : ∀ (xs : List PV) (k i : Nat), (enumP k xs)[i]? = (xs[i]?).map fun x => .tup [.int ((k + i : Nat) : Int), x]
  | [], k, i => by simp [enumP]
  | x :: xs, k, 0 => by simp [enumP]
  | x :: xs, k, i + 1 => by
    rw [enumP, List.getElem?_cons_succ, List.getElem?_cons_succ, enumP_get xs (k + 1) i]
    have : k + 1 + i = k + (i + 1) := by omega
    rw [this]
theorem enumP_len : ∀ (xs : List PV) (k : Nat), (enumP k xs).length = xs.length
  | [], _ => rfl
  | x :: xs, k => by rw [enumP, List.length_cons, List.length_cons, enumP_len]
theorem wk_enum {K : PySem.W.Frag} {g : G} {a : Addr} {xs : List PV} {vs : List V} (r : Rd g.F a (.lst vs)) (f : FRs K g xs vs) : Wk K g (Ite K a) (enumP 0 xs) where
  go := fun g' H i x le rd hx => by
    rw [enumP_get] at hx
    cases q : xs[i]? with
    | none => rw [q] at hx; cases hx
    | some y =>
      obtain ⟨v, hv, _⟩ := f.get q
      exact ⟨vs, v, .inl (rd _ _ (RdLe.of_same le.f _ _ r)), hv⟩
  yld := fun g' S H i x v H' le w hx hy => by
    obtain ⟨T, u, rfl, hT, rfl, hu⟩ := hy
    rw [enumP_get] at hx
    cases q : xs[i]? with
    | none => rw [q] at hx; cases hx
    | some y =>
      rw [q] at hx
      cases hx
      obtain ⟨u', hv, fu⟩ := f.get q
      have e := hu vs (.inl (w.f _ _ (RdLe.of_same le.f _ _ r)))
      rw [hv] at e; cases e
      obtain ⟨gr, f2⟩ := new_tup (xs := [.int ((0 + i : Nat) : Int), y]) w hT (.cons (.int _) (.cons (FR.mono le _ _ fu) .nil))
      rw [Nat.zero_add] at f2
      rw [Nat.zero_add]
      rw [Nat.zero_add] at gr
      exact ⟨_, gr, f2⟩
  stop := fun g' H le rd => ⟨vs, .inl (rd _ _ (RdLe.of_same le.f _ _ r)), by rw [enumP_len, f.length]; exact Nat.le_refl _⟩
theorem wk_enumT {K : PySem.W.Frag} {g : G} {a : Addr} {xs : List PV} {vs : List V} (r : SqT K g.F a vs) (f : FRs K g xs vs) : Wk K g (L3E.IteT K a) (enumP 0 xs) where
  go := fun g' H i x le rd hx => by
    rw [enumP_get] at hx
    cases q : xs[i]? with
    | none => rw [q] at hx; cases hx
    | some y =>
      obtain ⟨v, hv, _⟩ := f.get q
      exact ⟨vs, v, rd.sqT ((RdLe.of_same le.f).sqT r), hv⟩
  yld := fun g' S H i x v H' le w hx hy => by
    obtain ⟨T, u, rfl, hT, rfl, hu⟩ := hy
    rw [enumP_get] at hx
    cases q : xs[i]? with
    | none => rw [q] at hx; cases hx
    | some y =>
      rw [q] at hx
      cases hx
      obtain ⟨u', hv, fu⟩ := f.get q
      have e := hu vs (w.f.sqT ((RdLe.of_same le.f).sqT r))
      rw [hv] at e; cases e
      obtain ⟨gr, f2⟩ := new_tup (xs := [.int ((0 + i : Nat) : Int), y]) w hT (.cons (.int _) (.cons (FR.mono le _ _ fu) .nil))
      rw [Nat.zero_add] at f2
      rw [Nat.zero_add]
      rw [Nat.zero_add] at gr
      exact ⟨_, gr, f2⟩
  stop := fun g' H le rd => ⟨vs, rd.sqT ((RdLe.of_same le.f).sqT r), by rw [enumP_len, f.length]⟩
def enumA : List PV → M (List PV)
  | [.lst ys] => some (.ok (enumP 0 ys))
  | [.tup ys] => some (.ok (enumP 0 ys))
  | _ => none
def iEnumP (m : Ar) : Ar := fun ρ S => mb (m ρ S) enumA
theorem i_enum {m : Ar} {p : Pos} (hg : Gl X "enumerate") (hm : X.mg "enumerate" = none) (ha : SimA X W [e] m) (hs : starEach [e] X.env = [(false, eval e X.env)] := by rfl) : SimI X W (.Tuple elts kk tpos) (.Call (.Name "enumerate" p) [e] [] pos) (iEnumP m) := by
  obtain ⟨t, pp, r⟩ := ha.ex
  refine ⟨_, PI.or (pi_enum hg hm pp hs) (L3E.pi_enumT hg hm pp hs), fun σ H g S ρ R res w er hm po => ?_⟩
  unfold iEnumP at hm
  cases q : m ρ S with
  | none => rw [q] at hm; cases hm
  | some z =>
    rw [q] at hm
    cases z with
    | ex c fs =>
      have e2 : res = .ex c fs := (Option.some.inj hm).symm
      subst e2
      exact .inl (r σ H g S ρ _ (.ex c fs) w er q po)
    | ok xs =>
      replace hm : enumA xs = some res := hm
      unfold enumA at hm
      split at hm
      · rename_i ys
        cases hm
        refine .inl (r σ H g S ρ _ (.ok [.lst ys]) w er q fun vs g' H' gr ov => ?_)
        obtain ⟨u, rfl, hu⟩ := ovs1 ov
        cases hu.fr rfl with
        | lst s f => exact ⟨_, _, rfl, .inl (gr.f _ _ s), po _ g' H' gr (wk_enum s f)⟩
      · rename_i ys
        cases hm
        refine .inr (r σ H g S ρ _ (.ok [.tup ys]) w er q fun vs g' H' gr ov => ?_)
        obtain ⟨u, rfl, hu⟩ := ovs1 ov
        cases hu.fr rfl with
        | tup s f => exact ⟨_, _, rfl, gr.f.sqT s, po _ g' H' gr (wk_enumT s f)⟩
      · cases hm
def zipP : List PV → List PV → List PV
  | x :: xs, y :: ys => .tup [x, y] :: zipP xs ys
  | _, _ => []
theorem zipP_get : ∀ (xs ys : List PV) (i : Nat) (z : PV), (zipP xs ys)[i]? = some z → ∃ x y, xs[i]? = some x ∧ ys[i]? = some y ∧ z = .tup [x, y]
  | [], _, i, z, h => by simp [zipP] at h
  | x :: xs, [], i, z, h => by simp [zipP] at h
  | x :: xs, y :: ys, 0, z, h => by simp [zipP] at h; exact ⟨x, y, rfl, rfl, h.symm⟩
  | x :: xs, y :: ys, i + 1, z, h => by
    rw [zipP, List.getElem?_cons_succ] at h
    simpa using zipP_get xs ys i z h
theorem zipP_len : ∀ (xs ys : List PV), (zipP xs ys).length = min xs.length ys.length
  | [], _ => by simp [zipP]
  | x :: xs, [] => by simp [zipP]
  | x :: xs, y :: ys => by rw [zipP, List.length_cons, zipP_len, List.length_cons, List.length_cons]; omega
theorem wk_zip {K : PySem.W.Frag} {g : G} {a b : Addr} {xs ys : List PV} {vs us : List V} (r : Rd g.F a (.lst vs)) (f : FRs K g xs vs) (r' : Rd g.F b (.lst us)) (f' : FRs K g ys us) : Wk K g (Itz K a b) (zipP xs ys) where
  go := fun g' H i x le rd hx => by
    obtain ⟨y, z, h1, h2, _⟩ := zipP_get _ _ _ _ hx
    obtain ⟨v, hv, _⟩ := f.get h1
    obtain ⟨v', hv', _⟩ := f'.get h2
    exact ⟨vs, us, v, v', .inl (rd _ _ (RdLe.of_same le.f _ _ r)), .inl (rd _ _ (RdLe.of_same le.f _ _ r')), hv, hv'⟩
  yld := fun g' S H i x v H' le w hx hy => by
    obtain ⟨T, u, u', rfl, hT, rfl, hu, hu'⟩ := hy
    obtain ⟨y, z, h1, h2, rfl⟩ := zipP_get _ _ _ _ hx
    obtain ⟨v, hv, fv⟩ := f.get h1
    obtain ⟨v', hv', fv'⟩ := f'.get h2
    have e := hu vs (.inl (w.f _ _ (RdLe.of_same le.f _ _ r)))
    have e' := hu' us (.inl (w.f _ _ (RdLe.of_same le.f _ _ r')))
    rw [hv] at e; cases e
    rw [hv'] at e'; cases e'
    obtain ⟨gr, f2⟩ := new_tup w hT (.cons (FR.mono le _ _ fv) (.cons (FR.mono le _ _ fv') .nil))
    exact ⟨_, gr, f2⟩
  stop := fun g' H le rd => ⟨vs, us, .inl (rd _ _ (RdLe.of_same le.f _ _ r)), .inl (rd _ _ (RdLe.of_same le.f _ _ r')), by rw [zipP_len, f.length, f'.length]; omega⟩
theorem wk_zipT {K : PySem.W.Frag} {g : G} {a b : Addr} {xs ys : List PV} {vs us : List V} (r : SqT K g.F a vs) (f : FRs K g xs vs) (r' : SqT K g.F b us) (f' : FRs K g ys us) : Wk K g (RZ.ItzT K a b) (zipP xs ys) where
  go := fun g' H i x le rd hx => by
    obtain ⟨y, z, h1, h2, _⟩ := zipP_get _ _ _ _ hx
    obtain ⟨v, hv, _⟩ := f.get h1
    obtain ⟨v', hv', _⟩ := f'.get h2
    exact ⟨vs, us, v, v', rd.sqT ((RdLe.of_same le.f).sqT r), rd.sqT ((RdLe.of_same le.f).sqT r'), hv, hv'⟩
  yld := fun g' S H i x v H' le w hx hy => by
    obtain ⟨T, u, u', rfl, hT, rfl, hu, hu'⟩ := hy
    obtain ⟨y, z, h1, h2, rfl⟩ := zipP_get _ _ _ _ hx
    obtain ⟨v, hv, fv⟩ := f.get h1
    obtain ⟨v', hv', fv'⟩ := f'.get h2
    have e := hu vs (w.f.sqT ((RdLe.of_same le.f).sqT r))
    have e' := hu' us (w.f.sqT ((RdLe.of_same le.f).sqT r'))
    rw [hv] at e; cases e
    rw [hv'] at e'; cases e'
    obtain ⟨gr, f2⟩ := new_tup w hT (.cons (FR.mono le _ _ fv) (.cons (FR.mono le _ _ fv') .nil))
    exact ⟨_, gr, f2⟩
  stop := fun g' H le rd => ⟨vs, us, rd.sqT ((RdLe.of_same le.f).sqT r), rd.sqT ((RdLe.of_same le.f).sqT r'), by rw [zipP_len, f.length, f'.length]; omega⟩
def iZipP (m : Ar) : Ar := fun ρ S => mb (m ρ S) fun xs => match xs with
  | [.lst ys, .lst zs] => some (.ok (zipP ys zs))
  | [.tup ys, .tup zs] => some (.ok (zipP ys zs))
  | _ => none
theorem i_zip {m : Ar} {p : Pos} (hg : Gl X "zip") (hm : X.mg "zip" = none) (ha : SimA X W [e, e2] m) (hs : starEach [e, e2] X.env = (false, eval e X.env) :: starEach [e2] X.env := by rfl) (hpl : (backTo pos (starEach [e2] X.env)).any (·.1) = false := by rfl) : SimI X W (.Tuple elts kk tpos) (.Call (.Name "zip" p) [e, e2] [] pos) (iZipP m) := by
  obtain ⟨t, pp, r⟩ := ha.ex
  refine ⟨_, RZ.pi_zipA hg hm pp hs hpl, fun σ H g S ρ R res w er hm po => ?_⟩
  refine Rch.bind (R' := fun g' _ xs J => Wk X.K g' J xs) (k := fun xs _ _ => match xs with
    | [.lst ys, .lst zs] => some (.ok (zipP ys zs))
    | [.tup ys, .tup zs] => some (.ok (zipP ys zs))
    | _ => none) (tk := fun vs _ H1 R => ∃ a b xs ys, vs = [.ref a, .ref b] ∧ ((SqL X.K H1 a xs ∧ SqL X.K H1 b ys ∧ R (Itz X.K a b) H1) ∨ (SqT X.K H1 a xs ∧ SqT X.K H1 b ys ∧ R (RZ.ItzT X.K a b) H1))) r (fun xs us σ H g S ρ Q res w er hx hm po => ?_) σ H g S ρ R res w er hm po
  split at hm
  · obtain ⟨u, v, rfl, hu, hv⟩ := ovs2 hx
    cases hm
    cases hu.fr rfl with
    | lst s f =>
      cases hv.fr rfl with
      | lst s' f' => exact ⟨_, _, _, _, rfl, .inl ⟨.inl (w.f _ _ s), .inl (w.f _ _ s'), po _ g H (.refl w) (wk_zip s f s' f')⟩⟩
  · obtain ⟨u, v, rfl, hu, hv⟩ := ovs2 hx
    cases hm
    cases hu.fr rfl with
    | tup s f =>
      cases hv.fr rfl with
      | tup s' f' => exact ⟨_, _, _, _, rfl, .inr ⟨w.f.sqT s, w.f.sqT s', po _ g H (.refl w) (wk_zipT s f s' f')⟩⟩
  · cases hm
end
end L3

set_option Elab.async false
set_option linter.all false
set_option maxRecDepth 100000
set_option maxHeartbeats 4000000
namespace L3
open PySem PySem.Spec L2
set_option autoImplicit false

/-! ### what is walked, made by effects -/
def PoI {K : PySem.W.Frag} (md : Md K) (g : G) (H : Hp) (S : Store) (σ : St) (W : WX) (R : It → Hp → Prop) : Res (List PV) × Store → Prop
  | (.ok xs, S') => ∀ J g' H', md.R g' S' H' → md.T g H S g' H' S' → Wk K g' J xs → R J H'
  | (.ex c fs, S') => ∀ cls d g' H', md.R g' S' H' → md.T g H S g' H' S' → XR K g' H' c fs cls d → W cls d σ H'
def RchI {K : PySem.W.Frag} (md : Md K) (W : WX) (wi : TI) (m : Xa) : Prop :=
  ∀ (σ : St) (H : Hp) (g : G) (S : Store) (ρ : Env) (R : It → Hp → Prop) (r : Res (List PV) × Store), md.R g S H → EnvF md g H σ ρ → m ρ S = some r → PoI md g H S σ W R r → wi σ H R
structure SimIX (X : Cx) (md : Md X.K) (W : WX) (tg iter : Expr) (m : Xa) : Prop where
  ex : ∃ wi : TI, PI X tg iter wi ∧ RchI md W wi m
section
variable {X : Cx} {md : Md X.K} {W : WX} {a b c e e2 o tg iter elt : Expr} {es rest elts ifs : List Expr} {pos tpos : Pos} {kk : Nat} {scope : Scope} {own : List (Str × Nat)}
def iP (m : Ar) : Xa := fun ρ S => (m ρ S).map fun r => (r, S)
theorem ix_p {m : Ar} (h : SimI X W tg iter m) : SimIX X md W tg iter (iP m) := by
  obtain ⟨wi, p, r⟩ := h.ex
  refine ⟨wi, p, fun σ H g S ρ R res rr er hm po => ?_⟩
  unfold iP at hm
  cases q : m ρ S with
  | none => rw [q] at hm; cases hm
  | some z =>
    rw [q] at hm
    have e2 : res = (z, S) := (Option.some.inj hm).symm
    subst e2
    refine r σ H g S ρ R z (md.wr rr) er.r q ?_
    cases z with
    | ok xs => exact fun J g' H' gr wk => by obtain ⟨r1, t1⟩ := md.grow rr gr; exact po J g' H' r1 t1 wk
    | ex c fs => exact fun cls d g' H' gr x => by obtain ⟨r1, t1⟩ := md.grow rr gr; exact po cls d g' H' r1 t1 x
def iRange1X (m : Xa) : Xa := fun ρ S => match m ρ S with
  | some (.ok [.int j], S') => if rOk j then some (.ok (rngP 0 j.toNat), S') else none
  | some (.ex c fs, S') => some (.ex c fs, S')
  | _ => none
theorem ix_range1 {m : Xa} {p : Pos} (hg : Gl X "range") (hm : X.mg "range" = none) (ha : SimXA X md W [a] m) (hs : starEach [a] X.env = [(false, eval a X.env)] := by rfl) : SimIX X md W tg (.Call (.Name "range" p) [a] [] pos) (iRange1X m) := by
  obtain ⟨t, pp, r⟩ := ha.ex
  refine ⟨_, pi_range1 hg hm pp hs, fun σ H g S ρ R res rr er hm po => ?_⟩
  unfold iRange1X at hm
  split at hm
  · rename_i j S' q
    split at hm
    · rename_i hc
      cases hm
      obtain ⟨h1, h2⟩ := rOk_ok hc
      refine r σ H g S ρ _ (.ok [.int j], S') rr er q fun vs g' H' r1 t1 fr => ?_
      cases fr with
      | cons x y => cases y; cases x; exact ⟨j, rfl, h1, h2, po _ g' H' r1 t1 (wk_rng _ _)⟩
    · cases hm
  · rename_i c fs S' q
    cases hm
    exact r σ H g S ρ _ (.ex c fs, S') rr er q po
  · cases hm
def iSeqX (m : Xm) : Xa := fun ρ S => match m ρ S with
  | some (.ok x, S') => (itemsOf x).map fun xs => (.ok xs, S')
  | some (.ex c fs, S') => some (.ex c fs, S')
  | none => none
theorem ix_seq {m : Xm} (h : SimX X md W iter m) : SimIX X md W tg iter (iSeqX m) := by
  obtain ⟨t, p, r⟩ := h.ex
  refine ⟨_, PI.or (pi_list p) (PI.or (pi_tup p) (pi_str p)), fun σ H g S ρ R res rr er hm po => ?_⟩
  unfold iSeqX at hm
  split at hm
  · rename_i x S' q
    cases x with
    | lst xs =>
      cases hm
      refine .inl (r σ H g S ρ _ (.ok (.lst xs), S') rr er q fun v g' H' r1 t1 ov => ?_)
      cases ov.fr rfl with
      | lst s f => exact ⟨_, rfl, ⟨_, .inl ((md.wr r1).f _ _ s)⟩, po _ g' H' r1 t1 (wk_list (.inl s) f)⟩
    | kl xs =>
      cases hm
      refine .inl (r σ H g S ρ _ (.ok (.kl xs), S') rr er q fun v g' H' r1 t1 ov => ?_)
      cases ov.fr rfl with
      | kl s f => exact ⟨_, rfl, ⟨_, (md.wr r1).f.sqL s⟩, po _ g' H' r1 t1 (wk_list s f)⟩
    | tup xs =>
      cases hm
      refine .inr (.inl (r σ H g S ρ _ (.ok (.tup xs), S') rr er q fun v g' H' r1 t1 ov => ?_))
      cases ov.fr rfl with
      | tup s f => exact ⟨_, rfl, ⟨_, (md.wr r1).f.sqT s⟩, po _ g' H' r1 t1 (wk_tup s f)⟩
    | str xs =>
      cases hm
      refine .inr (.inr (r σ H g S ρ _ (.ok (.str xs), S') rr er q fun v g' H' r1 t1 ov => ?_))
      cases ov.fr rfl
      exact ⟨_, rfl, po _ g' H' r1 t1 (wk_str xs)⟩
    | _ => cases hm
  · rename_i c fs S' q
    cases hm
    exact .inl (r σ H g S ρ _ (.ex c fs, S') rr er q po)
  · cases hm
def sForX (it : Xa) (tg : Tg) (m : Sm) : Sm := fun ρ S => match it ρ S with
  | some (.ok xs, S') => sLoop tg m xs ρ S'
  | some (.ex c fs, S') => some (.xx c fs ρ, S')
  | none => none
theorem s_forX {body : List Stmt} {it : Xa} {g1 : Tg} {m : Sm} {ks : List Nat} (hp : PassesOwn (model X.prog X.w) X.A X.env X.xe) (hc : X.calm = true) (hi : SimIX X md W tg iter it) (hg : SimG X tg ks g1) (h : SimB X md W body m)
    (hs : ∀ x, foldedSetIterable iter X.env x = pure x := by intro _; rfl) : SimS X md W (.For tg iter body [] pos) (sForX it g1 m) := by
  obtain ⟨wi, pi, ri⟩ := hi.ex
  obtain ⟨tt1, pg, rg⟩ := hg.ex
  obtain ⟨t, p, r⟩ := h.ex
  refine ⟨_, ps_for hp hc pi pg p hs, fun σ H g S ρ gb g0 H0 S0 D res r0 rr tt er hm po => ?_⟩
  unfold sForX at hm
  split at hm
  · rename_i xs S' q
    refine ri σ H g S ρ _ (.ok xs, S') rr er.f q fun J gJ H1 r1 t1 wk => ?_
    have po : PoS md gJ g0 H0 S0 W D res := po.weak (tt.l.trans (md.le t1))
    refine ⟨fun i j σ H => ∃ g S ρ, md.R g S H ∧ Tr md gJ g0 H0 S0 g H S ∧ EnvS md H0 g H σ ρ ∧ sLoop g1 m (xs.drop i) ρ S = some res ∧ i + j = xs.length, ⟨xs.length, gJ, S', ρ, r1, ⟨md.trans tt.t t1, .refl _⟩, er.step t1, by simpa using hm, by omega⟩, ?_⟩
    rintro i j σ H ⟨g, S, ρ, rr, tt, er, hm, hj⟩
    by_cases hi : i < xs.length
    · have hd : xs.drop i = xs[i] :: xs.drop (i + 1) := List.drop_eq_getElem_cons hi
      have hx : xs[i]? = some xs[i] := List.getElem?_eq_getElem hi
      rw [hd] at hm
      unfold sLoop at hm
      refine .inr ⟨wk.go g H i _ tt.l (md.wr rr).f hx, fun σ' H' => ∃ g S ρ, md.R g S H' ∧ Tr md gJ g0 H0 S0 g H' S ∧ EnvS md H0 g H' σ' ρ ∧ sLoop g1 m (xs.drop (i + 1)) ρ S = some res, fun σ' H' ⟨g', S', ρ', a2, a3, a4, a5⟩ => ⟨j - 1, by omega, g', S', ρ', a2, a3, a4, a5, by omega⟩, fun v H' hy => ?_⟩
      obtain ⟨g2, gr2, fx⟩ := wk.yld g S H i _ v H' tt.l (md.wr rr) hx hy
      obtain ⟨r2, t2⟩ := md.grow rr gr2
      split at hm
      · cases hm
      · rename_i ρ1 q1
        refine rg v σ H' g2 S ρ ρ1 _ _ (md.wr r2) (er.step t2).f.r fx q1 fun σ3 tg3 => ?_
        have er3 := (er.step t2).tgt tg3
        split at hm
        · rename_i ρ' S2 q2
          exact r σ3 H' g2 S ρ1 gJ g0 H0 S0 _ (.nx ρ', S2) r0 r2 (tt.step t2) er3 q2 fun σ4 g4 H4 r4 t4 e4 => ⟨g4, S2, ρ', r4, t4, e4, hm⟩
        · rename_i ρ' S2 q2
          exact r σ3 H' g2 S ρ1 gJ g0 H0 S0 _ (.ct ρ', S2) r0 r2 (tt.step t2) er3 q2 fun σ4 g4 H4 r4 t4 e4 => ⟨g4, S2, ρ', r4, t4, e4, hm⟩
        · rename_i ρ' S2 q2
          cases hm
          exact r σ3 H' g2 S ρ1 gJ g0 H0 S0 _ (.bk ρ', S2) r0 r2 (tt.step t2) er3 q2 po
        · rename_i n1 n2 n3
          obtain ⟨res1, S1⟩ := res
          refine r σ3 H' g2 S ρ1 gJ g0 H0 S0 _ (res1, S1) r0 r2 (tt.step t2) er3 hm ?_
          cases res1 with
          | nx ρ' => exact absurd hm (n1 ρ' S1)
          | ct ρ' => exact absurd hm (n2 ρ' S1)
          | bk ρ' => exact absurd hm (n3 ρ' S1)
          | rt x => exact po
          | xx c fs ρ' => exact po
    · have hi2 : i = xs.length := by omega
      rw [List.drop_of_length_le (by omega)] at hm
      unfold sLoop at hm
      cases hm
      subst hi2
      exact .inl ⟨wk.stop g H tt.l (md.wr rr).f, po σ g H rr tt er⟩
  · rename_i c fs S' q
    cases hm
    exact ri σ H g S ρ _ (.ex c fs, S') rr er.f q fun cls d g' H' r1 t1 xr => po cls d σ g' H' r1 (tt.step t1) (er.step t1) xr
  · cases hm

/-! ### comprehensions with effects -/
def cX {K : PySem.W.Frag} (md : Md K) (W : WX) (m : Xm) : TE := fun σ H Q => ∃ (g : G) (S : Store) (ρ : Env) (r : Res PV × Store), md.R g S H ∧ EnvF md g H σ ρ ∧ m ρ S = some r ∧ PoX md g H S σ W Q r
theorem SimX.cr {m : Xm} (h : SimX X md W e m) : PE X e (cX md W m) := by
  obtain ⟨t, p, r⟩ := h.ex
  refine ⟨fun pins s σ H Q I q => p.run pins s σ H Q I ?_⟩
  obtain ⟨g, S, ρ, res, rr, er, hm, po⟩ := q
  exact r σ H g S ρ Q res rr er hm po
def cTX {K : PySem.W.Frag} (md : Md K) (W : WX) (m : Tm) : TT := fun σ H Q => ∃ (g : G) (S : Store) (ρ : Env) (r : Res Bool × Store), md.R g S H ∧ EnvF md g H σ ρ ∧ m ρ S = some r ∧ PoT md g H S σ W Q r
structure SimTsX (X : Cx) (md : Md X.K) (W : WX) (ifs : List Expr) (m : Tm) : Prop where
  ex : PTs X ifs (cTX md W m)
def yYesX : Tm := fun _ S => some (.ok true, S)
theorem tsx_nil : SimTsX X md W [] yYesX := ⟨⟨fun pins s σ H Q I q => by
  obtain ⟨g, S, ρ, r, rr, e, hm, po⟩ := q
  cases hm
  exact pts_nil.run pins s σ H Q I (po g H rr (md.refl rr))⟩⟩
theorem tsx_one {m : Tm} (h : SimTX X md W c m) : SimTsX X md W [c] m := by
  obtain ⟨t, p, r⟩ := h.ex
  refine ⟨pts_one ⟨fun pins s σ H Q I q => p.run pins s σ H Q I ?_⟩⟩
  obtain ⟨g, S, ρ, res, rr, er, hm, po⟩ := q
  exact r σ H g S ρ Q res rr er hm po
theorem wipeP_get (ρ : Env) : ∀ (vs : List Nat) (i : Nat) (x : PV), (wipeP ρ vs)[i]? = some (some x) → ρ[i]? = some (some x) ∧ i ∉ vs
  | [], i, x, h => ⟨h, by simp⟩
  | v :: vs, i, x, h => by
    rcases get_set h with ⟨_, _, hy⟩ | ⟨n, h⟩
    · cases hy
    · obtain ⟨h1, h2⟩ := wipeP_get ρ vs i x h
      exact ⟨h1, by simp [n, h2]⟩
theorem EnvF.wipe {K : PySem.W.Frag} {md : Md K} {g : G} {H : Hp} {σ : St} {ρ : Env} (e : EnvF md g H σ ρ) (vs : List Nat) : EnvF md g H (L2.wipe σ vs) (wipeP ρ vs) :=
  ⟨e.r.wipe vs, fun i x a h hf hs => by
    obtain ⟨h1, h2⟩ := wipeP_get ρ vs i x h
    rw [wipe_get, if_neg (fun z => h2 z.1)] at hs
    exact e.o i x a h1 hf hs⟩
theorem EnvF.tgt {K : PySem.W.Frag} {md : Md K} {g : G} {H : Hp} {σ σ' : St} {ρ ρ' : Env} {ks : List Nat} (e : EnvF md g H σ ρ) (t : Tgt K g H σ ρ σ' ρ' ks) : EnvF md g H σ' ρ' :=
  ⟨t.r, fun i x a h hf hs => by obtain ⟨h1, h2⟩ := t.o i x h hf; exact e.o i x a h1 hf (h2 ▸ hs)⟩
def lcGoX (tg : Tg) (tt : Tm) (te : Xm) (ρ : Env) : List PV → Store → Option (List PV × Store)
  | [], S => some ([], S)
  | x :: xs, S => match tg x ρ with
    | none => none
    | some ρ1 => match tt ρ1 S with
      | some (.ok false, S1) => lcGoX tg tt te ρ xs S1
      | some (.ok true, S1) => (match te ρ1 S1 with
        | some (.ok y, S2) => if fz y then (lcGoX tg tt te ρ xs S2).map fun r => (y :: r.1, r.2) else none
        | _ => none)
      | _ => none
/-- an expression that makes a new list -/
def PoL {K : PySem.W.Frag} (md : Md K) (g : G) (H : Hp) (S : Store) (σ : St) (W : WX) (Q : VK) : Res (List PV) × Store → Prop
  | (.ok xs, S') => ∀ p vs g' H', md.R g' S' H' → md.T g H S g' H' S' → H p = none → H' p = some (.lst vs) → g'.F p = none → md.fr g' p → FRs K g' xs vs → Q (.ref p) H'
  | (.ex c fs, S') => ∀ cls d g' H', md.R g' S' H' → md.T g H S g' H' S' → XR K g' H' c fs cls d → W cls d σ H'
def RchL {K : PySem.W.Frag} (md : Md K) (W : WX) (t : TE) (m : Xa) : Prop :=
  ∀ (σ : St) (H : Hp) (g : G) (S : Store) (ρ : Env) (Q : VK) (r : Res (List PV) × Store), md.R g S H → EnvF md g H σ ρ → m ρ S = some r → PoL md g H S σ W Q r → t σ H Q
structure SimXL (X : Cx) (md : Md X.K) (W : WX) (e : Expr) (m : Xa) : Prop where
  ex : ∃ t : TE, PE X e t ∧ RchL md W t m
def lLcX (it : Xa) (tg : Tg) (tt : Tm) (te : Xm) (vs : List Nat) : Xa := fun ρ S => match it ρ S with
  | some (.ok xs, S') => if decide (xs.length ≤ most) then (lcGoX tg tt te (wipeP ρ vs) xs S').map fun r => (.ok r.1, r.2) else none
  | some (.ex c fs, S') => some (.ex c fs, S')
  | none => none
theorem rch_lcX {K : PySem.W.Frag} {md : Md K} {it : Xa} {g1 : Tg} {tt : Tm} {te : Xm} {vs ks : List Nat} {wi : TI} (hk : ∀ k ∈ ks, k ∈ vs) (ri : RchI md W wi it) :
    RchL md W (tLc wi (cG K ks g1) (cTX md WX0 tt) (cX md WX0 te) vs) (lLcX it g1 tt te vs) := by
  intro σ H g S ρ Q r rr er hm po
  unfold lLcX at hm
  split at hm
  · rename_i xs SJ q
    split at hm
    · rename_i hlen
      have hlen := of_decide_eq_true hlen
      cases q2 : lcGoX g1 tt te (wipeP ρ vs) xs SJ with
      | none => rw [q2] at hm; cases hm
      | some ys =>
        rw [q2] at hm
        obtain ⟨ys, SE⟩ := ys
        have e2 : r = (.ok ys, SE) := (Option.some.inj hm).symm
        subst e2
        refine ri σ H g S ρ _ (.ok xs, SJ) rr er q fun J gJ H1 rJ tJ wk D hD => ?_
        have fD : gJ.F D = none := by
          cases e : gJ.F D with
          | none => rfl
          | some u => rcases (md.wr rJ).f D u (.inl e) with q | ⟨_, q⟩ <;> rw [hD] at q <;> cases q
        have gr0 : Grow gJ H1 gJ (upd H1 D (.lst [])) := .loose (md.wr rJ) hD
        obtain ⟨r0, t0⟩ := md.grow rJ gr0
        refine ⟨fun i j H => ∃ g S vals done rest, md.R g S H ∧ md.T gJ H1 SJ g H S ∧ H D = some (.lst vals) ∧ g.F D = none ∧ md.fr g D ∧ FRs K g done vals ∧ lcGoX g1 tt te (wipeP ρ vs) (xs.drop i) S = some (rest, SE) ∧ done ++ rest = ys ∧ i + j = xs.length ∧ done.length ≤ i,
          ⟨xs.length, gJ, SJ, [], [], ys, r0, t0, upd_same, fD, md.new rJ gr0 hD, .nil, by simpa using q2, rfl, by omega, Nat.le_refl _⟩, ?_⟩
        rintro i j H ⟨g, S, vals, done, rest, rg, tg', hHD, fD, frD, fd, hgo, hys, hij, hdl⟩
        have le := md.le tg'
        by_cases hi : i < xs.length
        · have hd : xs.drop i = xs[i] :: xs.drop (i + 1) := List.drop_eq_getElem_cons hi
          have hx : xs[i]? = some xs[i] := List.getElem?_eq_getElem hi
          rw [hd] at hgo
          unfold lcGoX at hgo
          refine .inr ⟨wk.go g H i _ le (md.wr rg).f hx, fun H' => ∃ g S vals done rest, md.R g S H' ∧ md.T gJ H1 SJ g H' S ∧ H' D = some (.lst vals) ∧ g.F D = none ∧ md.fr g D ∧ FRs K g done vals ∧ lcGoX g1 tt te (wipeP ρ vs) (xs.drop (i + 1)) S = some (rest, SE) ∧ done ++ rest = ys ∧ done.length ≤ i + 1,
            fun H' ⟨g', S', v', d', r', a1, a2, a3, a4, a5, a6, a7, a8, a9⟩ => ⟨j - 1, by omega, g', S', v', d', r', a1, a2, a3, a4, a5, a6, a7, a8, by omega, a9⟩, fun v H' hy => ?_⟩
          obtain ⟨g2, gr2, fx⟩ := wk.yld g S H i _ v H' le (md.wr rg) hx hy
          obtain ⟨r2, t2⟩ := md.grow rg gr2
          have e2 : EnvF md g2 H' (L2.wipe σ vs) (wipeP ρ vs) := (((er.step tJ).step tg').step t2).wipe vs
          obtain ⟨o1, o2, o3⟩ := md.own t2 hHD fD frD
          have f2 := FRs.mono gr2.le _ _ fd
          split at hgo
          · cases hgo
          · rename_i ρ1 q1
            refine ⟨g2, S, _, ρ1, _, md.wr r2, e2.r, fx, q1, fun σ3 t3 => ⟨?_, ?_⟩⟩
            · rw [← wipe_wipe σ vs]
              exact wipe_same t3.l fun n hn => t3.s n fun z => hn (hk n z)
            · have e3 : EnvF md g2 H' σ3 ρ1 := e2.tgt t3
              split at hgo
              · rename_i S3 q3
                refine ⟨g2, S, ρ1, _, r2, e3, q3, fun g3 H3 r3 t3' => ?_⟩
                refine iteF ?_
                obtain ⟨p1, p2, p3⟩ := md.own t3' o1 o2 o3
                exact ⟨g3, S3, vals, done, rest, r3, md.trans tg' (md.trans t2 t3'), p1, p2, p3, FRs.mono (md.le t3') _ _ f2, hgo, hys, by omega⟩
              · rename_i S3 q3
                refine ⟨g2, S, ρ1, _, r2, e3, q3, fun g3 H3 r3 t3' => ?_⟩
                refine iteT ?_
                obtain ⟨p1, p2, p3⟩ := md.own t3' o1 o2 o3
                split at hgo
                · rename_i y S4 q4
                  split at hgo
                  · rename_i hfy
                    cases q5 : lcGoX g1 tt te (wipeP ρ vs) (xs.drop (i + 1)) S4 with
                    | none => rw [q5] at hgo; cases hgo
                    | some rest' =>
                      rw [q5] at hgo
                      obtain ⟨rest', SE'⟩ := rest'
                      have e5 : (y :: rest', SE') = (rest, SE) := Option.some.inj hgo
                      cases e5
                      refine ⟨g3, S3, ρ1, _, r3, e3.step t3', q4, fun u g4 H4 r4 t4 ov => ?_⟩
                      obtain ⟨z1, z2, z3⟩ := md.own t4 p1 p2 p3
                      have tA := md.trans tg' (md.trans t2 (md.trans t3' t4))
                      have fd4 : FRs K g4 done vals := FRs.mono (md.le t4) _ _ (FRs.mono (md.le t3') _ _ f2)
                      have hvl : vals.length < sizeLine := by
                        rw [← fd.length, sizeLine_eq]
                        have : most = 1000000 := rfl
                        omega
                      refine ⟨vals, z1, hvl, ?_⟩
                      obtain ⟨rB, tB⟩ := md.put (.lst (vals ++ [u])) rJ tA r4 z1 hD z2 z3
                      exact ⟨g4, S4, vals ++ [u], done ++ [y], rest', rB, tB, upd_same, z2, z3, fd4.append (.cons (ov.fr hfy) .nil), q5, by rw [List.append_assoc]; exact hys, by simp; omega⟩
                  · cases hgo
                · cases hgo
              · cases hgo
        · have hi2 : i = xs.length := by omega
          rw [List.drop_of_length_le (by omega)] at hgo
          unfold lcGoX at hgo
          cases hgo
          rw [List.append_nil] at hys
          subst hys
          subst hi2
          exact .inl ⟨wk.stop g H le (md.wr rg).f, po D vals g H rg (md.trans tJ tg') (md.free tJ hD) hHD fD frD fd⟩
    · cases hm
  · rename_i c fs S' q
    cases hm
    exact ri σ H g S ρ _ (.ex c fs, S') rr er q po
  · cases hm
theorem xl_lc {it : Xa} {g1 : Tg} {tt : Tm} {te : Xm} {ks : List Nat} (hc : X.calm = true) (hN : X.N.Nodup) (hi : SimIX X md W tg iter it) (ok : BlkOk X.N X.env.scope scope own) (hk : ∀ k ∈ ks, k ∈ own.map (·.2))
    (hg : ∀ (s : Shared) (H : Hp) (C : Addr) (cl : List (Str × Addr)) (fp : List Addr), SimG (X.blk s H scope (compEnvC scope cl C X.env) fp) tg ks g1) (ht : ∀ (s : Shared) (H : Hp) (C : Addr) (cl : List (Str × Addr)) (fp : List Addr), SimTsX (X.blk s H scope (compEnvC scope cl C X.env) fp) md WX0 ifs tt)
    (he : ∀ (s : Shared) (H : Hp) (C : Addr) (cl : List (Str × Addr)) (fp : List Addr), SimX (X.blk s H scope (compEnvC scope cl C X.env) fp) md WX0 elt te) (hs : ∀ x, foldedSetIterable iter X.env x = pure x := by intro _; rfl) :
    SimXL X md W (.ListComp elt [⟨tg, iter, ifs, 0⟩] scope pos) (lLcX it g1 tt te (own.map (·.2))) := by
  obtain ⟨wi, pi, ri⟩ := hi.ex
  exact ⟨_, pe_lc hc hN pi ok (fun s H C cl fp => (hg s H C cl fp).c) (fun s H C cl fp => (ht s H C cl fp).ex) (fun s H C cl fp => (he s H C cl fp).cr) hs, rch_lcX hk ri⟩
/-- a pure one -/
theorem xl_p {m : Ar} (h : SimL X W e m) : SimXL X md W e (iP m) := by
  obtain ⟨t, p, r⟩ := h.ex
  refine ⟨t, p, fun σ H g S ρ Q res rr er hm po => ?_⟩
  unfold iP at hm
  cases q : m ρ S with
  | none => rw [q] at hm; cases hm
  | some z =>
    rw [q] at hm
    have e2 : res = (z, S) := (Option.some.inj hm).symm
    subst e2
    refine r σ H g S ρ Q z (md.wr rr) er.r q ?_
    cases z with
    | ok xs => exact fun p vs g' H' gr hp hp' fp fr => by obtain ⟨r1, t1⟩ := md.grow rr gr; exact po p vs g' H' r1 t1 hp hp' fp (md.new rr gr hp) fr
    | ex c fs => exact fun cls d g' H' gr x => by obtain ⟨r1, t1⟩ := md.grow rr gr; exact po cls d g' H' r1 t1 x
/-- never changed again -/
def xFzX (m : Xa) : Xm := fun ρ S => match m ρ S with
  | some (.ok xs, S') => some (.ok (.lst xs), S')
  | some (.ex c fs, S') => some (.ex c fs, S')
  | none => none
theorem x_fz {m : Xa} (h : SimXL X md W e m) : SimX X md W e (xFzX m) := by
  obtain ⟨t, p, r⟩ := h.ex
  refine ⟨t, p, fun σ H g S ρ Q res rr er hm po => ?_⟩
  unfold xFzX at hm
  split at hm
  · rename_i xs S' q
    cases hm
    refine r σ H g S ρ _ (.ok xs, S') rr er q fun p vs g' H' r1 t1 hp hp' fp fr f => ?_
    obtain ⟨r2, t2⟩ := md.rest t1 r1 hp' hp fp fr
    exact po _ _ H' r2 t2 (.frz (.lst (.inl upd_same) (FRs.mono (GLe.laid fp) _ _ f)))
  · rename_i c fs S' q
    cases hm
    exact r σ H g S ρ _ (.ex c fs, S') rr er q po
  · cases hm
/-- an object of the store from now on -/
def xShare (m : Xa) : Xm := fun ρ S => match m ρ S with
  | some (.ok xs, S') => some (.ok (.ref S'.length), S' ++ [.lst xs])
  | some (.ex c fs, S') => some (.ex c fs, S')
  | none => none
theorem RE.adopt {K : PySem.W.Frag} {g : G} {S : Store} {H : Hp} (r : RE K g S H) {g0 : G} {H0 : Hp} (t : TE' g0 H0 g H) {a : Addr} {o : SO} (h0 : H0 a = none) (hf : ∀ n, n < g.k → g.mu n ≠ a) (fa : g.F a = none) (new : SOw K (g.add a) H a o) :
    RE K (g.add a) (S ++ [o]) H ∧ TE' g0 H0 (g.add a) H ∧ FR K (g.add a) (.ref S.length) (.ref a) := by
  have le := g.add_le a
  have mu_old : ∀ n, n < g.k → (g.add a).mu n = g.mu n := le.m
  refine ⟨⟨r.f, by rw [List.length_append, List.length_singleton, r.k]; rfl, fun n ob q => ?_, fun n m h1 h2 e => ?_, fun n hn => ?_⟩, ⟨t.le.trans le, t.dom, t.keep, fun n h1 h2 => ?_, t.fz⟩, ?_⟩
  · by_cases hn : n < S.length
    · rw [List.getElem?_append_left hn] at q
      rw [mu_old n (by rw [← r.k]; exact hn)]
      exact (r.s n ob q).mono le fun o h => h
    · have hl : n < (S ++ [o]).length := (List.getElem?_eq_some_iff.mp q).1
      rw [List.length_append, List.length_singleton] at hl
      have e1 : n = S.length := by omega
      subst e1
      rw [List.getElem?_append_right (Nat.le_refl _), Nat.sub_self] at q
      cases q
      rw [r.k, G.add_mu]; exact new
  · have h1 : n < g.k + 1 := h1
    have h2 : m < g.k + 1 := h2
    by_cases e1 : n = g.k
    · by_cases e2 : m = g.k
      · rw [e1, e2]
      · rw [e1, G.add_mu, mu_old m (by omega)] at e
        exact absurd e.symm (hf m (by omega))
    · by_cases e2 : m = g.k
      · rw [e2, G.add_mu, mu_old n (by omega)] at e
        exact absurd e (hf n (by omega))
      · rw [mu_old n (by omega), mu_old m (by omega)] at e
        exact r.inj n m (by omega) (by omega) e
  · have hn : n < g.k + 1 := hn
    show g.F _ = none
    by_cases e1 : n = g.k
    · rw [e1, G.add_mu]; exact fa
    · rw [mu_old n (by omega)]; exact r.nf n (by omega)
  · have h2 : n < g.k + 1 := h2
    by_cases e1 : n = g.k
    · rw [e1, G.add_mu]; exact h0
    · rw [mu_old n (by omega)]; exact t.new n h1 (by omega)
  · have := FR.ref (K := K) (g := g.add a) (n := g.k) (Nat.lt_succ_self _)
    rw [G.add_mu] at this
    rw [r.k]; exact this
theorem x_share {m : Xa} (h : SimXL X (Em X.K) W e m) : SimX X (Em X.K) W e (xShare m) := by
  obtain ⟨t, p, r⟩ := h.ex
  refine ⟨t, p, fun σ H g S ρ Q res rr er hm po => ?_⟩
  unfold xShare at hm
  split at hm
  · rename_i xs S' q
    cases hm
    refine r σ H g S ρ _ (.ok xs, S') rr er q fun p vs g' H' r1 t1 hp hp' fp fr f => ?_
    obtain ⟨r2, t2, f2⟩ := RE.adopt r1 t1 (o := .lst xs) hp fr fp ⟨vs, hp', FRs.mono (g'.add_le p) _ _ f⟩
    exact po _ _ H' r2 t2 (.frz f2)
  · rename_i c fs S' q
    cases hm
    exact r σ H g S ρ _ (.ex c fs, S') rr er q po
  · cases hm
end
end L3

set_option Elab.async false
set_option linter.all false
set_option maxRecDepth 100000
set_option maxHeartbeats 4000000
namespace L3
open PySem PySem.Spec L2
set_option autoImplicit false

/-! ### order of data that are alike -/
def notN : PyData → Bool
  | .none => false
  | _ => true
def ordOk (x y : PV) : Bool := isD x && isD y && PySem.W.alike (toD x) (toD y) && notN (toD x) && decide (min (dep x) (dep y) ≤ 60)
def oOrd (f : PyData → PyData → Bool) : PV → PV → Option PV := fun x y => if ordOk x y then some (.bl (f (toD x) (toD y))) else none
def rOrd (K : PySem.W.Frag) (f : PyData → PyData → Bool) : R2 := fun x y H Q => ∃ d e, Dp K H x d ∧ Dp K H y e ∧ PySem.W.alike d e = true ∧ d ≠ .none ∧ min d.depth e.depth ≤ 60 ∧ Q (.bl (f d e)) H
theorem oOrd_ok {K : PySem.W.Frag} {f : PyData → PyData → Bool} : OpOk K (oOrd f) (rOrd K f) := by
  intro g S H x y z u v Q w hx hy e q
  unfold oOrd at e
  split at e
  · rename_i hc
    unfold ordOk at hc
    simp only [Bool.and_eq_true, decide_eq_true_eq] at hc
    obtain ⟨⟨⟨⟨h1, h2⟩, h3⟩, h4⟩, h5⟩ := hc
    cases e
    refine ⟨_, _, hx.dp w.f h1, hy.dp w.f h2, h3, fun z => ?_, ?_, q _ g H (.refl w) (.frz (.bl _))⟩
    · rw [z] at h4; cases h4
    · rw [depth_toD x h1, depth_toD y h2]; exact h5
  · cases e
abbrev fLt (d e : PyData) : Bool := PySem.W.dataLt d e
abbrev fGt (d e : PyData) : Bool := PySem.W.dataLt e d
abbrev fLe (d e : PyData) : Bool := !PySem.W.dataLt e d
abbrev fGe (d e : PyData) : Bool := !PySem.W.dataLt d e
section
variable {X : Cx}
theorem op_ltD (hu : X.A.units + 64 < cLine) : OpR X (compareOp .Lt) (rOrd X.K fLt) := by
  intro pins s σ H x y v u Q I rx ry h
  obtain ⟨d, e, hd, he, ha, hn, hm, q⟩ := h
  obtain ⟨as, r1⟩ := Dp.reads I d x v hd rx
  obtain ⟨bs, r2⟩ := Dp.reads I e y u he ry
  exact PySem.W.lt_data r1 r2 ha hn (by omega) ⟨.bl _, H, I, rfl, q⟩
theorem op_gtD (hu : X.A.units + 64 < cLine) : OpR X (compareOp .Gt) (rOrd X.K fGt) := by
  intro pins s σ H x y v u Q I rx ry h
  obtain ⟨d, e, hd, he, ha, hn, hm, q⟩ := h
  obtain ⟨as, r1⟩ := Dp.reads I d x v hd rx
  obtain ⟨bs, r2⟩ := Dp.reads I e y u he ry
  exact PySem.W.gt_data r1 r2 ha hn (by omega) ⟨.bl _, H, I, rfl, q⟩
theorem op_leD (hu : X.A.units + 64 < cLine) : OpR X (compareOp .LtE) (rOrd X.K fLe) := by
  intro pins s σ H x y v u Q I rx ry h
  obtain ⟨d, e, hd, he, ha, hn, hm, q⟩ := h
  obtain ⟨as, r1⟩ := Dp.reads I d x v hd rx
  obtain ⟨bs, r2⟩ := Dp.reads I e y u he ry
  exact PySem.W.le_data r1 r2 ha hn (by omega) ⟨.bl _, H, I, rfl, q⟩
theorem op_geD (hu : X.A.units + 64 < cLine) : OpR X (compareOp .GtE) (rOrd X.K fGe) := by
  intro pins s σ H x y v u Q I rx ry h
  obtain ⟨d, e, hd, he, ha, hn, hm, q⟩ := h
  obtain ⟨as, r1⟩ := Dp.reads I d x v hd rx
  obtain ⟨bs, r2⟩ := Dp.reads I e y u he ry
  exact PySem.W.ge_data r1 r2 ha hn (by omega) ⟨.bl _, H, I, rfl, q⟩
theorem OpR.or {α : Type} {f : Value → Value → Sem Value} {r r' : R2} (h : OpR X f r) (h' : OpR X f r') : OpR X f (fun x y H Q => r x y H Q ∨ r' x y H Q) := by
  intro pins s σ H x y v u Q I rx ry q
  rcases q with q | q
  · exact h pins s σ H x y v u Q I rx ry q
  · exact h' pins s σ H x y v u Q I rx ry q
end
def oLt : PV → PV → Option PV := oE oLtI (oOrd fLt)
def oLe : PV → PV → Option PV := oE oLeI (oOrd fLe)
def oGt : PV → PV → Option PV := oE oGtI (oOrd fGt)
def oGe : PV → PV → Option PV := oE oGeI (oOrd fGe)

/-! ### sorted -/
section
variable {α : Type}
def insP (le : α → α → Bool) (a : α) : List α → List α
  | [] => [a]
  | b :: l => if le a b then a :: b :: l else b :: insP le a l
def isrt (le : α → α → Bool) : List α → List α
  | [] => []
  | a :: l => insP le a (isrt le l)
theorem insP_app {le : α → α → Bool} {a : α} {l₂ : List α} (h2 : ∀ b, b ∈ l₂ → le a b = true) : ∀ l₁ : List α, (∀ b, b ∈ l₁ → (!le a b) = true) → insP le a (l₁ ++ l₂) = l₁ ++ a :: l₂
  | [], _ => by
    cases l₂ with
    | nil => rfl
    | cons b l => show (if le a b then _ else _) = _; rw [if_pos (h2 b List.mem_cons_self)]; rfl
  | b :: l, h => by
    have hb := h b List.mem_cons_self
    rw [Bool.not_eq_true'] at hb
    show (if le a b then a :: b :: (l ++ l₂) else b :: insP le a (l ++ l₂)) = _
    rw [hb, if_neg Bool.false_ne_true, insP_app h2 l fun c hc => h c (List.mem_cons_of_mem _ hc)]
    rfl
theorem isrt_eq {le : α → α → Bool} (trans : ∀ a b c, le a b = true → le b c = true → le a c = true) (total : ∀ a b, (le a b || le b a) = true) : ∀ l : List α, isrt le l = l.mergeSort le
  | [] => by simp [isrt]
  | a :: l => by
    obtain ⟨l₁, l₂, h1, h2, h3⟩ := List.mergeSort_cons trans total a l
    have s := List.pairwise_mergeSort trans total (a :: l)
    rw [h1] at s
    have s2 := (List.pairwise_append.mp s).2.1
    show insP le a (isrt le l) = _
    rw [isrt_eq trans total l, h2, h1]
    exact insP_app (fun b hb => (List.pairwise_cons.mp s2).1 b hb) l₁ h3
end
theorem dataLe_trans {β : Type} (k : β → PyData) (a b c : β) (h1 : PySem.W.dataLe false k a b = true) (h2 : PySem.W.dataLe false k b c = true) : PySem.W.dataLe false k a c = true := (PySem.W.sortLe_total (PyProof.Rows.listOrd PyProof.Rows.itemOrd) false fun b => PySem.W.keyToks (k b)).trans a b c h1 h2
theorem dataLe_total {β : Type} (k : β → PyData) (a b : β) : (PySem.W.dataLe false k a b || PySem.W.dataLe false k b a) = true := by
  have := (PySem.W.sortLe_total (PyProof.Rows.listOrd PyProof.Rows.itemOrd) false fun b => PySem.W.keyToks (k b)).total a b
  rw [Bool.or_eq_true]; exact this
def rSortedD (K : PySem.W.Frag) : List V → Hp → VK → Prop := fun vs H Q => ∃ (a : Addr) (ws : List (PV × V)), vs = [V.ref a] ∧ SqL K H a (ws.map (·.2)) ∧ (∀ p ∈ ws, Dp K H p.2 (toD p.1)) ∧ PySem.W.AllAlike (ws.map fun p => toD p.1) ∧ PySem.W.Sortable (ws.map fun p => toD p.1) ∧ (∀ p ∈ ws, (toD p.1).depth ≤ 60) ∧
  ∀ p, H p = none → Q (.ref p) (upd H p (.lst ((ws.mergeSort (PySem.W.dataLe false fun p => toD p.1)).map (·.2))))
section
variable {X : Cx}
theorem each_vals : ∀ {ws : List (PV × V)} {us : List Value}, Vals (ws.map (·.2)) us → PySem.W.EachIs (fun u (p : PV × V) => RelV p.2 u) us ws
  | [], us, h => by cases h; exact .nil
  | p :: ws, us, h => by
    cases h with
    | cons a b => exact .cons a (each_vals b)
theorem vals_each : ∀ {ws : List (PV × V)} {us : List Value}, PySem.W.EachIs (fun u (p : PV × V) => RelV p.2 u) us ws → Vals (ws.map (·.2)) us
  | _, _, .nil => .nil
  | _, _, .cons a b => .cons a (vals_each b)
theorem each_mem {α β : Type} {R R' : α → β → Prop} : ∀ {us : List α} {ws : List β}, PySem.W.EachIs R us ws → (∀ u p, p ∈ ws → R u p → R' u p) → PySem.W.EachIs R' us ws
  | _, _, .nil, _ => .nil
  | _, _, .cons a b, h => .cons (h _ _ List.mem_cons_self a) (each_mem b fun u p m r => h u p (List.mem_cons_of_mem _ m) r)
theorem cr_sortedD (hu : X.A.units + 64 < cLine) : CallR X (.builtin "sorted") (rSortedD X.K) := by
  intro pins s σ H vs us Q I r h
  obtain ⟨a, ws, rfl, hs, hd, ha, hk, hdep, q⟩ := h
  obtain ⟨its, rv, hl, hz⟩ := I.list hs
  rw [Vals.ref1 r]
  have e := each_vals rv
  refine PySem.W.sorted_data (vs := its) (bs := ws) (enc := fun p => toD p.1) (R := fun u p => RelV p.2 u) hl.isList e (each_mem e fun u p m r => Dp.reads I _ p.2 u (hd p m) r) ha hk (by rw [List.length_map] at hz; exact hz) (fun b hb => by have := hdep b hb; omega) fun out hlen eo => ?_
  obtain ⟨ep, he'⟩ := PyProof.Rows.sortedAll_at s.heap its out.toArray
  refine ⟨.ref _, upd H (s.heap.objs.size + 1) (.lst ((ws.mergeSort (PySem.W.dataLe false fun p => toD p.1)).map (·.2))), I.laid (t' := s.toks) (fun _ _ => PyProof.Rows.sortedAll_old) (Nat.le_succ _) ⟨?_, out, ep, vals_each eo, he'⟩, rfl, q _ (I.hok.fresh (Nat.le_succ _))⟩
  rw [List.length_map, List.length_mergeSort]
  rw [List.length_map] at hz
  exact hz
end
def allAl : List PyData → Bool
  | [] => true
  | d :: ds => PySem.W.alike d d && ds.all (fun e => PySem.W.alike d e && PySem.W.alike e d) && allAl ds
theorem allAl_ok : ∀ {ds : List PyData}, allAl ds = true → PySem.W.AllAlike ds
  | [], _ => fun d hd => by cases hd
  | d :: ds, h => by
    unfold allAl at h
    simp only [Bool.and_eq_true, List.all_eq_true] at h
    obtain ⟨⟨h0, h1⟩, h2⟩ := h
    have ih := allAl_ok h2
    intro x hx y hy
    rcases List.mem_cons.mp hx with ex | hx
    · rcases List.mem_cons.mp hy with ey | hy
      · rw [ex, ey]; exact h0
      · rw [ex]; exact (h1 y hy).1
    · rcases List.mem_cons.mp hy with ey | hy
      · rw [ey]; exact (h1 x hx).2
      · exact ih x hx y hy
def tupNe : PyData → Bool
  | .tuple (_ :: _) => true
  | _ => false
def othr : PyData → Bool
  | .tuple _ => false
  | .none => false
  | _ => true
def srtOk (ds : List PyData) : Bool := ds.all tupNe || ds.all othr
theorem srtOk_ok {ds : List PyData} (h : srtOk ds = true) : PySem.W.Sortable ds := by
  unfold srtOk at h
  rw [Bool.or_eq_true, List.all_eq_true, List.all_eq_true] at h
  rcases h with h | h
  · refine .inl fun d hd => ?_
    have := h d hd
    unfold tupNe at this
    split at this
    · exact ⟨_, _, rfl⟩
    · cases this
  · refine .inr fun d hd => ⟨fun z => ?_, fun xs z => ?_⟩
    · have := h d hd; rw [z] at this; cases this
    · have := h d hd; rw [z] at this; cases this
def srtP (xs : List PV) : List PV := isrt (PySem.W.dataLe false toD) xs
def bSorted : List PV → Option PV
  | [x] => match lsOf x with
    | some xs => if isDs xs && allAl (toDs xs) && srtOk (toDs xs) && decide (deps xs ≤ 60) then some (.lst (srtP xs)) else none
    | none => none
  | _ => none
theorem toDs_map : ∀ xs : List PV, toDs xs = xs.map toD
  | [] => rfl
  | x :: xs => by unfold toDs; rw [toDs_map xs]; rfl
theorem isDs_mem : ∀ {xs : List PV}, isDs xs = true → ∀ x ∈ xs, isD x = true
  | [], _, x, hx => by cases hx
  | y :: ys, h, x, hx => by
    unfold isDs at h
    rw [Bool.and_eq_true] at h
    rcases List.mem_cons.mp hx with rfl | hx
    · exact h.1
    · exact isDs_mem h.2 x hx
theorem deps_mem : ∀ {xs : List PV} {n : Nat}, deps xs ≤ n → ∀ x ∈ xs, dep x ≤ n
  | [], _, _, x, hx => by cases hx
  | y :: ys, n, h, x, hx => by
    unfold deps at h
    rcases List.mem_cons.mp hx with rfl | hx
    · omega
    · exact deps_mem (by omega) x hx
theorem FRs.zip {K : PySem.W.Frag} {g : G} : ∀ {xs : List PV} {vs : List V}, FRs K g xs vs → (xs.zip vs).map (·.1) = xs ∧ (xs.zip vs).map (·.2) = vs ∧ ∀ p ∈ xs.zip vs, FR K g p.1 p.2
  | _, _, .nil => ⟨rfl, rfl, fun p h => by cases h⟩
  | _, _, .cons a b => by
    obtain ⟨h1, h2, h3⟩ := FRs.zip b
    refine ⟨by simp [h1], by simp [h2], fun p hp => ?_⟩
    rw [List.zip_cons_cons] at hp
    rcases List.mem_cons.mp hp with rfl | hp
    · exact a
    · exact h3 p hp
theorem FRs.unzip {K : PySem.W.Frag} {g : G} : ∀ {ws : List (PV × V)}, (∀ p ∈ ws, FR K g p.1 p.2) → FRs K g (ws.map (·.1)) (ws.map (·.2))
  | [], _ => .nil
  | p :: ws, h => .cons (h p List.mem_cons_self) (FRs.unzip fun q hq => h q (List.mem_cons_of_mem _ hq))
theorem bSorted_ok {K : PySem.W.Frag} : CallOk K bSorted (rSortedD K) := by
  intro g S H xs z us Q w hx e q
  unfold bSorted at e
  split at e
  · rename_i x
    obtain ⟨u, rfl, hu⟩ := ovs1 hx
    split at e
    · rename_i ys e2
      split at e
      · rename_i hc
        simp only [Bool.and_eq_true, decide_eq_true_eq] at hc
        obtain ⟨⟨⟨c1, c2⟩, c3⟩, c4⟩ := hc
        cases e
        obtain ⟨a, vs, rfl, r, f⟩ := lsOf_ok w hu e2
        obtain ⟨z1, z2, z3⟩ := FRs.zip f
        have mem : ∀ p ∈ ys.zip vs, p.1 ∈ ys := fun p hp => (List.of_mem_zip (a := p.1) (b := p.2) hp).1
        have e3 : (ys.zip vs).map (fun p => toD p.1) = toDs ys := by
          rw [toDs_map]
          conv => rhs; rw [← z1]
          rw [List.map_map]; rfl
        have hso : (ys.zip vs).mergeSort (PySem.W.dataLe false fun p => toD p.1) = isrt (PySem.W.dataLe false fun p : PV × V => toD p.1) (ys.zip vs) := (isrt_eq (dataLe_trans _) (dataLe_total _) _).symm
        have h1 : ((ys.zip vs).mergeSort (PySem.W.dataLe false fun p => toD p.1)).map (·.1) = srtP ys := by
          unfold srtP
          rw [isrt_eq (dataLe_trans toD) (dataLe_total toD)]
          refine (List.map_mergeSort (r := PySem.W.dataLe false fun p : PV × V => toD p.1) (f := fun x : PV × V => x.1) (l := ys.zip vs) (s := PySem.W.dataLe false toD) (fun _ _ _ _ => rfl)).trans ?_
          rw [z1]
        refine ⟨a, ys.zip vs, rfl, by rw [z2]; exact .inl r, fun p hp => FR.dp w.f _ _ (z3 p hp) (isDs_mem c1 _ (mem p hp)), by rw [e3]; exact allAl_ok c2, by rw [e3]; exact srtOk_ok c3, fun p hp => ?_, fun p hp => ?_⟩
        · rw [depth_toD _ (isDs_mem c1 _ (mem p hp))]
          exact deps_mem c4 _ (mem p hp)
        · have fr : FRs K g (srtP ys) (((ys.zip vs).mergeSort (PySem.W.dataLe false fun p => toD p.1)).map (·.2)) := by
            rw [← h1]
            exact FRs.unzip fun p hp => z3 p (List.mem_mergeSort.mp hp)
          obtain ⟨gr, f2⟩ := new_lst w hp fr
          exact q _ _ _ gr (.frz f2)
      · cases e
    · cases e
  · cases e

/-! ### min and max of a list -/
mutual
def noK : PV → Bool
  | .kl _ => false
  | .tup xs => noKs xs
  | .lst xs => noKs xs
  | _ => true
def noKs : List PV → Bool
  | [] => true
  | x :: xs => noK x && noKs xs
end
mutual
theorem FR.inj {K : PySem.W.Frag} {g g' : G} : ∀ (x y : PV) (v u : V), FR K g x v → FR K g' y u → isD x = true → isD y = true → noK x = true → noK y = true → toD x = toD y → x = y
  | .non, y, v, u, f, f', h, h', n, n', e => by cases f' <;> first | rfl | (simp only [toD] at e; cases e) | (simp only [isD] at h'; cases h'; done) | (simp only [noK] at n'; cases n')
  | .bl b, y, v, u, f, f', h, h', n, n', e => by cases f' <;> first | (simp only [toD] at e; cases e; done) | (simp only [toD] at e; cases e; rfl) | (simp only [isD] at h'; cases h'; done) | (simp only [noK] at n'; cases n')
  | .int b, y, v, u, f, f', h, h', n, n', e => by cases f' <;> first | (simp only [toD] at e; cases e; done) | (simp only [toD] at e; cases e; rfl) | (simp only [isD] at h'; cases h'; done) | (simp only [noK] at n'; cases n')
  | .str b, y, v, u, f, f', h, h', n, n', e => by cases f' <;> first | (simp only [toD] at e; cases e; done) | (simp only [toD] at e; cases e; rfl) | (simp only [isD] at h'; cases h'; done) | (simp only [noK] at n'; cases n')
  | .ty b, y, v, u, f, f', h, h', n, n', e => by simp only [isD] at h; cases h
  | .kl b, y, v, u, f, f', h, h', n, n', e => by simp only [noK] at n; cases n
  | .ref b, y, v, u, f, f', h, h', n, n', e => by simp only [isD] at h; cases h
  | .dct b, y, v, u, f, f', h, h', n, n', e => by simp only [isD] at h; cases h
  | .ol b, y, v, u, f, f', h, h', n, n', e => by cases f
  | .od b, y, v, u, f, f', h, h', n, n', e => by cases f
  | .tup xs, y, v, u, f, f', h, h', n, n', e => by
    cases f with
    | tup s f =>
      cases f' with
      | tup s' f' =>
        simp only [toD, PyData.tuple.injEq] at e
        simp only [isD] at h h'
        simp only [noK] at n n'
        rw [FRs.inj _ _ _ _ f f' h h' n n' e]
      | _ => first | (simp only [toD] at e; cases e; done) | (simp only [isD] at h'; cases h'; done) | (simp only [noK] at n'; cases n')
  | .lst xs, y, v, u, f, f', h, h', n, n', e => by
    cases f with
    | lst s f =>
      cases f' with
      | lst s' f' =>
        simp only [toD, PyData.list.injEq] at e
        simp only [isD] at h h'
        simp only [noK] at n n'
        rw [FRs.inj _ _ _ _ f f' h h' n n' e]
      | _ => first | (simp only [toD] at e; cases e; done) | (simp only [isD] at h'; cases h'; done) | (simp only [noK] at n'; cases n')
theorem FRs.inj {K : PySem.W.Frag} {g g' : G} : ∀ (x y : List PV) (v u : List V), FRs K g x v → FRs K g' y u → isDs x = true → isDs y = true → noKs x = true → noKs y = true → toDs x = toDs y → x = y
  | [], y, v, u, f, f', h, h', n, n', e => by
    cases f' with
    | nil => rfl
    | cons a b => simp only [toDs] at e; cases e
  | x :: xs, y, v, u, f, f', h, h', n, n', e => by
    cases f with
    | cons a b =>
      cases f' with
      | nil => simp only [toDs] at e; cases e
      | cons a' b' =>
        simp only [toDs, List.cons.injEq] at e
        simp only [isDs, Bool.and_eq_true] at h h'
        simp only [noKs, Bool.and_eq_true] at n n'
        rw [FR.inj _ _ _ _ a a' h.1 h'.1 n.1 n'.1 e.1, FRs.inj _ _ _ _ b b' h.2 h'.2 n.2 n'.2 e.2]
end
end L3

set_option Elab.async false
set_option linter.all false
set_option maxRecDepth 100000
set_option maxHeartbeats 4000000
namespace L3
open PySem PySem.Spec L2
set_option autoImplicit false

/-! ### min, max of a list of data -/
def rBest (K : PySem.W.Frag) (best : PyData → List PyData → PyData) : List V → Hp → VK → Prop := fun vs H Q => ∃ (a : Addr) (w0 : PV × V) (ws : List (PV × V)), vs = [V.ref a] ∧ SqL K H a ((w0 :: ws).map (·.2)) ∧ (∀ p ∈ w0 :: ws, Dp K H p.2 (toD p.1)) ∧ PySem.W.AlikeAll (toD w0.1 :: ws.map fun p => toD p.1) ∧ PyData.depthAll (toD w0.1 :: ws.map fun p => toD p.1) ≤ 60 ∧
  ∀ p, p ∈ w0 :: ws → toD p.1 = best (toD w0.1) (ws.map fun p => toD p.1) → Q p.2 H
section
variable {X : Cx}
theorem reads_all {h : Heap} : ∀ {us : List Value} {ws : List (PV × V)}, PySem.W.EachIs (fun u (p : PV × V) => ∃ as, Reads h u (toD p.1) as) us ws → ∃ as, ReadsAll h us (ws.map fun p => toD p.1) as
  | _, _, .nil => ⟨_, .nil⟩
  | _, _, .cons ⟨as, a⟩ b => by obtain ⟨bs, q⟩ := reads_all b; exact ⟨_, .cons a q⟩
theorem each_at {α β : Type} {R : α → β → Prop} : ∀ {us : List α} {ws : List β}, PySem.W.EachIs R us ws → ∀ {i : Nat} {u : α}, us[i]? = some u → ∃ p, ws[i]? = some p ∧ R u p
  | _, _, .nil, i, u, h => by cases h
  | _, _, .cons a b, 0, u, h => by cases h; exact ⟨_, rfl, a⟩
  | _, _, .cons a b, i + 1, u, h => each_at b h
theorem best_run {pins : List (Addr × Obj)} {s : Shared} {σ : St} {H : Hp} {Q : VK} {its : List Value} {w0 : PV × V} {ws : List (PV × V)} {d : PyData} (I : Inv X pins σ H s) (rv : Vals ((w0 :: ws).map (·.2)) its) (hd : ∀ p ∈ w0 :: ws, Dp X.K H p.2 (toD p.1))
    (q : ∀ p, p ∈ w0 :: ws → toD p.1 = d → Q p.2 H) (i : Nat) (v : Value) (h' : Heap) (tk : Nat) (bs : List Addr) (hv : its.toArray[i]? = some v) (hr : Reads h' v d bs) (hk : ∀ b o, s.heap.get? b = some o → h'.get? b = some o) : EP X pins σ Q v { s with heap := h', toks := tk } := by
  have e := each_vals rv
  have hv' : its[i]? = some v := by simpa using hv
  obtain ⟨p, hp, r⟩ := each_at e hv'
  have hm : p ∈ w0 :: ws := List.mem_of_getElem? hp
  obtain ⟨as, r2⟩ := Dp.reads I _ p.2 v (hd p hm) r
  obtain ⟨e2, _⟩ := PyProof.Rows.reads_det (fun b o h _ => hk b o h) r2 hr
  exact ⟨p.2, H, I.kept (t' := tk) hk, r, q p hm e2.symm⟩
theorem cr_minD (hc : X.calm = true) (hu : X.A.units + 64 < cLine) : CallR X (.builtin "min") (rBest X.K PySem.W.minD) := by
  intro pins s σ H vs us Q I r h
  obtain ⟨a, w0, ws, rfl, hs, hd, ha, hdep, q⟩ := h
  obtain ⟨its, rv, hl, hz⟩ := I.list hs
  rw [Vals.ref1 r]
  have e := each_vals rv
  obtain ⟨as, ra⟩ := reads_all (each_mem e fun u p m r => Dp.reads I _ p.2 u (hd p m) r)
  exact PySem.W.min_list_data (I.ok.hd hc) hl.isList ra ha (Nat.lt_of_le_of_lt (Nat.add_le_add_left hdep _) (by omega)) (best_run I rv hd q)
theorem cr_maxD (hc : X.calm = true) (hu : X.A.units + 64 < cLine) : CallR X (.builtin "max") (rBest X.K PySem.W.maxD) := by
  intro pins s σ H vs us Q I r h
  obtain ⟨a, w0, ws, rfl, hs, hd, ha, hdep, q⟩ := h
  obtain ⟨its, rv, hl, hz⟩ := I.list hs
  rw [Vals.ref1 r]
  have e := each_vals rv
  obtain ⟨as, ra⟩ := reads_all (each_mem e fun u p m r => Dp.reads I _ p.2 u (hd p m) r)
  exact PySem.W.max_list_data (I.ok.hd hc) hl.isList ra ha (Nat.lt_of_le_of_lt (Nat.add_le_add_left hdep _) (by omega)) (best_run I rv hd q)
end
def minP (x : PV) (xs : List PV) : PV := xs.foldl (fun a y => if PySem.W.dataLt (toD y) (toD a) then y else a) x
def maxP (x : PV) (xs : List PV) : PV := xs.foldl (fun a y => if PySem.W.dataLt (toD a) (toD y) then y else a) x
theorem minP_toD : ∀ (xs : List PV) (x : PV), toD (minP x xs) = PySem.W.minD (toD x) (xs.map toD)
  | [], x => rfl
  | y :: ys, x => by
    show toD (minP (if PySem.W.dataLt (toD y) (toD x) then y else x) ys) = PySem.W.minD (if PySem.W.dataLt (toD y) (toD x) then toD y else toD x) (ys.map toD)
    rw [minP_toD ys]
    split <;> rfl
theorem maxP_toD : ∀ (xs : List PV) (x : PV), toD (maxP x xs) = PySem.W.maxD (toD x) (xs.map toD)
  | [], x => rfl
  | y :: ys, x => by
    show toD (maxP (if PySem.W.dataLt (toD x) (toD y) then y else x) ys) = PySem.W.maxD (if PySem.W.dataLt (toD x) (toD y) then toD y else toD x) (ys.map toD)
    rw [maxP_toD ys]
    split <;> rfl
theorem minP_mem : ∀ (xs : List PV) (x : PV), minP x xs ∈ x :: xs
  | [], x => List.mem_cons_self
  | y :: ys, x => by
    show minP (if PySem.W.dataLt (toD y) (toD x) then y else x) ys ∈ _
    rcases List.mem_cons.mp (minP_mem ys (if PySem.W.dataLt (toD y) (toD x) then y else x)) with h | h
    · rw [h]; split <;> simp
    · simp [h]
theorem maxP_mem : ∀ (xs : List PV) (x : PV), maxP x xs ∈ x :: xs
  | [], x => List.mem_cons_self
  | y :: ys, x => by
    show maxP (if PySem.W.dataLt (toD x) (toD y) then y else x) ys ∈ _
    rcases List.mem_cons.mp (maxP_mem ys (if PySem.W.dataLt (toD x) (toD y) then y else x)) with h | h
    · rw [h]; split <;> simp
    · simp [h]
theorem depsAll : ∀ xs : List PV, isDs xs = true → PyData.depthAll (xs.map toD) = deps xs := fun xs h => by rw [← toDs_map]; exact depth_toDs xs h
theorem noKs_mem : ∀ {xs : List PV}, noKs xs = true → ∀ x ∈ xs, noK x = true
  | [], _, x, hx => by cases hx
  | y :: ys, h, x, hx => by
    unfold noKs at h
    rw [Bool.and_eq_true] at h
    rcases List.mem_cons.mp hx with rfl | hx
    · exact h.1
    · exact noKs_mem h.2 x hx
def bBest (f : PV → List PV → PV) : List PV → Option PV
  | [x] => match lsOf x with
    | some (y :: ys) => if isDs (y :: ys) && allAl (toDs (y :: ys)) && (toDs (y :: ys)).all notN && decide (deps (y :: ys) ≤ 60) && noKs (y :: ys) then some (f y ys) else none
    | _ => none
  | _ => none
theorem bBest_ok {K : PySem.W.Frag} {f : PV → List PV → PV} {best : PyData → List PyData → PyData} (h1 : ∀ xs x, toD (f x xs) = best (toD x) (xs.map toD)) (h2 : ∀ xs x, f x xs ∈ x :: xs) : CallOk K (bBest f) (rBest K best) := by
  intro g S H xs z us Q w hx e q
  unfold bBest at e
  split at e
  · rename_i x
    obtain ⟨u, rfl, hu⟩ := ovs1 hx
    split at e
    · rename_i y ys e2
      split at e
      · rename_i hc
        simp only [Bool.and_eq_true, decide_eq_true_eq] at hc
        obtain ⟨⟨⟨⟨c1, c2⟩, c3⟩, c4⟩, c5⟩ := hc
        cases e
        obtain ⟨a, vs, rfl, r, f0⟩ := lsOf_ok w hu e2
        cases f0 with
        | @cons _ _ v vs fa fb =>
          obtain ⟨z1, z2, z3⟩ := FRs.zip fb
          have hall : ∀ p ∈ (y, v) :: ys.zip vs, FR K g p.1 p.2 := fun p hp => by
            rcases List.mem_cons.mp hp with e | hp
            · rw [e]; exact fa
            · exact z3 p hp
          have hmem : ∀ p ∈ (y, v) :: ys.zip vs, p.1 ∈ y :: ys := fun p hp => by
            rcases List.mem_cons.mp hp with e | hp
            · rw [e]; exact List.mem_cons_self
            · exact List.mem_cons_of_mem _ (List.of_mem_zip (a := p.1) (b := p.2) hp).1
          have e3 : (ys.zip vs).map (fun p => toD p.1) = ys.map toD := by
            conv => rhs; rw [← z1]
            rw [List.map_map]; rfl
          refine ⟨a, (y, v), ys.zip vs, rfl, .inl (by rw [List.map_cons, z2]; exact r), fun p hp => FR.dp w.f _ _ (hall p hp) (isDs_mem c1 _ (hmem p hp)), ?_, ?_, fun p hp ep => ?_⟩
          · rw [e3]
            have c2 := allAl_ok c2
            rw [toDs_map] at c2 c3
            refine ⟨fun d hd d' hd' => c2 d hd d' hd', fun d hd z => ?_⟩
            have := List.all_eq_true.mp c3 d hd
            rw [z] at this; cases this
          · rw [e3]
            have := depsAll (y :: ys) c1
            rw [List.map_cons] at this
            rw [this]; exact c4
          · rw [e3, ← h1] at ep
            have fm := h2 ys y
            obtain ⟨w0, w1⟩ : ∃ u, (f y ys, u) ∈ (y, v) :: ys.zip vs := by
              rcases List.mem_cons.mp fm with e | hm
              · exact ⟨v, by rw [e]; exact List.mem_cons_self⟩
              · have hm2 : f y ys ∈ (ys.zip vs).map (·.1) := z1.symm ▸ hm
                obtain ⟨pp, hpp, epp⟩ := List.mem_map.mp hm2
                exact ⟨pp.2, by rw [← epp]; exact List.mem_cons_of_mem _ hpp⟩
            have e4 := FR.inj _ _ _ _ (hall p hp) (hall _ w1) (isDs_mem c1 _ (hmem p hp)) (isDs_mem c1 _ fm) (noKs_mem c5 _ (hmem p hp)) (noKs_mem c5 _ fm) ep
            have e5 : p.1 = f y ys := e4
            exact q _ g H (.refl w) (.frz (by rw [← e5]; exact hall p hp))
      · cases e
    · cases e
  · cases e
def bMin1 : List PV → Option PV := bBest minP
def bMax1 : List PV → Option PV := bBest maxP
theorem bMin1_ok {K : PySem.W.Frag} : CallOk K bMin1 (rBest K PySem.W.minD) := bBest_ok minP_toD minP_mem
theorem bMax1_ok {K : PySem.W.Frag} : CallOk K bMax1 (rBest K PySem.W.maxD) := bBest_ok maxP_toD maxP_mem
def bMin2 : List PV → Option PV
  | [.int i, .int j] => some (.int (if j < i then j else i))
  | _ => none
def bMax2 : List PV → Option PV
  | [.int i, .int j] => some (.int (if j > i then j else i))
  | _ => none
theorem bMin2_ok {K : PySem.W.Frag} : CallOk K bMin2 (fun xs H Q => ∃ i j, xs = [.int i, .int j] ∧ Q (.int (if j < i then j else i)) H) := by
  intro g S H xs z us Q w hx e q
  unfold bMin2 at e
  split at e
  · obtain ⟨u, v, rfl, h1, h2⟩ := ovs2 hx
    cases e; cases h1.fr rfl; cases h2.fr rfl
    exact ⟨_, _, rfl, q _ g H (.refl w) (.frz (.int _))⟩
  · cases e
theorem bMax2_ok {K : PySem.W.Frag} : CallOk K bMax2 (fun xs H Q => ∃ i j, xs = [.int i, .int j] ∧ Q (.int (if j > i then j else i)) H) := by
  intro g S H xs z us Q w hx e q
  unfold bMax2 at e
  split at e
  · obtain ⟨u, v, rfl, h1, h2⟩ := ovs2 hx
    cases e; cases h1.fr rfl; cases h2.fr rfl
    exact ⟨_, _, rfl, q _ g H (.refl w) (.frz (.int _))⟩
  · cases e

/-! ### isinstance of a built-in type -/
inductive Kd where
  | int | bool | str | tuple | list | dict
def Kd.nm : Kd → String
  | .int => "int" | .bool => "bool" | .str => "str" | .tuple => "tuple" | .list => "list" | .dict => "dict"
def isKd : Kd → PV → Option Bool
  | k, .non => some false
  | k, .bl _ => match k with | .int => some true | .bool => some true | _ => some false
  | k, .int _ => match k with | .int => some true | _ => some false
  | k, .str _ => match k with | .str => some true | _ => some false
  | k, .tup _ => match k with | .tuple => some true | _ => some false
  | k, .lst _ => match k with | .list => some true | _ => some false
  | k, .ol _ => match k with | .list => some true | _ => some false
  | k, .kl _ => match k with | .list => some true | _ => some false
  | k, .dct _ => match k with | .dict => some true | _ => some false
  | k, .od _ => match k with | .dict => some true | _ => some false
  | _, _ => none
def oIsi (k : Kd) : PV → PV → Option PV := fun x _ => (isKd k x).map .bl
theorem tyx_lst {K : PySem.W.Frag} {H : Hp} {a : Addr} {vs : List V} (r : Rd H a (.lst vs)) : TyX K H (.ref a) (.type "list") := by
  rcases r with r | ⟨o, r⟩
  · exact .base (.lst r)
  · exact .base (.frz r)
theorem tyx_lstS {K : PySem.W.Frag} {H : Hp} {a : Addr} {vs : List V} (r : SqL K H a vs) : TyX K H (.ref a) (.type "list") := by
  rcases r with r | r
  · exact tyx_lst r
  · obtain ⟨o, _, _, ho, hc, _⟩ := r
    exact .kList ho hc
theorem tyx_dct {K : PySem.W.Frag} {H : Hp} {a : Addr} {vs : List (Key × V)} (r : Rd H a (.dK vs)) : TyX K H (.ref a) (.type "dict") := by
  rcases r with r | ⟨o, r⟩
  · exact .base (.dK r)
  · exact .fDict r
theorem tyx_tup {K : PySem.W.Frag} {H : Hp} {a : Addr} {vs : List V} (r : SqT K H a vs) : TyX K H (.ref a) (.type "tuple") := by
  rcases r with (r | ⟨o, r⟩) | r
  · exact .base (.tup r)
  · exact .fTuple r
  · obtain ⟨o, _, _, ho, hc, _⟩ := r
    exact .kTuple ho hc
theorem kit_dec {K : PySem.W.Frag} {a b : String} {r : Bool} (h : kitB a b = some r) : PySem.W.kitOne K (.type a) (.type b) = some r := kit_ty h
/-- the type of a value that isinstance asks -/
def tyN : PV → Option String
  | .non => some "NoneType" | .bl _ => some "bool" | .int _ => some "int" | .str _ => some "str" | .tup _ => some "tuple" | .lst _ => some "list" | .ol _ => some "list" | .kl _ => some "list" | .dct _ => some "dict" | .od _ => some "dict"
  | _ => none
theorem tyN_ok {K : PySem.W.Frag} {g : G} {S : Store} {H : Hp} {x : PV} {u : V} {t : String} (w : WR K g S H) (h : OV K g H x u) (e : tyN x = some t) : TyX K H u (.type t) := by
  cases h with
  | ol r f => cases e; exact tyx_lst r
  | od r f => cases e; exact tyx_dct r
  | frz f =>
    cases f with
    | non => cases e; exact .base .non
    | bl b => cases e; exact .base (.bl b)
    | int b => cases e; exact .base (.int b)
    | str b => cases e; exact .base (.str b)
    | tup s f => cases e; exact tyx_tup (w.f.sqT s)
    | lst s f => cases e; exact tyx_lst (w.f _ _ s)
    | dct s f => cases e; exact tyx_dct (w.f _ _ s)
    | kl s f => cases e; exact tyx_lstS (w.f.sqL s)
    | ty n => cases e
    | ref n => cases e
theorem kd_ty (k : Kd) : ∀ (x : PV) (b : Bool), isKd k x = some b → ∃ t, tyN x = some t ∧ kitB t k.nm = some b
  | .non, b, h => ⟨_, rfl, by cases k <;> cases h <;> decide +kernel⟩
  | .bl _, b, h => ⟨_, rfl, by cases k <;> cases h <;> decide +kernel⟩
  | .int _, b, h => ⟨_, rfl, by cases k <;> cases h <;> decide +kernel⟩
  | .str _, b, h => ⟨_, rfl, by cases k <;> cases h <;> decide +kernel⟩
  | .tup _, b, h => ⟨_, rfl, by cases k <;> cases h <;> decide +kernel⟩
  | .lst _, b, h => ⟨_, rfl, by cases k <;> cases h <;> decide +kernel⟩
  | .ol _, b, h => ⟨_, rfl, by cases k <;> cases h <;> decide +kernel⟩
  | .kl _, b, h => ⟨_, rfl, by cases k <;> cases h <;> decide +kernel⟩
  | .dct _, b, h => ⟨_, rfl, by cases k <;> cases h <;> decide +kernel⟩
  | .od _, b, h => ⟨_, rfl, by cases k <;> cases h <;> decide +kernel⟩
  | .ty _, b, h => by cases k <;> cases h
  | .ref _, b, h => by cases k <;> cases h
def bIsiN (k : Kd) : List PV → Option PV
  | [x, .ty n] => if n = k.nm then (isKd k x).map .bl else none
  | _ => none
def xIsi (k : Kd) (m : Ex) : Ex := fun ρ S => mb (m ρ S) fun x => mo ((isKd k x).map .bl)
section
variable {X : Cx} {W : WX} {a : Expr} {pos p p2 : Pos}
theorem e_isi {k : Kd} {m : Ex} {T : Str} (hT : bootBuiltins T = some (.type k.nm)) (hg : Gl X "isinstance") (hm : X.mg "isinstance" = none) (hgT : Gl X T) (hmT : X.mg T = none) (ha : SimE X W a m) (hn : T ≠ "__name__" := by decide) (hdT : (T == ("__debug__" : Str)) = false := by decide)
    (hs : starEach [a, .Name T p2] X.env = (false, eval a X.env) :: starEach [.Name T p2] X.env := by rfl) (hs2 : starEach [.Name T p2] X.env = (false, eval (.Name T p2) X.env) :: starEach [] X.env := by rfl) (hpl : (backTo pos (starEach [.Name T p2] X.env)).any (·.1) = false := by rfl) :
    SimE X W (.Call (.Name "isinstance" p) [a, .Name T p2] [] pos) (xIsi k m) := by
  have h1 : SimA X W [a, .Name T p2] (aCons m (aCons (xC (.ty k.nm)) aNil)) := a_cons ha (a_cons (e_ty hgT hmT hT hn hdT) a_nil hs2) hs
  have hk : CallOk X.K (bIsiN k) (rIsi X.K) := by
    intro g S H xs z us Q w hx e q
    unfold bIsiN at e
    split at e
    · rename_i x n
      obtain ⟨u, v, rfl, hu, hv⟩ := ovs2 hx
      split at e
      · rename_i hn
        subst hn
        cases e2 : isKd k x with
        | none => rw [e2] at e; cases e
        | some b =>
          rw [e2] at e
          have e3 : z = .bl b := (Option.some.inj e).symm
          subst e3
          cases hv.fr rfl
          obtain ⟨t, ht, hb⟩ := kd_ty k x b e2
          exact ⟨u, _, .type t, .type k.nm, b, rfl, .ty _, tyN_ok w hu ht, kit_ty hb, q _ g H (.refl w) (.frz (.bl b))⟩
      · cases e
    · cases e
  have h2 := e_callB (id := "isinstance") (pos := pos) (p := p) (x := "isinstance") call_isi hk hg hm (by decide +kernel) h1 (by decide) (by decide) hs hpl
  obtain ⟨t, pt, rt⟩ := h2.ex
  refine ⟨t, pt, fun σ H g S ρ Q res w er hm po => rt σ H g S ρ Q res w er ?_ po⟩
  rw [← hm]
  unfold xCall xIsi aCons xC aNil mb
  cases m ρ S with
  | none => rfl
  | some z =>
    cases z with
    | ok x => show mo (if k.nm = k.nm then (isKd k x).map PV.bl else none) = _; rw [if_pos rfl]
    | ex c fs => rfl
end
end L3

set_option Elab.async false
set_option linter.all false
set_option maxRecDepth 100000
set_option maxHeartbeats 4000000
namespace L3
open PySem PySem.Spec L2
set_option autoImplicit false

/-! ### slices -/
def cutP {α : Type} (xs : List α) (lo hi : Option Int) : List α := (xs.drop (HT.sIx xs.length 0 lo)).take (HT.sIx xs.length xs.length hi - HT.sIx xs.length 0 lo)
theorem FRs.cut {K : PySem.W.Frag} {g : G} {xs : List PV} {vs : List V} (f : FRs K g xs vs) (lo hi : Option Int) : FRs K g (cutP xs lo hi) (cutV vs lo hi) := by
  unfold cutP cutV
  rw [f.length]
  exact (f.drop _).take _
def slP (lo hi : Option Int) : PV → Option PV
  | .str z => if decide (z.length ≤ most) then some (.str (cutS z lo hi)) else none
  | .tup xs => some (.tup (cutP xs lo hi))
  | .lst xs => some (.lst (cutP xs lo hi))
  | .ol xs => some (.lst (cutP xs lo hi))
  | .kl xs => some (.lst (cutP xs lo hi))
  | _ => none
abbrev rSlP (K : PySem.W.Frag) : V → Option Int → Option Int → Hp → VK → Prop := fun x lo hi H Q => rSlA K x lo hi H Q ∨ (rSlL K x lo hi H Q ∨ rSlS x lo hi H Q)
theorem slP_ok {K : PySem.W.Frag} {g : G} {S : Store} {H : Hp} {x z : PV} {u : V} {Q : VK} {lo hi : Option Int} (w : WR K g S H) (hx : OV K g H x u) (e : slP lo hi x = some z) (q : ∀ v g' H', Grow g H g' H' → OV K g' H' z v → Q v H') : rSlP K u lo hi H Q := by
  have fl : ∀ {xs : List PV} {a : Addr} {vs : List V}, SqL K H a vs → FRs K g xs vs → (∀ v g' H', Grow g H g' H' → OV K g' H' (.lst (cutP xs lo hi)) v → Q v H') → rSlP K (.ref a) lo hi H Q := fun {xs a vs} r f q => by
    refine .inr (.inl ⟨a, vs, rfl, r, fun p hp => ?_⟩)
    obtain ⟨gr, f2⟩ := new_lst w hp (f.cut lo hi)
    exact q _ _ _ gr (.frz f2)
  cases x with
  | str y =>
    replace e : (if decide (y.length ≤ most) then some (PV.str (cutS y lo hi)) else none) = some z := e
    split at e
    · rename_i hc
      cases e
      cases hx.fr rfl
      exact .inr (.inr ⟨_, rfl, Nat.le_trans (of_decide_eq_true hc) most_le, q _ g H (.refl w) (.frz (.str _))⟩)
    · cases e
  | tup xs =>
    cases e
    cases hx.fr rfl with
    | @tup a _ vs s f =>
      refine .inl ⟨a, vs, rfl, w.f.sqT s, fun hw => ?_, fun _ p hp => ?_⟩
      · have e2 : cutP xs lo hi = xs := by
          unfold cutP
          rw [f.length, hw.1, hw.2, List.drop_zero, ← f.length, Nat.sub_zero, List.take_length]
        rw [e2] at q
        exact q _ g H (.refl w) (.frz (.tup s f))
      · obtain ⟨gr, f2⟩ := new_tup w hp (f.cut lo hi)
        exact q _ _ _ gr (.frz f2)
  | lst xs =>
    cases e
    obtain ⟨a, vs, rfl, r, f⟩ := hx.list w (.inl rfl)
    exact fl (.inl r) f q
  | ol xs =>
    cases e
    obtain ⟨a, vs, rfl, r, f⟩ := hx.list w (.inr rfl)
    exact fl (.inl r) f q
  | kl xs =>
    cases e
    cases hx.fr rfl with
    | kl s f => exact fl (w.f.sqL s) f q
  | _ => cases e
section
variable {X : Cx} {md : Md X.K} {W : WX} {a b e lo hi : Expr} {pos p p2 p3 : Pos}
theorem sl_P : L2.SlR X (rSlP X.K) := L2.SlR.or sl_tupA (L2.SlR.or sl_list sl_str)
/-- a part of a slice -/
abbrev Oe := Env → Store → M (Option Int)
structure SimO (X : Cx) (W : WX) (e : Option Expr) (m : Oe) : Prop where
  ex : ∃ t : TO, PO X e t ∧ Rch X.K (fun _ _ r v => r = v) W t m
def oNone : Oe := fun _ _ => some (.ok none)
def oSome (m : Ex) : Oe := fun ρ S => mb (m ρ S) fun x => match x with
  | .int i => some (.ok (some i))
  | _ => none
theorem o_none : SimO X W none oNone := ⟨_, po_none, fun σ H g S ρ Q r w er hm po => by cases hm; exact po _ g H (.refl w) rfl⟩
theorem o_some {m : Ex} (h : SimE X W e m) : SimO X W (some e) (oSome m) := by
  obtain ⟨t, p, r⟩ := h.ex
  refine ⟨_, po_some p, ?_⟩
  refine Rch.bind (R' := fun _ _ r v => r = v) (k := fun x _ _ => match x with
    | .int i => some (.ok (some i))
    | _ => none) (tk := fun x σ H1 Q => ∃ i, x = .int i ∧ Q (some i) H1) r fun x u σ H g S ρ Q res w er hx hm po => ?_
  split at hm
  · cases hm
    cases hx.fr rfl
    exact ⟨_, rfl, po _ g H (.refl w) rfl⟩
  · cases hm
def xSl (m : Ex) (l h : Oe) : Ex := fun ρ S => mb (m ρ S) fun x => mb (l ρ S) fun i => mb (h ρ S) fun j => mo (slP i j x)
theorem e_sl {lo hi : Option Expr} {m : Ex} {l h : Oe} (he : SimE X W e m) (hl : SimO X W lo l) (hh : SimO X W hi h) : SimE X W (.Subscript e (.Slice lo hi none p2) pos) (xSl m l h) := by
  obtain ⟨t, pt, rt⟩ := he.ex
  obtain ⟨t1, p1, r1⟩ := hl.ex
  obtain ⟨t2, p2, r2⟩ := hh.ex
  refine ⟨_, pe_slice sl_P pt p1 p2, ?_⟩
  refine Rch.bind (R' := RV X.K) (k := fun x ρ S => mb (l ρ S) fun i => mb (h ρ S) fun j => mo (slP i j x)) (tk := fun x σ H1 Q => t1 σ H1 fun l H2 => t2 σ H2 fun u H3 => rSlP X.K x l u H3 Q) rt fun x u σ H g S ρ Q res w er hx hm po => ?_
  cases q1 : l ρ S with
  | none => rw [q1] at hm; cases hm
  | some z1 =>
    rw [q1] at hm
    cases z1 with
    | ex c fs => cases hm; exact r1 σ H g S ρ _ (.ex c fs) w er q1 po
    | ok i =>
      refine r1 σ H g S ρ _ (.ok i) w er q1 fun i' g1 H1 gr1 e1 => ?_
      subst e1
      replace hm : mb (h ρ S) (fun j => mo (slP i j x)) = some res := hm
      cases q2 : h ρ S with
      | none => rw [q2] at hm; cases hm
      | some z2 =>
        rw [q2] at hm
        cases z2 with
        | ex c fs => cases hm; exact r2 σ H1 g1 S ρ _ (.ex c fs) (gr1.wr w) (er.mono gr1) q2 fun cls d g' H' gr x => po cls d g' H' (gr1.trans gr) x
        | ok j =>
          refine r2 σ H1 g1 S ρ _ (.ok j) (gr1.wr w) (er.mono gr1) q2 fun j' g2 H2 gr2 e2 => ?_
          subst e2
          replace hm : mo (slP i j x) = some res := hm
          cases q3 : slP i j x with
          | none => rw [q3] at hm; cases hm
          | some z =>
            rw [q3] at hm
            cases hm
            exact slP_ok (gr2.wr (gr1.wr w)) (gr2.ov (gr1.ov hx)) q3 fun v g' H' gr o => po v g' H' (gr1.trans (gr2.trans gr)) o
/-- xs[::-1] of a list -/
def oRevL (x : PV) : Option PV := (lsOf x).map fun xs => .lst xs.reverse
theorem e_revL {m : Ex} {k : Nat} {p1 p4 : Pos} (h : SimE X W e m) : SimE X W (.Subscript e (.Slice none none (some (.UnaryOp .USub (.Constant (.int 1) k p1) p2)) p3) pos) (xUn oRevL m) := by
  obtain ⟨t, pt, rt⟩ := h.ex
  refine ⟨_, pe_revL pt, rch_un (r := fun x H1 Q => ∃ a xs, x = .ref a ∧ SqL X.K H1 a xs ∧ ∀ p, H1 p = none → Q (.ref p) (upd H1 p (.lst xs.reverse))) ?_ rt⟩
  intro g S H x z u Q w hx e q
  unfold oRevL at e
  cases e2 : lsOf x with
  | none => rw [e2] at e; cases e
  | some xs =>
    rw [e2] at e
    have e3 : z = .lst xs.reverse := (Option.some.inj e).symm
    subst e3
    obtain ⟨a, vs, rfl, r, f⟩ := lsOf_ok w hx e2
    refine ⟨a, vs, rfl, .inl r, fun p hp => ?_⟩
    obtain ⟨gr, f2⟩ := new_lst w hp f.reverse
    exact q _ _ _ gr (.frz f2)
end

/-! ### repetition -/
def repP {α : Type} : Nat → List α → List α
  | 0, _ => []
  | n + 1, xs => xs ++ repP n xs
theorem repP_eq {α : Type} (xs : List α) : ∀ n, repP n xs = (List.replicate n xs).flatten
  | 0 => rfl
  | n + 1 => by rw [List.replicate_succ, List.flatten_cons, ← repP_eq xs n]; rfl
theorem FRs.rep {K : PySem.W.Frag} {g : G} {xs : List PV} {vs : List V} (f : FRs K g xs vs) : ∀ n, FRs K g (repP n xs) (repP n vs)
  | 0 => .nil
  | n + 1 => f.append (FRs.rep f n)
def oRepT : PV → PV → Option PV
  | .tup xs, .int k => if !xs.isEmpty && decide (2 ≤ k) && decide (k ≤ 1000) && decide (xs.length ≤ 1000) then some (.tup (repP k.toNat xs)) else none
  | _, _ => none
theorem oRepT_ok {K : PySem.W.Frag} : OpOk K oRepT (rRepT K) := by
  intro g S H x y z u v Q w hx hy e q
  unfold oRepT at e
  split at e
  · rename_i xs k
    split at e
    · rename_i hc
      simp only [Bool.and_eq_true, decide_eq_true_eq, Bool.not_eq_true', List.isEmpty_eq_false_iff] at hc
      obtain ⟨⟨⟨h0, h1⟩, h2⟩, h3⟩ := hc
      cases e
      cases hy.fr rfl
      cases hx.fr rfl with
      | tup s f =>
        refine ⟨_, _, _, rfl, rfl, w.f.sqT s, fun z => h0 ?_, h1, h2, by rw [← f.length]; exact h3, fun p hp => ?_⟩
        · subst z; cases f; rfl
        · rw [← repP_eq]
          obtain ⟨gr, f2⟩ := new_tup w hp (f.rep k.toNat)
          exact q _ _ _ gr (.frz f2)
    · cases e
  · cases e
/-- a list that may be read, repeated -/
def rRepR : R2 := fun x y H Q => ∃ l k xs, x = .ref l ∧ y = .int k ∧ Rd H l (.lst xs) ∧ -(2 ^ 63) ≤ k ∧ k < 2 ^ 63 ∧ xs.length * k.toNat ≤ sizeLine ∧
  ∀ p, H p = none → Q (.ref p) (upd H p (.lst (List.replicate k.toNat xs).flatten))
end L3

set_option Elab.async false
set_option linter.all false
set_option maxRecDepth 100000
set_option maxHeartbeats 4000000
namespace L3
open PySem PySem.Spec L2 PyProof.Rows
set_option autoImplicit false

/-! ### list * int -/
theorem op_repR {X : Cx} : OpR X (binaryOp .Mult) rRepR := by
  intro pins s σ H x y v u Q I rx ry h
  obtain ⟨l, k, xs, rfl, rfl, hH, h1, h2, hz, q⟩ := h
  cases rx
  obtain ⟨t, rfl⟩ := ry
  obtain ⟨z, its, n, r, e⟩ := hH.ok I.hok
  have hl := r.length
  have hlen : its.toArray.size * k.toNat ≤ sizeLine := by rw [List.size_toArray, ← hl]; exact hz
  have hcap : ¬ its.toArray.size * k.toNat > (2 ^ 63 - 1) / 8 := by
    have : (sizeLine : Nat) ≤ (2 ^ 63 - 1) / 8 := by decide
    omega
  have hfit : ¬ (!Builtin.List.listFitsIndex k) = true := by
    rw [fitsIndex_both h1 h2]
    exact Bool.false_ne_true
  have hlong : ¬ Builtin.List.listTooLong (its.toArray.size * k.toNat) = true := by
    rw [notLongL hlen]
    exact Bool.false_ne_true
  have hnew : List.foldl (fun x1 x2 => x1 ++ x2) #[] (List.replicate (if its.toArray.isEmpty = true then 0 else k.toNat) its.toArray) = (List.replicate k.toNat its).flatten.toArray := by
    have f0 : ∀ m : Nat, List.foldl (fun x1 x2 => x1 ++ x2) #[] (List.replicate m its.toArray) = (List.replicate m its).flatten.toArray := fun m => by
      have := foldl_rep its m []
      rw [List.nil_append] at this
      exact this
    rw [f0]
    cases its with
    | nil => simp
    | cons a r' => rw [if_neg (by simp)]
  refine wpAny_binaryOp_repeat_ref (T := "list") (U := "int") (by decide) ⟨_, e, rfl⟩ (fun s' => typeIs_int s' k t) noFill_list_mul F.fills_int_mul F.slot_int_rmul repeat_list F.slot_int_index.lookup
    (call_meets F.slot_int_rmul (typeIs_int s k t) F.entry_int_rmul (F.args_int_rmul_2 _ _) (int___rmul___int_list k t l its.toArray n)
      ⟨e, rfl, ⟨_, e, rfl⟩, call_meets F.slot_list_mul ⟨_, e, rfl⟩ F.entry_list_mul (F.args_list_mul_2 _ _) (AutoListH.list___mul___list_int_3 l its.toArray n k t hfit hcap hlong) ⟨e, ?_⟩⟩)
  rw [hnew]
  exact ⟨.ref _, _, I.lnew (t' := s.toks) (r.rep k.toNat) (by rw [PyProof.Rows.lm_len_rep_flat, Nat.mul_comm]; exact hz), rfl, q _ I.fresh⟩
def oRepL : PV → PV → Option PV := fun x y => match y with
  | .int k => (match lsOf x with
    | some xs => if decide (-1000 ≤ k) && decide (k ≤ 1000) && decide (xs.length ≤ 1000) then some (.lst (repP k.toNat xs)) else none
    | none => none)
  | _ => none
theorem oRepL_ok {K : PySem.W.Frag} : OpOk K oRepL rRepR := by
  intro g S H x y z u v Q w hx hy e q
  unfold oRepL at e
  split at e
  · rename_i k
    split at e
    · rename_i xs e2
      split at e
      · rename_i hc
        simp only [Bool.and_eq_true, decide_eq_true_eq] at hc
        obtain ⟨⟨h1, h2⟩, h3⟩ := hc
        cases e
        cases hy.fr rfl
        obtain ⟨a, vs, rfl, r, f⟩ := lsOf_ok w hx e2
        refine ⟨a, k, vs, rfl, rfl, r, by omega, by omega, ?_, fun p hp => ?_⟩
        · rw [← f.length, sizeLine_eq]
          have h4 : k.toNat ≤ 1000 := by omega
          exact Nat.le_trans (Nat.mul_le_mul h3 h4) (by decide)
        · rw [← repP_eq]
          obtain ⟨gr, f2⟩ := new_lst w hp (f.rep k.toNat)
          exact q _ _ _ gr (.frz f2)
      · cases e
    · cases e
  · cases e
def oMul : PV → PV → Option PV := oE oMulI (oE oRepT oRepL)

/-! ### dicts, to be read -/
def keyOf : PV → Option Key
  | .int i => some (.inl i)
  | .str x => some (.inr x)
  | _ => none
theorem keyOf_ok {K : PySem.W.Frag} {g : G} {H : Hp} {y : PV} {v : V} {k : Key} (h : OV K g H y v) (e : keyOf y = some k) : v = kV k := by
  cases y with
  | int i => cases e; cases h.fr rfl; rfl
  | str i => cases e; cases h.fr rfl; rfl
  | _ => cases e
def dcOf : PV → Option (List (Key × PV))
  | .dct kvs => some kvs
  | .od kvs => some kvs
  | _ => none
theorem dcOf_ok {K : PySem.W.Frag} {g : G} {S : Store} {H : Hp} {x : PV} {u : V} {kvs : List (Key × PV)} (w : WR K g S H) (h : OV K g H x u) (e : dcOf x = some kvs) : ∃ a vs, u = .ref a ∧ Rd H a (.dK vs) ∧ OVk K g H kvs vs := by
  cases h with
  | od r f => cases e; exact ⟨_, _, rfl, r, f⟩
  | ol r f => cases e
  | frz f =>
    cases f with
    | dct s f => cases e; exact ⟨_, _, rfl, w.f _ _ s, f.ov⟩
    | _ => cases e
def keyEq : Key → Key → Bool
  | .inl i, .inl j => i == j
  | .inr x, .inr y => x == y
  | _, _ => false
theorem keyEq_ok (a b : Key) : keyEq a b = decide (a = b) := by
  cases a with
  | inl i =>
    cases b with
    | inl j => show (i == j) = _; by_cases h : i = j <;> simp [h]
    | inr y => exact (decide_eq_false (by simp)).symm
  | inr x =>
    cases b with
    | inl j => exact (decide_eq_false (by simp)).symm
    | inr y => show (x == y) = _; by_cases h : x = y <;> simp [h]
def getK (k : Key) : List (Key × PV) → Option PV
  | [] => none
  | p :: r => if keyEq p.1 k then some p.2 else getK k r
theorem getK_ok {K : PySem.W.Frag} {g : G} {H : Hp} {k : Key} : ∀ {kvs : List (Key × PV)} {vs : List (Key × V)}, OVk K g H kvs vs → (match getK k kvs with
    | some x => ∃ v, valV vs k = some v ∧ OV K g H x v
    | none => valV vs k = none)
  | _, _, .nil => rfl
  | _, _, .cons (k := k') (x := x) (xs := xs) (v := v) (vs := vs) a b => by
    have ih := getK_ok (k := k) b
    unfold getK
    rw [keyEq_ok]
    by_cases h : k' = k
    · rw [if_pos (decide_eq_true h)]
      exact ⟨v, valV_pos (p := (k', v)) h, a⟩
    · rw [if_neg (by rw [decide_eq_false h]; exact Bool.false_ne_true)]
      rw [valV_neg (p := (k', v)) h]
      exact ih
theorem getK_get {K : PySem.W.Frag} {g : G} {S : Store} {H : Hp} {x y : PV} {u v : V} {kvs : List (Key × PV)} {k : Key} (w : WR K g S H) (hx : OV K g H x u) (hy : OV K g H y v) (e1 : dcOf x = some kvs) (e2 : keyOf y = some k) : ∃ a, u = .ref a ∧ IsD H a ∧ (match getK k kvs with
    | some z => ∃ t, DGet H a v (some t) ∧ OV K g H z t
    | none => DGet H a v none) := by
  obtain ⟨a, vs, rfl, r, f⟩ := dcOf_ok w hx e1
  have hk := keyOf_ok hy e2
  have q := getK_ok (k := k) f
  refine ⟨a, rfl, .inl ⟨vs, r⟩, ?_⟩
  cases e : getK k kvs with
  | some z =>
    rw [e] at q
    obtain ⟨t, h1, h2⟩ := q
    exact ⟨t, .inl ⟨vs, k, r, hk, h1.symm⟩, h2⟩
  | none =>
    rw [e] at q
    exact .inl ⟨vs, k, r, hk, q.symm⟩
def oDIx : PV → PV → Option PV := fun x y => match dcOf x, keyOf y with
  | some kvs, some k => getK k kvs
  | _, _ => none
def rDIx : R2 := fun x y H Q => ∃ a v, x = .ref a ∧ DGet H a y (some v) ∧ Q v H
theorem ix_dict {X : Cx} (hu : X.A.units + 64 < cLine) : IxR X rDIx := by
  intro value slice pins s σ H x y v u Q I rx ry h hs
  obtain ⟨a, w, rfl, g, q⟩ := h
  cases (show v = Value.ref a from rx)
  exact tail_any (dict_typeIs I g) PySem.F.slot_dict_getitem.lookup (d_getItem (by omega) I g ry fun w' s3 I3 rw' => ⟨w, H, I3, rw', q⟩) hs
theorem oDIx_ok {K : PySem.W.Frag} : OpOk K oDIx rDIx := by
  intro g S H x y z u v Q w hx hy e q
  unfold oDIx at e
  split at e
  · rename_i kvs k e1 e2
    obtain ⟨a, rfl, _, h⟩ := getK_get w hx hy e1 e2
    rw [e] at h
    obtain ⟨t, h1, h2⟩ := h
    exact ⟨a, t, rfl, h1, q _ g H (.refl w) h2⟩
  · cases e
def oIxA : PV → PV → Option PV := oE oIx oDIx
theorem ix_A {X : Cx} (hu : X.A.units + 64 < cLine) : IxR X (fun x y H Q => rIx X.K x y H Q ∨ rDIx x y H Q) := IxR.or L2.ix_seq (ix_dict hu)
theorem oIxA_ok {K : PySem.W.Frag} : OpOk K oIxA (fun x y H Q => rIx K x y H Q ∨ rDIx x y H Q) := OpOk.or oIx_ok oDIx_ok
/-! y in d -/
def oDIn (f : Bool → Bool) : PV → PV → Option PV := fun y x => match dcOf x, keyOf y with
  | some kvs, some k => some (.bl (f (getK k kvs).isSome))
  | _, _ => none
def rDIn (f : Bool → Bool) : R2 := fun y x H Q => ∃ a o, x = .ref a ∧ DGet H a y o ∧ Q (.bl (f o.isSome)) H
theorem oDIn_ok {K : PySem.W.Frag} {f : Bool → Bool} : OpOk K (oDIn f) (rDIn f) := by
  intro g S H y x z v u Q w hy hx e q
  unfold oDIn at e
  split at e
  · rename_i kvs k e1 e2
    obtain ⟨a, rfl, _, h⟩ := getK_get w hx hy e1 e2
    cases e
    cases e3 : getK k kvs with
    | none =>
      rw [e3] at h q
      exact ⟨a, none, rfl, h, q _ g H (.refl w) (.frz (.bl _))⟩
    | some t =>
      rw [e3] at h q
      obtain ⟨t', h1, h2⟩ := h
      exact ⟨a, some t', rfl, h1, q _ g H (.refl w) (.frz (.bl _))⟩
  · cases e
theorem op_dIn {X : Cx} (hu : X.A.units + 64 < cLine) : OpR X (compareOp .In) (rDIn fun b => b) := by
  intro pins s σ H y x u v Q I ry rx h
  obtain ⟨a, o, rfl, g, q⟩ := h
  cases (show v = Value.ref a from rx)
  exact d_in (by omega) I g ry fun s3 I3 => ⟨.bl _, H, I3, rfl, q⟩
theorem op_dNotIn {X : Cx} (hu : X.A.units + 64 < cLine) : OpR X (compareOp .NotIn) (rDIn fun b => !b) := by
  intro pins s σ H y x u v Q I ry rx h
  obtain ⟨a, o, rfl, g, q⟩ := h
  cases (show v = Value.ref a from rx)
  exact d_notIn (by omega) I g ry fun s3 I3 => ⟨.bl _, H, I3, rfl, q⟩
def oInA : PV → PV → Option PV := oE oIn (oDIn fun b => b)
def oNotInA : PV → PV → Option PV := oE oNotIn (oDIn fun b => !b)
theorem op_inA {X : Cx} (hu : X.A.units + 64 < cLine) : OpR X (compareOp .In) (fun x y H Q => rInP X.K (fun b => b) x y H Q ∨ rDIn (fun b => b) x y H Q) := L2.OpR.or (op_inP hu) (op_dIn hu)
theorem op_notInA {X : Cx} (hu : X.A.units + 64 < cLine) : OpR X (compareOp .NotIn) (fun x y H Q => rInP X.K (fun b => !b) x y H Q ∨ rDIn (fun b => !b) x y H Q) := L2.OpR.or (op_notInP hu) (op_dNotIn hu)
theorem oInA_ok {K : PySem.W.Frag} : OpOk K oInA (fun x y H Q => rInP K (fun b => b) x y H Q ∨ rDIn (fun b => b) x y H Q) := OpOk.or oIn_ok oDIn_ok
theorem oNotInA_ok {K : PySem.W.Frag} : OpOk K oNotInA (fun x y H Q => rInP K (fun b => !b) x y H Q ∨ rDIn (fun b => !b) x y H Q) := OpOk.or oNotIn_ok oDIn_ok

/-! ### calls: one rule or the other -/
def bE (a b : List PV → Option PV) : List PV → Option PV := fun xs => match a xs with
  | some z => some z
  | none => b xs
theorem CallOk.or {K : PySem.W.Frag} {a b : List PV → Option PV} {r r' : List V → Hp → VK → Prop} (h : CallOk K a r) (h' : CallOk K b r') : CallOk K (bE a b) (fun xs H Q => r xs H Q ∨ r' xs H Q) := by
  intro g S H xs z us Q w hx e q
  unfold bE at e
  cases c : a xs with
  | some t =>
    rw [c] at e
    exact .inl (h g S H xs z us Q w hx (c.trans e) q)
  | none =>
    rw [c] at e
    exact .inr (h' g S H xs z us Q w hx e q)
/-- list(x) of a list or a tuple -/
def bListS : List PV → Option PV
  | [x] => (sqOf x).map .lst
  | _ => none
theorem bListS_ok {K : PySem.W.Frag} : CallOk K bListS (fun xs H Q => ∃ p ys, xs = [.ref p] ∧ (SqL K H p ys ∨ SqT K H p ys) ∧ ∀ l, H l = none → Q (.ref l) (upd H l (.lst ys))) := by
  intro g S H xs z us Q w hx e q
  unfold bListS at e
  split at e
  · rename_i x
    obtain ⟨u, rfl, hu⟩ := ovs1 hx
    cases e2 : sqOf x with
    | none => rw [e2] at e; cases e
    | some ys =>
      rw [e2] at e
      have e3 : z = .lst ys := (Option.some.inj e).symm
      subst e3
      obtain ⟨a, vs, rfl, sq, f⟩ := sqOf_ok w hu e2
      refine ⟨a, vs, rfl, sq, fun p hp => ?_⟩
      obtain ⟨gr, f2⟩ := new_lst w hp f
      exact q _ _ _ gr (.frz f2)
  · cases e
def kP : Key → PV
  | .inl i => .int i
  | .inr x => .str x
theorem kP_fr {K : PySem.W.Frag} {g : G} (k : Key) : FR K g (kP k) (kV k) := by cases k <;> constructor
theorem OVk.keys {K : PySem.W.Frag} {g : G} {H : Hp} : ∀ {kvs : List (Key × PV)} {vs : List (Key × V)}, OVk K g H kvs vs → FRs K g (kvs.map fun p => kP p.1) (vs.map fun p => kV p.1)
  | _, _, .nil => .nil
  | _, _, .cons a b => .cons (kP_fr _) (OVk.keys b)
theorem OVk.length {K : PySem.W.Frag} {g : G} {H : Hp} : ∀ {kvs : List (Key × PV)} {vs : List (Key × V)}, OVk K g H kvs vs → kvs.length = vs.length
  | _, _, .nil => rfl
  | _, _, .cons a b => by simp [OVk.length b]
def bListD : List PV → Option PV
  | [x] => (dcOf x).map fun kvs => .lst (kvs.map fun p => kP p.1)
  | _ => none
theorem bListD_ok {K : PySem.W.Frag} : CallOk K bListD (fun xs H Q => ∃ (a : Addr) (kvs : List (Key × V)), xs = [.ref a] ∧ Rd H a (.dK kvs) ∧ ∀ p, H p = none → Q (.ref p) (upd H p (.lst (kvs.map fun kv => kV kv.1)))) := by
  intro g S H xs z us Q w hx e q
  unfold bListD at e
  split at e
  · rename_i x
    obtain ⟨u, rfl, hu⟩ := ovs1 hx
    cases e2 : dcOf x with
    | none => rw [e2] at e; cases e
    | some ys =>
      rw [e2] at e
      have e3 : z = .lst (ys.map fun p => kP p.1) := (Option.some.inj e).symm
      subst e3
      obtain ⟨a, vs, rfl, sq, f⟩ := dcOf_ok w hu e2
      refine ⟨a, vs, rfl, sq, fun p hp => ?_⟩
      obtain ⟨gr, f2⟩ := new_lst w hp f.keys
      exact q _ _ _ gr (.frz f2)
  · cases e
def bList : List PV → Option PV := bE bListS bListD
/-- len(d) -/
def bLenD : List PV → Option PV
  | [x] => (dcOf x).map fun kvs => .int kvs.length
  | _ => none
def rLenD : List V → Hp → VK → Prop := fun xs H Q => ∃ (a : Addr) (kvs : List (Key × V)), xs = [.ref a] ∧ Rd H a (.dK kvs) ∧ Q (.int kvs.length) H
theorem call_lenD {X : Cx} : CallR X (.builtin "len") rLenD := by
  intro pins s σ H xs us Q I r h
  obtain ⟨a, kvs, rfl, rd, q⟩ := h
  rw [Vals.ref1 r]
  exact d_len I rd fun t s' I' => ⟨.int kvs.length, H, I', ⟨t, rfl⟩, q⟩
theorem bLenD_ok {K : PySem.W.Frag} : CallOk K bLenD rLenD := by
  intro g S H xs z us Q w hx e q
  unfold bLenD at e
  split at e
  · rename_i x
    obtain ⟨u, rfl, hu⟩ := ovs1 hx
    cases e2 : dcOf x with
    | none => rw [e2] at e; cases e
    | some ys =>
      rw [e2] at e
      have e3 : z = .int ys.length := (Option.some.inj e).symm
      subst e3
      obtain ⟨a, vs, rfl, sq, f⟩ := dcOf_ok w hu e2
      exact ⟨a, vs, rfl, sq, q _ g H (.refl w) (by rw [f.length]; exact .frz (.int _))⟩
  · cases e
def bLenA : List PV → Option PV := bE bLen bLenD
end L3

set_option Elab.async false
set_option linter.all false
set_option maxRecDepth 100000
set_option maxHeartbeats 4000000
namespace LiI
open PySem PySem.Spec L2 PyProof.Rows
def rItemsR : V → Hp → VK → Prop := fun x H Q => ∃ (d : Addr) (kvs : List (Key × V)), x = .ref d ∧ Rd H d (.dK kvs) ∧
  ∀ (H' : Hp) (p : Addr) (ts : List Addr), (∀ b o, H b = some o → H' b = some o) → H p = none → (∀ t ∈ ts, H t = none) → p ∉ ts → H' p = some (.lst (ts.map V.ref)) → Paired (fun (t : Addr) (q : Key × V) => H' t = some (.tup [kV q.1, q.2])) ts kvs → Q (.ref p) H'
def tListItemsR (te : TE) : TE := fun σ H Q => te σ H fun x H1 => rItemsR x H1 Q
section
variable {X : Cx} {e : Expr} {te : TE} {p apos cpos pos : Pos}
theorem pe_listItemsR (hc : X.calm = true) (he : PE X e te) (hg : Gl X "list") (hm : X.mg "list" = none) (hv : bootBuiltins "list" = some (.type "list")) (hbase : attributeBase e "items" X.env (eval e X.env) = eval e X.env := by rfl) (hline : (apos.endLine == cpos.line) = true := by rfl)
    (hs : starEach [.Call (.Attribute e "items" apos) [] [] cpos] X.env = (false, eval (.Call (.Attribute e "items" apos) [] [] cpos) X.env) :: starEach [] X.env := by rfl) :
    PE X (.Call (.Name "list" p) [.Call (.Attribute e "items" apos) [] [] cpos] [] pos) (tListItemsR te) := by
  refine ⟨fun pins s σ H Q I hq => ?_⟩
  refine wpAny_Call_Name_kw (ld_blt I hg hm hv ?_)
  refine PyProof.Rows.callWith_type1 ?_ hs rfl
  rw [hs]
  show wpAny _ _ (spliced ((false, eval (.Call (.Attribute e "items" apos) [] [] cpos) X.env) :: backTo pos (starEach [] X.env))) _ _ s
  refine Calls.spliced_cons ?_
  refine wpAny_Call_method (T := "dict") (id := "dict.items") hbase rfl hline F.plainAttrs_dict F.slot_dict_items F.type_dict_items (thn (he.run pins s σ H _ I hq) fun u s1 ⟨x, H1, I1, rx, d, kvs, ex, hd, q⟩ => ?_)
  subst ex
  obtain rfl : u = Value.ref d := rx
  obtain ⟨hz, hs0, vs, kv, hdo⟩ := hd.ok I1.hok
  obtain ⟨ep, hat⟩ := hdo.dictAt
  have lk : kvs.length = vs.length := Paired.length kv
  have I2 : Inv X pins σ H1 { s1 with heap := s1.heap.push { cls := .type "dict_items", data := .fields #[.ref d] } } := I1.kept (t' := s1.toks) fun b ob q => Heap.get?_push_of_some _ q
  refine ⟨hdo.typeIs, hdo.mapOf.noDict, ?_⟩
  show wpAny _ _ (callWith cpos (.builtin "dict.items") [.ref d] [] []) _ X.xe s1
  refine method_meetsIn F.slot_dict_items F.entry_dict_items rfl (PySem.evalArgs_none ⟨rfl, hdo.typeIs, F.args_dict_items_1 _, _, meets_dict_items (mixKind X.prog X.w) d hs0, ⟨vs, hdo⟩, ?_⟩)
  refine Calls.spliced_nil ?_
  refine PySem.W.kdx_call (knd := mixKind X.prog X.w) (kvs := vs) (ep := ep) (I1.ok.hd hc) ⟨_, Heap.get?_push_size _ rfl, rfl, rfl⟩ (hat.push _) (by omega) fun h' tk acc c as hk hS hl hG hacc => ?_
  obtain ⟨H', k1, k2, k3, k4, k5, k6, J⟩ := items_laid (tk := tk) I2 hz kv hk hS hl hG hacc
  exact ⟨.ref _, H', J, rfl, q H' _ as k1 k2 k3 k4 k5 k6⟩
end
end LiI
namespace L3
open PySem PySem.Spec L2 PyProof.Rows
set_option autoImplicit false

/-- many new objects at once, all at rest from now on -/
theorem grow_many {K : PySem.W.Frag} {g : G} {S : Store} {H H' : Hp} (w : WR K g S H) (hs : ∀ b o, H b = some o → H' b = some o) (A : Addr → Bool) (hA : ∀ b, A b = true → H b = none) :
    Grow g H { g with F := fun b => if A b then H' b else g.F b } H' := by
  have fn : ∀ b, A b = true → g.F b = none := fun b hb => by
    cases e : g.F b with
    | none => rfl
    | some u => rcases w.f b u (.inl e) with q | ⟨_, q⟩ <;> rw [hA b hb] at q <;> cases q
  have off : ∀ b u, g.F b = some u → A b = false := fun b u e => by
    cases h : A b with
    | false => rfl
    | true => rw [fn b h] at e; cases e
  refine ⟨⟨fun b u e => ?_, Nat.le_refl _, fun _ _ => rfl⟩, rfl, rfl, rfl, fun b u e => hs b u e, fun b u e => ?_, fun b e => ?_⟩
  · show (if A b then H' b else g.F b) = some u
    rw [off b u e, if_neg Bool.false_ne_true]; exact e
  · cases h : A b with
    | true =>
      rcases e with e | ⟨ob, e⟩
      · have e : (if A b then H' b else g.F b) = some u := e
        rw [h, if_pos rfl] at e; exact .inl e
      · have e : (if A b then H' b else g.F b) = some (.frz ob u) := e
        rw [h, if_pos rfl] at e; exact .inr ⟨ob, e⟩
    | false =>
      have e' : Rd g.F b u := by
        rcases e with e | ⟨ob, e⟩
        · have e : (if A b then H' b else g.F b) = some u := e
          rw [h, if_neg Bool.false_ne_true] at e; exact .inl e
        · have e : (if A b then H' b else g.F b) = some (.frz ob u) := e
          rw [h, if_neg Bool.false_ne_true] at e; exact .inr ⟨ob, e⟩
      exact RdLe.of_same (fun b o e => hs b o e) _ _ (w.f b u e')
  · cases h : A b with
    | true => exact .inr (hA b h)
    | false =>
      left
      have e : (if A b then H' b else g.F b) ≠ none := e
      rw [h, if_neg Bool.false_ne_true] at e; exact e
theorem OVk.fr {K : PySem.W.Frag} {g : G} {H : Hp} : ∀ {kvs : List (Key × PV)} {vs : List (Key × V)}, OVk K g H kvs vs → (kvs.all fun p => fz p.2) = true → FRk K g kvs vs
  | _, _, .nil, _ => .nil
  | _, _, .cons a b, h => by
    simp only [List.all_cons, Bool.and_eq_true] at h
    exact .cons (a.fr h.1) (OVk.fr b h.2)
theorem items_frs {K : PySem.W.Frag} {g : G} {F' : Hp} (hF : ∀ b u, F' b = some u → g.F b = some u) : ∀ {ts : List Addr} {kvs : List (Key × PV)} {vs : List (Key × V)}, Paired (fun (t : Addr) (q : Key × V) => F' t = some (.tup [kV q.1, q.2])) ts vs → FRk K g kvs vs →
    FRs K g (kvs.map fun p => .tup [kP p.1, p.2]) (ts.map V.ref)
  | _, _, _, .nil, h => by cases h; exact .nil
  | _, _, _, .cons a b, h => by
    cases h with
    | cons c d => exact .cons (.tup (.inl (.inl (hF _ _ a))) (.cons (kP_fr _) (.cons c .nil))) (items_frs hF b d)
section
variable {X : Cx} {md : Md X.K} {W : WX} {a b e f o : Expr} {pos p apos cpos : Pos}
def oItems (x : PV) : Option PV := match dcOf x with
  | some kvs => if kvs.all fun p => fz p.2 then some (.lst (kvs.map fun p => .tup [kP p.1, p.2])) else none
  | none => none
theorem e_listItems {m : Ex} (hc : X.calm = true) (h : SimE X W e m) (hg : Gl X "list") (hm : X.mg "list" = none) (hbase : attributeBase e "items" X.env (eval e X.env) = eval e X.env := by rfl) (hline : (apos.endLine == cpos.line) = true := by rfl)
    (hs : starEach [.Call (.Attribute e "items" apos) [] [] cpos] X.env = (false, eval (.Call (.Attribute e "items" apos) [] [] cpos) X.env) :: starEach [] X.env := by rfl) : SimE X W (.Call (.Name "list" p) [.Call (.Attribute e "items" apos) [] [] cpos] [] pos) (xUn oItems m) := by
  obtain ⟨t, pt, rt⟩ := h.ex
  refine ⟨_, LiI.pe_listItemsR hc pt hg hm (by decide +kernel) hbase hline hs, rch_un (r := LiI.rItemsR) ?_ rt⟩
  intro g S H x z u Q w hx e q
  unfold oItems at e
  split at e
  · rename_i kvs e2
    split at e
    · rename_i hf
      cases e
      obtain ⟨d, vs, rfl, r, f⟩ := dcOf_ok w hx e2
      refine ⟨d, vs, rfl, r, fun H' p ts h1 h2 h3 h4 h5 h6 => ?_⟩
      have gr := grow_many (H' := H') w h1 (fun b => decide (b = p) || decide (b ∈ ts)) (fun b hb => by
        rw [Bool.or_eq_true, decide_eq_true_eq, decide_eq_true_eq] at hb
        rcases hb with rfl | hb
        · exact h2
        · exact h3 b hb)
      refine q _ _ _ gr (.frz (.lst (vs := ts.map V.ref) (.inl ?_) ?_))
      · show (if (decide (p = p) || decide (p ∈ ts)) then H' p else g.F p) = _
        rw [decide_eq_true rfl, Bool.true_or, if_pos rfl]; exact h5
      · have fk : FRk X.K { g with F := fun b => if (decide (b = p) || decide (b ∈ ts)) then H' b else g.F b } kvs vs := FRk.mono gr.le _ _ (f.fr hf)
        have key : ∀ (ts' : List Addr) (vs' : List (Key × V)), Paired (fun (t : Addr) (q : Key × V) => H' t = some (.tup [kV q.1, q.2])) ts' vs' → (∀ t ∈ ts', t ∈ ts) → Paired (fun (t : Addr) (q : Key × V) => (if (decide (t = p) || decide (t ∈ ts)) then H' t else g.F t) = some (.tup [kV q.1, q.2])) ts' vs' := fun ts' vs' hp => by
          induction hp with
          | nil => exact fun _ => .nil
          | @cons x y xs ys a b ih =>
            intro hm
            refine .cons ?_ (ih fun t ht => hm t (List.mem_cons_of_mem _ ht))
            show (if (decide (x = p) || decide (x ∈ ts)) then H' x else g.F x) = _
            rw [decide_eq_true (p := x ∈ ts) (hm _ List.mem_cons_self), Bool.or_true, if_pos rfl]; exact a
        exact items_frs (fun b u e => e) (key ts vs h6 fun t ht => ht) fk
    · cases e
  · cases e

/-! ### d.get -/
def xDGet2 (m n k : Ex) : Ex := fun ρ S => mb (m ρ S) fun x => match dcOf x with
  | some kvs => mb (n ρ S) fun y => mb (k ρ S) fun z => match keyOf y with
    | some c => some (.ok ((getK c kvs).getD z))
    | none => none
  | none => none
theorem OVk.grow {K : PySem.W.Frag} {g g' : G} {H H' : Hp} {kvs : List (Key × PV)} {vs : List (Key × V)} (gr : Grow g H g' H') (f : OVk K g H kvs vs) : OVk K g' H' kvs vs := OVk.mono gr.le (RdLe.of_same gr.h) _ _ f
theorem e_dget2 {m n k : Ex} (hu : X.A.units + 64 < cLine) (ho : SimE X W o m) (he : SimE X W e n) (hf : SimE X W f k) (mm : M2 X o "get" apos e f cpos := by exact ⟨rfl, rfl, rfl, rfl⟩) : SimE X W (.Call (.Attribute o "get" apos) [e, f] [] cpos) (xDGet2 m n k) := by
  obtain ⟨t, pt, rt⟩ := ho.ex
  obtain ⟨t1, p1, r1⟩ := he.ex
  obtain ⟨t2, p2, r2⟩ := hf.ex
  refine ⟨_, pe_dget2 (by omega) pt p1 p2 mm, ?_⟩
  refine Rch.bind (R' := RV X.K) (k := fun x ρ S => match dcOf x with
    | some kvs => mb (n ρ S) fun y => mb (k ρ S) fun z => match keyOf y with
      | some c => some (.ok ((getK c kvs).getD z))
      | none => none
    | none => none) (tk := fun x σ H1 Q => ∃ a, x = .ref a ∧ IsD H1 a ∧ t1 σ H1 fun y H2 => t2 σ H2 fun z H3 => ∃ o, DGet H3 a y o ∧ Q (o.getD z) H3) rt fun x u σ H g S ρ Q res w er hx hm po => ?_
  split at hm
  · rename_i kvs e1
    obtain ⟨a, vs, rfl, r, f⟩ := dcOf_ok w hx e1
    refine ⟨a, rfl, .inl ⟨vs, r⟩, ?_⟩
    cases q1 : n ρ S with
    | none => rw [q1] at hm; cases hm
    | some z1 =>
      rw [q1] at hm
      cases z1 with
      | ex c fs => cases hm; exact r1 σ H g S ρ _ (.ex c fs) w er q1 po
      | ok y =>
        refine r1 σ H g S ρ _ (.ok y) w er q1 fun yv g1 H1 gr1 oy => ?_
        replace hm : mb (k ρ S) (fun z => match keyOf y with
          | some c => some (.ok ((getK c kvs).getD z))
          | none => none) = some res := hm
        cases q2 : k ρ S with
        | none => rw [q2] at hm; cases hm
        | some z2 =>
          rw [q2] at hm
          cases z2 with
          | ex c fs => cases hm; exact r2 σ H1 g1 S ρ _ (.ex c fs) (gr1.wr w) (er.mono gr1) q2 fun cls d g' H' gr x => po cls d g' H' (gr1.trans gr) x
          | ok z =>
            refine r2 σ H1 g1 S ρ _ (.ok z) (gr1.wr w) (er.mono gr1) q2 fun zv g2 H2 gr2 oz => ?_
            replace hm : (match keyOf y with
              | some c => some (.ok ((getK c kvs).getD z))
              | none => none) = some res := hm
            split at hm
            · rename_i c e2
              cases hm
              have hk := keyOf_ok (gr2.ov oy) e2
              have gg := getK_ok (k := c) (OVk.grow gr2 (OVk.grow gr1 f))
              have rr : Rd H2 a (.dK vs) := RdLe.of_same gr2.h _ _ (RdLe.of_same gr1.h _ _ r)
              cases e3 : getK c kvs with
              | some t =>
                rw [e3] at gg po
                obtain ⟨tv, h1, h2⟩ := gg
                exact ⟨some tv, .inl ⟨vs, c, rr, hk, h1.symm⟩, po tv g2 H2 (gr1.trans gr2) h2⟩
              | none =>
                rw [e3] at gg po
                exact ⟨none, .inl ⟨vs, c, rr, hk, gg.symm⟩, po zv g2 H2 (gr1.trans gr2) oz⟩
            · cases hm
  · cases hm
def xDGet1 (m n : Ex) : Ex := fun ρ S => mb (m ρ S) fun x => match dcOf x with
  | some kvs => mb (n ρ S) fun y => match keyOf y with
    | some c => some (.ok ((getK c kvs).getD .non))
    | none => none
  | none => none
theorem e_dget1 {m n : Ex} (hu : X.A.units + 64 < cLine) (ho : SimE X W o m) (he : SimE X W e n) (mm : M1 X o "get" apos e cpos := by exact ⟨rfl, rfl, rfl, rfl⟩) : SimE X W (.Call (.Attribute o "get" apos) [e] [] cpos) (xDGet1 m n) := by
  obtain ⟨t, pt, rt⟩ := ho.ex
  obtain ⟨t1, p1, r1⟩ := he.ex
  refine ⟨_, pe_dget1 (by omega) pt p1 mm, ?_⟩
  refine Rch.bind (R' := RV X.K) (k := fun x ρ S => match dcOf x with
    | some kvs => mb (n ρ S) fun y => match keyOf y with
      | some c => some (.ok ((getK c kvs).getD .non))
      | none => none
    | none => none) (tk := fun x σ H1 Q => ∃ a, x = .ref a ∧ IsD H1 a ∧ t1 σ H1 fun y H2 => ∃ o, DGet H2 a y o ∧ Q (o.getD .non) H2) rt fun x u σ H g S ρ Q res w er hx hm po => ?_
  split at hm
  · rename_i kvs e1
    obtain ⟨a, vs, rfl, r, f⟩ := dcOf_ok w hx e1
    refine ⟨a, rfl, .inl ⟨vs, r⟩, ?_⟩
    cases q1 : n ρ S with
    | none => rw [q1] at hm; cases hm
    | some z1 =>
      rw [q1] at hm
      cases z1 with
      | ex c fs => cases hm; exact r1 σ H g S ρ _ (.ex c fs) w er q1 po
      | ok y =>
        refine r1 σ H g S ρ _ (.ok y) w er q1 fun yv g1 H1 gr1 oy => ?_
        replace hm : (match keyOf y with
          | some c => some (.ok ((getK c kvs).getD .non))
          | none => none) = some res := hm
        split at hm
        · rename_i c e2
          cases hm
          have hk := keyOf_ok oy e2
          have gg := getK_ok (k := c) (OVk.grow gr1 f)
          have rr : Rd H1 a (.dK vs) := RdLe.of_same gr1.h _ _ r
          cases e3 : getK c kvs with
          | some t =>
            rw [e3] at gg po
            obtain ⟨tv, h1, h2⟩ := gg
            exact ⟨some tv, .inl ⟨vs, c, rr, hk, h1.symm⟩, po tv g1 H1 gr1 h2⟩
          | none =>
            rw [e3] at gg po
            exact ⟨none, .inl ⟨vs, c, rr, hk, gg.symm⟩, po .non g1 H1 gr1 (.frz .non)⟩
        · cases hm
  · cases hm
theorem new_dct {K : PySem.W.Frag} {g : G} {S : Store} {H : Hp} (w : WR K g S H) {p : Addr} (hp : H p = none) {xs : List (Key × PV)} {vs : List (Key × V)} (q : FRk K g xs vs) :
    Grow g H { g with F := upd g.F p (.dK vs) } (upd H p (.dK vs)) ∧ FR K { g with F := upd g.F p (.dK vs) } (.dct xs) (.ref p) :=
  ⟨.laid w hp, .dct (.inl upd_same) (FRk.mono (Grow.laid w hp).le _ _ q)⟩
/-- {} -/
theorem e_dnew : SimE X W (.Dict [] [] pos) (xC (.dct [])) := by
  refine ⟨_, pe_dnewK, fun σ H g S ρ Q r w er hm po => ?_⟩
  cases hm
  intro p hp
  obtain ⟨gr, f2⟩ := new_dct w hp (.nil (K := X.K))
  exact po _ _ _ gr (.frz f2)
end
/-! ### dict(pairs) -/
def putKP (kvs : List (Key × PV)) (k : Key) (v : PV) : List (Key × PV) := if kvs.any fun kv => keyEq kv.1 k then kvs.map (fun kv => if keyEq kv.1 k then (kv.1, v) else kv) else kvs ++ [(k, v)]
theorem FRk.any {K : PySem.W.Frag} {g : G} {k : Key} : ∀ {xs : List (Key × PV)} {vs : List (Key × V)}, FRk K g xs vs → (xs.any fun kv => keyEq kv.1 k) = (vs.any fun kv => decide (kv.1 = k))
  | _, _, .nil => rfl
  | _, _, .cons a b => by rw [List.any_cons, List.any_cons, FRk.any b, keyEq_ok]
theorem FRk.rep {K : PySem.W.Frag} {g : G} {k : Key} {x : PV} {v : V} (h : FR K g x v) : ∀ {xs : List (Key × PV)} {vs : List (Key × V)}, FRk K g xs vs → FRk K g (xs.map fun kv => if keyEq kv.1 k then (kv.1, x) else kv) (vs.map fun kv => if kv.1 = k then (kv.1, v) else kv)
  | _, _, .nil => .nil
  | _, _, .cons (k := k') a b => by
    rw [List.map_cons, List.map_cons]
    by_cases hk : k' = k
    · have e1 : keyEq k' k = true := by rw [keyEq_ok]; exact decide_eq_true hk
      rw [if_pos e1, if_pos hk]
      exact .cons h (FRk.rep h b)
    · have e1 : keyEq k' k = false := by rw [keyEq_ok]; exact decide_eq_false hk
      rw [if_neg (by rw [e1]; exact Bool.false_ne_true), if_neg hk]
      exact .cons a (FRk.rep h b)
theorem FRk.append {K : PySem.W.Frag} {g : G} {ys : List (Key × PV)} {us : List (Key × V)} (h : FRk K g ys us) : ∀ {xs : List (Key × PV)} {vs : List (Key × V)}, FRk K g xs vs → FRk K g (xs ++ ys) (vs ++ us)
  | _, _, .nil => h
  | _, _, .cons a b => .cons a (FRk.append h b)
theorem FRk.put {K : PySem.W.Frag} {g : G} {k : Key} {x : PV} {v : V} (h : FR K g x v) {xs : List (Key × PV)} {vs : List (Key × V)} (q : FRk K g xs vs) : FRk K g (putKP xs k x) (putK vs k v) := by
  unfold putKP putK
  rw [q.any]
  split
  · exact q.rep h
  · exact q.append (h := .cons h .nil)
def pairsOf : List PV → Option (List (Key × PV))
  | [] => some []
  | .tup [a, b] :: r => match keyOf a, pairsOf r with
    | some k, some q => some ((k, b) :: q)
    | _, _ => none
  | _ => none
def mergeKP (kvs more : List (Key × PV)) : List (Key × PV) := more.foldl (fun acc kv => putKP acc kv.1 kv.2) kvs
theorem FRk.merge {K : PySem.W.Frag} {g : G} : ∀ {ys : List (Key × PV)} {us : List (Key × V)}, FRk K g ys us → ∀ {xs : List (Key × PV)} {vs : List (Key × V)}, FRk K g xs vs → FRk K g (mergeKP xs ys) (mergeK vs us)
  | _, _, .nil, _, _, q => q
  | _, _, .cons a b, _, _, q => FRk.merge b (q.put a)
theorem pairsOf_ok {K : PySem.W.Frag} {g : G} {S : Store} {H : Hp} (w : WR K g S H) : ∀ {xs : List PV} {vs : List V} {q : List (Key × PV)}, FRs K g xs vs → pairsOf xs = some q → ∃ (ps : List Addr) (kvs : List (Key × V)), vs = ps.map V.ref ∧ Paired (fun p kv => SqT K H p [kV kv.1, kv.2]) ps kvs ∧ FRk K g q kvs
  | [], _, q, f, e => by cases f; cases e; exact ⟨[], [], rfl, .nil, .nil⟩
  | x :: xs, _, q, f, e => by
    cases f with
    | cons fa fb =>
      unfold pairsOf at e
      split at e
      · rename_i heq; cases heq
      · rename_i a b r heq
        cases heq
        split at e
        · rename_i k q' e1 e2
          cases e
          obtain ⟨ps, kvs, rfl, hp, hk⟩ := pairsOf_ok w fb e2
          cases fa with
          | tup s f2 =>
            cases f2 with
            | cons g1 g2 =>
              cases g2 with
              | cons g3 g4 =>
                cases g4
                have hk1 := keyOf_ok (H := H) (.frz g1) e1
                subst hk1
                exact ⟨_ :: ps, (k, _) :: kvs, rfl, .cons (w.f.sqT s) hp, .cons g3 hk⟩
        · cases e
      · cases e
def bDictP : List PV → Option PV
  | [x] => match lsOf x with
    | some xs => (pairsOf xs).map fun q => .dct (mergeKP [] q)
    | none => none
  | _ => none
theorem bDictP_ok {K : PySem.W.Frag} : CallOk K bDictP (fun xs H Q => ∃ (a : Addr) (ps : List Addr) (kvs : List (Key × V)), xs = [.ref a] ∧ SqL K H a (ps.map V.ref) ∧ Paired (fun p kv => SqT K H p [kV kv.1, kv.2]) ps kvs ∧ ∀ p, H p = none → Q (.ref p) (upd H p (.dK (mergeK [] kvs)))) := by
  intro g S H xs z us Q w hx e q
  unfold bDictP at e
  split at e
  · rename_i x
    obtain ⟨u, rfl, hu⟩ := ovs1 hx
    split at e
    · rename_i ys e2
      cases e3 : pairsOf ys with
      | none => rw [e3] at e; cases e
      | some pr =>
        rw [e3] at e
        have e4 : z = .dct (mergeKP [] pr) := (Option.some.inj e).symm
        subst e4
        obtain ⟨a, vs, rfl, r, f⟩ := lsOf_ok w hu e2
        obtain ⟨ps, kvs, rfl, hp, hk⟩ := pairsOf_ok w f e3
        refine ⟨a, ps, kvs, rfl, .inl r, hp, fun p hp => ?_⟩
        obtain ⟨gr, f2⟩ := new_dct w hp (hk.merge .nil)
        exact q _ _ _ gr (.frz f2)
    · cases e
  · cases e
/-- dict(d) -/
def bDictD : List PV → Option PV
  | [x] => match dcOf x with
    | some kvs => if kvs.all fun p => fz p.2 then some (.dct kvs) else none
    | none => none
  | _ => none
theorem bDictD_ok {K : PySem.W.Frag} : CallOk K bDictD (fun xs H Q => ∃ (a : Addr) (kvs : List (Key × V)), xs = [.ref a] ∧ Rd H a (.dK kvs) ∧ ∀ p, H p = none → Q (.ref p) (upd H p (.dK kvs))) := by
  intro g S H xs z us Q w hx e q
  unfold bDictD at e
  split at e
  · rename_i x
    obtain ⟨u, rfl, hu⟩ := ovs1 hx
    split at e
    · rename_i ys e2
      split at e
      · rename_i hf
        cases e
        obtain ⟨a, vs, rfl, r, f⟩ := dcOf_ok w hu e2
        refine ⟨a, vs, rfl, r, fun p hp => ?_⟩
        obtain ⟨gr, f2⟩ := new_dct w hp (f.fr hf)
        exact q _ _ _ gr (.frz f2)
      · cases e
    · cases e
  · cases e
def bDict : List PV → Option PV := bE bDictP bDictD
end L3

set_option Elab.async false
set_option linter.all false
set_option maxRecDepth 100000
set_option maxHeartbeats 4000000
namespace L3
open PySem PySem.Spec L2
set_option autoImplicit false

/-! ### methods -/
def tMethS (C : Addr) (m : Str) (sp : Sp) (E : St → XK) (ta : TE) (t : TA) : TE := fun σ H Q => ta σ H fun x H1 => ∃ a dx fs, x = .ref a ∧ H1 a = some (.ins C dx fs) ∧ fs.lookup m = none ∧ t σ H1 fun vs H2 => sp (x :: vs) H2 Q (E σ)
section
variable {X : Cx} {CX : CXT} {k : Nat} {f C : Addr} {fd : FuncData} {ps : List Str} {sp : Sp} {E : St → XK} {x m : Str} {p pos apos : Pos} {e o : Expr} {es : List Expr} {ta : TE} {t : TA}
theorem pe_methE {pl : Sem Bool} (he : PE X o ta) (c : Cls X.K C) (hm : Meth X.K C m f) (F : FnOk X.prog X.w X.K X.mg X.base CX k f fd ps sp) (hr : Room k X.A) (hb : Binds X.K fd ps []) (hx : ∀ σ, PassesAt CX X σ (E σ)) (ha : PA X (e :: es) t)
    (hst : starEach (e :: es) X.env = (false, eval e X.env) :: starEach es X.env := by rfl) (hpl : (backTo pos (starEach es X.env)).any (·.1) = false := by rfl)
    (ht : eval (.Call (.Attribute o m apos) (e :: es) [] pos) X.env = (do
      let ov ← eval o X.env
      standAt apos.atName
      let (f, first) ← holding [ov] (getMethod ov m pl)
      callWith pos f first (backTo pos (starEach (e :: es) X.env)) (backToKw pos (keywordEach [] X.env))) := by rfl) :
    PE X (.Call (.Attribute o m apos) (e :: es) [] pos) (tMethS C m sp E ta t) := by
  refine ⟨fun pins s σ H Q I h => ?_⟩
  refine PySem.W.methodCall_KW (pl := pl) (thn (he.run pins s σ H _ I h) fun u s1 ⟨x, H1, I1, rx, a, dx, fs, ex, ea, l, q⟩ => ?_) ht
  subst ex
  obtain rfl : u = Value.ref a := rx
  refine getmeth_ok I1 ea c hm l ?_
  refine PySem.W.callWith_K (first := [.ref a]) (h₀ := X.base) I.ok.mod.kin hm.kp (thn (ha.run pos pins s1 σ H1 _ I1 q) fun us s2 ⟨vs, H2, I2, r, q2⟩ => ⟨I2.kIn, ?_⟩) hst hpl
  exact run_fnS (us := .ref a :: us) (vs := .ref a :: vs) F hr hb (hx σ) I2 (.cons rfl r) q2
theorem pe_methE0 {pl : Sem Bool} (he : PE X o ta) (c : Cls X.K C) (hm : Meth X.K C m f) (F : FnOk X.prog X.w X.K X.mg X.base CX k f fd ps sp) (hr : Room k X.A) (hb : Binds X.K fd ps []) (hx : ∀ σ, PassesAt CX X σ (E σ))
    (ht : eval (.Call (.Attribute o m apos) [] [] pos) X.env = (do
      let ov ← eval o X.env
      standAt apos.atName
      let (f, first) ← holding [ov] (getMethod ov m pl)
      callWith pos f first (backTo pos (starEach [] X.env)) (backToKw pos (keywordEach [] X.env))) := by rfl) :
    PE X (.Call (.Attribute o m apos) [] [] pos) (tMethS C m sp E ta tNil) := by
  refine ⟨fun pins s σ H Q I h => ?_⟩
  refine PySem.W.methodCall_KW (pl := pl) (thn (he.run pins s σ H _ I h) fun u s1 ⟨x, H1, I1, rx, a, dx, fs, ex, ea, l, q⟩ => ?_) ht
  subst ex
  obtain rfl : u = Value.ref a := rx
  refine getmeth_ok I1 ea c hm l ?_
  exact PySem.W.callWith_K0 (first := [.ref a]) I1.kIn hm.kp (run_fnS (us := [.ref a]) (vs := [.ref a]) F hr hb (hx σ) I1 (.cons rfl .nil) q)
end
/-- a method of a class, in the mode md, below the level j -/
structure Me (X : Cx) (md : Md X.K) (j : Nat) (c f : Str) (n : Nat) (m : Fm) : Prop where
  ex : ∃ (k : Nat) (fa : Addr) (fd : FuncData) (ps : List Str), k ≤ j ∧ FnOk X.prog X.w X.K X.mg X.base (L2.CX X.prog X.w) k fa fd ps (spM md n m) ∧ Cls X.K (He.ga X.K c) ∧ Meth X.K (He.ga X.K c) f fa ∧ Binds X.K fd ps []
/-- an instance of the class c whose fields do not hide f -/
def insOf (c f : Str) (S : Store) : PV → Bool
  | .ref n => (match S[n]? with
    | some (.ins c' fs) => c' == c && (fs.lookup f).isNone
    | _ => false)
  | _ => false
theorem OVf.none {K : PySem.W.Frag} {g : G} {H : Hp} {f : Str} : ∀ {xs : List (Str × PV)} {vs : List (Str × V)}, OVf K g H xs vs → (xs.lookup f).isNone = true → vs.lookup f = Option.none
  | _, _, .nil, _ => rfl
  | _, _, .cons (n := f') a b, h => by
    rw [List.lookup_cons] at h ⊢
    cases e : f == f' with
    | true => rw [e] at h; cases h
    | false => rw [e] at h; exact OVf.none b h
theorem insOf_ok {K : PySem.W.Frag} {g : G} {S : Store} {H : Hp} {c f : Str} {x : PV} {u : V} (w : WR K g S H) (h : OV K g H x u) (e : insOf c f S x = true) : ∃ n a dx vs, x = .ref n ∧ u = .ref a ∧ H a = some (.ins (He.ga K c) dx vs) ∧ vs.lookup f = none ∧ FR K g x u := by
  unfold insOf at e
  split at e
  · rename_i n
    split at e
    · rename_i c' fs q
      rw [Bool.and_eq_true] at e
      obtain ⟨e1, e2⟩ := e
      have e1 := eq_of_beq e1
      subst e1
      have fr := h.fr rfl
      cases fr with
      | ref hn =>
        obtain ⟨dx, vs, h1, h2⟩ := w.s n _ q
        exact ⟨n, _, dx, vs, rfl, rfl, h1, h2.none e2, .ref hn⟩
    · cases e
  · cases e
section
variable {X : Cx} {md : Md X.K} {W : WX} {e o : Expr} {es : List Expr} {pos p apos : Pos}
/-- o.f(..), with effects -/
def xMeth (c f : Str) (m : Fm) (n : Nat) (o : Xm) (a : Xa) : Xm := fun ρ S => match o ρ S with
  | some (.ok x, S1) => if insOf c f S1 x then (match a ρ S1 with
    | some (.ok xs, S2) => if xs.length + 1 == n then m (x :: xs) S2 else none
    | some (.ex c fs, S2) => some (.ex c fs, S2)
    | none => none) else none
  | some (.ex c fs, S1) => some (.ex c fs, S1)
  | none => none
theorem rchx_meth {c f : Str} {t : TE} {ta : TA} {ob : Xm} {a : Xa} {n : Nat} {m : Fm} (ro : RchX md W t ob) (ra : RchA md W ta a) : RchX md W (tMethS (He.ga X.K c) f (spM md n m) (WE W) t ta) (xMeth c f m n ob a) := by
  intro σ H g S ρ Q res rr er hm po
  unfold xMeth at hm
  split at hm
  · rename_i x S1 q
    split at hm
    · rename_i hi
      refine ro σ H g S ρ _ (.ok x, S1) rr er q fun v g1 H1 r1 t1 ov => ?_
      obtain ⟨n', a', dx, vs, rfl, rfl, h1, h2, h3⟩ := insOf_ok (md.wr r1) ov hi
      refine ⟨a', dx, vs, rfl, h1, h2, ?_⟩
      split at hm
      · rename_i xs S2 q2
        split at hm
        · rename_i hl
          refine ra σ H1 g1 S1 ρ _ (.ok xs, S2) r1 (er.step t1) q2 fun us g2 H2 r2 t2 fs => ?_
          refine ⟨g2, S2, .ref n' :: xs, res, r2, .cons (FR.mono (md.le t2) _ _ h3) fs, by simpa using eq_of_beq hl, hm, ?_⟩
          obtain ⟨res1, S3⟩ := res
          cases res1 with
          | ok y => exact fun v g' H' r3 t3 f3 => po v g' H' r3 (md.trans t1 (md.trans t2 t3)) (.frz f3)
          | ex c fs => exact fun cls d g' H' r3 t3 x3 => po cls d g' H' r3 (md.trans t1 (md.trans t2 t3)) x3
        · cases hm
      · rename_i c' fs S2 q2
        cases hm
        exact ra σ H1 g1 S1 ρ _ (.ex c' fs, S2) r1 (er.step t1) q2 fun cls d g' H' r3 t3 x3 => po cls d g' H' r3 (md.trans t1 t3) x3
      · cases hm
    · cases hm
  · rename_i c' fs S1 q
    cases hm
    exact ro σ H g S ρ _ (.ex c' fs, S1) rr er q po
  · cases hm
theorem x_meth {c f : Str} {j n : Nat} {m : Fm} {ob : Xm} {a : Xa} {pl : Sem Bool} (F : Me X md j c f n m) (hr : Room j X.A) (tk : Takes X W) (ho : SimX X md W o ob) (ha : SimXA X md W (e :: es) a)
    (hst : starEach (e :: es) X.env = (false, eval e X.env) :: starEach es X.env := by rfl) (hpl : (backTo pos (starEach es X.env)).any (·.1) = false := by rfl)
    (ht : eval (.Call (.Attribute o f apos) (e :: es) [] pos) X.env = (do
      let ov ← eval o X.env
      standAt apos.atName
      let (f, first) ← holding [ov] (getMethod ov f pl)
      callWith pos f first (backTo pos (starEach (e :: es) X.env)) (backToKw pos (keywordEach [] X.env))) := by rfl) : SimX X md W (.Call (.Attribute o f apos) (e :: es) [] pos) (xMeth c f m n ob a) := by
  obtain ⟨k, fa, fd, ps, hk, F, hc, hme, hb⟩ := F.ex
  obtain ⟨t, po, ro⟩ := ho.ex
  obtain ⟨ta, pa, ra⟩ := ha.ex
  exact ⟨_, pe_methE (pl := pl) po hc hme F (hr.mono hk) hb (fun σ => passAt tk σ) pa hst hpl ht, rchx_meth ro ra⟩
theorem x_meth0 {c f : Str} {j n : Nat} {m : Fm} {ob : Xm} {pl : Sem Bool} (F : Me X md j c f n m) (hr : Room j X.A) (tk : Takes X W) (ho : SimX X md W o ob)
    (ht : eval (.Call (.Attribute o f apos) [] [] pos) X.env = (do
      let ov ← eval o X.env
      standAt apos.atName
      let (f, first) ← holding [ov] (getMethod ov f pl)
      callWith pos f first (backTo pos (starEach [] X.env)) (backToKw pos (keywordEach [] X.env))) := by rfl) : SimX X md W (.Call (.Attribute o f apos) [] [] pos) (xMeth c f m n ob aXNil) := by
  obtain ⟨k, fa, fd, ps, hk, F, hc, hme, hb⟩ := F.ex
  obtain ⟨t, po, ro⟩ := ho.ex
  exact ⟨_, pe_methE0 (pl := pl) po hc hme F (hr.mono hk) hb (fun σ => passAt tk σ) ht, rchx_meth ro (fun σ H g S ρ Q r rr er hm po => by cases hm; exact po [] g H rr (md.refl rr) .nil)⟩
/-- o.f(..) that reads the store alone -/
def xMethP (c f : Str) (m : Fm) (n : Nat) (o : Ex) (a : Ar) : Ex := fun ρ S => mb (o ρ S) fun x => if insOf c f S x then mb (a ρ S) fun xs => if xs.all fz && xs.length + 1 == n then (m (x :: xs) S).map (·.1) else none else none
theorem rch_meth {c f : Str} {t : TE} {ta : TA} {ob : Ex} {a : Ar} {n : Nat} {m : Fm} (ro : Rch X.K (RV X.K) W t ob) (ra : Rch X.K (RL X.K) W ta a) : Rch X.K (RV X.K) W (tMethS (He.ga X.K c) f (spM (Pm X.K) n m) (WE W) t ta) (xMethP c f m n ob a) := by
  refine Rch.bind (R' := RV X.K) (k := fun x ρ S => if insOf c f S x then mb (a ρ S) fun xs => if xs.all fz && xs.length + 1 == n then (m (x :: xs) S).map (·.1) else none else none)
    (tk := fun x σ H1 Q => ∃ a dx fs, x = .ref a ∧ H1 a = some (.ins (He.ga X.K c) dx fs) ∧ fs.lookup f = none ∧ ta σ H1 fun vs H2 => spM (Pm X.K) n m (x :: vs) H2 Q (WE W σ)) ro fun x u σ H g S ρ Q res w er hx hm po => ?_
  split at hm
  · rename_i hi
    obtain ⟨n', a', dx, vs, rfl, rfl, h1, h2, h3⟩ := insOf_ok w hx hi
    refine ⟨a', dx, vs, rfl, h1, h2, ?_⟩
    cases q1 : a ρ S with
    | none => rw [q1] at hm; cases hm
    | some z1 =>
      rw [q1] at hm
      cases z1 with
      | ex c' fs => cases hm; exact ra σ H g S ρ _ (.ex c' fs) w er q1 po
      | ok xs =>
        replace hm : (if xs.all fz && xs.length + 1 == n then (m (.ref n' :: xs) S).map (·.1) else none) = some res := hm
        split at hm
        · rename_i hc
          rw [Bool.and_eq_true] at hc
          cases q2 : m (.ref n' :: xs) S with
          | none => rw [q2] at hm; cases hm
          | some z2 =>
            rw [q2] at hm
            obtain ⟨z2, S2⟩ := z2
            have e2 : res = z2 := (Option.some.inj hm).symm
            subst e2
            refine ra σ H g S ρ _ (.ok xs) w er q1 fun us g1 H1 gr1 hxs => ?_
            refine ⟨g1, S, .ref n' :: xs, (res, S2), gr1.wr w, .cons (gr1.fr h3) (OVs.frs hxs hc.1), by simpa using eq_of_beq hc.2, q2, ?_⟩
            cases res with
            | ok y => exact fun v g' H' r3 t3 f3 => po v g' H' (gr1.trans t3.1) (.frz f3)
            | ex c fs => exact fun cls d g' H' r3 t3 x3 => po cls d g' H' (gr1.trans t3.1) x3
        · cases hm
  · cases hm
theorem e_meth {c f : Str} {j n : Nat} {m : Fm} {ob : Ex} {a : Ar} {pl : Sem Bool} (F : Me X (Pm X.K) j c f n m) (hr : Room j X.A) (tk : Takes X W) (ho : SimE X W o ob) (ha : SimA X W (e :: es) a)
    (hst : starEach (e :: es) X.env = (false, eval e X.env) :: starEach es X.env := by rfl) (hpl : (backTo pos (starEach es X.env)).any (·.1) = false := by rfl)
    (ht : eval (.Call (.Attribute o f apos) (e :: es) [] pos) X.env = (do
      let ov ← eval o X.env
      standAt apos.atName
      let (f, first) ← holding [ov] (getMethod ov f pl)
      callWith pos f first (backTo pos (starEach (e :: es) X.env)) (backToKw pos (keywordEach [] X.env))) := by rfl) : SimE X W (.Call (.Attribute o f apos) (e :: es) [] pos) (xMethP c f m n ob a) := by
  obtain ⟨k, fa, fd, ps, hk, F, hc, hme, hb⟩ := F.ex
  obtain ⟨t, po, ro⟩ := ho.ex
  obtain ⟨ta, pa, ra⟩ := ha.ex
  exact ⟨_, pe_methE (pl := pl) po hc hme F (hr.mono hk) hb (fun σ => passAt tk σ) pa hst hpl ht, rch_meth ro ra⟩
theorem e_meth0 {c f : Str} {j n : Nat} {m : Fm} {ob : Ex} {pl : Sem Bool} (F : Me X (Pm X.K) j c f n m) (hr : Room j X.A) (tk : Takes X W) (ho : SimE X W o ob)
    (ht : eval (.Call (.Attribute o f apos) [] [] pos) X.env = (do
      let ov ← eval o X.env
      standAt apos.atName
      let (f, first) ← holding [ov] (getMethod ov f pl)
      callWith pos f first (backTo pos (starEach [] X.env)) (backToKw pos (keywordEach [] X.env))) := by rfl) : SimE X W (.Call (.Attribute o f apos) [] [] pos) (xMethP c f m n ob aNil) := by
  obtain ⟨k, fa, fd, ps, hk, F, hc, hme, hb⟩ := F.ex
  obtain ⟨t, po, ro⟩ := ho.ex
  exact ⟨_, pe_methE0 (pl := pl) po hc hme F (hr.mono hk) hb (fun σ => passAt tk σ) ht, rch_meth ro (fun σ H g S ρ Q r w er hm po => by cases hm; exact po [] g H (.refl w) .nil)⟩

/-! ### this way or that way -/
theorem PE.or {t u : TE} (h : PE X e t) (k : PE X e u) : PE X e (fun σ H Q => t σ H Q ∨ u σ H Q) := ⟨fun pins s σ H Q I q => by
  rcases q with q | q
  · exact h.run pins s σ H Q I q
  · exact k.run pins s σ H Q I q⟩
def xEl (m n : Xm) : Xm := fun ρ S => match m ρ S with
  | some r => some r
  | none => n ρ S
theorem x_el {m n : Xm} (h : SimX X md W e m) (k : SimX X md W e n) : SimX X md W e (xEl m n) := by
  obtain ⟨t, p, r⟩ := h.ex
  obtain ⟨t', p', r'⟩ := k.ex
  refine ⟨_, PE.or p p', fun σ H g S ρ Q res rr er hm po => ?_⟩
  unfold xEl at hm
  split at hm
  · rename_i z q
    cases hm
    exact .inl (r σ H g S ρ Q res rr er q po)
  · exact .inr (r' σ H g S ρ Q res rr er hm po)
def eEl (m n : Ex) : Ex := fun ρ S => match m ρ S with
  | some r => some r
  | none => n ρ S
theorem e_el {m n : Ex} (h : SimE X W e m) (k : SimE X W e n) : SimE X W e (eEl m n) := by
  obtain ⟨t, p, r⟩ := h.ex
  obtain ⟨t', p', r'⟩ := k.ex
  refine ⟨_, PE.or p p', fun σ H g S ρ Q res rr er hm po => ?_⟩
  unfold eEl at hm
  split at hm
  · rename_i z q
    cases hm
    exact .inl (r σ H g S ρ Q res rr er q po)
  · exact .inr (r' σ H g S ρ Q res rr er hm po)
/-- not to be met -/
def xNone : Xm := fun _ _ => none
theorem pe_never : PE X e (fun _ _ _ => False) := ⟨fun _ _ _ _ _ _ h => h.elim⟩
theorem x_never : SimX X md W e xNone := ⟨_, pe_never, fun σ H g S ρ Q res rr er hm po => by cases hm⟩
def eNone : Ex := fun _ _ => none
theorem e_never : SimE X W e eNone := ⟨_, pe_never, fun σ H g S ρ Q res rr er hm po => by cases hm⟩
end
end L3

set_option Elab.async false
set_option linter.all false
set_option maxRecDepth 100000
set_option maxHeartbeats 4000000
namespace L3
open PySem PySem.Spec L2
set_option autoImplicit false

/-! ### what a slot owns comes to rest -/
def FrI {K : PySem.W.Frag} (md : Md K) : Prop := ∀ (g : G) (F : Hp) (a : Addr), md.fr g a → md.fr { g with F := F } a
theorem fri_P {K : PySem.W.Frag} : FrI (Pm K) := fun _ _ _ _ => trivial
theorem fri_E {K : PySem.W.Frag} : FrI (Em K) := fun _ _ _ h => h
def frzP : PV → PV
  | .ol xs => .lst xs
  | .od xs => .dct xs
  | x => x
theorem envS_rest {K : PySem.W.Frag} {md : Md K} (hF : FrI md) {H0 : Hp} {g : G} {H : Hp} {σ : St} {ρ : Env} (e : EnvS md H0 g H σ ρ) {i : Nat} {x y : PV} {a : Addr} {o : HO} (hi : ρ[i]? = some (some x)) (hx : fz x = false) (hs : σ[i]? = some (some (.ref a))) (fa : g.F a = none) (hy : fz y = true)
    (f : FR K { g with F := upd g.F a o } y (.ref a)) : EnvS md H0 { g with F := upd g.F a o } H σ (ρ.set i (some y)) := by
  have hl := e.f.r.len
  have le : GLe g { g with F := upd g.F a o } := GLe.laid fa
  refine ⟨⟨⟨by simp [hl], fun j z h => ?_, fun j k z u v h1 h2 f1 f2 s1 s2 => ?_⟩, fun j z b h hfz hs' => ?_⟩, fun j z b h hfz hs' => ?_⟩
  · rcases get_set h with ⟨rfl, _, hz⟩ | ⟨ne, h⟩
    · cases hz; exact ⟨_, hs, SlR.of_fr f⟩
    · obtain ⟨v, hv, sl⟩ := e.f.r.at_ j z h
      refine ⟨v, hv, ?_⟩
      cases z with
      | ol ys =>
        obtain ⟨b, vs, e1, e2, e3, e4⟩ := sl
        have nb : b ≠ a := fun eb => ne (e.f.r.inj j i _ x (.ref a) h hi rfl hx (by rw [hv, e1, eb]) hs)
        exact ⟨b, vs, e1, e2, FRs.mono le _ _ e3, by show upd g.F a o b = none; rw [upd_ne nb]; exact e4⟩
      | od ys =>
        obtain ⟨b, vs, e1, e2, e3, e4⟩ := sl
        have nb : b ≠ a := fun eb => ne (e.f.r.inj j i _ x (.ref a) h hi rfl hx (by rw [hv, e1, eb]) hs)
        exact ⟨b, vs, e1, e2, FRk.mono le _ _ e3, by show upd g.F a o b = none; rw [upd_ne nb]; exact e4⟩
      | _ => exact FR.mono le _ _ sl
  · rcases get_set h1 with ⟨_, _, hz⟩ | ⟨n1, h1⟩
    · cases hz; rw [hy] at f1; cases f1
    · rcases get_set h2 with ⟨_, _, hz⟩ | ⟨n2, h2⟩
      · cases hz; rw [hy] at f2; cases f2
      · exact e.f.r.inj j k z u v h1 h2 f1 f2 s1 s2
  · rcases get_set h with ⟨_, _, hz⟩ | ⟨_, h⟩
    · cases hz; rw [hy] at hfz; cases hfz
    · exact hF g _ b (e.f.o j z b h hfz hs')
  · rcases get_set h with ⟨_, _, hz⟩ | ⟨_, h⟩
    · cases hz; rw [hy] at hfz; cases hfz
    · exact e.n j z b h hfz hs'
section
variable {X : Cx} {md : Md X.K} {W : WX} {st : Stmt} {e : Expr} {pos : Pos}
def sFrz (i : Nat) (m : Sm) : Sm := fun ρ S => match ρ[i]? with
  | some (some (.ol xs)) => m (ρ.set i (some (.lst xs))) S
  | some (some (.od xs)) => m (ρ.set i (some (.dct xs))) S
  | _ => m ρ S
theorem s_frz {m : Sm} (hF : FrI md) (i : Nat) (h : SimS X md W st m) : SimS X md W st (sFrz i m) := by
  obtain ⟨t, p, r⟩ := h.ex
  refine ⟨t, p, fun σ H g S ρ gb g0 H0 S0 D res r0 rr tt er hm po => ?_⟩
  unfold sFrz at hm
  split at hm
  · rename_i xs hi
    obtain ⟨v, hv, a, vs, rfl, h1, h2, h3⟩ := er.f.r.at_ i _ hi
    obtain ⟨ra, ta⟩ := md.rest tt.t rr h1 (er.n i _ a hi rfl hv) h3 (er.f.o i _ a hi rfl hv)
    have le : GLe g { g with F := upd g.F a (.lst vs) } := GLe.laid h3
    exact r σ H _ S _ gb g0 H0 S0 D res r0 ra ⟨ta, tt.l.trans le⟩ (envS_rest hF er (y := .lst xs) hi rfl hv h3 rfl (.lst (.inl upd_same) (FRs.mono le _ _ h2))) hm po
  · rename_i xs hi
    obtain ⟨v, hv, a, vs, rfl, h1, h2, h3⟩ := er.f.r.at_ i _ hi
    obtain ⟨ra, ta⟩ := md.rest tt.t rr h1 (er.n i _ a hi rfl hv) h3 (er.f.o i _ a hi rfl hv)
    have le : GLe g { g with F := upd g.F a (.dK vs) } := GLe.laid h3
    exact r σ H _ S _ gb g0 H0 S0 D res r0 ra ⟨ta, tt.l.trans le⟩ (envS_rest hF er (y := .dct xs) hi rfl hv h3 rfl (.dct (.inl upd_same) (FRk.mono le _ _ h2))) hm po
  · exact r σ H g S ρ gb g0 H0 S0 D res r0 rr tt er hm po

/-! ### a new value: at rest, or a list or dict that nobody else has -/
def NewV {K : PySem.W.Frag} (md : Md K) (H : Hp) (g' : G) (H' : Hp) (v : V) : PV → Prop
  | .ol xs => ∃ p vs, v = .ref p ∧ H p = none ∧ H' p = some (.lst vs) ∧ g'.F p = none ∧ md.fr g' p ∧ FRs K g' xs vs
  | .od xs => ∃ p vs, v = .ref p ∧ H p = none ∧ H' p = some (.dK vs) ∧ g'.F p = none ∧ md.fr g' p ∧ FRk K g' xs vs
  | x => FR K g' x v
theorem NewV.step {K : PySem.W.Frag} {md : Md K} {H H' H2 : Hp} {g' g2 : G} {S' S2 : Store} {v : V} (t : md.T g' H' S' g2 H2 S2) : ∀ {x : PV}, NewV md H g' H' v x → NewV md H g2 H2 v x
  | .ol xs, ⟨p, vs, e, h0, h1, h2, h3, h4⟩ => by obtain ⟨q1, q2, q3⟩ := md.own t h1 h2 h3; exact ⟨p, vs, e, h0, q1, q2, q3, FRs.mono (md.le t) _ _ h4⟩
  | .od xs, ⟨p, vs, e, h0, h1, h2, h3, h4⟩ => by obtain ⟨q1, q2, q3⟩ := md.own t h1 h2 h3; exact ⟨p, vs, e, h0, q1, q2, q3, FRk.mono (md.le t) _ _ h4⟩
  | .non, h => FR.mono (md.le t) _ _ h | .bl _, h => FR.mono (md.le t) _ _ h | .int _, h => FR.mono (md.le t) _ _ h | .str _, h => FR.mono (md.le t) _ _ h | .ty _, h => FR.mono (md.le t) _ _ h
  | .tup _, h => FR.mono (md.le t) _ _ h | .lst _, h => FR.mono (md.le t) _ _ h | .dct _, h => FR.mono (md.le t) _ _ h | .ref _, h => FR.mono (md.le t) _ _ h | .kl _, h => FR.mono (md.le t) _ _ h
theorem NewV.of_fr {K : PySem.W.Frag} {md : Md K} {H : Hp} {g' : G} {H' : Hp} {v : V} {x : PV} (h : FR K g' x v) : NewV md H g' H' v x := by
  cases h
  all_goals first
    | exact FR.non | exact FR.bl _ | exact FR.int _ | exact FR.str _ | exact FR.ty _ | exact FR.tup (by assumption) (by assumption) | exact FR.lst (by assumption) (by assumption) | exact FR.dct (by assumption) (by assumption) | exact FR.ref (by assumption) | exact FR.kl (by assumption) (by assumption)
def PoF {K : PySem.W.Frag} (md : Md K) (g : G) (H : Hp) (S : Store) (σ : St) (W : WX) (Q : VK) : Res PV × Store → Prop
  | (.ok x, S') => ∀ v g' H', md.R g' S' H' → md.T g H S g' H' S' → NewV md H g' H' v x → Q v H'
  | (.ex c fs, S') => ∀ cls d g' H', md.R g' S' H' → md.T g H S g' H' S' → XR K g' H' c fs cls d → W cls d σ H'
def RchF {K : PySem.W.Frag} (md : Md K) (W : WX) (t : TE) (m : Xm) : Prop :=
  ∀ (σ : St) (H : Hp) (g : G) (S : Store) (ρ : Env) (Q : VK) (r : Res PV × Store), md.R g S H → EnvF md g H σ ρ → m ρ S = some r → PoF md g H S σ W Q r → t σ H Q
structure SimF (X : Cx) (md : Md X.K) (W : WX) (e : Expr) (m : Xm) : Prop where
  ex : ∃ t : TE, PE X e t ∧ RchF md W t m
def fX (m : Xm) : Xm := fun ρ S => match m ρ S with
  | some (.ok x, S') => if fz x then some (.ok x, S') else none
  | some (.ex c fs, S') => some (.ex c fs, S')
  | none => none
theorem f_x {m : Xm} (h : SimX X md W e m) : SimF X md W e (fX m) := by
  obtain ⟨t, p, r⟩ := h.ex
  refine ⟨t, p, fun σ H g S ρ Q res rr er hm po => ?_⟩
  unfold fX at hm
  split at hm
  · rename_i x S' q
    split at hm
    · rename_i hx
      cases hm
      exact r σ H g S ρ Q (.ok x, S') rr er q fun v g' H' r1 t1 ov => po v g' H' r1 t1 (.of_fr (ov.fr hx))
    · cases hm
  · rename_i c fs S' q
    cases hm
    exact r σ H g S ρ Q (.ex c fs, S') rr er q po
  · cases hm
def fL (m : Xa) : Xm := fun ρ S => match m ρ S with
  | some (.ok xs, S') => some (.ok (.ol xs), S')
  | some (.ex c fs, S') => some (.ex c fs, S')
  | none => none
theorem f_l {m : Xa} (h : SimXL X md W e m) : SimF X md W e (fL m) := by
  obtain ⟨t, p, r⟩ := h.ex
  refine ⟨t, p, fun σ H g S ρ Q res rr er hm po => ?_⟩
  unfold fL at hm
  split at hm
  · rename_i xs S' q
    cases hm
    exact r σ H g S ρ Q (.ok xs, S') rr er q fun p vs g' H' r1 t1 h1 h2 h3 h4 h5 => po _ g' H' r1 t1 ⟨p, vs, rfl, h1, h2, h3, h4, h5⟩
  · rename_i c fs S' q
    cases hm
    exact r σ H g S ρ Q (.ex c fs, S') rr er q po
  · cases hm
/-- {} that may be changed -/
def fD : Xm := fun _ S => some (.ok (.od []), S)
theorem f_d : SimF X md W (.Dict [] [] pos) fD := by
  refine ⟨_, pe_dnewK, fun σ H g S ρ Q res rr er hm po => ?_⟩
  cases hm
  intro p hp
  have gr : Grow g H g (upd H p (.dK [])) := .loose (md.wr rr) hp
  obtain ⟨r1, t1⟩ := md.grow rr gr
  refine po _ g _ r1 t1 ⟨p, [], rfl, hp, upd_same, ?_, md.new rr gr hp, .nil⟩
  cases e : g.F p with
  | none => rfl
  | some u => rcases (md.wr rr).f p u (.inl e) with q | ⟨_, q⟩ <;> rw [hp] at q <;> cases q
/-- the slot i takes a new value -/
theorem EnvS.setN {K : PySem.W.Frag} {md : Md K} {H0 H : Hp} {g' : G} {H' : Hp} {σ : St} {ρ : Env} (e : EnvS md H0 g' H' σ ρ) (h0 : ∀ p, H p = none → H0 p = none) {i : Nat} {x : PV} {v : V} (n : NewV md H g' H' v x)
    (hn : ∀ (p : Addr) (j : Nat) (y : PV), v = .ref p → fz x = false → j ≠ i → ρ[j]? = some (some y) → fz y = false → σ[j]? ≠ some (some (.ref p))) : EnvS md H0 g' H' (σ.set i (some v)) (ρ.set i (some x)) := by
  cases x with
  | ol xs =>
    obtain ⟨p, vs, rfl, q0, q1, q2, q3, q4⟩ := n
    exact e.setO (x := .ol xs) ⟨p, vs, rfl, q1, q4, q2⟩ rfl (h0 p q0) q3 fun j y hj hy hfy => hn p j y rfl rfl hj hy hfy
  | od xs =>
    obtain ⟨p, vs, rfl, q0, q1, q2, q3, q4⟩ := n
    exact e.setO (x := .od xs) ⟨p, vs, rfl, q1, q4, q2⟩ rfl (h0 p q0) q3 fun j y hj hy hfy => hn p j y rfl rfl hj hy hfy
  | _ => exact e.set n (FR.fz n)
/-- what a slot owns was there before -/
theorem EnvS.old {K : PySem.W.Frag} {md : Md K} {H0 : Hp} {g : G} {H : Hp} {σ : St} {ρ : Env} (e : EnvS md H0 g H σ ρ) {j : Nat} {y : PV} {p : Addr} (hp : H p = none) (hy : ρ[j]? = some (some y)) (hf : fz y = false) : σ[j]? ≠ some (some (.ref p)) := fun hs => by
  obtain ⟨v, hv, sl⟩ := e.f.r.at_ j y hy
  rw [hv] at hs
  have e1 : v = .ref p := Option.some.inj (Option.some.inj hs)
  subst e1
  cases y with
  | ol ys => obtain ⟨a, vs, e, h, _⟩ := sl; cases e; rw [hp] at h; cases h
  | od ys => obtain ⟨a, vs, e, h, _⟩ := sl; cases e; rw [hp] at h; cases h
  | _ => cases hf
theorem NewV.free {K : PySem.W.Frag} {md : Md K} {H : Hp} {g' : G} {H' : Hp} {p : Addr} : ∀ {x : PV}, NewV md H g' H' (.ref p) x → fz x = false → H p = none ∧ H' p ≠ none
  | .ol xs, ⟨a, vs, e, h0, h1, _⟩, _ => by cases e; exact ⟨h0, by rw [h1]; simp⟩
  | .od xs, ⟨a, vs, e, h0, h1, _⟩, _ => by cases e; exact ⟨h0, by rw [h1]; simp⟩
  | .non, _, h => by cases h
  | .bl _, _, h => by cases h
  | .int _, _, h => by cases h
  | .str _, _, h => by cases h
  | .ty _, _, h => by cases h
  | .tup _, _, h => by cases h
  | .lst _, _, h => by cases h
  | .dct _, _, h => by cases h
  | .ref _, _, h => by cases h
  | .kl _, _, h => by cases h
/-- x = e -/
def sSetF (i : Nat) (m : Xm) : Sm := fun ρ S => match m ρ S with
  | some (.ok x, S') => some (.nx (ρ.set i (some x)), S')
  | some (.ex c fs, S') => some (.xx c fs ρ, S')
  | none => none
theorem s_setF {i : Nat} {x : Str} {pos' : Pos} {m : Xm} (hN : X.N.Nodup) (hi : X.N[i]? = some x) (hx : Loc X.env.scope x) (he : SimF X md W e m) (hs : swapsWith e (some (.Name x pos')) pos.line X.env = pure false := by rfl)
    (hf : X.fn x = true ∨ X.env.scope.names.lookup x = some .local := by first | exact .inl rfl | exact .inr rfl | assumption) : SimS X md W (.Assign [.Name x pos'] e pos) (sSetF i m) := by
  obtain ⟨t, p, r⟩ := he.ex
  refine ⟨_, ps_set hN hi hx p hs hf, fun σ H g S ρ gb g0 H0 S0 D res r0 rr tt er hm po => ?_⟩
  unfold sSetF at hm
  split at hm
  · rename_i x S' q
    cases hm
    refine r σ H g S ρ _ (.ok x, S') rr er.f q fun v g' H' r1 t1 nv => ?_
    exact po _ g' H' r1 (tt.step t1) ((er.step t1).setN (fun p hp => md.free tt.t hp) nv fun p j y ev hfx hj hy hfy => by subst ev; exact er.old (nv.free hfx).1 hy hfy)
  · rename_i c fs S' q
    cases hm
    exact r σ H g S ρ _ (.ex c fs, S') rr er.f q fun cls d g' H' r1 t1 xr => po cls d σ g' H' r1 (tt.step t1) (er.step t1) xr
  · cases hm
/-- x, y = a, b -/
def sPar2 (i j : Nat) (m n : Xm) : Sm := fun ρ S => match m ρ S with
  | some (.ok x, S1) => (match n ρ S1 with
    | some (.ok y, S2) => some (.nx ((ρ.set i (some x)).set j (some y)), S2)
    | some (.ex c fs, S2) => some (.xx c fs ρ, S2)
    | none => none)
  | some (.ex c fs, S1) => some (.xx c fs ρ, S1)
  | none => none
theorem s_par2 {i j : Nat} {x y : Str} {a b : Expr} {m n : Xm} {px py pt : Pos} {kt k2 pt2} (hc : X.calm = true) (hN : X.N.Nodup) (hi : X.N[i]? = some x) (hj : X.N[j]? = some y) (hij : i ≠ j)
    (hx : X.env.scope.names.lookup x = some .local) (hy : X.env.scope.names.lookup y = some .local) (ha : SimF X md W a m) (hb : SimF X md W b n)
    (hw : swappedStores [.Tuple [.Name x px, .Name y py] kt pt] (.Tuple [a, b] k2 pt2) X.env = pure (some [x, y]) := by rfl)
    (hs : swapsWithSole [.Tuple [.Name x px, .Name y py] kt pt] (.Tuple [a, b] k2 pt2) pos.line X.env = pure false := by rfl)
    (s1 : starEach [a, b] X.env = (false, eval a X.env) :: starEach [b] X.env := by rfl) (s2 : starEach [b] X.env = (false, eval b X.env) :: starEach [] X.env := by rfl) :
    SimS X md W (.Assign [.Tuple [.Name x px, .Name y py] kt pt] (.Tuple [a, b] k2 pt2) pos) (sPar2 i j m n) := by
  obtain ⟨t1, p1, r1⟩ := ha.ex
  obtain ⟨t2, p2, r2⟩ := hb.ex
  refine ⟨_, ps_par hc hN hi hj hij hx hy (pa_cons p1 (pa_cons p2 pa_nil s2) s1) hw hs, fun σ H g S ρ gb g0 H0 S0 D res r0 rr tt er hm po => ?_⟩
  unfold sPar2 at hm
  split at hm
  · rename_i u S1 q1
    refine r1 σ H g S ρ _ (.ok u, S1) rr er.f q1 fun v g1 H1 rr1 tt1 nv => ?_
    split at hm
    · rename_i u2 S2 q2
      cases hm
      refine r2 σ H1 g1 S1 ρ _ (.ok u2, S2) rr1 (er.step tt1).f q2 fun v2 g2 H2 rr2 tt2 nv2 => ?_
      refine ⟨v, v2, rfl, po _ g2 H2 rr2 ((tt.step tt1).step tt2) ?_⟩
      have e1 := (er.step tt1).step tt2
      have e2 := e1.setN (i := i) (fun p hp => md.free tt.t hp) (nv.step tt2) fun p j y ev hfx hj hy hfy => by subst ev; exact er.old (nv.free hfx).1 hy hfy
      refine e2.setN (i := j) (fun p hp => md.free tt.t (md.free tt1 hp)) nv2 fun p k y ev hfx hk hy hfy hs => ?_
      subst ev
      obtain ⟨z1, z2⟩ := nv2.free hfx
      rcases get_set hy with ⟨e3, hl, ey⟩ | ⟨ne, hy⟩
      · cases ey
        subst e3
        have hl' : k < σ.length := by rw [← er.f.r.len]; exact hl
        rw [List.getElem?_set_self hl'] at hs
        cases hs
        exact (nv.free hfy).2 z1
      · rw [List.getElem?_set_ne (Ne.symm ne)] at hs
        exact (er.step tt1).old z1 hy hfy hs
    · rename_i c fs S2 q2
      cases hm
      exact r2 σ H1 g1 S1 ρ _ (.ex c fs, S2) rr1 (er.step tt1).f q2 fun cls d g' H' rr2 tt2 xr => po cls d σ g' H' rr2 ((tt.step tt1).step tt2) ((er.step tt1).step tt2) xr
    · cases hm
  · rename_i c fs S1 q1
    cases hm
    exact r1 σ H g S ρ _ (.ex c fs, S1) rr er.f q1 fun cls d g' H' rr1 tt1 xr => po cls d σ g' H' rr1 (tt.step tt1) (er.step tt1) xr
  · cases hm
/-- x, y, z = a, b, c -/
def sPar3 (i j l : Nat) (m n k : Xm) : Sm := fun ρ S => match m ρ S with
  | some (.ok x, S1) => (match n ρ S1 with
    | some (.ok y, S2) => (match k ρ S2 with
      | some (.ok z, S3) => some (.nx (((ρ.set i (some x)).set j (some y)).set l (some z)), S3)
      | some (.ex c fs, S3) => some (.xx c fs ρ, S3)
      | none => none)
    | some (.ex c fs, S2) => some (.xx c fs ρ, S2)
    | none => none)
  | some (.ex c fs, S1) => some (.xx c fs ρ, S1)
  | none => none
theorem s_par3 {i j l : Nat} {x y z : Str} {a b c : Expr} {m n k : Xm} {px py pz pt : Pos} {kt k2 pt2} (hc : X.calm = true) (hN : X.N.Nodup) (hi : X.N[i]? = some x) (hj : X.N[j]? = some y) (hl : X.N[l]? = some z) (hij : i ≠ j) (hil : i ≠ l) (hjl : j ≠ l)
    (hx : X.env.scope.names.lookup x = some .local) (hy : X.env.scope.names.lookup y = some .local) (hz : X.env.scope.names.lookup z = some .local) (ha : SimF X md W a m) (hb : SimF X md W b n) (hcc : SimF X md W c k)
    (hw : swappedStores [.Tuple [.Name x px, .Name y py, .Name z pz] kt pt] (.Tuple [a, b, c] k2 pt2) X.env = pure (some [x, y, z]) := by rfl)
    (hs : swapsWithSole [.Tuple [.Name x px, .Name y py, .Name z pz] kt pt] (.Tuple [a, b, c] k2 pt2) pos.line X.env = pure false := by rfl)
    (s1 : starEach [a, b, c] X.env = (false, eval a X.env) :: starEach [b, c] X.env := by rfl) (s2 : starEach [b, c] X.env = (false, eval b X.env) :: starEach [c] X.env := by rfl) (s3 : starEach [c] X.env = (false, eval c X.env) :: starEach [] X.env := by rfl) :
    SimS X md W (.Assign [.Tuple [.Name x px, .Name y py, .Name z pz] kt pt] (.Tuple [a, b, c] k2 pt2) pos) (sPar3 i j l m n k) := by
  obtain ⟨t1, p1, r1⟩ := ha.ex
  obtain ⟨t2, p2, r2⟩ := hb.ex
  obtain ⟨t3, p3, r3⟩ := hcc.ex
  refine ⟨_, ps_par3 hc hN hi hj hl hij hil hjl hx hy hz (pa_cons p1 (pa_cons p2 (pa_cons p3 pa_nil s3) s2) s1) hw hs, fun σ H g S ρ gb g0 H0 S0 D res r0 rr tt er hm po => ?_⟩
  unfold sPar3 at hm
  split at hm
  · rename_i u S1 q1
    refine r1 σ H g S ρ _ (.ok u, S1) rr er.f q1 fun v g1 H1 rr1 tt1 nv => ?_
    have er1 := er.step tt1
    split at hm
    · rename_i u2 S2 q2
      refine r2 σ H1 g1 S1 ρ _ (.ok u2, S2) rr1 er1.f q2 fun v2 g2 H2 rr2 tt2 nv2 => ?_
      have er2 := er1.step tt2
      split at hm
      · rename_i u3 S3 q3
        cases hm
        refine r3 σ H2 g2 S2 ρ _ (.ok u3, S3) rr2 er2.f q3 fun v3 g3 H3 rr3 tt3 nv3 => ?_
        have er3 := er2.step tt3
        refine ⟨v, v2, v3, rfl, po _ g3 H3 rr3 (((tt.step tt1).step tt2).step tt3) ?_⟩
        have hlen := er.f.r.len
        have e2 := er3.setN (i := i) (fun p hp => md.free tt.t hp) ((nv.step tt2).step tt3) fun p j y ev hfx hj hy hfy => by subst ev; exact er.old (nv.free hfx).1 hy hfy
        have e4 := e2.setN (i := j) (fun p hp => md.free tt.t (md.free tt1 hp)) (nv2.step tt3) fun p k y ev hfx hk hy hfy hs => by
          subst ev
          obtain ⟨z1, z2⟩ := nv2.free hfx
          rcases get_set hy with ⟨e3, hl, ey⟩ | ⟨ne, hy⟩
          · cases ey
            subst e3
            have hl' : k < σ.length := by rw [← hlen]; exact hl
            rw [List.getElem?_set_self hl'] at hs
            cases hs
            exact (nv.free hfy).2 z1
          · rw [List.getElem?_set_ne (Ne.symm ne)] at hs
            exact er1.old z1 hy hfy hs
        refine e4.setN (i := l) (fun p hp => md.free tt.t (md.free tt1 (md.free tt2 hp))) nv3 fun p k y ev hfx hk hy hfy hs => ?_
        subst ev
        obtain ⟨z1, z2⟩ := nv3.free hfx
        rcases get_set hy with ⟨e3, hl3, ey⟩ | ⟨ne, hy⟩
        · cases ey
          subst e3
          have hl' : k < (σ.set i (some v)).length := by
            rw [List.length_set, ← hlen]
            rw [List.length_set] at hl3; exact hl3
          rw [List.getElem?_set_self hl'] at hs
          cases hs
          exact (nv2.free hfy).2 z1
        · rw [List.getElem?_set_ne (Ne.symm ne)] at hs
          rcases get_set hy with ⟨e3, hl3, ey⟩ | ⟨ne2, hy⟩
          · cases ey
            subst e3
            have hl' : k < σ.length := by rw [← hlen]; exact hl3
            rw [List.getElem?_set_self hl'] at hs
            cases hs
            exact ((nv.step tt2).free hfy).2 z1
          · rw [List.getElem?_set_ne (Ne.symm ne2)] at hs
            exact er2.old z1 hy hfy hs
      · rename_i c fs S3 q3
        cases hm
        exact r3 σ H2 g2 S2 ρ _ (.ex c fs, S3) rr2 er2.f q3 fun cls d g' H' rr3 tt3 xr => po cls d σ g' H' rr3 (((tt.step tt1).step tt2).step tt3) (er2.step tt3) xr
      · cases hm
    · rename_i c fs S2 q2
      cases hm
      exact r2 σ H1 g1 S1 ρ _ (.ex c fs, S2) rr1 er1.f q2 fun cls d g' H' rr2 tt2 xr => po cls d σ g' H' rr2 ((tt.step tt1).step tt2) (er1.step tt2) xr
    · cases hm
  · rename_i c fs S1 q1
    cases hm
    exact r1 σ H g S ρ _ (.ex c fs, S1) rr er.f q1 fun cls d g' H' rr1 tt1 xr => po cls d σ g' H' rr1 (tt.step tt1) (er.step tt1) xr
  · cases hm

/-! ### append, extend, the argument with effects -/
def sAppendX (i : Nat) (m : Xm) : Sm := fun ρ S => match ρ[i]? with
  | some (some (.ol xs)) => (match m ρ S with
    | some (.ok y, S') => if fz y && decide (xs.length < most) then some (.nx (ρ.set i (some (.ol (xs ++ [y])))), S') else none
    | some (.ex c fs, S') => some (.xx c fs ρ, S')
    | none => none)
  | _ => none
theorem s_appendX {i : Nat} {x : Str} {pos' apos : Pos} {epos : Pos} {m : Xm} (hN : X.N[i]? = some x) (hv : Vis X.env.scope x) (he : SimX X md W e m) (hd : (x == ("__debug__" : Str)) = false := by decide) (hcd : (x == ("__classdict__" : Str)) = false := by decide)
    (hbase : attributeBase (.Name x pos') "append" X.env (eval (.Name x pos') X.env) = eval (.Name x pos') X.env := by rfl)
    (hfew : ((backTo pos (starEach [e] X.env)).all (fun x => !x.1) && (backToKw pos (keywordEach [] X.env)).all (fun x => x.1.isSome)
      && decide ([e].length + ([] : List Keyword).length + (if ([] : List Keyword).isEmpty then 0 else 1) < 30)) = true := by rfl)
    (hline : (apos.endLine == pos.line) = true := by rfl) (hs : starEach [e] X.env = (false, eval e X.env) :: starEach [] X.env := by rfl) (hplain : (backTo pos (starEach [] X.env)).any (·.1) = false := by rfl)
    (hsw : swapsWith (.Call (.Attribute (.Name x pos') "append" apos) [e] [] pos) none epos.line X.env = pure false := by rfl) :
    SimS X md W (.Expr (.Call (.Attribute (.Name x pos') "append" apos) [e] [] pos) epos) (sAppendX i m) := by
  obtain ⟨t, p, r⟩ := he.ex
  refine ⟨_, ps_expr (pe_bm PySem.F.plainAttrs_list PySem.F.slot_list_append PySem.F.type_list_append mt_append (pe_var hN hv hd hcd) (pa_cons p pa_nil hs) hbase hfew hline hs hplain) hsw, fun σ H g S ρ gb g0 H0 S0 D res r0 rr tt er hm po => ?_⟩
  unfold sAppendX at hm
  split at hm
  · rename_i xs hi
    obtain ⟨v, hv, a, vs, rfl, h1, h2, h3⟩ := er.f.r.at_ i _ hi
    refine ⟨_, hv, .inl ⟨rfl, _, .inl (.inl h1)⟩, ?_⟩
    split at hm
    · rename_i y S' q
      split at hm
      · rename_i hc
        cases hm
        simp only [Bool.and_eq_true, decide_eq_true_eq] at hc
        refine r σ H g S ρ _ (.ok y, S') rr er.f q fun u g' H' r1 t1 ov => ?_
        have er1 := er.step t1
        obtain ⟨q1, q2, q3⟩ := md.own t1 h1 h3 (er.f.o i _ a hi rfl hv)
        have f2 : FRs X.K g' (xs ++ [y]) (vs ++ [u]) := (FRs.mono (md.le t1) _ _ h2).append (.cons (ov.fr hc.1) .nil)
        refine ⟨a, vs, u, rfl, rfl, q1, ?_, ?_⟩
        · rw [← h2.length]; exact Nat.lt_of_lt_of_le hc.2 most_le
        · obtain ⟨r2, t2⟩ := md.put (.lst (vs ++ [u])) r0 (tt.step t1).t r1 q1 (er.n i _ a hi rfl hv) q2 q3
          refine po σ g' _ r2 ⟨t2, (tt.step t1).l⟩ (er1.upd hi rfl hv rfl ⟨a, _, rfl, upd_same, f2, q2⟩)
      · cases hm
    · rename_i c fs S' q
      cases hm
      exact r σ H g S ρ _ (.ex c fs, S') rr er.f q fun cls d g' H' r1 t1 xr => po cls d σ g' H' r1 (tt.step t1) (er.step t1) xr
    · cases hm
  · cases hm
def sExtendX (i : Nat) (m : Xm) : Sm := fun ρ S => match ρ[i]? with
  | some (some (.ol xs)) => (match m ρ S with
    | some (.ok y, S') => (match y with
      | .lst ys => if decide (xs.length + ys.length ≤ most) then some (.nx (ρ.set i (some (.ol (xs ++ ys)))), S') else none
      | .tup ys => if decide (xs.length + ys.length ≤ most) then some (.nx (ρ.set i (some (.ol (xs ++ ys)))), S') else none
      | _ => none)
    | some (.ex c fs, S') => some (.xx c fs ρ, S')
    | none => none)
  | _ => none
theorem s_extendX {i : Nat} {x : Str} {pos' apos : Pos} {epos : Pos} {m : Xm} (hN : X.N[i]? = some x) (hv : Vis X.env.scope x) (he : SimX X md W e m) (hd : (x == ("__debug__" : Str)) = false := by decide) (hcd : (x == ("__classdict__" : Str)) = false := by decide)
    (hbase : attributeBase (.Name x pos') "extend" X.env (eval (.Name x pos') X.env) = eval (.Name x pos') X.env := by rfl)
    (hfew : ((backTo pos (starEach [e] X.env)).all (fun x => !x.1) && (backToKw pos (keywordEach [] X.env)).all (fun x => x.1.isSome)
      && decide ([e].length + ([] : List Keyword).length + (if ([] : List Keyword).isEmpty then 0 else 1) < 30)) = true := by rfl)
    (hline : (apos.endLine == pos.line) = true := by rfl) (hs : starEach [e] X.env = (false, eval e X.env) :: starEach [] X.env := by rfl) (hplain : (backTo pos (starEach [] X.env)).any (·.1) = false := by rfl)
    (hsw : swapsWith (.Call (.Attribute (.Name x pos') "extend" apos) [e] [] pos) none epos.line X.env = pure false := by rfl) :
    SimS X md W (.Expr (.Call (.Attribute (.Name x pos') "extend" apos) [e] [] pos) epos) (sExtendX i m) := by
  obtain ⟨t, p, r⟩ := he.ex
  refine ⟨_, ps_expr (pe_bm PySem.F.plainAttrs_list PySem.F.slot_list_extend PySem.F.type_list_extend mt_extR (pe_var hN hv hd hcd) (pa_cons p pa_nil hs) hbase hfew hline hs hplain) hsw, fun σ H g S ρ gb g0 H0 S0 D res r0 rr tt er hm po => ?_⟩
  unfold sExtendX at hm
  split at hm
  · rename_i xs hi
    obtain ⟨v, hv, a, vs, rfl, h1, h2, h3⟩ := er.f.r.at_ i _ hi
    refine ⟨_, hv, .inl ⟨rfl, _, .inl (.inl h1)⟩, ?_⟩
    split at hm
    · rename_i y S' q
      refine r σ H g S ρ _ (.ok y, S') rr er.f q fun u g' H' r1 t1 ov => ?_
      have er1 := er.step t1
      obtain ⟨q1, q2, q3⟩ := md.own t1 h1 h3 (er.f.o i _ a hi rfl hv)
      have main : ∀ (ys : List PV) (zs : List V) (b : Addr), u = .ref b → (Rd H' b (.lst zs) ∨ SqT X.K H' b zs) → FRs X.K g' ys zs → (if decide (xs.length + ys.length ≤ most) = true then some (SR.nx (ρ.set i (some (.ol (xs ++ ys)))), S') else none) = some res → rExtR X.K (.ref a) [u] H' (fun _ H1 => D.nx σ H1) := fun ys zs b hu hb hf hm => by
        split at hm
        · rename_i hc
          cases hm
          have f2 : FRs X.K g' (xs ++ ys) (vs ++ zs) := (FRs.mono (md.le t1) _ _ h2).append hf
          refine ⟨a, b, vs, zs, rfl, by rw [hu], q1, hb, by rw [← h2.length, ← hf.length]; exact Nat.le_trans (of_decide_eq_true hc) most_le, ?_⟩
          obtain ⟨r2, t2⟩ := md.put (.lst (vs ++ zs)) r0 (tt.step t1).t r1 q1 (er.n i _ a hi rfl hv) q2 q3
          exact po σ g' _ r2 ⟨t2, (tt.step t1).l⟩ (er1.upd hi rfl hv rfl ⟨a, _, rfl, upd_same, f2, q2⟩)
        · cases hm
      split at hm
      · rename_i ys
        cases ov.fr rfl with
        | lst s f => exact main ys _ _ rfl (.inl ((md.wr r1).f _ _ s)) f hm
      · rename_i ys
        cases ov.fr rfl with
        | tup s f => exact main ys _ _ rfl (.inr ((md.wr r1).f.sqT s)) f hm
      · cases hm
    · rename_i c fs S' q
      cases hm
      exact r σ H g S ρ _ (.ex c fs, S') rr er.f q fun cls d g' H' r1 t1 xr => po cls d σ g' H' r1 (tt.step t1) (er.step t1) xr
    · cases hm
  · cases hm

/-! ### try, nothing raised within -/
def sTry0 (m : Sm) : Sm := fun ρ S => match m ρ S with
  | some (.xx _ _ _, _) => none
  | r => r
theorem s_try0 {body : List Stmt} {h₀ : ExceptHandler} {hs : List ExceptHandler} {m : Sm} (h : SimB X.nox md WX0 body m) : SimS X md W (.Try body (h₀ :: hs) [] [] pos) (sTry0 m) := by
  obtain ⟨t, p, r⟩ := h.ex
  refine ⟨_, ps_try_thru0 p, fun σ H g S ρ gb g0 H0 S0 D res r0 rr tt er hm po => ?_⟩
  unfold sTry0 at hm
  split at hm
  · cases hm
  · rename_i n1
    obtain ⟨res1, S1⟩ := res
    refine r σ H g S ρ gb g0 H0 S0 D (res1, S1) r0 rr tt er hm ?_
    cases res1 with
    | nx ρ' => exact po
    | ct ρ' => exact po
    | bk ρ' => exact po
    | rt x => exact po
    | xx c fs ρ' => exact absurd hm (n1 c fs ρ' S1)
end
end L3

set_option Elab.async false
set_option linter.all false
set_option maxRecDepth 100000
set_option maxHeartbeats 4000000
namespace L3
open PySem PySem.Spec L2
set_option autoImplicit false

/-! ### operators with their rules, in one -/
structure OpK (X : Cx) (f : Value → Value → Sem Value) (op : PV → PV → Option PV) : Prop where
  ex : ∃ r : R2, OpR X f r ∧ OpOk X.K op r
theorem OpK.or {X : Cx} {f : Value → Value → Sem Value} {a b : PV → PV → Option PV} (h : OpK X f a) (k : OpK X f b) : OpK X f (oE a b) := by
  obtain ⟨r, p, q⟩ := h.ex
  obtain ⟨r', p', q'⟩ := k.ex
  exact ⟨_, L2.OpR.or p p', OpOk.or q q'⟩
section
variable {X : Cx}
theorem k_add : OpK X (binaryOp .Add) oAdd := OpK.or ⟨_, op_add, oI0_ok fun _ _ _ => .int _⟩ (OpK.or ⟨_, op_add_str, oSAdd_ok⟩ (OpK.or ⟨_, op_catA, oTCat_ok⟩ ⟨_, op_catR, oLCat_ok⟩))
theorem k_sub : OpK X (binaryOp .Sub) oSub := ⟨_, op_sub, oI0_ok fun _ _ _ => .int _⟩
theorem k_mul : OpK X (binaryOp .Mult) oMul := OpK.or ⟨_, op_mul, oI_ok cMul_ok fun _ _ _ => .int _⟩ (OpK.or ⟨_, op_repT, oRepT_ok⟩ ⟨_, op_repR, oRepL_ok⟩)
theorem k_mod : OpK X (binaryOp .Mod) oMod := ⟨_, op_mod, oI_ok cPos_ok fun _ _ _ => .int _⟩
theorem k_fdiv : OpK X (binaryOp .FloorDiv) oFdiv := ⟨_, op_fdiv, oI_ok cDiv_ok fun _ _ _ => .int _⟩
theorem k_lt (hu : X.A.units + 64 < cLine) : OpK X (compareOp .Lt) oLt := OpK.or ⟨_, op_lt, oI0_ok fun _ _ _ => .bl _⟩ ⟨_, op_ltD hu, oOrd_ok⟩
theorem k_le (hu : X.A.units + 64 < cLine) : OpK X (compareOp .LtE) oLe := OpK.or ⟨_, op_le, oI0_ok fun _ _ _ => .bl _⟩ ⟨_, op_leD hu, oOrd_ok⟩
theorem k_gt (hu : X.A.units + 64 < cLine) : OpK X (compareOp .Gt) oGt := OpK.or ⟨_, op_gt, oI0_ok fun _ _ _ => .bl _⟩ ⟨_, op_gtD hu, oOrd_ok⟩
theorem k_ge (hu : X.A.units + 64 < cLine) : OpK X (compareOp .GtE) oGe := OpK.or ⟨_, op_ge, oI0_ok fun _ _ _ => .bl _⟩ ⟨_, op_geD hu, oOrd_ok⟩
theorem k_eq (hu : X.A.units + 64 < cLine) : OpK X (compareOp .Eq) oEq := ⟨_, op_eqP hu, oEq_ok⟩
theorem k_ne (hu : X.A.units + 64 < cLine) : OpK X (compareOp .NotEq) oNe := ⟨_, op_neP hu, oNe_ok⟩
theorem k_in (hu : X.A.units + 64 < cLine) : OpK X (compareOp .In) oInA := ⟨_, op_inA hu, oInA_ok⟩
theorem k_notin (hu : X.A.units + 64 < cLine) : OpK X (compareOp .NotIn) oNotInA := ⟨_, op_notInA hu, oNotInA_ok⟩
theorem k_is : OpK X (compareOp .Is) oIsN := ⟨_, op_isN, oIsN_ok⟩
theorem k_isnot : OpK X (compareOp .IsNot) oNotN := ⟨_, op_notN, oNotN_ok⟩
end
structure IpK (X : Cx) (o : Operator) (op : PV → PV → Option PV) : Prop where
  ex : ∃ r : R2, PIp X o r ∧ OpOk X.K op r
section
variable {X : Cx} {md : Md X.K} {W : WX} {a b c e : Expr} {es : List Expr} {pos : Pos}
theorem E_op {o : Operator} {op : PV → PV → Option PV} {ma mb' : Ex} (ho : OpK X (binaryOp o) op) (ha : SimE X W a ma) (hb : SimE X W b mb') : SimE X W (.BinOp a o b pos) (xOp op ma mb') := by
  obtain ⟨r, p, q⟩ := ho.ex
  exact e_op p q ha hb
theorem X_op {o : Operator} {op : PV → PV → Option PV} {ma mb' : Xm} (ho : OpK X (binaryOp o) op) (ha : SimX X md W a ma) (hb : SimX X md W b mb') : SimX X md W (.BinOp a o b pos) (xOpX op ma mb') := by
  obtain ⟨r, p, q⟩ := ho.ex
  exact x_op p q ha hb
theorem E_cmp {o : CmpOp} {op : PV → PV → Option PV} {ma mb' : Ex} (ho : OpK X (compareOp o) op) (ha : SimE X W a ma) (hb : SimE X W b mb') (hm : behindInMarks o b = false := by rfl) : SimE X W (.Compare a [o] [b] pos) (xOp op ma mb') := by
  obtain ⟨r, p, q⟩ := ho.ex
  exact e_cmp p q ha hb hm
theorem X_cmp {o : CmpOp} {op : PV → PV → Option PV} {ma mb' : Xm} (ho : OpK X (compareOp o) op) (ha : SimX X md W a ma) (hb : SimX X md W b mb') (hm : behindInMarks o b = false := by rfl) : SimX X md W (.Compare a [o] [b] pos) (xOpX op ma mb') := by
  obtain ⟨r, p, q⟩ := ho.ex
  exact x_cmp p q ha hb hm
theorem T_cmp {o : CmpOp} {op : PV → PV → Option PV} {ma mb' : Ex} (ho : OpK X (compareOp o) op) (ha : SimE X W a ma) (hb : SimE X W b mb') (hm : behindInMarks o b = false := by rfl) : SimT X W (.Compare a [o] [b] pos) (bT (xOp op ma mb')) := by
  obtain ⟨r, p, q⟩ := ho.ex
  exact t_cmp p q ha hb hm
theorem TX_cmp {o : CmpOp} {op : PV → PV → Option PV} {ma mb' : Xm} (ho : OpK X (compareOp o) op) (ha : SimX X md W a ma) (hb : SimX X md W b mb') (hm : behindInMarks o b = false := by rfl) : SimTX X md W (.Compare a [o] [b] pos) (bTX (xOpX op ma mb')) := by
  obtain ⟨r, p, q⟩ := ho.ex
  exact tx_cmp p q ha hb hm
theorem E_chain {o o' : CmpOp} {op op' : PV → PV → Option PV} {ma mb' mc : Ex} (ho : OpK X (compareOp o) op) (ho' : OpK X (compareOp o') op') (ha : SimE X W a ma) (hb : SimE X W b mb') (hc : SimE X W c mc)
    (hm : lastMarks [o, o'] [b, c] = false := by with_unfolding_all rfl) : SimE X W (.Compare a [o, o'] [b, c] pos) (xChain op op' ma mb' mc) := by
  obtain ⟨r, p, q⟩ := ho.ex
  obtain ⟨r', p', q'⟩ := ho'.ex
  exact e_chain p p' q q' ha hb hc hm
theorem T_chain {o o' : CmpOp} {op op' : PV → PV → Option PV} {ma mb' mc : Ex} (ho : OpK X (compareOp o) op) (ho' : OpK X (compareOp o') op') (ha : SimE X W a ma) (hb : SimE X W b mb') (hc : SimE X W c mc)
    (hm : lastMarks [o, o'] [b, c] = false := by with_unfolding_all rfl) : SimT X W (.Compare a [o, o'] [b, c] pos) (bT (xChain op op' ma mb' mc)) := by
  obtain ⟨r, p, q⟩ := ho.ex
  obtain ⟨r', p', q'⟩ := ho'.ex
  exact t_chain p p' q q' ha hb hc hm
theorem E_ix {ma mb' : Ex} (hu : X.A.units + 64 < cLine) (ha : SimE X W a ma) (hb : SimE X W b mb') (hs : PlainIx b := by intro _ _; rfl) : SimE X W (.Subscript a b pos) (xOp oIxA ma mb') := e_ix (ix_A hu) oIxA_ok ha hb hs
theorem X_ix {ma mb' : Xm} (hu : X.A.units + 64 < cLine) (ha : SimX X md W a ma) (hb : SimX X md W b mb') (hs : PlainIx b := by intro _ _; rfl) : SimX X md W (.Subscript a b pos) (xOpX oIxA ma mb') := x_ix (ix_A hu) oIxA_ok ha hb hs
/-- -e -/
def oNeg : PV → Option PV
  | .int i => some (.int (-i))
  | _ => none
theorem E_neg {m : Ex} (h : SimE X W a m) : SimE X W (.UnaryOp .USub a pos) (xUn oNeg m) := e_un un_neg (fun g S H x z u Q w hx e q => by
  unfold oNeg at e
  split at e
  · cases e; cases hx.fr rfl; exact ⟨_, rfl, q _ g H (.refl w) (.frz (.int _))⟩
  · cases e) h
/-! built-ins by name -/
structure BiK (X : Cx) (f : Value) (op : List PV → Option PV) : Prop where
  ex : ∃ r : List V → Hp → VK → Prop, CallR X f r ∧ CallOk X.K op r
theorem BiK.or {f : Value} {a b : List PV → Option PV} (h : BiK X f a) (k : BiK X f b) : BiK X f (bE a b) := by
  obtain ⟨r, p, q⟩ := h.ex
  obtain ⟨r', p', q'⟩ := k.ex
  exact ⟨_, L2.CallR.or p p', CallOk.or q q'⟩
theorem c_len : BiK X (.builtin "len") bLenA := BiK.or ⟨_, call_len, bLen_ok⟩ ⟨_, call_lenD, bLenD_ok⟩
theorem c_abs : BiK X (.builtin "abs") bAbs := ⟨_, call_abs, bAbs_ok⟩
theorem c_sum (hc : X.calm = true) : BiK X (.builtin "sum") bSum := ⟨_, cr_sum hc, bSum_ok⟩
theorem c_all (hc : X.calm = true) : BiK X (.builtin "all") bAll := ⟨_, cr_all hc, bAll_ok⟩
theorem c_any (hc : X.calm = true) : BiK X (.builtin "any") bAny := ⟨_, cr_any hc, bAny_ok⟩
theorem c_sorted (hu : X.A.units + 64 < cLine) : BiK X (.builtin "sorted") bSorted := ⟨_, cr_sortedD hu, bSorted_ok⟩
def bMin : List PV → Option PV := bE bMin2 bMin1
def bMax : List PV → Option PV := bE bMax2 bMax1
theorem c_min (hc : X.calm = true) (hu : X.A.units + 64 < cLine) : BiK X (.builtin "min") bMin := BiK.or ⟨_, call_min2 hc, bMin2_ok⟩ ⟨_, cr_minD hc hu, bMin1_ok⟩
theorem c_max (hc : X.calm = true) (hu : X.A.units + 64 < cLine) : BiK X (.builtin "max") bMax := BiK.or ⟨_, call_max2 hc, bMax2_ok⟩ ⟨_, cr_maxD hc hu, bMax1_ok⟩
theorem c_int : BiK X (.type "int") bInt := ⟨_, call_int1, bInt_ok⟩
theorem c_tuple : BiK X (.type "tuple") bTuple := ⟨_, call_tuple_of, bTuple_ok⟩
theorem c_list (hc : X.calm = true) : BiK X (.type "list") bList := BiK.or ⟨_, call_list_of, bListS_ok⟩ ⟨_, call_listD hc, bListD_ok⟩
theorem c_dict (hc : X.calm = true) : BiK X (.type "dict") bDict := BiK.or ⟨_, call_dictP hc, bDictP_ok⟩ ⟨_, call_dictD, bDictD_ok⟩
theorem E_callB {x : Str} {p : Pos} {id : String} {op : List PV → Option PV} {m : Ar} (hk : BiK X (.builtin id) op) (hg : Gl X x) (hm : X.mg x = none) (hv : bootBuiltins x = some (.builtin id)) (ha : SimA X W (e :: es) m)
    (hn : x ≠ "__name__" := by decide) (hdb : (x == ("__debug__" : Str)) = false := by decide)
    (he : starEach (e :: es) X.env = (false, eval e X.env) :: starEach es X.env := by rfl) (hpl : (backTo pos (starEach es X.env)).any (·.1) = false := by rfl) : SimE X W (.Call (.Name x p) (e :: es) [] pos) (xCall op m) := by
  obtain ⟨r, pr, q⟩ := hk.ex
  exact e_callB pr q hg hm hv ha hn hdb he hpl
theorem E_callTy {x : Str} {p : Pos} {T : String} {op : List PV → Option PV} {m : Ar} (hk : BiK X (.type T) op) (hg : Gl X x) (hm : X.mg x = none) (hv : bootBuiltins x = some (.type T)) (ha : SimA X W (e :: es) m)
    (hn : x ≠ "__name__" := by decide) (hdb : (x == ("__debug__" : Str)) = false := by decide)
    (he : starEach (e :: es) X.env = (false, eval e X.env) :: starEach es X.env := by rfl) (hpl : (backTo pos (starEach es X.env)).any (·.1) = false := by rfl) : SimE X W (.Call (.Name x p) (e :: es) [] pos) (xCall op m) := by
  obtain ⟨r, pr, q⟩ := hk.ex
  exact e_callTy pr q hg hm hv ha hn hdb he hpl
theorem X_callB {x : Str} {p : Pos} {id : String} {op : List PV → Option PV} {m : Xa} (hk : BiK X (.builtin id) op) (hg : Gl X x) (hm : X.mg x = none) (hv : bootBuiltins x = some (.builtin id)) (ha : SimXA X md W (e :: es) m)
    (hn : x ≠ "__name__" := by decide) (hdb : (x == ("__debug__" : Str)) = false := by decide)
    (he : starEach (e :: es) X.env = (false, eval e X.env) :: starEach es X.env := by rfl) (hpl : (backTo pos (starEach es X.env)).any (·.1) = false := by rfl) : SimX X md W (.Call (.Name x p) (e :: es) [] pos) (xCallX op m) := by
  obtain ⟨r, pr, q⟩ := hk.ex
  exact x_callB pr q hg hm hv ha hn hdb he hpl
theorem X_callTy {x : Str} {p : Pos} {T : String} {op : List PV → Option PV} {m : Xa} (hk : BiK X (.type T) op) (hg : Gl X x) (hm : X.mg x = none) (hv : bootBuiltins x = some (.type T)) (ha : SimXA X md W (e :: es) m)
    (hn : x ≠ "__name__" := by decide) (hdb : (x == ("__debug__" : Str)) = false := by decide)
    (he : starEach (e :: es) X.env = (false, eval e X.env) :: starEach es X.env := by rfl) (hpl : (backTo pos (starEach es X.env)).any (·.1) = false := by rfl) : SimX X md W (.Call (.Name x p) (e :: es) [] pos) (xCallX op m) := by
  obtain ⟨r, pr, q⟩ := hk.ex
  exact x_callTy pr q hg hm hv ha hn hdb he hpl
theorem S_aug {i : Nat} {x : Str} {pos' : Pos} {o : Operator} {op : PV → PV → Option PV} {m : Ex} (hk : IpK X o op) (hN : X.N.Nodup) (hi : X.N[i]? = some x) (hx : Loc X.env.scope x) (he : SimE X W e m)
    (hf : X.fn x = true ∨ X.env.scope.names.lookup x = some .local := by first | exact .inl rfl | exact .inr rfl | assumption) : SimS X md W (.AugAssign (.Name x pos') o e pos) (sAug op i m) := by
  obtain ⟨r, pr, q⟩ := hk.ex
  exact s_aug hN hi hx pr q he hf
end
theorem bt_len : bootBuiltins "len" = some (.builtin "len") := by decide +kernel
theorem bt_abs : bootBuiltins "abs" = some (.builtin "abs") := by decide +kernel
theorem bt_sum : bootBuiltins "sum" = some (.builtin "sum") := by decide +kernel
theorem bt_all : bootBuiltins "all" = some (.builtin "all") := by decide +kernel
theorem bt_any : bootBuiltins "any" = some (.builtin "any") := by decide +kernel
theorem bt_sorted : bootBuiltins "sorted" = some (.builtin "sorted") := by decide +kernel
theorem bt_min : bootBuiltins "min" = some (.builtin "min") := by decide +kernel
theorem bt_max : bootBuiltins "max" = some (.builtin "max") := by decide +kernel
theorem bt_int : bootBuiltins "int" = some (.type "int") := by decide +kernel
theorem bt_bool : bootBuiltins "bool" = some (.type "bool") := by decide +kernel
theorem bt_str : bootBuiltins "str" = some (.type "str") := by decide +kernel
theorem bt_tuple : bootBuiltins "tuple" = some (.type "tuple") := by decide +kernel
theorem bt_list : bootBuiltins "list" = some (.type "list") := by decide +kernel
theorem bt_dict : bootBuiltins "dict" = some (.type "dict") := by decide +kernel

/-! ### what is known of the module -/
structure Mo (K : PySem.W.Frag) (mg : Str → Option Value) where
  h : Heap
  i : K.In h
  g : h.Ns mainGlobals mg
structure FnK (P : Program) (w : World) (K : PySem.W.Frag) (mg : Str → Option Value) (base : Heap) (md : Md K) (j : Nat) (x : Str) (n : Nat) (m : Fm) : Prop where
  ex : ∃ (k : Nat) (f : Addr) (fd : FuncData) (ps : List Str), k ≤ j ∧ FnOk P w K mg base (L2.CX P w) k f fd ps (spM md n m) ∧ mg x = some (.ref f) ∧ PySem.W.keepIn K (.ref f) = true ∧ Binds K fd ps []
structure MeK (P : Program) (w : World) (K : PySem.W.Frag) (mg : Str → Option Value) (base : Heap) (md : Md K) (j : Nat) (c f : Str) (n : Nat) (m : Fm) : Prop where
  ex : ∃ (k : Nat) (fa : Addr) (fd : FuncData) (ps : List Str), k ≤ j ∧ FnOk P w K mg base (L2.CX P w) k fa fd ps (spM md n m) ∧ Cls K (He.ga K c) ∧ Meth K (He.ga K c) f fa ∧ Binds K fd ps []
structure NwK (P : Program) (w : World) (K : PySem.W.Frag) (mg : Str → Option Value) (base : Heap) (j : Nat) (c : Str) (n : Nat) (m : Fm) : Prop where
  ex : ∃ (k : Nat) (f : Addr) (fd : FuncData) (ps : List Str), k + 1 ≤ j ∧ FnOk P w K mg base (L2.CX P w) k f fd ps (spM (Em K) n m) ∧ Mk K (He.ga K c) f ∧ mg c = some (.ref (He.ga K c)) ∧ Binds K fd ps []
section
variable {X : Cx} {md : Md X.K} {j j' n : Nat} {x c f : Str} {m : Fm}
theorem FnK.at {X : Cx} {md : Md X.K} (h : FnK X.prog X.w X.K X.mg X.base md j x n m) (hj : j ≤ j') : Fn X md j' x n m := by
  obtain ⟨k, f, fd, ps, hk, q⟩ := h.ex
  exact ⟨⟨k, f, fd, ps, Nat.le_trans hk hj, q⟩⟩
theorem MeK.at {X : Cx} {md : Md X.K} (h : MeK X.prog X.w X.K X.mg X.base md j c f n m) (hj : j ≤ j') : Me X md j' c f n m := by
  obtain ⟨k, f, fd, ps, hk, q⟩ := h.ex
  exact ⟨⟨k, f, fd, ps, Nat.le_trans hk hj, q⟩⟩
theorem NwK.at {X : Cx} (h : NwK X.prog X.w X.K X.mg X.base j c n m) (hj : j ≤ j') : Nw X j' c n m := by
  obtain ⟨k, f, fd, ps, hk, q⟩ := h.ex
  exact ⟨⟨k, f, fd, ps, Nat.le_trans hk hj, q⟩⟩
theorem con_int {X : Cx} {x : Str} {i : Int} (h : ∃ t, X.mg x = some (.int i t)) : Con X x (.int i) := by
  obtain ⟨t, h⟩ := h
  exact ⟨_, .int i, h, ⟨t, rfl⟩, fun _ => .int i⟩
theorem con_str {X : Cx} {x : Str} {i : Str} (h : ∃ t, X.mg x = some (.str i t)) : Con X x (.str i) := by
  obtain ⟨t, h⟩ := h
  exact ⟨_, .str i, h, ⟨t, rfl⟩, fun _ => .str i⟩
end
theorem i_add {X : Cx} : IpK X .Add (oE (oI0 fun i j => .int (i + j)) oSAdd) := ⟨_, L2.OpR.or iop_add iop_add_str, OpOk.or (oI0_ok fun _ _ _ => .int _) oSAdd_ok⟩
theorem i_sub {X : Cx} : IpK X .Sub oSub := ⟨_, iop_sub, oI0_ok fun _ _ _ => .int _⟩
theorem i_mul {X : Cx} : IpK X .Mult oMulI := ⟨_, iop_mul, oI_ok cMul_ok fun _ _ _ => .int _⟩
theorem i_fdiv {X : Cx} : IpK X .FloorDiv oFdiv := ⟨_, iop_fdiv, oI_ok cDiv_ok fun _ _ _ => .int _⟩
def oAugAdd : PV → PV → Option PV := oE (oI0 fun i j => .int (i + j)) oSAdd
theorem b_never {X : Cx} {md : Md X.K} {W : WX} {sts : List Stmt} : SimB X md W sts sNever := ⟨fun _ _ _ => False, ⟨fun _ _ _ _ _ _ h => h.elim⟩, fun _ _ _ _ _ _ _ _ _ _ _ _ _ _ _ hm => by cases hm⟩
theorem fld_nil {K : PySem.W.Frag} {f : Str} : FldOk K [] f := fun _ h => by cases h
theorem fld_cons {K : PySem.W.Frag} {c f : Str} {cs : List Str} (h1 : Cls K (He.ga K c)) (h2 : NoAttr K (He.ga K c) f) (h : FldOk K cs f) : FldOk K (c :: cs) f := fun d hd => by
  rcases List.mem_cons.mp hd with e | hd
  · rw [e]; exact ⟨h1, h2⟩
  · exact h d hd
end L3

set_option Elab.async false
set_option linter.all false
set_option maxRecDepth 100000
set_option maxHeartbeats 4000000
namespace L3
open PySem PySem.Spec L2
set_option autoImplicit false

def lLst (m : Ar) : Ar := fun ρ S => mb (m ρ S) fun xs => if xs.all fz && decide (xs.length ≤ most) then some (.ok xs) else none
def law0 (m : Fm) : Fm := fun xs S => match m xs S with
  | some (.ok z, S') => some (.ok z, S')
  | _ => none
section
variable {X : Cx} {md : Md X.K} {W : WX} {a b c e o : Expr} {es : List Expr} {pos p apos : Pos}
/-- a def that reads the store alone, its arguments with effects -/
def xFnP (m : Fm) (n : Nat) (a : Xa) : Xm := fun ρ S => match a ρ S with
  | some (.ok xs, S') => if xs.length == n then (m xs S').map (fun r => (r.1, S')) else none
  | some (.ex c fs, S') => some (.ex c fs, S')
  | none => none
theorem rchx_fnP {t : TA} {a : Xa} {n : Nat} {m : Fm} (ra : RchA md W t a) : RchX md W (tCallS (spM (Pm X.K) n m) (WE W) t) (xFnP m n a) := by
  intro σ H g S ρ Q res rr er hm po
  unfold xFnP at hm
  split at hm
  · rename_i xs S' q
    split at hm
    · rename_i hl
      cases q2 : m xs S' with
      | none => rw [q2] at hm; cases hm
      | some z =>
        rw [q2] at hm
        obtain ⟨z1, z2⟩ := z
        have e2 : res = (z1, S') := (Option.some.inj hm).symm
        subst e2
        refine ra σ H g S ρ _ (.ok xs, S') rr er q fun vs g1 H1 r1 t1 fs => ?_
        refine ⟨g1, S', xs, (z1, z2), md.wr r1, fs, eq_of_beq hl, q2, ?_⟩
        cases z1 with
        | ok y => exact fun v g' H' r2 t2 f2 => by obtain ⟨r3, t3⟩ := md.grow r1 t2.1; exact po v g' H' r3 (md.trans t1 t3) (.frz f2)
        | ex c fs => exact fun cls d g' H' r2 t2 x2 => by obtain ⟨r3, t3⟩ := md.grow r1 t2.1; exact po cls d g' H' r3 (md.trans t1 t3) x2
    · cases hm
  · rename_i c fs S' q
    cases hm
    exact ra σ H g S ρ _ (.ex c fs, S') rr er q po
  · cases hm
theorem x_fnP {x : Str} {p : Pos} {j n : Nat} {m : Fm} {a : Xa} (F : Fn X (Pm X.K) j x n m) (hr : Room j X.A) (tk : Takes X W) (hg : Gl X x) (ha : SimXA X md W (e :: es) a) (hdb : (x == ("__debug__" : Str)) = false := by decide)
    (he : starEach (e :: es) X.env = (false, eval e X.env) :: starEach es X.env := by rfl) (hpl : (backTo pos (starEach es X.env)).any (·.1) = false := by rfl) : SimX X md W (.Call (.Name x p) (e :: es) [] pos) (xFnP m n a) := by
  obtain ⟨k, f, fd, ps, hk, F, hm, kp, hb⟩ := F.ex
  obtain ⟨t, pa, ra⟩ := ha.ex
  exact ⟨_, pe_callS F (hr.mono hk) hg hm kp hb (fun σ => passAt tk σ) pa hdb he hpl, rchx_fnP ra⟩
/-- a method that reads the store alone, receiver and arguments with effects -/
def xMethQ (c f : Str) (m : Fm) (n : Nat) (o : Xm) (a : Xa) : Xm := fun ρ S => match o ρ S with
  | some (.ok x, S1) => if insOf c f S1 x then (match a ρ S1 with
    | some (.ok xs, S2) => if xs.length + 1 == n then (m (x :: xs) S2).map (fun r => (r.1, S2)) else none
    | some (.ex c fs, S2) => some (.ex c fs, S2)
    | none => none) else none
  | some (.ex c fs, S1) => some (.ex c fs, S1)
  | none => none
theorem rchx_methQ {c f : Str} {t : TE} {ta : TA} {ob : Xm} {a : Xa} {n : Nat} {m : Fm} (ro : RchX md W t ob) (ra : RchA md W ta a) : RchX md W (tMethS (He.ga X.K c) f (spM (Pm X.K) n m) (WE W) t ta) (xMethQ c f m n ob a) := by
  intro σ H g S ρ Q res rr er hm po
  unfold xMethQ at hm
  split at hm
  · rename_i x S1 q
    split at hm
    · rename_i hi
      refine ro σ H g S ρ _ (.ok x, S1) rr er q fun v g1 H1 r1 t1 ov => ?_
      obtain ⟨n', a', dx, vs, rfl, rfl, h1, h2, h3⟩ := insOf_ok (md.wr r1) ov hi
      refine ⟨a', dx, vs, rfl, h1, h2, ?_⟩
      split at hm
      · rename_i xs S2 q2
        split at hm
        · rename_i hl
          cases q3 : m (.ref n' :: xs) S2 with
          | none => rw [q3] at hm; cases hm
          | some z =>
            rw [q3] at hm
            obtain ⟨z1, z2⟩ := z
            have e2 : res = (z1, S2) := (Option.some.inj hm).symm
            subst e2
            refine ra σ H1 g1 S1 ρ _ (.ok xs, S2) r1 (er.step t1) q2 fun us g2 H2 r2 t2 fs => ?_
            refine ⟨g2, S2, .ref n' :: xs, (z1, z2), md.wr r2, .cons (FR.mono (md.le t2) _ _ h3) fs, by simpa using eq_of_beq hl, q3, ?_⟩
            cases z1 with
            | ok y => exact fun v g' H' r3 t3 f3 => by obtain ⟨r4, t4⟩ := md.grow r2 t3.1; exact po v g' H' r4 (md.trans t1 (md.trans t2 t4)) (.frz f3)
            | ex c fs => exact fun cls d g' H' r3 t3 x3 => by obtain ⟨r4, t4⟩ := md.grow r2 t3.1; exact po cls d g' H' r4 (md.trans t1 (md.trans t2 t4)) x3
        · cases hm
      · rename_i c' fs S2 q2
        cases hm
        exact ra σ H1 g1 S1 ρ _ (.ex c' fs, S2) r1 (er.step t1) q2 fun cls d g' H' r3 t3 x3 => po cls d g' H' r3 (md.trans t1 t3) x3
      · cases hm
    · cases hm
  · rename_i c' fs S1 q
    cases hm
    exact ro σ H g S ρ _ (.ex c' fs, S1) rr er q po
  · cases hm
theorem x_methQ {c f : Str} {j n : Nat} {m : Fm} {ob : Xm} {a : Xa} {pl : Sem Bool} (F : Me X (Pm X.K) j c f n m) (hr : Room j X.A) (tk : Takes X W) (ho : SimX X md W o ob) (ha : SimXA X md W (e :: es) a)
    (hst : starEach (e :: es) X.env = (false, eval e X.env) :: starEach es X.env := by rfl) (hpl : (backTo pos (starEach es X.env)).any (·.1) = false := by rfl)
    (ht : eval (.Call (.Attribute o f apos) (e :: es) [] pos) X.env = (do
      let ov ← eval o X.env
      standAt apos.atName
      let (f, first) ← holding [ov] (getMethod ov f pl)
      callWith pos f first (backTo pos (starEach (e :: es) X.env)) (backToKw pos (keywordEach [] X.env))) := by rfl) : SimX X md W (.Call (.Attribute o f apos) (e :: es) [] pos) (xMethQ c f m n ob a) := by
  obtain ⟨k, fa, fd, ps, hk, F, hc, hme, hb⟩ := F.ex
  obtain ⟨t, po, ro⟩ := ho.ex
  obtain ⟨ta, pa, ra⟩ := ha.ex
  exact ⟨_, pe_methE (pl := pl) po hc hme F (hr.mono hk) hb (fun σ => passAt tk σ) pa hst hpl ht, rchx_methQ ro ra⟩
theorem x_methQ0 {c f : Str} {j n : Nat} {m : Fm} {ob : Xm} {pl : Sem Bool} (F : Me X (Pm X.K) j c f n m) (hr : Room j X.A) (tk : Takes X W) (ho : SimX X md W o ob)
    (ht : eval (.Call (.Attribute o f apos) [] [] pos) X.env = (do
      let ov ← eval o X.env
      standAt apos.atName
      let (f, first) ← holding [ov] (getMethod ov f pl)
      callWith pos f first (backTo pos (starEach [] X.env)) (backToKw pos (keywordEach [] X.env))) := by rfl) : SimX X md W (.Call (.Attribute o f apos) [] [] pos) (xMethQ c f m n ob aXNil) := by
  obtain ⟨k, fa, fd, ps, hk, F, hc, hme, hb⟩ := F.ex
  obtain ⟨t, po, ro⟩ := ho.ex
  exact ⟨_, pe_methE0 (pl := pl) po hc hme F (hr.mono hk) hb (fun σ => passAt tk σ) ht, rchx_methQ ro (fun σ H g S ρ Q r rr er hm po => by cases hm; exact po [] g H rr (md.refl rr) .nil)⟩
end

/-! ### name = [..] -/
section
variable {X : Cx} {md : Md X.K} {W : WX} {e : Expr} {pos : Pos}
theorem RchS.setF {K : PySem.W.Frag} {md : Md K} {W : WX} {t : TE} {m : Xm} {i : Nat} (r : RchF md W t m) : RchS md W (tAsg t (gName i)) (sSetF i m) := by
  intro σ H g S ρ gb g0 H0 S0 D res r0 rr tt er hm po
  unfold sSetF at hm
  split at hm
  · rename_i x S' q
    cases hm
    refine r σ H g S ρ _ (.ok x, S') rr er.f q fun v g' H' r1 t1 nv => ?_
    exact po _ g' H' r1 (tt.step t1) ((er.step t1).setN (fun p hp => md.free tt.t hp) nv fun p j y ev hfx hj hy hfy => by subst ev; exact er.old (nv.free hfx).1 hy hfy)
  · rename_i c fs S' q
    cases hm
    exact r σ H g S ρ _ (.ex c fs, S') rr er.f q fun cls d g' H' r1 t1 xr => po cls d σ g' H' r1 (tt.step t1) (er.step t1) xr
  · cases hm
theorem RchL.f {K : PySem.W.Frag} {md : Md K} {W : WX} {t : TE} {m : Xa} (r : RchL md W t m) : RchF md W t (fL m) := by
  intro σ H g S ρ Q res rr er hm po
  unfold fL at hm
  split at hm
  · rename_i xs S' q
    cases hm
    exact r σ H g S ρ Q (.ok xs, S') rr er q fun p vs g' H' r1 t1 h1 h2 h3 h4 h5 => po _ g' H' r1 t1 ⟨p, vs, rfl, h1, h2, h3, h4, h5⟩
  · rename_i c fs S' q
    cases hm
    exact r σ H g S ρ Q (.ex c fs, S') rr er q po
  · cases hm
/-- .. at rest at once -/
def fZ (m : Xa) : Xm := fun ρ S => match m ρ S with
  | some (.ok xs, S') => some (.ok (.lst xs), S')
  | some (.ex c fs, S') => some (.ex c fs, S')
  | none => none
theorem RchL.z {K : PySem.W.Frag} {md : Md K} {W : WX} {t : TE} {m : Xa} (r : RchL md W t m) : RchF md W t (fZ m) := by
  intro σ H g S ρ Q res rr er hm po
  unfold fZ at hm
  split at hm
  · rename_i xs S' q
    cases hm
    refine r σ H g S ρ _ (.ok xs, S') rr er q fun p vs g' H' r1 t1 hp hp' fp fr f => ?_
    obtain ⟨r2, t2⟩ := md.rest t1 r1 hp' hp fp fr
    exact po _ _ H' r2 t2 (NewV.of_fr (.lst (.inl upd_same) (FRs.mono (GLe.laid fp) _ _ f)))
  · rename_i c fs S' q
    cases hm
    exact r σ H g S ρ _ (.ex c fs, S') rr er q po
  · cases hm
theorem s_setLc {i : Nat} {y : Str} {py spos : Pos} {elt tg iter : Expr} {ifs : List Expr} {scope : Scope} {own : List (Str × Nat)} {it : Xa} {g1 : Tg} {tt : Tm} {te : Xm} {ks : List Nat} {f : Xa → Xm} (hf : ∀ {t : TE} {m : Xa}, RchL md W t m → RchF md W t (f m)) (hc : X.calm = true) (hN : X.N.Nodup) (hy : X.N[i]? = some y) (hyl : X.env.scope.names.lookup y = some .local)
    (hsw : swapsWith (.ListComp elt [⟨tg, iter, ifs, 0⟩] scope pos) (some (.Name y py)) spos.line X.env = pure true) (hi : SimIX X md W tg iter it) (ok : BlkOk X.N X.env.scope scope own) (hk : ∀ k ∈ ks, k ∈ own.map (·.2))
    (hg : ∀ (s : Shared) (H : Hp) (C : Addr) (cl : List (Str × Addr)) (fp : List Addr), SimG (X.blk s H scope (compEnvC scope cl C X.env) fp) tg ks g1) (ht : ∀ (s : Shared) (H : Hp) (C : Addr) (cl : List (Str × Addr)) (fp : List Addr), SimTsX (X.blk s H scope (compEnvC scope cl C X.env) fp) md WX0 ifs tt)
    (he : ∀ (s : Shared) (H : Hp) (C : Addr) (cl : List (Str × Addr)) (fp : List Addr), SimX (X.blk s H scope (compEnvC scope cl C X.env) fp) md WX0 elt te) (hs : ∀ x, foldedSetIterable iter X.env x = pure x := by intro _; rfl) :
    SimS X md W (.Assign [.Name y py] (.ListComp elt [⟨tg, iter, ifs, 0⟩] scope pos) spos) (sSetF i (f (lLcX it g1 tt te (own.map (·.2))))) := by
  obtain ⟨wi, pi, ri⟩ := hi.ex
  exact ⟨_, ps_setLc hc hN hy hyl hsw pi ok (fun s H C cl fp => (hg s H C cl fp).c) (fun s H C cl fp => (ht s H C cl fp).ex) (fun s H C cl fp => (he s H C cl fp).cr) hs, RchS.setF (hf (rch_lcX hk ri))⟩
end

/-! ### the law itself -/
theorem script_sp {K : PySem.W.Frag} {m : Fm} {ns : List Int} {a : Addr} {H : Hp} {S : Store} (hS : SqL K H a (ns.map V.int)) (hO : Only H) (h : m [.kl (ns.map .int)] [] = some (.ok (.bl true), S)) :
    spM (Em K) 1 m [.ref a] H (fun v _ => v = .bl true) fun _ _ _ => False := by
  have frs : ∀ (g : G) (ns : List Int), FRs K g (ns.map .int) (ns.map V.int) := fun g ns => by
    induction ns with
    | nil => exact .nil
    | cons n ns ih => exact .cons (.int n) ih
  refine ⟨⟨H, fun _ => 0, 0, fun _ => False⟩, [], [.kl (ns.map .int)], (.ok (.bl true), S), ⟨fun _ _ r => r, rfl, (fun n o e => by cases e), (fun n m h => absurd h (Nat.not_lt_zero _)), (fun n h => absurd h (Nat.not_lt_zero _))⟩, .cons (.kl hS (frs _ ns)) .nil, rfl, h, fun v g' H' _ _ f => ?_⟩
  cases f
  rfl
end L3

set_option Elab.async false
set_option linter.all false
set_option maxRecDepth 100000
set_option maxHeartbeats 4000000
namespace L3
set_option autoImplicit false
/-! ### the plain functions, evaluated -/
def chk : Option (SR × Store) → Bool
  | some (.rt (.bl true), _) => true
  | _ => false
theorem chk_ok {r : Option (SR × Store)} (h : chk r = true) : ∃ S, r = some (.rt (.bl true), S) := by
  unfold chk at h
  split at h
  · exact ⟨_, rfl⟩
  · cases h
theorem cutP_map {α β : Type} (f : α → β) (l : List α) (lo hi : Option Int) : cutP (l.map f) lo hi = (cutP l lo hi).map f := by
  unfold cutP
  rw [List.length_map, List.map_take, List.map_drop]
theorem cutP_len {α : Type} (l : List α) (lo hi : Option Int) : (cutP l lo hi).length ≤ l.length := by
  unfold cutP
  rw [List.length_take, List.length_drop]; omega
theorem intsOf_map : ∀ l : List Int, intsOf (l.map PV.int) = some l
  | [] => rfl
  | n :: l => by
    show intsOf (.int n :: l.map PV.int) = _
    unfold intsOf
    rw [intsOf_map l]
    rfl
theorem bSum_map (l : List Int) : bSum [.lst (l.map PV.int)] = some (.int l.sum) := by
  show (intsOf (l.map PV.int)).bind (fun ns => some (PV.int ns.sum)) = _
  rw [intsOf_map l]
  rfl
theorem xCall_ok {op : List PV → Option PV} {m : Ar} {ρ : Env} {S : Store} {xs : List PV} (h : m ρ S = some (.ok xs)) : xCall op m ρ S = mo (op xs) := by unfold xCall; rw [h]; rfl
theorem aCons_ok {m : Ex} {n : Ar} {ρ : Env} {S : Store} {x : PV} {xs : List PV} (h : m ρ S = some (.ok x)) (k : n ρ S = some (.ok xs)) : aCons m n ρ S = some (.ok (x :: xs)) := by unfold aCons; rw [h, k]; rfl
theorem xFz_ok {m : Ar} {ρ : Env} {S : Store} {xs : List PV} (h : m ρ S = some (.ok xs)) : xFz m ρ S = some (.ok (.lst xs)) := by unfold xFz; rw [h]; rfl
theorem xOp_ok {op : PV → PV → Option PV} {m n : Ex} {ρ : Env} {S : Store} {x y : PV} (h : m ρ S = some (.ok x)) (k : n ρ S = some (.ok y)) : xOp op m n ρ S = mo (op x y) := by unfold xOp; rw [h, k]; rfl
theorem xP_ok {m : Ex} {ρ : Env} {S : Store} {x : PV} (h : m ρ S = some (.ok x)) : xP m ρ S = some (.ok x, S) := by unfold xP; rw [h]; rfl
theorem sAsg_ok {i : Nat} {m : Xm} {ρ : Env} {S S' : Store} {x : PV} (h : m ρ S = some (.ok x, S')) (hx : fz x = true) : sAsg (gN i) m ρ S = some (.nx (ρ.set i (some x)), S') := by unfold sAsg xThen; rw [h]; show (if fz x then _ else _) = _; rw [if_pos hx]; rfl
theorem sSeq_nx {m n : Sm} {ρ ρ' : Env} {S S' : Store} (h : m ρ S = some (.nx ρ', S')) : sSeq m n ρ S = n ρ' S' := by unfold sSeq; rw [h]
theorem law_true {l : Nat} {m : Sm} {xs : List PV} {S S' : Store} (h : m (xs.map some ++ List.replicate (l - xs.length) none) S = some (.rt (.bl true), S')) : law0 (fBody l m) xs S = some (.ok (.bl true), S') := by
  unfold law0 fBody
  rw [h]
/-- int(sum([abs(x) for x in script[:9]])) % n -/
theorem go_abs (x : Option PV) : ∀ l : List Int, lcGo (gN 2) yYes (xCall bAbs (aCons (xVar 2) aNil)) [x, none, none] [] (l.map PV.int) = some ((l.map fun n => if n < 0 then -n else n).map PV.int)
  | [] => rfl
  | n :: l => by
    show (lcGo (gN 2) yYes (xCall bAbs (aCons (xVar 2) aNil)) [x, none, none] [] (l.map PV.int)).map (fun r => PV.int (if n < 0 then -n else n) :: r) = _
    rw [go_abs x l]
    rfl
theorem first5 (ns : List Int) (hl : ns.length ≤ 63) : ∃ k : Int, 0 ≤ k ∧ k < 5 ∧ (sAsg (gN 1) (xP (xOp oMod (xCall bInt (aCons (xCall bSum (aCons (xFz (lLc (iSeq (xSl (xVar 0) oNone (oSome (xC (.int 9))))) (gN 2) yYes (xCall bAbs (aCons (xVar 2) aNil)) [2])) aNil)) aNil)) (xC (.int 5))))) [some (.kl (ns.map PV.int)), none, none] [] = some (.nx [some (.kl (ns.map PV.int)), some (.int k), none], []) := by
  refine ⟨((cutP ns none (some 9)).map fun n => if n < 0 then -n else n).sum % 5, Int.emod_nonneg _ (by decide), Int.emod_lt_of_pos _ (by decide), ?_⟩
  have h0 : lLc (iSeq (xSl (xVar 0) oNone (oSome (xC (.int 9))))) (gN 2) yYes (xCall bAbs (aCons (xVar 2) aNil)) [2] [some (.kl (ns.map PV.int)), none, none] [] = some (.ok (((cutP ns none (some 9)).map fun n => if n < 0 then -n else n).map PV.int)) := by
    show (if decide ((cutP (ns.map PV.int) none (some 9)).length ≤ most) then mo (lcGo (gN 2) yYes (xCall bAbs (aCons (xVar 2) aNil)) [some (.kl (ns.map PV.int)), none, none] [] (cutP (ns.map PV.int) none (some 9))) else none) = _
    have h1 : (cutP (ns.map PV.int) none (some 9)).length ≤ most := by
      have := cutP_len (ns.map PV.int) none (some 9)
      rw [List.length_map] at this
      have : most = 1000000 := rfl
      omega
    rw [if_pos (decide_eq_true h1), cutP_map, go_abs]
    rfl
  have h2 := (xCall_ok (op := bSum) (aCons_ok (xFz_ok h0) (n := aNil) rfl)).trans (congrArg mo (bSum_map _))
  have h3 := xCall_ok (op := bInt) (aCons_ok h2 (n := aNil) rfl)
  exact sAsg_ok (i := 1) (xP_ok (xOp_ok (op := oMod) h3 (n := xC (.int 5)) rfl)) rfl
end L3

set_option Elab.async false
set_option linter.all false
set_option maxRecDepth 100000
set_option maxHeartbeats 0
namespace K35
open PySem PySem.Spec L2 L3
def top (i : Nat) : Stmt := PySem.Challenge.pw_tidebase_k35_edges_of_nodes.main.body.getD i (.Pass ⟨0, 0, 0, 0⟩)
def clsBody : Stmt → List Stmt
  | .ClassDef (body := b) .. => b
  | _ => []
def cls (i j : Nat) : Stmt := (clsBody (top i)).getD j (.Pass ⟨0, 0, 0, 0⟩)
def N_f_is_number : List Str := ["thing", "least", "most"]
abbrev s_f_is_number : Stmt := top 7
theorem sc_f_is_number : FnScope N_f_is_number ["thing", "least", "most"] (defScope s_f_is_number) := ⟨rfl, rfl, rfl, by decide +kernel, rfl, by decide +kernel, by decide +kernel⟩
def d_f_is_number : He.DefD := ⟨(("is_number" : Str), none), ("is_number" : Str), ("is_number" : Str), defArgs s_f_is_number, defBody s_f_is_number, defScope s_f_is_number, [], []⟩
def b_f_is_number : Sm := (sRet (xP (xAnd (xIsi .int (xVar 0)) (xAnd (xNot (xIsi .bool (xVar 0))) (xChain oLe oLe (xVar 1) (xVar 0) (xVar 2))))))
def f_is_number : Fm := fBody 3 b_f_is_number
def N_f_check_page_number : List Str := ["number"]
abbrev s_f_check_page_number : Stmt := top 77
theorem sc_f_check_page_number : FnScope N_f_check_page_number ["number"] (defScope s_f_check_page_number) := ⟨rfl, rfl, rfl, by decide +kernel, rfl, by decide +kernel, by decide +kernel⟩
def d_f_check_page_number : He.DefD := ⟨(("check_page_number" : Str), none), ("check_page_number" : Str), ("check_page_number" : Str), defArgs s_f_check_page_number, defBody s_f_check_page_number, defScope s_f_check_page_number, [], []⟩
def b_f_check_page_number : Sm := (sIf (tP (yNot (bT (xFn f_is_number 3 (aCons (xVar 0) (aCons (xC (.int 0)) (aCons (xC (.int 65535)) aNil))))))) sNever sNil)
def f_check_page_number : Fm := fBody 1 b_f_check_page_number
def N_f_are_bytes : List Str := ["thing", "one"]
abbrev s_f_are_bytes : Stmt := top 9
theorem sc_f_are_bytes : FnScope N_f_are_bytes ["thing"] (defScope s_f_are_bytes) := ⟨rfl, rfl, rfl, by decide +kernel, rfl, by decide +kernel, by decide +kernel⟩
def d_f_are_bytes : He.DefD := ⟨(("are_bytes" : Str), none), ("are_bytes" : Str), ("are_bytes" : Str), defArgs s_f_are_bytes, defBody s_f_are_bytes, defScope s_f_are_bytes, [], []⟩
def b_f_are_bytes : Sm := (sRet (xP (xAnd (xIsi .tuple (xVar 0)) (xCall bAll (aCons (xFz (lLc (iSeq (xVar 0)) (gN 1) yYes (xFn f_is_number 3 (aCons (xVar 1) (aCons (xC (.int 0)) (aCons (xC (.int 255)) aNil)))) [1])) aNil)))))
def f_are_bytes : Fm := fBody 2 b_f_are_bytes
def N_f_is_page : List Str := ["thing"]
abbrev s_f_is_page : Stmt := top 20
theorem sc_f_is_page : FnScope N_f_is_page ["thing"] (defScope s_f_is_page) := ⟨rfl, rfl, rfl, by decide +kernel, rfl, by decide +kernel, by decide +kernel⟩
def d_f_is_page : He.DefD := ⟨(("is_page" : Str), none), ("is_page" : Str), ("is_page" : Str), defArgs s_f_is_page, defBody s_f_is_page, defScope s_f_is_page, [], []⟩
def b_f_is_page : Sm := (sRet (xP (xAnd (xFn f_are_bytes 1 (aCons (xVar 0) aNil)) (xOp oEq (xCall bLenA (aCons (xVar 0) aNil)) (xC (.int 128))))))
def f_is_page : Fm := fBody 1 b_f_is_page
def N_f_check_page : List Str := ["page"]
abbrev s_f_check_page : Stmt := top 21
theorem sc_f_check_page : FnScope N_f_check_page ["page"] (defScope s_f_check_page) := ⟨rfl, rfl, rfl, by decide +kernel, rfl, by decide +kernel, by decide +kernel⟩
def d_f_check_page : He.DefD := ⟨(("check_page" : Str), none), ("check_page" : Str), ("check_page" : Str), defArgs s_f_check_page, defBody s_f_check_page, defScope s_f_check_page, [], []⟩
def b_f_check_page : Sm := (sIf (tP (yNot (bT (xFn f_is_page 1 (aCons (xVar 0) aNil))))) sNever sNil)
def f_check_page : Fm := fBody 1 b_f_check_page
def N_f_MemoryPages_write : List Str := ["self", "number", "page"]
abbrev s_f_MemoryPages_write : Stmt := cls 76 2
theorem sc_f_MemoryPages_write : FnScope N_f_MemoryPages_write ["self", "number", "page"] (defScope s_f_MemoryPages_write) := ⟨rfl, rfl, rfl, by decide +kernel, rfl, by decide +kernel, by decide +kernel⟩
def d_f_MemoryPages_write : He.DefD := ⟨(("MemoryPages" : Str), some ("write" : Str)), ("write" : Str), ("MemoryPages.write" : Str), defArgs s_f_MemoryPages_write, defBody s_f_MemoryPages_write, defScope s_f_MemoryPages_write, [], []⟩
def b_f_MemoryPages_write : Sm := (sSeq (sExpr (xP (xFn f_check_page_number 1 (aCons (xVar 1) aNil)))) (sSeq (sExpr (xP (xFn f_check_page 1 (aCons (xVar 2) aNil)))) (sFldS [("MemoryPages" : Str)] ("pages" : Str) (xVar 0) (xP (xCall bDict (aCons (xLst (aStar (xUn oItems (xFld [("MemoryPages" : Str)] ("pages" : Str) (xVar 0))) (aCons (xTup (aCons (xVar 1) (aCons (xVar 2) aNil))) aNil))) aNil))))))
def f_MemoryPages_write : Fm := fBody 3 b_f_MemoryPages_write
def N_f_with_bytes : List Str := ["page", "at", "data"]
abbrev s_f_with_bytes : Stmt := top 22
theorem sc_f_with_bytes : FnScope N_f_with_bytes ["page", "at", "data"] (defScope s_f_with_bytes) := ⟨rfl, rfl, rfl, by decide +kernel, rfl, by decide +kernel, by decide +kernel⟩
def d_f_with_bytes : He.DefD := ⟨(("with_bytes" : Str), none), ("with_bytes" : Str), ("with_bytes" : Str), defArgs s_f_with_bytes, defBody s_f_with_bytes, defScope s_f_with_bytes, [], []⟩
def b_f_with_bytes : Sm := (sRet (xP (xTup (aStar (xSl (xVar 0) oNone (oSome (xVar 1))) (aStar (xVar 2) (aStar (xSl (xVar 0) (oSome (xOp oAdd (xVar 1) (xCall bLenA (aCons (xVar 2) aNil)))) oNone) aNil))))))
def f_with_bytes : Fm := fBody 3 b_f_with_bytes
def N_f_check_number : List Str := ["thing", "least", "most"]
abbrev s_f_check_number : Stmt := top 8
theorem sc_f_check_number : FnScope N_f_check_number ["thing", "least", "most"] (defScope s_f_check_number) := ⟨rfl, rfl, rfl, by decide +kernel, rfl, by decide +kernel, by decide +kernel⟩
def d_f_check_number : He.DefD := ⟨(("check_number" : Str), none), ("check_number" : Str), ("check_number" : Str), defArgs s_f_check_number, defBody s_f_check_number, defScope s_f_check_number, [], []⟩
def b_f_check_number : Sm := (sIf (tP (yNot (bT (xFn f_is_number 3 (aCons (xVar 0) (aCons (xVar 1) (aCons (xVar 2) aNil))))))) sNever sNil)
def f_check_number : Fm := fBody 3 b_f_check_number
def N_f_bytes_of : List Str := ["number", "width", "found", "turn"]
abbrev s_f_bytes_of : Stmt := top 10
theorem sc_f_bytes_of : FnScope N_f_bytes_of ["number", "width"] (defScope s_f_bytes_of) := ⟨rfl, rfl, rfl, by decide +kernel, rfl, by decide +kernel, by decide +kernel⟩
def d_f_bytes_of : He.DefD := ⟨(("bytes_of" : Str), none), ("bytes_of" : Str), ("bytes_of" : Str), defArgs s_f_bytes_of, defBody s_f_bytes_of, defScope s_f_bytes_of, [], []⟩
def b_f_bytes_of : Sm := (sSeq (sSetF 2 (fL (iP (lLst aNil)))) (sSeq (sFor (iRange1 (aCons (xVar 1) aNil)) (gN 3) (sSeq (sAppend 2 (xOp oMod (xVar 0) (xC (.int 256)))) (sAug oFdiv 0 (xC (.int 256))))) (sFrz 2 (sRet (xP (xCall bTuple (aCons (xUn oRevL (xVar 2)) aNil)))))))
def f_bytes_of : Fm := fBody 4 b_f_bytes_of
def N_f_blank_page : List Str := ["kind", "page"]
abbrev s_f_blank_page : Stmt := top 23
theorem sc_f_blank_page : FnScope N_f_blank_page ["kind"] (defScope s_f_blank_page) := ⟨rfl, rfl, rfl, by decide +kernel, rfl, by decide +kernel, by decide +kernel⟩
def d_f_blank_page : He.DefD := ⟨(("blank_page" : Str), none), ("blank_page" : Str), ("blank_page" : Str), defArgs s_f_blank_page, defBody s_f_blank_page, defScope s_f_blank_page, [], []⟩
def b_f_blank_page : Sm := (sSeq (sExpr (xP (xFn f_check_number 3 (aCons (xVar 0) (aCons (xC (.int 0)) (aCons (xC (.int 4)) aNil)))))) (sSeq (sAsg (gN 1) (xP (xOp oMul (xTup (aCons (xC (.int 0)) aNil)) (xC (.int 128))))) (sRet (xP (xFn f_with_bytes 3 (aCons (xFn f_with_bytes 3 (aCons (xVar 1) (aCons (xC (.int 6)) (aCons (xTup (aCons (xVar 0) aNil)) aNil)))) (aCons (xC (.int 10)) (aCons (xFn f_bytes_of 2 (aCons (xC (.int 128)) (aCons (xC (.int 2)) aNil))) aNil))))))))
def f_blank_page : Fm := fBody 2 b_f_blank_page
def N_f_format_pages : List Str := ["pages"]
abbrev s_f_format_pages : Stmt := top 68
theorem sc_f_format_pages : FnScope N_f_format_pages ["pages"] (defScope s_f_format_pages) := ⟨rfl, rfl, rfl, by decide +kernel, rfl, by decide +kernel, by decide +kernel⟩
def d_f_format_pages : He.DefD := ⟨(("format_pages" : Str), none), ("format_pages" : Str), ("format_pages" : Str), defArgs s_f_format_pages, defBody s_f_format_pages, defScope s_f_format_pages, [], []⟩
def b_f_format_pages : Sm := (sExpr (xMeth ("MemoryPages" : Str) ("write" : Str) f_MemoryPages_write 3 (xP (xVar 0)) (aP (aCons (xC (.int 0)) (aCons (xFn f_with_bytes 3 (aCons (xFn f_blank_page 1 (aCons (xC (.int 1)) aNil)) (aCons (xC (.int 12)) (aCons (xFn f_bytes_of 2 (aCons (xC (.int 1)) (aCons (xC (.int 2)) aNil))) aNil)))) aNil)))))
def f_format_pages : Fm := fBody 1 b_f_format_pages
def N_f_MemoryPagesd_initd : List Str := ["self"]
abbrev s_f_MemoryPagesd_initd : Stmt := cls 76 0
theorem sc_f_MemoryPagesd_initd : FnScope N_f_MemoryPagesd_initd ["self"] (defScope s_f_MemoryPagesd_initd) := ⟨rfl, rfl, rfl, by decide +kernel, rfl, by decide +kernel, by decide +kernel⟩
def d_f_MemoryPagesd_initd : He.DefD := ⟨(("MemoryPages" : Str), some ("__init__" : Str)), ("__init__" : Str), ("MemoryPages.__init__" : Str), defArgs s_f_MemoryPagesd_initd, defBody s_f_MemoryPagesd_initd, defScope s_f_MemoryPagesd_initd, [], []⟩
def b_f_MemoryPagesd_initd : Sm := (sSeq (sFldS [("MemoryPages" : Str)] ("pages" : Str) (xVar 0) (xP (xC (.dct [])))) (sExpr (xFnX f_format_pages 1 (aP (aCons (xVar 0) aNil)))))
def f_MemoryPagesd_initd : Fm := fBody 1 b_f_MemoryPagesd_initd
def N_f__law_entry : List Str := ["_law_number", "_law_size"]
abbrev s_f__law_entry : Stmt := top 79
theorem sc_f__law_entry : FnScope N_f__law_entry ["_law_number", "_law_size"] (defScope s_f__law_entry) := ⟨rfl, rfl, rfl, by decide +kernel, rfl, by decide +kernel, by decide +kernel⟩
def d_f__law_entry : He.DefD := ⟨(("_law_entry" : Str), none), ("_law_entry" : Str), ("_law_entry" : Str), defArgs s_f__law_entry, defBody s_f__law_entry, defScope s_f__law_entry, [], []⟩
def b_f__law_entry : Sm := (sRet (xP (xTup (aCons (xOp oAdd (xTup (aCons (xVar 0) aNil)) (xOp oMul (xTup (aCons (xC (.int 0)) aNil)) (xOp oSub (xVar 1) (xC (.int 5))))) (aCons (xTup (aCons (xC (.int 9)) (aCons (xC (.int 9)) aNil))) aNil)))))
def f__law_entry : Fm := fBody 2 b_f__law_entry
def N_f_MemoryPages_read : List Str := ["self", "number"]
abbrev s_f_MemoryPages_read : Stmt := cls 76 1
theorem sc_f_MemoryPages_read : FnScope N_f_MemoryPages_read ["self", "number"] (defScope s_f_MemoryPages_read) := ⟨rfl, rfl, rfl, by decide +kernel, rfl, by decide +kernel, by decide +kernel⟩
def d_f_MemoryPages_read : He.DefD := ⟨(("MemoryPages" : Str), some ("read" : Str)), ("read" : Str), ("MemoryPages.read" : Str), defArgs s_f_MemoryPages_read, defBody s_f_MemoryPages_read, defScope s_f_MemoryPages_read, [], []⟩
def b_f_MemoryPages_read : Sm := (sSeq (sExpr (xP (xFn f_check_page_number 1 (aCons (xVar 1) aNil)))) (sRet (xP (xDGet2 (xFld [("MemoryPages" : Str)] ("pages" : Str) (xVar 0)) (xVar 1) (xFn f_blank_page 1 (aCons (xC (.int 0)) aNil))))))
def f_MemoryPages_read : Fm := fBody 2 b_f_MemoryPages_read
def N_f_kind_of : List Str := ["page"]
abbrev s_f_kind_of : Stmt := top 24
theorem sc_f_kind_of : FnScope N_f_kind_of ["page"] (defScope s_f_kind_of) := ⟨rfl, rfl, rfl, by decide +kernel, rfl, by decide +kernel, by decide +kernel⟩
def d_f_kind_of : He.DefD := ⟨(("kind_of" : Str), none), ("kind_of" : Str), ("kind_of" : Str), defArgs s_f_kind_of, defBody s_f_kind_of, defScope s_f_kind_of, [], []⟩
def b_f_kind_of : Sm := (sRet (xP (xOp oIxA (xVar 0) (xC (.int 6)))))
def f_kind_of : Fm := fBody 1 b_f_kind_of
def N_f_front_of : List Str := ["pages", "page"]
abbrev s_f_front_of : Stmt := top 69
theorem sc_f_front_of : FnScope N_f_front_of ["pages"] (defScope s_f_front_of) := ⟨rfl, rfl, rfl, by decide +kernel, rfl, by decide +kernel, by decide +kernel⟩
def d_f_front_of : He.DefD := ⟨(("front_of" : Str), none), ("front_of" : Str), ("front_of" : Str), defArgs s_f_front_of, defBody s_f_front_of, defScope s_f_front_of, [], []⟩
def b_f_front_of : Sm := (sSeq (sAsg (gN 1) (xP (xMethP ("MemoryPages" : Str) ("read" : Str) f_MemoryPages_read 2 (xVar 0) (aCons (xC (.int 0)) aNil)))) (sSeq (sIf (tP (bT (xOp oNe (xFn f_kind_of 1 (aCons (xVar 1) aNil)) (xC (.int 1))))) sNever sNil) (sRet (xP (xVar 1)))))
def f_front_of : Fm := fBody 2 b_f_front_of
def N_f_number_of : List Str := ["data", "found", "one"]
abbrev s_f_number_of : Stmt := top 11
theorem sc_f_number_of : FnScope N_f_number_of ["data"] (defScope s_f_number_of) := ⟨rfl, rfl, rfl, by decide +kernel, rfl, by decide +kernel, by decide +kernel⟩
def d_f_number_of : He.DefD := ⟨(("number_of" : Str), none), ("number_of" : Str), ("number_of" : Str), defArgs s_f_number_of, defBody s_f_number_of, defScope s_f_number_of, [], []⟩
def b_f_number_of : Sm := (sSeq (sAsg (gN 1) (xP (xC (.int 0)))) (sSeq (sFor (iSeq (xVar 0)) (gN 2) (sAsg (gN 1) (xP (xOp oAdd (xOp oMul (xVar 1) (xC (.int 256))) (xVar 2))))) (sRet (xP (xVar 1)))))
def f_number_of : Fm := fBody 3 b_f_number_of
def N_f_free_number : List Str := ["page"]
abbrev s_f_free_number : Stmt := top 71
theorem sc_f_free_number : FnScope N_f_free_number ["page"] (defScope s_f_free_number) := ⟨rfl, rfl, rfl, by decide +kernel, rfl, by decide +kernel, by decide +kernel⟩
def d_f_free_number : He.DefD := ⟨(("free_number" : Str), none), ("free_number" : Str), ("free_number" : Str), defArgs s_f_free_number, defBody s_f_free_number, defScope s_f_free_number, [], []⟩
def b_f_free_number : Sm := (sRet (xP (xFn f_number_of 1 (aCons (xSl (xVar 0) (oSome (xC (.int 14))) (oSome (xOp oAdd (xC (.int 14)) (xC (.int 2))))) aNil))))
def f_free_number : Fm := fBody 1 b_f_free_number
def N_f_fresh_number : List Str := ["page"]
abbrev s_f_fresh_number : Stmt := top 70
theorem sc_f_fresh_number : FnScope N_f_fresh_number ["page"] (defScope s_f_fresh_number) := ⟨rfl, rfl, rfl, by decide +kernel, rfl, by decide +kernel, by decide +kernel⟩
def d_f_fresh_number : He.DefD := ⟨(("fresh_number" : Str), none), ("fresh_number" : Str), ("fresh_number" : Str), defArgs s_f_fresh_number, defBody s_f_fresh_number, defScope s_f_fresh_number, [], []⟩
def b_f_fresh_number : Sm := (sRet (xP (xFn f_number_of 1 (aCons (xSl (xVar 0) (oSome (xC (.int 12))) (oSome (xOp oAdd (xC (.int 12)) (xC (.int 2))))) aNil))))
def f_fresh_number : Fm := fBody 1 b_f_fresh_number
def N_f_next_of : List Str := ["page"]
abbrev s_f_next_of : Stmt := top 25
theorem sc_f_next_of : FnScope N_f_next_of ["page"] (defScope s_f_next_of) := ⟨rfl, rfl, rfl, by decide +kernel, rfl, by decide +kernel, by decide +kernel⟩
def d_f_next_of : He.DefD := ⟨(("next_of" : Str), none), ("next_of" : Str), ("next_of" : Str), defArgs s_f_next_of, defBody s_f_next_of, defScope s_f_next_of, [], []⟩
def b_f_next_of : Sm := (sRet (xP (xFn f_number_of 1 (aCons (xSl (xVar 0) (oSome (xC (.int 8))) (oSome (xC (.int 10)))) aNil))))
def f_next_of : Fm := fBody 1 b_f_next_of
def N_f_take_page : List Str := ["pages", "front", "number", "late"]
abbrev s_f_take_page : Stmt := top 72
theorem sc_f_take_page : FnScope N_f_take_page ["pages"] (defScope s_f_take_page) := ⟨rfl, rfl, rfl, by decide +kernel, rfl, by decide +kernel, by decide +kernel⟩
def d_f_take_page : He.DefD := ⟨(("take_page" : Str), none), ("take_page" : Str), ("take_page" : Str), defArgs s_f_take_page, defBody s_f_take_page, defScope s_f_take_page, [], []⟩
def b_f_take_page : Sm := (sSeq (sAsg (gN 1) (xP (xFn f_front_of 1 (aCons (xVar 0) aNil)))) (sSeq (sAsg (gN 2) (xP (xFn f_free_number 1 (aCons (xVar 1) aNil)))) (sSeq (sIf (tP (bT (xOp oNe (xVar 2) (xC (.int 0))))) (sAsg (gN 3) (xP (xFn f_with_bytes 3 (aCons (xVar 1) (aCons (xC (.int 14)) (aCons (xFn f_bytes_of 2 (aCons (xFn f_next_of 1 (aCons (xMethP ("MemoryPages" : Str) ("read" : Str) f_MemoryPages_read 2 (xVar 0) (aCons (xVar 2) aNil)) aNil)) (aCons (xC (.int 2)) aNil))) aNil)))))) (sSeq (sAsg (gN 2) (xP (xFn f_fresh_number 1 (aCons (xVar 1) aNil)))) (sSeq (sIf (tP (bT (xOp oEq (xVar 2) (xC (.int 65535))))) sNever sNil) (sAsg (gN 3) (xP (xFn f_with_bytes 3 (aCons (xVar 1) (aCons (xC (.int 12)) (aCons (xFn f_bytes_of 2 (aCons (xOp oAdd (xVar 2) (xC (.int 1))) (aCons (xC (.int 2)) aNil))) aNil))))))))) (sSeq (sExpr (xMeth ("MemoryPages" : Str) ("write" : Str) f_MemoryPages_write 3 (xP (xVar 0)) (aP (aCons (xC (.int 0)) (aCons (xVar 3) aNil))))) (sSeq (sExpr (xMeth ("MemoryPages" : Str) ("write" : Str) f_MemoryPages_write 3 (xP (xVar 0)) (aP (aCons (xVar 2) (aCons (xFn f_blank_page 1 (aCons (xC (.int 0)) aNil)) aNil))))) (sRet (xP (xVar 2))))))))
def f_take_page : Fm := fBody 4 b_f_take_page
def N_f_MemoryPages_allocate : List Str := ["self"]
abbrev s_f_MemoryPages_allocate : Stmt := cls 76 3
theorem sc_f_MemoryPages_allocate : FnScope N_f_MemoryPages_allocate ["self"] (defScope s_f_MemoryPages_allocate) := ⟨rfl, rfl, rfl, by decide +kernel, rfl, by decide +kernel, by decide +kernel⟩
def d_f_MemoryPages_allocate : He.DefD := ⟨(("MemoryPages" : Str), some ("allocate" : Str)), ("allocate" : Str), ("MemoryPages.allocate" : Str), defArgs s_f_MemoryPages_allocate, defBody s_f_MemoryPages_allocate, defScope s_f_MemoryPages_allocate, [], []⟩
def b_f_MemoryPages_allocate : Sm := (sRet (xFnX f_take_page 1 (aP (aCons (xVar 0) aNil))))
def f_MemoryPages_allocate : Fm := fBody 1 b_f_MemoryPages_allocate
def N_f_with_next : List Str := ["page", "number"]
abbrev s_f_with_next : Stmt := top 26
theorem sc_f_with_next : FnScope N_f_with_next ["page", "number"] (defScope s_f_with_next) := ⟨rfl, rfl, rfl, by decide +kernel, rfl, by decide +kernel, by decide +kernel⟩
def d_f_with_next : He.DefD := ⟨(("with_next" : Str), none), ("with_next" : Str), ("with_next" : Str), defArgs s_f_with_next, defBody s_f_with_next, defScope s_f_with_next, [], []⟩
def b_f_with_next : Sm := (sSeq (sExpr (xP (xFn f_check_number 3 (aCons (xVar 1) (aCons (xC (.int 0)) (aCons (xC (.int 65535)) aNil)))))) (sRet (xP (xFn f_with_bytes 3 (aCons (xVar 0) (aCons (xC (.int 8)) (aCons (xFn f_bytes_of 2 (aCons (xVar 1) (aCons (xC (.int 2)) aNil))) aNil)))))))
def f_with_next : Fm := fBody 2 b_f_with_next
def N_f_entry_bytes : List Str := ["entry", "key", "spot"]
abbrev s_f_entry_bytes : Stmt := top 35
theorem sc_f_entry_bytes : FnScope N_f_entry_bytes ["entry"] (defScope s_f_entry_bytes) := ⟨rfl, rfl, rfl, by decide +kernel, rfl, by decide +kernel, by decide +kernel⟩
def d_f_entry_bytes : He.DefD := ⟨(("entry_bytes" : Str), none), ("entry_bytes" : Str), ("entry_bytes" : Str), defArgs s_f_entry_bytes, defBody s_f_entry_bytes, defScope s_f_entry_bytes, [], []⟩
def b_f_entry_bytes : Sm := (sSeq (sAsg (gT 2 (gsCons (gN 1) (gsCons (gN 2) gsNil))) (xP (xVar 0))) (sRet (xP (xTup (aCons (xCall bLenA (aCons (xVar 1) aNil)) (aStar (xVar 1) (aStar (xFn f_bytes_of 2 (aCons (xOp oIxA (xVar 2) (xC (.int 0))) (aCons (xC (.int 2)) aNil))) (aCons (xOp oIxA (xVar 2) (xC (.int 1))) aNil))))))))
def f_entry_bytes : Fm := fBody 3 b_f_entry_bytes
def N_f_leaf_page : List Str := ["entries", "number", "page", "at", "entry", "data"]
abbrev s_f_leaf_page : Stmt := top 40
theorem sc_f_leaf_page : FnScope N_f_leaf_page ["entries", "number"] (defScope s_f_leaf_page) := ⟨rfl, rfl, rfl, by decide +kernel, rfl, by decide +kernel, by decide +kernel⟩
def d_f_leaf_page : He.DefD := ⟨(("leaf_page" : Str), none), ("leaf_page" : Str), ("leaf_page" : Str), defArgs s_f_leaf_page, defBody s_f_leaf_page, defScope s_f_leaf_page, [], []⟩
def b_f_leaf_page : Sm := (sSeq (sPar2 2 3 (fX (xP (xFn f_with_next 2 (aCons (xFn f_blank_page 1 (aCons (xC (.int 3)) aNil)) (aCons (xVar 1) aNil))))) (fX (xP (xC (.int 12))))) (sSeq (sFor (iSeq (xVar 0)) (gN 4) (sSeq (sAsg (gN 5) (xP (xFn f_entry_bytes 1 (aCons (xVar 4) aNil)))) (sSeq (sAsg (gN 2) (xP (xFn f_with_bytes 3 (aCons (xVar 2) (aCons (xVar 3) (aCons (xVar 5) aNil)))))) (sAug oAugAdd 3 (xCall bLenA (aCons (xVar 5) aNil)))))) (sRet (xP (xFn f_with_bytes 3 (aCons (xVar 2) (aCons (xC (.int 7)) (aCons (xTup (aCons (xCall bLenA (aCons (xVar 0) aNil)) aNil)) aNil))))))))
def f_leaf_page : Fm := fBody 6 b_f_leaf_page
def N_f_new_tree : List Str := ["pages", "number"]
abbrev s_f_new_tree : Stmt := top 49
theorem sc_f_new_tree : FnScope N_f_new_tree ["pages"] (defScope s_f_new_tree) := ⟨rfl, rfl, rfl, by decide +kernel, rfl, by decide +kernel, by decide +kernel⟩
def d_f_new_tree : He.DefD := ⟨(("new_tree" : Str), none), ("new_tree" : Str), ("new_tree" : Str), defArgs s_f_new_tree, defBody s_f_new_tree, defScope s_f_new_tree, [], []⟩
def b_f_new_tree : Sm := (sSeq (sAsg (gN 1) (xMeth ("MemoryPages" : Str) ("allocate" : Str) f_MemoryPages_allocate 1 (xP (xVar 0)) aXNil)) (sSeq (sExpr (xMeth ("MemoryPages" : Str) ("write" : Str) f_MemoryPages_write 3 (xP (xVar 0)) (aP (aCons (xVar 1) (aCons (xFn f_leaf_page 2 (aCons (xLst aNil) (aCons (xC (.int 0)) aNil))) aNil))))) (sRet (xP (xVar 1)))))
def f_new_tree : Fm := fBody 2 b_f_new_tree
def N_f__law_leaves : List Str := ["_law_pages", "_law_shuts", "_law_first", "_law_children", "_law_rows", "_law_place", "_law_child", "_law_number", "_law_shut"]
abbrev s_f__law_leaves : Stmt := top 80
theorem sc_f__law_leaves : FnScope N_f__law_leaves ["_law_pages", "_law_shuts", "_law_first"] (defScope s_f__law_leaves) := ⟨rfl, rfl, rfl, by decide +kernel, rfl, by decide +kernel, by decide +kernel⟩
def d_f__law_leaves : He.DefD := ⟨(("_law_leaves" : Str), none), ("_law_leaves" : Str), ("_law_leaves" : Str), defArgs s_f__law_leaves, defBody s_f__law_leaves, defScope s_f__law_leaves, [], []⟩
def b_f__law_leaves : Sm := (sSeq (sSetF 3 (fZ (lLcX (iP (iRange1 (aCons (xOp oAdd (xCall bLenA (aCons (xVar 1) aNil)) (xC (.int 1))) aNil))) (gN 7) yYesX (xMeth ("MemoryPages" : Str) ("allocate" : Str) f_MemoryPages_allocate 1 (xP (xVar 0)) aXNil) [7]))) (sSeq (sAsg (gN 4) (xP (xOp oAdd (xLst (aCons (xLst (aCons (xVar 2) aNil)) aNil)) (xFz (lLc (iSeq (xVar 1)) (gN 8) yYes (xLst (aCons (xVar 8) aNil)) [8]))))) (sSeq (sFor (iEnumP (aCons (xVar 3) aNil)) (gT 2 (gsCons (gN 5) (gsCons (gN 6) gsNil))) (sExpr (xMeth ("MemoryPages" : Str) ("write" : Str) f_MemoryPages_write 3 (xP (xVar 0)) (aP (aCons (xVar 6) (aCons (xFn f_leaf_page 2 (aCons (xOp oIxA (xVar 4) (xVar 5)) (aCons (xIf (bT (xOp oLt (xOp oAdd (xVar 5) (xC (.int 1))) (xCall bLenA (aCons (xVar 3) aNil)))) (xOp oIxA (xVar 3) (xOp oAdd (xVar 5) (xC (.int 1)))) (xC (.int 0))) aNil))) aNil)))))) (sRet (xP (xVar 3))))))
def f__law_leaves : Fm := fBody 9 b_f__law_leaves
def N_f_inner_page : List Str := ["walls", "children", "page", "at", "wall", "child", "data"]
abbrev s_f_inner_page : Stmt := top 42
theorem sc_f_inner_page : FnScope N_f_inner_page ["walls", "children"] (defScope s_f_inner_page) := ⟨rfl, rfl, rfl, by decide +kernel, rfl, by decide +kernel, by decide +kernel⟩
def d_f_inner_page : He.DefD := ⟨(("inner_page" : Str), none), ("inner_page" : Str), ("inner_page" : Str), defArgs s_f_inner_page, defBody s_f_inner_page, defScope s_f_inner_page, [], []⟩
def b_f_inner_page : Sm := (sSeq (sAsg (gN 2) (xP (xFn f_with_bytes 3 (aCons (xFn f_blank_page 1 (aCons (xC (.int 4)) aNil)) (aCons (xC (.int 12)) (aCons (xFn f_bytes_of 2 (aCons (xOp oIxA (xVar 1) (xC (.int 0))) (aCons (xC (.int 2)) aNil))) aNil)))))) (sSeq (sAsg (gN 3) (xP (xOp oAdd (xC (.int 12)) (xC (.int 2))))) (sSeq (sFor (iZipP (aCons (xVar 0) (aCons (xSl (xVar 1) (oSome (xC (.int 1))) oNone) aNil))) (gT 2 (gsCons (gN 4) (gsCons (gN 5) gsNil))) (sSeq (sAsg (gN 6) (xP (xTup (aStar (xFn f_entry_bytes 1 (aCons (xVar 4) aNil)) (aStar (xFn f_bytes_of 2 (aCons (xVar 5) (aCons (xC (.int 2)) aNil))) aNil))))) (sSeq (sAsg (gN 2) (xP (xFn f_with_bytes 3 (aCons (xVar 2) (aCons (xVar 3) (aCons (xVar 6) aNil)))))) (sAug oAugAdd 3 (xCall bLenA (aCons (xVar 6) aNil)))))) (sRet (xP (xFn f_with_bytes 3 (aCons (xVar 2) (aCons (xC (.int 7)) (aCons (xTup (aCons (xCall bLenA (aCons (xVar 0) aNil)) aNil)) aNil)))))))))
def f_inner_page : Fm := fBody 7 b_f_inner_page
def N_f_read_entry : List Str := ["page", "at", "past"]
abbrev s_f_read_entry : Stmt := top 39
theorem sc_f_read_entry : FnScope N_f_read_entry ["page", "at"] (defScope s_f_read_entry) := ⟨rfl, rfl, rfl, by decide +kernel, rfl, by decide +kernel, by decide +kernel⟩
def d_f_read_entry : He.DefD := ⟨(("read_entry" : Str), none), ("read_entry" : Str), ("read_entry" : Str), defArgs s_f_read_entry, defBody s_f_read_entry, defScope s_f_read_entry, [], []⟩
def b_f_read_entry : Sm := (sSeq (sAsg (gN 2) (xP (xOp oAdd (xOp oAdd (xVar 1) (xC (.int 1))) (xOp oIxA (xVar 0) (xVar 1))))) (sRet (xP (xTup (aCons (xTup (aCons (xSl (xVar 0) (oSome (xOp oAdd (xVar 1) (xC (.int 1)))) (oSome (xVar 2))) (aCons (xTup (aCons (xFn f_number_of 1 (aCons (xSl (xVar 0) (oSome (xVar 2)) (oSome (xOp oAdd (xVar 2) (xC (.int 2))))) aNil)) (aCons (xOp oIxA (xVar 0) (xOp oAdd (xVar 2) (xC (.int 2)))) aNil))) aNil))) (aCons (xOp oAdd (xVar 2) (xC (.int 3))) aNil))))))
def f_read_entry : Fm := fBody 3 b_f_read_entry
def N_f_leaf_entries : List Str := ["page", "found", "at", "turn", "entry"]
abbrev s_f_leaf_entries : Stmt := top 41
theorem sc_f_leaf_entries : FnScope N_f_leaf_entries ["page"] (defScope s_f_leaf_entries) := ⟨rfl, rfl, rfl, by decide +kernel, rfl, by decide +kernel, by decide +kernel⟩
def d_f_leaf_entries : He.DefD := ⟨(("leaf_entries" : Str), none), ("leaf_entries" : Str), ("leaf_entries" : Str), defArgs s_f_leaf_entries, defBody s_f_leaf_entries, defScope s_f_leaf_entries, [], []⟩
def b_f_leaf_entries : Sm := (sSeq (sPar2 1 2 (fL (iP (lLst aNil))) (fX (xP (xC (.int 12))))) (sSeq (sFor (iRange1 (aCons (xOp oIxA (xVar 0) (xC (.int 7))) aNil)) (gN 3) (sSeq (sAsg (gT 2 (gsCons (gN 4) (gsCons (gN 2) gsNil))) (xP (xFn f_read_entry 2 (aCons (xVar 0) (aCons (xVar 2) aNil))))) (sAppend 1 (xVar 4)))) (sRetO 1)))
def f_leaf_entries : Fm := fBody 5 b_f_leaf_entries
def N_f__law_three : List Str := ["_law_pages", "_law_sizes", "_law_between", "_law_others", "_law_root", "_law_one", "_law_other", "_law_shuts", "_law_late", "_law_shut", "_law_leaves_here", "_law_more", "_law_place", "_law_size"]
abbrev s_f__law_three : Stmt := top 81
theorem sc_f__law_three : FnScope N_f__law_three ["_law_pages", "_law_sizes", "_law_between", "_law_others"] (defScope s_f__law_three) := ⟨rfl, rfl, rfl, by decide +kernel, rfl, by decide +kernel, by decide +kernel⟩
def d_f__law_three : He.DefD := ⟨(("_law_three" : Str), none), ("_law_three" : Str), ("_law_three" : Str), defArgs s_f__law_three, defBody s_f__law_three, defScope s_f__law_three, [], []⟩
def b_f__law_three : Sm := (sSeq (sPar3 4 5 6 (fX (xFnX f_new_tree 1 (aP (aCons (xVar 0) aNil)))) (fX (xMeth ("MemoryPages" : Str) ("allocate" : Str) f_MemoryPages_allocate 1 (xP (xVar 0)) aXNil)) (fX (xMeth ("MemoryPages" : Str) ("allocate" : Str) f_MemoryPages_allocate 1 (xP (xVar 0)) aXNil))) (sSeq (sSetF 7 (fZ (lLcX (iP (iEnumP (aCons (xVar 1) aNil))) (gT 2 (gsCons (gN 12) (gsCons (gN 13) gsNil))) yYesX (xP (xFn f__law_entry 2 (aCons (xOp oAdd (xC (.int 10)) (xOp oMul (xC (.int 10)) (xVar 12))) (aCons (xVar 13) aNil)))) [12, 13]))) (sSeq (sSetF 8 (fZ (lLcX (iP (iEnumP (aCons (xVar 3) aNil))) (gT 2 (gsCons (gN 12) (gsCons (gN 13) gsNil))) yYesX (xP (xFn f__law_entry 2 (aCons (xOp oAdd (xC (.int 160)) (xOp oMul (xC (.int 10)) (xVar 12))) (aCons (xVar 13) aNil)))) [12, 13]))) (sSeq (sAsg (gN 9) (xP (xFn f__law_entry 2 (aCons (xC (.int 150)) (aCons (xVar 2) aNil))))) (sSeq (sPar2 10 11 (fX (xFnX f__law_leaves 3 (aP (aCons (xVar 0) (aCons (xVar 7) (aCons (xFn f__law_entry 2 (aCons (xC (.int 1)) (aCons (xC (.int 9)) aNil))) aNil)))))) (fX (xFnX f__law_leaves 3 (aP (aCons (xVar 0) (aCons (xVar 8) (aCons (xVar 9) aNil))))))) (sSeq (sExpr (xMeth ("MemoryPages" : Str) ("write" : Str) f_MemoryPages_write 3 (xP (xVar 0)) (aP (aCons (xOp oIxA (xVar 10) (xUn oNeg (xC (.int 1)))) (aCons (xFn f_leaf_page 2 (aCons (xFn f_leaf_entries 1 (aCons (xMethP ("MemoryPages" : Str) ("read" : Str) f_MemoryPages_read 2 (xVar 0) (aCons (xOp oIxA (xVar 10) (xUn oNeg (xC (.int 1)))) aNil)) aNil)) (aCons (xOp oIxA (xVar 11) (xC (.int 0))) aNil))) aNil))))) (sSeq (sExpr (xMeth ("MemoryPages" : Str) ("write" : Str) f_MemoryPages_write 3 (xP (xVar 0)) (aP (aCons (xVar 5) (aCons (xFn f_inner_page 2 (aCons (xVar 7) (aCons (xVar 10) aNil))) aNil))))) (sSeq (sExpr (xMeth ("MemoryPages" : Str) ("write" : Str) f_MemoryPages_write 3 (xP (xVar 0)) (aP (aCons (xVar 6) (aCons (xFn f_inner_page 2 (aCons (xVar 8) (aCons (xVar 11) aNil))) aNil))))) (sSeq (sExpr (xMeth ("MemoryPages" : Str) ("write" : Str) f_MemoryPages_write 3 (xP (xVar 0)) (aP (aCons (xVar 4) (aCons (xFn f_inner_page 2 (aCons (xLst (aCons (xVar 9) aNil)) (aCons (xLst (aCons (xVar 5) (aCons (xVar 6) aNil))) aNil))) aNil))))) (sRet (xP (xVar 4))))))))))))
def f__law_three : Fm := fBody 14 b_f__law_three
def N_f_check_node : List Str := ["page"]
abbrev s_f_check_node : Stmt := top 44
theorem sc_f_check_node : FnScope N_f_check_node ["page"] (defScope s_f_check_node) := ⟨rfl, rfl, rfl, by decide +kernel, rfl, by decide +kernel, by decide +kernel⟩
def d_f_check_node : He.DefD := ⟨(("check_node" : Str), none), ("check_node" : Str), ("check_node" : Str), defArgs s_f_check_node, defBody s_f_check_node, defScope s_f_check_node, [], []⟩
def b_f_check_node : Sm := (sIf (tP (bT (xOp oNotInA (xFn f_kind_of 1 (aCons (xVar 0) aNil)) (xTup (aCons (xC (.int 3)) (aCons (xC (.int 4)) aNil)))))) sNever sNil)
def f_check_node : Fm := fBody 1 b_f_check_node
def N_f_is_leaf : List Str := ["page"]
abbrev s_f_is_leaf : Stmt := top 45
theorem sc_f_is_leaf : FnScope N_f_is_leaf ["page"] (defScope s_f_is_leaf) := ⟨rfl, rfl, rfl, by decide +kernel, rfl, by decide +kernel, by decide +kernel⟩
def d_f_is_leaf : He.DefD := ⟨(("is_leaf" : Str), none), ("is_leaf" : Str), ("is_leaf" : Str), defArgs s_f_is_leaf, defBody s_f_is_leaf, defScope s_f_is_leaf, [], []⟩
def b_f_is_leaf : Sm := (sSeq (sExpr (xP (xFn f_check_node 1 (aCons (xVar 0) aNil)))) (sRet (xP (xOp oEq (xFn f_kind_of 1 (aCons (xVar 0) aNil)) (xC (.int 3))))))
def f_is_leaf : Fm := fBody 1 b_f_is_leaf
def N_f_inner_parts : List Str := ["page", "walls", "children", "at", "turn", "wall"]
abbrev s_f_inner_parts : Stmt := top 43
theorem sc_f_inner_parts : FnScope N_f_inner_parts ["page"] (defScope s_f_inner_parts) := ⟨rfl, rfl, rfl, by decide +kernel, rfl, by decide +kernel, by decide +kernel⟩
def d_f_inner_parts : He.DefD := ⟨(("inner_parts" : Str), none), ("inner_parts" : Str), ("inner_parts" : Str), defArgs s_f_inner_parts, defBody s_f_inner_parts, defScope s_f_inner_parts, [], []⟩
def b_f_inner_parts : Sm := (sSeq (sPar3 1 2 3 (fL (iP (lLst aNil))) (fL (iP (lLst (aCons (xFn f_number_of 1 (aCons (xSl (xVar 0) (oSome (xC (.int 12))) (oSome (xOp oAdd (xC (.int 12)) (xC (.int 2))))) aNil)) aNil)))) (fX (xP (xOp oAdd (xC (.int 12)) (xC (.int 2)))))) (sSeq (sFor (iRange1 (aCons (xOp oIxA (xVar 0) (xC (.int 7))) aNil)) (gN 4) (sSeq (sAsg (gT 2 (gsCons (gN 5) (gsCons (gN 3) gsNil))) (xP (xFn f_read_entry 2 (aCons (xVar 0) (aCons (xVar 3) aNil))))) (sSeq (sAppend 1 (xVar 5)) (sSeq (sAppend 2 (xFn f_number_of 1 (aCons (xSl (xVar 0) (oSome (xVar 3)) (oSome (xOp oAdd (xVar 3) (xC (.int 2))))) aNil))) (sAug oAugAdd 3 (xC (.int 2))))))) (sFrz 1 (sFrz 2 (sRet (xP (xTup (aCons (xVar 1) (aCons (xVar 2) aNil)))))))))
def f_inner_parts : Fm := fBody 6 b_f_inner_parts
def N_f_child_at : List Str := ["walls", "entry", "wall"]
abbrev s_f_child_at : Stmt := top 50
theorem sc_f_child_at : FnScope N_f_child_at ["walls", "entry"] (defScope s_f_child_at) := ⟨rfl, rfl, rfl, by decide +kernel, rfl, by decide +kernel, by decide +kernel⟩
def d_f_child_at : He.DefD := ⟨(("child_at" : Str), none), ("child_at" : Str), ("child_at" : Str), defArgs s_f_child_at, defBody s_f_child_at, defScope s_f_child_at, [], []⟩
def b_f_child_at : Sm := (sRet (xP (xCall bLenA (aCons (xFz (lLc (iSeq (xVar 0)) (gN 2) (bT (xOp oLe (xVar 2) (xVar 1))) (xVar 2) [2])) aNil))))
def f_child_at : Fm := fBody 3 b_f_child_at
def N_f_leaf_for : List Str := ["pages", "root", "low", "number", "page", "walls", "children"]
abbrev s_f_leaf_for : Stmt := top 60
theorem sc_f_leaf_for : FnScope N_f_leaf_for ["pages", "root", "low"] (defScope s_f_leaf_for) := ⟨rfl, rfl, rfl, by decide +kernel, rfl, by decide +kernel, by decide +kernel⟩
def d_f_leaf_for : He.DefD := ⟨(("leaf_for" : Str), none), ("leaf_for" : Str), ("leaf_for" : Str), defArgs s_f_leaf_for, defBody s_f_leaf_for, defScope s_f_leaf_for, [], []⟩
def b_f_leaf_for : Sm := (sSeq (sAsg (gN 3) (xP (xVar 1))) (sSeq (sAsg (gN 4) (xP (xMethP ("MemoryPages" : Str) ("read" : Str) f_MemoryPages_read 2 (xVar 0) (aCons (xVar 3) aNil)))) (sSeq (sWhile (tP (yNot (bT (xFn f_is_leaf 1 (aCons (xVar 4) aNil))))) (sSeq (sAsg (gT 2 (gsCons (gN 5) (gsCons (gN 6) gsNil))) (xP (xFn f_inner_parts 1 (aCons (xVar 4) aNil)))) (sSeq (sAsg (gN 3) (xP (xOp oIxA (xVar 6) (xIf (bT (xOp oIsN (xVar 2) (xC .non))) (xC (.int 0)) (xFn f_child_at 2 (aCons (xVar 5) (aCons (xTup (aCons (xVar 2) (aCons (xTup (aCons (xC (.int 0)) (aCons (xC (.int 0)) aNil))) aNil))) aNil))))))) (sAsg (gN 4) (xP (xMethP ("MemoryPages" : Str) ("read" : Str) f_MemoryPages_read 2 (xVar 0) (aCons (xVar 3) aNil)))))) 200) (sRet (xP (xVar 3))))))
def f_leaf_for : Fm := fBody 7 b_f_leaf_for
def N_f_leaf_next : List Str := ["page"]
abbrev s_f_leaf_next : Stmt := top 46
theorem sc_f_leaf_next : FnScope N_f_leaf_next ["page"] (defScope s_f_leaf_next) := ⟨rfl, rfl, rfl, by decide +kernel, rfl, by decide +kernel, by decide +kernel⟩
def d_f_leaf_next : He.DefD := ⟨(("leaf_next" : Str), none), ("leaf_next" : Str), ("leaf_next" : Str), defArgs s_f_leaf_next, defBody s_f_leaf_next, defScope s_f_leaf_next, [], []⟩
def b_f_leaf_next : Sm := (sRet (xP (xFn f_next_of 1 (aCons (xVar 0) aNil))))
def f_leaf_next : Fm := fBody 1 b_f_leaf_next
def N_f_entries_from : List Str := ["pages", "root", "low", "high", "found", "number", "page", "entries", "entry"]
abbrev s_f_entries_from : Stmt := top 61
theorem sc_f_entries_from : FnScope N_f_entries_from ["pages", "root", "low", "high"] (defScope s_f_entries_from) := ⟨rfl, rfl, rfl, by decide +kernel, rfl, by decide +kernel, by decide +kernel⟩
def d_f_entries_from : He.DefD := ⟨(("entries_from" : Str), none), ("entries_from" : Str), ("entries_from" : Str), defArgs s_f_entries_from, defBody s_f_entries_from, defScope s_f_entries_from, [], []⟩
def b_f_entries_from : Sm := (sSeq (sPar2 4 5 (fL (iP (lLst aNil))) (fX (xP (xFn f_leaf_for 3 (aCons (xVar 0) (aCons (xVar 1) (aCons (xVar 2) aNil))))))) (sSeq (sWhile (tP (bT (xOp oNe (xVar 5) (xC (.int 0))))) (sSeq (sAsg (gN 6) (xP (xMethP ("MemoryPages" : Str) ("read" : Str) f_MemoryPages_read 2 (xVar 0) (aCons (xVar 5) aNil)))) (sSeq (sAsg (gN 7) (xP (xFn f_leaf_entries 1 (aCons (xVar 6) aNil)))) (sSeq (sExtend 4 (xFz (lLc (iSeq (xVar 7)) (gN 8) (yOr (bT (xOp oIsN (xVar 2) (xC .non))) (bT (xOp oGe (xOp oIxA (xVar 8) (xC (.int 0))) (xVar 2)))) (xVar 8) [8]))) (sAsg (gN 5) (xP (xIf (yOr (bT (xOp oIsN (xVar 3) (xC .non))) (yOr (bT (xOp oEq (xVar 7) (xLst aNil))) (bT (xOp oLe (xOp oIxA (xOp oIxA (xVar 7) (xUn oNeg (xC (.int 1)))) (xC (.int 0))) (xVar 3))))) (xFn f_leaf_next 1 (aCons (xVar 6) aNil)) (xC (.int 0)))))))) 200) (sFrz 4 (sRet (xP (xFz (lLc (iSeq (xVar 4)) (gN 8) (yOr (bT (xOp oIsN (xVar 3) (xC .non))) (bT (xOp oLe (xOp oIxA (xVar 8) (xC (.int 0))) (xVar 3)))) (xVar 8) [8])))))))
def f_entries_from : Fm := fBody 9 b_f_entries_from
def N_f_is_key : List Str := ["thing"]
abbrev s_f_is_key : Stmt := top 31
theorem sc_f_is_key : FnScope N_f_is_key ["thing"] (defScope s_f_is_key) := ⟨rfl, rfl, rfl, by decide +kernel, rfl, by decide +kernel, by decide +kernel⟩
def d_f_is_key : He.DefD := ⟨(("is_key" : Str), none), ("is_key" : Str), ("is_key" : Str), defArgs s_f_is_key, defBody s_f_is_key, defScope s_f_is_key, [], []⟩
def b_f_is_key : Sm := (sRet (xP (xAnd (xFn f_are_bytes 1 (aCons (xVar 0) aNil)) (xChain oLe oLe (xC (.int 1)) (xCall bLenA (aCons (xVar 0) aNil)) (xC (.int 20))))))
def f_is_key : Fm := fBody 1 b_f_is_key
def N_f_check_key : List Str := ["key"]
abbrev s_f_check_key : Stmt := top 32
theorem sc_f_check_key : FnScope N_f_check_key ["key"] (defScope s_f_check_key) := ⟨rfl, rfl, rfl, by decide +kernel, rfl, by decide +kernel, by decide +kernel⟩
def d_f_check_key : He.DefD := ⟨(("check_key" : Str), none), ("check_key" : Str), ("check_key" : Str), defArgs s_f_check_key, defBody s_f_check_key, defScope s_f_check_key, [], []⟩
def b_f_check_key : Sm := (sIf (tP (yNot (bT (xFn f_is_key 1 (aCons (xVar 0) aNil))))) sNever sNil)
def f_check_key : Fm := fBody 1 b_f_check_key
def N_f_spots_between : List Str := ["pages", "root", "low", "high", "key", "one"]
abbrev s_f_spots_between : Stmt := top 62
theorem sc_f_spots_between : FnScope N_f_spots_between ["pages", "root", "low", "high"] (defScope s_f_spots_between) := ⟨rfl, rfl, rfl, by decide +kernel, rfl, by decide +kernel, by decide +kernel⟩
def d_f_spots_between : He.DefD := ⟨(("spots_between" : Str), none), ("spots_between" : Str), ("spots_between" : Str), defArgs s_f_spots_between, defBody s_f_spots_between, defScope s_f_spots_between, [], []⟩
def b_f_spots_between : Sm := (sSeq (sFor (iSeq (xFz (lLc (iSeq (xTup (aCons (xVar 2) (aCons (xVar 3) aNil)))) (gN 5) (bT (xOp oNotN (xVar 5) (xC .non))) (xVar 5) [5]))) (gN 4) (sExpr (xP (xFn f_check_key 1 (aCons (xVar 4) aNil))))) (sRet (xP (xFn f_entries_from 4 (aCons (xVar 0) (aCons (xVar 1) (aCons (xVar 2) (aCons (xVar 3) aNil))))))))
def f_spots_between : Fm := fBody 6 b_f_spots_between
def N_f_height_of : List Str := ["pages", "root", "page", "found"]
abbrev s_f_height_of : Stmt := top 64
theorem sc_f_height_of : FnScope N_f_height_of ["pages", "root"] (defScope s_f_height_of) := ⟨rfl, rfl, rfl, by decide +kernel, rfl, by decide +kernel, by decide +kernel⟩
def d_f_height_of : He.DefD := ⟨(("height_of" : Str), none), ("height_of" : Str), ("height_of" : Str), defArgs s_f_height_of, defBody s_f_height_of, defScope s_f_height_of, [], []⟩
def b_f_height_of : Sm := (sSeq (sPar2 2 3 (fX (xP (xMethP ("MemoryPages" : Str) ("read" : Str) f_MemoryPages_read 2 (xVar 0) (aCons (xVar 1) aNil)))) (fX (xP (xC (.int 1))))) (sSeq (sWhile (tP (yNot (bT (xFn f_is_leaf 1 (aCons (xVar 2) aNil))))) (sPar2 2 3 (fX (xP (xMethP ("MemoryPages" : Str) ("read" : Str) f_MemoryPages_read 2 (xVar 0) (aCons (xOp oIxA (xOp oIxA (xFn f_inner_parts 1 (aCons (xVar 2) aNil)) (xC (.int 1))) (xC (.int 0))) aNil)))) (fX (xP (xOp oAdd (xVar 3) (xC (.int 1)))))) 200) (sRet (xP (xVar 3)))))
def f_height_of : Fm := fBody 4 b_f_height_of
def N_f_is_spot : List Str := ["thing"]
abbrev s_f_is_spot : Stmt := top 33
theorem sc_f_is_spot : FnScope N_f_is_spot ["thing"] (defScope s_f_is_spot) := ⟨rfl, rfl, rfl, by decide +kernel, rfl, by decide +kernel, by decide +kernel⟩
def d_f_is_spot : He.DefD := ⟨(("is_spot" : Str), none), ("is_spot" : Str), ("is_spot" : Str), defArgs s_f_is_spot, defBody s_f_is_spot, defScope s_f_is_spot, [], []⟩
def b_f_is_spot : Sm := (sSeq (sIf (tP (yOr (yNot (bT (xIsi .tuple (xVar 0)))) (bT (xOp oNe (xCall bLenA (aCons (xVar 0) aNil)) (xC (.int 2)))))) (sRet (xP (xC (.bl false)))) sNil) (sRet (xP (xAnd (xFn f_is_number 3 (aCons (xOp oIxA (xVar 0) (xC (.int 0))) (aCons (xC (.int 1)) (aCons (xC (.int 65535)) aNil)))) (xFn f_is_number 3 (aCons (xOp oIxA (xVar 0) (xC (.int 1))) (aCons (xC (.int 0)) (aCons (xC (.int 255)) aNil))))))))
def f_is_spot : Fm := fBody 1 b_f_is_spot
def N_f_check_entry : List Str := ["key", "spot"]
abbrev s_f_check_entry : Stmt := top 34
theorem sc_f_check_entry : FnScope N_f_check_entry ["key", "spot"] (defScope s_f_check_entry) := ⟨rfl, rfl, rfl, by decide +kernel, rfl, by decide +kernel, by decide +kernel⟩
def d_f_check_entry : He.DefD := ⟨(("check_entry" : Str), none), ("check_entry" : Str), ("check_entry" : Str), defArgs s_f_check_entry, defBody s_f_check_entry, defScope s_f_check_entry, [], []⟩
def b_f_check_entry : Sm := (sSeq (sExpr (xP (xFn f_check_key 1 (aCons (xVar 0) aNil)))) (sIf (tP (yNot (bT (xFn f_is_spot 1 (aCons (xVar 1) aNil))))) sNever sNil))
def f_check_entry : Fm := fBody 2 b_f_check_entry
def N_f_entry_size : List Str := ["entry"]
abbrev s_f_entry_size : Stmt := top 36
theorem sc_f_entry_size : FnScope N_f_entry_size ["entry"] (defScope s_f_entry_size) := ⟨rfl, rfl, rfl, by decide +kernel, rfl, by decide +kernel, by decide +kernel⟩
def d_f_entry_size : He.DefD := ⟨(("entry_size" : Str), none), ("entry_size" : Str), ("entry_size" : Str), defArgs s_f_entry_size, defBody s_f_entry_size, defScope s_f_entry_size, [], []⟩
def b_f_entry_size : Sm := (sRet (xP (xOp oAdd (xCall bLenA (aCons (xOp oIxA (xVar 0) (xC (.int 0))) aNil)) (xC (.int 4)))))
def f_entry_size : Fm := fBody 1 b_f_entry_size
def N_f_leaf_size : List Str := ["entries", "entry"]
abbrev s_f_leaf_size : Stmt := top 37
theorem sc_f_leaf_size : FnScope N_f_leaf_size ["entries"] (defScope s_f_leaf_size) := ⟨rfl, rfl, rfl, by decide +kernel, rfl, by decide +kernel, by decide +kernel⟩
def d_f_leaf_size : He.DefD := ⟨(("leaf_size" : Str), none), ("leaf_size" : Str), ("leaf_size" : Str), defArgs s_f_leaf_size, defBody s_f_leaf_size, defScope s_f_leaf_size, [], []⟩
def b_f_leaf_size : Sm := (sRet (xP (xCall bSum (aCons (xFz (lLc (iSeq (xVar 0)) (gN 1) yYes (xFn f_entry_size 1 (aCons (xVar 1) aNil)) [1])) aNil))))
def f_leaf_size : Fm := fBody 2 b_f_leaf_size
def N_f_inner_size : List Str := ["walls", "children"]
abbrev s_f_inner_size : Stmt := top 38
theorem sc_f_inner_size : FnScope N_f_inner_size ["walls", "children"] (defScope s_f_inner_size) := ⟨rfl, rfl, rfl, by decide +kernel, rfl, by decide +kernel, by decide +kernel⟩
def d_f_inner_size : He.DefD := ⟨(("inner_size" : Str), none), ("inner_size" : Str), ("inner_size" : Str), defArgs s_f_inner_size, defBody s_f_inner_size, defScope s_f_inner_size, [], []⟩
def b_f_inner_size : Sm := (sRet (xP (xOp oAdd (xFn f_leaf_size 1 (aCons (xVar 0) aNil)) (xOp oMul (xC (.int 2)) (xCall bLenA (aCons (xVar 1) aNil))))))
def f_inner_size : Fm := fBody 2 b_f_inner_size
def N_f_is_small : List Str := ["page", "walls", "children"]
abbrev s_f_is_small : Stmt := top 57
theorem sc_f_is_small : FnScope N_f_is_small ["page"] (defScope s_f_is_small) := ⟨rfl, rfl, rfl, by decide +kernel, rfl, by decide +kernel, by decide +kernel⟩
def d_f_is_small : He.DefD := ⟨(("is_small" : Str), none), ("is_small" : Str), ("is_small" : Str), defArgs s_f_is_small, defBody s_f_is_small, defScope s_f_is_small, [], []⟩
def b_f_is_small : Sm := (sSeq (sIf (tP (bT (xFn f_is_leaf 1 (aCons (xVar 0) aNil)))) (sRet (xP (xOp oLt (xFn f_leaf_size 1 (aCons (xFn f_leaf_entries 1 (aCons (xVar 0) aNil)) aNil)) (xC (.int 30))))) sNil) (sSeq (sAsg (gT 2 (gsCons (gN 1) (gsCons (gN 2) gsNil))) (xP (xFn f_inner_parts 1 (aCons (xVar 0) aNil)))) (sRet (xP (xOp oLt (xFn f_inner_size 2 (aCons (xVar 1) (aCons (xVar 2) aNil))) (xC (.int 30)))))))
def f_is_small : Fm := fBody 3 b_f_is_small
def N_f_free_pages : List Str := ["pages", "found", "number"]
abbrev s_f_free_pages : Stmt := top 75
theorem sc_f_free_pages : FnScope N_f_free_pages ["pages"] (defScope s_f_free_pages) := ⟨rfl, rfl, rfl, by decide +kernel, rfl, by decide +kernel, by decide +kernel⟩
def d_f_free_pages : He.DefD := ⟨(("free_pages" : Str), none), ("free_pages" : Str), ("free_pages" : Str), defArgs s_f_free_pages, defBody s_f_free_pages, defScope s_f_free_pages, [], []⟩
def b_f_free_pages : Sm := (sSeq (sPar2 1 2 (fL (iP (lLst aNil))) (fX (xP (xFn f_free_number 1 (aCons (xFn f_front_of 1 (aCons (xVar 0) aNil)) aNil))))) (sSeq (sWhile (tP (yAnd (bT (xOp oNe (xVar 2) (xC (.int 0)))) (bT (xOp oNotInA (xVar 2) (xVar 1))))) (sSeq (sAppend 1 (xVar 2)) (sAsg (gN 2) (xP (xFn f_next_of 1 (aCons (xMethP ("MemoryPages" : Str) ("read" : Str) f_MemoryPages_read 2 (xVar 0) (aCons (xVar 2) aNil)) aNil))))) 200) (sRetO 1)))
def f_free_pages : Fm := fBody 3 b_f_free_pages
def N_f_check_given : List Str := ["pages", "front", "number"]
abbrev s_f_check_given : Stmt := top 74
theorem sc_f_check_given : FnScope N_f_check_given ["pages", "front", "number"] (defScope s_f_check_given) := ⟨rfl, rfl, rfl, by decide +kernel, rfl, by decide +kernel, by decide +kernel⟩
def d_f_check_given : He.DefD := ⟨(("check_given" : Str), none), ("check_given" : Str), ("check_given" : Str), defArgs s_f_check_given, defBody s_f_check_given, defScope s_f_check_given, [], []⟩
def b_f_check_given : Sm := (sIf (tP (yOr (yNot (bT (xFn f_is_number 3 (aCons (xVar 2) (aCons (xC (.int 1)) (aCons (xOp oSub (xFn f_fresh_number 1 (aCons (xVar 1) aNil)) (xC (.int 1))) aNil)))))) (bT (xOp oInA (xVar 2) (xFn f_free_pages 1 (aCons (xVar 0) aNil)))))) sNever sNil)
def f_check_given : Fm := fBody 3 b_f_check_given
def N_f_give_page : List Str := ["pages", "number", "front"]
abbrev s_f_give_page : Stmt := top 73
theorem sc_f_give_page : FnScope N_f_give_page ["pages", "number"] (defScope s_f_give_page) := ⟨rfl, rfl, rfl, by decide +kernel, rfl, by decide +kernel, by decide +kernel⟩
def d_f_give_page : He.DefD := ⟨(("give_page" : Str), none), ("give_page" : Str), ("give_page" : Str), defArgs s_f_give_page, defBody s_f_give_page, defScope s_f_give_page, [], []⟩
def b_f_give_page : Sm := (sSeq (sAsg (gN 2) (xP (xFn f_front_of 1 (aCons (xVar 0) aNil)))) (sSeq (sExpr (xP (xFn f_check_given 3 (aCons (xVar 0) (aCons (xVar 2) (aCons (xVar 1) aNil)))))) (sSeq (sExpr (xMeth ("MemoryPages" : Str) ("write" : Str) f_MemoryPages_write 3 (xP (xVar 0)) (aP (aCons (xVar 1) (aCons (xFn f_with_next 2 (aCons (xFn f_blank_page 1 (aCons (xC (.int 0)) aNil)) (aCons (xFn f_free_number 1 (aCons (xVar 2) aNil)) aNil))) aNil))))) (sExpr (xMeth ("MemoryPages" : Str) ("write" : Str) f_MemoryPages_write 3 (xP (xVar 0)) (aP (aCons (xC (.int 0)) (aCons (xFn f_with_bytes 3 (aCons (xVar 2) (aCons (xC (.int 14)) (aCons (xFn f_bytes_of 2 (aCons (xVar 1) (aCons (xC (.int 2)) aNil))) aNil)))) aNil))))))))
def f_give_page : Fm := fBody 3 b_f_give_page
def N_f_MemoryPages_release : List Str := ["self", "number"]
abbrev s_f_MemoryPages_release : Stmt := cls 76 4
theorem sc_f_MemoryPages_release : FnScope N_f_MemoryPages_release ["self", "number"] (defScope s_f_MemoryPages_release) := ⟨rfl, rfl, rfl, by decide +kernel, rfl, by decide +kernel, by decide +kernel⟩
def d_f_MemoryPages_release : He.DefD := ⟨(("MemoryPages" : Str), some ("release" : Str)), ("release" : Str), ("MemoryPages.release" : Str), defArgs s_f_MemoryPages_release, defBody s_f_MemoryPages_release, defScope s_f_MemoryPages_release, [], []⟩
def b_f_MemoryPages_release : Sm := (sExpr (xFnX f_give_page 2 (aP (aCons (xVar 0) (aCons (xVar 1) aNil)))))
def f_MemoryPages_release : Fm := fBody 2 b_f_MemoryPages_release
def N_f_join_two : List Str := ["pages", "wall", "left", "right", "one", "other", "entries", "walls", "children"]
abbrev s_f_join_two : Stmt := top 59
theorem sc_f_join_two : FnScope N_f_join_two ["pages", "wall", "left", "right"] (defScope s_f_join_two) := ⟨rfl, rfl, rfl, by decide +kernel, rfl, by decide +kernel, by decide +kernel⟩
def d_f_join_two : He.DefD := ⟨(("join_two" : Str), none), ("join_two" : Str), ("join_two" : Str), defArgs s_f_join_two, defBody s_f_join_two, defScope s_f_join_two, [], []⟩
def b_f_join_two : Sm := (sSeq (sPar2 4 5 (fX (xP (xMethP ("MemoryPages" : Str) ("read" : Str) f_MemoryPages_read 2 (xVar 0) (aCons (xVar 2) aNil)))) (fX (xP (xMethP ("MemoryPages" : Str) ("read" : Str) f_MemoryPages_read 2 (xVar 0) (aCons (xVar 3) aNil))))) (sSeq (sIf (tP (bT (xFn f_is_leaf 1 (aCons (xVar 4) aNil)))) (sSeq (sAsg (gN 6) (xP (xLst (aStar (xFn f_leaf_entries 1 (aCons (xVar 4) aNil)) (aStar (xFn f_leaf_entries 1 (aCons (xVar 5) aNil)) aNil))))) (sSeq (sIf (tP (bT (xOp oGt (xFn f_leaf_size 1 (aCons (xVar 6) aNil)) (xC (.int 116))))) (sRet (xP (xC (.bl false)))) sNil) (sExpr (xMeth ("MemoryPages" : Str) ("write" : Str) f_MemoryPages_write 3 (xP (xVar 0)) (aP (aCons (xVar 2) (aCons (xFn f_leaf_page 2 (aCons (xVar 6) (aCons (xFn f_leaf_next 1 (aCons (xVar 5) aNil)) aNil))) aNil))))))) (sSeq (sAsg (gN 7) (xP (xLst (aStar (xOp oIxA (xFn f_inner_parts 1 (aCons (xVar 4) aNil)) (xC (.int 0))) (aCons (xVar 1) (aStar (xOp oIxA (xFn f_inner_parts 1 (aCons (xVar 5) aNil)) (xC (.int 0))) aNil)))))) (sSeq (sAsg (gN 8) (xP (xLst (aStar (xOp oIxA (xFn f_inner_parts 1 (aCons (xVar 4) aNil)) (xC (.int 1))) (aStar (xOp oIxA (xFn f_inner_parts 1 (aCons (xVar 5) aNil)) (xC (.int 1))) aNil))))) (sSeq (sIf (tP (bT (xOp oGt (xFn f_inner_size 2 (aCons (xVar 7) (aCons (xVar 8) aNil))) (xC (.int 116))))) (sRet (xP (xC (.bl false)))) sNil) (sExpr (xMeth ("MemoryPages" : Str) ("write" : Str) f_MemoryPages_write 3 (xP (xVar 0)) (aP (aCons (xVar 2) (aCons (xFn f_inner_page 2 (aCons (xVar 7) (aCons (xVar 8) aNil))) aNil))))))))) (sSeq (sExpr (xMeth ("MemoryPages" : Str) ("release" : Str) f_MemoryPages_release 2 (xP (xVar 0)) (aP (aCons (xVar 3) aNil)))) (sRet (xP (xC (.bl true)))))))
def f_join_two : Fm := fBody 9 b_f_join_two
def N_f_join_at : List Str := ["pages", "number", "at", "walls", "children", "left", "one", "late"]
abbrev s_f_join_at : Stmt := top 58
theorem sc_f_join_at : FnScope N_f_join_at ["pages", "number", "at"] (defScope s_f_join_at) := ⟨rfl, rfl, rfl, by decide +kernel, rfl, by decide +kernel, by decide +kernel⟩
def d_f_join_at : He.DefD := ⟨(("join_at" : Str), none), ("join_at" : Str), ("join_at" : Str), defArgs s_f_join_at, defBody s_f_join_at, defScope s_f_join_at, [], []⟩
def b_f_join_at : Sm := (sSeq (sAsg (gT 2 (gsCons (gN 3) (gsCons (gN 4) gsNil))) (xP (xFn f_inner_parts 1 (aCons (xMethP ("MemoryPages" : Str) ("read" : Str) f_MemoryPages_read 2 (xVar 0) (aCons (xVar 1) aNil)) aNil)))) (sFor (iSeq (xFz (lLc (iSeq (xTup (aCons (xVar 2) (aCons (xOp oSub (xVar 2) (xC (.int 1))) aNil)))) (gN 6) (bT (xChain oLe oLt (xC (.int 0)) (xVar 6) (xCall bLenA (aCons (xVar 3) aNil)))) (xVar 6) [6]))) (gN 5) (sIf (bTX (xFnX f_join_two 4 (aP (aCons (xVar 0) (aCons (xOp oIxA (xVar 3) (xVar 5)) (aCons (xOp oIxA (xVar 4) (xVar 5)) (aCons (xOp oIxA (xVar 4) (xOp oAdd (xVar 5) (xC (.int 1)))) aNil))))))) (sSeq (sAsg (gN 7) (xP (xLst (aStar (xSl (xVar 3) oNone (oSome (xVar 5))) (aStar (xSl (xVar 3) (oSome (xOp oAdd (xVar 5) (xC (.int 1)))) oNone) aNil))))) (sSeq (sExpr (xMeth ("MemoryPages" : Str) ("write" : Str) f_MemoryPages_write 3 (xP (xVar 0)) (aP (aCons (xVar 1) (aCons (xFn f_inner_page 2 (aCons (xVar 7) (aCons (xLst (aStar (xSl (xVar 4) oNone (oSome (xOp oAdd (xVar 5) (xC (.int 1))))) (aStar (xSl (xVar 4) (oSome (xOp oAdd (xVar 5) (xC (.int 2)))) oNone) aNil))) aNil))) aNil))))) sRetN)) sNil)))
def f_join_at : Fm := fBody 8 b_f_join_at
def N_f_drop_below : List Str := ["pages", "number", "entry", "page", "walls", "children", "at", "entries", "late"]
abbrev s_f_drop_below : Stmt := top 56
theorem sc_f_drop_below : FnScope N_f_drop_below ["pages", "number", "entry"] (defScope s_f_drop_below) := ⟨rfl, rfl, rfl, by decide +kernel, rfl, by decide +kernel, by decide +kernel⟩
def d_f_drop_below : He.DefD := ⟨(("drop_below" : Str), none), ("drop_below" : Str), ("drop_below" : Str), defArgs s_f_drop_below, defBody s_f_drop_below, defScope s_f_drop_below, [], []⟩
def b_f_drop_below (f : Fm) : Sm := (sSeq (sAsg (gN 3) (xP (xMethP ("MemoryPages" : Str) ("read" : Str) f_MemoryPages_read 2 (xVar 0) (aCons (xVar 1) aNil)))) (sSeq (sIf (tP (bT (xFn f_is_leaf 1 (aCons (xVar 3) aNil)))) (sSeq (sSetF 7 (fZ (lLcX (iP (iSeq (xFn f_leaf_entries 1 (aCons (xVar 3) aNil)))) (gN 8) (tP (bT (xOp oNe (xVar 8) (xVar 2)))) (xP (xVar 8)) [8]))) (sSeq (sExpr (xMeth ("MemoryPages" : Str) ("write" : Str) f_MemoryPages_write 3 (xP (xVar 0)) (aP (aCons (xVar 1) (aCons (xFn f_leaf_page 2 (aCons (xVar 7) (aCons (xFn f_leaf_next 1 (aCons (xVar 3) aNil)) aNil))) aNil))))) sRetN)) sNil) (sSeq (sAsg (gT 2 (gsCons (gN 4) (gsCons (gN 5) gsNil))) (xP (xFn f_inner_parts 1 (aCons (xVar 3) aNil)))) (sSeq (sAsg (gN 6) (xP (xFn f_child_at 2 (aCons (xVar 4) (aCons (xVar 2) aNil))))) (sSeq (sExpr (xFnX f 3 (aP (aCons (xVar 0) (aCons (xOp oIxA (xVar 5) (xVar 6)) (aCons (xVar 2) aNil)))))) (sIf (tP (bT (xFn f_is_small 1 (aCons (xMethP ("MemoryPages" : Str) ("read" : Str) f_MemoryPages_read 2 (xVar 0) (aCons (xOp oIxA (xVar 5) (xVar 6)) aNil)) aNil)))) (sExpr (xFnX f_join_at 3 (aP (aCons (xVar 0) (aCons (xVar 1) (aCons (xVar 6) aNil)))))) sNil))))))
def f_drop_below : Nat → Fm
  | 0 => fBody 9 sNever
  | n + 1 => fBody 9 (b_f_drop_below (f_drop_below n))
def N_f_drop_key : List Str := ["pages", "root", "key", "spot", "page", "child"]
abbrev s_f_drop_key : Stmt := top 55
theorem sc_f_drop_key : FnScope N_f_drop_key ["pages", "root", "key", "spot"] (defScope s_f_drop_key) := ⟨rfl, rfl, rfl, by decide +kernel, rfl, by decide +kernel, by decide +kernel⟩
def d_f_drop_key : He.DefD := ⟨(("drop_key" : Str), none), ("drop_key" : Str), ("drop_key" : Str), defArgs s_f_drop_key, defBody s_f_drop_key, defScope s_f_drop_key, [], []⟩
def b_f_drop_key : Sm := (sSeq (sExpr (xP (xFn f_check_entry 2 (aCons (xVar 2) (aCons (xVar 3) aNil))))) (sSeq (sIf (tP (bT (xOp oNotInA (xTup (aCons (xVar 2) (aCons (xVar 3) aNil))) (xFn f_entries_from 4 (aCons (xVar 0) (aCons (xVar 1) (aCons (xVar 2) (aCons (xVar 2) aNil)))))))) (sRet (xP (xC (.bl false)))) sNil) (sSeq (sExpr (xFnX (f_drop_below 12) 3 (aP (aCons (xVar 0) (aCons (xVar 1) (aCons (xTup (aCons (xVar 2) (aCons (xVar 3) aNil))) aNil)))))) (sSeq (sAsg (gN 4) (xP (xMethP ("MemoryPages" : Str) ("read" : Str) f_MemoryPages_read 2 (xVar 0) (aCons (xVar 1) aNil)))) (sSeq (sWhile (tP (yAnd (yNot (bT (xFn f_is_leaf 1 (aCons (xVar 4) aNil)))) (bT (xOp oEq (xCall bLenA (aCons (xOp oIxA (xFn f_inner_parts 1 (aCons (xVar 4) aNil)) (xC (.int 1))) aNil)) (xC (.int 1)))))) (sSeq (sAsg (gN 5) (xP (xOp oIxA (xOp oIxA (xFn f_inner_parts 1 (aCons (xVar 4) aNil)) (xC (.int 1))) (xC (.int 0))))) (sSeq (sAsg (gN 4) (xP (xMethP ("MemoryPages" : Str) ("read" : Str) f_MemoryPages_read 2 (xVar 0) (aCons (xVar 5) aNil)))) (sSeq (sExpr (xMeth ("MemoryPages" : Str) ("write" : Str) f_MemoryPages_write 3 (xP (xVar 0)) (aP (aCons (xVar 1) (aCons (xVar 4) aNil))))) (sExpr (xMeth ("MemoryPages" : Str) ("release" : Str) f_MemoryPages_release 2 (xP (xVar 0)) (aP (aCons (xVar 5) aNil))))))) 200) (sRet (xP (xC (.bl true)))))))))
def f_drop_key : Fm := fBody 6 b_f_drop_key
def N_f_pages_of : List Str := ["pages", "root", "found", "page", "child"]
abbrev s_f_pages_of : Stmt := top 63
theorem sc_f_pages_of : FnScope N_f_pages_of ["pages", "root"] (defScope s_f_pages_of) := ⟨rfl, rfl, rfl, by decide +kernel, rfl, by decide +kernel, by decide +kernel⟩
def d_f_pages_of : He.DefD := ⟨(("pages_of" : Str), none), ("pages_of" : Str), ("pages_of" : Str), defArgs s_f_pages_of, defBody s_f_pages_of, defScope s_f_pages_of, [], []⟩
def b_f_pages_of (f : Fm) : Sm := (sSeq (sPar2 2 3 (fL (iP (lLst (aCons (xVar 1) aNil)))) (fX (xP (xMethP ("MemoryPages" : Str) ("read" : Str) f_MemoryPages_read 2 (xVar 0) (aCons (xVar 1) aNil))))) (sSeq (sIf (tP (yNot (bT (xFn f_is_leaf 1 (aCons (xVar 3) aNil))))) (sFor (iSeq (xOp oIxA (xFn f_inner_parts 1 (aCons (xVar 3) aNil)) (xC (.int 1)))) (gN 4) (sExtend 2 (xFn f 2 (aCons (xVar 0) (aCons (xVar 4) aNil))))) sNil) (sRetO 2)))
def f_pages_of : Nat → Fm
  | 0 => fBody 5 sNever
  | n + 1 => fBody 5 (b_f_pages_of (f_pages_of n))
def N_f__law_after_drop : List Str := ["_law_sizes", "_law_between", "_law_others", "_law_pages", "_law_root", "_law_before", "_law_gone"]
abbrev s_f__law_after_drop : Stmt := top 82
theorem sc_f__law_after_drop : FnScope N_f__law_after_drop ["_law_sizes", "_law_between", "_law_others"] (defScope s_f__law_after_drop) := ⟨rfl, rfl, rfl, by decide +kernel, rfl, by decide +kernel, by decide +kernel⟩
def d_f__law_after_drop : He.DefD := ⟨(("_law_after_drop" : Str), none), ("_law_after_drop" : Str), ("_law_after_drop" : Str), defArgs s_f__law_after_drop, defBody s_f__law_after_drop, defScope s_f__law_after_drop, [], []⟩
def b_f__law_after_drop : Sm := (sSeq (sAsg (gN 3) (xNew ("MemoryPages" : Str) f_MemoryPagesd_initd 1 aXNil)) (sSeq (sAsg (gN 4) (xFnX f__law_three 4 (aP (aCons (xVar 3) (aCons (xVar 0) (aCons (xVar 1) (aCons (xVar 2) aNil))))))) (sSeq (sAsg (gN 5) (xP (xFn f_spots_between 4 (aCons (xVar 3) (aCons (xVar 4) (aCons (xC .non) (aCons (xC .non) aNil))))))) (sSeq (sAsg (gN 6) (xP (xFn f__law_entry 2 (aCons (xC (.int 1)) (aCons (xC (.int 9)) aNil))))) (sSeq (sIf (yOrX (yNotX (bTX (xFnX f_drop_key 4 (aP (aCons (xVar 3) (aCons (xVar 4) (aCons (xOp oIxA (xVar 6) (xC (.int 0))) (aCons (xOp oIxA (xVar 6) (xC (.int 1))) aNil)))))))) (tP (bT (xOp oNe (xFn f_spots_between 4 (aCons (xVar 3) (aCons (xVar 4) (aCons (xC .non) (aCons (xC .non) aNil))))) (xSl (xVar 5) (oSome (xC (.int 1))) oNone))))) (sRet (xP (xC .non))) sNil) (sRet (xP (xTup (aCons (xCall bLenA (aCons (xOp oIxA (xFn f_inner_parts 1 (aCons (xMethP ("MemoryPages" : Str) ("read" : Str) f_MemoryPages_read 2 (xVar 3) (aCons (xVar 4) aNil)) aNil)) (xC (.int 1))) aNil)) (aCons (xCall bLenA (aCons (xFn (f_pages_of 12) 2 (aCons (xVar 3) (aCons (xVar 4) aNil))) aNil)) (aCons (xFn f_height_of 2 (aCons (xVar 3) (aCons (xVar 4) aNil))) aNil)))))))))))
def f__law_after_drop : Fm := fBody 7 b_f__law_after_drop
def N_f_half_of : List Str := ["sizes", "whole", "rows", "many"]
abbrev s_f_half_of : Stmt := top 47
theorem sc_f_half_of : FnScope N_f_half_of ["sizes"] (defScope s_f_half_of) := ⟨rfl, rfl, rfl, by decide +kernel, rfl, by decide +kernel, by decide +kernel⟩
def d_f_half_of : He.DefD := ⟨(("half_of" : Str), none), ("half_of" : Str), ("half_of" : Str), defArgs s_f_half_of, defBody s_f_half_of, defScope s_f_half_of, [], []⟩
def b_f_half_of : Sm := (sSeq (sAsg (gN 1) (xP (xCall bSum (aCons (xVar 0) aNil)))) (sSeq (sSetF 2 (fZ (lLcX (iP (iRange2 (aCons (xC (.int 1)) (aCons (xCall bLenA (aCons (xVar 0) aNil)) aNil)))) (gN 3) yYesX (xP (xTup (aCons (xCall bAbs (aCons (xOp oSub (xVar 1) (xOp oMul (xC (.int 2)) (xCall bSum (aCons (xSl (xVar 0) oNone (oSome (xVar 3))) aNil)))) aNil)) (aCons (xVar 3) aNil)))) [3]))) (sRet (xP (xOp oIxA (xCall bMin (aCons (xVar 2) aNil)) (xC (.int 1)))))))
def f_half_of : Fm := fBody 4 b_f_half_of
def N_f_write_inner : List Str := ["pages", "number", "walls", "children", "many", "right", "wall"]
abbrev s_f_write_inner : Stmt := top 54
theorem sc_f_write_inner : FnScope N_f_write_inner ["pages", "number", "walls", "children"] (defScope s_f_write_inner) := ⟨rfl, rfl, rfl, by decide +kernel, rfl, by decide +kernel, by decide +kernel⟩
def d_f_write_inner : He.DefD := ⟨(("write_inner" : Str), none), ("write_inner" : Str), ("write_inner" : Str), defArgs s_f_write_inner, defBody s_f_write_inner, defScope s_f_write_inner, [], []⟩
def b_f_write_inner : Sm := (sSeq (sIf (tP (bT (xOp oLe (xFn f_inner_size 2 (aCons (xVar 2) (aCons (xVar 3) aNil))) (xC (.int 116))))) (sSeq (sExpr (xMeth ("MemoryPages" : Str) ("write" : Str) f_MemoryPages_write 3 (xP (xVar 0)) (aP (aCons (xVar 1) (aCons (xFn f_inner_page 2 (aCons (xVar 2) (aCons (xVar 3) aNil))) aNil))))) (sRet (xP (xC .non)))) sNil) (sSeq (sAsg (gN 4) (xP (xFn f_half_of 1 (aCons (xFz (lLc (iSeq (xSl (xVar 2) oNone (oSome (xUn oNeg (xC (.int 1)))))) (gN 6) yYes (xOp oAdd (xFn f_entry_size 1 (aCons (xVar 6) aNil)) (xC (.int 2))) [6])) aNil)))) (sSeq (sAsg (gN 5) (xMeth ("MemoryPages" : Str) ("allocate" : Str) f_MemoryPages_allocate 1 (xP (xVar 0)) aXNil)) (sSeq (sExpr (xMeth ("MemoryPages" : Str) ("write" : Str) f_MemoryPages_write 3 (xP (xVar 0)) (aP (aCons (xVar 5) (aCons (xFn f_inner_page 2 (aCons (xSl (xVar 2) (oSome (xOp oAdd (xVar 4) (xC (.int 1)))) oNone) (aCons (xSl (xVar 3) (oSome (xOp oAdd (xVar 4) (xC (.int 1)))) oNone) aNil))) aNil))))) (sSeq (sExpr (xMeth ("MemoryPages" : Str) ("write" : Str) f_MemoryPages_write 3 (xP (xVar 0)) (aP (aCons (xVar 1) (aCons (xFn f_inner_page 2 (aCons (xSl (xVar 2) oNone (oSome (xVar 4))) (aCons (xSl (xVar 3) oNone (oSome (xOp oAdd (xVar 4) (xC (.int 1))))) aNil))) aNil))))) (sRet (xP (xTup (aCons (xOp oIxA (xVar 2) (xVar 4)) (aCons (xVar 5) aNil))))))))))
def f_write_inner : Fm := fBody 7 b_f_write_inner
def N_f_write_leaf : List Str := ["pages", "number", "entries", "late", "many", "right", "entry"]
abbrev s_f_write_leaf : Stmt := top 53
theorem sc_f_write_leaf : FnScope N_f_write_leaf ["pages", "number", "entries", "late"] (defScope s_f_write_leaf) := ⟨rfl, rfl, rfl, by decide +kernel, rfl, by decide +kernel, by decide +kernel⟩
def d_f_write_leaf : He.DefD := ⟨(("write_leaf" : Str), none), ("write_leaf" : Str), ("write_leaf" : Str), defArgs s_f_write_leaf, defBody s_f_write_leaf, defScope s_f_write_leaf, [], []⟩
def b_f_write_leaf : Sm := (sSeq (sIf (tP (bT (xOp oLe (xFn f_leaf_size 1 (aCons (xVar 2) aNil)) (xC (.int 116))))) (sSeq (sExpr (xMeth ("MemoryPages" : Str) ("write" : Str) f_MemoryPages_write 3 (xP (xVar 0)) (aP (aCons (xVar 1) (aCons (xFn f_leaf_page 2 (aCons (xVar 2) (aCons (xVar 3) aNil))) aNil))))) (sRet (xP (xC .non)))) sNil) (sSeq (sAsg (gN 4) (xP (xFn f_half_of 1 (aCons (xFz (lLc (iSeq (xVar 2)) (gN 6) yYes (xFn f_entry_size 1 (aCons (xVar 6) aNil)) [6])) aNil)))) (sSeq (sAsg (gN 5) (xMeth ("MemoryPages" : Str) ("allocate" : Str) f_MemoryPages_allocate 1 (xP (xVar 0)) aXNil)) (sSeq (sExpr (xMeth ("MemoryPages" : Str) ("write" : Str) f_MemoryPages_write 3 (xP (xVar 0)) (aP (aCons (xVar 5) (aCons (xFn f_leaf_page 2 (aCons (xSl (xVar 2) (oSome (xVar 4)) oNone) (aCons (xVar 3) aNil))) aNil))))) (sSeq (sExpr (xMeth ("MemoryPages" : Str) ("write" : Str) f_MemoryPages_write 3 (xP (xVar 0)) (aP (aCons (xVar 1) (aCons (xFn f_leaf_page 2 (aCons (xSl (xVar 2) oNone (oSome (xVar 4))) (aCons (xVar 5) aNil))) aNil))))) (sRet (xP (xTup (aCons (xOp oIxA (xVar 2) (xVar 4)) (aCons (xVar 5) aNil))))))))))
def f_write_leaf : Fm := fBody 7 b_f_write_leaf
def N_f_put_below : List Str := ["pages", "number", "entry", "page", "walls", "children", "at", "split", "wall", "right", "late"]
abbrev s_f_put_below : Stmt := top 52
theorem sc_f_put_below : FnScope N_f_put_below ["pages", "number", "entry"] (defScope s_f_put_below) := ⟨rfl, rfl, rfl, by decide +kernel, rfl, by decide +kernel, by decide +kernel⟩
def d_f_put_below : He.DefD := ⟨(("put_below" : Str), none), ("put_below" : Str), ("put_below" : Str), defArgs s_f_put_below, defBody s_f_put_below, defScope s_f_put_below, [], []⟩
def b_f_put_below (f : Fm) : Sm := (sSeq (sAsg (gN 3) (xP (xMethP ("MemoryPages" : Str) ("read" : Str) f_MemoryPages_read 2 (xVar 0) (aCons (xVar 1) aNil)))) (sSeq (sIf (tP (bT (xFn f_is_leaf 1 (aCons (xVar 3) aNil)))) (sRet (xFnX f_write_leaf 4 (aP (aCons (xVar 0) (aCons (xVar 1) (aCons (xCall bSorted (aCons (xLst (aStar (xFn f_leaf_entries 1 (aCons (xVar 3) aNil)) (aCons (xVar 2) aNil))) aNil)) (aCons (xFn f_leaf_next 1 (aCons (xVar 3) aNil)) aNil))))))) sNil) (sSeq (sAsg (gT 2 (gsCons (gN 4) (gsCons (gN 5) gsNil))) (xP (xFn f_inner_parts 1 (aCons (xVar 3) aNil)))) (sSeq (sAsg (gN 6) (xP (xFn f_child_at 2 (aCons (xVar 4) (aCons (xVar 2) aNil))))) (sSeq (sAsg (gN 7) (xFnX f 3 (aP (aCons (xVar 0) (aCons (xOp oIxA (xVar 5) (xVar 6)) (aCons (xVar 2) aNil)))))) (sSeq (sIf (tP (bT (xOp oIsN (xVar 7) (xC .non)))) (sRet (xP (xC .non))) sNil) (sSeq (sAsg (gT 2 (gsCons (gN 8) (gsCons (gN 9) gsNil))) (xP (xVar 7))) (sSeq (sAsg (gN 10) (xP (xLst (aStar (xSl (xVar 5) oNone (oSome (xOp oAdd (xVar 6) (xC (.int 1))))) (aCons (xVar 9) (aStar (xSl (xVar 5) (oSome (xOp oAdd (xVar 6) (xC (.int 1)))) oNone) aNil)))))) (sRet (xFnX f_write_inner 4 (aP (aCons (xVar 0) (aCons (xVar 1) (aCons (xLst (aStar (xSl (xVar 4) oNone (oSome (xVar 6))) (aCons (xVar 8) (aStar (xSl (xVar 4) (oSome (xVar 6)) oNone) aNil)))) (aCons (xVar 10) aNil)))))))))))))))
def f_put_below : Nat → Fm
  | 0 => fBody 11 sNever
  | n + 1 => fBody 11 (b_f_put_below (f_put_below n))
def N_f_put_key : List Str := ["pages", "root", "key", "spot", "split", "wall", "right", "left"]
abbrev s_f_put_key : Stmt := top 51
theorem sc_f_put_key : FnScope N_f_put_key ["pages", "root", "key", "spot"] (defScope s_f_put_key) := ⟨rfl, rfl, rfl, by decide +kernel, rfl, by decide +kernel, by decide +kernel⟩
def d_f_put_key : He.DefD := ⟨(("put_key" : Str), none), ("put_key" : Str), ("put_key" : Str), defArgs s_f_put_key, defBody s_f_put_key, defScope s_f_put_key, [], []⟩
def b_f_put_key : Sm := (sSeq (sExpr (xP (xFn f_check_entry 2 (aCons (xVar 2) (aCons (xVar 3) aNil))))) (sSeq (sIf (tP (bT (xOp oInA (xTup (aCons (xVar 2) (aCons (xVar 3) aNil))) (xFn f_entries_from 4 (aCons (xVar 0) (aCons (xVar 1) (aCons (xVar 2) (aCons (xVar 2) aNil)))))))) (sRet (xP (xC (.bl false)))) sNil) (sSeq (sAsg (gN 4) (xFnX (f_put_below 12) 3 (aP (aCons (xVar 0) (aCons (xVar 1) (aCons (xTup (aCons (xVar 2) (aCons (xVar 3) aNil))) aNil)))))) (sSeq (sIf (tP (bT (xOp oNotN (xVar 4) (xC .non)))) (sSeq (sAsg (gT 2 (gsCons (gN 5) (gsCons (gN 6) gsNil))) (xP (xVar 4))) (sSeq (sAsg (gN 7) (xMeth ("MemoryPages" : Str) ("allocate" : Str) f_MemoryPages_allocate 1 (xP (xVar 0)) aXNil)) (sSeq (sExpr (xMeth ("MemoryPages" : Str) ("write" : Str) f_MemoryPages_write 3 (xP (xVar 0)) (aP (aCons (xVar 7) (aCons (xMethP ("MemoryPages" : Str) ("read" : Str) f_MemoryPages_read 2 (xVar 0) (aCons (xVar 1) aNil)) aNil))))) (sExpr (xMeth ("MemoryPages" : Str) ("write" : Str) f_MemoryPages_write 3 (xP (xVar 0)) (aP (aCons (xVar 1) (aCons (xFn f_inner_page 2 (aCons (xLst (aCons (xVar 5) aNil)) (aCons (xLst (aCons (xVar 7) (aCons (xVar 6) aNil))) aNil))) aNil)))))))) sNil) (sRet (xP (xC (.bl true))))))))
def f_put_key : Fm := fBody 8 b_f_put_key
def N_f__law_inner_full : List Str := ["_law_size", "_law_pages", "_law_root", "_law_shuts", "_law_number", "_law_place", "_law_late", "_law_entry_here"]
abbrev s_f__law_inner_full : Stmt := top 84
theorem sc_f__law_inner_full : FnScope N_f__law_inner_full ["_law_size"] (defScope s_f__law_inner_full) := ⟨rfl, rfl, rfl, by decide +kernel, rfl, by decide +kernel, by decide +kernel⟩
def d_f__law_inner_full : He.DefD := ⟨(("_law_inner_full" : Str), none), ("_law_inner_full" : Str), ("_law_inner_full" : Str), defArgs s_f__law_inner_full, defBody s_f__law_inner_full, defScope s_f__law_inner_full, [], []⟩
def b_f__law_inner_full : Sm := (sSeq (sAsg (gN 1) (xNew ("MemoryPages" : Str) f_MemoryPagesd_initd 1 aXNil)) (sSeq (sAsg (gN 2) (xFnX f_new_tree 1 (aP (aCons (xVar 1) aNil)))) (sSeq (sSetF 3 (fZ (lLcX (iP (iEnumP (aCons (xTup (aCons (xC (.int 24)) (aCons (xC (.int 20)) (aCons (xC (.int 20)) (aCons (xC (.int 20)) aNil))))) aNil))) (gT 2 (gsCons (gN 5) (gsCons (gN 6) gsNil))) yYesX (xP (xFn f__law_entry 2 (aCons (xOp oAdd (xC (.int 10)) (xVar 5)) (aCons (xVar 6) aNil)))) [5, 6]))) (sSeq (sExpr (xMeth ("MemoryPages" : Str) ("write" : Str) f_MemoryPages_write 3 (xP (xVar 1)) (aXCons (xP (xVar 2)) (aXCons (xFnP f_inner_page 2 (aXCons (xP (xVar 3)) (aXCons (xFnX f__law_leaves 3 (aP (aCons (xVar 1) (aCons (xVar 3) (aCons (xFn f__law_entry 2 (aCons (xC (.int 1)) (aCons (xC (.int 9)) aNil))) aNil))))) aXNil))) aXNil)))) (sSeq (sFor (iRange2 (aCons (xC (.int 100)) (aCons (xC (.int 112)) aNil))) (gN 4) (sIf (tP (bT (xOp oEq (xCall bLenA (aCons (xOp oIxA (xFn f_inner_parts 1 (aCons (xMethP ("MemoryPages" : Str) ("read" : Str) f_MemoryPages_read 2 (xVar 1) (aCons (xVar 2) aNil)) aNil)) (xC (.int 0))) aNil)) (xC (.int 4))))) (sSeq (sAsg (gN 7) (xP (xFn f__law_entry 2 (aCons (xVar 4) (aCons (xVar 0) aNil))))) (sExpr (xFnX f_put_key 4 (aP (aCons (xVar 1) (aCons (xVar 2) (aCons (xOp oIxA (xVar 7) (xC (.int 0))) (aCons (xOp oIxA (xVar 7) (xC (.int 1))) aNil)))))))) sNil)) (sRet (xP (xCall bLenA (aCons (xOp oIxA (xFn f_inner_parts 1 (aCons (xMethP ("MemoryPages" : Str) ("read" : Str) f_MemoryPages_read 2 (xVar 1) (aCons (xVar 2) aNil)) aNil)) (xC (.int 0))) aNil)))))))))
def f__law_inner_full : Fm := fBody 8 b_f__law_inner_full
def N_f__law_leaf_join : List Str := ["_law_sizes", "_law_pages", "_law_root", "_law_one", "_law_other", "_law_left", "_law_right", "_law_place", "_law_size", "_law_key", "_law_spot"]
abbrev s_f__law_leaf_join : Stmt := top 83
theorem sc_f__law_leaf_join : FnScope N_f__law_leaf_join ["_law_sizes"] (defScope s_f__law_leaf_join) := ⟨rfl, rfl, rfl, by decide +kernel, rfl, by decide +kernel, by decide +kernel⟩
def d_f__law_leaf_join : He.DefD := ⟨(("_law_leaf_join" : Str), none), ("_law_leaf_join" : Str), ("_law_leaf_join" : Str), defArgs s_f__law_leaf_join, defBody s_f__law_leaf_join, defScope s_f__law_leaf_join, [], []⟩
def b_f__law_leaf_join : Sm := (sSeq (sAsg (gN 1) (xNew ("MemoryPages" : Str) f_MemoryPagesd_initd 1 aXNil)) (sSeq (sPar3 2 3 4 (fX (xFnX f_new_tree 1 (aP (aCons (xVar 1) aNil)))) (fX (xMeth ("MemoryPages" : Str) ("allocate" : Str) f_MemoryPages_allocate 1 (xP (xVar 1)) aXNil)) (fX (xMeth ("MemoryPages" : Str) ("allocate" : Str) f_MemoryPages_allocate 1 (xP (xVar 1)) aXNil))) (sSeq (sPar2 5 6 (fX (xP (xFz (lLc (iEnumP (aCons (xVar 0) aNil)) (gT 2 (gsCons (gN 7) (gsCons (gN 8) gsNil))) yYes (xFn f__law_entry 2 (aCons (xOp oAdd (xC (.int 1)) (xVar 7)) (aCons (xVar 8) aNil))) [7, 8])))) (fX (xP (xFz (lLc (iRange1 (aCons (xC (.int 5)) aNil)) (gN 7) yYes (xFn f__law_entry 2 (aCons (xOp oAdd (xC (.int 50)) (xVar 7)) (aCons (xC (.int 7)) aNil))) [7]))))) (sSeq (sExpr (xMeth ("MemoryPages" : Str) ("write" : Str) f_MemoryPages_write 3 (xP (xVar 1)) (aP (aCons (xVar 3) (aCons (xFn f_leaf_page 2 (aCons (xVar 5) (aCons (xVar 4) aNil))) aNil))))) (sSeq (sExpr (xMeth ("MemoryPages" : Str) ("write" : Str) f_MemoryPages_write 3 (xP (xVar 1)) (aP (aCons (xVar 4) (aCons (xFn f_leaf_page 2 (aCons (xVar 6) (aCons (xC (.int 0)) aNil))) aNil))))) (sSeq (sExpr (xMeth ("MemoryPages" : Str) ("write" : Str) f_MemoryPages_write 3 (xP (xVar 1)) (aP (aCons (xVar 2) (aCons (xFn f_inner_page 2 (aCons (xSl (xVar 6) oNone (oSome (xC (.int 1)))) (aCons (xLst (aCons (xVar 3) (aCons (xVar 4) aNil))) aNil))) aNil))))) (sSeq (sExpr (xFnX f_drop_key 4 (aP (aCons (xVar 1) (aCons (xVar 2) (aCons (xOp oIxA (xOp oIxA (xVar 6) (xC (.int 4))) (xC (.int 0))) (aCons (xOp oIxA (xOp oIxA (xVar 6) (xC (.int 4))) (xC (.int 1))) aNil))))))) (sSeq (sIf (tP (bT (xOp oNe (xFz (lLc (iSeq (xFn f_spots_between 4 (aCons (xVar 1) (aCons (xVar 2) (aCons (xC .non) (aCons (xC .non) aNil)))))) (gT 2 (gsCons (gN 9) (gsCons (gN 10) gsNil))) yYes (xVar 9) [9, 10])) (xFz (lLc (iSeq (xOp oAdd (xVar 5) (xSl (xVar 6) oNone (oSome (xC (.int 4)))))) (gT 2 (gsCons (gN 9) (gsCons (gN 10) gsNil))) yYes (xVar 9) [9, 10]))))) (sRet (xP (xC .non))) sNil) (sRet (xP (xCall bLenA (aCons (xFn (f_pages_of 12) 2 (aCons (xVar 1) (aCons (xVar 2) aNil))) aNil))))))))))))
def f__law_leaf_join : Fm := fBody 11 b_f__law_leaf_join
def N_f_law : List Str := ["_law_script", "_law_part", "_law_one"]
abbrev s_f_law : Stmt := top 85
theorem sc_f_law : FnScope N_f_law ["_law_script"] (defScope s_f_law) := ⟨rfl, rfl, rfl, by decide +kernel, rfl, by decide +kernel, by decide +kernel⟩
def d_f_law : He.DefD := ⟨(("law" : Str), none), ("law" : Str), ("law" : Str), defArgs s_f_law, defBody s_f_law, defScope s_f_law, [], []⟩
def l_0 : Sm := (sAsg (gN 1) (xP (xOp oMod (xCall bInt (aCons (xCall bSum (aCons (xFz (lLc (iSeq (xSl (xVar 0) oNone (oSome (xC (.int 9))))) (gN 2) yYes (xCall bAbs (aCons (xVar 2) aNil)) [2])) aNil)) aNil)) (xC (.int 5)))))
def l_1 : Sm := (sTry0 (sSeq (sIf (tP (bT (xOp oEq (xVar 1) (xC (.int 0))))) (sRet (xAndX (xOpX oEq (xFnX f__law_leaf_join 1 (aP (aCons (xOp oMul (xLst (aCons (xC (.int 11)) aNil)) (xC (.int 8))) aNil))) (xP (xC (.int 1)))) (xOpX oEq (xFnX f__law_leaf_join 1 (aP (aCons (xOp oAdd (xOp oMul (xLst (aCons (xC (.int 11)) aNil)) (xC (.int 7))) (xLst (aCons (xC (.int 12)) aNil))) aNil))) (xP (xC (.int 3)))))) sNil) (sSeq (sIf (tP (bT (xOp oEq (xVar 1) (xC (.int 1))))) (sRet (xAndX (xOpX oEq (xFnX f__law_after_drop 3 (aP (aCons (xLst (aCons (xC (.int 12)) (aCons (xC (.int 12)) (aCons (xC (.int 12)) aNil)))) (aCons (xC (.int 12)) (aCons (xLst (aCons (xC (.int 12)) aNil)) aNil))))) (xP (xTup (aCons (xC (.int 2)) (aCons (xC (.int 8)) (aCons (xC (.int 3)) aNil)))))) (xOpX oEq (xFnX f__law_after_drop 3 (aP (aCons (xLst (aCons (xC (.int 12)) (aCons (xC (.int 12)) (aCons (xC (.int 11)) aNil)))) (aCons (xC (.int 12)) (aCons (xLst (aCons (xC (.int 12)) aNil)) aNil))))) (xP (xTup (aCons (xC (.int 5)) (aCons (xC (.int 6)) (aCons (xC (.int 2)) aNil)))))))) sNil) (sSeq (sIf (tP (bT (xOp oEq (xVar 1) (xC (.int 2))))) (sRet (xOpX oEq (xFnX f__law_after_drop 3 (aP (aCons (xLst (aCons (xC (.int 12)) (aCons (xC (.int 12)) aNil))) (aCons (xC (.int 12)) (aCons (xLst (aCons (xC (.int 24)) (aCons (xC (.int 24)) (aCons (xC (.int 20)) (aCons (xC (.int 10)) aNil))))) aNil))))) (xP (xTup (aCons (xC (.int 7)) (aCons (xC (.int 8)) (aCons (xC (.int 2)) aNil))))))) sNil) (sSeq (sIf (tP (bT (xOp oEq (xVar 1) (xC (.int 3))))) (sRet (xOpX oEq (xFnX f__law_after_drop 3 (aP (aCons (xLst (aCons (xC (.int 12)) (aCons (xC (.int 12)) aNil))) (aCons (xC (.int 12)) (aCons (xLst (aCons (xC (.int 24)) (aCons (xC (.int 24)) (aCons (xC (.int 20)) (aCons (xC (.int 11)) aNil))))) aNil))))) (xP (xTup (aCons (xC (.int 2)) (aCons (xC (.int 10)) (aCons (xC (.int 3)) aNil))))))) sNil) (sRet (xAndX (xOpX oEq (xFnX f__law_inner_full 1 (aP (aCons (xC (.int 20)) aNil))) (xP (xC (.int 5)))) (xOpX oEq (xFnX f__law_inner_full 1 (aP (aCons (xC (.int 21)) aNil))) (xP (xC (.int 1)))))))))))
def b_f_law : Sm := (sSeq l_0 l_1)
def fa : List He.Fa := [.free ("isinstance" : Str), .free ("int" : Str), .free ("bool" : Str), .glo ("is_number" : Str), .int ("MOST_PAGE" : Str) 65535, .glo ("check_page_number" : Str), .free ("tuple" : Str), .free ("all" : Str), .glo ("are_bytes" : Str), .free ("len" : Str), .int ("PAGE_SIZE" : Str) 128, .glo ("is_page" : Str), .glo ("check_page" : Str), .cls ("MemoryPages" : Str), .noat ("MemoryPages" : Str) ("pages" : Str), .free ("list" : Str), .free ("dict" : Str), .meth ("MemoryPages" : Str) ("write" : Str), .glo ("with_bytes" : Str), .glo ("check_number" : Str), .free ("range" : Str), .glo ("bytes_of" : Str), .int ("BLANK" : Str) 0, .int ("INNER" : Str) 4, .glo ("blank_page" : Str), .int ("FRONT" : Str) 1, .int ("FRESH_AT" : Str) 12, .glo ("format_pages" : Str), .mkr ("MemoryPages" : Str), .glo ("MemoryPages" : Str), .glo ("_law_entry" : Str), .meth ("MemoryPages" : Str) ("read" : Str), .glo ("kind_of" : Str), .glo ("front_of" : Str), .glo ("number_of" : Str), .int ("FREE_AT" : Str) 14, .glo ("free_number" : Str), .glo ("fresh_number" : Str), .glo ("next_of" : Str), .glo ("take_page" : Str), .meth ("MemoryPages" : Str) ("allocate" : Str), .glo ("with_next" : Str), .glo ("entry_bytes" : Str), .int ("LEAF" : Str) 3, .int ("HEAD" : Str) 12, .glo ("leaf_page" : Str), .glo ("new_tree" : Str), .free ("enumerate" : Str), .glo ("_law_leaves" : Str), .free ("zip" : Str), .glo ("inner_page" : Str), .glo ("read_entry" : Str), .glo ("leaf_entries" : Str), .glo ("_law_three" : Str), .glo ("check_node" : Str), .glo ("is_leaf" : Str), .glo ("inner_parts" : Str), .glo ("child_at" : Str), .glo ("leaf_for" : Str), .glo ("leaf_next" : Str), .glo ("entries_from" : Str), .int ("MOST_KEY" : Str) 20, .glo ("is_key" : Str), .glo ("check_key" : Str), .glo ("spots_between" : Str), .glo ("height_of" : Str), .glo ("is_spot" : Str), .glo ("check_entry" : Str), .glo ("entry_size" : Str), .free ("sum" : Str), .glo ("leaf_size" : Str), .glo ("inner_size" : Str), .int ("FEW" : Str) 30, .glo ("is_small" : Str), .glo ("free_pages" : Str), .glo ("check_given" : Str), .glo ("give_page" : Str), .meth ("MemoryPages" : Str) ("release" : Str), .int ("ROOM" : Str) 116, .glo ("join_two" : Str), .glo ("join_at" : Str), .glo ("drop_below" : Str), .glo ("drop_key" : Str), .glo ("pages_of" : Str), .glo ("_law_after_drop" : Str), .free ("abs" : Str), .free ("min" : Str), .glo ("half_of" : Str), .glo ("write_inner" : Str), .glo ("write_leaf" : Str), .free ("sorted" : Str), .glo ("put_below" : Str), .glo ("put_key" : Str), .glo ("_law_inner_full" : Str), .glo ("_law_leaf_join" : Str), .glo ("law" : Str)]
def fn : List He.DefD := [d_f_is_number, d_f_check_page_number, d_f_are_bytes, d_f_is_page, d_f_check_page, d_f_MemoryPages_write, d_f_with_bytes, d_f_check_number, d_f_bytes_of, d_f_blank_page, d_f_format_pages, d_f_MemoryPagesd_initd, d_f__law_entry, d_f_MemoryPages_read, d_f_kind_of, d_f_front_of, d_f_number_of, d_f_free_number, d_f_fresh_number, d_f_next_of, d_f_take_page, d_f_MemoryPages_allocate, d_f_with_next, d_f_entry_bytes, d_f_leaf_page, d_f_new_tree, d_f__law_leaves, d_f_inner_page, d_f_read_entry, d_f_leaf_entries, d_f__law_three, d_f_check_node, d_f_is_leaf, d_f_inner_parts, d_f_child_at, d_f_leaf_for, d_f_leaf_next, d_f_entries_from, d_f_is_key, d_f_check_key, d_f_spots_between, d_f_height_of, d_f_is_spot, d_f_check_entry, d_f_entry_size, d_f_leaf_size, d_f_inner_size, d_f_is_small, d_f_free_pages, d_f_check_given, d_f_give_page, d_f_MemoryPages_release, d_f_join_two, d_f_join_at, d_f_drop_below, d_f_drop_key, d_f_pages_of, d_f__law_after_drop, d_f_half_of, d_f_write_inner, d_f_write_leaf, d_f_put_below, d_f_put_key, d_f__law_inner_full, d_f__law_leaf_join, d_f_law]
section
variable {P : Program} {w : World} {K : PySem.W.Frag} {mg : Str → Option Value} {base h : Heap}
theorem ok_is_number (I : K.In h) (G : h.Ns mainGlobals mg) (c : He.SaysD fa fn K) : FnK P w K mg base (Pm K) 1 ("is_number" : Str) 3 f_is_number := by
  obtain ⟨fd, F⟩ := c.def_ 0 (d := d_f_is_number) rfl
  refine ⟨1, _, fd, ["thing", "least", "most"], Nat.le_refl _, fn_sim F sc_f_is_number rfl fun cdv A outer s H E hr tk hp => ?_, He.glo_ok I G (c.fact 3), F.kp, F.bindsN fun _ _ _ _ _ _ us hl => match us, hl with | [_, _, _], _ => rfl⟩
  have hu := hr.units
  have nd := sc_f_is_number.nd
  exact (b_one (s_ret (x_p (e_and (e_isi (k := .int) bt_int rfl (He.free_ok I G (c.fact 0)) rfl (He.free_ok I G (c.fact 1)) (e_var (i := 0) rfl (.inl rfl))) (e_and (e_not (e_isi (k := .bool) bt_bool rfl (He.free_ok I G (c.fact 0)) rfl (He.free_ok I G (c.fact 2)) (e_var (i := 0) rfl (.inl rfl)))) (e_one (E_chain (k_le hu) (k_le hu) (e_var (i := 1) rfl (.inl rfl)) (e_var (i := 0) rfl (.inl rfl)) (e_var (i := 2) rfl (.inl rfl)))))))))
theorem ok_check_page_number (I : K.In h) (G : h.Ns mainGlobals mg) (c : He.SaysD fa fn K) : FnK P w K mg base (Pm K) 2 ("check_page_number" : Str) 1 f_check_page_number := by
  obtain ⟨fd, F⟩ := c.def_ 1 (d := d_f_check_page_number) rfl
  refine ⟨2, _, fd, ["number"], Nat.le_refl _, fn_sim F sc_f_check_page_number rfl fun cdv A outer s H E hr tk hp => ?_, He.glo_ok I G (c.fact 5), F.kp, F.bindsN fun _ _ _ _ _ _ us hl => match us, hl with | [_], _ => rfl⟩
  have hu := hr.units
  have nd := sc_f_check_page_number.nd
  exact (b_one (s_if (t_p (t_not (t_val (e_fn ((ok_is_number I G c).at (by decide)) hr tk rfl (a_cons (e_var (i := 0) rfl (.inl rfl)) (a_cons e_int (a_cons (e_con rfl (con_int (He.int_ok I G (c.fact 4)))) a_nil))))))) (b_one s_never) b_nil))
theorem ok_are_bytes (I : K.In h) (G : h.Ns mainGlobals mg) (c : He.SaysD fa fn K) : FnK P w K mg base (Pm K) 2 ("are_bytes" : Str) 1 f_are_bytes := by
  obtain ⟨fd, F⟩ := c.def_ 2 (d := d_f_are_bytes) rfl
  refine ⟨2, _, fd, ["thing"], Nat.le_refl _, fn_sim F sc_f_are_bytes rfl fun cdv A outer s H E hr tk hp => ?_, He.glo_ok I G (c.fact 8), F.kp, F.bindsN fun _ _ _ _ _ _ us hl => match us, hl with | [_], _ => rfl⟩
  have hu := hr.units
  have nd := sc_f_are_bytes.nd
  exact (b_one (s_ret (x_p (e_and (e_isi (k := .tuple) bt_tuple rfl (He.free_ok I G (c.fact 0)) rfl (He.free_ok I G (c.fact 6)) (e_var (i := 0) rfl (.inl rfl))) (e_one (E_callB (c_all rfl) rfl (He.free_ok I G (c.fact 7)) bt_all (a_cons (e_fz (l_lc (own := [(("one" : Str), 1)]) rfl nd (i_seq (e_var (i := 0) rfl (.inl rfl))) (by show BlkOk N_f_are_bytes (defScope s_f_are_bytes) _ _; exact ⟨rfl, by decide +kernel, by decide +kernel, by decide +kernel, by decide +kernel⟩) (by decide) (fun _ _ _ _ _ => (g_name (i := 1) nd rfl (.inl rfl))) (fun _ _ _ _ _ => ts_nil) (fun _ _ _ _ _ => (e_fn ((ok_is_number I G c).at (by decide)) hr L2.takes0 rfl (a_cons (e_var (i := 1) rfl (.inl rfl)) (a_cons e_int (a_cons e_int a_nil))))))) a_nil)))))))
theorem ok_is_page (I : K.In h) (G : h.Ns mainGlobals mg) (c : He.SaysD fa fn K) : FnK P w K mg base (Pm K) 3 ("is_page" : Str) 1 f_is_page := by
  obtain ⟨fd, F⟩ := c.def_ 3 (d := d_f_is_page) rfl
  refine ⟨3, _, fd, ["thing"], Nat.le_refl _, fn_sim F sc_f_is_page rfl fun cdv A outer s H E hr tk hp => ?_, He.glo_ok I G (c.fact 11), F.kp, F.bindsN fun _ _ _ _ _ _ us hl => match us, hl with | [_], _ => rfl⟩
  have hu := hr.units
  have nd := sc_f_is_page.nd
  exact (b_one (s_ret (x_p (e_and (e_fn ((ok_are_bytes I G c).at (by decide)) hr tk rfl (a_cons (e_var (i := 0) rfl (.inl rfl)) a_nil)) (e_one (E_cmp (k_eq hu) (E_callB (c_len) rfl (He.free_ok I G (c.fact 9)) bt_len (a_cons (e_var (i := 0) rfl (.inl rfl)) a_nil)) (e_con rfl (con_int (He.int_ok I G (c.fact 10))))))))))
theorem ok_check_page (I : K.In h) (G : h.Ns mainGlobals mg) (c : He.SaysD fa fn K) : FnK P w K mg base (Pm K) 4 ("check_page" : Str) 1 f_check_page := by
  obtain ⟨fd, F⟩ := c.def_ 4 (d := d_f_check_page) rfl
  refine ⟨4, _, fd, ["page"], Nat.le_refl _, fn_sim F sc_f_check_page rfl fun cdv A outer s H E hr tk hp => ?_, He.glo_ok I G (c.fact 12), F.kp, F.bindsN fun _ _ _ _ _ _ us hl => match us, hl with | [_], _ => rfl⟩
  have hu := hr.units
  have nd := sc_f_check_page.nd
  exact (b_one (s_if (t_p (t_not (t_val (e_fn ((ok_is_page I G c).at (by decide)) hr tk rfl (a_cons (e_var (i := 0) rfl (.inl rfl)) a_nil))))) (b_one s_never) b_nil))
theorem ok_MemoryPages_write (I : K.In h) (G : h.Ns mainGlobals mg) (c : He.SaysD fa fn K) : ∃ (fa : Addr) (fd : FuncData) (ps : List Str), fa = He.ma K (He.ga K ("MemoryPages" : Str)) ("write" : Str) ∧ FnOk P w K mg base (L2.CX P w) 5 fa fd ps (spM (Em K) 3 f_MemoryPages_write) ∧ Binds K fd ps [] := by
  obtain ⟨fd, F⟩ := c.def_ 5 (d := d_f_MemoryPages_write) rfl
  refine ⟨_, fd, ["self", "number", "page"], rfl, fn_sim F sc_f_MemoryPages_write rfl fun cdv A outer s H E hr tk hp => ?_, F.bindsN fun _ _ _ _ _ _ us hl => match us, hl with | [_, _, _], _ => rfl⟩
  have hu := hr.units
  have nd := sc_f_MemoryPages_write.nd
  exact (b_cons (s_expr (x_p (e_fn ((ok_check_page_number I G c).at (by decide)) hr tk rfl (a_cons (e_var (i := 1) rfl (.inl rfl)) a_nil)))) (b_cons (s_expr (x_p (e_fn ((ok_check_page I G c).at (by decide)) hr tk rfl (a_cons (e_var (i := 2) rfl (.inl rfl)) a_nil)))) (b_one (s_fld (fld_cons (He.cls_ok (c.fact 13)) (He.noat_ok (c.fact 14)) fld_nil) (e_var (i := 0) rfl (.inl rfl)) (x_p (E_callTy (c_dict rfl) rfl (He.free_ok I G (c.fact 16)) bt_dict (a_cons (e_lst (a_star (e_listItems rfl (e_fld (fld_cons (He.cls_ok (c.fact 13)) (He.noat_ok (c.fact 14)) fld_nil) (e_var (i := 0) rfl (.inl rfl))) rfl (He.free_ok I G (c.fact 15))) (a_cons (e_tup (a_cons (e_var (i := 1) rfl (.inl rfl)) (a_cons (e_var (i := 2) rfl (.inl rfl)) a_nil))) a_nil))) a_nil)))))))
theorem me_MemoryPages_write (I : K.In h) (G : h.Ns mainGlobals mg) (c : He.SaysD fa fn K) : MeK P w K mg base (Em K) 5 ("MemoryPages" : Str) ("write" : Str) 3 f_MemoryPages_write := by
  obtain ⟨fa, fd, ps, e, F, hb⟩ := ok_MemoryPages_write (P := P) (w := w) (base := base) I G c
  exact ⟨5, fa, fd, ps, Nat.le_refl _, F, He.cls_ok (c.fact 13), e ▸ He.meth_ok (c.fact 17), hb⟩
theorem ok_with_bytes (I : K.In h) (G : h.Ns mainGlobals mg) (c : He.SaysD fa fn K) : FnK P w K mg base (Pm K) 1 ("with_bytes" : Str) 3 f_with_bytes := by
  obtain ⟨fd, F⟩ := c.def_ 6 (d := d_f_with_bytes) rfl
  refine ⟨1, _, fd, ["page", "at", "data"], Nat.le_refl _, fn_sim F sc_f_with_bytes rfl fun cdv A outer s H E hr tk hp => ?_, He.glo_ok I G (c.fact 18), F.kp, F.bindsN fun _ _ _ _ _ _ us hl => match us, hl with | [_, _, _], _ => rfl⟩
  have hu := hr.units
  have nd := sc_f_with_bytes.nd
  exact (b_one (s_ret (x_p (e_tup (a_star (e_sl (e_var (i := 0) rfl (.inl rfl)) o_none (o_some (e_var (i := 1) rfl (.inl rfl)))) (a_star (e_var (i := 2) rfl (.inl rfl)) (a_star (e_sl (e_var (i := 0) rfl (.inl rfl)) (o_some (E_op k_add (e_var (i := 1) rfl (.inl rfl)) (E_callB (c_len) rfl (He.free_ok I G (c.fact 9)) bt_len (a_cons (e_var (i := 2) rfl (.inl rfl)) a_nil)))) o_none) a_nil)))))))
theorem ok_check_number (I : K.In h) (G : h.Ns mainGlobals mg) (c : He.SaysD fa fn K) : FnK P w K mg base (Pm K) 2 ("check_number" : Str) 3 f_check_number := by
  obtain ⟨fd, F⟩ := c.def_ 7 (d := d_f_check_number) rfl
  refine ⟨2, _, fd, ["thing", "least", "most"], Nat.le_refl _, fn_sim F sc_f_check_number rfl fun cdv A outer s H E hr tk hp => ?_, He.glo_ok I G (c.fact 19), F.kp, F.bindsN fun _ _ _ _ _ _ us hl => match us, hl with | [_, _, _], _ => rfl⟩
  have hu := hr.units
  have nd := sc_f_check_number.nd
  exact (b_one (s_if (t_p (t_not (t_val (e_fn ((ok_is_number I G c).at (by decide)) hr tk rfl (a_cons (e_var (i := 0) rfl (.inl rfl)) (a_cons (e_var (i := 1) rfl (.inl rfl)) (a_cons (e_var (i := 2) rfl (.inl rfl)) a_nil))))))) (b_one s_never) b_nil))
theorem ok_bytes_of (I : K.In h) (G : h.Ns mainGlobals mg) (c : He.SaysD fa fn K) : FnK P w K mg base (Pm K) 1 ("bytes_of" : Str) 2 f_bytes_of := by
  obtain ⟨fd, F⟩ := c.def_ 8 (d := d_f_bytes_of) rfl
  refine ⟨1, _, fd, ["number", "width"], Nat.le_refl _, fn_sim F sc_f_bytes_of rfl fun cdv A outer s H E hr tk hp => ?_, He.glo_ok I G (c.fact 21), F.kp, F.bindsN fun _ _ _ _ _ _ us hl => match us, hl with | [_, _], _ => rfl⟩
  have hu := hr.units
  have nd := sc_f_bytes_of.nd
  exact (b_cons (s_setF (i := 2) nd rfl (.inl rfl) (f_l (xl_p (l_lst a_nil)))) (b_cons (s_for hp rfl (i_range1 rfl (He.free_ok I G (c.fact 20)) (a_cons (e_var (i := 1) rfl (.inl rfl)) a_nil)) (g_name (i := 3) nd rfl (.inl rfl)) (b_cons (s_append (i := 2) rfl (.inl rfl) (E_op k_mod (e_var (i := 0) rfl (.inl rfl)) e_int)) (b_one (S_aug (i := 0) i_fdiv nd rfl (.inl rfl) e_int)))) (b_one (s_frz fri_P 2 (s_ret (x_p (E_callTy (c_tuple) rfl (He.free_ok I G (c.fact 6)) bt_tuple (a_cons (e_revL (p4 := ⟨0, 0, 0, 0⟩) (e_var (i := 2) rfl (.inl rfl))) a_nil))))))))
theorem ok_blank_page (I : K.In h) (G : h.Ns mainGlobals mg) (c : He.SaysD fa fn K) : FnK P w K mg base (Pm K) 3 ("blank_page" : Str) 1 f_blank_page := by
  obtain ⟨fd, F⟩ := c.def_ 9 (d := d_f_blank_page) rfl
  refine ⟨3, _, fd, ["kind"], Nat.le_refl _, fn_sim F sc_f_blank_page rfl fun cdv A outer s H E hr tk hp => ?_, He.glo_ok I G (c.fact 24), F.kp, F.bindsN fun _ _ _ _ _ _ us hl => match us, hl with | [_], _ => rfl⟩
  have hu := hr.units
  have nd := sc_f_blank_page.nd
  exact (b_cons (s_expr (x_p (e_fn ((ok_check_number I G c).at (by decide)) hr tk rfl (a_cons (e_var (i := 0) rfl (.inl rfl)) (a_cons (e_con rfl (con_int (He.int_ok I G (c.fact 22)))) (a_cons (e_con rfl (con_int (He.int_ok I G (c.fact 23)))) a_nil)))))) (b_cons (s_set (i := 1) nd rfl (.inl rfl) (x_p (E_op k_mul (e_tup (a_cons e_int a_nil)) (e_con rfl (con_int (He.int_ok I G (c.fact 10))))))) (b_one (s_ret (x_p (e_fn ((ok_with_bytes I G c).at (by decide)) hr tk rfl (a_cons (e_fn ((ok_with_bytes I G c).at (by decide)) hr tk rfl (a_cons (e_var (i := 1) rfl (.inl rfl)) (a_cons e_int (a_cons (e_tup (a_cons (e_var (i := 0) rfl (.inl rfl)) a_nil)) a_nil)))) (a_cons e_int (a_cons (e_fn ((ok_bytes_of I G c).at (by decide)) hr tk rfl (a_cons (e_con rfl (con_int (He.int_ok I G (c.fact 10)))) (a_cons e_int a_nil))) a_nil)))))))))
theorem ok_format_pages (I : K.In h) (G : h.Ns mainGlobals mg) (c : He.SaysD fa fn K) : FnK P w K mg base (Em K) 6 ("format_pages" : Str) 1 f_format_pages := by
  obtain ⟨fd, F⟩ := c.def_ 10 (d := d_f_format_pages) rfl
  refine ⟨6, _, fd, ["pages"], Nat.le_refl _, fn_sim F sc_f_format_pages rfl fun cdv A outer s H E hr tk hp => ?_, He.glo_ok I G (c.fact 27), F.kp, F.bindsN fun _ _ _ _ _ _ us hl => match us, hl with | [_], _ => rfl⟩
  have hu := hr.units
  have nd := sc_f_format_pages.nd
  exact (b_one (s_expr (x_meth (c := ("MemoryPages" : Str)) (pl := _) ((me_MemoryPages_write I G c).at (by decide)) hr tk (x_p (e_var (i := 0) rfl (.inl rfl))) (xa_p (a_cons e_int (a_cons (e_fn ((ok_with_bytes I G c).at (by decide)) hr tk rfl (a_cons (e_fn ((ok_blank_page I G c).at (by decide)) hr tk rfl (a_cons (e_con rfl (con_int (He.int_ok I G (c.fact 25)))) a_nil)) (a_cons (e_con rfl (con_int (He.int_ok I G (c.fact 26)))) (a_cons (e_fn ((ok_bytes_of I G c).at (by decide)) hr tk rfl (a_cons e_int (a_cons e_int a_nil))) a_nil)))) a_nil))))))
theorem ok_MemoryPagesd_initd (I : K.In h) (G : h.Ns mainGlobals mg) (c : He.SaysD fa fn K) : ∃ (fa : Addr) (fd : FuncData) (ps : List Str), fa = He.ma K (He.ga K ("MemoryPages" : Str)) ("__init__" : Str) ∧ FnOk P w K mg base (L2.CX P w) 7 fa fd ps (spM (Em K) 1 f_MemoryPagesd_initd) ∧ Binds K fd ps [] := by
  obtain ⟨fd, F⟩ := c.def_ 11 (d := d_f_MemoryPagesd_initd) rfl
  refine ⟨_, fd, ["self"], rfl, fn_sim F sc_f_MemoryPagesd_initd rfl fun cdv A outer s H E hr tk hp => ?_, F.bindsN fun _ _ _ _ _ _ us hl => match us, hl with | [_], _ => rfl⟩
  have hu := hr.units
  have nd := sc_f_MemoryPagesd_initd.nd
  exact (b_cons (s_fld (fld_cons (He.cls_ok (c.fact 13)) (He.noat_ok (c.fact 14)) fld_nil) (e_var (i := 0) rfl (.inl rfl)) (x_p e_dnew)) (b_one (s_expr (x_fn ((ok_format_pages I G c).at (by decide)) hr tk rfl (xa_p (a_cons (e_var (i := 0) rfl (.inl rfl)) a_nil))))))
theorem nw_MemoryPages (I : K.In h) (G : h.Ns mainGlobals mg) (c : He.SaysD fa fn K) : NwK P w K mg base 8 ("MemoryPages" : Str) 1 f_MemoryPagesd_initd := by
  obtain ⟨fa, fd, ps, e, F, hb⟩ := ok_MemoryPagesd_initd (P := P) (w := w) (base := base) I G c
  exact ⟨7, fa, fd, ps, Nat.le_refl _, F, e ▸ He.mkr_ok (c.fact 28), He.glo_ok I G (c.fact 29), hb⟩
theorem ok__law_entry (I : K.In h) (G : h.Ns mainGlobals mg) (c : He.SaysD fa fn K) : FnK P w K mg base (Pm K) 1 ("_law_entry" : Str) 2 f__law_entry := by
  obtain ⟨fd, F⟩ := c.def_ 12 (d := d_f__law_entry) rfl
  refine ⟨1, _, fd, ["_law_number", "_law_size"], Nat.le_refl _, fn_sim F sc_f__law_entry rfl fun cdv A outer s H E hr tk hp => ?_, He.glo_ok I G (c.fact 30), F.kp, F.bindsN fun _ _ _ _ _ _ us hl => match us, hl with | [_, _], _ => rfl⟩
  have hu := hr.units
  have nd := sc_f__law_entry.nd
  exact (b_one (s_ret (x_p (e_tup (a_cons (E_op k_add (e_tup (a_cons (e_var (i := 0) rfl (.inl rfl)) a_nil)) (E_op k_mul (e_tup (a_cons e_int a_nil)) (E_op k_sub (e_var (i := 1) rfl (.inl rfl)) e_int))) (a_cons (e_tup (a_cons e_int (a_cons e_int a_nil))) a_nil))))))
theorem ok_MemoryPages_read (I : K.In h) (G : h.Ns mainGlobals mg) (c : He.SaysD fa fn K) : ∃ (fa : Addr) (fd : FuncData) (ps : List Str), fa = He.ma K (He.ga K ("MemoryPages" : Str)) ("read" : Str) ∧ FnOk P w K mg base (L2.CX P w) 4 fa fd ps (spM (Pm K) 2 f_MemoryPages_read) ∧ Binds K fd ps [] := by
  obtain ⟨fd, F⟩ := c.def_ 13 (d := d_f_MemoryPages_read) rfl
  refine ⟨_, fd, ["self", "number"], rfl, fn_sim F sc_f_MemoryPages_read rfl fun cdv A outer s H E hr tk hp => ?_, F.bindsN fun _ _ _ _ _ _ us hl => match us, hl with | [_, _], _ => rfl⟩
  have hu := hr.units
  have nd := sc_f_MemoryPages_read.nd
  exact (b_cons (s_expr (x_p (e_fn ((ok_check_page_number I G c).at (by decide)) hr tk rfl (a_cons (e_var (i := 1) rfl (.inl rfl)) a_nil)))) (b_one (s_ret (x_p (e_dget2 hu (e_fld (fld_cons (He.cls_ok (c.fact 13)) (He.noat_ok (c.fact 14)) fld_nil) (e_var (i := 0) rfl (.inl rfl))) (e_var (i := 1) rfl (.inl rfl)) (e_fn ((ok_blank_page I G c).at (by decide)) hr tk rfl (a_cons (e_con rfl (con_int (He.int_ok I G (c.fact 22)))) a_nil)))))))
theorem me_MemoryPages_read (I : K.In h) (G : h.Ns mainGlobals mg) (c : He.SaysD fa fn K) : MeK P w K mg base (Pm K) 4 ("MemoryPages" : Str) ("read" : Str) 2 f_MemoryPages_read := by
  obtain ⟨fa, fd, ps, e, F, hb⟩ := ok_MemoryPages_read (P := P) (w := w) (base := base) I G c
  exact ⟨4, fa, fd, ps, Nat.le_refl _, F, He.cls_ok (c.fact 13), e ▸ He.meth_ok (c.fact 31), hb⟩
theorem ok_kind_of (I : K.In h) (G : h.Ns mainGlobals mg) (c : He.SaysD fa fn K) : FnK P w K mg base (Pm K) 1 ("kind_of" : Str) 1 f_kind_of := by
  obtain ⟨fd, F⟩ := c.def_ 14 (d := d_f_kind_of) rfl
  refine ⟨1, _, fd, ["page"], Nat.le_refl _, fn_sim F sc_f_kind_of rfl fun cdv A outer s H E hr tk hp => ?_, He.glo_ok I G (c.fact 32), F.kp, F.bindsN fun _ _ _ _ _ _ us hl => match us, hl with | [_], _ => rfl⟩
  have hu := hr.units
  have nd := sc_f_kind_of.nd
  exact (b_one (s_ret (x_p (E_ix hu (e_var (i := 0) rfl (.inl rfl)) e_int))))
theorem ok_front_of (I : K.In h) (G : h.Ns mainGlobals mg) (c : He.SaysD fa fn K) : FnK P w K mg base (Pm K) 5 ("front_of" : Str) 1 f_front_of := by
  obtain ⟨fd, F⟩ := c.def_ 15 (d := d_f_front_of) rfl
  refine ⟨5, _, fd, ["pages"], Nat.le_refl _, fn_sim F sc_f_front_of rfl fun cdv A outer s H E hr tk hp => ?_, He.glo_ok I G (c.fact 33), F.kp, F.bindsN fun _ _ _ _ _ _ us hl => match us, hl with | [_], _ => rfl⟩
  have hu := hr.units
  have nd := sc_f_front_of.nd
  exact (b_cons (s_set (i := 1) nd rfl (.inl rfl) (x_p (e_meth (c := ("MemoryPages" : Str)) (pl := _) ((me_MemoryPages_read I G c).at (by decide)) hr tk (e_var (i := 0) rfl (.inl rfl)) (a_cons e_int a_nil)))) (b_cons (s_if (t_p (T_cmp (k_ne hu) (e_fn ((ok_kind_of I G c).at (by decide)) hr tk rfl (a_cons (e_var (i := 1) rfl (.inl rfl)) a_nil)) (e_con rfl (con_int (He.int_ok I G (c.fact 25)))))) (b_one s_never) b_nil) (b_one (s_ret (x_p (e_var (i := 1) rfl (.inl rfl)))))))
theorem ok_number_of (I : K.In h) (G : h.Ns mainGlobals mg) (c : He.SaysD fa fn K) : FnK P w K mg base (Pm K) 1 ("number_of" : Str) 1 f_number_of := by
  obtain ⟨fd, F⟩ := c.def_ 16 (d := d_f_number_of) rfl
  refine ⟨1, _, fd, ["data"], Nat.le_refl _, fn_sim F sc_f_number_of rfl fun cdv A outer s H E hr tk hp => ?_, He.glo_ok I G (c.fact 34), F.kp, F.bindsN fun _ _ _ _ _ _ us hl => match us, hl with | [_], _ => rfl⟩
  have hu := hr.units
  have nd := sc_f_number_of.nd
  exact (b_cons (s_set (i := 1) nd rfl (.inl rfl) (x_p e_int)) (b_cons (s_for hp rfl (i_seq (e_var (i := 0) rfl (.inl rfl))) (g_name (i := 2) nd rfl (.inl rfl)) (b_one (s_set (i := 1) nd rfl (.inl rfl) (x_p (E_op k_add (E_op k_mul (e_var (i := 1) rfl (.inl rfl)) e_int) (e_var (i := 2) rfl (.inl rfl))))))) (b_one (s_ret (x_p (e_var (i := 1) rfl (.inl rfl)))))))
theorem ok_free_number (I : K.In h) (G : h.Ns mainGlobals mg) (c : He.SaysD fa fn K) : FnK P w K mg base (Pm K) 2 ("free_number" : Str) 1 f_free_number := by
  obtain ⟨fd, F⟩ := c.def_ 17 (d := d_f_free_number) rfl
  refine ⟨2, _, fd, ["page"], Nat.le_refl _, fn_sim F sc_f_free_number rfl fun cdv A outer s H E hr tk hp => ?_, He.glo_ok I G (c.fact 36), F.kp, F.bindsN fun _ _ _ _ _ _ us hl => match us, hl with | [_], _ => rfl⟩
  have hu := hr.units
  have nd := sc_f_free_number.nd
  exact (b_one (s_ret (x_p (e_fn ((ok_number_of I G c).at (by decide)) hr tk rfl (a_cons (e_sl (e_var (i := 0) rfl (.inl rfl)) (o_some (e_con rfl (con_int (He.int_ok I G (c.fact 35))))) (o_some (E_op k_add (e_con rfl (con_int (He.int_ok I G (c.fact 35)))) e_int))) a_nil)))))
theorem ok_fresh_number (I : K.In h) (G : h.Ns mainGlobals mg) (c : He.SaysD fa fn K) : FnK P w K mg base (Pm K) 2 ("fresh_number" : Str) 1 f_fresh_number := by
  obtain ⟨fd, F⟩ := c.def_ 18 (d := d_f_fresh_number) rfl
  refine ⟨2, _, fd, ["page"], Nat.le_refl _, fn_sim F sc_f_fresh_number rfl fun cdv A outer s H E hr tk hp => ?_, He.glo_ok I G (c.fact 37), F.kp, F.bindsN fun _ _ _ _ _ _ us hl => match us, hl with | [_], _ => rfl⟩
  have hu := hr.units
  have nd := sc_f_fresh_number.nd
  exact (b_one (s_ret (x_p (e_fn ((ok_number_of I G c).at (by decide)) hr tk rfl (a_cons (e_sl (e_var (i := 0) rfl (.inl rfl)) (o_some (e_con rfl (con_int (He.int_ok I G (c.fact 26))))) (o_some (E_op k_add (e_con rfl (con_int (He.int_ok I G (c.fact 26)))) e_int))) a_nil)))))
theorem ok_next_of (I : K.In h) (G : h.Ns mainGlobals mg) (c : He.SaysD fa fn K) : FnK P w K mg base (Pm K) 2 ("next_of" : Str) 1 f_next_of := by
  obtain ⟨fd, F⟩ := c.def_ 19 (d := d_f_next_of) rfl
  refine ⟨2, _, fd, ["page"], Nat.le_refl _, fn_sim F sc_f_next_of rfl fun cdv A outer s H E hr tk hp => ?_, He.glo_ok I G (c.fact 38), F.kp, F.bindsN fun _ _ _ _ _ _ us hl => match us, hl with | [_], _ => rfl⟩
  have hu := hr.units
  have nd := sc_f_next_of.nd
  exact (b_one (s_ret (x_p (e_fn ((ok_number_of I G c).at (by decide)) hr tk rfl (a_cons (e_sl (e_var (i := 0) rfl (.inl rfl)) (o_some e_int) (o_some e_int)) a_nil)))))
theorem ok_take_page (I : K.In h) (G : h.Ns mainGlobals mg) (c : He.SaysD fa fn K) : FnK P w K mg base (Em K) 6 ("take_page" : Str) 1 f_take_page := by
  obtain ⟨fd, F⟩ := c.def_ 20 (d := d_f_take_page) rfl
  refine ⟨6, _, fd, ["pages"], Nat.le_refl _, fn_sim F sc_f_take_page rfl fun cdv A outer s H E hr tk hp => ?_, He.glo_ok I G (c.fact 39), F.kp, F.bindsN fun _ _ _ _ _ _ us hl => match us, hl with | [_], _ => rfl⟩
  have hu := hr.units
  have nd := sc_f_take_page.nd
  exact (b_cons (s_set (i := 1) nd rfl (.inl rfl) (x_p (e_fn ((ok_front_of I G c).at (by decide)) hr tk rfl (a_cons (e_var (i := 0) rfl (.inl rfl)) a_nil)))) (b_cons (s_set (i := 2) nd rfl (.inl rfl) (x_p (e_fn ((ok_free_number I G c).at (by decide)) hr tk rfl (a_cons (e_var (i := 1) rfl (.inl rfl)) a_nil)))) (b_cons (s_if (t_p (T_cmp (k_ne hu) (e_var (i := 2) rfl (.inl rfl)) e_int)) (b_one (s_set (i := 3) nd rfl (.inl rfl) (x_p (e_fn ((ok_with_bytes I G c).at (by decide)) hr tk rfl (a_cons (e_var (i := 1) rfl (.inl rfl)) (a_cons (e_con rfl (con_int (He.int_ok I G (c.fact 35)))) (a_cons (e_fn ((ok_bytes_of I G c).at (by decide)) hr tk rfl (a_cons (e_fn ((ok_next_of I G c).at (by decide)) hr tk rfl (a_cons (e_meth (c := ("MemoryPages" : Str)) (pl := _) ((me_MemoryPages_read I G c).at (by decide)) hr tk (e_var (i := 0) rfl (.inl rfl)) (a_cons (e_var (i := 2) rfl (.inl rfl)) a_nil)) a_nil)) (a_cons e_int a_nil))) a_nil))))))) (b_cons (s_set (i := 2) nd rfl (.inl rfl) (x_p (e_fn ((ok_fresh_number I G c).at (by decide)) hr tk rfl (a_cons (e_var (i := 1) rfl (.inl rfl)) a_nil)))) (b_cons (s_if (t_p (T_cmp (k_eq hu) (e_var (i := 2) rfl (.inl rfl)) (e_con rfl (con_int (He.int_ok I G (c.fact 4)))))) (b_one s_never) b_nil) (b_one (s_set (i := 3) nd rfl (.inl rfl) (x_p (e_fn ((ok_with_bytes I G c).at (by decide)) hr tk rfl (a_cons (e_var (i := 1) rfl (.inl rfl)) (a_cons (e_con rfl (con_int (He.int_ok I G (c.fact 26)))) (a_cons (e_fn ((ok_bytes_of I G c).at (by decide)) hr tk rfl (a_cons (E_op k_add (e_var (i := 2) rfl (.inl rfl)) e_int) (a_cons e_int a_nil))) a_nil)))))))))) (b_cons (s_expr (x_meth (c := ("MemoryPages" : Str)) (pl := _) ((me_MemoryPages_write I G c).at (by decide)) hr tk (x_p (e_var (i := 0) rfl (.inl rfl))) (xa_p (a_cons e_int (a_cons (e_var (i := 3) rfl (.inl rfl)) a_nil))))) (b_cons (s_expr (x_meth (c := ("MemoryPages" : Str)) (pl := _) ((me_MemoryPages_write I G c).at (by decide)) hr tk (x_p (e_var (i := 0) rfl (.inl rfl))) (xa_p (a_cons (e_var (i := 2) rfl (.inl rfl)) (a_cons (e_fn ((ok_blank_page I G c).at (by decide)) hr tk rfl (a_cons (e_con rfl (con_int (He.int_ok I G (c.fact 22)))) a_nil)) a_nil))))) (b_one (s_ret (x_p (e_var (i := 2) rfl (.inl rfl))))))))))
theorem ok_MemoryPages_allocate (I : K.In h) (G : h.Ns mainGlobals mg) (c : He.SaysD fa fn K) : ∃ (fa : Addr) (fd : FuncData) (ps : List Str), fa = He.ma K (He.ga K ("MemoryPages" : Str)) ("allocate" : Str) ∧ FnOk P w K mg base (L2.CX P w) 7 fa fd ps (spM (Em K) 1 f_MemoryPages_allocate) ∧ Binds K fd ps [] := by
  obtain ⟨fd, F⟩ := c.def_ 21 (d := d_f_MemoryPages_allocate) rfl
  refine ⟨_, fd, ["self"], rfl, fn_sim F sc_f_MemoryPages_allocate rfl fun cdv A outer s H E hr tk hp => ?_, F.bindsN fun _ _ _ _ _ _ us hl => match us, hl with | [_], _ => rfl⟩
  have hu := hr.units
  have nd := sc_f_MemoryPages_allocate.nd
  exact (b_one (s_ret (x_fn ((ok_take_page I G c).at (by decide)) hr tk rfl (xa_p (a_cons (e_var (i := 0) rfl (.inl rfl)) a_nil)))))
theorem me_MemoryPages_allocate (I : K.In h) (G : h.Ns mainGlobals mg) (c : He.SaysD fa fn K) : MeK P w K mg base (Em K) 7 ("MemoryPages" : Str) ("allocate" : Str) 1 f_MemoryPages_allocate := by
  obtain ⟨fa, fd, ps, e, F, hb⟩ := ok_MemoryPages_allocate (P := P) (w := w) (base := base) I G c
  exact ⟨7, fa, fd, ps, Nat.le_refl _, F, He.cls_ok (c.fact 13), e ▸ He.meth_ok (c.fact 40), hb⟩
theorem ok_with_next (I : K.In h) (G : h.Ns mainGlobals mg) (c : He.SaysD fa fn K) : FnK P w K mg base (Pm K) 3 ("with_next" : Str) 2 f_with_next := by
  obtain ⟨fd, F⟩ := c.def_ 22 (d := d_f_with_next) rfl
  refine ⟨3, _, fd, ["page", "number"], Nat.le_refl _, fn_sim F sc_f_with_next rfl fun cdv A outer s H E hr tk hp => ?_, He.glo_ok I G (c.fact 41), F.kp, F.bindsN fun _ _ _ _ _ _ us hl => match us, hl with | [_, _], _ => rfl⟩
  have hu := hr.units
  have nd := sc_f_with_next.nd
  exact (b_cons (s_expr (x_p (e_fn ((ok_check_number I G c).at (by decide)) hr tk rfl (a_cons (e_var (i := 1) rfl (.inl rfl)) (a_cons e_int (a_cons (e_con rfl (con_int (He.int_ok I G (c.fact 4)))) a_nil)))))) (b_one (s_ret (x_p (e_fn ((ok_with_bytes I G c).at (by decide)) hr tk rfl (a_cons (e_var (i := 0) rfl (.inl rfl)) (a_cons e_int (a_cons (e_fn ((ok_bytes_of I G c).at (by decide)) hr tk rfl (a_cons (e_var (i := 1) rfl (.inl rfl)) (a_cons e_int a_nil))) a_nil))))))))
theorem ok_entry_bytes (I : K.In h) (G : h.Ns mainGlobals mg) (c : He.SaysD fa fn K) : FnK P w K mg base (Pm K) 2 ("entry_bytes" : Str) 1 f_entry_bytes := by
  obtain ⟨fd, F⟩ := c.def_ 23 (d := d_f_entry_bytes) rfl
  refine ⟨2, _, fd, ["entry"], Nat.le_refl _, fn_sim F sc_f_entry_bytes rfl fun cdv A outer s H E hr tk hp => ?_, He.glo_ok I G (c.fact 42), F.kp, F.bindsN fun _ _ _ _ _ _ us hl => match us, hl with | [_], _ => rfl⟩
  have hu := hr.units
  have nd := sc_f_entry_bytes.nd
  exact (b_cons (s_asg (x_p (e_var (i := 0) rfl (.inl rfl))) (g_tup rfl (gs_cons (g_name (i := 1) nd rfl (.inl rfl)) (gs_cons (g_name (i := 2) nd rfl (.inl rfl)) gs_nil)))) (b_one (s_ret (x_p (e_tup (a_cons (E_callB (c_len) rfl (He.free_ok I G (c.fact 9)) bt_len (a_cons (e_var (i := 1) rfl (.inl rfl)) a_nil)) (a_star (e_var (i := 1) rfl (.inl rfl)) (a_star (e_fn ((ok_bytes_of I G c).at (by decide)) hr tk rfl (a_cons (E_ix hu (e_var (i := 2) rfl (.inl rfl)) e_int) (a_cons e_int a_nil))) (a_cons (E_ix hu (e_var (i := 2) rfl (.inl rfl)) e_int) a_nil)))))))))
theorem ok_leaf_page (I : K.In h) (G : h.Ns mainGlobals mg) (c : He.SaysD fa fn K) : FnK P w K mg base (Pm K) 4 ("leaf_page" : Str) 2 f_leaf_page := by
  obtain ⟨fd, F⟩ := c.def_ 24 (d := d_f_leaf_page) rfl
  refine ⟨4, _, fd, ["entries", "number"], Nat.le_refl _, fn_sim F sc_f_leaf_page rfl fun cdv A outer s H E hr tk hp => ?_, He.glo_ok I G (c.fact 45), F.kp, F.bindsN fun _ _ _ _ _ _ us hl => match us, hl with | [_, _], _ => rfl⟩
  have hu := hr.units
  have nd := sc_f_leaf_page.nd
  exact (b_cons (s_par2 (i := 2) (j := 3) rfl nd rfl rfl (by decide) rfl rfl (f_x (x_p (e_fn ((ok_with_next I G c).at (by decide)) hr tk rfl (a_cons (e_fn ((ok_blank_page I G c).at (by decide)) hr tk rfl (a_cons (e_con rfl (con_int (He.int_ok I G (c.fact 43)))) a_nil)) (a_cons (e_var (i := 1) rfl (.inl rfl)) a_nil))))) (f_x (x_p (e_con rfl (con_int (He.int_ok I G (c.fact 44))))))) (b_cons (s_for hp rfl (i_seq (e_var (i := 0) rfl (.inl rfl))) (g_name (i := 4) nd rfl (.inl rfl)) (b_cons (s_set (i := 5) nd rfl (.inl rfl) (x_p (e_fn ((ok_entry_bytes I G c).at (by decide)) hr tk rfl (a_cons (e_var (i := 4) rfl (.inl rfl)) a_nil)))) (b_cons (s_set (i := 2) nd rfl (.inl rfl) (x_p (e_fn ((ok_with_bytes I G c).at (by decide)) hr tk rfl (a_cons (e_var (i := 2) rfl (.inl rfl)) (a_cons (e_var (i := 3) rfl (.inl rfl)) (a_cons (e_var (i := 5) rfl (.inl rfl)) a_nil)))))) (b_one (S_aug (i := 3) i_add nd rfl (.inl rfl) (E_callB (c_len) rfl (He.free_ok I G (c.fact 9)) bt_len (a_cons (e_var (i := 5) rfl (.inl rfl)) a_nil))))))) (b_one (s_ret (x_p (e_fn ((ok_with_bytes I G c).at (by decide)) hr tk rfl (a_cons (e_var (i := 2) rfl (.inl rfl)) (a_cons e_int (a_cons (e_tup (a_cons (E_callB (c_len) rfl (He.free_ok I G (c.fact 9)) bt_len (a_cons (e_var (i := 0) rfl (.inl rfl)) a_nil)) a_nil)) a_nil)))))))))
theorem ok_new_tree (I : K.In h) (G : h.Ns mainGlobals mg) (c : He.SaysD fa fn K) : FnK P w K mg base (Em K) 8 ("new_tree" : Str) 1 f_new_tree := by
  obtain ⟨fd, F⟩ := c.def_ 25 (d := d_f_new_tree) rfl
  refine ⟨8, _, fd, ["pages"], Nat.le_refl _, fn_sim F sc_f_new_tree rfl fun cdv A outer s H E hr tk hp => ?_, He.glo_ok I G (c.fact 46), F.kp, F.bindsN fun _ _ _ _ _ _ us hl => match us, hl with | [_], _ => rfl⟩
  have hu := hr.units
  have nd := sc_f_new_tree.nd
  exact (b_cons (s_set (i := 1) nd rfl (.inl rfl) (x_meth0 (c := ("MemoryPages" : Str)) (pl := _) ((me_MemoryPages_allocate I G c).at (by decide)) hr tk (x_p (e_var (i := 0) rfl (.inl rfl))))) (b_cons (s_expr (x_meth (c := ("MemoryPages" : Str)) (pl := _) ((me_MemoryPages_write I G c).at (by decide)) hr tk (x_p (e_var (i := 0) rfl (.inl rfl))) (xa_p (a_cons (e_var (i := 1) rfl (.inl rfl)) (a_cons (e_fn ((ok_leaf_page I G c).at (by decide)) hr tk rfl (a_cons (e_lst a_nil) (a_cons e_int a_nil))) a_nil))))) (b_one (s_ret (x_p (e_var (i := 1) rfl (.inl rfl)))))))
theorem ok__law_leaves (I : K.In h) (G : h.Ns mainGlobals mg) (c : He.SaysD fa fn K) : FnK P w K mg base (Em K) 8 ("_law_leaves" : Str) 3 f__law_leaves := by
  obtain ⟨fd, F⟩ := c.def_ 26 (d := d_f__law_leaves) rfl
  refine ⟨8, _, fd, ["_law_pages", "_law_shuts", "_law_first"], Nat.le_refl _, fn_sim F sc_f__law_leaves rfl fun cdv A outer s H E hr tk hp => ?_, He.glo_ok I G (c.fact 48), F.kp, F.bindsN fun _ _ _ _ _ _ us hl => match us, hl with | [_, _, _], _ => rfl⟩
  have hu := hr.units
  have nd := sc_f__law_leaves.nd
  exact (b_cons (s_setLc (i := 3) (own := [(("_law_number" : Str), 7)]) (f := fZ) RchL.z rfl nd rfl rfl (sw_true rfl rfl rfl (by decide +kernel)) (ix_p (i_range1 rfl (He.free_ok I G (c.fact 20)) (a_cons (E_op k_add (E_callB (c_len) rfl (He.free_ok I G (c.fact 9)) bt_len (a_cons (e_var (i := 1) rfl (.inl rfl)) a_nil)) e_int) a_nil))) (by show BlkOk N_f__law_leaves (defScope s_f__law_leaves) _ _; exact ⟨rfl, by decide +kernel, by decide +kernel, by decide +kernel, by decide +kernel⟩) (by decide) (fun _ _ _ _ _ => (g_name (i := 7) nd rfl (.inl rfl))) (fun _ _ _ _ _ => tsx_nil) (fun _ _ _ _ _ => (x_meth0 (c := ("MemoryPages" : Str)) (pl := _) ((me_MemoryPages_allocate I G c).at (by decide)) hr L2.takes0 (x_p (e_var (i := 0) rfl (.inr (.inl rfl))))))) (b_cons (s_set (i := 4) nd rfl (.inl rfl) (x_p (E_op k_add (e_lst (a_cons (e_lst (a_cons (e_var (i := 2) rfl (.inl rfl)) a_nil)) a_nil)) (e_fz (l_lc (own := [(("_law_shut" : Str), 8)]) rfl nd (i_seq (e_var (i := 1) rfl (.inl rfl))) (by show BlkOk N_f__law_leaves (defScope s_f__law_leaves) _ _; exact ⟨rfl, by decide +kernel, by decide +kernel, by decide +kernel, by decide +kernel⟩) (by decide) (fun _ _ _ _ _ => (g_name (i := 8) nd rfl (.inl rfl))) (fun _ _ _ _ _ => ts_nil) (fun _ _ _ _ _ => (e_lst (a_cons (e_var (i := 8) rfl (.inl rfl)) a_nil)))))))) (b_cons (s_for hp rfl (i_enum rfl (He.free_ok I G (c.fact 47)) (a_cons (e_var (i := 3) rfl (.inl rfl)) a_nil)) (g_tup rfl (gs_cons (g_name (i := 5) nd rfl (.inl rfl)) (gs_cons (g_name (i := 6) nd rfl (.inl rfl)) gs_nil))) (b_one (s_expr (x_meth (c := ("MemoryPages" : Str)) (pl := _) ((me_MemoryPages_write I G c).at (by decide)) hr tk (x_p (e_var (i := 0) rfl (.inr (.inl rfl)))) (xa_p (a_cons (e_var (i := 6) rfl (.inl rfl)) (a_cons (e_fn ((ok_leaf_page I G c).at (by decide)) hr tk rfl (a_cons (E_ix hu (e_var (i := 4) rfl (.inl rfl)) (e_var (i := 5) rfl (.inl rfl))) (a_cons (e_if (T_cmp (k_lt hu) (E_op k_add (e_var (i := 5) rfl (.inl rfl)) e_int) (E_callB (c_len) rfl (He.free_ok I G (c.fact 9)) bt_len (a_cons (e_var (i := 3) rfl (.inl rfl)) a_nil))) (E_ix hu (e_var (i := 3) rfl (.inl rfl)) (E_op k_add (e_var (i := 5) rfl (.inl rfl)) e_int)) e_int) a_nil))) a_nil))))))) (b_one (s_ret (x_p (e_var (i := 3) rfl (.inl rfl))))))))
theorem ok_inner_page (I : K.In h) (G : h.Ns mainGlobals mg) (c : He.SaysD fa fn K) : FnK P w K mg base (Pm K) 4 ("inner_page" : Str) 2 f_inner_page := by
  obtain ⟨fd, F⟩ := c.def_ 27 (d := d_f_inner_page) rfl
  refine ⟨4, _, fd, ["walls", "children"], Nat.le_refl _, fn_sim F sc_f_inner_page rfl fun cdv A outer s H E hr tk hp => ?_, He.glo_ok I G (c.fact 50), F.kp, F.bindsN fun _ _ _ _ _ _ us hl => match us, hl with | [_, _], _ => rfl⟩
  have hu := hr.units
  have nd := sc_f_inner_page.nd
  exact (b_cons (s_set (i := 2) nd rfl (.inl rfl) (x_p (e_fn ((ok_with_bytes I G c).at (by decide)) hr tk rfl (a_cons (e_fn ((ok_blank_page I G c).at (by decide)) hr tk rfl (a_cons (e_con rfl (con_int (He.int_ok I G (c.fact 23)))) a_nil)) (a_cons (e_con rfl (con_int (He.int_ok I G (c.fact 44)))) (a_cons (e_fn ((ok_bytes_of I G c).at (by decide)) hr tk rfl (a_cons (E_ix hu (e_var (i := 1) rfl (.inl rfl)) e_int) (a_cons e_int a_nil))) a_nil)))))) (b_cons (s_set (i := 3) nd rfl (.inl rfl) (x_p (E_op k_add (e_con rfl (con_int (He.int_ok I G (c.fact 44)))) e_int))) (b_cons (s_for hp rfl (i_zip rfl (He.free_ok I G (c.fact 49)) (a_cons (e_var (i := 0) rfl (.inl rfl)) (a_cons (e_sl (e_var (i := 1) rfl (.inl rfl)) (o_some e_int) o_none) a_nil))) (g_tup rfl (gs_cons (g_name (i := 4) nd rfl (.inl rfl)) (gs_cons (g_name (i := 5) nd rfl (.inl rfl)) gs_nil))) (b_cons (s_set (i := 6) nd rfl (.inl rfl) (x_p (e_tup (a_star (e_fn ((ok_entry_bytes I G c).at (by decide)) hr tk rfl (a_cons (e_var (i := 4) rfl (.inl rfl)) a_nil)) (a_star (e_fn ((ok_bytes_of I G c).at (by decide)) hr tk rfl (a_cons (e_var (i := 5) rfl (.inl rfl)) (a_cons e_int a_nil))) a_nil))))) (b_cons (s_set (i := 2) nd rfl (.inl rfl) (x_p (e_fn ((ok_with_bytes I G c).at (by decide)) hr tk rfl (a_cons (e_var (i := 2) rfl (.inl rfl)) (a_cons (e_var (i := 3) rfl (.inl rfl)) (a_cons (e_var (i := 6) rfl (.inl rfl)) a_nil)))))) (b_one (S_aug (i := 3) i_add nd rfl (.inl rfl) (E_callB (c_len) rfl (He.free_ok I G (c.fact 9)) bt_len (a_cons (e_var (i := 6) rfl (.inl rfl)) a_nil))))))) (b_one (s_ret (x_p (e_fn ((ok_with_bytes I G c).at (by decide)) hr tk rfl (a_cons (e_var (i := 2) rfl (.inl rfl)) (a_cons e_int (a_cons (e_tup (a_cons (E_callB (c_len) rfl (He.free_ok I G (c.fact 9)) bt_len (a_cons (e_var (i := 0) rfl (.inl rfl)) a_nil)) a_nil)) a_nil))))))))))
theorem ok_read_entry (I : K.In h) (G : h.Ns mainGlobals mg) (c : He.SaysD fa fn K) : FnK P w K mg base (Pm K) 2 ("read_entry" : Str) 2 f_read_entry := by
  obtain ⟨fd, F⟩ := c.def_ 28 (d := d_f_read_entry) rfl
  refine ⟨2, _, fd, ["page", "at"], Nat.le_refl _, fn_sim F sc_f_read_entry rfl fun cdv A outer s H E hr tk hp => ?_, He.glo_ok I G (c.fact 51), F.kp, F.bindsN fun _ _ _ _ _ _ us hl => match us, hl with | [_, _], _ => rfl⟩
  have hu := hr.units
  have nd := sc_f_read_entry.nd
  exact (b_cons (s_set (i := 2) nd rfl (.inl rfl) (x_p (E_op k_add (E_op k_add (e_var (i := 1) rfl (.inl rfl)) e_int) (E_ix hu (e_var (i := 0) rfl (.inl rfl)) (e_var (i := 1) rfl (.inl rfl)))))) (b_one (s_ret (x_p (e_tup (a_cons (e_tup (a_cons (e_sl (e_var (i := 0) rfl (.inl rfl)) (o_some (E_op k_add (e_var (i := 1) rfl (.inl rfl)) e_int)) (o_some (e_var (i := 2) rfl (.inl rfl)))) (a_cons (e_tup (a_cons (e_fn ((ok_number_of I G c).at (by decide)) hr tk rfl (a_cons (e_sl (e_var (i := 0) rfl (.inl rfl)) (o_some (e_var (i := 2) rfl (.inl rfl))) (o_some (E_op k_add (e_var (i := 2) rfl (.inl rfl)) e_int))) a_nil)) (a_cons (E_ix hu (e_var (i := 0) rfl (.inl rfl)) (E_op k_add (e_var (i := 2) rfl (.inl rfl)) e_int)) a_nil))) a_nil))) (a_cons (E_op k_add (e_var (i := 2) rfl (.inl rfl)) e_int) a_nil)))))))
theorem ok_leaf_entries (I : K.In h) (G : h.Ns mainGlobals mg) (c : He.SaysD fa fn K) : FnK P w K mg base (Pm K) 3 ("leaf_entries" : Str) 1 f_leaf_entries := by
  obtain ⟨fd, F⟩ := c.def_ 29 (d := d_f_leaf_entries) rfl
  refine ⟨3, _, fd, ["page"], Nat.le_refl _, fn_sim F sc_f_leaf_entries rfl fun cdv A outer s H E hr tk hp => ?_, He.glo_ok I G (c.fact 52), F.kp, F.bindsN fun _ _ _ _ _ _ us hl => match us, hl with | [_], _ => rfl⟩
  have hu := hr.units
  have nd := sc_f_leaf_entries.nd
  exact (b_cons (s_par2 (i := 1) (j := 2) rfl nd rfl rfl (by decide) rfl rfl (f_l (xl_p (l_lst a_nil))) (f_x (x_p (e_con rfl (con_int (He.int_ok I G (c.fact 44))))))) (b_cons (s_for hp rfl (i_range1 rfl (He.free_ok I G (c.fact 20)) (a_cons (E_ix hu (e_var (i := 0) rfl (.inl rfl)) e_int) a_nil)) (g_name (i := 3) nd rfl (.inl rfl)) (b_cons (s_asg (x_p (e_fn ((ok_read_entry I G c).at (by decide)) hr tk rfl (a_cons (e_var (i := 0) rfl (.inl rfl)) (a_cons (e_var (i := 2) rfl (.inl rfl)) a_nil)))) (g_tup rfl (gs_cons (g_name (i := 4) nd rfl (.inl rfl)) (gs_cons (g_name (i := 2) nd rfl (.inl rfl)) gs_nil)))) (b_one (s_append (i := 1) rfl (.inl rfl) (e_var (i := 4) rfl (.inl rfl)))))) (b_one (s_retO (i := 1) rfl (.inl rfl)))))
theorem ok__law_three (I : K.In h) (G : h.Ns mainGlobals mg) (c : He.SaysD fa fn K) : FnK P w K mg base (Em K) 9 ("_law_three" : Str) 4 f__law_three := by
  obtain ⟨fd, F⟩ := c.def_ 30 (d := d_f__law_three) rfl
  refine ⟨9, _, fd, ["_law_pages", "_law_sizes", "_law_between", "_law_others"], Nat.le_refl _, fn_sim F sc_f__law_three rfl fun cdv A outer s H E hr tk hp => ?_, He.glo_ok I G (c.fact 53), F.kp, F.bindsN fun _ _ _ _ _ _ us hl => match us, hl with | [_, _, _, _], _ => rfl⟩
  have hu := hr.units
  have nd := sc_f__law_three.nd
  exact (b_cons (s_par3 (i := 4) (j := 5) (l := 6) rfl nd rfl rfl rfl (by decide) (by decide) (by decide) rfl rfl rfl (f_x (x_fn ((ok_new_tree I G c).at (by decide)) hr tk rfl (xa_p (a_cons (e_var (i := 0) rfl (.inl rfl)) a_nil)))) (f_x (x_meth0 (c := ("MemoryPages" : Str)) (pl := _) ((me_MemoryPages_allocate I G c).at (by decide)) hr tk (x_p (e_var (i := 0) rfl (.inl rfl))))) (f_x (x_meth0 (c := ("MemoryPages" : Str)) (pl := _) ((me_MemoryPages_allocate I G c).at (by decide)) hr tk (x_p (e_var (i := 0) rfl (.inl rfl)))))) (b_cons (s_setLc (i := 7) (own := [(("_law_place" : Str), 12), (("_law_size" : Str), 13)]) (f := fZ) RchL.z rfl nd rfl rfl (sw_true rfl rfl rfl (by decide +kernel)) (ix_p (i_enum rfl (He.free_ok I G (c.fact 47)) (a_cons (e_var (i := 1) rfl (.inl rfl)) a_nil))) (by show BlkOk N_f__law_three (defScope s_f__law_three) _ _; exact ⟨rfl, by decide +kernel, by decide +kernel, by decide +kernel, by decide +kernel⟩) (by decide) (fun _ _ _ _ _ => (g_tup rfl (gs_cons (g_name (i := 12) nd rfl (.inl rfl)) (gs_cons (g_name (i := 13) nd rfl (.inl rfl)) gs_nil)))) (fun _ _ _ _ _ => tsx_nil) (fun _ _ _ _ _ => (x_p (e_fn ((ok__law_entry I G c).at (by decide)) hr L2.takes0 rfl (a_cons (E_op k_add e_int (E_op k_mul e_int (e_var (i := 12) rfl (.inl rfl)))) (a_cons (e_var (i := 13) rfl (.inl rfl)) a_nil)))))) (b_cons (s_setLc (i := 8) (own := [(("_law_place" : Str), 12), (("_law_size" : Str), 13)]) (f := fZ) RchL.z rfl nd rfl rfl (sw_true rfl rfl rfl (by decide +kernel)) (ix_p (i_enum rfl (He.free_ok I G (c.fact 47)) (a_cons (e_var (i := 3) rfl (.inl rfl)) a_nil))) (by show BlkOk N_f__law_three (defScope s_f__law_three) _ _; exact ⟨rfl, by decide +kernel, by decide +kernel, by decide +kernel, by decide +kernel⟩) (by decide) (fun _ _ _ _ _ => (g_tup rfl (gs_cons (g_name (i := 12) nd rfl (.inl rfl)) (gs_cons (g_name (i := 13) nd rfl (.inl rfl)) gs_nil)))) (fun _ _ _ _ _ => tsx_nil) (fun _ _ _ _ _ => (x_p (e_fn ((ok__law_entry I G c).at (by decide)) hr L2.takes0 rfl (a_cons (E_op k_add e_int (E_op k_mul e_int (e_var (i := 12) rfl (.inl rfl)))) (a_cons (e_var (i := 13) rfl (.inl rfl)) a_nil)))))) (b_cons (s_set (i := 9) nd rfl (.inl rfl) (x_p (e_fn ((ok__law_entry I G c).at (by decide)) hr tk rfl (a_cons e_int (a_cons (e_var (i := 2) rfl (.inl rfl)) a_nil))))) (b_cons (s_par2 (i := 10) (j := 11) rfl nd rfl rfl (by decide) rfl rfl (f_x (x_fn ((ok__law_leaves I G c).at (by decide)) hr tk rfl (xa_p (a_cons (e_var (i := 0) rfl (.inl rfl)) (a_cons (e_var (i := 7) rfl (.inl rfl)) (a_cons (e_fn ((ok__law_entry I G c).at (by decide)) hr tk rfl (a_cons e_int (a_cons e_int a_nil))) a_nil)))))) (f_x (x_fn ((ok__law_leaves I G c).at (by decide)) hr tk rfl (xa_p (a_cons (e_var (i := 0) rfl (.inl rfl)) (a_cons (e_var (i := 8) rfl (.inl rfl)) (a_cons (e_var (i := 9) rfl (.inl rfl)) a_nil))))))) (b_cons (s_expr (x_meth (c := ("MemoryPages" : Str)) (pl := _) ((me_MemoryPages_write I G c).at (by decide)) hr tk (x_p (e_var (i := 0) rfl (.inl rfl))) (xa_p (a_cons (E_ix hu (e_var (i := 10) rfl (.inl rfl)) (E_neg e_int)) (a_cons (e_fn ((ok_leaf_page I G c).at (by decide)) hr tk rfl (a_cons (e_fn ((ok_leaf_entries I G c).at (by decide)) hr tk rfl (a_cons (e_meth (c := ("MemoryPages" : Str)) (pl := _) ((me_MemoryPages_read I G c).at (by decide)) hr tk (e_var (i := 0) rfl (.inl rfl)) (a_cons (E_ix hu (e_var (i := 10) rfl (.inl rfl)) (E_neg e_int)) a_nil)) a_nil)) (a_cons (E_ix hu (e_var (i := 11) rfl (.inl rfl)) e_int) a_nil))) a_nil))))) (b_cons (s_expr (x_meth (c := ("MemoryPages" : Str)) (pl := _) ((me_MemoryPages_write I G c).at (by decide)) hr tk (x_p (e_var (i := 0) rfl (.inl rfl))) (xa_p (a_cons (e_var (i := 5) rfl (.inl rfl)) (a_cons (e_fn ((ok_inner_page I G c).at (by decide)) hr tk rfl (a_cons (e_var (i := 7) rfl (.inl rfl)) (a_cons (e_var (i := 10) rfl (.inl rfl)) a_nil))) a_nil))))) (b_cons (s_expr (x_meth (c := ("MemoryPages" : Str)) (pl := _) ((me_MemoryPages_write I G c).at (by decide)) hr tk (x_p (e_var (i := 0) rfl (.inl rfl))) (xa_p (a_cons (e_var (i := 6) rfl (.inl rfl)) (a_cons (e_fn ((ok_inner_page I G c).at (by decide)) hr tk rfl (a_cons (e_var (i := 8) rfl (.inl rfl)) (a_cons (e_var (i := 11) rfl (.inl rfl)) a_nil))) a_nil))))) (b_cons (s_expr (x_meth (c := ("MemoryPages" : Str)) (pl := _) ((me_MemoryPages_write I G c).at (by decide)) hr tk (x_p (e_var (i := 0) rfl (.inl rfl))) (xa_p (a_cons (e_var (i := 4) rfl (.inl rfl)) (a_cons (e_fn ((ok_inner_page I G c).at (by decide)) hr tk rfl (a_cons (e_lst (a_cons (e_var (i := 9) rfl (.inl rfl)) a_nil)) (a_cons (e_lst (a_cons (e_var (i := 5) rfl (.inl rfl)) (a_cons (e_var (i := 6) rfl (.inl rfl)) a_nil))) a_nil))) a_nil))))) (b_one (s_ret (x_p (e_var (i := 4) rfl (.inl rfl))))))))))))))
theorem ok_check_node (I : K.In h) (G : h.Ns mainGlobals mg) (c : He.SaysD fa fn K) : FnK P w K mg base (Pm K) 2 ("check_node" : Str) 1 f_check_node := by
  obtain ⟨fd, F⟩ := c.def_ 31 (d := d_f_check_node) rfl
  refine ⟨2, _, fd, ["page"], Nat.le_refl _, fn_sim F sc_f_check_node rfl fun cdv A outer s H E hr tk hp => ?_, He.glo_ok I G (c.fact 54), F.kp, F.bindsN fun _ _ _ _ _ _ us hl => match us, hl with | [_], _ => rfl⟩
  have hu := hr.units
  have nd := sc_f_check_node.nd
  exact (b_one (s_if (t_p (T_cmp (k_notin hu) (e_fn ((ok_kind_of I G c).at (by decide)) hr tk rfl (a_cons (e_var (i := 0) rfl (.inl rfl)) a_nil)) (e_tup (a_cons (e_con rfl (con_int (He.int_ok I G (c.fact 43)))) (a_cons (e_con rfl (con_int (He.int_ok I G (c.fact 23)))) a_nil))))) (b_one s_never) b_nil))
theorem ok_is_leaf (I : K.In h) (G : h.Ns mainGlobals mg) (c : He.SaysD fa fn K) : FnK P w K mg base (Pm K) 3 ("is_leaf" : Str) 1 f_is_leaf := by
  obtain ⟨fd, F⟩ := c.def_ 32 (d := d_f_is_leaf) rfl
  refine ⟨3, _, fd, ["page"], Nat.le_refl _, fn_sim F sc_f_is_leaf rfl fun cdv A outer s H E hr tk hp => ?_, He.glo_ok I G (c.fact 55), F.kp, F.bindsN fun _ _ _ _ _ _ us hl => match us, hl with | [_], _ => rfl⟩
  have hu := hr.units
  have nd := sc_f_is_leaf.nd
  exact (b_cons (s_expr (x_p (e_fn ((ok_check_node I G c).at (by decide)) hr tk rfl (a_cons (e_var (i := 0) rfl (.inl rfl)) a_nil)))) (b_one (s_ret (x_p (E_cmp (k_eq hu) (e_fn ((ok_kind_of I G c).at (by decide)) hr tk rfl (a_cons (e_var (i := 0) rfl (.inl rfl)) a_nil)) (e_con rfl (con_int (He.int_ok I G (c.fact 43)))))))))
theorem ok_inner_parts (I : K.In h) (G : h.Ns mainGlobals mg) (c : He.SaysD fa fn K) : FnK P w K mg base (Pm K) 3 ("inner_parts" : Str) 1 f_inner_parts := by
  obtain ⟨fd, F⟩ := c.def_ 33 (d := d_f_inner_parts) rfl
  refine ⟨3, _, fd, ["page"], Nat.le_refl _, fn_sim F sc_f_inner_parts rfl fun cdv A outer s H E hr tk hp => ?_, He.glo_ok I G (c.fact 56), F.kp, F.bindsN fun _ _ _ _ _ _ us hl => match us, hl with | [_], _ => rfl⟩
  have hu := hr.units
  have nd := sc_f_inner_parts.nd
  exact (b_cons (s_par3 (i := 1) (j := 2) (l := 3) rfl nd rfl rfl rfl (by decide) (by decide) (by decide) rfl rfl rfl (f_l (xl_p (l_lst a_nil))) (f_l (xl_p (l_lst (a_cons (e_fn ((ok_number_of I G c).at (by decide)) hr tk rfl (a_cons (e_sl (e_var (i := 0) rfl (.inl rfl)) (o_some (e_con rfl (con_int (He.int_ok I G (c.fact 44))))) (o_some (E_op k_add (e_con rfl (con_int (He.int_ok I G (c.fact 44)))) e_int))) a_nil)) a_nil)))) (f_x (x_p (E_op k_add (e_con rfl (con_int (He.int_ok I G (c.fact 44)))) e_int)))) (b_cons (s_for hp rfl (i_range1 rfl (He.free_ok I G (c.fact 20)) (a_cons (E_ix hu (e_var (i := 0) rfl (.inl rfl)) e_int) a_nil)) (g_name (i := 4) nd rfl (.inl rfl)) (b_cons (s_asg (x_p (e_fn ((ok_read_entry I G c).at (by decide)) hr tk rfl (a_cons (e_var (i := 0) rfl (.inl rfl)) (a_cons (e_var (i := 3) rfl (.inl rfl)) a_nil)))) (g_tup rfl (gs_cons (g_name (i := 5) nd rfl (.inl rfl)) (gs_cons (g_name (i := 3) nd rfl (.inl rfl)) gs_nil)))) (b_cons (s_append (i := 1) rfl (.inl rfl) (e_var (i := 5) rfl (.inl rfl))) (b_cons (s_append (i := 2) rfl (.inl rfl) (e_fn ((ok_number_of I G c).at (by decide)) hr tk rfl (a_cons (e_sl (e_var (i := 0) rfl (.inl rfl)) (o_some (e_var (i := 3) rfl (.inl rfl))) (o_some (E_op k_add (e_var (i := 3) rfl (.inl rfl)) e_int))) a_nil))) (b_one (S_aug (i := 3) i_add nd rfl (.inl rfl) e_int)))))) (b_one (s_frz fri_P 1 (s_frz fri_P 2 (s_ret (x_p (e_tup (a_cons (e_var (i := 1) rfl (.inl rfl)) (a_cons (e_var (i := 2) rfl (.inl rfl)) a_nil))))))))))
theorem ok_child_at (I : K.In h) (G : h.Ns mainGlobals mg) (c : He.SaysD fa fn K) : FnK P w K mg base (Pm K) 1 ("child_at" : Str) 2 f_child_at := by
  obtain ⟨fd, F⟩ := c.def_ 34 (d := d_f_child_at) rfl
  refine ⟨1, _, fd, ["walls", "entry"], Nat.le_refl _, fn_sim F sc_f_child_at rfl fun cdv A outer s H E hr tk hp => ?_, He.glo_ok I G (c.fact 57), F.kp, F.bindsN fun _ _ _ _ _ _ us hl => match us, hl with | [_, _], _ => rfl⟩
  have hu := hr.units
  have nd := sc_f_child_at.nd
  exact (b_one (s_ret (x_p (E_callB (c_len) rfl (He.free_ok I G (c.fact 9)) bt_len (a_cons (e_fz (l_lc (own := [(("wall" : Str), 2)]) rfl nd (i_seq (e_var (i := 0) rfl (.inl rfl))) (by show BlkOk N_f_child_at (defScope s_f_child_at) _ _; exact ⟨rfl, by decide +kernel, by decide +kernel, by decide +kernel, by decide +kernel⟩) (by decide) (fun _ _ _ _ _ => (g_name (i := 2) nd rfl (.inl rfl))) (fun _ _ _ _ _ => (ts_one (T_cmp (k_le hu) (e_var (i := 2) rfl (.inl rfl)) (e_var (i := 1) rfl (.inr (.inl rfl)))))) (fun _ _ _ _ _ => (e_var (i := 2) rfl (.inl rfl))))) a_nil)))))
theorem ok_leaf_for (I : K.In h) (G : h.Ns mainGlobals mg) (c : He.SaysD fa fn K) : FnK P w K mg base (Pm K) 5 ("leaf_for" : Str) 3 f_leaf_for := by
  obtain ⟨fd, F⟩ := c.def_ 35 (d := d_f_leaf_for) rfl
  refine ⟨5, _, fd, ["pages", "root", "low"], Nat.le_refl _, fn_sim F sc_f_leaf_for rfl fun cdv A outer s H E hr tk hp => ?_, He.glo_ok I G (c.fact 58), F.kp, F.bindsN fun _ _ _ _ _ _ us hl => match us, hl with | [_, _, _], _ => rfl⟩
  have hu := hr.units
  have nd := sc_f_leaf_for.nd
  exact (b_cons (s_set (i := 3) nd rfl (.inl rfl) (x_p (e_var (i := 1) rfl (.inl rfl)))) (b_cons (s_set (i := 4) nd rfl (.inl rfl) (x_p (e_meth (c := ("MemoryPages" : Str)) (pl := _) ((me_MemoryPages_read I G c).at (by decide)) hr tk (e_var (i := 0) rfl (.inl rfl)) (a_cons (e_var (i := 3) rfl (.inl rfl)) a_nil)))) (b_cons (s_while 200 hp (t_p (t_not (t_val (e_fn ((ok_is_leaf I G c).at (by decide)) hr tk rfl (a_cons (e_var (i := 4) rfl (.inl rfl)) a_nil))))) (b_cons (s_asg (x_p (e_fn ((ok_inner_parts I G c).at (by decide)) hr tk rfl (a_cons (e_var (i := 4) rfl (.inl rfl)) a_nil))) (g_tup rfl (gs_cons (g_name (i := 5) nd rfl (.inl rfl)) (gs_cons (g_name (i := 6) nd rfl (.inl rfl)) gs_nil)))) (b_cons (s_set (i := 3) nd rfl (.inl rfl) (x_p (E_ix hu (e_var (i := 6) rfl (.inl rfl)) (e_if (T_cmp k_is (e_var (i := 2) rfl (.inl rfl)) e_non) e_int (e_fn ((ok_child_at I G c).at (by decide)) hr tk rfl (a_cons (e_var (i := 5) rfl (.inl rfl)) (a_cons (e_tup (a_cons (e_var (i := 2) rfl (.inl rfl)) (a_cons (e_tup (a_cons e_int (a_cons e_int a_nil))) a_nil))) a_nil))))))) (b_one (s_set (i := 4) nd rfl (.inl rfl) (x_p (e_meth (c := ("MemoryPages" : Str)) (pl := _) ((me_MemoryPages_read I G c).at (by decide)) hr tk (e_var (i := 0) rfl (.inl rfl)) (a_cons (e_var (i := 3) rfl (.inl rfl)) a_nil)))))))) (b_one (s_ret (x_p (e_var (i := 3) rfl (.inl rfl))))))))
theorem ok_leaf_next (I : K.In h) (G : h.Ns mainGlobals mg) (c : He.SaysD fa fn K) : FnK P w K mg base (Pm K) 3 ("leaf_next" : Str) 1 f_leaf_next := by
  obtain ⟨fd, F⟩ := c.def_ 36 (d := d_f_leaf_next) rfl
  refine ⟨3, _, fd, ["page"], Nat.le_refl _, fn_sim F sc_f_leaf_next rfl fun cdv A outer s H E hr tk hp => ?_, He.glo_ok I G (c.fact 59), F.kp, F.bindsN fun _ _ _ _ _ _ us hl => match us, hl with | [_], _ => rfl⟩
  have hu := hr.units
  have nd := sc_f_leaf_next.nd
  exact (b_one (s_ret (x_p (e_fn ((ok_next_of I G c).at (by decide)) hr tk rfl (a_cons (e_var (i := 0) rfl (.inl rfl)) a_nil)))))
theorem ok_entries_from (I : K.In h) (G : h.Ns mainGlobals mg) (c : He.SaysD fa fn K) : FnK P w K mg base (Pm K) 6 ("entries_from" : Str) 4 f_entries_from := by
  obtain ⟨fd, F⟩ := c.def_ 37 (d := d_f_entries_from) rfl
  refine ⟨6, _, fd, ["pages", "root", "low", "high"], Nat.le_refl _, fn_sim F sc_f_entries_from rfl fun cdv A outer s H E hr tk hp => ?_, He.glo_ok I G (c.fact 60), F.kp, F.bindsN fun _ _ _ _ _ _ us hl => match us, hl with | [_, _, _, _], _ => rfl⟩
  have hu := hr.units
  have nd := sc_f_entries_from.nd
  exact (b_cons (s_par2 (i := 4) (j := 5) rfl nd rfl rfl (by decide) rfl rfl (f_l (xl_p (l_lst a_nil))) (f_x (x_p (e_fn ((ok_leaf_for I G c).at (by decide)) hr tk rfl (a_cons (e_var (i := 0) rfl (.inl rfl)) (a_cons (e_var (i := 1) rfl (.inl rfl)) (a_cons (e_var (i := 2) rfl (.inr (.inl rfl))) a_nil))))))) (b_cons (s_while 200 hp (t_p (T_cmp (k_ne hu) (e_var (i := 5) rfl (.inl rfl)) e_int)) (b_cons (s_set (i := 6) nd rfl (.inl rfl) (x_p (e_meth (c := ("MemoryPages" : Str)) (pl := _) ((me_MemoryPages_read I G c).at (by decide)) hr tk (e_var (i := 0) rfl (.inl rfl)) (a_cons (e_var (i := 5) rfl (.inl rfl)) a_nil)))) (b_cons (s_set (i := 7) nd rfl (.inl rfl) (x_p (e_fn ((ok_leaf_entries I G c).at (by decide)) hr tk rfl (a_cons (e_var (i := 6) rfl (.inl rfl)) a_nil)))) (b_cons (s_extend (i := 4) rfl (.inl rfl) (e_fz (l_lc (own := [(("entry" : Str), 8)]) rfl nd (i_seq (e_var (i := 7) rfl (.inl rfl))) (by show BlkOk N_f_entries_from (defScope s_f_entries_from) _ _; exact ⟨rfl, by decide +kernel, by decide +kernel, by decide +kernel, by decide +kernel⟩) (by decide) (fun _ _ _ _ _ => (g_name (i := 8) nd rfl (.inl rfl))) (fun _ _ _ _ _ => (ts_one (t_w (w_or (T_cmp k_is (e_var (i := 2) rfl (.inr (.inl rfl))) e_non) (w_or1 (T_cmp (k_ge hu) (E_ix hu (e_var (i := 8) rfl (.inl rfl)) e_int) (e_var (i := 2) rfl (.inr (.inl rfl))))))))) (fun _ _ _ _ _ => (e_var (i := 8) rfl (.inl rfl)))))) (b_one (s_set (i := 5) nd rfl (.inl rfl) (x_p (e_if (t_w (w_or (T_cmp k_is (e_var (i := 3) rfl (.inr (.inl rfl))) e_non) (w_or (T_cmp (k_eq hu) (e_var (i := 7) rfl (.inl rfl)) (e_lst a_nil)) (w_or1 (T_cmp (k_le hu) (E_ix hu (E_ix hu (e_var (i := 7) rfl (.inl rfl)) (E_neg e_int)) e_int) (e_var (i := 3) rfl (.inr (.inl rfl)))))))) (e_fn ((ok_leaf_next I G c).at (by decide)) hr tk rfl (a_cons (e_var (i := 6) rfl (.inl rfl)) a_nil)) e_int)))))))) (b_one (s_frz fri_P 4 (s_ret (x_p (e_fz (l_lc (own := [(("entry" : Str), 8)]) rfl nd (i_seq (e_var (i := 4) rfl (.inl rfl))) (by show BlkOk N_f_entries_from (defScope s_f_entries_from) _ _; exact ⟨rfl, by decide +kernel, by decide +kernel, by decide +kernel, by decide +kernel⟩) (by decide) (fun _ _ _ _ _ => (g_name (i := 8) nd rfl (.inl rfl))) (fun _ _ _ _ _ => (ts_one (t_w (w_or (T_cmp k_is (e_var (i := 3) rfl (.inr (.inl rfl))) e_non) (w_or1 (T_cmp (k_le hu) (E_ix hu (e_var (i := 8) rfl (.inl rfl)) e_int) (e_var (i := 3) rfl (.inr (.inl rfl))))))))) (fun _ _ _ _ _ => (e_var (i := 8) rfl (.inl rfl)))))))))))
theorem ok_is_key (I : K.In h) (G : h.Ns mainGlobals mg) (c : He.SaysD fa fn K) : FnK P w K mg base (Pm K) 3 ("is_key" : Str) 1 f_is_key := by
  obtain ⟨fd, F⟩ := c.def_ 38 (d := d_f_is_key) rfl
  refine ⟨3, _, fd, ["thing"], Nat.le_refl _, fn_sim F sc_f_is_key rfl fun cdv A outer s H E hr tk hp => ?_, He.glo_ok I G (c.fact 62), F.kp, F.bindsN fun _ _ _ _ _ _ us hl => match us, hl with | [_], _ => rfl⟩
  have hu := hr.units
  have nd := sc_f_is_key.nd
  exact (b_one (s_ret (x_p (e_and (e_fn ((ok_are_bytes I G c).at (by decide)) hr tk rfl (a_cons (e_var (i := 0) rfl (.inl rfl)) a_nil)) (e_one (E_chain (k_le hu) (k_le hu) e_int (E_callB (c_len) rfl (He.free_ok I G (c.fact 9)) bt_len (a_cons (e_var (i := 0) rfl (.inl rfl)) a_nil)) (e_con rfl (con_int (He.int_ok I G (c.fact 61))))))))))
theorem ok_check_key (I : K.In h) (G : h.Ns mainGlobals mg) (c : He.SaysD fa fn K) : FnK P w K mg base (Pm K) 4 ("check_key" : Str) 1 f_check_key := by
  obtain ⟨fd, F⟩ := c.def_ 39 (d := d_f_check_key) rfl
  refine ⟨4, _, fd, ["key"], Nat.le_refl _, fn_sim F sc_f_check_key rfl fun cdv A outer s H E hr tk hp => ?_, He.glo_ok I G (c.fact 63), F.kp, F.bindsN fun _ _ _ _ _ _ us hl => match us, hl with | [_], _ => rfl⟩
  have hu := hr.units
  have nd := sc_f_check_key.nd
  exact (b_one (s_if (t_p (t_not (t_val (e_fn ((ok_is_key I G c).at (by decide)) hr tk rfl (a_cons (e_var (i := 0) rfl (.inl rfl)) a_nil))))) (b_one s_never) b_nil))
theorem ok_spots_between (I : K.In h) (G : h.Ns mainGlobals mg) (c : He.SaysD fa fn K) : FnK P w K mg base (Pm K) 7 ("spots_between" : Str) 4 f_spots_between := by
  obtain ⟨fd, F⟩ := c.def_ 40 (d := d_f_spots_between) rfl
  refine ⟨7, _, fd, ["pages", "root", "low", "high"], Nat.le_refl _, fn_sim F sc_f_spots_between rfl fun cdv A outer s H E hr tk hp => ?_, He.glo_ok I G (c.fact 64), F.kp, F.bindsN fun _ _ _ _ _ _ us hl => match us, hl with | [_, _, _, _], _ => rfl⟩
  have hu := hr.units
  have nd := sc_f_spots_between.nd
  exact (b_cons (s_for hp rfl (i_seq (e_fz (l_lc (own := [(("one" : Str), 5)]) rfl nd (i_seq (e_tup (a_cons (e_var (i := 2) rfl (.inl rfl)) (a_cons (e_var (i := 3) rfl (.inl rfl)) a_nil)))) (by show BlkOk N_f_spots_between (defScope s_f_spots_between) _ _; exact ⟨rfl, by decide +kernel, by decide +kernel, by decide +kernel, by decide +kernel⟩) (by decide) (fun _ _ _ _ _ => (g_name (i := 5) nd rfl (.inl rfl))) (fun _ _ _ _ _ => (ts_one (T_cmp k_isnot (e_var (i := 5) rfl (.inl rfl)) e_non))) (fun _ _ _ _ _ => (e_var (i := 5) rfl (.inl rfl)))))) (g_name (i := 4) nd rfl (.inl rfl)) (b_one (s_expr (x_p (e_fn ((ok_check_key I G c).at (by decide)) hr tk rfl (a_cons (e_var (i := 4) rfl (.inl rfl)) a_nil)))))) (b_one (s_ret (x_p (e_fn ((ok_entries_from I G c).at (by decide)) hr tk rfl (a_cons (e_var (i := 0) rfl (.inl rfl)) (a_cons (e_var (i := 1) rfl (.inl rfl)) (a_cons (e_var (i := 2) rfl (.inl rfl)) (a_cons (e_var (i := 3) rfl (.inl rfl)) a_nil)))))))))
theorem ok_height_of (I : K.In h) (G : h.Ns mainGlobals mg) (c : He.SaysD fa fn K) : FnK P w K mg base (Pm K) 5 ("height_of" : Str) 2 f_height_of := by
  obtain ⟨fd, F⟩ := c.def_ 41 (d := d_f_height_of) rfl
  refine ⟨5, _, fd, ["pages", "root"], Nat.le_refl _, fn_sim F sc_f_height_of rfl fun cdv A outer s H E hr tk hp => ?_, He.glo_ok I G (c.fact 65), F.kp, F.bindsN fun _ _ _ _ _ _ us hl => match us, hl with | [_, _], _ => rfl⟩
  have hu := hr.units
  have nd := sc_f_height_of.nd
  exact (b_cons (s_par2 (i := 2) (j := 3) rfl nd rfl rfl (by decide) rfl rfl (f_x (x_p (e_meth (c := ("MemoryPages" : Str)) (pl := _) ((me_MemoryPages_read I G c).at (by decide)) hr tk (e_var (i := 0) rfl (.inl rfl)) (a_cons (e_var (i := 1) rfl (.inl rfl)) a_nil)))) (f_x (x_p e_int))) (b_cons (s_while 200 hp (t_p (t_not (t_val (e_fn ((ok_is_leaf I G c).at (by decide)) hr tk rfl (a_cons (e_var (i := 2) rfl (.inl rfl)) a_nil))))) (b_one (s_par2 (i := 2) (j := 3) rfl nd rfl rfl (by decide) rfl rfl (f_x (x_p (e_meth (c := ("MemoryPages" : Str)) (pl := _) ((me_MemoryPages_read I G c).at (by decide)) hr tk (e_var (i := 0) rfl (.inl rfl)) (a_cons (E_ix hu (E_ix hu (e_fn ((ok_inner_parts I G c).at (by decide)) hr tk rfl (a_cons (e_var (i := 2) rfl (.inl rfl)) a_nil)) e_int) e_int) a_nil)))) (f_x (x_p (E_op k_add (e_var (i := 3) rfl (.inl rfl)) e_int)))))) (b_one (s_ret (x_p (e_var (i := 3) rfl (.inl rfl)))))))
theorem ok_is_spot (I : K.In h) (G : h.Ns mainGlobals mg) (c : He.SaysD fa fn K) : FnK P w K mg base (Pm K) 2 ("is_spot" : Str) 1 f_is_spot := by
  obtain ⟨fd, F⟩ := c.def_ 42 (d := d_f_is_spot) rfl
  refine ⟨2, _, fd, ["thing"], Nat.le_refl _, fn_sim F sc_f_is_spot rfl fun cdv A outer s H E hr tk hp => ?_, He.glo_ok I G (c.fact 66), F.kp, F.bindsN fun _ _ _ _ _ _ us hl => match us, hl with | [_], _ => rfl⟩
  have hu := hr.units
  have nd := sc_f_is_spot.nd
  exact (b_cons (s_if (t_p (t_w (w_or (t_not (t_val (e_isi (k := .tuple) bt_tuple rfl (He.free_ok I G (c.fact 0)) rfl (He.free_ok I G (c.fact 6)) (e_var (i := 0) rfl (.inl rfl))))) (w_or1 (T_cmp (k_ne hu) (E_callB (c_len) rfl (He.free_ok I G (c.fact 9)) bt_len (a_cons (e_var (i := 0) rfl (.inl rfl)) a_nil)) e_int))))) (b_one (s_ret (x_p e_bl))) b_nil) (b_one (s_ret (x_p (e_and (e_fn ((ok_is_number I G c).at (by decide)) hr tk rfl (a_cons (E_ix hu (e_var (i := 0) rfl (.inl rfl)) e_int) (a_cons e_int (a_cons (e_con rfl (con_int (He.int_ok I G (c.fact 4)))) a_nil)))) (e_one (e_fn ((ok_is_number I G c).at (by decide)) hr tk rfl (a_cons (E_ix hu (e_var (i := 0) rfl (.inl rfl)) e_int) (a_cons e_int (a_cons e_int a_nil))))))))))
theorem ok_check_entry (I : K.In h) (G : h.Ns mainGlobals mg) (c : He.SaysD fa fn K) : FnK P w K mg base (Pm K) 5 ("check_entry" : Str) 2 f_check_entry := by
  obtain ⟨fd, F⟩ := c.def_ 43 (d := d_f_check_entry) rfl
  refine ⟨5, _, fd, ["key", "spot"], Nat.le_refl _, fn_sim F sc_f_check_entry rfl fun cdv A outer s H E hr tk hp => ?_, He.glo_ok I G (c.fact 67), F.kp, F.bindsN fun _ _ _ _ _ _ us hl => match us, hl with | [_, _], _ => rfl⟩
  have hu := hr.units
  have nd := sc_f_check_entry.nd
  exact (b_cons (s_expr (x_p (e_fn ((ok_check_key I G c).at (by decide)) hr tk rfl (a_cons (e_var (i := 0) rfl (.inl rfl)) a_nil)))) (b_one (s_if (t_p (t_not (t_val (e_fn ((ok_is_spot I G c).at (by decide)) hr tk rfl (a_cons (e_var (i := 1) rfl (.inl rfl)) a_nil))))) (b_one s_never) b_nil)))
theorem ok_entry_size (I : K.In h) (G : h.Ns mainGlobals mg) (c : He.SaysD fa fn K) : FnK P w K mg base (Pm K) 1 ("entry_size" : Str) 1 f_entry_size := by
  obtain ⟨fd, F⟩ := c.def_ 44 (d := d_f_entry_size) rfl
  refine ⟨1, _, fd, ["entry"], Nat.le_refl _, fn_sim F sc_f_entry_size rfl fun cdv A outer s H E hr tk hp => ?_, He.glo_ok I G (c.fact 68), F.kp, F.bindsN fun _ _ _ _ _ _ us hl => match us, hl with | [_], _ => rfl⟩
  have hu := hr.units
  have nd := sc_f_entry_size.nd
  exact (b_one (s_ret (x_p (E_op k_add (E_callB (c_len) rfl (He.free_ok I G (c.fact 9)) bt_len (a_cons (E_ix hu (e_var (i := 0) rfl (.inl rfl)) e_int) a_nil)) e_int))))
theorem ok_leaf_size (I : K.In h) (G : h.Ns mainGlobals mg) (c : He.SaysD fa fn K) : FnK P w K mg base (Pm K) 2 ("leaf_size" : Str) 1 f_leaf_size := by
  obtain ⟨fd, F⟩ := c.def_ 45 (d := d_f_leaf_size) rfl
  refine ⟨2, _, fd, ["entries"], Nat.le_refl _, fn_sim F sc_f_leaf_size rfl fun cdv A outer s H E hr tk hp => ?_, He.glo_ok I G (c.fact 70), F.kp, F.bindsN fun _ _ _ _ _ _ us hl => match us, hl with | [_], _ => rfl⟩
  have hu := hr.units
  have nd := sc_f_leaf_size.nd
  exact (b_one (s_ret (x_p (E_callB (c_sum rfl) rfl (He.free_ok I G (c.fact 69)) bt_sum (a_cons (e_fz (l_lc (own := [(("entry" : Str), 1)]) rfl nd (i_seq (e_var (i := 0) rfl (.inl rfl))) (by show BlkOk N_f_leaf_size (defScope s_f_leaf_size) _ _; exact ⟨rfl, by decide +kernel, by decide +kernel, by decide +kernel, by decide +kernel⟩) (by decide) (fun _ _ _ _ _ => (g_name (i := 1) nd rfl (.inl rfl))) (fun _ _ _ _ _ => ts_nil) (fun _ _ _ _ _ => (e_fn ((ok_entry_size I G c).at (by decide)) hr L2.takes0 rfl (a_cons (e_var (i := 1) rfl (.inl rfl)) a_nil))))) a_nil)))))
theorem ok_inner_size (I : K.In h) (G : h.Ns mainGlobals mg) (c : He.SaysD fa fn K) : FnK P w K mg base (Pm K) 3 ("inner_size" : Str) 2 f_inner_size := by
  obtain ⟨fd, F⟩ := c.def_ 46 (d := d_f_inner_size) rfl
  refine ⟨3, _, fd, ["walls", "children"], Nat.le_refl _, fn_sim F sc_f_inner_size rfl fun cdv A outer s H E hr tk hp => ?_, He.glo_ok I G (c.fact 71), F.kp, F.bindsN fun _ _ _ _ _ _ us hl => match us, hl with | [_, _], _ => rfl⟩
  have hu := hr.units
  have nd := sc_f_inner_size.nd
  exact (b_one (s_ret (x_p (E_op k_add (e_fn ((ok_leaf_size I G c).at (by decide)) hr tk rfl (a_cons (e_var (i := 0) rfl (.inl rfl)) a_nil)) (E_op k_mul e_int (E_callB (c_len) rfl (He.free_ok I G (c.fact 9)) bt_len (a_cons (e_var (i := 1) rfl (.inl rfl)) a_nil)))))))
theorem ok_is_small (I : K.In h) (G : h.Ns mainGlobals mg) (c : He.SaysD fa fn K) : FnK P w K mg base (Pm K) 4 ("is_small" : Str) 1 f_is_small := by
  obtain ⟨fd, F⟩ := c.def_ 47 (d := d_f_is_small) rfl
  refine ⟨4, _, fd, ["page"], Nat.le_refl _, fn_sim F sc_f_is_small rfl fun cdv A outer s H E hr tk hp => ?_, He.glo_ok I G (c.fact 73), F.kp, F.bindsN fun _ _ _ _ _ _ us hl => match us, hl with | [_], _ => rfl⟩
  have hu := hr.units
  have nd := sc_f_is_small.nd
  exact (b_cons (s_if (t_p (t_val (e_fn ((ok_is_leaf I G c).at (by decide)) hr tk rfl (a_cons (e_var (i := 0) rfl (.inl rfl)) a_nil)))) (b_one (s_ret (x_p (E_cmp (k_lt hu) (e_fn ((ok_leaf_size I G c).at (by decide)) hr tk rfl (a_cons (e_fn ((ok_leaf_entries I G c).at (by decide)) hr tk rfl (a_cons (e_var (i := 0) rfl (.inl rfl)) a_nil)) a_nil)) (e_con rfl (con_int (He.int_ok I G (c.fact 72)))))))) b_nil) (b_cons (s_asg (x_p (e_fn ((ok_inner_parts I G c).at (by decide)) hr tk rfl (a_cons (e_var (i := 0) rfl (.inl rfl)) a_nil))) (g_tup rfl (gs_cons (g_name (i := 1) nd rfl (.inl rfl)) (gs_cons (g_name (i := 2) nd rfl (.inl rfl)) gs_nil)))) (b_one (s_ret (x_p (E_cmp (k_lt hu) (e_fn ((ok_inner_size I G c).at (by decide)) hr tk rfl (a_cons (e_var (i := 1) rfl (.inl rfl)) (a_cons (e_var (i := 2) rfl (.inl rfl)) a_nil))) (e_con rfl (con_int (He.int_ok I G (c.fact 72))))))))))
theorem ok_free_pages (I : K.In h) (G : h.Ns mainGlobals mg) (c : He.SaysD fa fn K) : FnK P w K mg base (Pm K) 6 ("free_pages" : Str) 1 f_free_pages := by
  obtain ⟨fd, F⟩ := c.def_ 48 (d := d_f_free_pages) rfl
  refine ⟨6, _, fd, ["pages"], Nat.le_refl _, fn_sim F sc_f_free_pages rfl fun cdv A outer s H E hr tk hp => ?_, He.glo_ok I G (c.fact 74), F.kp, F.bindsN fun _ _ _ _ _ _ us hl => match us, hl with | [_], _ => rfl⟩
  have hu := hr.units
  have nd := sc_f_free_pages.nd
  exact (b_cons (s_par2 (i := 1) (j := 2) rfl nd rfl rfl (by decide) rfl rfl (f_l (xl_p (l_lst a_nil))) (f_x (x_p (e_fn ((ok_free_number I G c).at (by decide)) hr tk rfl (a_cons (e_fn ((ok_front_of I G c).at (by decide)) hr tk rfl (a_cons (e_var (i := 0) rfl (.inl rfl)) a_nil)) a_nil))))) (b_cons (s_while 200 hp (t_p (t_w (w_and (T_cmp (k_ne hu) (e_var (i := 2) rfl (.inl rfl)) e_int) (w_and1 (T_cmp (k_notin hu) (e_var (i := 2) rfl (.inl rfl)) (e_var (i := 1) rfl (.inl rfl))))))) (b_cons (s_append (i := 1) rfl (.inl rfl) (e_var (i := 2) rfl (.inl rfl))) (b_one (s_set (i := 2) nd rfl (.inl rfl) (x_p (e_fn ((ok_next_of I G c).at (by decide)) hr tk rfl (a_cons (e_meth (c := ("MemoryPages" : Str)) (pl := _) ((me_MemoryPages_read I G c).at (by decide)) hr tk (e_var (i := 0) rfl (.inl rfl)) (a_cons (e_var (i := 2) rfl (.inl rfl)) a_nil)) a_nil))))))) (b_one (s_retO (i := 1) rfl (.inl rfl)))))
theorem ok_check_given (I : K.In h) (G : h.Ns mainGlobals mg) (c : He.SaysD fa fn K) : FnK P w K mg base (Pm K) 7 ("check_given" : Str) 3 f_check_given := by
  obtain ⟨fd, F⟩ := c.def_ 49 (d := d_f_check_given) rfl
  refine ⟨7, _, fd, ["pages", "front", "number"], Nat.le_refl _, fn_sim F sc_f_check_given rfl fun cdv A outer s H E hr tk hp => ?_, He.glo_ok I G (c.fact 75), F.kp, F.bindsN fun _ _ _ _ _ _ us hl => match us, hl with | [_, _, _], _ => rfl⟩
  have hu := hr.units
  have nd := sc_f_check_given.nd
  exact (b_one (s_if (t_p (t_w (w_or (t_not (t_val (e_fn ((ok_is_number I G c).at (by decide)) hr tk rfl (a_cons (e_var (i := 2) rfl (.inl rfl)) (a_cons e_int (a_cons (E_op k_sub (e_fn ((ok_fresh_number I G c).at (by decide)) hr tk rfl (a_cons (e_var (i := 1) rfl (.inl rfl)) a_nil)) e_int) a_nil)))))) (w_or1 (T_cmp (k_in hu) (e_var (i := 2) rfl (.inl rfl)) (e_fn ((ok_free_pages I G c).at (by decide)) hr tk rfl (a_cons (e_var (i := 0) rfl (.inl rfl)) a_nil))))))) (b_one s_never) b_nil))
theorem ok_give_page (I : K.In h) (G : h.Ns mainGlobals mg) (c : He.SaysD fa fn K) : FnK P w K mg base (Em K) 8 ("give_page" : Str) 2 f_give_page := by
  obtain ⟨fd, F⟩ := c.def_ 50 (d := d_f_give_page) rfl
  refine ⟨8, _, fd, ["pages", "number"], Nat.le_refl _, fn_sim F sc_f_give_page rfl fun cdv A outer s H E hr tk hp => ?_, He.glo_ok I G (c.fact 76), F.kp, F.bindsN fun _ _ _ _ _ _ us hl => match us, hl with | [_, _], _ => rfl⟩
  have hu := hr.units
  have nd := sc_f_give_page.nd
  exact (b_cons (s_set (i := 2) nd rfl (.inl rfl) (x_p (e_fn ((ok_front_of I G c).at (by decide)) hr tk rfl (a_cons (e_var (i := 0) rfl (.inl rfl)) a_nil)))) (b_cons (s_expr (x_p (e_fn ((ok_check_given I G c).at (by decide)) hr tk rfl (a_cons (e_var (i := 0) rfl (.inl rfl)) (a_cons (e_var (i := 2) rfl (.inl rfl)) (a_cons (e_var (i := 1) rfl (.inl rfl)) a_nil)))))) (b_cons (s_expr (x_meth (c := ("MemoryPages" : Str)) (pl := _) ((me_MemoryPages_write I G c).at (by decide)) hr tk (x_p (e_var (i := 0) rfl (.inl rfl))) (xa_p (a_cons (e_var (i := 1) rfl (.inl rfl)) (a_cons (e_fn ((ok_with_next I G c).at (by decide)) hr tk rfl (a_cons (e_fn ((ok_blank_page I G c).at (by decide)) hr tk rfl (a_cons (e_con rfl (con_int (He.int_ok I G (c.fact 22)))) a_nil)) (a_cons (e_fn ((ok_free_number I G c).at (by decide)) hr tk rfl (a_cons (e_var (i := 2) rfl (.inl rfl)) a_nil)) a_nil))) a_nil))))) (b_one (s_expr (x_meth (c := ("MemoryPages" : Str)) (pl := _) ((me_MemoryPages_write I G c).at (by decide)) hr tk (x_p (e_var (i := 0) rfl (.inl rfl))) (xa_p (a_cons e_int (a_cons (e_fn ((ok_with_bytes I G c).at (by decide)) hr tk rfl (a_cons (e_var (i := 2) rfl (.inl rfl)) (a_cons (e_con rfl (con_int (He.int_ok I G (c.fact 35)))) (a_cons (e_fn ((ok_bytes_of I G c).at (by decide)) hr tk rfl (a_cons (e_var (i := 1) rfl (.inl rfl)) (a_cons e_int a_nil))) a_nil)))) a_nil)))))))))
theorem ok_MemoryPages_release (I : K.In h) (G : h.Ns mainGlobals mg) (c : He.SaysD fa fn K) : ∃ (fa : Addr) (fd : FuncData) (ps : List Str), fa = He.ma K (He.ga K ("MemoryPages" : Str)) ("release" : Str) ∧ FnOk P w K mg base (L2.CX P w) 9 fa fd ps (spM (Em K) 2 f_MemoryPages_release) ∧ Binds K fd ps [] := by
  obtain ⟨fd, F⟩ := c.def_ 51 (d := d_f_MemoryPages_release) rfl
  refine ⟨_, fd, ["self", "number"], rfl, fn_sim F sc_f_MemoryPages_release rfl fun cdv A outer s H E hr tk hp => ?_, F.bindsN fun _ _ _ _ _ _ us hl => match us, hl with | [_, _], _ => rfl⟩
  have hu := hr.units
  have nd := sc_f_MemoryPages_release.nd
  exact (b_one (s_expr (x_fn ((ok_give_page I G c).at (by decide)) hr tk rfl (xa_p (a_cons (e_var (i := 0) rfl (.inl rfl)) (a_cons (e_var (i := 1) rfl (.inl rfl)) a_nil))))))
theorem me_MemoryPages_release (I : K.In h) (G : h.Ns mainGlobals mg) (c : He.SaysD fa fn K) : MeK P w K mg base (Em K) 9 ("MemoryPages" : Str) ("release" : Str) 2 f_MemoryPages_release := by
  obtain ⟨fa, fd, ps, e, F, hb⟩ := ok_MemoryPages_release (P := P) (w := w) (base := base) I G c
  exact ⟨9, fa, fd, ps, Nat.le_refl _, F, He.cls_ok (c.fact 13), e ▸ He.meth_ok (c.fact 77), hb⟩
theorem ok_join_two (I : K.In h) (G : h.Ns mainGlobals mg) (c : He.SaysD fa fn K) : FnK P w K mg base (Em K) 10 ("join_two" : Str) 4 f_join_two := by
  obtain ⟨fd, F⟩ := c.def_ 52 (d := d_f_join_two) rfl
  refine ⟨10, _, fd, ["pages", "wall", "left", "right"], Nat.le_refl _, fn_sim F sc_f_join_two rfl fun cdv A outer s H E hr tk hp => ?_, He.glo_ok I G (c.fact 79), F.kp, F.bindsN fun _ _ _ _ _ _ us hl => match us, hl with | [_, _, _, _], _ => rfl⟩
  have hu := hr.units
  have nd := sc_f_join_two.nd
  exact (b_cons (s_par2 (i := 4) (j := 5) rfl nd rfl rfl (by decide) rfl rfl (f_x (x_p (e_meth (c := ("MemoryPages" : Str)) (pl := _) ((me_MemoryPages_read I G c).at (by decide)) hr tk (e_var (i := 0) rfl (.inl rfl)) (a_cons (e_var (i := 2) rfl (.inl rfl)) a_nil)))) (f_x (x_p (e_meth (c := ("MemoryPages" : Str)) (pl := _) ((me_MemoryPages_read I G c).at (by decide)) hr tk (e_var (i := 0) rfl (.inl rfl)) (a_cons (e_var (i := 3) rfl (.inl rfl)) a_nil))))) (b_cons (s_if (t_p (t_val (e_fn ((ok_is_leaf I G c).at (by decide)) hr tk rfl (a_cons (e_var (i := 4) rfl (.inl rfl)) a_nil)))) (b_cons (s_set (i := 6) nd rfl (.inl rfl) (x_p (e_lst (a_star (e_fn ((ok_leaf_entries I G c).at (by decide)) hr tk rfl (a_cons (e_var (i := 4) rfl (.inl rfl)) a_nil)) (a_star (e_fn ((ok_leaf_entries I G c).at (by decide)) hr tk rfl (a_cons (e_var (i := 5) rfl (.inl rfl)) a_nil)) a_nil))))) (b_cons (s_if (t_p (T_cmp (k_gt hu) (e_fn ((ok_leaf_size I G c).at (by decide)) hr tk rfl (a_cons (e_var (i := 6) rfl (.inl rfl)) a_nil)) (e_con rfl (con_int (He.int_ok I G (c.fact 78)))))) (b_one (s_ret (x_p e_bl))) b_nil) (b_one (s_expr (x_meth (c := ("MemoryPages" : Str)) (pl := _) ((me_MemoryPages_write I G c).at (by decide)) hr tk (x_p (e_var (i := 0) rfl (.inl rfl))) (xa_p (a_cons (e_var (i := 2) rfl (.inl rfl)) (a_cons (e_fn ((ok_leaf_page I G c).at (by decide)) hr tk rfl (a_cons (e_var (i := 6) rfl (.inl rfl)) (a_cons (e_fn ((ok_leaf_next I G c).at (by decide)) hr tk rfl (a_cons (e_var (i := 5) rfl (.inl rfl)) a_nil)) a_nil))) a_nil)))))))) (b_cons (s_set (i := 7) nd rfl (.inl rfl) (x_p (e_lst (a_star (E_ix hu (e_fn ((ok_inner_parts I G c).at (by decide)) hr tk rfl (a_cons (e_var (i := 4) rfl (.inl rfl)) a_nil)) e_int) (a_cons (e_var (i := 1) rfl (.inl rfl)) (a_star (E_ix hu (e_fn ((ok_inner_parts I G c).at (by decide)) hr tk rfl (a_cons (e_var (i := 5) rfl (.inl rfl)) a_nil)) e_int) a_nil)))))) (b_cons (s_set (i := 8) nd rfl (.inl rfl) (x_p (e_lst (a_star (E_ix hu (e_fn ((ok_inner_parts I G c).at (by decide)) hr tk rfl (a_cons (e_var (i := 4) rfl (.inl rfl)) a_nil)) e_int) (a_star (E_ix hu (e_fn ((ok_inner_parts I G c).at (by decide)) hr tk rfl (a_cons (e_var (i := 5) rfl (.inl rfl)) a_nil)) e_int) a_nil))))) (b_cons (s_if (t_p (T_cmp (k_gt hu) (e_fn ((ok_inner_size I G c).at (by decide)) hr tk rfl (a_cons (e_var (i := 7) rfl (.inl rfl)) (a_cons (e_var (i := 8) rfl (.inl rfl)) a_nil))) (e_con rfl (con_int (He.int_ok I G (c.fact 78)))))) (b_one (s_ret (x_p e_bl))) b_nil) (b_one (s_expr (x_meth (c := ("MemoryPages" : Str)) (pl := _) ((me_MemoryPages_write I G c).at (by decide)) hr tk (x_p (e_var (i := 0) rfl (.inl rfl))) (xa_p (a_cons (e_var (i := 2) rfl (.inl rfl)) (a_cons (e_fn ((ok_inner_page I G c).at (by decide)) hr tk rfl (a_cons (e_var (i := 7) rfl (.inl rfl)) (a_cons (e_var (i := 8) rfl (.inl rfl)) a_nil))) a_nil)))))))))) (b_cons (s_expr (x_meth (c := ("MemoryPages" : Str)) (pl := _) ((me_MemoryPages_release I G c).at (by decide)) hr tk (x_p (e_var (i := 0) rfl (.inl rfl))) (xa_p (a_cons (e_var (i := 3) rfl (.inl rfl)) a_nil)))) (b_one (s_ret (x_p e_bl))))))
theorem ok_join_at (I : K.In h) (G : h.Ns mainGlobals mg) (c : He.SaysD fa fn K) : FnK P w K mg base (Em K) 11 ("join_at" : Str) 3 f_join_at := by
  obtain ⟨fd, F⟩ := c.def_ 53 (d := d_f_join_at) rfl
  refine ⟨11, _, fd, ["pages", "number", "at"], Nat.le_refl _, fn_sim F sc_f_join_at rfl fun cdv A outer s H E hr tk hp => ?_, He.glo_ok I G (c.fact 80), F.kp, F.bindsN fun _ _ _ _ _ _ us hl => match us, hl with | [_, _, _], _ => rfl⟩
  have hu := hr.units
  have nd := sc_f_join_at.nd
  exact (b_cons (s_asg (x_p (e_fn ((ok_inner_parts I G c).at (by decide)) hr tk rfl (a_cons (e_meth (c := ("MemoryPages" : Str)) (pl := _) ((me_MemoryPages_read I G c).at (by decide)) hr tk (e_var (i := 0) rfl (.inl rfl)) (a_cons (e_var (i := 1) rfl (.inl rfl)) a_nil)) a_nil))) (g_tup rfl (gs_cons (g_name (i := 3) nd rfl (.inr rfl)) (gs_cons (g_name (i := 4) nd rfl (.inl rfl)) gs_nil)))) (b_one (s_for hp rfl (i_seq (e_fz (l_lc (own := [(("one" : Str), 6)]) rfl nd (i_seq (e_tup (a_cons (e_var (i := 2) rfl (.inl rfl)) (a_cons (E_op k_sub (e_var (i := 2) rfl (.inl rfl)) e_int) a_nil)))) (by show BlkOk N_f_join_at (defScope s_f_join_at) _ _; exact ⟨rfl, by decide +kernel, by decide +kernel, by decide +kernel, by decide +kernel⟩) (by decide) (fun _ _ _ _ _ => (g_name (i := 6) nd rfl (.inl rfl))) (fun _ _ _ _ _ => (ts_one (T_chain (k_le hu) (k_lt hu) e_int (e_var (i := 6) rfl (.inl rfl)) (E_callB (c_len) rfl (He.free_ok I G (c.fact 9)) bt_len (a_cons (e_var (i := 3) rfl (.inr (.inl rfl))) a_nil))))) (fun _ _ _ _ _ => (e_var (i := 6) rfl (.inl rfl)))))) (g_name (i := 5) nd rfl (.inl rfl)) (b_one (s_if (tx_val (x_fn ((ok_join_two I G c).at (by decide)) hr tk rfl (xa_p (a_cons (e_var (i := 0) rfl (.inl rfl)) (a_cons (E_ix hu (e_var (i := 3) rfl (.inr (.inl rfl))) (e_var (i := 5) rfl (.inl rfl))) (a_cons (E_ix hu (e_var (i := 4) rfl (.inl rfl)) (e_var (i := 5) rfl (.inl rfl))) (a_cons (E_ix hu (e_var (i := 4) rfl (.inl rfl)) (E_op k_add (e_var (i := 5) rfl (.inl rfl)) e_int)) a_nil))))))) (b_cons (s_set (i := 7) nd rfl (.inl rfl) (x_p (e_lst (a_star (e_sl (e_var (i := 3) rfl (.inr (.inl rfl))) o_none (o_some (e_var (i := 5) rfl (.inl rfl)))) (a_star (e_sl (e_var (i := 3) rfl (.inr (.inl rfl))) (o_some (E_op k_add (e_var (i := 5) rfl (.inl rfl)) e_int)) o_none) a_nil))))) (b_cons (s_expr (x_meth (c := ("MemoryPages" : Str)) (pl := _) ((me_MemoryPages_write I G c).at (by decide)) hr tk (x_p (e_var (i := 0) rfl (.inl rfl))) (xa_p (a_cons (e_var (i := 1) rfl (.inl rfl)) (a_cons (e_fn ((ok_inner_page I G c).at (by decide)) hr tk rfl (a_cons (e_var (i := 7) rfl (.inl rfl)) (a_cons (e_lst (a_star (e_sl (e_var (i := 4) rfl (.inl rfl)) o_none (o_some (E_op k_add (e_var (i := 5) rfl (.inl rfl)) e_int))) (a_star (e_sl (e_var (i := 4) rfl (.inl rfl)) (o_some (E_op k_add (e_var (i := 5) rfl (.inl rfl)) e_int)) o_none) a_nil))) a_nil))) a_nil))))) (b_one s_retN))) b_nil)))))
theorem ok_drop_below (I : K.In h) (G : h.Ns mainGlobals mg) (c : He.SaysD fa fn K) : ∀ n : Nat, FnK P w K mg base (Em K) (12 + n) ("drop_below" : Str) 3 (f_drop_below n)
  | 0 => by
    obtain ⟨fd, F⟩ := c.def_ 54 (d := d_f_drop_below) rfl
    refine ⟨12, _, fd, ["pages", "number", "entry"], Nat.le_refl _, fn_sim F sc_f_drop_below rfl fun cdv A outer s H E hr tk hp => b_never, He.glo_ok I G (c.fact 81), F.kp, F.bindsN fun _ _ _ _ _ _ us hl => match us, hl with | [_, _, _], _ => rfl⟩
  | n + 1 => by
    have ih := ok_drop_below I G c n
    obtain ⟨fd, F⟩ := c.def_ 54 (d := d_f_drop_below) rfl
    refine ⟨12 + n + 1, _, fd, ["pages", "number", "entry"], Nat.le_refl _, fn_sim F sc_f_drop_below rfl fun cdv A outer s H E hr tk hp => ?_, He.glo_ok I G (c.fact 81), F.kp, F.bindsN fun _ _ _ _ _ _ us hl => match us, hl with | [_, _, _], _ => rfl⟩
    have hu := hr.units
    have nd := sc_f_drop_below.nd
    exact (b_cons (s_set (i := 3) nd rfl (.inl rfl) (x_p (e_meth (c := ("MemoryPages" : Str)) (pl := _) ((me_MemoryPages_read I G c).at (by omega)) hr tk (e_var (i := 0) rfl (.inl rfl)) (a_cons (e_var (i := 1) rfl (.inl rfl)) a_nil)))) (b_cons (s_if (t_p (t_val (e_fn ((ok_is_leaf I G c).at (by omega)) hr tk rfl (a_cons (e_var (i := 3) rfl (.inl rfl)) a_nil)))) (b_cons (s_setLc (i := 7) (own := [(("late" : Str), 8)]) (f := fZ) RchL.z rfl nd rfl rfl (sw_true rfl rfl rfl (by decide +kernel)) (ix_p (i_seq (e_fn ((ok_leaf_entries I G c).at (by omega)) hr tk rfl (a_cons (e_var (i := 3) rfl (.inl rfl)) a_nil)))) (by show BlkOk N_f_drop_below (defScope s_f_drop_below) _ _; exact ⟨rfl, by decide +kernel, by decide +kernel, by decide +kernel, by decide +kernel⟩) (by decide) (fun _ _ _ _ _ => (g_name (i := 8) nd rfl (.inl rfl))) (fun _ _ _ _ _ => (tsx_one (t_p (T_cmp (k_ne hu) (e_var (i := 8) rfl (.inl rfl)) (e_var (i := 2) rfl (.inr (.inl rfl))))))) (fun _ _ _ _ _ => (x_p (e_var (i := 8) rfl (.inl rfl))))) (b_cons (s_expr (x_meth (c := ("MemoryPages" : Str)) (pl := _) ((me_MemoryPages_write I G c).at (by omega)) hr tk (x_p (e_var (i := 0) rfl (.inl rfl))) (xa_p (a_cons (e_var (i := 1) rfl (.inl rfl)) (a_cons (e_fn ((ok_leaf_page I G c).at (by omega)) hr tk rfl (a_cons (e_var (i := 7) rfl (.inl rfl)) (a_cons (e_fn ((ok_leaf_next I G c).at (by omega)) hr tk rfl (a_cons (e_var (i := 3) rfl (.inl rfl)) a_nil)) a_nil))) a_nil))))) (b_one s_retN))) b_nil) (b_cons (s_asg (x_p (e_fn ((ok_inner_parts I G c).at (by omega)) hr tk rfl (a_cons (e_var (i := 3) rfl (.inl rfl)) a_nil))) (g_tup rfl (gs_cons (g_name (i := 4) nd rfl (.inl rfl)) (gs_cons (g_name (i := 5) nd rfl (.inl rfl)) gs_nil)))) (b_cons (s_set (i := 6) nd rfl (.inl rfl) (x_p (e_fn ((ok_child_at I G c).at (by omega)) hr tk rfl (a_cons (e_var (i := 4) rfl (.inl rfl)) (a_cons (e_var (i := 2) rfl (.inr (.inl rfl))) a_nil))))) (b_cons (s_expr (x_fn (ih.at (Nat.le_refl _)) hr tk rfl (xa_p (a_cons (e_var (i := 0) rfl (.inl rfl)) (a_cons (E_ix hu (e_var (i := 5) rfl (.inl rfl)) (e_var (i := 6) rfl (.inl rfl))) (a_cons (e_var (i := 2) rfl (.inr (.inl rfl))) a_nil)))))) (b_one (s_if (t_p (t_val (e_fn ((ok_is_small I G c).at (by omega)) hr tk rfl (a_cons (e_meth (c := ("MemoryPages" : Str)) (pl := _) ((me_MemoryPages_read I G c).at (by omega)) hr tk (e_var (i := 0) rfl (.inl rfl)) (a_cons (E_ix hu (e_var (i := 5) rfl (.inl rfl)) (e_var (i := 6) rfl (.inl rfl))) a_nil)) a_nil)))) (b_one (s_expr (x_fn ((ok_join_at I G c).at (by omega)) hr tk rfl (xa_p (a_cons (e_var (i := 0) rfl (.inl rfl)) (a_cons (e_var (i := 1) rfl (.inl rfl)) (a_cons (e_var (i := 6) rfl (.inl rfl)) a_nil))))))) b_nil)))))))
theorem ok_drop_key (I : K.In h) (G : h.Ns mainGlobals mg) (c : He.SaysD fa fn K) : FnK P w K mg base (Em K) 25 ("drop_key" : Str) 4 f_drop_key := by
  obtain ⟨fd, F⟩ := c.def_ 55 (d := d_f_drop_key) rfl
  refine ⟨25, _, fd, ["pages", "root", "key", "spot"], Nat.le_refl _, fn_sim F sc_f_drop_key rfl fun cdv A outer s H E hr tk hp => ?_, He.glo_ok I G (c.fact 82), F.kp, F.bindsN fun _ _ _ _ _ _ us hl => match us, hl with | [_, _, _, _], _ => rfl⟩
  have hu := hr.units
  have nd := sc_f_drop_key.nd
  exact (b_cons (s_expr (x_p (e_fn ((ok_check_entry I G c).at (by decide)) hr tk rfl (a_cons (e_var (i := 2) rfl (.inl rfl)) (a_cons (e_var (i := 3) rfl (.inl rfl)) a_nil))))) (b_cons (s_if (t_p (T_cmp (k_notin hu) (e_tup (a_cons (e_var (i := 2) rfl (.inl rfl)) (a_cons (e_var (i := 3) rfl (.inl rfl)) a_nil))) (e_fn ((ok_entries_from I G c).at (by decide)) hr tk rfl (a_cons (e_var (i := 0) rfl (.inl rfl)) (a_cons (e_var (i := 1) rfl (.inl rfl)) (a_cons (e_var (i := 2) rfl (.inl rfl)) (a_cons (e_var (i := 2) rfl (.inl rfl)) a_nil))))))) (b_one (s_ret (x_p e_bl))) b_nil) (b_cons (s_expr (x_fn ((ok_drop_below I G c 12).at (by decide)) hr tk rfl (xa_p (a_cons (e_var (i := 0) rfl (.inl rfl)) (a_cons (e_var (i := 1) rfl (.inl rfl)) (a_cons (e_tup (a_cons (e_var (i := 2) rfl (.inl rfl)) (a_cons (e_var (i := 3) rfl (.inl rfl)) a_nil))) a_nil)))))) (b_cons (s_set (i := 4) nd rfl (.inl rfl) (x_p (e_meth (c := ("MemoryPages" : Str)) (pl := _) ((me_MemoryPages_read I G c).at (by decide)) hr tk (e_var (i := 0) rfl (.inl rfl)) (a_cons (e_var (i := 1) rfl (.inl rfl)) a_nil)))) (b_cons (s_while 200 hp (t_p (t_w (w_and (t_not (t_val (e_fn ((ok_is_leaf I G c).at (by decide)) hr tk rfl (a_cons (e_var (i := 4) rfl (.inl rfl)) a_nil)))) (w_and1 (T_cmp (k_eq hu) (E_callB (c_len) rfl (He.free_ok I G (c.fact 9)) bt_len (a_cons (E_ix hu (e_fn ((ok_inner_parts I G c).at (by decide)) hr tk rfl (a_cons (e_var (i := 4) rfl (.inl rfl)) a_nil)) e_int) a_nil)) e_int))))) (b_cons (s_set (i := 5) nd rfl (.inl rfl) (x_p (E_ix hu (E_ix hu (e_fn ((ok_inner_parts I G c).at (by decide)) hr tk rfl (a_cons (e_var (i := 4) rfl (.inl rfl)) a_nil)) e_int) e_int))) (b_cons (s_set (i := 4) nd rfl (.inl rfl) (x_p (e_meth (c := ("MemoryPages" : Str)) (pl := _) ((me_MemoryPages_read I G c).at (by decide)) hr tk (e_var (i := 0) rfl (.inl rfl)) (a_cons (e_var (i := 5) rfl (.inl rfl)) a_nil)))) (b_cons (s_expr (x_meth (c := ("MemoryPages" : Str)) (pl := _) ((me_MemoryPages_write I G c).at (by decide)) hr tk (x_p (e_var (i := 0) rfl (.inl rfl))) (xa_p (a_cons (e_var (i := 1) rfl (.inl rfl)) (a_cons (e_var (i := 4) rfl (.inl rfl)) a_nil))))) (b_one (s_expr (x_meth (c := ("MemoryPages" : Str)) (pl := _) ((me_MemoryPages_release I G c).at (by decide)) hr tk (x_p (e_var (i := 0) rfl (.inl rfl))) (xa_p (a_cons (e_var (i := 5) rfl (.inl rfl)) a_nil))))))))) (b_one (s_ret (x_p e_bl))))))))
theorem ok_pages_of (I : K.In h) (G : h.Ns mainGlobals mg) (c : He.SaysD fa fn K) : ∀ n : Nat, FnK P w K mg base (Pm K) (5 + n) ("pages_of" : Str) 2 (f_pages_of n)
  | 0 => by
    obtain ⟨fd, F⟩ := c.def_ 56 (d := d_f_pages_of) rfl
    refine ⟨5, _, fd, ["pages", "root"], Nat.le_refl _, fn_sim F sc_f_pages_of rfl fun cdv A outer s H E hr tk hp => b_never, He.glo_ok I G (c.fact 83), F.kp, F.bindsN fun _ _ _ _ _ _ us hl => match us, hl with | [_, _], _ => rfl⟩
  | n + 1 => by
    have ih := ok_pages_of I G c n
    obtain ⟨fd, F⟩ := c.def_ 56 (d := d_f_pages_of) rfl
    refine ⟨5 + n + 1, _, fd, ["pages", "root"], Nat.le_refl _, fn_sim F sc_f_pages_of rfl fun cdv A outer s H E hr tk hp => ?_, He.glo_ok I G (c.fact 83), F.kp, F.bindsN fun _ _ _ _ _ _ us hl => match us, hl with | [_, _], _ => rfl⟩
    have hu := hr.units
    have nd := sc_f_pages_of.nd
    exact (b_cons (s_par2 (i := 2) (j := 3) rfl nd rfl rfl (by decide) rfl rfl (f_l (xl_p (l_lst (a_cons (e_var (i := 1) rfl (.inl rfl)) a_nil)))) (f_x (x_p (e_meth (c := ("MemoryPages" : Str)) (pl := _) ((me_MemoryPages_read I G c).at (by omega)) hr tk (e_var (i := 0) rfl (.inl rfl)) (a_cons (e_var (i := 1) rfl (.inl rfl)) a_nil))))) (b_cons (s_if (t_p (t_not (t_val (e_fn ((ok_is_leaf I G c).at (by omega)) hr tk rfl (a_cons (e_var (i := 3) rfl (.inl rfl)) a_nil))))) (b_one (s_for hp rfl (i_seq (E_ix hu (e_fn ((ok_inner_parts I G c).at (by omega)) hr tk rfl (a_cons (e_var (i := 3) rfl (.inl rfl)) a_nil)) e_int)) (g_name (i := 4) nd rfl (.inl rfl)) (b_one (s_extend (i := 2) rfl (.inl rfl) (e_fn (ih.at (Nat.le_refl _)) hr tk rfl (a_cons (e_var (i := 0) rfl (.inl rfl)) (a_cons (e_var (i := 4) rfl (.inl rfl)) a_nil))))))) b_nil) (b_one (s_retO (i := 2) rfl (.inl rfl)))))
theorem ok__law_after_drop (I : K.In h) (G : h.Ns mainGlobals mg) (c : He.SaysD fa fn K) : FnK P w K mg base (Em K) 26 ("_law_after_drop" : Str) 3 f__law_after_drop := by
  obtain ⟨fd, F⟩ := c.def_ 57 (d := d_f__law_after_drop) rfl
  refine ⟨26, _, fd, ["_law_sizes", "_law_between", "_law_others"], Nat.le_refl _, fn_sim F sc_f__law_after_drop rfl fun cdv A outer s H E hr tk hp => ?_, He.glo_ok I G (c.fact 84), F.kp, F.bindsN fun _ _ _ _ _ _ us hl => match us, hl with | [_, _, _], _ => rfl⟩
  have hu := hr.units
  have nd := sc_f__law_after_drop.nd
  exact (b_cons (s_set (i := 3) nd rfl (.inl rfl) (x_new0 ((nw_MemoryPages I G c).at (by decide)) hr rfl)) (b_cons (s_set (i := 4) nd rfl (.inl rfl) (x_fn ((ok__law_three I G c).at (by decide)) hr tk rfl (xa_p (a_cons (e_var (i := 3) rfl (.inl rfl)) (a_cons (e_var (i := 0) rfl (.inl rfl)) (a_cons (e_var (i := 1) rfl (.inl rfl)) (a_cons (e_var (i := 2) rfl (.inl rfl)) a_nil))))))) (b_cons (s_set (i := 5) nd rfl (.inl rfl) (x_p (e_fn ((ok_spots_between I G c).at (by decide)) hr tk rfl (a_cons (e_var (i := 3) rfl (.inl rfl)) (a_cons (e_var (i := 4) rfl (.inl rfl)) (a_cons e_non (a_cons e_non a_nil))))))) (b_cons (s_set (i := 6) nd rfl (.inl rfl) (x_p (e_fn ((ok__law_entry I G c).at (by decide)) hr tk rfl (a_cons e_int (a_cons e_int a_nil))))) (b_cons (s_if (tx_w (wx_or (tx_not (tx_val (x_fn ((ok_drop_key I G c).at (by decide)) hr tk rfl (xa_p (a_cons (e_var (i := 3) rfl (.inl rfl)) (a_cons (e_var (i := 4) rfl (.inl rfl)) (a_cons (E_ix hu (e_var (i := 6) rfl (.inl rfl)) e_int) (a_cons (E_ix hu (e_var (i := 6) rfl (.inl rfl)) e_int) a_nil)))))))) (wx_or1 (t_p (T_cmp (k_ne hu) (e_fn ((ok_spots_between I G c).at (by decide)) hr tk rfl (a_cons (e_var (i := 3) rfl (.inl rfl)) (a_cons (e_var (i := 4) rfl (.inl rfl)) (a_cons e_non (a_cons e_non a_nil))))) (e_sl (e_var (i := 5) rfl (.inl rfl)) (o_some e_int) o_none)))))) (b_one (s_ret (x_p e_non))) b_nil) (b_one (s_ret (x_p (e_tup (a_cons (E_callB (c_len) rfl (He.free_ok I G (c.fact 9)) bt_len (a_cons (E_ix hu (e_fn ((ok_inner_parts I G c).at (by decide)) hr tk rfl (a_cons (e_meth (c := ("MemoryPages" : Str)) (pl := _) ((me_MemoryPages_read I G c).at (by decide)) hr tk (e_var (i := 3) rfl (.inl rfl)) (a_cons (e_var (i := 4) rfl (.inl rfl)) a_nil)) a_nil)) e_int) a_nil)) (a_cons (E_callB (c_len) rfl (He.free_ok I G (c.fact 9)) bt_len (a_cons (e_fn ((ok_pages_of I G c 12).at (by decide)) hr tk rfl (a_cons (e_var (i := 3) rfl (.inl rfl)) (a_cons (e_var (i := 4) rfl (.inl rfl)) a_nil))) a_nil)) (a_cons (e_fn ((ok_height_of I G c).at (by decide)) hr tk rfl (a_cons (e_var (i := 3) rfl (.inl rfl)) (a_cons (e_var (i := 4) rfl (.inl rfl)) a_nil))) a_nil))))))))))))
theorem ok_half_of (I : K.In h) (G : h.Ns mainGlobals mg) (c : He.SaysD fa fn K) : FnK P w K mg base (Pm K) 1 ("half_of" : Str) 1 f_half_of := by
  obtain ⟨fd, F⟩ := c.def_ 58 (d := d_f_half_of) rfl
  refine ⟨1, _, fd, ["sizes"], Nat.le_refl _, fn_sim F sc_f_half_of rfl fun cdv A outer s H E hr tk hp => ?_, He.glo_ok I G (c.fact 87), F.kp, F.bindsN fun _ _ _ _ _ _ us hl => match us, hl with | [_], _ => rfl⟩
  have hu := hr.units
  have nd := sc_f_half_of.nd
  exact (b_cons (s_set (i := 1) nd rfl (.inr rfl) (x_p (E_callB (c_sum rfl) rfl (He.free_ok I G (c.fact 69)) bt_sum (a_cons (e_var (i := 0) rfl (.inr (.inl rfl))) a_nil)))) (b_cons (s_setLc (i := 2) (own := [(("many" : Str), 3)]) (f := fZ) RchL.z rfl nd rfl rfl (sw_true rfl rfl rfl (by decide +kernel)) (ix_p (i_range2 rfl (He.free_ok I G (c.fact 20)) (a_cons e_int (a_cons (E_callB (c_len) rfl (He.free_ok I G (c.fact 9)) bt_len (a_cons (e_var (i := 0) rfl (.inr (.inl rfl))) a_nil)) a_nil)))) (by show BlkOk N_f_half_of (defScope s_f_half_of) _ _; exact ⟨rfl, by decide +kernel, by decide +kernel, by decide +kernel, by decide +kernel⟩) (by decide) (fun _ _ _ _ _ => (g_name (i := 3) nd rfl (.inl rfl))) (fun _ _ _ _ _ => tsx_nil) (fun _ _ _ _ _ => (x_p (e_tup (a_cons (E_callB (c_abs) rfl (He.free_ok I G (c.fact 85)) bt_abs (a_cons (E_op k_sub (e_var (i := 1) rfl (.inr (.inl rfl))) (E_op k_mul e_int (E_callB (c_sum rfl) rfl (He.free_ok I G (c.fact 69)) bt_sum (a_cons (e_sl (e_var (i := 0) rfl (.inr (.inl rfl))) o_none (o_some (e_var (i := 3) rfl (.inl rfl)))) a_nil)))) a_nil)) (a_cons (e_var (i := 3) rfl (.inl rfl)) a_nil)))))) (b_one (s_ret (x_p (E_ix hu (E_callB (c_min rfl hu) rfl (He.free_ok I G (c.fact 86)) bt_min (a_cons (e_var (i := 2) rfl (.inl rfl)) a_nil)) e_int))))))
theorem ok_write_inner (I : K.In h) (G : h.Ns mainGlobals mg) (c : He.SaysD fa fn K) : FnK P w K mg base (Em K) 8 ("write_inner" : Str) 4 f_write_inner := by
  obtain ⟨fd, F⟩ := c.def_ 59 (d := d_f_write_inner) rfl
  refine ⟨8, _, fd, ["pages", "number", "walls", "children"], Nat.le_refl _, fn_sim F sc_f_write_inner rfl fun cdv A outer s H E hr tk hp => ?_, He.glo_ok I G (c.fact 88), F.kp, F.bindsN fun _ _ _ _ _ _ us hl => match us, hl with | [_, _, _, _], _ => rfl⟩
  have hu := hr.units
  have nd := sc_f_write_inner.nd
  exact (b_cons (s_if (t_p (T_cmp (k_le hu) (e_fn ((ok_inner_size I G c).at (by decide)) hr tk rfl (a_cons (e_var (i := 2) rfl (.inl rfl)) (a_cons (e_var (i := 3) rfl (.inl rfl)) a_nil))) (e_con rfl (con_int (He.int_ok I G (c.fact 78)))))) (b_cons (s_expr (x_meth (c := ("MemoryPages" : Str)) (pl := _) ((me_MemoryPages_write I G c).at (by decide)) hr tk (x_p (e_var (i := 0) rfl (.inl rfl))) (xa_p (a_cons (e_var (i := 1) rfl (.inl rfl)) (a_cons (e_fn ((ok_inner_page I G c).at (by decide)) hr tk rfl (a_cons (e_var (i := 2) rfl (.inl rfl)) (a_cons (e_var (i := 3) rfl (.inl rfl)) a_nil))) a_nil))))) (b_one (s_ret (x_p e_non)))) b_nil) (b_cons (s_set (i := 4) nd rfl (.inl rfl) (x_p (e_fn ((ok_half_of I G c).at (by decide)) hr tk rfl (a_cons (e_fz (l_lc (own := [(("wall" : Str), 6)]) rfl nd (i_seq (e_sl (e_var (i := 2) rfl (.inl rfl)) o_none (o_some (E_neg e_int)))) (by show BlkOk N_f_write_inner (defScope s_f_write_inner) _ _; exact ⟨rfl, by decide +kernel, by decide +kernel, by decide +kernel, by decide +kernel⟩) (by decide) (fun _ _ _ _ _ => (g_name (i := 6) nd rfl (.inl rfl))) (fun _ _ _ _ _ => ts_nil) (fun _ _ _ _ _ => (E_op k_add (e_fn ((ok_entry_size I G c).at (by decide)) hr L2.takes0 rfl (a_cons (e_var (i := 6) rfl (.inl rfl)) a_nil)) e_int)))) a_nil)))) (b_cons (s_set (i := 5) nd rfl (.inl rfl) (x_meth0 (c := ("MemoryPages" : Str)) (pl := _) ((me_MemoryPages_allocate I G c).at (by decide)) hr tk (x_p (e_var (i := 0) rfl (.inl rfl))))) (b_cons (s_expr (x_meth (c := ("MemoryPages" : Str)) (pl := _) ((me_MemoryPages_write I G c).at (by decide)) hr tk (x_p (e_var (i := 0) rfl (.inl rfl))) (xa_p (a_cons (e_var (i := 5) rfl (.inl rfl)) (a_cons (e_fn ((ok_inner_page I G c).at (by decide)) hr tk rfl (a_cons (e_sl (e_var (i := 2) rfl (.inl rfl)) (o_some (E_op k_add (e_var (i := 4) rfl (.inl rfl)) e_int)) o_none) (a_cons (e_sl (e_var (i := 3) rfl (.inl rfl)) (o_some (E_op k_add (e_var (i := 4) rfl (.inl rfl)) e_int)) o_none) a_nil))) a_nil))))) (b_cons (s_expr (x_meth (c := ("MemoryPages" : Str)) (pl := _) ((me_MemoryPages_write I G c).at (by decide)) hr tk (x_p (e_var (i := 0) rfl (.inl rfl))) (xa_p (a_cons (e_var (i := 1) rfl (.inl rfl)) (a_cons (e_fn ((ok_inner_page I G c).at (by decide)) hr tk rfl (a_cons (e_sl (e_var (i := 2) rfl (.inl rfl)) o_none (o_some (e_var (i := 4) rfl (.inl rfl)))) (a_cons (e_sl (e_var (i := 3) rfl (.inl rfl)) o_none (o_some (E_op k_add (e_var (i := 4) rfl (.inl rfl)) e_int))) a_nil))) a_nil))))) (b_one (s_ret (x_p (e_tup (a_cons (E_ix hu (e_var (i := 2) rfl (.inl rfl)) (e_var (i := 4) rfl (.inl rfl))) (a_cons (e_var (i := 5) rfl (.inl rfl)) a_nil)))))))))))
theorem ok_write_leaf (I : K.In h) (G : h.Ns mainGlobals mg) (c : He.SaysD fa fn K) : FnK P w K mg base (Em K) 8 ("write_leaf" : Str) 4 f_write_leaf := by
  obtain ⟨fd, F⟩ := c.def_ 60 (d := d_f_write_leaf) rfl
  refine ⟨8, _, fd, ["pages", "number", "entries", "late"], Nat.le_refl _, fn_sim F sc_f_write_leaf rfl fun cdv A outer s H E hr tk hp => ?_, He.glo_ok I G (c.fact 89), F.kp, F.bindsN fun _ _ _ _ _ _ us hl => match us, hl with | [_, _, _, _], _ => rfl⟩
  have hu := hr.units
  have nd := sc_f_write_leaf.nd
  exact (b_cons (s_if (t_p (T_cmp (k_le hu) (e_fn ((ok_leaf_size I G c).at (by decide)) hr tk rfl (a_cons (e_var (i := 2) rfl (.inl rfl)) a_nil)) (e_con rfl (con_int (He.int_ok I G (c.fact 78)))))) (b_cons (s_expr (x_meth (c := ("MemoryPages" : Str)) (pl := _) ((me_MemoryPages_write I G c).at (by decide)) hr tk (x_p (e_var (i := 0) rfl (.inl rfl))) (xa_p (a_cons (e_var (i := 1) rfl (.inl rfl)) (a_cons (e_fn ((ok_leaf_page I G c).at (by decide)) hr tk rfl (a_cons (e_var (i := 2) rfl (.inl rfl)) (a_cons (e_var (i := 3) rfl (.inl rfl)) a_nil))) a_nil))))) (b_one (s_ret (x_p e_non)))) b_nil) (b_cons (s_set (i := 4) nd rfl (.inl rfl) (x_p (e_fn ((ok_half_of I G c).at (by decide)) hr tk rfl (a_cons (e_fz (l_lc (own := [(("entry" : Str), 6)]) rfl nd (i_seq (e_var (i := 2) rfl (.inl rfl))) (by show BlkOk N_f_write_leaf (defScope s_f_write_leaf) _ _; exact ⟨rfl, by decide +kernel, by decide +kernel, by decide +kernel, by decide +kernel⟩) (by decide) (fun _ _ _ _ _ => (g_name (i := 6) nd rfl (.inl rfl))) (fun _ _ _ _ _ => ts_nil) (fun _ _ _ _ _ => (e_fn ((ok_entry_size I G c).at (by decide)) hr L2.takes0 rfl (a_cons (e_var (i := 6) rfl (.inl rfl)) a_nil))))) a_nil)))) (b_cons (s_set (i := 5) nd rfl (.inl rfl) (x_meth0 (c := ("MemoryPages" : Str)) (pl := _) ((me_MemoryPages_allocate I G c).at (by decide)) hr tk (x_p (e_var (i := 0) rfl (.inl rfl))))) (b_cons (s_expr (x_meth (c := ("MemoryPages" : Str)) (pl := _) ((me_MemoryPages_write I G c).at (by decide)) hr tk (x_p (e_var (i := 0) rfl (.inl rfl))) (xa_p (a_cons (e_var (i := 5) rfl (.inl rfl)) (a_cons (e_fn ((ok_leaf_page I G c).at (by decide)) hr tk rfl (a_cons (e_sl (e_var (i := 2) rfl (.inl rfl)) (o_some (e_var (i := 4) rfl (.inl rfl))) o_none) (a_cons (e_var (i := 3) rfl (.inl rfl)) a_nil))) a_nil))))) (b_cons (s_expr (x_meth (c := ("MemoryPages" : Str)) (pl := _) ((me_MemoryPages_write I G c).at (by decide)) hr tk (x_p (e_var (i := 0) rfl (.inl rfl))) (xa_p (a_cons (e_var (i := 1) rfl (.inl rfl)) (a_cons (e_fn ((ok_leaf_page I G c).at (by decide)) hr tk rfl (a_cons (e_sl (e_var (i := 2) rfl (.inl rfl)) o_none (o_some (e_var (i := 4) rfl (.inl rfl)))) (a_cons (e_var (i := 5) rfl (.inl rfl)) a_nil))) a_nil))))) (b_one (s_ret (x_p (e_tup (a_cons (E_ix hu (e_var (i := 2) rfl (.inl rfl)) (e_var (i := 4) rfl (.inl rfl))) (a_cons (e_var (i := 5) rfl (.inl rfl)) a_nil)))))))))))
theorem ok_put_below (I : K.In h) (G : h.Ns mainGlobals mg) (c : He.SaysD fa fn K) : ∀ n : Nat, FnK P w K mg base (Em K) (9 + n) ("put_below" : Str) 3 (f_put_below n)
  | 0 => by
    obtain ⟨fd, F⟩ := c.def_ 61 (d := d_f_put_below) rfl
    refine ⟨9, _, fd, ["pages", "number", "entry"], Nat.le_refl _, fn_sim F sc_f_put_below rfl fun cdv A outer s H E hr tk hp => b_never, He.glo_ok I G (c.fact 91), F.kp, F.bindsN fun _ _ _ _ _ _ us hl => match us, hl with | [_, _, _], _ => rfl⟩
  | n + 1 => by
    have ih := ok_put_below I G c n
    obtain ⟨fd, F⟩ := c.def_ 61 (d := d_f_put_below) rfl
    refine ⟨9 + n + 1, _, fd, ["pages", "number", "entry"], Nat.le_refl _, fn_sim F sc_f_put_below rfl fun cdv A outer s H E hr tk hp => ?_, He.glo_ok I G (c.fact 91), F.kp, F.bindsN fun _ _ _ _ _ _ us hl => match us, hl with | [_, _, _], _ => rfl⟩
    have hu := hr.units
    have nd := sc_f_put_below.nd
    exact (b_cons (s_set (i := 3) nd rfl (.inl rfl) (x_p (e_meth (c := ("MemoryPages" : Str)) (pl := _) ((me_MemoryPages_read I G c).at (by omega)) hr tk (e_var (i := 0) rfl (.inl rfl)) (a_cons (e_var (i := 1) rfl (.inl rfl)) a_nil)))) (b_cons (s_if (t_p (t_val (e_fn ((ok_is_leaf I G c).at (by omega)) hr tk rfl (a_cons (e_var (i := 3) rfl (.inl rfl)) a_nil)))) (b_one (s_ret (x_fn ((ok_write_leaf I G c).at (by omega)) hr tk rfl (xa_p (a_cons (e_var (i := 0) rfl (.inl rfl)) (a_cons (e_var (i := 1) rfl (.inl rfl)) (a_cons (E_callB (c_sorted hu) rfl (He.free_ok I G (c.fact 90)) bt_sorted (a_cons (e_lst (a_star (e_fn ((ok_leaf_entries I G c).at (by omega)) hr tk rfl (a_cons (e_var (i := 3) rfl (.inl rfl)) a_nil)) (a_cons (e_var (i := 2) rfl (.inl rfl)) a_nil))) a_nil)) (a_cons (e_fn ((ok_leaf_next I G c).at (by omega)) hr tk rfl (a_cons (e_var (i := 3) rfl (.inl rfl)) a_nil)) a_nil)))))))) b_nil) (b_cons (s_asg (x_p (e_fn ((ok_inner_parts I G c).at (by omega)) hr tk rfl (a_cons (e_var (i := 3) rfl (.inl rfl)) a_nil))) (g_tup rfl (gs_cons (g_name (i := 4) nd rfl (.inl rfl)) (gs_cons (g_name (i := 5) nd rfl (.inl rfl)) gs_nil)))) (b_cons (s_set (i := 6) nd rfl (.inl rfl) (x_p (e_fn ((ok_child_at I G c).at (by omega)) hr tk rfl (a_cons (e_var (i := 4) rfl (.inl rfl)) (a_cons (e_var (i := 2) rfl (.inl rfl)) a_nil))))) (b_cons (s_set (i := 7) nd rfl (.inl rfl) (x_fn (ih.at (Nat.le_refl _)) hr tk rfl (xa_p (a_cons (e_var (i := 0) rfl (.inl rfl)) (a_cons (E_ix hu (e_var (i := 5) rfl (.inl rfl)) (e_var (i := 6) rfl (.inl rfl))) (a_cons (e_var (i := 2) rfl (.inl rfl)) a_nil)))))) (b_cons (s_if (t_p (T_cmp k_is (e_var (i := 7) rfl (.inl rfl)) e_non)) (b_one (s_ret (x_p e_non))) b_nil) (b_cons (s_asg (x_p (e_var (i := 7) rfl (.inl rfl))) (g_tup rfl (gs_cons (g_name (i := 8) nd rfl (.inl rfl)) (gs_cons (g_name (i := 9) nd rfl (.inl rfl)) gs_nil)))) (b_cons (s_set (i := 10) nd rfl (.inl rfl) (x_p (e_lst (a_star (e_sl (e_var (i := 5) rfl (.inl rfl)) o_none (o_some (E_op k_add (e_var (i := 6) rfl (.inl rfl)) e_int))) (a_cons (e_var (i := 9) rfl (.inl rfl)) (a_star (e_sl (e_var (i := 5) rfl (.inl rfl)) (o_some (E_op k_add (e_var (i := 6) rfl (.inl rfl)) e_int)) o_none) a_nil)))))) (b_one (s_ret (x_fn ((ok_write_inner I G c).at (by omega)) hr tk rfl (xa_p (a_cons (e_var (i := 0) rfl (.inl rfl)) (a_cons (e_var (i := 1) rfl (.inl rfl)) (a_cons (e_lst (a_star (e_sl (e_var (i := 4) rfl (.inl rfl)) o_none (o_some (e_var (i := 6) rfl (.inl rfl)))) (a_cons (e_var (i := 8) rfl (.inl rfl)) (a_star (e_sl (e_var (i := 4) rfl (.inl rfl)) (o_some (e_var (i := 6) rfl (.inl rfl))) o_none) a_nil)))) (a_cons (e_var (i := 10) rfl (.inl rfl)) a_nil))))))))))))))))
theorem ok_put_key (I : K.In h) (G : h.Ns mainGlobals mg) (c : He.SaysD fa fn K) : FnK P w K mg base (Em K) 22 ("put_key" : Str) 4 f_put_key := by
  obtain ⟨fd, F⟩ := c.def_ 62 (d := d_f_put_key) rfl
  refine ⟨22, _, fd, ["pages", "root", "key", "spot"], Nat.le_refl _, fn_sim F sc_f_put_key rfl fun cdv A outer s H E hr tk hp => ?_, He.glo_ok I G (c.fact 92), F.kp, F.bindsN fun _ _ _ _ _ _ us hl => match us, hl with | [_, _, _, _], _ => rfl⟩
  have hu := hr.units
  have nd := sc_f_put_key.nd
  exact (b_cons (s_expr (x_p (e_fn ((ok_check_entry I G c).at (by decide)) hr tk rfl (a_cons (e_var (i := 2) rfl (.inl rfl)) (a_cons (e_var (i := 3) rfl (.inl rfl)) a_nil))))) (b_cons (s_if (t_p (T_cmp (k_in hu) (e_tup (a_cons (e_var (i := 2) rfl (.inl rfl)) (a_cons (e_var (i := 3) rfl (.inl rfl)) a_nil))) (e_fn ((ok_entries_from I G c).at (by decide)) hr tk rfl (a_cons (e_var (i := 0) rfl (.inl rfl)) (a_cons (e_var (i := 1) rfl (.inl rfl)) (a_cons (e_var (i := 2) rfl (.inl rfl)) (a_cons (e_var (i := 2) rfl (.inl rfl)) a_nil))))))) (b_one (s_ret (x_p e_bl))) b_nil) (b_cons (s_set (i := 4) nd rfl (.inl rfl) (x_fn ((ok_put_below I G c 12).at (by decide)) hr tk rfl (xa_p (a_cons (e_var (i := 0) rfl (.inl rfl)) (a_cons (e_var (i := 1) rfl (.inl rfl)) (a_cons (e_tup (a_cons (e_var (i := 2) rfl (.inl rfl)) (a_cons (e_var (i := 3) rfl (.inl rfl)) a_nil))) a_nil)))))) (b_cons (s_if (t_p (T_cmp k_isnot (e_var (i := 4) rfl (.inl rfl)) e_non)) (b_cons (s_asg (x_p (e_var (i := 4) rfl (.inl rfl))) (g_tup rfl (gs_cons (g_name (i := 5) nd rfl (.inl rfl)) (gs_cons (g_name (i := 6) nd rfl (.inl rfl)) gs_nil)))) (b_cons (s_set (i := 7) nd rfl (.inl rfl) (x_meth0 (c := ("MemoryPages" : Str)) (pl := _) ((me_MemoryPages_allocate I G c).at (by decide)) hr tk (x_p (e_var (i := 0) rfl (.inl rfl))))) (b_cons (s_expr (x_meth (c := ("MemoryPages" : Str)) (pl := _) ((me_MemoryPages_write I G c).at (by decide)) hr tk (x_p (e_var (i := 0) rfl (.inl rfl))) (xa_p (a_cons (e_var (i := 7) rfl (.inl rfl)) (a_cons (e_meth (c := ("MemoryPages" : Str)) (pl := _) ((me_MemoryPages_read I G c).at (by decide)) hr tk (e_var (i := 0) rfl (.inl rfl)) (a_cons (e_var (i := 1) rfl (.inl rfl)) a_nil)) a_nil))))) (b_one (s_expr (x_meth (c := ("MemoryPages" : Str)) (pl := _) ((me_MemoryPages_write I G c).at (by decide)) hr tk (x_p (e_var (i := 0) rfl (.inl rfl))) (xa_p (a_cons (e_var (i := 1) rfl (.inl rfl)) (a_cons (e_fn ((ok_inner_page I G c).at (by decide)) hr tk rfl (a_cons (e_lst (a_cons (e_var (i := 5) rfl (.inl rfl)) a_nil)) (a_cons (e_lst (a_cons (e_var (i := 7) rfl (.inl rfl)) (a_cons (e_var (i := 6) rfl (.inl rfl)) a_nil))) a_nil))) a_nil))))))))) b_nil) (b_one (s_ret (x_p e_bl)))))))
theorem ok__law_inner_full (I : K.In h) (G : h.Ns mainGlobals mg) (c : He.SaysD fa fn K) : FnK P w K mg base (Em K) 23 ("_law_inner_full" : Str) 1 f__law_inner_full := by
  obtain ⟨fd, F⟩ := c.def_ 63 (d := d_f__law_inner_full) rfl
  refine ⟨23, _, fd, ["_law_size"], Nat.le_refl _, fn_sim F sc_f__law_inner_full rfl fun cdv A outer s H E hr tk hp => ?_, He.glo_ok I G (c.fact 93), F.kp, F.bindsN fun _ _ _ _ _ _ us hl => match us, hl with | [_], _ => rfl⟩
  have hu := hr.units
  have nd := sc_f__law_inner_full.nd
  exact (b_cons (s_set (i := 1) nd rfl (.inl rfl) (x_new0 ((nw_MemoryPages I G c).at (by decide)) hr rfl)) (b_cons (s_set (i := 2) nd rfl (.inl rfl) (x_fn ((ok_new_tree I G c).at (by decide)) hr tk rfl (xa_p (a_cons (e_var (i := 1) rfl (.inl rfl)) a_nil)))) (b_cons (s_setLc (i := 3) (own := [(("_law_place" : Str), 5), (("_law_late" : Str), 6)]) (f := fZ) RchL.z rfl nd rfl rfl (sw_true rfl rfl rfl (by decide +kernel)) (ix_p (i_enum rfl (He.free_ok I G (c.fact 47)) (a_cons (e_tup (a_cons e_int (a_cons e_int (a_cons e_int (a_cons e_int a_nil))))) a_nil))) (by show BlkOk N_f__law_inner_full (defScope s_f__law_inner_full) _ _; exact ⟨rfl, by decide +kernel, by decide +kernel, by decide +kernel, by decide +kernel⟩) (by decide) (fun _ _ _ _ _ => (g_tup rfl (gs_cons (g_name (i := 5) nd rfl (.inl rfl)) (gs_cons (g_name (i := 6) nd rfl (.inl rfl)) gs_nil)))) (fun _ _ _ _ _ => tsx_nil) (fun _ _ _ _ _ => (x_p (e_fn ((ok__law_entry I G c).at (by decide)) hr L2.takes0 rfl (a_cons (E_op k_add e_int (e_var (i := 5) rfl (.inl rfl))) (a_cons (e_var (i := 6) rfl (.inl rfl)) a_nil)))))) (b_cons (s_expr (x_meth (c := ("MemoryPages" : Str)) (pl := _) ((me_MemoryPages_write I G c).at (by decide)) hr tk (x_p (e_var (i := 1) rfl (.inl rfl))) (xa_cons (x_p (e_var (i := 2) rfl (.inl rfl))) (xa_cons (x_fnP ((ok_inner_page I G c).at (by decide)) hr tk rfl (xa_cons (x_p (e_var (i := 3) rfl (.inl rfl))) (xa_cons (x_fn ((ok__law_leaves I G c).at (by decide)) hr tk rfl (xa_p (a_cons (e_var (i := 1) rfl (.inl rfl)) (a_cons (e_var (i := 3) rfl (.inl rfl)) (a_cons (e_fn ((ok__law_entry I G c).at (by decide)) hr tk rfl (a_cons e_int (a_cons e_int a_nil))) a_nil))))) xa_nil))) xa_nil)))) (b_cons (s_for hp rfl (i_range2 rfl (He.free_ok I G (c.fact 20)) (a_cons e_int (a_cons e_int a_nil))) (g_name (i := 4) nd rfl (.inl rfl)) (b_one (s_if (t_p (T_cmp (k_eq hu) (E_callB (c_len) rfl (He.free_ok I G (c.fact 9)) bt_len (a_cons (E_ix hu (e_fn ((ok_inner_parts I G c).at (by decide)) hr tk rfl (a_cons (e_meth (c := ("MemoryPages" : Str)) (pl := _) ((me_MemoryPages_read I G c).at (by decide)) hr tk (e_var (i := 1) rfl (.inl rfl)) (a_cons (e_var (i := 2) rfl (.inl rfl)) a_nil)) a_nil)) e_int) a_nil)) e_int)) (b_cons (s_set (i := 7) nd rfl (.inl rfl) (x_p (e_fn ((ok__law_entry I G c).at (by decide)) hr tk rfl (a_cons (e_var (i := 4) rfl (.inl rfl)) (a_cons (e_var (i := 0) rfl (.inl rfl)) a_nil))))) (b_one (s_expr (x_fn ((ok_put_key I G c).at (by decide)) hr tk rfl (xa_p (a_cons (e_var (i := 1) rfl (.inl rfl)) (a_cons (e_var (i := 2) rfl (.inl rfl)) (a_cons (E_ix hu (e_var (i := 7) rfl (.inl rfl)) e_int) (a_cons (E_ix hu (e_var (i := 7) rfl (.inl rfl)) e_int) a_nil))))))))) b_nil))) (b_one (s_ret (x_p (E_callB (c_len) rfl (He.free_ok I G (c.fact 9)) bt_len (a_cons (E_ix hu (e_fn ((ok_inner_parts I G c).at (by decide)) hr tk rfl (a_cons (e_meth (c := ("MemoryPages" : Str)) (pl := _) ((me_MemoryPages_read I G c).at (by decide)) hr tk (e_var (i := 1) rfl (.inl rfl)) (a_cons (e_var (i := 2) rfl (.inl rfl)) a_nil)) a_nil)) e_int) a_nil))))))))))
theorem ok__law_leaf_join (I : K.In h) (G : h.Ns mainGlobals mg) (c : He.SaysD fa fn K) : FnK P w K mg base (Em K) 26 ("_law_leaf_join" : Str) 1 f__law_leaf_join := by
  obtain ⟨fd, F⟩ := c.def_ 64 (d := d_f__law_leaf_join) rfl
  refine ⟨26, _, fd, ["_law_sizes"], Nat.le_refl _, fn_sim F sc_f__law_leaf_join rfl fun cdv A outer s H E hr tk hp => ?_, He.glo_ok I G (c.fact 94), F.kp, F.bindsN fun _ _ _ _ _ _ us hl => match us, hl with | [_], _ => rfl⟩
  have hu := hr.units
  have nd := sc_f__law_leaf_join.nd
  exact (b_cons (s_set (i := 1) nd rfl (.inl rfl) (x_new0 ((nw_MemoryPages I G c).at (by decide)) hr rfl)) (b_cons (s_par3 (i := 2) (j := 3) (l := 4) rfl nd rfl rfl rfl (by decide) (by decide) (by decide) rfl rfl rfl (f_x (x_fn ((ok_new_tree I G c).at (by decide)) hr tk rfl (xa_p (a_cons (e_var (i := 1) rfl (.inl rfl)) a_nil)))) (f_x (x_meth0 (c := ("MemoryPages" : Str)) (pl := _) ((me_MemoryPages_allocate I G c).at (by decide)) hr tk (x_p (e_var (i := 1) rfl (.inl rfl))))) (f_x (x_meth0 (c := ("MemoryPages" : Str)) (pl := _) ((me_MemoryPages_allocate I G c).at (by decide)) hr tk (x_p (e_var (i := 1) rfl (.inl rfl)))))) (b_cons (s_par2 (i := 5) (j := 6) rfl nd rfl rfl (by decide) rfl rfl (f_x (x_p (e_fz (l_lc (own := [(("_law_place" : Str), 7), (("_law_size" : Str), 8)]) rfl nd (i_enum rfl (He.free_ok I G (c.fact 47)) (a_cons (e_var (i := 0) rfl (.inl rfl)) a_nil)) (by show BlkOk N_f__law_leaf_join (defScope s_f__law_leaf_join) _ _; exact ⟨rfl, by decide +kernel, by decide +kernel, by decide +kernel, by decide +kernel⟩) (by decide) (fun _ _ _ _ _ => (g_tup rfl (gs_cons (g_name (i := 7) nd rfl (.inl rfl)) (gs_cons (g_name (i := 8) nd rfl (.inl rfl)) gs_nil)))) (fun _ _ _ _ _ => ts_nil) (fun _ _ _ _ _ => (e_fn ((ok__law_entry I G c).at (by decide)) hr L2.takes0 rfl (a_cons (E_op k_add e_int (e_var (i := 7) rfl (.inl rfl))) (a_cons (e_var (i := 8) rfl (.inl rfl)) a_nil)))))))) (f_x (x_p (e_fz (l_lc (own := [(("_law_place" : Str), 7)]) rfl nd (i_range1 rfl (He.free_ok I G (c.fact 20)) (a_cons e_int a_nil)) (by show BlkOk N_f__law_leaf_join (defScope s_f__law_leaf_join) _ _; exact ⟨rfl, by decide +kernel, by decide +kernel, by decide +kernel, by decide +kernel⟩) (by decide) (fun _ _ _ _ _ => (g_name (i := 7) nd rfl (.inl rfl))) (fun _ _ _ _ _ => ts_nil) (fun _ _ _ _ _ => (e_fn ((ok__law_entry I G c).at (by decide)) hr L2.takes0 rfl (a_cons (E_op k_add e_int (e_var (i := 7) rfl (.inl rfl))) (a_cons e_int a_nil))))))))) (b_cons (s_expr (x_meth (c := ("MemoryPages" : Str)) (pl := _) ((me_MemoryPages_write I G c).at (by decide)) hr tk (x_p (e_var (i := 1) rfl (.inl rfl))) (xa_p (a_cons (e_var (i := 3) rfl (.inl rfl)) (a_cons (e_fn ((ok_leaf_page I G c).at (by decide)) hr tk rfl (a_cons (e_var (i := 5) rfl (.inl rfl)) (a_cons (e_var (i := 4) rfl (.inl rfl)) a_nil))) a_nil))))) (b_cons (s_expr (x_meth (c := ("MemoryPages" : Str)) (pl := _) ((me_MemoryPages_write I G c).at (by decide)) hr tk (x_p (e_var (i := 1) rfl (.inl rfl))) (xa_p (a_cons (e_var (i := 4) rfl (.inl rfl)) (a_cons (e_fn ((ok_leaf_page I G c).at (by decide)) hr tk rfl (a_cons (e_var (i := 6) rfl (.inl rfl)) (a_cons e_int a_nil))) a_nil))))) (b_cons (s_expr (x_meth (c := ("MemoryPages" : Str)) (pl := _) ((me_MemoryPages_write I G c).at (by decide)) hr tk (x_p (e_var (i := 1) rfl (.inl rfl))) (xa_p (a_cons (e_var (i := 2) rfl (.inl rfl)) (a_cons (e_fn ((ok_inner_page I G c).at (by decide)) hr tk rfl (a_cons (e_sl (e_var (i := 6) rfl (.inl rfl)) o_none (o_some e_int)) (a_cons (e_lst (a_cons (e_var (i := 3) rfl (.inl rfl)) (a_cons (e_var (i := 4) rfl (.inl rfl)) a_nil))) a_nil))) a_nil))))) (b_cons (s_expr (x_fn ((ok_drop_key I G c).at (by decide)) hr tk rfl (xa_p (a_cons (e_var (i := 1) rfl (.inl rfl)) (a_cons (e_var (i := 2) rfl (.inl rfl)) (a_cons (E_ix hu (E_ix hu (e_var (i := 6) rfl (.inl rfl)) e_int) e_int) (a_cons (E_ix hu (E_ix hu (e_var (i := 6) rfl (.inl rfl)) e_int) e_int) a_nil))))))) (b_cons (s_if (t_p (T_cmp (k_ne hu) (e_fz (l_lc (own := [(("_law_key" : Str), 9), (("_law_spot" : Str), 10)]) rfl nd (i_seq (e_fn ((ok_spots_between I G c).at (by decide)) hr tk rfl (a_cons (e_var (i := 1) rfl (.inl rfl)) (a_cons (e_var (i := 2) rfl (.inl rfl)) (a_cons e_non (a_cons e_non a_nil)))))) (by show BlkOk N_f__law_leaf_join (defScope s_f__law_leaf_join) _ _; exact ⟨rfl, by decide +kernel, by decide +kernel, by decide +kernel, by decide +kernel⟩) (by decide) (fun _ _ _ _ _ => (g_tup rfl (gs_cons (g_name (i := 9) nd rfl (.inl rfl)) (gs_cons (g_name (i := 10) nd rfl (.inl rfl)) gs_nil)))) (fun _ _ _ _ _ => ts_nil) (fun _ _ _ _ _ => (e_var (i := 9) rfl (.inl rfl))))) (e_fz (l_lc (own := [(("_law_key" : Str), 9), (("_law_spot" : Str), 10)]) rfl nd (i_seq (E_op k_add (e_var (i := 5) rfl (.inl rfl)) (e_sl (e_var (i := 6) rfl (.inl rfl)) o_none (o_some e_int)))) (by show BlkOk N_f__law_leaf_join (defScope s_f__law_leaf_join) _ _; exact ⟨rfl, by decide +kernel, by decide +kernel, by decide +kernel, by decide +kernel⟩) (by decide) (fun _ _ _ _ _ => (g_tup rfl (gs_cons (g_name (i := 9) nd rfl (.inl rfl)) (gs_cons (g_name (i := 10) nd rfl (.inl rfl)) gs_nil)))) (fun _ _ _ _ _ => ts_nil) (fun _ _ _ _ _ => (e_var (i := 9) rfl (.inl rfl))))))) (b_one (s_ret (x_p e_non))) b_nil) (b_one (s_ret (x_p (E_callB (c_len) rfl (He.free_ok I G (c.fact 9)) bt_len (a_cons (e_fn ((ok_pages_of I G c 12).at (by decide)) hr tk rfl (a_cons (e_var (i := 1) rfl (.inl rfl)) (a_cons (e_var (i := 2) rfl (.inl rfl)) a_nil))) a_nil)))))))))))))
theorem ok_law (I : K.In h) (G : h.Ns mainGlobals mg) (c : He.SaysD fa fn K) : ∃ fd : FuncData, (∀ (s : Shared) (v : Value), BindsTo s fd ⟨[v], []⟩ [(("_law_script" : Str), v)]) ∧ ∀ base : Heap, FnOk P w K mg base CX0 27 (He.ga K "law") fd ["_law_script"] (spM (Em K) 1 (law0 (fBody 3 b_f_law))) := by
  obtain ⟨fd, F⟩ := c.def_ 65 (d := d_f_law) rfl
  refine ⟨fd, fun s v => F.bindsA (ps := ["_law_script"]) (fun _ _ _ _ _ _ us hl => match us, hl with | [_], _ => rfl) s [v] rfl, fun base => fn_sim0 (md := Em K) F sc_f_law rfl fun cdv A outer s H E hr tk hp => ?_⟩
  have hu := hr.units
  have nd := sc_f_law.nd
  exact (b_cons (s_set (i := 1) nd rfl (.inl rfl) (x_p (E_op k_mod (E_callTy (c_int) rfl (He.free_ok I G (c.fact 1)) bt_int (a_cons (E_callB (c_sum rfl) rfl (He.free_ok I G (c.fact 69)) bt_sum (a_cons (e_fz (l_lc (own := [(("_law_one" : Str), 2)]) rfl nd (i_seq (e_sl (e_var (i := 0) rfl (.inl rfl)) o_none (o_some e_int))) (by show BlkOk N_f_law (defScope s_f_law) _ _; exact ⟨rfl, by decide +kernel, by decide +kernel, by decide +kernel, by decide +kernel⟩) (by decide) (fun _ _ _ _ _ => (g_name (i := 2) nd rfl (.inl rfl))) (fun _ _ _ _ _ => ts_nil) (fun _ _ _ _ _ => (E_callB (c_abs) rfl (He.free_ok I G (c.fact 85)) bt_abs (a_cons (e_var (i := 2) rfl (.inl rfl)) a_nil))))) a_nil)) a_nil)) e_int))) (b_one (s_try0 (b_cons (s_if (t_p (T_cmp (k_eq hu) (e_var (i := 1) rfl (.inl rfl)) e_int)) (b_one (s_ret (x_and (X_cmp (k_eq hu) (x_fn ((ok__law_leaf_join I G c).at (by decide)) hr tk rfl (xa_p (a_cons (E_op k_mul (e_lst (a_cons e_int a_nil)) e_int) a_nil))) (x_p e_int)) (x_one (X_cmp (k_eq hu) (x_fn ((ok__law_leaf_join I G c).at (by decide)) hr tk rfl (xa_p (a_cons (E_op k_add (E_op k_mul (e_lst (a_cons e_int a_nil)) e_int) (e_lst (a_cons e_int a_nil))) a_nil))) (x_p e_int)))))) b_nil) (b_cons (s_if (t_p (T_cmp (k_eq hu) (e_var (i := 1) rfl (.inl rfl)) e_int)) (b_one (s_ret (x_and (X_cmp (k_eq hu) (x_fn ((ok__law_after_drop I G c).at (by decide)) hr tk rfl (xa_p (a_cons (e_lst (a_cons e_int (a_cons e_int (a_cons e_int a_nil)))) (a_cons e_int (a_cons (e_lst (a_cons e_int a_nil)) a_nil))))) (x_p (e_tup (a_cons e_int (a_cons e_int (a_cons e_int a_nil)))))) (x_one (X_cmp (k_eq hu) (x_fn ((ok__law_after_drop I G c).at (by decide)) hr tk rfl (xa_p (a_cons (e_lst (a_cons e_int (a_cons e_int (a_cons e_int a_nil)))) (a_cons e_int (a_cons (e_lst (a_cons e_int a_nil)) a_nil))))) (x_p (e_tup (a_cons e_int (a_cons e_int (a_cons e_int a_nil)))))))))) b_nil) (b_cons (s_if (t_p (T_cmp (k_eq hu) (e_var (i := 1) rfl (.inl rfl)) e_int)) (b_one (s_ret (X_cmp (k_eq hu) (x_fn ((ok__law_after_drop I G c).at (by decide)) hr tk rfl (xa_p (a_cons (e_lst (a_cons e_int (a_cons e_int a_nil))) (a_cons e_int (a_cons (e_lst (a_cons e_int (a_cons e_int (a_cons e_int (a_cons e_int a_nil))))) a_nil))))) (x_p (e_tup (a_cons e_int (a_cons e_int (a_cons e_int a_nil)))))))) b_nil) (b_cons (s_if (t_p (T_cmp (k_eq hu) (e_var (i := 1) rfl (.inl rfl)) e_int)) (b_one (s_ret (X_cmp (k_eq hu) (x_fn ((ok__law_after_drop I G c).at (by decide)) hr tk rfl (xa_p (a_cons (e_lst (a_cons e_int (a_cons e_int a_nil))) (a_cons e_int (a_cons (e_lst (a_cons e_int (a_cons e_int (a_cons e_int (a_cons e_int a_nil))))) a_nil))))) (x_p (e_tup (a_cons e_int (a_cons e_int (a_cons e_int a_nil)))))))) b_nil) (b_one (s_ret (x_and (X_cmp (k_eq hu) (x_fn ((ok__law_inner_full I G c).at (by decide)) hr tk rfl (xa_p (a_cons e_int a_nil))) (x_p e_int)) (x_one (X_cmp (k_eq hu) (x_fn ((ok__law_inner_full I G c).at (by decide)) hr tk rfl (xa_p (a_cons e_int a_nil))) (x_p e_int)))))))))))))
end
end K35

set_option Elab.async false
set_option linter.all false
set_option maxRecDepth 1000000
set_option maxHeartbeats 0
namespace K35
open L3
theorem part0 (xs : List PV) : chk (l_1 [some (.kl xs), some (.int 0), none] []) = true := by kernel_rfl
theorem part1 (xs : List PV) : chk (l_1 [some (.kl xs), some (.int 1), none] []) = true := by kernel_rfl
theorem part2 (xs : List PV) : chk (l_1 [some (.kl xs), some (.int 2), none] []) = true := by kernel_rfl
theorem part3 (xs : List PV) : chk (l_1 [some (.kl xs), some (.int 3), none] []) = true := by kernel_rfl
theorem part4 (xs : List PV) : chk (l_1 [some (.kl xs), some (.int 4), none] []) = true := by kernel_rfl
theorem law (ns : List Int) (hl : ns.length ≤ 63) : ∃ S, law0 (fBody 3 b_f_law) [.kl (ns.map .int)] [] = some (.ok (.bl true), S) := by
  obtain ⟨k, h1, h2, h3⟩ := first5 ns hl
  have key : chk (l_1 [some (.kl (ns.map PV.int)), some (.int k), none] []) = true := by
    have : k = 0 ∨ k = 1 ∨ k = 2 ∨ k = 3 ∨ k = 4 := by omega
    rcases this with rfl | rfl | rfl | rfl | rfl
    · exact part0 _
    · exact part1 _
    · exact part2 _
    · exact part3 _
    · exact part4 _
  obtain ⟨S, h4⟩ := chk_ok key
  exact ⟨S, law_true ((sSeq_nx (m := l_0) (n := l_1) h3).trans h4)⟩
end K35

set_option Elab.async false
set_option linter.all false
set_option maxRecDepth 100000
set_option maxHeartbeats 0
namespace K35
open PySem PySem.Spec L2 L3
abbrev R : PySem.W.OpenRow := PySem.W.OpenLaw.row PySem.Challenge.rw_tidebase_k35_edges_of_nodes
abbrev hk : PySem.W.Hook := He.hookD 5 fa fn
def ob (s : PySem.W.SharedT) : He.AlD := He.obsDG 5 fa fn (HandSHeadRun.getT s)
theorem ob_eq (s : PySem.W.SharedT) : ob s = hk.obs s.abs := He.obsDG_eq (HandSHeadRun.getT_eq s)
def loose : List Str := [("TideError" : Str), ("BadNumber" : Str), ("BadKey" : Str), ("BadPage" : Str), ("BadSpot" : Str), ("is_number" : Str), ("check_number" : Str), ("are_bytes" : Str), ("bytes_of" : Str), ("number_of" : Str), ("PAGE_SIZE" : Str), ("HEAD" : Str)] ++ [("BLANK" : Str), ("FRONT" : Str), ("LEAF" : Str), ("INNER" : Str), ("MOST_PAGE" : Str), ("is_page" : Str), ("check_page" : Str), ("with_bytes" : Str), ("blank_page" : Str), ("kind_of" : Str), ("next_of" : Str), ("with_next" : Str)] ++ [("MOST_KEY" : Str), ("ROOM" : Str), ("FEW" : Str), ("is_key" : Str), ("check_key" : Str), ("is_spot" : Str), ("check_entry" : Str), ("entry_bytes" : Str), ("entry_size" : Str), ("leaf_size" : Str), ("inner_size" : Str), ("read_entry" : Str)] ++ [("leaf_page" : Str), ("leaf_entries" : Str), ("inner_page" : Str), ("inner_parts" : Str), ("check_node" : Str), ("is_leaf" : Str), ("leaf_next" : Str), ("half_of" : Str), ("new_tree" : Str), ("child_at" : Str), ("put_key" : Str), ("put_below" : Str)] ++ [("write_leaf" : Str), ("write_inner" : Str), ("drop_key" : Str), ("drop_below" : Str), ("is_small" : Str), ("join_at" : Str), ("join_two" : Str), ("leaf_for" : Str), ("entries_from" : Str), ("spots_between" : Str), ("pages_of" : Str), ("height_of" : Str)] ++ [("FRESH_AT" : Str), ("FREE_AT" : Str), ("format_pages" : Str), ("front_of" : Str), ("fresh_number" : Str), ("free_number" : Str), ("take_page" : Str), ("give_page" : Str), ("check_given" : Str), ("free_pages" : Str), ("MemoryPages" : Str), ("check_page_number" : Str)] ++ [("_law_entry" : Str), ("_law_leaves" : Str), ("_law_three" : Str), ("_law_after_drop" : Str), ("_law_leaf_join" : Str), ("_law_inner_full" : Str)]
theorem run (w : World) : HandSHeadRun.RunEq R (PySem.W.view R.prog [85]) hk ob 30000 loose w := by
  intro os
  kernel_rfl
end K35
open PySem PySem.W PySem.Calls PyProof.Rows
theorem K35.holds (LAW : ∀ ns : List Int, ns.length ≤ 63 → ∃ S, L3.law0 (L3.fBody 3 K35.b_f_law) [.kl (ns.map .int)] [] = some (.ok (.bl true), S)) : PySem.Challenge.rw_tidebase_k35_edges_of_nodes.Holds := by
  w_on; o_law
  refine HandSHeadRun.head_any (r := OpenLaw.row PySem.Challenge.rw_tidebase_k35_edges_of_nodes) (q := view (OpenLaw.row PySem.Challenge.rw_tidebase_k35_edges_of_nodes).prog [85]) (H := K35.hk) (ob := K35.ob) (M := 30000) (loose := K35.loose) (d := HandSHeadRun.topDef (OpenLaw.row PySem.Challenge.rw_tidebase_k35_edges_of_nodes).prog 85) (kwd := []) K35.ob_eq
    (by kernel_rfl) (fun s => by kernel_rfl) K35.run (by kernel_rfl) (by kernel_rfl) (by kernel_rfl) (by rfl) (by first | assumption | decide +kernel) (by decide +kernel) ⟨rfl, rfl, rfl, rfl, rfl, by decide +kernel⟩ ?hw ?hc
  case hw => w_witness2
  case hc =>
    refine L2.walk_ofE (l := PySem.Challenge.rw_tidebase_k35_edges_of_nodes) (n := 63) (k := 27) (x := "_law_script") (CX := L2.CX0) rfl (by decide) (by kernel_rfl) ⟨rfl, by decide, by decide⟩ ?F (fun _ _ _ _ z => z)
    intro w mg fa h Y G hmg0
    obtain ⟨K, KX, c⟩ := Y
    have hmg : mg ("law" : PySem.Str) = some (.ref fa) := by
      have e : (HandSHeadRun.topDef (OpenLaw.row PySem.Challenge.rw_tidebase_k35_edges_of_nodes).prog 85).name = ("law" : PySem.Str) := by kernel_rfl
      rw [← e]
      exact hmg0
    obtain ⟨fd, hb, hF⟩ := K35.ok_law (P := (PySem.Challenge.rw_tidebase_k35_edges_of_nodes).prog) (w := w) KX G c
    have e := hmg.symm.trans (He.glo_ok KX G (c.fact 95))
    cases e
    exact ⟨K, fd, _, KX, hb, fun H a ns hl hO hS => (LAW ns hl).elim fun S h => L3.script_sp hS hO h, fun base _ _ => hF base⟩

theorem PySem.Challenge.cw_tidebase_k35_edges_of_nodes_holds : PySem.Challenge.rw_tidebase_k35_edges_of_nodes.Holds := by
  exact K35.holds fun ns h => K35.law ns h
