import PyProof.Rows.All
import HandS.ForMost
import HandS.IsInst
import HandS.StrMore
import HandS.TupAny
import HandS.TupMul
import HandS.Style
import HandS.Wide
import HandS.WideBits
import HandS.Deep
import HandS.Replace
import HandS.Iter
import HandS.Defaults
import HandS.Property
import HandS.Ends
import HandS.HeadEnd
import HandS.Zip
import HandS.MakeKwOnly
import HandS.OwnEq
import PyProof.InstNe
import PyProof.ReprRoads
import HandS.Small
import HandS.NoneIn
import HandS.More
import HandS.DictComp
import HandS.Conv
import HandS.Dict
import HandS.Star
import HandS.Head0
import HandS.Head1
import HandS.Head2
import HandS.HeadHook1
import HandS.HeadHook2
import KE.KStateDown
import PySem.Challenge.RW_rowreaders_k52_whole_orders_of_weighers
set_option Elab.async false
set_option linter.all false
set_option maxRecDepth 100000
set_option maxHeartbeats 4000000
namespace RR
open PySem PySem.Spec PyProof.Rows L2

/-! ### pure values, the store of things that are changed -/
inductive D where
  | non | bl (b : Bool) | int (i : Int) | str (x : Str)
  | tup (xs : List D) | lst (xs : List D) | scr (xs : List D)
  | dic (ks vs : List D)
  | ins (c : Str) (ns : List Str) (vs : List D)
  | ty (n : String) | glo (x : Str)
  deriving Inhabited
inductive W where
  | v (d : D) | o (i : Nat)
  deriving Inhabited
inductive MO where
  | lst (xs : List D) | lol (is : List Nat) | dic (ks vs : List D) | ins (c : Str) (ns : List Str) (vs : List D)
  deriving Inhabited
structure Ent where
  live : Bool
  ob : MO
  deriving Inhabited
abbrev Objs := List Ent

/-- an outcome -/
inductive R (α : Type) where
  | ok (a : α) (o : Objs) | exc (e : D) (o : Objs) | stuck
def R.bind {α β : Type} (r : R α) (f : α → Objs → R β) : R β :=
  match r with
  | .ok a o => f a o
  | .exc e o => .exc e o
  | .stuck => .stuck
@[simp] theorem R.bind_ok {α β : Type} (a : α) (o : Objs) (f : α → Objs → R β) : (R.ok a o).bind f = f a o := id rfl
@[simp] theorem R.bind_exc {α β : Type} (e : D) (o : Objs) (f : α → Objs → R β) : (R.exc e o : R α).bind f = .exc e o := id rfl
@[simp] theorem R.bind_stuck {α β : Type} (f : α → Objs → R β) : (R.stuck : R α).bind f = .stuck := id rfl

structure GE where
  K : PySem.W.Frag
  mg : Str → Option Value

def keyD : Key → D
  | .inl i => .int i
  | .inr x => .str x

/-- a list of the written part -/
def WrL (K : PySem.W.Frag) (a : Addr) (xs : List V) : Prop := ∃ o its n, K.lookup a = some o ∧ o.cls = .type "list" ∧ o.dict = none ∧ o.data = .seq its n ∧ its.size ≤ sizeLine ∧ Vals xs its.toList
mutual
/-- A: the addresses of what may still be changed -/
def RV (g : GE) (A : Addr → Prop) (H : Hp) : D → V → Prop
  | .non, v => v = .non
  | .bl b, v => v = .bl b
  | .int i, v => v = .int i
  | .str x, v => v = .str x
  | .ty n, v => v = .ty n
  | .glo x, v => ∃ a, g.mg x = some (.ref a) ∧ v = .ref a
  | .tup xs, v => ∃ a vs, v = .ref a ∧ ¬ A a ∧ H a = some (.tup vs) ∧ RVs g A H xs vs
  | .lst xs, v => ∃ a vs, v = .ref a ∧ ¬ A a ∧ H a = some (.lst vs) ∧ RVs g A H xs vs
  | .scr xs, v => ∃ a vs, v = .ref a ∧ ((¬ A a ∧ Rd H a (.lst vs)) ∨ WrL g.K a vs) ∧ RVs g A H xs vs
  | .dic ks ds, v => ∃ a kvs, v = .ref a ∧ ¬ A a ∧ H a = some (.dK kvs) ∧ ks = kvs.map (fun p => keyD p.1) ∧ RVs g A H ds (kvs.map (·.2))
  | .ins c ns ds, v => ∃ a C dx vs, v = .ref a ∧ ¬ A a ∧ g.mg c = some (.ref C) ∧ H a = some (.ins C dx (ns.zip vs)) ∧ ns.length = ds.length ∧ RVs g A H ds vs
def RVs (g : GE) (A : Addr → Prop) (H : Hp) : List D → List V → Prop
  | [], vs => vs = []
  | d :: ds, vs => ∃ v r, vs = v :: r ∧ RV g A H d v ∧ RVs g A H ds r
end

def RAt (ι : List Addr) (i : Nat) (v : V) : Prop := ∃ a, ι[i]? = some a ∧ v = .ref a
def RW (g : GE) (ι : List Addr) (A : Addr → Prop) (H : Hp) : W → V → Prop
  | .v d, v => RV g A H d v
  | .o i, v => RAt ι i v
def RO (g : GE) (ι : List Addr) (A : Addr → Prop) (H : Hp) : MO → Addr → Prop
  | .lst xs, a => ∃ vs, H a = some (.lst vs) ∧ RVs g A H xs vs
  | .lol is, a => ∃ vs, H a = some (.lst vs) ∧ Paired (RAt ι) is vs
  | .dic ks ds, a => ∃ kvs, H a = some (.dK kvs) ∧ ks = kvs.map (fun p => keyD p.1) ∧ RVs g A H ds (kvs.map (·.2))
  | .ins c ns ds, a => ∃ C dx vs, g.mg c = some (.ref C) ∧ H a = some (.ins C dx (ns.zip vs)) ∧ ns.length = ds.length ∧ RVs g A H ds vs

def Live (ι : List Addr) (objs : Objs) (a : Addr) : Prop := ∃ (i : Nat) (o : MO), ι[i]? = some a ∧ objs[i]? = some (Ent.mk true o)
abbrev Al (F : Addr → Prop) (ι : List Addr) (objs : Objs) : Addr → Prop := fun a => F a ∨ Live ι objs a

structure Rel (g : GE) (F : Addr → Prop) (ι : List Addr) (H : Hp) (objs : Objs) : Prop where
  nd : ι.Nodup
  len : ι.length = objs.length
  at_ : ∀ (i : Nat) (a : Addr) (o : Ent), ι[i]? = some a → objs[i]? = some o → RO g ι (Al F ι objs) H o.ob a
  out : ∀ a, F a → (∃ o, H a = some o) ∧ a ∉ ι

structure Ext (ι : List Addr) (objs : Objs) (H : Hp) (ι' : List Addr) (objs' : Objs) (H' : Hp) : Prop where
  pre : ι <+: ι'
  keep : ∀ b o, H b = some o → ¬ Live ι objs b → H' b = some o
  new : ∀ a, Live ι' objs' a → ¬ Live ι objs a → H a = none

section
variable {g : GE} {F : Addr → Prop} {ι ι' ι1 ι2 : List Addr} {H H' H1 H2 : Hp} {objs objs' objs1 objs2 : Objs} {A A' : Addr → Prop}
theorem Ext.refl : Ext ι objs H ι objs H := ⟨List.prefix_rfl, fun _ _ e _ => e, fun _ h n => absurd h n⟩
theorem Ext.trans (a : Ext ι objs H ι1 objs1 H1) (b : Ext ι1 objs1 H1 ι2 objs2 H2) : Ext ι objs H ι2 objs2 H2 where
  pre := a.pre.trans b.pre
  keep := fun c o e n => b.keep c o (a.keep c o e n) fun h => by rw [a.new c h n] at e; cases e
  new := fun c h n => by
    by_cases h1 : Live ι1 objs1 c
    · exact a.new c h1 n
    · have := b.new c h h1
      cases e : H c with
      | none => rfl
      | some o => rw [a.keep c o e n] at this; cases this
theorem Ext.get (e : Ext ι objs H ι1 objs1 H1) {i : Nat} {a : Addr} (h : ι[i]? = some a) : ι1[i]? = some a := by
  obtain ⟨t, rfl⟩ := e.pre
  rw [List.getElem?_append_left (List.getElem?_eq_some_iff.mp h).1]
  exact h
theorem Ext.off (e : Ext ι objs H ι1 objs1 H1) {a : Addr} {o : HO} (h : H a = some o) (n : ¬ Al F ι objs a) : ¬ Al F ι1 objs1 a := fun z => by
  rcases z with z | z
  · exact n (.inl z)
  · rw [e.new a z fun q => n (.inr q)] at h; cases h
theorem Ext.kp (e : Ext ι objs H ι1 objs1 H1) {a : Addr} {o : HO} (h : H a = some o) (n : ¬ Al F ι objs a) : H1 a = some o := e.keep _ _ h fun q => n (.inr q)

/-- what carries values from one heap to the next -/
structure Carry (A : Addr → Prop) (H : Hp) (A' : Addr → Prop) (H' : Hp) : Prop where
  kp : ∀ a o, H a = some o → ¬ A a → H' a = some o ∧ ¬ A' a
theorem Ext.carry (e : Ext ι objs H ι1 objs1 H1) : Carry (Al F ι objs) H (Al F ι1 objs1) H1 := ⟨fun _ _ h n => ⟨e.kp h n, e.off h n⟩⟩
mutual
theorem RV.car (e : Carry A H A' H') : ∀ (d : D) (v : V), RV g A H d v → RV g A' H' d v
  | .non, _, h => h
  | .bl _, _, h => h
  | .int _, _, h => h
  | .str _, _, h => h
  | .ty _, _, h => h
  | .glo _, _, h => h
  | .tup xs, v, h => by
    simp only [RV] at h ⊢
    obtain ⟨a, vs, h1, h2, h3, h4⟩ := h
    exact ⟨a, vs, h1, (e.kp _ _ h3 h2).2, (e.kp _ _ h3 h2).1, RVs.car e xs vs h4⟩
  | .lst xs, v, h => by
    simp only [RV] at h ⊢
    obtain ⟨a, vs, h1, h2, h3, h4⟩ := h
    exact ⟨a, vs, h1, (e.kp _ _ h3 h2).2, (e.kp _ _ h3 h2).1, RVs.car e xs vs h4⟩
  | .scr xs, v, h => by
    simp only [RV] at h ⊢
    obtain ⟨a, vs, h1, h2, h4⟩ := h
    refine ⟨a, vs, h1, ?_, RVs.car e xs vs h4⟩
    rcases h2 with ⟨h2, h3 | ⟨u, h3⟩⟩ | h2
    · exact .inl ⟨(e.kp _ _ h3 h2).2, .inl (e.kp _ _ h3 h2).1⟩
    · exact .inl ⟨(e.kp _ _ h3 h2).2, .inr ⟨u, (e.kp _ _ h3 h2).1⟩⟩
    · exact .inr h2
  | .dic ks ds, v, h => by
    simp only [RV] at h ⊢
    obtain ⟨a, kvs, h1, h2, h3, h4, h5⟩ := h
    exact ⟨a, kvs, h1, (e.kp _ _ h3 h2).2, (e.kp _ _ h3 h2).1, h4, RVs.car e ds _ h5⟩
  | .ins c ns ds, v, h => by
    simp only [RV] at h ⊢
    obtain ⟨a, C, dx, vs, h1, h2, h3, h4, h5, h6⟩ := h
    exact ⟨a, C, dx, vs, h1, (e.kp _ _ h4 h2).2, h3, (e.kp _ _ h4 h2).1, h5, RVs.car e ds vs h6⟩
theorem RVs.car (e : Carry A H A' H') : ∀ (ds : List D) (vs : List V), RVs g A H ds vs → RVs g A' H' ds vs
  | [], vs, h => by simpa only [RVs] using h
  | d :: ds, vs, h => by
    simp only [RVs] at h ⊢
    obtain ⟨v, r, h1, h2, h3⟩ := h
    exact ⟨v, r, h1, RV.car e d v h2, RVs.car e ds r h3⟩
end
theorem RV.ext {d : D} {v : V} (h : RV g (Al F ι objs) H d v) (e : Ext ι objs H ι1 objs1 H1) : RV g (Al F ι1 objs1) H1 d v := RV.car e.carry d v h
theorem RVs.ext {d : List D} {v : List V} (h : RVs g (Al F ι objs) H d v) (e : Ext ι objs H ι1 objs1 H1) : RVs g (Al F ι1 objs1) H1 d v := RVs.car e.carry d v h
theorem RAt.ext {i : Nat} {v : V} (h : RAt ι i v) (e : Ext ι objs H ι1 objs1 H1) : RAt ι1 i v := let ⟨a, x, y⟩ := h; ⟨a, e.get x, y⟩
theorem RW.ext {d : W} {v : V} (h : RW g ι (Al F ι objs) H d v) (e : Ext ι objs H ι1 objs1 H1) : RW g ι1 (Al F ι1 objs1) H1 d v := by
  cases d with
  | v d => exact RV.ext h e
  | o i => exact RAt.ext h e
theorem RVs.length : ∀ {ds : List D} {vs : List V}, RVs g A H ds vs → ds.length = vs.length
  | [], vs, h => by simp only [RVs] at h; simp [h]
  | d :: ds, vs, h => by
    simp only [RVs] at h
    obtain ⟨v, r, rfl, _, h3⟩ := h
    simp [RVs.length h3]
theorem RVs.get : ∀ {ds : List D} {vs : List V} {i : Nat} {d : D}, RVs g A H ds vs → ds[i]? = some d → ∃ v, vs[i]? = some v ∧ RV g A H d v
  | [], vs, i, d, h, e => by simp at e
  | d' :: ds, vs, 0, d, h, e => by
    simp only [RVs] at h
    obtain ⟨v, r, rfl, h2, h3⟩ := h
    simp at e; subst e
    exact ⟨v, by simp, h2⟩
  | d' :: ds, vs, i + 1, d, h, e => by
    simp only [RVs] at h
    obtain ⟨v, r, rfl, h2, h3⟩ := h
    obtain ⟨w, e1, e2⟩ := RVs.get (i := i) h3 (by simpa using e)
    exact ⟨w, by simpa using e1, e2⟩
theorem RVs.getV : ∀ {ds : List D} {vs : List V} {i : Nat} {v : V}, RVs g A H ds vs → vs[i]? = some v → ∃ d, ds[i]? = some d ∧ RV g A H d v
  | [], vs, i, d, h, e => by simp only [RVs] at h; subst h; simp at e
  | d' :: ds, vs, 0, d, h, e => by
    simp only [RVs] at h
    obtain ⟨v, r, rfl, h2, h3⟩ := h
    simp at e; subst e
    exact ⟨d', by simp, h2⟩
  | d' :: ds, vs, i + 1, d, h, e => by
    simp only [RVs] at h
    obtain ⟨v, r, rfl, h2, h3⟩ := h
    obtain ⟨w, e1, e2⟩ := RVs.getV (i := i) h3 (by simpa using e)
    exact ⟨w, by simpa using e1, e2⟩
theorem RVs.append : ∀ {ds es : List D} {vs us : List V}, RVs g A H ds vs → RVs g A H es us → RVs g A H (ds ++ es) (vs ++ us)
  | [], es, vs, us, h, k => by simp only [RVs] at h; subst h; simpa using k
  | d :: ds, es, vs, us, h, k => by
    simp only [RVs] at h
    obtain ⟨v, r, rfl, h2, h3⟩ := h
    simp only [List.cons_append, RVs]
    exact ⟨v, r ++ us, rfl, h2, RVs.append h3 k⟩
theorem RVs.take : ∀ {ds : List D} {vs : List V} (n : Nat), RVs g A H ds vs → RVs g A H (ds.take n) (vs.take n)
  | _, _, 0, _ => by simp [RVs]
  | [], vs, n + 1, h => by simp only [RVs] at h; subst h; simp [RVs]
  | d :: ds, vs, n + 1, h => by
    simp only [RVs] at h
    obtain ⟨v, r, rfl, h2, h3⟩ := h
    simp only [List.take_succ_cons, RVs]
    exact ⟨v, _, rfl, h2, RVs.take n h3⟩
theorem RVs.drop : ∀ {ds : List D} {vs : List V} (n : Nat), RVs g A H ds vs → RVs g A H (ds.drop n) (vs.drop n)
  | _, _, 0, h => by simpa using h
  | [], vs, n + 1, h => by simp only [RVs] at h; subst h; simp [RVs]
  | d :: ds, vs, n + 1, h => by
    simp only [RVs] at h
    obtain ⟨v, r, rfl, h2, h3⟩ := h
    simpa using RVs.drop n h3
theorem RVs.reverse : ∀ {ds : List D} {vs : List V}, RVs g A H ds vs → RVs g A H ds.reverse vs.reverse
  | [], vs, h => by simp only [RVs] at h; subst h; simp [RVs]
  | d :: ds, vs, h => by
    simp only [RVs] at h
    obtain ⟨v, r, rfl, h2, h3⟩ := h
    simp only [List.reverse_cons]
    exact (RVs.reverse h3).append (by simp only [RVs]; exact ⟨v, [], rfl, h2, rfl⟩)
theorem RVs.set : ∀ {ds : List D} {vs : List V} {i : Nat} {d : D} {v : V}, RVs g A H ds vs → RV g A H d v → RVs g A H (ds.set i d) (vs.set i v)
  | [], vs, i, d, v, h, k => by simp only [RVs] at h; subst h; simp [RVs]
  | d' :: ds, vs, 0, d, v, h, k => by
    simp only [RVs] at h
    obtain ⟨w, r, rfl, h2, h3⟩ := h
    simp only [List.set_cons_zero, RVs]
    exact ⟨v, r, rfl, k, h3⟩
  | d' :: ds, vs, i + 1, d, v, h, k => by
    simp only [RVs] at h
    obtain ⟨w, r, rfl, h2, h3⟩ := h
    simp only [List.set_cons_succ, RVs]
    exact ⟨w, _, rfl, h2, RVs.set h3 k⟩
theorem RVs.one {d : D} {v : V} (h : RV g A H d v) : RVs g A H [d] [v] := by simp only [RVs]; exact ⟨v, [], rfl, h, rfl⟩
theorem RVs.rep {ds : List D} {vs : List V} (h : RVs g A H ds vs) : ∀ n : Nat, RVs g A H (List.replicate n ds).flatten (List.replicate n vs).flatten
  | 0 => by simp [RVs]
  | n + 1 => by simp only [List.replicate_succ, List.flatten_cons]; exact h.append (RVs.rep h n)
theorem RO.ext (e : Ext ι objs H ι1 objs1 H1) {o : MO} {a : Addr} (n : ∀ u, H a = some u → H1 a = some u) (h : RO g ι (Al F ι objs) H o a) : RO g ι1 (Al F ι1 objs1) H1 o a := by
  cases o with
  | lst xs => exact let ⟨vs, h, r⟩ := h; ⟨vs, n _ h, r.ext e⟩
  | lol is => exact let ⟨vs, h, r⟩ := h; ⟨vs, n _ h, Paired.mapP r fun _ _ q => q.ext e⟩
  | dic ks ds => exact let ⟨kvs, h, k, r⟩ := h; ⟨kvs, n _ h, k, r.ext e⟩
  | ins c ns ds => exact let ⟨C, dx, vs, c1, h, k, r⟩ := h; ⟨C, dx, vs, c1, n _ h, k, r.ext e⟩
theorem RO.some {o : MO} {a : Addr} (h : RO g ι A H o a) : ∃ u, H a = Option.some u := by
  cases o with
  | lst xs => exact let ⟨vs, h, _⟩ := h; ⟨_, h⟩
  | lol xs => exact let ⟨vs, h, _⟩ := h; ⟨_, h⟩
  | dic ks ds => exact let ⟨_, h, _⟩ := h; ⟨_, h⟩
  | ins c ns ds => exact let ⟨_, _, _, _, h, _⟩ := h; ⟨_, h⟩
theorem Rel.has (r : Rel g F ι H objs) {a : Addr} (h : a ∈ ι) : ∃ u, H a = some u := by
  obtain ⟨i, hi, e⟩ := List.getElem_of_mem h
  have : i < objs.length := by rw [← r.len]; exact hi
  exact (r.at_ i a objs[i] (by rw [List.getElem?_eq_getElem hi, e]) (List.getElem?_eq_getElem this)).some
theorem Rel.fresh (r : Rel g F ι H objs) {p : Addr} (h : H p = none) : p ∉ ι := fun z => by
  obtain ⟨u, e⟩ := r.has z
  rw [h] at e; cases e
theorem Rel.freshF (r : Rel g F ι H objs) {p : Addr} (h : H p = none) : ¬ F p := fun z => by
  obtain ⟨⟨u, e⟩, _⟩ := r.out p z
  rw [h] at e; cases e
theorem Live.mem {a : Addr} (h : Live ι objs a) : a ∈ ι := let ⟨_, _, e, _⟩ := h; List.mem_of_getElem? e
theorem Rel.off (r : Rel g F ι H objs) {p : Addr} (h : H p = none) : ¬ Al F ι objs p := fun z => z.elim (r.freshF h) fun z => r.fresh h z.mem
theorem Rel.idx (r : Rel g F ι H objs) {i j : Nat} {a : Addr} (h : ι[i]? = some a) (k : ι[j]? = some a) : i = j := by
  have h1 := (List.getElem?_eq_some_iff.mp h)
  have h2 := (List.getElem?_eq_some_iff.mp k)
  exact (List.getElem_inj r.nd).mp (h1.2.trans h2.2.symm)
/-- a new thing that is not of the store -/
theorem Ext.upd_new {p : Addr} {o : HO} (h : H p = none) : Ext ι objs H ι objs (upd H p o) :=
  ⟨List.prefix_rfl, fun b u e _ => by rw [upd_ne (ne_of_none e h)]; exact e, fun _ z n => absurd z n⟩
theorem Rel.upd_new (r : Rel g F ι H objs) {p : Addr} {o : HO} (h : H p = none) : Rel g F ι (upd H p o) objs where
  nd := r.nd
  len := r.len
  at_ := fun i a ob e1 e2 => (r.at_ i a ob e1 e2).ext (Ext.upd_new h) fun u e => by rw [upd_ne (ne_of_none e h)]; exact e
  out := fun a z => by
    obtain ⟨⟨u, e⟩, n⟩ := r.out a z
    exact ⟨⟨u, by rw [upd_ne (ne_of_none e h)]; exact e⟩, n⟩
/-- a new thing of the store -/
theorem Ext.alloc (r : Rel g F ι H objs) {p : Addr} {o : HO} {m : MO} (h : H p = none) : Ext ι objs H (ι ++ [p]) (objs ++ [⟨true, m⟩]) (upd H p o) :=
  ⟨List.prefix_append _ _, fun b u e _ => by rw [upd_ne (ne_of_none e h)]; exact e, fun a z n => by
    obtain ⟨i, u, e1, e2⟩ := z
    by_cases hi : i < ι.length
    · rw [List.getElem?_append_left hi] at e1
      rw [List.getElem?_append_left (by rw [← r.len]; exact hi)] at e2
      exact absurd ⟨i, u, e1, e2⟩ n
    · have e : i = ι.length := by
        have := (List.getElem?_eq_some_iff.mp e1).1
        simp at this; omega
      subst e
      simp at e1
      rw [← e1]; exact h⟩
theorem Rel.alloc (r : Rel g F ι H objs) {p : Addr} {o : HO} {m : MO} (h : H p = none) (q : RO g (ι ++ [p]) (Al F (ι ++ [p]) (objs ++ [⟨true, m⟩])) (upd H p o) m p) : Rel g F (ι ++ [p]) (upd H p o) (objs ++ [⟨true, m⟩]) where
  nd := by
    rw [List.nodup_append]
    refine ⟨r.nd, by simp, fun a ha b hb e => ?_⟩
    rw [List.mem_singleton.mp hb] at e
    exact r.fresh h (e ▸ ha)
  len := by simp [r.len]
  at_ := fun i a ob e1 e2 => by
    by_cases hi : i < ι.length
    · rw [List.getElem?_append_left hi] at e1
      rw [List.getElem?_append_left (by rw [← r.len]; exact hi)] at e2
      exact (r.at_ i a ob e1 e2).ext (Ext.alloc r h) fun u e => by rw [upd_ne (ne_of_none e h)]; exact e
    · have e : i = ι.length := by
        have := (List.getElem?_eq_some_iff.mp e1).1
        simp at this; omega
      subst e
      simp at e1
      rw [r.len] at e2
      simp at e2
      subst e1 e2
      exact q
  out := fun a z => by
    obtain ⟨⟨u, e⟩, n⟩ := r.out a z
    refine ⟨⟨u, by rw [upd_ne (ne_of_none e h)]; exact e⟩, fun k => ?_⟩
    rcases List.mem_append.mp k with k | k
    · exact n k
    · rw [List.mem_singleton.mp k, h] at e; cases e
theorem set_get {i j : Nat} {m u : Ent} (h : (objs.set i m)[j]? = some u) : (j = i ∧ u = m) ∨ (j ≠ i ∧ objs[j]? = some u) := by
  by_cases hj : j = i
  · subst hj
    have : j < objs.length := by
      have := (List.getElem?_eq_some_iff.mp h).1
      simpa using this
    rw [List.getElem?_set_self this] at h
    exact .inl ⟨rfl, (Option.some.inj h).symm⟩
  · rw [List.getElem?_set_ne (Ne.symm hj)] at h
    exact .inr ⟨hj, h⟩
/-- a thing of the store changed -/
theorem Ext.set {i : Nat} {a : Addr} {o : HO} {m m' : MO} (r : Rel g F ι H objs) (hi : ι[i]? = some a) (ho : objs[i]? = some ⟨true, m⟩) : Ext ι objs H ι (objs.set i ⟨true, m'⟩) (upd H a o) :=
  ⟨List.prefix_rfl, fun b u e n => by rw [upd_ne (show b ≠ a from fun z => n (by rw [z]; exact ⟨i, m, hi, ho⟩))]; exact e, fun b z n => by
    obtain ⟨j, u, e1, e2⟩ := z
    rcases set_get e2 with ⟨rfl, _⟩ | ⟨hj, e2⟩
    · exact absurd ⟨j, m, e1, ho⟩ n
    · exact absurd ⟨j, u, e1, e2⟩ n⟩
theorem Rel.set (r : Rel g F ι H objs) {i : Nat} {a : Addr} {o : HO} {m m' : MO} (hi : ι[i]? = some a) (ho : objs[i]? = some ⟨true, m⟩) (q : RO g ι (Al F ι (objs.set i ⟨true, m'⟩)) (upd H a o) m' a) : Rel g F ι (upd H a o) (objs.set i ⟨true, m'⟩) where
  nd := r.nd
  len := by simp [r.len]
  at_ := fun j b ob e1 e2 => by
    rcases set_get e2 with ⟨rfl, rfl⟩ | ⟨hj, e2⟩
    · rw [hi] at e1; cases e1
      exact q
    · refine (r.at_ j b ob e1 e2).ext (Ext.set r hi ho) fun u e => ?_
      rw [upd_ne (show b ≠ a from fun z => hj (r.idx (z ▸ e1) hi))]
      exact e
  out := fun b z => by
    obtain ⟨⟨u, e⟩, n⟩ := r.out b z
    exact ⟨⟨u, by rw [upd_ne (show b ≠ a from fun k => n (k ▸ List.mem_of_getElem? hi))]; exact e⟩, n⟩
/-- a thing of the store that is not changed any more -/
theorem Ext.freeze {i : Nat} {e : Ent} (ho : objs[i]? = some e) : Ext ι objs H ι (objs.set i ⟨false, e.ob⟩) H :=
  ⟨List.prefix_rfl, fun b u e n => e, fun b z n => by
    obtain ⟨j, u, e1, e2⟩ := z
    rcases set_get e2 with ⟨rfl, k⟩ | ⟨hj, e2⟩
    · cases k
    · exact absurd ⟨j, u, e1, e2⟩ n⟩
theorem Rel.freeze (r : Rel g F ι H objs) {i : Nat} {e : Ent} (ho : objs[i]? = some e) : Rel g F ι H (objs.set i ⟨false, e.ob⟩) where
  nd := r.nd
  len := by simp [r.len]
  at_ := fun j b ob e1 e2 => by
    rcases set_get e2 with ⟨rfl, rfl⟩ | ⟨hj, e2⟩
    · exact (r.at_ j b e e1 ho).ext (Ext.freeze ho) fun u e => e
    · exact (r.at_ j b ob e1 e2).ext (Ext.freeze ho) fun u e => e
  out := r.out
theorem Rel.dead (r : Rel g F ι H objs) {i : Nat} {a : Addr} {m : MO} (hi : ι[i]? = some a) (ho : objs[i]? = some ⟨false, m⟩) : ¬ Al F ι objs a := fun z => by
  rcases z with z | ⟨j, u, e1, e2⟩
  · exact (r.out a z).2 (List.mem_of_getElem? hi)
  · have := r.idx hi e1
    subst this
    rw [ho] at e2; cases e2
end
end RR

set_option maxHeartbeats 4000000
namespace RR
open PySem PySem.Spec PyProof.Rows L2

/-! ### what is wanted behind an evaluation -/
def Post (g : GE) (F : Addr → Prop) (ι : List Addr) (objs : Objs) (H : Hp) (r : R W) (Q : VK) : Prop :=
  match r with
  | .ok w objs' => ∀ v ι' H', Rel g F ι' H' objs' → Ext ι objs H ι' objs' H' → RW g ι' (Al F ι' objs') H' w v → Q v H'
  | .exc _ _ => False
  | .stuck => False
/-- the same of lists of things -/
def RWs (g : GE) (ι : List Addr) (A : Addr → Prop) (H : Hp) : List W → List V → Prop := Paired (RW g ι A H)
def PostL (g : GE) (F : Addr → Prop) (ι : List Addr) (objs : Objs) (H : Hp) (r : R (List W)) (Q : List V → Hp → Prop) : Prop :=
  match r with
  | .ok w objs' => ∀ v ι' H', Rel g F ι' H' objs' → Ext ι objs H ι' objs' H' → RWs g ι' (Al F ι' objs') H' w v → Q v H'
  | .exc _ _ => False
  | .stuck => False
section
variable {g : GE} {F : Addr → Prop} {ι ι' ι1 ι2 : List Addr} {H H' H1 H2 : Hp} {objs objs' objs1 objs2 : Objs} {A A' : Addr → Prop}
theorem Post.at {r : R W} {Q : VK} (p : Post g F ι objs H r Q) (e : Ext ι objs H ι1 objs1 H1) : Post g F ι1 objs1 H1 r Q := by
  cases r with
  | ok w o => exact fun v ι' H' rl ex rw => p v ι' H' rl (e.trans ex) rw
  | exc _ _ => exact p
  | stuck => exact p
theorem PostL.at {r : R (List W)} {Q : List V → Hp → Prop} (p : PostL g F ι objs H r Q) (e : Ext ι objs H ι1 objs1 H1) : PostL g F ι1 objs1 H1 r Q := by
  cases r with
  | ok w o => exact fun v ι' H' rl ex rw => p v ι' H' rl (e.trans ex) rw
  | exc _ _ => exact p
  | stuck => exact p
theorem Post.bind {α : Type} {r : R α} {f : α → Objs → R W} {Q : VK} (p : Post g F ι objs H (r.bind f) Q) : ∃ a o, r = .ok a o ∧ Post g F ι objs H (f a o) Q := by
  cases r with
  | ok w o => exact ⟨w, o, rfl, p⟩
  | exc _ _ => exact p.elim
  | stuck => exact p.elim
theorem PostL.bind {α : Type} {r : R α} {f : α → Objs → R (List W)} {Q : List V → Hp → Prop} (p : PostL g F ι objs H (r.bind f) Q) : ∃ a o, r = .ok a o ∧ PostL g F ι objs H (f a o) Q := by
  cases r with
  | ok w o => exact ⟨w, o, rfl, p⟩
  | exc _ _ => exact p.elim
  | stuck => exact p.elim
theorem Post.ok {w : W} {Q : VK} {v : V} (p : Post g F ι objs H (.ok w objs) Q) (r : Rel g F ι H objs) (h : RW g ι (Al F ι objs) H w v) : Q v H := p v ι H r .refl h
/-- a value that is no thing of the heap -/
theorem Post.flat {d : D} {Q : VK} {v : V} (p : Post g F ι objs H (.ok (.v d) objs) Q) (r : Rel g F ι H objs) (h : RV g (Al F ι objs) H d v) : Q v H := p v ι H r .refl h
/-- a new thing of the heap -/
theorem Post.fresh {d : D} {Q : VK} {p : Addr} {o : HO} (q : Post g F ι objs H (.ok (.v d) objs) Q) (r : Rel g F ι H objs) (h : H p = none) (k : RV g (Al F ι objs) (upd H p o) d (.ref p)) : Q (.ref p) (upd H p o) :=
  q _ ι _ (r.upd_new h) (Ext.upd_new h) k
theorem RVs.up {p : Addr} {o : HO} {ds : List D} {vs : List V} (h : RVs g (Al F ι objs) H ds vs) (n : H p = none) : RVs g (Al F ι objs) (upd H p o) ds vs := h.ext (Ext.upd_new n)
theorem Post.freshT {ds : List D} {vs : List V} {Q : VK} {p : Addr} (q : Post g F ι objs H (.ok (.v (.tup ds)) objs) Q) (r : Rel g F ι H objs) (h : H p = none) (k : RVs g (Al F ι objs) H ds vs) : Q (.ref p) (upd H p (.tup vs)) :=
  q.fresh r h (by simp only [RV]; exact ⟨p, vs, rfl, r.off h, upd_same, k.up h⟩)
theorem Post.freshL {ds : List D} {vs : List V} {Q : VK} {p : Addr} (q : Post g F ι objs H (.ok (.v (.lst ds)) objs) Q) (r : Rel g F ι H objs) (h : H p = none) (k : RVs g (Al F ι objs) H ds vs) : Q (.ref p) (upd H p (.lst vs)) :=
  q.fresh r h (by simp only [RV]; exact ⟨p, vs, rfl, r.off h, upd_same, k.up h⟩)
/-- a new list of the store -/
theorem Post.freshM {ds : List D} {vs : List V} {Q : VK} {p : Addr} (q : Post g F ι objs H (.ok (.o objs.length) (objs ++ [⟨true, .lst ds⟩])) Q) (r : Rel g F ι H objs) (h : H p = none) (k : RVs g (Al F ι objs) H ds vs) : Q (.ref p) (upd H p (.lst vs)) := by
  refine q _ (ι ++ [p]) _ (r.alloc h ⟨vs, upd_same, k.ext (Ext.alloc r h)⟩) (Ext.alloc r h) ⟨p, ?_, rfl⟩
  rw [← r.len]; simp
end

/-! ### reading sequences -/
/-- the items of a list or tuple, of a list of the store with plain items -/
def seqW (objs : Objs) : W → Option (List D)
  | .v (.tup xs) => some xs
  | .v (.lst xs) => some xs
  | .v (.scr xs) => some xs
  | .o i => match objs[i]? with
    | some ⟨_, .lst xs⟩ => some xs
    | _ => none
  | _ => none
/-- .. a tracked list -/
def lstW (objs : Objs) : W → Option (List D)
  | .v (.lst xs) => some xs
  | .o i => match objs[i]? with
    | some ⟨_, .lst xs⟩ => some xs
    | _ => none
  | _ => none
section
variable {g : GE} {F : Addr → Prop} {ι ι' ι1 ι2 : List Addr} {H H' H1 H2 : Hp} {objs objs' objs1 objs2 : Objs} {A A' : Addr → Prop}
theorem lstW_ok {w : W} {v : V} {xs : List D} (r : Rel g F ι H objs) (h : RW g ι (Al F ι objs) H w v) (e : lstW objs w = some xs) : ∃ a vs, v = .ref a ∧ H a = some (.lst vs) ∧ RVs g (Al F ι objs) H xs vs := by
  cases w with
  | v d =>
    cases d <;> simp only [lstW, Option.some.injEq, reduceCtorEq] at e
    subst e
    simp only [RW, RV] at h
    obtain ⟨a, vs, h1, h2, h3, h4⟩ := h
    exact ⟨a, vs, h1, h3, h4⟩
  | o i =>
    obtain ⟨a, h1, h2⟩ := h
    simp only [lstW] at e
    split at e
    · rename_i b ys hs
      cases e
      obtain ⟨vs, h3, h4⟩ := r.at_ i a _ h1 hs
      exact ⟨a, vs, h2, h3, h4⟩
    · cases e
theorem seqW_ok {w : W} {v : V} {xs : List D} (r : Rel g F ι H objs) (h : RW g ι (Al F ι objs) H w v) (e : seqW objs w = some xs) : ∃ a vs, v = .ref a ∧ (SqL g.K H a vs ∨ SqT g.K H a vs) ∧ RVs g (Al F ι objs) H xs vs := by
  cases w with
  | v d =>
    cases d <;> simp only [seqW, Option.some.injEq, reduceCtorEq] at e
    · subst e
      simp only [RW, RV] at h
      obtain ⟨a, vs, h1, h2, h3, h4⟩ := h
      exact ⟨a, vs, h1, .inr (SqT.of h3), h4⟩
    · subst e
      simp only [RW, RV] at h
      obtain ⟨a, vs, h1, h2, h3, h4⟩ := h
      exact ⟨a, vs, h1, .inl (SqL.of h3), h4⟩
    · subst e
      simp only [RW, RV] at h
      obtain ⟨a, vs, h1, h2, h4⟩ := h
      refine ⟨a, vs, h1, .inl ?_, h4⟩
      rcases h2 with ⟨_, h2⟩ | h2
      · exact .inl h2
      · exact .inr h2
  | o i =>
    have e' : lstW objs (.o i) = some xs := e
    obtain ⟨a, vs, h1, h2, h3⟩ := lstW_ok r h e'
    exact ⟨a, vs, h1, .inl (SqL.of h2), h3⟩
end

/-! ### data that are compared as a whole -/
mutual
def py : D → PyData
  | .non => .none
  | .bl b => .bool b
  | .int i => .int i
  | .str x => .str x
  | .tup xs => .tuple (pys xs)
  | .lst xs => .list (pys xs)
  | .scr xs => .list (pys xs)
  | .dic _ _ => .dict []
  | .ins _ _ _ => .dict []
  | .ty _ => .dict []
  | .glo _ => .dict []
def pys : List D → List PyData
  | [] => []
  | d :: ds => py d :: pys ds
end
/-- a thing as data -/
def pyW (objs : Objs) : W → PyData
  | .v d => py d
  | .o i => match objs[i]? with
    | some ⟨_, .lst xs⟩ => .list (pys xs)
    | _ => .dict []
section
variable {g : GE} {F : Addr → Prop} {ι ι' ι1 ι2 : List Addr} {H H' H1 H2 : Hp} {objs objs' objs1 objs2 : Objs} {A A' : Addr → Prop}
mutual
theorem RV.dp : ∀ (d : D) (v : V), RV g A H d v → (py d).canLay0 = true → Dp g.K H v (py d)
  | .non, v, h, c => by simp only [RV] at h; subst h; exact .non
  | .bl b, v, h, c => by simp only [RV] at h; subst h; exact .bl b
  | .int i, v, h, c => by simp only [RV] at h; subst h; exact .int i
  | .str x, v, h, c => by simp only [RV] at h; subst h; exact .str x
  | .tup xs, v, h, c => by
    simp only [RV] at h
    obtain ⟨a, vs, h1, h2, h3, h4⟩ := h
    subst h1
    simp only [py] at c ⊢
    exact .tup (SqT.of h3) (RVs.dp xs vs h4 (by simpa [PyData.canLay0] using c))
  | .lst xs, v, h, c => by
    simp only [RV] at h
    obtain ⟨a, vs, h1, h2, h3, h4⟩ := h
    subst h1
    simp only [py] at c ⊢
    exact .lst (SqL.of h3) (RVs.dp xs vs h4 (by simpa [PyData.canLay0] using c))
  | .scr xs, v, h, c => by
    simp only [RV] at h
    obtain ⟨a, vs, h1, h2, h4⟩ := h
    subst h1
    simp only [py] at c ⊢
    refine .lst ?_ (RVs.dp xs vs h4 (by simpa [PyData.canLay0] using c))
    rcases h2 with ⟨_, h2⟩ | h2
    · exact .inl h2
    · exact .inr h2
  | .dic _ _, v, h, c => by simp [py, PyData.canLay0] at c
  | .ins _ _ _, v, h, c => by simp [py, PyData.canLay0] at c
  | .ty _, v, h, c => by simp [py, PyData.canLay0] at c
  | .glo _, v, h, c => by simp [py, PyData.canLay0] at c
theorem RVs.dp : ∀ (ds : List D) (vs : List V), RVs g A H ds vs → PyData.canLayAll0 (pys ds) = true → DpAll g.K H vs (pys ds)
  | [], vs, h, c => by simp only [RVs] at h; subst h; exact .nil
  | d :: ds, vs, h, c => by
    simp only [RVs] at h
    obtain ⟨v, r, rfl, h2, h3⟩ := h
    simp only [pys, PyData.canLayAll0, Bool.and_eq_true] at c ⊢
    exact .cons (RV.dp d v h2 c.1) (RVs.dp ds r h3 c.2)
end
theorem RW.dp {w : W} {v : V} (r : Rel g F ι H objs) (h : RW g ι (Al F ι objs) H w v) (c : (pyW objs w).canLay0 = true) : Dp g.K H v (pyW objs w) := by
  cases w with
  | v d => exact RV.dp d v h c
  | o i =>
    obtain ⟨a, h1, rfl⟩ := h
    simp only [pyW] at c ⊢
    split at c
    · rename_i b xs hs
      obtain ⟨vs, h3, h4⟩ := r.at_ i a _ h1 hs
      exact .lst (SqL.of h3) (RVs.dp xs vs h4 (by simpa [PyData.canLay0] using c))
    · simp [PyData.canLay0] at c
end
end RR

set_option maxHeartbeats 4000000
namespace RR
open PySem PySem.Spec PyProof.Rows L2
abbrev gX (X : Cx) : GE := ⟨X.K, X.mg⟩
def rW2 (g : GE) (f : W → W → Objs → R W) : R2 := fun x y H Q => ∃ F ι objs w1 w2, Rel g F ι H objs ∧ RW g ι (Al F ι objs) H w1 x ∧ RW g ι (Al F ι objs) H w2 y ∧ Post g F ι objs H (f w1 w2 objs) Q
def rW1 (g : GE) (f : W → Objs → R W) : V → Hp → VK → Prop := fun x H Q => ∃ F ι objs w1, Rel g F ι H objs ∧ RW g ι (Al F ι objs) H w1 x ∧ Post g F ι objs H (f w1 objs) Q

/-! ### + -/
def addW (a b : W) (o : Objs) : R W :=
  match a, b with
  | .v (.int i), .v (.int j) => .ok (.v (.int (i + j))) o
  | .v (.str x), .v (.str y) => if x.length + y.length ≤ sizeLine then .ok (.v (.str (x ++ y))) o else .stuck
  | .v (.tup xs), .v (.tup ys) => if xs.length + ys.length ≤ sizeLine then .ok (.v (.tup (xs ++ ys))) o else .stuck
  | a, b => match lstW o a, lstW o b with
    | some xs, some ys => if xs.length + ys.length ≤ sizeLine then .ok (.v (.lst (xs ++ ys))) o else .stuck
    | _, _ => .stuck
section
variable {X : Cx}
theorem Post.not_stuck {g : GE} {F : Addr → Prop} {ι : List Addr} {objs : Objs} {H : Hp} {Q : VK} (p : Post g F ι objs H .stuck Q) : False := p
theorem or_add : OpR X (binaryOp .Add) (rW2 (gX X) addW) := by
  intro pins s σ H x y v u Q I rx ry ⟨F, ι, objs, w1, w2, rel, h1, h2, p⟩
  unfold addW at p
  split at p
  · simp only [RW, RV] at h1 h2
    subst h1 h2
    exact op_add pins s σ H _ _ v u Q I rx ry ⟨_, _, rfl, rfl, p.flat rel rfl⟩
  · split at p
    · rename_i hz
      simp only [RW, RV] at h1 h2
      subst h1 h2
      exact op_add_str pins s σ H _ _ v u Q I rx ry ⟨_, _, rfl, rfl, hz, p.flat rel rfl⟩
    · exact p.elim
  · split at p
    · rename_i hz
      simp only [RW, RV] at h1 h2
      obtain ⟨a, vs, rfl, n1, e1, k1⟩ := h1
      obtain ⟨b, us, rfl, n2, e2, k2⟩ := h2
      refine op_catA pins s σ H _ _ v u Q I rx ry ⟨a, b, vs, us, rfl, rfl, SqT.of e1, SqT.of e2, ?_, fun e => ?_, fun _ e => ?_, fun _ _ q hq => ?_⟩
      · rw [← k1.length, ← k2.length]; exact hz
      · subst e
        have := k1.length
        rw [List.length_nil, List.length_eq_zero_iff] at this
        subst this
        refine p.flat rel ?_
        simp only [List.nil_append, RV]
        exact ⟨b, us, rfl, n2, e2, k2⟩
      · subst e
        have := k2.length
        rw [List.length_nil, List.length_eq_zero_iff] at this
        subst this
        refine p.flat rel ?_
        simp only [List.append_nil, RV]
        exact ⟨a, vs, rfl, n1, e1, k1⟩
      · exact p.freshT rel hq (k1.append k2)
    · exact p.elim
  · split at p
    · rename_i l1 l2
      split at p
      · rename_i hz
        obtain ⟨a, vs, rfl, e1, k1⟩ := lstW_ok rel h1 l1
        obtain ⟨b, us, rfl, e2, k2⟩ := lstW_ok rel h2 l2
        exact op_cat pins s σ H _ _ v u Q I rx ry ⟨a, b, vs, us, rfl, rfl, e1, e2, by rw [← k1.length, ← k2.length]; exact hz, fun q hq => p.freshL rel hq (k1.append k2)⟩
      · exact p.elim
    · exact p.elim

/-! ### - * // % ** -/
def subW (a b : W) (o : Objs) : R W :=
  match a, b with
  | .v (.int i), .v (.int j) => .ok (.v (.int (i - j))) o
  | _, _ => .stuck
theorem or_sub : OpR X (binaryOp .Sub) (rW2 (gX X) subW) := by
  intro pins s σ H x y v u Q I rx ry ⟨F, ι, objs, w1, w2, rel, h1, h2, p⟩
  unfold subW at p
  split at p
  · simp only [RW, RV] at h1 h2
    subst h1 h2
    exact op_sub pins s σ H _ _ v u Q I rx ry ⟨_, _, rfl, rfl, p.flat rel rfl⟩
  · exact p.elim
instance (i j : Int) : Decidable (CMul i j) := by unfold CMul; infer_instance
instance (i j : Int) : Decidable (CMulX i j) := by unfold CMulX; infer_instance
instance (i j : Int) : Decidable (CDiv i j) := by unfold CDiv; infer_instance
instance (i j : Int) : Decidable (CDivW i j) := by unfold CDivW; infer_instance
instance (i j : Int) : Decidable (CPow i j) := by unfold CPow; infer_instance
def repS (x : Str) (n : Nat) : Str := ⟨(List.replicate n x.cps.toList).flatten.toArray⟩
def mulW (a b : W) (o : Objs) : R W :=
  match a, b with
  | .v (.int i), .v (.int j) => if CMul i j ∨ CMulX i j then .ok (.v (.int (i * j))) o else .stuck
  | .v (.str x), .v (.int k) => if 0 ≤ k ∧ k ≤ 1000000 ∧ x.length * k.toNat ≤ sizeLine then .ok (.v (.str (repS x k.toNat))) o else .stuck
  | .v (.tup xs), .v (.int k) => if xs ≠ [] ∧ 1 ≤ k ∧ k ≤ 1000 ∧ xs.length ≤ 1000 then .ok (.v (.tup (List.replicate k.toNat xs).flatten)) o else .stuck
  | a, .v (.int k) => match lstW o a with
    | some xs => if -(2 ^ 63) ≤ k ∧ k < 2 ^ 63 ∧ xs.length * k.toNat ≤ sizeLine then .ok (.v (.lst (List.replicate k.toNat xs).flatten)) o else .stuck
    | _ => .stuck
  | _, _ => .stuck
theorem repS_length (x : Str) (n : Nat) : (repS x n).length = x.length * n := by
  unfold repS Str.length
  induction n with
  | zero => simp
  | succ n ih =>
    simp only [List.size_toArray] at ih ⊢
    rw [List.replicate_succ, List.flatten_cons, List.length_append, ih, Nat.mul_succ]
    simp only [Array.length_toList]
    omega
theorem foldl_app : ∀ (n : Nat) (x acc : Array Nat), (List.replicate n x).foldl (· ++ ·) acc = acc ++ (List.replicate n x.toList).flatten.toArray
  | 0, x, acc => by simp
  | n + 1, x, acc => by
    rw [List.replicate_succ, List.foldl_cons, foldl_app n x, List.replicate_succ, List.flatten_cons]
    apply Array.ext'
    simp
theorem tuple_mul1 (l : Addr) (items : Array Value) (n : Nat) (dd : Option Addr) (sl : Array (Option Value)) (u : Tok) :
    Meets (Builtin.«tuple.__mul__» ⟨[.ref l, .int 1 u], []⟩) (fun _ R s => s.heap.get? l = some { cls := .type "tuple", dict := dd, data := .seq items n, slots := sl } ∧ R (.ok (.ret (Value.ref l))) s) :=
  .of_wp fun prog w A R s h => by
    obtain ⟨hp, g, d, tk, os⟩ := s
    obtain ⟨hl, h⟩ := h
    have f1 := AutoSeq1.idx_int
    wp_walk using wpAny_loadPart' hl
    exact ⟨_, rfl, h⟩
theorem op_repT1 : OpR X (binaryOp .Mult) (fun x y H Q => ∃ l xs, x = .ref l ∧ y = .int 1 ∧ SqT X.K H l xs ∧ Q (.ref l) H) := by
  intro pins s σ H x y v u Q I rx ry h
  obtain ⟨l, xs, rfl, rfl, hT, q⟩ := h
  cases rx
  obtain ⟨t, rfl⟩ := ry
  obtain ⟨its, r, ⟨⟨cls, dd, data, sl⟩, ho, hc, n, hd⟩, hs⟩ := I.tuple hT
  simp only at hc hd
  subst hc hd
  refine wpAny_binaryOp_repeat_ref (T := "tuple") (U := "int") (by decide) ⟨_, ho, rfl⟩ (fun s' => typeIs_int s' 1 t) noFill_tuple_mul F.fills_int_mul F.slot_int_rmul repeat_tuple F.slot_int_index.lookup
    (call_meets F.slot_int_rmul (typeIs_int s 1 t) F.entry_int_rmul (F.args_int_rmul_2 _ _) (int_rmul_tuple 1 t l its.toArray n dd sl)
      ⟨ho, rfl, ⟨_, ho, rfl⟩, call_meets F.slot_tuple_mul ⟨_, ho, rfl⟩ F.entry_tuple_mul (F.args_tuple_mul_2 _ _) (tuple_mul1 l its.toArray n dd sl t) ⟨ho, ?_⟩⟩)
  exact ⟨.ref l, H, I, rfl, q⟩
theorem op_mul_str : OpR X (binaryOp .Mult) (fun x y H Q => ∃ z k, x = .str z ∧ y = .int k ∧ (0 ≤ k ∧ k ≤ 1000000 ∧ z.length * k.toNat ≤ sizeLine) ∧ Q (.str (repS z k.toNat)) H) := by
  intro pins s σ H x y v u Q I rx ry h
  obtain ⟨z, k, rfl, rfl, ⟨h0, h1, h2⟩, q⟩ := h
  obtain ⟨t, rfl⟩ := rx
  obtain ⟨t', rfl⟩ := ry
  refine P.mul_str ?_ (fun h3 h4 => ?_) (fun h3 h4 => ?_) ?_
  · rw [decide_eq_false (by omega), decide_eq_false (by omega)]; rfl
  · have : ((2 ^ 63 - 1) / k : Int) ≥ 1000000000 := by
      rw [ge_iff_le, Int.le_ediv_iff_mul_le (by omega)]
      have : 1000000000 * k ≤ 1000000000 * 1000000 := Int.mul_le_mul_of_nonneg_left h1 (by decide)
      omega
    have h5 : z.length ≤ sizeLine := by
      refine Nat.le_trans ?_ h2
      exact Nat.le_mul_of_pos_right _ (by omega)
    rw [sizeLine_eq] at h5
    omega
  · unfold Builtin.Str.tooLong
    rw [decide_eq_false]
    omega
  · by_cases h3 : k < 1
    · rw [if_pos h3]
      have : k = 0 := by omega
      subst this
      exact ⟨by decide, .str _, H, I.tok _, ⟨_, rfl⟩, q⟩
    · rw [if_neg h3]
      by_cases h4 : (k == 1 || z.length == 0) = true
      · rw [if_pos h4]
        have e : repS z k.toNat = z := by
          unfold repS
          have : k = 1 ∨ z.length = 0 := by simpa using h4
          rcases this with rfl | h5
          · simp
          · have : z.cps.toList = [] := by
              apply List.eq_nil_of_length_eq_zero
              simpa [Str.length] using h5
            have e2 : z.cps = #[] := by simpa using this
            cases z with | mk c => simp at e2; subst e2; simp
        rw [e] at q
        exact ⟨.str _, H, I, ⟨_, rfl⟩, q⟩
      · rw [if_neg h4]
        have e : (⟨(List.replicate k.toNat z.cps).foldl (· ++ ·) #[]⟩ : Str) = repS z k.toNat := by
          rw [foldl_app]; unfold repS; simp
        rw [e]
        refine ⟨?_, .str _, H, I.tok _, ⟨_, rfl⟩, q⟩
        rw [repS_length]; exact h2
theorem or_mul : OpR X (binaryOp .Mult) (rW2 (gX X) mulW) := by
  intro pins s σ H x y v u Q I rx ry ⟨F, ι, objs, w1, w2, rel, h1, h2, p⟩
  unfold mulW at p
  split at p
  · split at p
    · rename_i hc
      simp only [RW, RV] at h1 h2
      subst h1 h2
      rcases hc with hc | hc
      · exact op_mul pins s σ H _ _ v u Q I rx ry ⟨_, _, rfl, rfl, hc, p.flat rel rfl⟩
      · exact op_mulX pins s σ H _ _ v u Q I rx ry ⟨_, _, rfl, rfl, hc, p.flat rel rfl⟩
    · exact p.elim
  · split at p
    · rename_i hc
      simp only [RW, RV] at h1 h2
      subst h1 h2
      exact op_mul_str pins s σ H _ _ v u Q I rx ry ⟨_, _, rfl, rfl, hc, p.flat rel rfl⟩
    · exact p.elim
  · split at p
    · rename_i hc
      obtain ⟨c1, c2, c3, c4⟩ := hc
      simp only [RW, RV] at h1 h2
      subst h2
      obtain ⟨a, vs, rfl, n1, e1, k1⟩ := h1
      rename_i xs k
      by_cases hk : k = 1
      · subst hk
        refine op_repT1 pins s σ H _ _ v u Q I rx ry ⟨a, vs, rfl, rfl, SqT.of e1, p.flat rel ?_⟩
        simp only [Int.toNat_one, List.replicate_one, List.flatten_singleton, RV]
        exact ⟨a, vs, rfl, n1, e1, k1⟩
      · refine op_repT pins s σ H _ _ v u Q I rx ry ⟨a, k, vs, rfl, rfl, SqT.of e1, ?_, by omega, c3, by rw [← k1.length]; exact c4, fun q hq => p.freshT rel hq (k1.rep _)⟩
        rintro rfl
        have := k1.length
        rw [List.length_nil, List.length_eq_zero_iff] at this
        exact c1 this
    · exact p.elim
  · split at p
    · rename_i l1
      split at p
      · rename_i hc
        simp only [RW, RV] at h2
        subst h2
        obtain ⟨a, vs, rfl, e1, k1⟩ := lstW_ok rel h1 l1
        exact op_rep pins s σ H _ _ v u Q I rx ry ⟨a, _, vs, rfl, rfl, e1, hc.1, hc.2.1, by rw [← k1.length]; exact hc.2.2, fun q hq => p.freshL rel hq (k1.rep _)⟩
      · exact p.elim
    · exact p.elim
  · exact p.elim
def fdivW (a b : W) (o : Objs) : R W :=
  match a, b with
  | .v (.int i), .v (.int j) => if CDiv i j ∨ CDivW i j then .ok (.v (.int (i / j))) o else .stuck
  | _, _ => .stuck
theorem or_fdiv : OpR X (binaryOp .FloorDiv) (rW2 (gX X) fdivW) := by
  intro pins s σ H x y v u Q I rx ry ⟨F, ι, objs, w1, w2, rel, h1, h2, p⟩
  unfold fdivW at p
  split at p
  · split at p
    · rename_i hc
      simp only [RW, RV] at h1 h2
      subst h1 h2
      rcases hc with hc | hc
      · exact op_fdiv pins s σ H _ _ v u Q I rx ry ⟨_, _, rfl, rfl, hc, p.flat rel rfl⟩
      · exact op_fdivW pins s σ H _ _ v u Q I rx ry ⟨_, _, rfl, rfl, hc, p.flat rel rfl⟩
    · exact p.elim
  · exact p.elim
def modW (a b : W) (o : Objs) : R W :=
  match a, b with
  | .v (.int i), .v (.int j) => if 0 < j then .ok (.v (.int (i % j))) o else .stuck
  | _, _ => .stuck
theorem or_mod : OpR X (binaryOp .Mod) (rW2 (gX X) modW) := by
  intro pins s σ H x y v u Q I rx ry ⟨F, ι, objs, w1, w2, rel, h1, h2, p⟩
  unfold modW at p
  split at p
  · split at p
    · rename_i hc
      simp only [RW, RV] at h1 h2
      subst h1 h2
      exact op_mod pins s σ H _ _ v u Q I rx ry ⟨_, _, rfl, rfl, hc, p.flat rel rfl⟩
    · exact p.elim
  · exact p.elim
def powW (a b : W) (o : Objs) : R W :=
  match a, b with
  | .v (.int i), .v (.int j) => if CPow i j then .ok (.v (.int (i ^ j.toNat))) o else .stuck
  | _, _ => .stuck
theorem or_pow : OpR X (binaryOp .Pow) (rW2 (gX X) powW) := by
  intro pins s σ H x y v u Q I rx ry ⟨F, ι, objs, w1, w2, rel, h1, h2, p⟩
  unfold powW at p
  split at p
  · split at p
    · rename_i hc
      simp only [RW, RV] at h1 h2
      subst h1 h2
      exact op_pow pins s σ H _ _ v u Q I rx ry ⟨_, _, rfl, rfl, hc, p.flat rel rfl⟩
    · exact p.elim
  · exact p.elim

/-! ### comparisons -/
def eqv2 (a b : W) (o : Objs) : Option Bool :=
  match a, b with
  | .v (.int i), .v (.int j) => some (decide (i = j))
  | .v (.str x), .v (.str y) => some (decide (x = y))
  | a, b => if SeqAt.shaped (pyW o a) = true ∧ SeqAt.shaped (pyW o b) = true then some (PyData.eqv (pyW o a) (pyW o b)) else none
def eqW (a b : W) (o : Objs) : R W := match eqv2 a b o with | some c => .ok (.v (.bl c)) o | none => .stuck
def neW (a b : W) (o : Objs) : R W := match eqv2 a b o with | some c => .ok (.v (.bl (!c))) o | none => .stuck
theorem canLay_sh {d : PyData} (h : SeqAt.shaped d = true) : d.canLay0 = true := SeqAt.canLay_of_shaped h
theorem or_eq (hu : X.A.units + 64 < cLine) : OpR X (compareOp .Eq) (rW2 (gX X) eqW) := by
  intro pins s σ H x y v u Q I rx ry ⟨F, ι, objs, w1, w2, rel, h1, h2, p⟩
  unfold eqW at p
  split at p
  · rename_i c hc
    unfold eqv2 at hc
    split at hc
    · simp only [RW, RV] at h1 h2
      subst h1 h2
      refine op_eq pins s σ H _ _ v u Q I rx ry ⟨rfl, p.flat rel ?_⟩
      simp only [RV]; cases hc; rw [dec_int]; rw [Bool.beq_eq_decide_eq]
    · simp only [RW, RV] at h1 h2
      subst h1 h2
      refine op_eq pins s σ H _ _ v u Q I rx ry ⟨rfl, p.flat rel ?_⟩
      simp only [RV]; cases hc; rw [dec_str]; rw [Bool.beq_eq_decide_eq]
    · split at hc
      · rename_i hs
        cases hc
        exact op_eqD hu pins s σ H _ _ v u Q I rx ry ⟨_, _, h1.dp rel (canLay_sh hs.1), h2.dp rel (canLay_sh hs.2), hs.1, hs.2, p.flat rel rfl⟩
      · cases hc
  · exact p.elim
theorem or_ne (hu : X.A.units + 64 < cLine) : OpR X (compareOp .NotEq) (rW2 (gX X) neW) := by
  intro pins s σ H x y v u Q I rx ry ⟨F, ι, objs, w1, w2, rel, h1, h2, p⟩
  unfold neW at p
  split at p
  · rename_i c hc
    unfold eqv2 at hc
    split at hc
    · simp only [RW, RV] at h1 h2
      subst h1 h2
      refine op_ne pins s σ H _ _ v u Q I rx ry ⟨rfl, p.flat rel ?_⟩
      simp only [RV]; cases hc; rw [dec_int]; rw [Bool.beq_eq_decide_eq]
    · simp only [RW, RV] at h1 h2
      subst h1 h2
      refine op_ne pins s σ H _ _ v u Q I rx ry ⟨rfl, p.flat rel ?_⟩
      simp only [RV]; cases hc; rw [dec_str]; rw [Bool.beq_eq_decide_eq]
    · split at hc
      · rename_i hs
        cases hc
        exact op_neD hu pins s σ H _ _ v u Q I rx ry ⟨_, _, h1.dp rel (canLay_sh hs.1), h2.dp rel (canLay_sh hs.2), hs.1, hs.2, p.flat rel rfl⟩
      · cases hc
  · exact p.elim
def ltW (a b : W) (o : Objs) : R W :=
  match a, b with
  | .v (.int i), .v (.int j) => .ok (.v (.bl (decide (i < j)))) o
  | .v (.str x), .v (.str y) => .ok (.v (.bl (decide (x.cps.toList < y.cps.toList)))) o
  | _, _ => .stuck
def leW (a b : W) (o : Objs) : R W :=
  match a, b with
  | .v (.int i), .v (.int j) => .ok (.v (.bl (decide (i ≤ j)))) o
  | _, _ => .stuck
def gtW (a b : W) (o : Objs) : R W :=
  match a, b with
  | .v (.int i), .v (.int j) => .ok (.v (.bl (decide (j < i)))) o
  | _, _ => .stuck
def geW (a b : W) (o : Objs) : R W :=
  match a, b with
  | .v (.int i), .v (.int j) => .ok (.v (.bl (decide (j ≤ i)))) o
  | _, _ => .stuck
theorem or_lt : OpR X (compareOp .Lt) (rW2 (gX X) ltW) := by
  intro pins s σ H x y v u Q I rx ry ⟨F, ι, objs, w1, w2, rel, h1, h2, p⟩
  unfold ltW at p
  split at p
  · simp only [RW, RV] at h1 h2
    subst h1 h2
    exact op_lt pins s σ H _ _ v u Q I rx ry ⟨_, _, rfl, rfl, p.flat rel rfl⟩
  · simp only [RW, RV] at h1 h2
    subst h1 h2
    exact op_lt_str pins s σ H _ _ v u Q I rx ry ⟨_, _, rfl, rfl, p.flat rel rfl⟩
  · exact p.elim
theorem or_le : OpR X (compareOp .LtE) (rW2 (gX X) leW) := by
  intro pins s σ H x y v u Q I rx ry ⟨F, ι, objs, w1, w2, rel, h1, h2, p⟩
  unfold leW at p
  split at p
  · simp only [RW, RV] at h1 h2
    subst h1 h2
    exact op_le pins s σ H _ _ v u Q I rx ry ⟨_, _, rfl, rfl, p.flat rel rfl⟩
  · exact p.elim
theorem or_gt : OpR X (compareOp .Gt) (rW2 (gX X) gtW) := by
  intro pins s σ H x y v u Q I rx ry ⟨F, ι, objs, w1, w2, rel, h1, h2, p⟩
  unfold gtW at p
  split at p
  · simp only [RW, RV] at h1 h2
    subst h1 h2
    exact op_gt pins s σ H _ _ v u Q I rx ry ⟨_, _, rfl, rfl, p.flat rel rfl⟩
  · exact p.elim
theorem or_ge : OpR X (compareOp .GtE) (rW2 (gX X) geW) := by
  intro pins s σ H x y v u Q I rx ry ⟨F, ι, objs, w1, w2, rel, h1, h2, p⟩
  unfold geW at p
  split at p
  · simp only [RW, RV] at h1 h2
    subst h1 h2
    exact op_ge pins s σ H _ _ v u Q I rx ry ⟨_, _, rfl, rfl, p.flat rel rfl⟩
  · exact p.elim
/-! ### is None, in -/
def isW (a b : W) (o : Objs) : R W :=
  match a, b with
  | .v .non, .v .non => .ok (.v (.bl true)) o
  | _, .v .non => .ok (.v (.bl false)) o
  | _, _ => .stuck
def isnW (a b : W) (o : Objs) : R W :=
  match a, b with
  | .v .non, .v .non => .ok (.v (.bl false)) o
  | _, .v .non => .ok (.v (.bl true)) o
  | _, _ => .stuck
theorem RW.not_non {g : GE} {ι : List Addr} {A : Addr → Prop} {H : Hp} {w : W} {v : V} (h : RW g ι A H w v) (n : w ≠ .v .non) : v ≠ .non := by
  rintro rfl
  cases w with
  | v d =>
    cases d <;> simp only [RW, RV] at h
    all_goals first
      | exact absurd rfl n
      | (obtain ⟨a, h⟩ := h; simp at h)
      | cases h
  | o i => obtain ⟨a, _, e⟩ := h; cases e
theorem or_is : OpR X (compareOp .Is) (rW2 (gX X) isW) := by
  intro pins s σ H x y v u Q I rx ry ⟨F, ι, objs, w1, w2, rel, h1, h2, p⟩
  unfold isW at p
  split at p
  · simp only [RW, RV] at h1 h2
    subst h1 h2
    exact op_isN pins s σ H _ _ v u Q I rx ry ⟨rfl, p.flat rel rfl⟩
  · rename_i hn
    simp only [RW, RV] at h2
    subst h2
    refine op_isN pins s σ H _ _ v u Q I rx ry ⟨rfl, p.flat rel ?_⟩
    have : x ≠ .non := h1.not_non fun e => hn e
    simp [RV, this]
  · exact p.elim
theorem or_isn : OpR X (compareOp .IsNot) (rW2 (gX X) isnW) := by
  intro pins s σ H x y v u Q I rx ry ⟨F, ι, objs, w1, w2, rel, h1, h2, p⟩
  unfold isnW at p
  split at p
  · simp only [RW, RV] at h1 h2
    subst h1 h2
    exact op_notN pins s σ H _ _ v u Q I rx ry ⟨rfl, p.flat rel rfl⟩
  · rename_i hn
    simp only [RW, RV] at h2
    subst h2
    refine op_notN pins s σ H _ _ v u Q I rx ry ⟨rfl, p.flat rel ?_⟩
    have : x ≠ .non := h1.not_non fun e => hn e
    simp [RV, this]
  · exact p.elim
/-- flat things -/
def flD : D → Bool
  | .non => true
  | .bl _ => true
  | .int _ => true
  | .str _ => true
  | _ => false
def toV : D → V
  | .non => .non
  | .bl b => .bl b
  | .int i => .int i
  | .str x => .str x
  | _ => .non
def eqF : D → D → Bool
  | .non, .non => true
  | .bl a, .bl b => a == b
  | .bl a, .int b => (if a then 1 else 0) == b
  | .int a, .bl b => a == (if b then 1 else 0)
  | .int a, .int b => a == b
  | .str a, .str b => a == b
  | _, _ => false
theorem RV.fl {g : GE} {A : Addr → Prop} {H : Hp} {d : D} {v : V} (h : RV g A H d v) (f : flD d = true) : v = toV d ∧ flatV v = true := by
  cases d <;> simp only [flD, RV, reduceCtorEq] at f h <;> subst h <;> exact ⟨rfl, rfl⟩
theorem eqF_V {d e : D} (f : flD d = true) (k : flD e = true) : eqV (toV d) (toV e) = eqF d e := by
  cases d <;> simp only [flD, reduceCtorEq] at f <;> cases e <;> simp only [flD, reduceCtorEq] at k <;> rfl
theorem RVs.fl {g : GE} {A : Addr → Prop} {H : Hp} : ∀ {ds : List D} {vs : List V}, RVs g A H ds vs → ds.all flD = true → vs = ds.map toV ∧ vs.all flatV = true
  | [], vs, h, f => by simp only [RVs] at h; subst h; exact ⟨rfl, rfl⟩
  | d :: ds, vs, h, f => by
    simp only [RVs] at h
    obtain ⟨v, r, rfl, h2, h3⟩ := h
    simp only [List.all_cons, Bool.and_eq_true] at f
    obtain ⟨rfl, e2⟩ := h2.fl f.1
    obtain ⟨rfl, e4⟩ := RVs.fl h3 f.2
    exact ⟨rfl, by simp only [List.all_cons, e2, e4, Bool.and_self]⟩
def inF (x : D) (xs : List D) : Bool := xs.any fun y => eqF y x
theorem inF_V {x : D} (f : flD x = true) : ∀ {xs : List D}, xs.all flD = true → inV (toV x) (xs.map toV) = inF x xs
  | [], _ => rfl
  | y :: ys, k => by
    simp only [List.all_cons, Bool.and_eq_true] at k
    simp only [inV, inF, List.map_cons, List.any_cons]
    rw [eqF_V k.1 f]
    have := inF_V f k.2
    simp only [inV, inF] at this
    rw [this]
def inOf (a b : W) (o : Objs) : Option Bool :=
  match a, b with
  | .v (.str x), .v (.str y) => if x.cps.size = 1 then some (decide (x.cps.toList.headD 0 ∈ y.cps.toList)) else none
  | .v d, b => match seqW o b with
    | some xs => if flD d = true ∧ xs.all flD = true then some (inF d xs) else none
    | none => none
  | _, _ => none
def inW (a b : W) (o : Objs) : R W := match inOf a b o with | some c => .ok (.v (.bl c)) o | none => .stuck
def ninW (a b : W) (o : Objs) : R W := match inOf a b o with | some c => .ok (.v (.bl (!c))) o | none => .stuck
theorem str1 {x : Str} (h : x.cps.size = 1) : x = ⟨#[x.cps.toList.headD 0]⟩ := by
  cases x with | mk c =>
  cases c with | mk l =>
  match l, h with
  | [a], _ => rfl
theorem or_in : OpR X (compareOp .In) (rW2 (gX X) inW) := by
  intro pins s σ H x y v u Q I rx ry ⟨F, ι, objs, w1, w2, rel, h1, h2, p⟩
  unfold inW at p
  split at p
  · rename_i c hc
    unfold inOf at hc
    split at hc
    · split at hc
      · rename_i hz
        cases hc
        simp only [RW, RV] at h1 h2
        subst h1 h2
        exact op_in_sign pins s σ H _ _ v u Q I rx ry ⟨_, _, by rw [← str1 hz], rfl, p.flat rel rfl⟩
      · cases hc
    · split at hc
      · rename_i hs
        split at hc
        · rename_i hf
          cases hc
          obtain ⟨a, vs, rfl, q, k⟩ := seqW_ok rel h2 hs
          obtain ⟨rfl, f1⟩ := RV.fl h1 hf.1
          obtain ⟨rfl, f2⟩ := k.fl hf.2
          refine op_in_seq pins s σ H _ _ v u Q I rx ry ⟨a, _, rfl, q, f1, f2, p.flat rel ?_⟩
          simp only [RV]; rw [inF_V hf.1 hf.2]; rfl
        · cases hc
      · cases hc
    · cases hc
  · exact p.elim
theorem or_nin : OpR X (compareOp .NotIn) (rW2 (gX X) ninW) := by
  intro pins s σ H x y v u Q I rx ry ⟨F, ι, objs, w1, w2, rel, h1, h2, p⟩
  unfold ninW at p
  split at p
  · rename_i c hc
    unfold inOf at hc
    split at hc
    · split at hc
      · rename_i hz
        cases hc
        simp only [RW, RV] at h1 h2
        subst h1 h2
        exact op_notIn_sign pins s σ H _ _ v u Q I rx ry ⟨_, _, by rw [← str1 hz], rfl, p.flat rel rfl⟩
      · cases hc
    · split at hc
      · rename_i hs
        split at hc
        · rename_i hf
          cases hc
          obtain ⟨a, vs, rfl, q, k⟩ := seqW_ok rel h2 hs
          obtain ⟨rfl, f1⟩ := RV.fl h1 hf.1
          obtain ⟨rfl, f2⟩ := k.fl hf.2
          refine op_notIn_seq pins s σ H _ _ v u Q I rx ry ⟨a, _, rfl, q, f1, f2, p.flat rel ?_⟩
          simp only [RV]; rw [inF_V hf.1 hf.2]; rfl
        · cases hc
      · cases hc
    · cases hc
  · exact p.elim
/-! ### one place -/
def negW (a : W) (o : Objs) : R W :=
  match a with
  | .v (.int i) => .ok (.v (.int (-i))) o
  | _ => .stuck
theorem ur_neg : UnR X (unaryOp .USub) (rW1 (gX X) negW) := by
  intro pins s σ H x v Q I rx ⟨F, ι, objs, w1, rel, h1, p⟩
  unfold negW at p
  split at p
  · simp only [RW, RV] at h1
    subst h1
    exact un_neg pins s σ H _ v Q I rx ⟨_, rfl, p.flat rel rfl⟩
  · exact p.elim
/-- truth -/
def truW (o : Objs) : W → Option Bool
  | .v .non => some false
  | .v (.bl b) => some b
  | .v (.int i) => some (decide (i ≠ 0))
  | .v (.str x) => if x.length ≤ sizeLine then some (decide (x.length ≠ 0)) else none
  | w => match seqW o w with
    | some xs => some (!xs.isEmpty)
    | none => none
end
end RR

set_option maxHeartbeats 4000000
namespace RR
open PySem PySem.Spec PyProof.Rows L2

abbrev Sl := List (Option W)
def SRel (g : GE) (ι : List Addr) (A : Addr → Prop) (H : Hp) (σd : Sl) (σ : L2.St) : Prop := σ.length = σd.length ∧ ∀ (i : Nat) (w : W), σd[i]? = some (some w) → ∃ v, σ[i]? = some (some v) ∧ RW g ι A H w v
abbrev ME := Sl → Objs → R W
abbrev MB := Sl → Objs → R Bool
abbrev ML := Sl → Objs → R (List W)
def PostB (g : GE) (F : Addr → Prop) (ι : List Addr) (objs : Objs) (H : Hp) (r : R Bool) (Q : Bool → Hp → Prop) : Prop :=
  match r with
  | .ok b objs' => ∀ ι' H', Rel g F ι' H' objs' → Ext ι objs H ι' objs' H' → Q b H'
  | .exc _ _ => False
  | .stuck => False
def tev (g : GE) (m : ME) : TE := fun σ H Q => ∃ F ι objs σd, Rel g F ι H objs ∧ SRel g ι (Al F ι objs) H σd σ ∧ Post g F ι objs H (m σd objs) Q
def teb (g : GE) (m : MB) : TT := fun σ H Q => ∃ F ι objs σd, Rel g F ι H objs ∧ SRel g ι (Al F ι objs) H σd σ ∧ PostB g F ι objs H (m σd objs) Q
def tea (g : GE) (m : ML) : TA := fun σ H Q => ∃ F ι objs σd, Rel g F ι H objs ∧ SRel g ι (Al F ι objs) H σd σ ∧ PostL g F ι objs H (m σd objs) Q
section
variable {g : GE} {F : Addr → Prop} {ι ι' ι1 ι2 : List Addr} {H H' H1 H2 : Hp} {objs objs' objs1 objs2 : Objs} {A A' : Addr → Prop}
theorem SRel.ext {σd : Sl} {σ : L2.St} (h : SRel g ι (Al F ι objs) H σd σ) (e : Ext ι objs H ι1 objs1 H1) : SRel g ι1 (Al F ι1 objs1) H1 σd σ :=
  ⟨h.1, fun i w k => let ⟨v, a, b⟩ := h.2 i w k; ⟨v, a, b.ext e⟩⟩
theorem SRel.set {σd : Sl} {σ : L2.St} {w : W} {v : V} (h : SRel g ι A H σd σ) (i : Nat) (r : RW g ι A H w v) : SRel g ι A H (σd.set i (some w)) (σ.set i (some v)) := by
  refine ⟨by simp [h.1], fun j u k => ?_⟩
  by_cases hj : j = i
  · subst hj
    have hl : j < σd.length := by
      have := (List.getElem?_eq_some_iff.mp k).1
      simpa using this
    rw [List.getElem?_set_self hl] at k
    cases k
    exact ⟨v, List.getElem?_set_self (by rw [h.1]; exact hl), r⟩
  · rw [List.getElem?_set_ne (Ne.symm hj)] at k ⊢
    exact h.2 j u k
theorem PostB.at {r : R Bool} {Q : Bool → Hp → Prop} (p : PostB g F ι objs H r Q) (e : Ext ι objs H ι1 objs1 H1) : PostB g F ι1 objs1 H1 r Q := by
  cases r with
  | ok w o => exact fun ι' H' rl ex => p ι' H' rl (e.trans ex)
  | exc _ _ => exact p
  | stuck => exact p
theorem PostB.bind {α : Type} {r : R α} {f : α → Objs → R Bool} {Q : Bool → Hp → Prop} (p : PostB g F ι objs H (r.bind f) Q) : ∃ a o, r = .ok a o ∧ PostB g F ι objs H (f a o) Q := by
  cases r with
  | ok w o => exact ⟨w, o, rfl, p⟩
  | exc _ _ => exact p.elim
  | stuck => exact p.elim
end
theorem _root_.L2.PE.weak {X : Cx} {e : Expr} {t t' : TE} (h : PE X e t) (w : ∀ σ H Q, t' σ H Q → t σ H Q) : PE X e t' := ⟨fun pins s σ H Q I q => h.run pins s σ H Q I (w σ H Q q)⟩
theorem _root_.L2.PT.weak {X : Cx} {e : Expr} {t t' : TT} (h : PT X e t) (w : ∀ σ H Q, t' σ H Q → t σ H Q) : PT X e t' := ⟨fun pins s σ H Q I q => h.run pins s σ H Q I (w σ H Q q)⟩
theorem _root_.L2.PW.weak {X : Cx} {e : Expr} {t t' : TT} (h : PW X e t) (w : ∀ σ H Q, t' σ H Q → t σ H Q) : PW X e t' := ⟨fun wh pins s σ H Q I q => h.run wh pins s σ H Q I (w σ H Q q)⟩
theorem _root_.L2.PA.weak {X : Cx} {e : List Expr} {t t' : TA} (h : PA X e t) (w : ∀ σ H Q, t' σ H Q → t σ H Q) : PA X e t' := ⟨fun pos pins s σ H Q I q => h.run pos pins s σ H Q I (w σ H Q q)⟩
theorem _root_.L2.PS.weak {X : Cx} {e : Stmt} {t t' : TS} (h : PS X e t) (w : ∀ D σ H, t' D σ H → t D σ H) : PS X e t' := ⟨fun pins s σ H D I q => h.run pins s σ H D I (w D σ H q)⟩
theorem _root_.L2.PSs.weak {X : Cx} {e : List Stmt} {t t' : TS} (h : PSs X e t) (w : ∀ D σ H, t' D σ H → t D σ H) : PSs X e t' := ⟨fun pins s σ H D I q => h.run pins s σ H D I (w D σ H q)⟩
theorem _root_.L2.PE.or {X : Cx} {e : Expr} {t t' : TE} (h : PE X e t) (h' : PE X e t') : PE X e (fun σ H Q => t σ H Q ∨ t' σ H Q) := ⟨fun pins s σ H Q I q => q.elim (h.run pins s σ H Q I) (h'.run pins s σ H Q I)⟩

/-! ### the forms of expressions -/
def mConst (d : D) : ME := fun _ o => .ok (.v d) o
def mVar (i : Nat) : ME := fun σ o => match σ[i]? with | some (some w) => .ok w o | _ => .stuck
def mBin (f : W → W → Objs → R W) (a b : ME) : ME := fun σ o => (a σ o).bind fun x o => (b σ o).bind fun y o => f x y o
def mUn (f : W → Objs → R W) (a : ME) : ME := fun σ o => (a σ o).bind fun x o => f x o
def mNil : ML := fun _ o => .ok [] o
def mCons (a : ME) (b : ML) : ML := fun σ o => (a σ o).bind fun x o => (b σ o).bind fun xs o => .ok (x :: xs) o
section
variable {X : Cx} {a b c e : Expr} {es : List Expr} {pos : Pos} {ma mb mc : ME}
abbrev SE (X : Cx) (e : Expr) (m : ME) : Prop := PE X e (tev (gX X) m)
abbrev ST (X : Cx) (e : Expr) (m : MB) : Prop := PT X e (teb (gX X) m)
abbrev SW (X : Cx) (e : Expr) (m : MB) : Prop := PW X e (teb (gX X) m)
abbrev SA (X : Cx) (e : List Expr) (m : ML) : Prop := PA X e (tea (gX X) m)
theorem se_const {d : D} {v : V} (h : PE X e (tC v)) (r : ∀ A H, RV (gX X) A H d v) : SE X e (mConst d) :=
  h.weak fun σ H Q ⟨F, ι, objs, σd, rel, sr, p⟩ => p.flat rel (r _ _)
theorem se_int {i : Int} {j : Nat} : SE X (.Constant (.int i) j pos) (mConst (.int i)) := se_const pe_int fun _ _ => by simp only [RV]
theorem se_str {i : Str} {j : Nat} : SE X (.Constant (.str i) j pos) (mConst (.str i)) := se_const pe_str fun _ _ => by simp only [RV]
theorem se_bl {i : Bool} {j : Nat} : SE X (.Constant (.bool i) j pos) (mConst (.bl i)) := se_const pe_bl fun _ _ => by simp only [RV]
theorem se_non {j : Nat} : SE X (.Constant .none j pos) (mConst .non) := se_const pe_non fun _ _ => by simp only [RV]
theorem se_var {i : Nat} {x : Str} (hN : X.N[i]? = some x) (hv : Vis X.env.scope x) (hd : (x == ("__debug__" : Str)) = false) (hcd : (x == ("__classdict__" : Str)) = false) : SE X (.Name x pos) (mVar i) := by
  refine (pe_var hN hv hd hcd).weak fun σ H Q ⟨F, ι, objs, σd, rel, sr, p⟩ => ?_
  unfold mVar at p
  split at p
  · rename_i w hw
    obtain ⟨v, e1, e2⟩ := sr.2 i w hw
    exact ⟨v, e1, p.ok rel e2⟩
  · exact p.elim
theorem se_bin {op : Operator} {f : W → W → Objs → R W} (ho : OpR X (binaryOp op) (rW2 (gX X) f)) (ha : SE X a ma) (hb : SE X b mb) : SE X (.BinOp a op b pos) (mBin f ma mb) := by
  refine (pe_op ho ha hb).weak fun σ H Q ⟨F, ι, objs, σd, rel, sr, p⟩ => ?_
  obtain ⟨x, o1, e1, p⟩ := p.bind
  refine ⟨F, ι, objs, σd, rel, sr, ?_⟩
  rw [e1]
  intro v ι1 H1 rel1 ex1 r1
  obtain ⟨y, o2, e2, p⟩ := (p.at ex1).bind
  refine ⟨F, ι1, o1, σd, rel1, sr.ext ex1, ?_⟩
  rw [e2]
  intro v2 ι2 H2 rel2 ex2 r2
  exact ⟨F, ι2, o2, x, y, rel2, r1.ext ex2, r2, p.at ex2⟩
theorem se_cmp {op : CmpOp} {f : W → W → Objs → R W} (ho : OpR X (compareOp op) (rW2 (gX X) f)) (ha : SE X a ma) (hb : SE X b mb) (hm : behindInMarks op b = false) : SE X (.Compare a [op] [b] pos) (mBin f ma mb) := by
  refine (pe_cmpR ho ha hb hm).weak fun σ H Q ⟨F, ι, objs, σd, rel, sr, p⟩ => ?_
  obtain ⟨x, o1, e1, p⟩ := p.bind
  refine ⟨F, ι, objs, σd, rel, sr, ?_⟩
  rw [e1]
  intro v ι1 H1 rel1 ex1 r1
  obtain ⟨y, o2, e2, p⟩ := (p.at ex1).bind
  refine ⟨F, ι1, o1, σd, rel1, sr.ext ex1, ?_⟩
  rw [e2]
  intro v2 ι2 H2 rel2 ex2 r2
  exact ⟨F, ι2, o2, x, y, rel2, r1.ext ex2, r2, p.at ex2⟩
/-- a value that must be a bool -/
def asB (r : R W) : R Bool := r.bind fun x o => match x with | .v (.bl b) => .ok b o | _ => .stuck
theorem st_cmp {op : CmpOp} {f : W → W → Objs → R W} (ho : OpR X (compareOp op) (rW2 (gX X) f)) (ha : SE X a ma) (hb : SE X b mb) (hm : behindInMarks op b = false) : ST X (.Compare a [op] [b] pos) (fun σ o => asB (mBin f ma mb σ o)) := by
  refine (pt_cmpR ho ha hb hm).weak fun σ H Q ⟨F, ι, objs, σd, rel, sr, p⟩ => ?_
  obtain ⟨z, oz, ez, p⟩ := p.bind
  cases e1 : ma σd objs with
  | exc e o => rw [mBin, e1] at ez; cases ez
  | stuck => rw [mBin, e1] at ez; cases ez
  | ok x o1 =>
    rw [mBin, e1, R.bind_ok] at ez
    refine ⟨F, ι, objs, σd, rel, sr, ?_⟩
    rw [e1]
    intro v ι1 H1 rel1 ex1 r1
    cases e2 : mb σd o1 with
    | exc e o => rw [e2] at ez; cases ez
    | stuck => rw [e2] at ez; cases ez
    | ok y o2 =>
      rw [e2, R.bind_ok] at ez
      refine ⟨F, ι1, o1, σd, rel1, sr.ext ex1, ?_⟩
      rw [e2]
      intro v2 ι2 H2 rel2 ex2 r2
      refine ⟨F, ι2, o2, x, y, rel2, r1.ext ex2, r2, ?_⟩
      rw [ez]
      intro v3 ι3 H3 rel3 ex3 r3
      split at p
      · simp only [RW, RV] at r3
        subst r3
        exact ⟨_, rfl, p ι3 H3 rel3 ((ex1.trans ex2).trans ex3)⟩
      · exact p.elim
def mChain (f f' : W → W → Objs → R W) (a b c : ME) : ME := fun σ o => (a σ o).bind fun x o => (b σ o).bind fun y o => (asB (f x y o)).bind fun k o => if k = true then (c σ o).bind fun z o => f' y z o else .ok (.v (.bl false)) o
theorem se_chain {op op' : CmpOp} {f f' : W → W → Objs → R W} (ho : OpR X (compareOp op) (rW2 (gX X) f)) (ho' : OpR X (compareOp op') (rW2 (gX X) f')) (ha : SE X a ma) (hb : SE X b mb) (hc : SE X c mc) (hm : lastMarks [op, op'] [b, c] = false) :
    SE X (.Compare a [op, op'] [b, c] pos) (mChain f f' ma mb mc) := by
  refine (pe_chain ho ho' ha hb hc hm).weak fun σ H Q ⟨F, ι, objs, σd, rel, sr, p⟩ => ?_
  obtain ⟨x, o1, e1, p⟩ := p.bind
  refine ⟨F, ι, objs, σd, rel, sr, ?_⟩
  rw [e1]
  intro v ι1 H1 rel1 ex1 r1
  obtain ⟨y, o2, e2, p⟩ := (p.at ex1).bind
  refine ⟨F, ι1, o1, σd, rel1, sr.ext ex1, ?_⟩
  rw [e2]
  intro v2 ι2 H2 rel2 ex2 r2
  obtain ⟨k, o3, e3, p⟩ := (p.at ex2).bind
  refine ⟨F, ι2, o2, x, y, rel2, r1.ext ex2, r2, ?_⟩
  unfold asB at e3
  cases e4 : f x y o2 with
  | exc e o => rw [e4] at e3; cases e3
  | stuck => rw [e4] at e3; cases e3
  | ok z o4 =>
    rw [e4, R.bind_ok] at e3
    split at e3
    · cases e3
      intro v3 ι3 H3 rel3 ex3 r3
      simp only [RW, RV] at r3
      subst r3
      refine ⟨k, rfl, ?_⟩
      have p3 := p.at ex3
      cases k with
      | false =>
        simp only [Bool.false_eq_true, if_false] at p3 ⊢
        exact p3.flat rel3 (by simp only [RV])
      | true =>
        simp only [if_true] at p3 ⊢
        obtain ⟨w, o5, e5, p⟩ := p3.bind
        refine ⟨F, ι3, o3, σd, rel3, ((sr.ext ex1).ext ex2).ext ex3, ?_⟩
        rw [e5]
        intro v4 ι4 H4 rel4 ex4 r4
        exact ⟨F, ι4, o5, y, w, rel4, (r2.ext ex3).ext ex4, r4, p.at ex4⟩
    · cases e3
theorem se_un {op : UnaryOp} {f : W → Objs → R W} (ho : UnR X (unaryOp op) (rW1 (gX X) f)) (ha : SE X a ma) : SE X (.UnaryOp op a pos) (mUn f ma) := by
  refine (pe_un ho ha).weak fun σ H Q ⟨F, ι, objs, σd, rel, sr, p⟩ => ?_
  obtain ⟨x, o1, e1, p⟩ := p.bind
  refine ⟨F, ι, objs, σd, rel, sr, ?_⟩
  rw [e1]
  intro v ι1 H1 rel1 ex1 r1
  exact ⟨F, ι1, o1, x, rel1, r1, p.at ex1⟩

/-! ### truth -/
theorem tr_ok : TruR X (fun x H Q => ∃ F ι objs w, Rel (gX X) F ι H objs ∧ RW (gX X) ι (Al F ι objs) H w x ∧ ∃ k, truW objs w = some k ∧ Q k H) := by
  intro pins s σ H x v Q I rx ⟨F, ι, objs, w, rel, h, k, e, q⟩
  refine tru_ok pins s σ H x v Q I rx ⟨k, ?_, q⟩
  unfold truW at e
  split at e
  · simp only [RW, RV] at h; subst h; cases e; rfl
  · simp only [RW, RV] at h; subst h; cases e; rfl
  · simp only [RW, RV] at h; subst h; cases e
    show decide _ = _
    rename_i i
    by_cases hi : i = 0 <;> simp [hi]
  · split at e
    · rename_i hz
      simp only [RW, RV] at h; subst h; cases e
      refine ⟨hz, ?_⟩
      rename_i x
      by_cases hi : x.length = 0 <;> simp [hi]
    · cases e
  · split at e
    · rename_i xs hs
      cases e
      obtain ⟨a, vs, rfl, q, k⟩ := seqW_ok rel h hs
      have e2 : (!xs.isEmpty) = !vs.isEmpty := by
        have := k.length
        cases xs <;> cases vs <;> simp at this ⊢
      rcases q with q | q
      · exact .inl ⟨vs, q, e2⟩
      · exact .inr (.inl ⟨vs, q, e2⟩)
    · cases e
def mTru (m : ME) : MB := fun σ o => (m σ o).bind fun x o => match truW o x with | some k => .ok k o | none => .stuck
/-- an expression of any kind as a test (no comparison, and, or, not) -/
theorem st_val (ha : SE X a ma) (he : ∀ whole, isTrue a X.env whole = (do let v ← whole; standAt a.pos; holding [v] (truthy v))) : ST X a (mTru ma) := by
  refine ⟨fun pins s σ H Q I ⟨F, ι, objs, σd, rel, sr, p⟩ => ?_⟩
  obtain ⟨x, o1, e1, p⟩ := p.bind
  have h : tev (gX X) ma σ H (fun v H1 => ∃ F ι objs w, Rel (gX X) F ι H1 objs ∧ RW (gX X) ι (Al F ι objs) H1 w v ∧ ∃ k, truW objs w = some k ∧ Q k H1) := by
    refine ⟨F, ι, objs, σd, rel, sr, ?_⟩
    rw [e1]
    intro v ι1 H1 rel1 ex1 r1
    refine ⟨F, ι1, o1, x, rel1, r1, ?_⟩
    split at p
    · rename_i k hk
      exact ⟨k, hk, p ι1 H1 rel1 ex1⟩
    · exact p.elim
  exact isTrue_plain (thn (ha.run pins s σ H _ I h) fun v s1 ⟨x, H1, I1, r1, q1⟩ => tr_ok pins s1 σ H1 x v Q I1 r1 q1) (he _)
def mAnd (a b : MB) : MB := fun σ o => (a σ o).bind fun k o => if k = true then b σ o else .ok false o
def mOr (a b : MB) : MB := fun σ o => (a σ o).bind fun k o => if k = true then .ok true o else b σ o
def mNot (a : MB) : MB := fun σ o => (a σ o).bind fun k o => .ok (!k) o
variable {na nb : MB} {rest : List Expr}
theorem sw_and1 (ha : ST X a na) : SW X (.BoolOp .And [a] pos) na := pw_and1 ha
theorem sw_or1 (ha : ST X a na) : SW X (.BoolOp .Or [a] pos) na := pw_or1 ha
theorem sw_and (ha : ST X a na) (hb : SW X (.BoolOp .And (b :: rest) pos) nb) : SW X (.BoolOp .And (a :: b :: rest) pos) (mAnd na nb) := by
  refine (pw_and ha hb).weak fun σ H Q ⟨F, ι, objs, σd, rel, sr, p⟩ => ?_
  obtain ⟨x, o1, e1, p⟩ := p.bind
  refine ⟨F, ι, objs, σd, rel, sr, ?_⟩
  rw [e1]
  intro ι1 H1 rel1 ex1
  have p1 := p.at ex1
  cases x with
  | false =>
    simp only [Bool.false_eq_true, if_false] at p1 ⊢
    exact p1 ι1 H1 rel1 .refl
  | true =>
    simp only [if_true] at p1 ⊢
    exact ⟨F, ι1, o1, σd, rel1, sr.ext ex1, p1⟩
theorem sw_or (ha : ST X a na) (hb : SW X (.BoolOp .Or (b :: rest) pos) nb) : SW X (.BoolOp .Or (a :: b :: rest) pos) (mOr na nb) := by
  refine (pw_or ha hb).weak fun σ H Q ⟨F, ι, objs, σd, rel, sr, p⟩ => ?_
  obtain ⟨x, o1, e1, p⟩ := p.bind
  refine ⟨F, ι, objs, σd, rel, sr, ?_⟩
  rw [e1]
  intro ι1 H1 rel1 ex1
  have p1 := p.at ex1
  cases x with
  | false =>
    simp only [Bool.false_eq_true, if_false] at p1 ⊢
    exact ⟨F, ι1, o1, σd, rel1, sr.ext ex1, p1⟩
  | true =>
    simp only [if_true] at p1 ⊢
    exact p1 ι1 H1 rel1 .refl
theorem st_not (ha : ST X a na) : ST X (.UnaryOp .Not a pos) (mNot na) := by
  refine (pt_not ha).weak fun σ H Q ⟨F, ι, objs, σd, rel, sr, p⟩ => ?_
  obtain ⟨x, o1, e1, p⟩ := p.bind
  refine ⟨F, ι, objs, σd, rel, sr, ?_⟩
  rw [e1]
  intro ι1 H1 rel1 ex1
  exact p ι1 H1 rel1 ex1
/-- .. as values: bools -/
def mAndV (a b : ME) : ME := fun σ o => (asB (a σ o)).bind fun k o => if k = true then b σ o else .ok (.v (.bl false)) o
def mOrV (a b : ME) : ME := fun σ o => (asB (a σ o)).bind fun k o => if k = true then .ok (.v (.bl true)) o else b σ o
def mNotV (a : ME) : ME := fun σ o => (asB (a σ o)).bind fun k o => .ok (.v (.bl (!k))) o
def mIf (c : MB) (a b : ME) : ME := fun σ o => (c σ o).bind fun k o => if k = true then a σ o else b σ o
theorem asB_inv {r : R W} {k : Bool} {o : Objs} (h : asB r = .ok k o) : r = .ok (.v (.bl k)) o := by
  unfold asB at h
  cases r with
  | exc _ _ => cases h
  | stuck => cases h
  | ok x o1 =>
    rw [R.bind_ok] at h
    split at h
    · cases h; rfl
    · cases h
theorem se_one {op : BoolOp} (h : SE X a ma) : SE X (.BoolOp op [a] pos) ma := pe_one h
theorem se_and (ha : SE X a ma) (hb : SE X (.BoolOp .And (b :: rest) pos) mb) : SE X (.BoolOp .And (a :: b :: rest) pos) (mAndV ma mb) := by
  refine (pe_and ha hb).weak fun σ H Q ⟨F, ι, objs, σd, rel, sr, p⟩ => ?_
  obtain ⟨k, o1, e1, p⟩ := p.bind
  refine ⟨F, ι, objs, σd, rel, sr, ?_⟩
  rw [asB_inv e1]
  intro v ι1 H1 rel1 ex1 r1
  simp only [RW, RV] at r1
  subst r1
  refine ⟨k, rfl, ?_⟩
  have p1 := p.at ex1
  cases k with
  | false =>
    simp only [Bool.false_eq_true, if_false] at p1 ⊢
    exact p1.flat rel1 (by simp only [RV])
  | true =>
    simp only [if_true] at p1 ⊢
    exact ⟨F, ι1, o1, σd, rel1, sr.ext ex1, p1⟩
theorem se_or (ha : SE X a ma) (hb : SE X (.BoolOp .Or (b :: rest) pos) mb) : SE X (.BoolOp .Or (a :: b :: rest) pos) (mOrV ma mb) := by
  refine (pe_or ha hb).weak fun σ H Q ⟨F, ι, objs, σd, rel, sr, p⟩ => ?_
  obtain ⟨k, o1, e1, p⟩ := p.bind
  refine ⟨F, ι, objs, σd, rel, sr, ?_⟩
  rw [asB_inv e1]
  intro v ι1 H1 rel1 ex1 r1
  simp only [RW, RV] at r1
  subst r1
  refine ⟨k, rfl, ?_⟩
  have p1 := p.at ex1
  cases k with
  | false =>
    simp only [Bool.false_eq_true, if_false] at p1 ⊢
    exact ⟨F, ι1, o1, σd, rel1, sr.ext ex1, p1⟩
  | true =>
    simp only [if_true] at p1 ⊢
    exact p1.flat rel1 (by simp only [RV])
theorem se_not (ha : SE X a ma) : SE X (.UnaryOp .Not a pos) (mNotV ma) := by
  refine (pe_not ha).weak fun σ H Q ⟨F, ι, objs, σd, rel, sr, p⟩ => ?_
  obtain ⟨k, o1, e1, p⟩ := p.bind
  refine ⟨F, ι, objs, σd, rel, sr, ?_⟩
  rw [asB_inv e1]
  intro v ι1 H1 rel1 ex1 r1
  simp only [RW, RV] at r1
  subst r1
  exact ⟨k, rfl, (p.at ex1).flat rel1 (by simp only [RV])⟩
theorem se_if (hc : ST X c na) (ha : SE X a ma) (hb : SE X b mb) : SE X (.IfExp c a b pos) (mIf na ma mb) := by
  refine (pe_ifExp hc ha hb).weak fun σ H Q ⟨F, ι, objs, σd, rel, sr, p⟩ => ?_
  obtain ⟨k, o1, e1, p⟩ := p.bind
  refine ⟨F, ι, objs, σd, rel, sr, ?_⟩
  rw [e1]
  intro ι1 H1 rel1 ex1
  have p1 := p.at ex1
  cases k with
  | false =>
    simp only [Bool.false_eq_true, if_false] at p1 ⊢
    exact ⟨F, ι1, o1, σd, rel1, sr.ext ex1, p1⟩
  | true =>
    simp only [if_true] at p1 ⊢
    exact ⟨F, ι1, o1, σd, rel1, sr.ext ex1, p1⟩

/-! ### argument lists, displays -/
def isStar : Expr → Bool
  | .Starred .. => true
  | _ => false
theorem star_cons (h : isStar e = false) (env : Env) : starEach (e :: es) env = (false, eval e env) :: starEach es env := by
  cases e <;> first | rfl | (simp [isStar] at h)
theorem star_none {env : Env} : ∀ {es : List Expr}, es.all (fun e => !isStar e) = true → (backTo pos (starEach es env)).any (·.1) = false
  | [], _ => rfl
  | e :: es, h => by
    simp only [List.all_cons, Bool.and_eq_true, Bool.not_eq_true'] at h
    rw [star_cons h.1]
    simp only [backTo, List.map_cons, List.any_cons, Bool.false_or]
    have := star_none (env := env) h.2
    simpa [backTo] using this
theorem sa_nil : SA X [] mNil := pa_nil.weak fun σ H Q ⟨F, ι, objs, σd, rel, sr, p⟩ => p [] ι H rel .refl .nil
theorem RWs.ext {g : GE} {F : Addr → Prop} {ι ι1 : List Addr} {objs objs1 : Objs} {H H1 : Hp} {ws : List W} {vs : List V} (h : RWs g ι (Al F ι objs) H ws vs) (e : Ext ι objs H ι1 objs1 H1) : RWs g ι1 (Al F ι1 objs1) H1 ws vs := Paired.mapP h fun _ _ q => q.ext e
theorem sa_cons {ml : ML} (ha : SE X e ma) (hr : SA X es ml) (hs : isStar e = false) : SA X (e :: es) (mCons ma ml) := by
  refine (pa_cons ha hr (star_cons hs _)).weak fun σ H Q ⟨F, ι, objs, σd, rel, sr, p⟩ => ?_
  obtain ⟨x, o1, e1, p⟩ := p.bind
  refine ⟨F, ι, objs, σd, rel, sr, ?_⟩
  rw [e1]
  intro v ι1 H1 rel1 ex1 r1
  obtain ⟨xs, o2, e2, p⟩ := (p.at ex1).bind
  refine ⟨F, ι1, o1, σd, rel1, sr.ext ex1, ?_⟩
  rw [e2]
  intro v2 ι2 H2 rel2 ex2 r2
  exact (p.at ex2) (v :: v2) ι2 H2 rel2 .refl (.cons (r1.ext ex2) r2)
end
end RR

set_option maxHeartbeats 4000000
namespace RR
open PySem PySem.Spec PyProof.Rows L2

/-! ### from things to plain values: what is read so is not changed any more -/
def pullL (f : Objs → Nat → Option (D × Objs)) : Objs → List Nat → Option (List D × Objs)
  | o, [] => some ([], o)
  | o, i :: is => match f o i with
    | none => none
    | some (d, o1) => match pullL f o1 is with
      | none => none
      | some (ds, o2) => some (d :: ds, o2)
def pullAt : Nat → Objs → Nat → Option (D × Objs)
  | 0, _, _ => none
  | n + 1, o, i => match o[i]? with
    | none => none
    | some e => match e.ob with
      | .lst xs => some (.lst xs, o.set i ⟨false, e.ob⟩)
      | .dic ks vs => some (.dic ks vs, o.set i ⟨false, e.ob⟩)
      | .ins c ns vs => some (.ins c ns vs, o.set i ⟨false, e.ob⟩)
      | .lol is => match pullL (pullAt n) (o.set i ⟨false, e.ob⟩) is with
        | none => none
        | some (ds, o1) => some (.lst ds, o1)
def pull (o : Objs) : W → Option (D × Objs)
  | .v d => some (d, o)
  | .o i => pullAt 4 o i
def pulls : Objs → List W → Option (List D × Objs)
  | o, [] => some ([], o)
  | o, w :: ws => match pull o w with
    | none => none
    | some (d, o1) => match pulls o1 ws with
      | none => none
      | some (ds, o2) => some (d :: ds, o2)
@[simp] theorem pull_v (o : Objs) (d : D) : pull o (.v d) = some (d, o) := id rfl
@[simp] theorem pulls_nil (o : Objs) : pulls o [] = some ([], o) := id rfl
@[simp] theorem pulls_v (o : Objs) (d : D) (ws : List W) : pulls o (.v d :: ws) = match pulls o ws with | none => none | some (ds, o2) => some (d :: ds, o2) := id rfl
theorem pulls_vs (o : Objs) : ∀ ds : List D, pulls o (ds.map W.v) = some (ds, o)
  | [] => rfl
  | d :: ds => by rw [List.map_cons, pulls_v, pulls_vs o ds]
section
variable {g : GE} {F : Addr → Prop} {ι ι' ι1 ι2 : List Addr} {H H' H1 H2 : Hp} {objs objs' objs1 objs2 : Objs} {A A' : Addr → Prop}
theorem froze {i : Nat} {a : Addr} {e : Ent} (r : Rel g F ι H objs) (h : ι[i]? = some a) (ho : objs[i]? = some e) : ¬ Al F ι (objs.set i ⟨false, e.ob⟩) a := by
  refine (r.freeze ho).dead h (m := e.ob) ?_
  rw [List.getElem?_set_self (List.getElem?_eq_some_iff.mp ho).1]
theorem pullL_ok {f : Objs → Nat → Option (D × Objs)}
    (hf : ∀ (o : Objs) (i : Nat) (d : D) (o' : Objs) (v : V), f o i = some (d, o') → Rel g F ι H o → RAt ι i v → Rel g F ι H o' ∧ Ext ι o H ι o' H ∧ RV g (Al F ι o') H d v) :
    ∀ (is : List Nat) (o : Objs) (ds : List D) (o' : Objs) (vs : List V), pullL f o is = some (ds, o') → Rel g F ι H o → Paired (RAt ι) is vs → Rel g F ι H o' ∧ Ext ι o H ι o' H ∧ RVs g (Al F ι o') H ds vs
  | [], o, ds, o', vs, h, r, p => by
    cases h; cases p
    exact ⟨r, .refl, by simp only [RVs]⟩
  | i :: is, o, ds, o', vs, h, r, p => by
    cases p with
    | cons p ps =>
      simp only [pullL] at h
      split at h
      · cases h
      · rename_i d o1 h1
        split at h
        · cases h
        · rename_i es o2 h2
          cases h
          obtain ⟨r1, x1, k1⟩ := hf o i d o1 _ h1 r p
          obtain ⟨r2, x2, k2⟩ := pullL_ok hf is o1 es o' _ h2 r1 ps
          exact ⟨r2, x1.trans x2, by simp only [RVs]; exact ⟨_, _, rfl, k1.ext x2, k2⟩⟩
theorem pullAt_ok : ∀ (n : Nat) (o : Objs) (i : Nat) (d : D) (o' : Objs) (v : V), pullAt n o i = some (d, o') → Rel g F ι H o → RAt ι i v → Rel g F ι H o' ∧ Ext ι o H ι o' H ∧ RV g (Al F ι o') H d v
  | 0, o, i, d, o', v, h, _, _ => by cases h
  | n + 1, o, i, d, o', v, h, r, ⟨a, ha, hv⟩ => by
    subst hv
    simp only [pullAt] at h
    split at h
    · cases h
    · rename_i e he
      have fz := froze r ha he
      have rf := r.freeze he
      have xf : Ext ι o H ι (o.set i ⟨false, e.ob⟩) H := Ext.freeze he
      have q := (r.at_ i a e ha he).ext xf fun u k => k
      split at h
      · rename_i xs hx
        cases h
        rw [hx] at q fz rf xf ⊢
        obtain ⟨vs, q1, q2⟩ := q
        exact ⟨rf, xf, by simp only [RV]; exact ⟨a, vs, rfl, fz, q1, q2⟩⟩
      · rename_i ks ds hx
        cases h
        rw [hx] at q fz rf xf ⊢
        obtain ⟨vs, q1, q2, q3⟩ := q
        exact ⟨rf, xf, by simp only [RV]; exact ⟨a, vs, rfl, fz, q1, q2, q3⟩⟩
      · rename_i c ns ds hx
        cases h
        rw [hx] at q fz rf xf ⊢
        obtain ⟨C, dx, vs, q1, q2, q3, q4⟩ := q
        exact ⟨rf, xf, by simp only [RV]; exact ⟨a, C, dx, vs, rfl, fz, q1, q2, q3, q4⟩⟩
      · rename_i is hx
        split at h
        · cases h
        · rename_i ds o1 h1
          cases h
          have q0 := q
          rw [hx] at q0
          obtain ⟨vs, q1, q2⟩ := q0
          obtain ⟨r2, x2, k2⟩ := pullL_ok (pullAt_ok n) is _ ds o' vs h1 rf q2
          exact ⟨r2, xf.trans x2, by simp only [RV]; exact ⟨a, vs, rfl, x2.off q1 fz, q1, k2⟩⟩
theorem pull_ok {o o' : Objs} {w : W} {d : D} {v : V} (h : pull o w = some (d, o')) (r : Rel g F ι H o) (k : RW g ι (Al F ι o) H w v) : Rel g F ι H o' ∧ Ext ι o H ι o' H ∧ RV g (Al F ι o') H d v := by
  cases w with
  | v d' => cases h; exact ⟨r, .refl, k⟩
  | o i => exact pullAt_ok 4 o i d o' v h r k
theorem pulls_ok : ∀ {ws : List W} {o o' : Objs} {ds : List D} {vs : List V}, pulls o ws = some (ds, o') → Rel g F ι H o → RWs g ι (Al F ι o) H ws vs → Rel g F ι H o' ∧ Ext ι o H ι o' H ∧ RVs g (Al F ι o') H ds vs
  | [], o, o', ds, vs, h, r, p => by
    cases h; cases p
    exact ⟨r, .refl, by simp only [RVs]⟩
  | w :: ws, o, o', ds, vs, h, r, p => by
    cases p with
    | cons p ps =>
      simp only [pulls] at h
      split at h
      · cases h
      · rename_i d o1 h1
        split at h
        · cases h
        · rename_i es o2 h2
          cases h
          obtain ⟨r1, x1, k1⟩ := pull_ok h1 r p
          obtain ⟨r2, x2, k2⟩ := pulls_ok (ws := ws) h2 r1 (RWs.ext ps x1)
          exact ⟨r2, x1.trans x2, by simp only [RVs]; exact ⟨_, _, rfl, k1.ext x2, k2⟩⟩
end
/-- all things of the store -/
def allO : List W → Option (List Nat)
  | [] => some []
  | .o i :: ws => match allO ws with
    | some is => some (i :: is)
    | none => none
  | .v _ :: _ => none
theorem allO_ok {g : GE} {ι : List Addr} {A : Addr → Prop} {H : Hp} : ∀ {ws : List W} {is : List Nat} {vs : List V}, allO ws = some is → RWs g ι A H ws vs → Paired (RAt ι) is vs
  | [], is, vs, h, p => by cases h; cases p; exact .nil
  | .o i :: ws, is, vs, h, p => by
    cases p with
    | cons p ps =>
      simp only [allO] at h
      split at h
      · rename_i js hj
        cases h
        exact .cons p (allO_ok hj ps)
      · cases h
  | .v _ :: _, is, vs, h, p => by cases h
/-- a tuple; a list, plain or of the store -/
def tupW (ws : List W) (o : Objs) : R W := match pulls o ws with
  | some (ds, o) => if ds.length ≤ sizeLine then .ok (.v (.tup ds)) o else .stuck
  | none => .stuck
def lstMk (mu : Bool) (ws : List W) (o : Objs) : R W :=
  match mu, allO ws with
  | true, some (i :: is) => if ws.length ≤ sizeLine then .ok (.o o.length) (o ++ [⟨true, .lol (i :: is)⟩]) else .stuck
  | true, _ => match pulls o ws with
    | some (ds, o) => if ds.length ≤ sizeLine then .ok (.o o.length) (o ++ [⟨true, .lst ds⟩]) else .stuck
    | none => .stuck
  | false, _ => match pulls o ws with
    | some (ds, o) => if ds.length ≤ sizeLine then .ok (.v (.lst ds)) o else .stuck
    | none => .stuck
section
variable {g : GE} {F : Addr → Prop} {ι ι' ι1 ι2 : List Addr} {H H' H1 H2 : Hp} {objs objs' objs1 objs2 : Objs}
theorem RWs.length {A : Addr → Prop} {ws : List W} {vs : List V} (h : RWs g ι A H ws vs) : ws.length = vs.length := Paired.length h
theorem lstMk_ok {mu : Bool} {ws : List W} {vs : List V} {Q : VK} (r : Rel g F ι H objs) (k : RWs g ι (Al F ι objs) H ws vs) (p : Post g F ι objs H (lstMk mu ws objs) Q) : vs.length ≤ sizeLine ∧ ∀ p, H p = none → Q (.ref p) (upd H p (.lst vs)) := by
  unfold lstMk at p
  split at p
  · rename_i i is ha
    split at p
    · rename_i hz
      refine ⟨by rw [← k.length]; exact hz, fun q hq => ?_⟩
      refine p _ (ι ++ [q]) _ (r.alloc hq ⟨vs, upd_same, Paired.mapP (allO_ok ha k) fun _ _ z => z.ext (Ext.alloc (o := .lst vs) (m := .lol (i :: is)) r hq)⟩) (Ext.alloc r hq) ⟨q, ?_, rfl⟩
      rw [← r.len]; simp
    · exact p.elim
  · split at p
    · rename_i ds o1 hp
      obtain ⟨r1, x1, k1⟩ := pulls_ok hp r k
      split at p
      · rename_i hz
        exact ⟨by rw [← k1.length]; exact hz, fun q hq => (p.at x1).freshM r1 hq k1⟩
      · exact p.elim
    · exact p.elim
  · split at p
    · rename_i ds o1 hp
      obtain ⟨r1, x1, k1⟩ := pulls_ok hp r k
      split at p
      · rename_i hz
        exact ⟨by rw [← k1.length]; exact hz, fun q hq => (p.at x1).freshL r1 hq k1⟩
      · exact p.elim
    · exact p.elim
end
section
variable {X : Cx} {a b c e : Expr} {es : List Expr} {pos : Pos} {ma mb mc : ME} {ml : ML}
def mTup (l : ML) : ME := fun σ o => (l σ o).bind tupW
def mLst (mu : Bool) (l : ML) : ME := fun σ o => (l σ o).bind (lstMk mu)
theorem se_tup {k : Nat} (h : SA X es ml) : SE X (.Tuple es k pos) (mTup ml) := by
  refine (pe_tup h).weak fun σ H Q ⟨F, ι, objs, σd, rel, sr, p⟩ => ?_
  obtain ⟨ws, o1, e1, p⟩ := p.bind
  refine ⟨F, ι, objs, σd, rel, sr, ?_⟩
  rw [e1]
  intro vs ι1 H1 rel1 ex1 r1
  have p := p.at ex1
  unfold tupW at p
  split at p
  · rename_i ds o2 hp
    obtain ⟨r2, x2, k2⟩ := pulls_ok hp rel1 r1
    split at p
    · rename_i hz
      exact ⟨by rw [← k2.length]; exact hz, fun q hq => (p.at x2).freshT r2 hq k2⟩
    · exact p.elim
  · exact p.elim
theorem se_lst {mu : Bool} (h : SA X es ml) : SE X (.List es pos) (mLst mu ml) := by
  refine (pe_lst h).weak fun σ H Q ⟨F, ι, objs, σd, rel, sr, p⟩ => ?_
  obtain ⟨ws, o1, e1, p⟩ := p.bind
  refine ⟨F, ι, objs, σd, rel, sr, ?_⟩
  rw [e1]
  intro vs ι1 H1 rel1 ex1 r1
  exact lstMk_ok rel1 r1 (p.at ex1)

/-! ### xs[i] -/
def nthD (xs : List D) (i : Int) : Option D := atI xs i
def ixW (a b : W) (o : Objs) : R W :=
  match b with
  | .v (.int i) => match a with
    | .v (.str x) => match atI x.cps.toList i with
      | some c => if x.length ≤ sizeLine then .ok (.v (.str ⟨#[c]⟩)) o else .stuck
      | none => .stuck
    | a => match seqW o a with
      | some xs => match atI xs i with
        | some d => .ok (.v d) o
        | none => .stuck
      | none => match a with
        | .o k => match o[k]? with
          | some ⟨_, .lol is⟩ => match atI is i with
            | some j => .ok (.o j) o
            | none => .stuck
          | _ => .stuck
        | _ => .stuck
  | _ => .stuck
theorem atI_rel {α β : Type} {xs : List α} {ys : List β} {i : Int} {x : α} (hl : xs.length = ys.length) (h : atI xs i = some x) : ∃ (j : Nat) (y : β), xs[j]? = some x ∧ ys[j]? = some y ∧ atI ys i = some y := by
  unfold atI at h
  cases hj : ixN xs.length i with
  | none => rw [hj] at h; cases h
  | some j =>
    rw [hj] at h
    have h' : xs[j]? = some x := h
    have hlt := (List.getElem?_eq_some_iff.mp h').1
    have hlt' : j < ys.length := by omega
    refine ⟨j, ys[j], h', List.getElem?_eq_getElem hlt', ?_⟩
    unfold atI
    rw [← hl, hj]
    exact List.getElem?_eq_getElem hlt'
theorem ir_ix : IxR X (rW2 (gX X) ixW) := by
  intro value slice pins s σ H x y v u Q I rx ry ⟨F, ι, objs, w1, w2, rel, h1, h2, p⟩ hs
  unfold ixW at p
  split at p
  · rename_i i
    simp only [RW, RV] at h2
    subst h2
    split at p
    · split at p
      · rename_i c hc
        split at p
        · rename_i hz
          simp only [RW, RV] at h1
          subst h1
          exact ix_str value slice pins s σ H _ _ v u Q I rx ry ⟨_, _, c, rfl, rfl, hz, hc, p.flat rel (by simp only [RV])⟩ hs
        · exact p.elim
      · exact p.elim
    · split at p
      · rename_i xs hx
        split at p
        · rename_i d hd
          obtain ⟨a, vs, rfl, q, k⟩ := seqW_ok rel h1 hx
          obtain ⟨j, z, e1, e2, e3⟩ := atI_rel k.length hd
          obtain ⟨z', e4, e5⟩ := k.get e1
          rw [e2] at e4; cases e4
          rcases q with q | q
          · exact ix_list value slice pins s σ H _ _ v u Q I rx ry ⟨a, vs, i, z, rfl, rfl, q, e3, p.flat rel e5⟩ hs
          · exact ix_tup value slice pins s σ H _ _ v u Q I rx ry ⟨a, vs, i, z, rfl, rfl, q, e3, p.flat rel e5⟩ hs
        · exact p.elim
      · split at p
        · split at p
          · rename_i b is hs2
            split at p
            · rename_i j hj
              obtain ⟨a, ha, rfl⟩ := h1
              obtain ⟨vs, q1, q2⟩ := rel.at_ _ a _ ha hs2
              obtain ⟨m, z, e1, e2, e3⟩ := atI_rel (Paired.length q2) hj
              have e5 : RAt ι j z := by
                have gen : ∀ {is : List Nat} {vs : List V} {m : Nat}, Paired (RAt ι) is vs → is[m]? = some j → vs[m]? = some z → RAt ι j z := by
                  intro is vs m pr
                  induction pr generalizing m with
                  | nil => intro h; simp at h
                  | cons r _ ih =>
                    intro h h'
                    cases m with
                    | zero => simp at h h'; subst h h'; exact r
                    | succ m => exact ih (by simpa using h) (by simpa using h')
                exact gen q2 e1 e2
              exact ix_list value slice pins s σ H _ _ v u Q I rx ry ⟨a, vs, i, z, rfl, rfl, SqL.of q1, e3, p.ok rel e5⟩ hs
            · exact p.elim
          · exact p.elim
        · exact p.elim
  · exact p.elim
theorem se_ix (ha : SE X a ma) (hb : SE X b mb) (hs : PlainIx b) : SE X (.Subscript a b pos) (mBin ixW ma mb) := by
  refine (pe_ix ir_ix ha hb hs).weak fun σ H Q ⟨F, ι, objs, σd, rel, sr, p⟩ => ?_
  obtain ⟨x, o1, e1, p⟩ := p.bind
  refine ⟨F, ι, objs, σd, rel, sr, ?_⟩
  rw [e1]
  intro v ι1 H1 rel1 ex1 r1
  obtain ⟨y, o2, e2, p⟩ := (p.at ex1).bind
  refine ⟨F, ι1, o1, σd, rel1, sr.ext ex1, ?_⟩
  rw [e2]
  intro v2 ι2 H2 rel2 ex2 r2
  exact ⟨F, ι2, o2, x, y, rel2, r1.ext ex2, r2, p.at ex2⟩
end
end RR

set_option maxHeartbeats 4000000
namespace RR
open PySem PySem.Spec PyProof.Rows L2
def rWc (g : GE) (f : List W → Objs → R W) : List V → Hp → VK → Prop := fun xs H Q => ∃ F ι objs ws, Rel g F ι H objs ∧ RWs g ι (Al F ι objs) H ws xs ∧ Post g F ι objs H (f ws objs) Q
/-- a function of one thing; of two -/
def on1 (f : W → Objs → R W) (ws : List W) (o : Objs) : R W := match ws with | [a] => f a o | _ => .stuck
def on2 (f : W → W → Objs → R W) (ws : List W) (o : Objs) : R W := match ws with | [a, b] => f a b o | _ => .stuck
section
variable {X : Cx} {a b c e : Expr} {es : List Expr} {pos p : Pos} {ma mb mc : ME} {ml : ML} {x : Str} {bid : String}
theorem cr_on1 {cal : Value} {f : W → Objs → R W} (h : ∀ (pins : List (Addr × Obj)) (s : Shared) (σ : L2.St) (H : Hp) (x : V) (us : List Value) (Q : VK) (F : Addr → Prop) (ι : List Addr) (objs : Objs) (w : W), L2.Inv X pins σ H s → Vals [x] us → Rel (gX X) F ι H objs → RW (gX X) ι (Al F ι objs) H w x → Post (gX X) F ι objs H (f w objs) Q →
    wpAny (model X.prog X.w) X.A (call cal us) (EP X pins σ Q) X.xe s) : CallR X cal (rWc (gX X) (on1 f)) := by
  intro pins s σ H xs us Q I r ⟨F, ι, objs, ws, rel, k, p⟩
  cases k with
  | nil => exact p.elim
  | cons k1 ks =>
    cases ks with
    | nil => exact h pins s σ H _ us Q F ι objs _ I r rel k1 p
    | cons _ _ => exact p.elim
theorem cr_on2 {cal : Value} {f : W → W → Objs → R W} (h : ∀ (pins : List (Addr × Obj)) (s : Shared) (σ : L2.St) (H : Hp) (x y : V) (us : List Value) (Q : VK) (F : Addr → Prop) (ι : List Addr) (objs : Objs) (w z : W), L2.Inv X pins σ H s → Vals [x, y] us → Rel (gX X) F ι H objs → RW (gX X) ι (Al F ι objs) H w x → RW (gX X) ι (Al F ι objs) H z y → Post (gX X) F ι objs H (f w z objs) Q →
    wpAny (model X.prog X.w) X.A (call cal us) (EP X pins σ Q) X.xe s) : CallR X cal (rWc (gX X) (on2 f)) := by
  intro pins s σ H xs us Q I r ⟨F, ι, objs, ws, rel, k, p⟩
  cases k with
  | nil => exact p.elim
  | cons k1 ks =>
    cases ks with
    | nil => exact p.elim
    | cons k2 ks =>
      cases ks with
      | nil => exact h pins s σ H _ _ us Q F ι objs _ _ I r rel k1 k2 p
      | cons _ _ => exact p.elim
def mCall (f : List W → Objs → R W) (l : ML) : ME := fun σ o => (l σ o).bind f
theorem se_callB {f : List W → Objs → R W} (hc : CallR X (.builtin bid) (rWc (gX X) f)) (hg : Gl X x) (hm : X.mg x = none) (hv : bootBuiltins x = some (.builtin bid)) (ha : SA X (e :: es) ml) (hn : x ≠ "__name__") (hdb : (x == ("__debug__" : Str)) = false)
    (hst : (e :: es).all (fun e => !isStar e) = true) : SE X (.Call (.Name x p) (e :: es) [] pos) (mCall f ml) := by
  have h1 : isStar e = false := by simp only [List.all_cons, Bool.and_eq_true, Bool.not_eq_true'] at hst; exact hst.1
  have h2 : es.all (fun e => !isStar e) = true := by simp only [List.all_cons, Bool.and_eq_true] at hst; exact hst.2
  refine (pe_callB hc hg hm hv ha hn hdb (star_cons h1 _) (star_none h2)).weak fun σ H Q ⟨F, ι, objs, σd, rel, sr, p⟩ => ?_
  obtain ⟨ws, o1, e1, p⟩ := p.bind
  refine ⟨F, ι, objs, σd, rel, sr, ?_⟩
  rw [e1]
  intro vs ι1 H1 rel1 ex1 r1
  exact ⟨F, ι1, o1, ws, rel1, r1, p.at ex1⟩
theorem se_callTy {f : List W → Objs → R W} {T : String} (hc : CallR X (.type T) (rWc (gX X) f)) (hg : Gl X x) (hm : X.mg x = none) (hv : bootBuiltins x = some (.type T)) (ha : SA X (e :: es) ml) (hn : x ≠ "__name__") (hdb : (x == ("__debug__" : Str)) = false)
    (hst : (e :: es).all (fun e => !isStar e) = true) : SE X (.Call (.Name x p) (e :: es) [] pos) (mCall f ml) := by
  have h1 : isStar e = false := by simp only [List.all_cons, Bool.and_eq_true, Bool.not_eq_true'] at hst; exact hst.1
  have h2 : es.all (fun e => !isStar e) = true := by simp only [List.all_cons, Bool.and_eq_true] at hst; exact hst.2
  refine (pe_callTy hc hg hm hv ha hn hdb (star_cons h1 _) (star_none h2)).weak fun σ H Q ⟨F, ι, objs, σd, rel, sr, p⟩ => ?_
  obtain ⟨ws, o1, e1, p⟩ := p.bind
  refine ⟨F, ι, objs, σd, rel, sr, ?_⟩
  rw [e1]
  intro vs ι1 H1 rel1 ex1 r1
  exact ⟨F, ι1, o1, ws, rel1, r1, p.at ex1⟩

/-! ### the built-in functions -/
def lenW (a : W) (o : Objs) : R W :=
  match a with
  | .v (.str x) => if x.length ≤ sizeLine then .ok (.v (.int x.length)) o else .stuck
  | .v (.dic ks _) => .ok (.v (.int ks.length)) o
  | a => match seqW o a with
    | some xs => .ok (.v (.int xs.length)) o
    | none => match a with
      | .o k => match o[k]? with
        | some ⟨_, .lol is⟩ => .ok (.v (.int is.length)) o
        | some ⟨_, .dic ks _⟩ => .ok (.v (.int ks.length)) o
        | _ => .stuck
      | _ => .stuck
theorem cb_len : CallR X (.builtin "len") (rWc (gX X) (on1 lenW)) := by
  refine cr_on1 fun pins s σ H x us Q F ι objs w I r rel k p => ?_
  unfold lenW at p
  split at p
  · split at p
    · rename_i hz
      simp only [RW, RV] at k; subst k
      exact call_len pins s σ H _ us Q I r ⟨_, _, rfl, ⟨hz, rfl⟩, p.flat rel (by simp only [RV])⟩
    · exact p.elim
  · simp only [RW, RV] at k
    obtain ⟨a, kvs, rfl, h1, h2, h3, h4⟩ := k
    refine call_lenD pins s σ H _ us Q I r ⟨a, kvs, rfl, h2, p.flat rel ?_⟩
    simp only [RV, h3, List.length_map]
  · split at p
    · rename_i xs hx
      obtain ⟨a, vs, rfl, q, k2⟩ := seqW_ok rel k hx
      refine call_len pins s σ H _ us Q I r ⟨_, vs.length, rfl, q.elim (fun q => .inl ⟨vs, q, rfl⟩) (fun q => .inr ⟨vs, q, rfl⟩), p.flat rel ?_⟩
      simp only [RV, k2.length]
    · split at p
      · split at p
        · rename_i is hs
          obtain ⟨a, ha, rfl⟩ := k
          obtain ⟨vs, q1, q2⟩ := rel.at_ _ a _ ha hs
          refine call_len pins s σ H _ us Q I r ⟨_, vs.length, rfl, .inl ⟨vs, SqL.of q1, rfl⟩, p.flat rel ?_⟩
          simp only [RV]; rw [Paired.length q2]
        · rename_i ks ds hs
          obtain ⟨a, ha, rfl⟩ := k
          obtain ⟨kvs, q1, q2, q3⟩ := rel.at_ _ a _ ha hs
          refine call_lenD pins s σ H _ us Q I r ⟨a, kvs, rfl, q1, p.flat rel ?_⟩
          simp only [RV, q2, List.length_map]
        · exact p.elim
      · exact p.elim
def absW (a : W) (o : Objs) : R W := match a with | .v (.int i) => .ok (.v (.int (if i < 0 then -i else i))) o | _ => .stuck
theorem cb_abs : CallR X (.builtin "abs") (rWc (gX X) (on1 absW)) := by
  refine cr_on1 fun pins s σ H x us Q F ι objs w I r rel k p => ?_
  unfold absW at p
  split at p
  · simp only [RW, RV] at k; subst k
    exact call_abs pins s σ H _ us Q I r ⟨_, rfl, p.flat rel (by simp only [RV])⟩
  · exact p.elim
def intW (a : W) (o : Objs) : R W := match a with | .v (.int i) => .ok (.v (.int i)) o | .v (.bl k) => .ok (.v (.int (if k then 1 else 0))) o | _ => .stuck
theorem ct_int : CallR X (.type "int") (rWc (gX X) (on1 intW)) := by
  refine cr_on1 fun pins s σ H x us Q F ι objs w I r rel k p => ?_
  unfold intW at p
  split at p
  · simp only [RW, RV] at k; subst k
    exact call_int1 pins s σ H _ us Q I r (.inl ⟨_, rfl, p.flat rel (by simp only [RV])⟩)
  · simp only [RW, RV] at k; subst k
    exact call_int1 pins s σ H _ us Q I r (.inr ⟨_, rfl, p.flat rel (by simp only [RV])⟩)
  · exact p.elim
def divmodW (a b : W) (o : Objs) : R W := match a, b with | .v (.int i), .v (.int j) => if CDiv i j then .ok (.v (.tup [.int (i / j), .int (i % j)])) o else .stuck | _, _ => .stuck
theorem cb_divmod : CallR X (.builtin "divmod") (rWc (gX X) (on2 divmodW)) := by
  refine cr_on2 fun pins s σ H x y us Q F ι objs w z I r rel k k2 p => ?_
  unfold divmodW at p
  split at p
  · split at p
    · rename_i hc
      simp only [RW, RV] at k k2; subst k k2
      exact call_divmod pins s σ H _ us Q I r ⟨_, _, rfl, hc, fun q hq => p.freshT rel hq (by simp [RVs, RV])⟩
    · exact p.elim
  · exact p.elim
/-- lists of ints, of bools, of texts -/
def intsD : List D → Option (List Int)
  | [] => some []
  | .int i :: ds => match intsD ds with | some is => some (i :: is) | none => none
  | _ :: _ => none
def boolsD : List D → Option (List Bool)
  | [] => some []
  | .bl i :: ds => match boolsD ds with | some is => some (i :: is) | none => none
  | _ :: _ => none
def strsD : List D → Option (List Str)
  | [] => some []
  | .str i :: ds => match strsD ds with | some is => some (i :: is) | none => none
  | _ :: _ => none
theorem intsD_map : ∀ is : List Int, intsD (is.map D.int) = some is
  | [] => rfl
  | i :: is => by simp only [List.map_cons, intsD, intsD_map is]
theorem boolsD_map : ∀ is : List Bool, boolsD (is.map D.bl) = some is
  | [] => rfl
  | i :: is => by simp only [List.map_cons, boolsD, boolsD_map is]
theorem strsD_map : ∀ is : List Str, strsD (is.map D.str) = some is
  | [] => rfl
  | i :: is => by simp only [List.map_cons, strsD, strsD_map is]
theorem intsD_ok {g : GE} {A : Addr → Prop} {H : Hp} : ∀ {ds : List D} {is : List Int} {vs : List V}, intsD ds = some is → RVs g A H ds vs → vs = is.map V.int
  | [], is, vs, h, k => by cases h; simpa [RVs] using k
  | d :: ds, is, vs, h, k => by
    simp only [RVs] at k
    obtain ⟨v, r, rfl, k1, k2⟩ := k
    cases d <;> simp only [intsD, reduceCtorEq] at h
    split at h
    · rename_i js hj
      cases h
      simp only [RV] at k1
      rw [intsD_ok hj k2, k1]; rfl
    · cases h
theorem boolsD_ok {g : GE} {A : Addr → Prop} {H : Hp} : ∀ {ds : List D} {is : List Bool} {vs : List V}, boolsD ds = some is → RVs g A H ds vs → vs = is.map V.bl
  | [], is, vs, h, k => by cases h; simpa [RVs] using k
  | d :: ds, is, vs, h, k => by
    simp only [RVs] at k
    obtain ⟨v, r, rfl, k1, k2⟩ := k
    cases d <;> simp only [boolsD, reduceCtorEq] at h
    split at h
    · rename_i js hj
      cases h
      simp only [RV] at k1
      rw [boolsD_ok hj k2, k1]; rfl
    · cases h
theorem strsD_ok {g : GE} {A : Addr → Prop} {H : Hp} : ∀ {ds : List D} {is : List Str} {vs : List V}, strsD ds = some is → RVs g A H ds vs → vs = is.map V.str
  | [], is, vs, h, k => by cases h; simpa [RVs] using k
  | d :: ds, is, vs, h, k => by
    simp only [RVs] at k
    obtain ⟨v, r, rfl, k1, k2⟩ := k
    cases d <;> simp only [strsD, reduceCtorEq] at h
    split at h
    · rename_i js hj
      cases h
      simp only [RV] at k1
      rw [strsD_ok hj k2, k1]; rfl
    · cases h
def sumW (a : W) (o : Objs) : R W := match lstW o a with | some xs => (match intsD xs with | some is => .ok (.v (.int is.sum)) o | none => .stuck) | none => .stuck
theorem cb_sum (hc : X.calm = true) : CallR X (.builtin "sum") (rWc (gX X) (on1 sumW)) := by
  refine cr_on1 fun pins s σ H x us Q F ι objs w I r rel k p => ?_
  unfold sumW at p
  split at p
  · rename_i xs hx
    split at p
    · rename_i is hi
      obtain ⟨a, vs, rfl, q, k2⟩ := lstW_ok rel k hx
      rw [intsD_ok hi k2] at q
      exact cr_sum hc pins s σ H _ us Q I r ⟨a, is, rfl, SqL.of q, p.flat rel (by simp only [RV])⟩
    · exact p.elim
  · exact p.elim
def maxI : List Int → Int
  | [] => 0
  | [i] => i
  | i :: is => max i (maxI is)
def minI : List Int → Int
  | [] => 0
  | [i] => i
  | i :: is => min i (minI is)
theorem maxI_mem : ∀ {is : List Int}, 0 < is.length → maxI is ∈ is ∧ ∀ y ∈ is, y ≤ maxI is
  | [], h => by simp at h
  | [i], _ => by simp [maxI]
  | i :: j :: is, _ => by
    obtain ⟨h1, h2⟩ := maxI_mem (is := j :: is) (by simp)
    simp only [maxI]
    refine ⟨?_, fun y hy => ?_⟩
    · rcases Int.le_total i (maxI (j :: is)) with h | h
      · rw [Int.max_eq_right h]; exact List.mem_cons_of_mem _ h1
      · rw [Int.max_eq_left h]; simp
    · rcases List.mem_cons.mp hy with rfl | hy
      · exact Int.le_max_left _ _
      · exact Int.le_trans (h2 y hy) (Int.le_max_right _ _)
theorem minI_mem : ∀ {is : List Int}, 0 < is.length → minI is ∈ is ∧ ∀ y ∈ is, minI is ≤ y
  | [], h => by simp at h
  | [i], _ => by simp [minI]
  | i :: j :: is, _ => by
    obtain ⟨h1, h2⟩ := minI_mem (is := j :: is) (by simp)
    simp only [minI]
    refine ⟨?_, fun y hy => ?_⟩
    · rcases Int.le_total i (minI (j :: is)) with h | h
      · rw [Int.min_eq_left h]; simp
      · rw [Int.min_eq_right h]; exact List.mem_cons_of_mem _ h1
    · rcases List.mem_cons.mp hy with rfl | hy
      · exact Int.min_le_left _ _
      · exact Int.le_trans (Int.min_le_right _ _) (h2 y hy)
def maxW (ws : List W) (o : Objs) : R W := match ws with
  | [.v (.int i), .v (.int j)] => .ok (.v (.int (if j > i then j else i))) o
  | [a] => (match lstW o a with | some xs => (match intsD xs with | some is => if 0 < is.length then .ok (.v (.int (maxI is))) o else .stuck | none => .stuck) | none => .stuck)
  | _ => .stuck
def minW (ws : List W) (o : Objs) : R W := match ws with
  | [.v (.int i), .v (.int j)] => .ok (.v (.int (if j < i then j else i))) o
  | [a] => (match lstW o a with | some xs => (match intsD xs with | some is => if 0 < is.length then .ok (.v (.int (minI is))) o else .stuck | none => .stuck) | none => .stuck)
  | _ => .stuck
theorem paired1 {α β : Type} {P : α → β → Prop} {a : α} {ys : List β} (h : Paired P [a] ys) : ∃ y, ys = [y] ∧ P a y := by
  cases h with | cons h t => cases t; exact ⟨_, rfl, h⟩
theorem paired2 {α β : Type} {P : α → β → Prop} {a b : α} {ys : List β} (h : Paired P [a, b] ys) : ∃ y z, ys = [y, z] ∧ P a y ∧ P b z := by
  cases h with | cons h t => cases t with | cons h2 t => cases t; exact ⟨_, _, rfl, h, h2⟩
theorem cb_max (hc : X.calm = true) : CallR X (.builtin "max") (rWc (gX X) maxW) := by
  intro pins s σ H xs us Q I r ⟨F, ι, objs, ws, rel, k, p⟩
  unfold maxW at p
  split at p
  · obtain ⟨y, z, rfl, k1, k2⟩ := paired2 k
    simp only [RW, RV] at k1 k2; subst k1 k2
    exact call_max2 hc pins s σ H _ us Q I r ⟨_, _, rfl, p.flat rel (by simp only [RV])⟩
  · obtain ⟨y, rfl, k1⟩ := paired1 k
    split at p
    · rename_i xs hx
      split at p
      · rename_i is hi
        split at p
        · rename_i hl
          obtain ⟨a, vs, rfl, q, k2⟩ := lstW_ok rel k1 hx
          rw [intsD_ok hi k2] at q
          refine cr_max hc pins s σ H _ us Q I r ⟨a, is, rfl, SqL.of q, hl, fun m hm hy => ?_⟩
          have := maxI_mem hl
          have e : m = maxI is := Int.le_antisymm (this.2 m hm) (hy _ this.1)
          subst e
          exact p.flat rel (by simp only [RV])
        · exact p.elim
      · exact p.elim
    · exact p.elim
  · exact p.elim
theorem cb_min (hc : X.calm = true) : CallR X (.builtin "min") (rWc (gX X) minW) := by
  intro pins s σ H xs us Q I r ⟨F, ι, objs, ws, rel, k, p⟩
  unfold minW at p
  split at p
  · obtain ⟨y, z, rfl, k1, k2⟩ := paired2 k
    simp only [RW, RV] at k1 k2; subst k1 k2
    exact call_min2 hc pins s σ H _ us Q I r ⟨_, _, rfl, p.flat rel (by simp only [RV])⟩
  · obtain ⟨y, rfl, k1⟩ := paired1 k
    split at p
    · rename_i xs hx
      split at p
      · rename_i is hi
        split at p
        · rename_i hl
          obtain ⟨a, vs, rfl, q, k2⟩ := lstW_ok rel k1 hx
          rw [intsD_ok hi k2] at q
          refine cr_min hc pins s σ H _ us Q I r ⟨a, is, rfl, SqL.of q, hl, fun m hm hy => ?_⟩
          have := minI_mem hl
          have e : m = minI is := Int.le_antisymm (hy _ this.1) (this.2 m hm)
          subst e
          exact p.flat rel (by simp only [RV])
        · exact p.elim
      · exact p.elim
    · exact p.elim
  · exact p.elim
def anyW (a : W) (o : Objs) : R W := match lstW o a with | some xs => (match boolsD xs with | some is => .ok (.v (.bl (is.any id))) o | none => .stuck) | none => .stuck
def allW (a : W) (o : Objs) : R W := match lstW o a with | some xs => (match boolsD xs with | some is => .ok (.v (.bl (is.all id))) o | none => .stuck) | none => .stuck
theorem cb_any (hc : X.calm = true) : CallR X (.builtin "any") (rWc (gX X) (on1 anyW)) := by
  refine cr_on1 fun pins s σ H x us Q F ι objs w I r rel k p => ?_
  unfold anyW at p
  split at p
  · rename_i xs hx
    split at p
    · rename_i is hi
      obtain ⟨a, vs, rfl, q, k2⟩ := lstW_ok rel k hx
      rw [boolsD_ok hi k2] at q
      exact cr_any hc pins s σ H _ us Q I r ⟨a, is, rfl, SqL.of q, p.flat rel (by simp only [RV])⟩
    · exact p.elim
  · exact p.elim
theorem cb_all (hc : X.calm = true) : CallR X (.builtin "all") (rWc (gX X) (on1 allW)) := by
  refine cr_on1 fun pins s σ H x us Q F ι objs w I r rel k p => ?_
  unfold allW at p
  split at p
  · rename_i xs hx
    split at p
    · rename_i is hi
      obtain ⟨a, vs, rfl, q, k2⟩ := lstW_ok rel k hx
      rw [boolsD_ok hi k2] at q
      exact cr_all hc pins s σ H _ us Q I r ⟨a, is, rfl, SqL.of q, p.flat rel (by simp only [RV])⟩
    · exact p.elim
  · exact p.elim
/-- list(xs), tuple(xs) -/
def listW (mu : Bool) (a : W) (o : Objs) : R W := match seqW o a with | some xs => if xs.length ≤ sizeLine then (if mu then .ok (.o o.length) (o ++ [⟨true, .lst xs⟩]) else .ok (.v (.lst xs)) o) else .stuck | none => .stuck
theorem ct_list {mu : Bool} : CallR X (.type "list") (rWc (gX X) (on1 (listW mu))) := by
  refine cr_on1 fun pins s σ H x us Q F ι objs w I r rel k p => ?_
  unfold listW at p
  split at p
  · rename_i xs hx
    obtain ⟨a, vs, rfl, q, k2⟩ := seqW_ok rel k hx
    split at p
    · split at p
      · exact call_list_of pins s σ H _ us Q I r ⟨a, vs, rfl, q, fun l hl => p.freshM rel hl k2⟩
      · exact call_list_of pins s σ H _ us Q I r ⟨a, vs, rfl, q, fun l hl => p.freshL rel hl k2⟩
    · exact p.elim
  · exact p.elim
def tupleW (a : W) (o : Objs) : R W := match a with
  | .v (.tup xs) => .ok (.v (.tup xs)) o
  | a => match lstW o a with
    | some xs => .ok (.v (.tup xs)) o
    | none => .stuck
theorem ct_tuple : CallR X (.type "tuple") (rWc (gX X) (on1 tupleW)) := by
  refine cr_on1 fun pins s σ H x us Q F ι objs w I r rel k p => ?_
  unfold tupleW at p
  split at p
  · have k0 := k
    simp only [RW, RV] at k
    obtain ⟨a, vs, rfl, h1, h2, h3⟩ := k
    exact call_tuple_of pins s σ H _ us Q I r ⟨a, vs, rfl, .inr ⟨SqT.of h2, p.ok rel k0⟩⟩
  · split at p
    · rename_i xs hx
      obtain ⟨a, vs, rfl, q, k2⟩ := lstW_ok rel k hx
      exact call_tuple_of pins s σ H _ us Q I r ⟨a, vs, rfl, .inl ⟨SqL.of q, fun l hl => p.freshT rel hl k2⟩⟩
    · exact p.elim
/-! ### isinstance with a built-in class -/
def tyD : D → Option String
  | .non => some "NoneType"
  | .bl _ => some "bool"
  | .int _ => some "int"
  | .str _ => some "str"
  | .tup _ => some "tuple"
  | .lst _ => some "list"
  | .dic _ _ => some "dict"
  | _ => none
def tyW (o : Objs) : W → Option String
  | .v d => tyD d
  | .o i => match o[i]? with
    | some ⟨_, .lst _⟩ => some "list"
    | some ⟨_, .lol _⟩ => some "list"
    | some ⟨_, .dic _ _⟩ => some "dict"
    | _ => none
theorem tyW_ok {g : GE} {F : Addr → Prop} {ι : List Addr} {H : Hp} {o : Objs} {w : W} {v : V} {n : String} (rel : Rel g F ι H o) (h : RW g ι (Al F ι o) H w v) (e : tyW o w = some n) : TyX g.K H v (.type n) := by
  cases w with
  | v d =>
    cases d <;> simp only [tyW, tyD, Option.some.injEq, reduceCtorEq] at e <;> subst e <;> simp only [RW, RV] at h
    · subst h; exact .base .non
    · subst h; exact .base (.bl _)
    · subst h; exact .base (.int _)
    · subst h; exact .base (.str _)
    · obtain ⟨a, vs, rfl, h1, h2, h3⟩ := h; exact .base (.tup h2)
    · obtain ⟨a, vs, rfl, h1, h2, h3⟩ := h; exact .base (.lst h2)
    · obtain ⟨a, vs, rfl, h1, h2, h3⟩ := h; exact .base (.dK h2)
  | o i =>
    obtain ⟨a, ha, rfl⟩ := h
    simp only [tyW] at e
    split at e
    · rename_i hs; cases e
      obtain ⟨vs, q1, q2⟩ := rel.at_ _ a _ ha hs
      exact .base (.lst q1)
    · rename_i hs; cases e
      obtain ⟨vs, q1, q2⟩ := rel.at_ _ a _ ha hs
      exact .base (.lst q1)
    · rename_i hs; cases e
      obtain ⟨vs, q1, q2⟩ := rel.at_ _ a _ ha hs
      exact .base (.dK q1)
    · cases e
def isiW (a b : W) (o : Objs) : R W := match b with
  | .v (.ty n) => match tyW o a with
    | some m => match kitB m n with
      | some k => .ok (.v (.bl k)) o
      | none => .stuck
    | none => .stuck
  | _ => .stuck
theorem cb_isi : CallR X (.builtin "isinstance") (rWc (gX X) (on2 isiW)) := by
  refine cr_on2 fun pins s σ H x y us Q F ι objs w z I r rel k k2 p => ?_
  unfold isiW at p
  split at p
  · split at p
    · rename_i m hm
      split at p
      · rename_i b hb
        simp only [RW, RV] at k2; subst k2
        exact call_isi pins s σ H _ us Q I r ⟨_, _, _, _, b, rfl, .ty _, tyW_ok rel k hm, kit_ty hb, p.flat rel (by simp only [RV])⟩
      · exact p.elim
    · exact p.elim
  · exact p.elim
end
end RR

set_option maxHeartbeats 4000000
namespace RR
open PySem PySem.Spec PyProof.Rows L2
/-! ### slices -/
def cutD (xs : List D) (lo hi : Option Int) : List D := (xs.drop (HT.sIx xs.length 0 lo)).take (HT.sIx xs.length xs.length hi - HT.sIx xs.length 0 lo)
/-- the items of a list, the script's too -/
def lsqW (objs : Objs) : W → Option (List D)
  | .v (.lst xs) => some xs
  | .v (.scr xs) => some xs
  | .o i => match objs[i]? with
    | some ⟨_, .lst xs⟩ => some xs
    | _ => none
  | _ => none
theorem lsqW_ok {g : GE} {F : Addr → Prop} {ι : List Addr} {H : Hp} {objs : Objs} {w : W} {v : V} {xs : List D} (r : Rel g F ι H objs) (h : RW g ι (Al F ι objs) H w v) (e : lsqW objs w = some xs) : ∃ a vs, v = .ref a ∧ SqL g.K H a vs ∧ RVs g (Al F ι objs) H xs vs := by
  cases w with
  | v d =>
    cases d <;> simp only [lsqW, Option.some.injEq, reduceCtorEq] at e
    · subst e
      simp only [RW, RV] at h
      obtain ⟨a, vs, h1, h2, h3, h4⟩ := h
      exact ⟨a, vs, h1, SqL.of h3, h4⟩
    · subst e
      simp only [RW, RV] at h
      obtain ⟨a, vs, h1, h2, h4⟩ := h
      refine ⟨a, vs, h1, ?_, h4⟩
      rcases h2 with ⟨_, h2⟩ | h2
      · exact .inl h2
      · exact .inr h2
  | o i =>
    have e' : lstW objs (.o i) = some xs := e
    obtain ⟨a, vs, h1, h2, h3⟩ := lstW_ok r h e'
    exact ⟨a, vs, h1, SqL.of h2, h3⟩
def slW (mu : Bool) (a : W) (lo hi : Option Int) (o : Objs) : R W :=
  match a with
  | .v (.str x) => if x.length ≤ sizeLine then .ok (.v (.str (cutS x lo hi))) o else .stuck
  | .v (.tup xs) => .ok (.v (.tup (cutD xs lo hi))) o
  | a => match lsqW o a with
    | some xs => if mu then .ok (.o o.length) (o ++ [⟨true, .lst (cutD xs lo hi)⟩]) else .ok (.v (.lst (cutD xs lo hi))) o
    | none => .stuck
/-- an end of a slice -/
abbrev MO' := Sl → Objs → R (Option Int)
def mPart : Option ME → MO'
  | none => fun _ o => .ok none o
  | some m => fun σ o => (m σ o).bind fun x o => match x with | .v (.int i) => .ok (some i) o | _ => .stuck
def mSl (mu : Bool) (a : ME) (lo hi : Option ME) : ME := fun σ o => (a σ o).bind fun x o => (mPart lo σ o).bind fun l o => (mPart hi σ o).bind fun h o => slW mu x l h o
theorem cutD_ok {g : GE} {A : Addr → Prop} {H : Hp} {ds : List D} {vs : List V} (lo hi : Option Int) (h : RVs g A H ds vs) : RVs g A H (cutD ds lo hi) (cutV vs lo hi) := by
  unfold cutD cutV
  rw [h.length]
  exact (h.drop _).take _
def notSuper : Expr → Bool
  | .Call (.Name _ _) [] [] _ => false
  | _ => true
theorem attr_base {o : Expr} (h : notSuper o = true) (attr : Str) (env : Env) (whole : Sem Value) : attributeBase o attr env whole = whole := by
  unfold attributeBase
  split
  · simp [notSuper] at h
  · rfl
section
variable {X : Cx} {a b c e o : Expr} {es : List Expr} {pos p : Pos} {ma mb mc : ME} {ml : ML}
theorem sr_sl {mu : Bool} : SlR X (fun x lo hi H Q => ∃ F ι objs w, Rel (gX X) F ι H objs ∧ RW (gX X) ι (Al F ι objs) H w x ∧ Post (gX X) F ι objs H (slW mu w lo hi objs) Q) := by
  intro pins s σ H x v vl vu lo hi sl Q I rx hs pl pu ⟨F, ι, objs, w, rel, k, p⟩
  unfold slW at p
  split at p
  · split at p
    · rename_i hz
      simp only [RW, RV] at k; subst k
      exact sl_str pins s σ H _ v vl vu lo hi sl Q I rx hs pl pu ⟨_, rfl, hz, p.flat rel (by simp only [RV])⟩
    · exact p.elim
  · have k0 := k
    simp only [RW, RV] at k
    obtain ⟨a, vs, rfl, h1, h2, h3⟩ := k
    refine sl_tupA pins s σ H _ v vl vu lo hi sl Q I rx hs pl pu ⟨a, vs, rfl, SqT.of h2, fun e => ?_, fun _ q hq => p.freshT rel hq (cutD_ok lo hi h3)⟩
    refine p.flat rel ?_
    rename_i xs
    have : cutD xs lo hi = xs := by
      unfold cutD
      rw [h3.length, e.1, e.2]
      simp only [Nat.sub_zero, List.drop_zero]
      rw [← h3.length, List.take_length]
    rw [this]
    exact k0
  · split at p
    · rename_i xs hx
      obtain ⟨a, vs, rfl, q, k2⟩ := lsqW_ok rel k hx
      split at p
      · exact sl_list pins s σ H _ v vl vu lo hi sl Q I rx hs pl pu ⟨a, vs, rfl, q, fun q hq => p.freshM rel hq (cutD_ok lo hi k2)⟩
      · exact sl_list pins s σ H _ v vl vu lo hi sl Q I rx hs pl pu ⟨a, vs, rfl, q, fun q hq => p.freshL rel hq (cutD_ok lo hi k2)⟩
    · exact p.elim
/-- the part of a slice -/
def PostO (g : GE) (F : Addr → Prop) (ι : List Addr) (objs : Objs) (H : Hp) (r : R (Option Int)) (Q : Option Int → Hp → Prop) : Prop :=
  match r with
  | .ok b objs' => ∀ ι' H', Rel g F ι' H' objs' → Ext ι objs H ι' objs' H' → Q b H'
  | .exc _ _ => False
  | .stuck => False
abbrev SO (X : Cx) (e : Option Expr) (m : MO') : Prop := PO X e (fun σ H Q => ∃ F ι objs σd, Rel (gX X) F ι H objs ∧ SRel (gX X) ι (Al F ι objs) H σd σ ∧ PostO (gX X) F ι objs H (m σd objs) Q)
theorem so_none : SO X none (mPart none) := ⟨fun pins s σ H Q I ⟨F, ι, objs, σd, rel, sr, p⟩ => po_none.run pins s σ H Q I (p ι H rel .refl)⟩
theorem so_some (h : SE X e ma) : SO X (some e) (mPart (some ma)) := ⟨fun pins s σ H Q I ⟨F, ι, objs, σd, rel, sr, p⟩ => (po_some h).run pins s σ H Q I (by
  simp only [mPart] at p
  refine ⟨F, ι, objs, σd, rel, sr, ?_⟩
  cases e1 : ma σd objs with
  | exc _ _ => rw [e1] at p; exact p.elim
  | stuck => rw [e1] at p; exact p.elim
  | ok x o1 =>
    rw [e1, R.bind_ok] at p
    split at p
    · intro v ι1 H1 rel1 ex1 r1
      simp only [RW, RV] at r1; subst r1
      exact ⟨_, rfl, p ι1 H1 rel1 ex1⟩
    · exact p.elim)⟩
theorem se_slice {mu : Bool} {lo hi : Option Expr} {nl nh : Option ME} {p2 : Pos} (he : SE X e ma) (hl : SO X lo (mPart nl)) (hu : SO X hi (mPart nh)) : SE X (.Subscript e (.Slice lo hi none p2) pos) (mSl mu ma nl nh) := by
  refine (pe_slice (sr_sl (mu := mu)) he hl hu).weak fun σ H Q ⟨F, ι, objs, σd, rel, sr, p⟩ => ?_
  obtain ⟨x, o1, e1, p⟩ := p.bind
  refine ⟨F, ι, objs, σd, rel, sr, ?_⟩
  rw [e1]
  intro v ι1 H1 rel1 ex1 r1
  obtain ⟨l, o2, e2, p⟩ := (p.at ex1).bind
  refine ⟨F, ι1, o1, σd, rel1, sr.ext ex1, ?_⟩
  rw [e2]
  intro ι2 H2 rel2 ex2
  obtain ⟨u, o3, e3, p⟩ := (p.at ex2).bind
  refine ⟨F, ι2, o2, σd, rel2, (sr.ext ex1).ext ex2, ?_⟩
  rw [e3]
  intro ι3 H3 rel3 ex3
  exact ⟨F, ι3, o3, x, rel3, (r1.ext ex2).ext ex3, p.at ex3⟩
def revW (a : W) (o : Objs) : R W := match lsqW o a with | some xs => .ok (.v (.lst xs.reverse)) o | none => .stuck
theorem se_rev {k : Nat} {p1 p2 p3 : Pos} (he : SE X e ma) : SE X (.Subscript e (.Slice none none (some (.UnaryOp .USub (.Constant (.int 1) k p1) p2)) p3) pos) (mUn revW ma) := by
  refine (pe_revL he).weak fun σ H Q ⟨F, ι, objs, σd, rel, sr, p⟩ => ?_
  obtain ⟨x, o1, e1, p⟩ := p.bind
  refine ⟨F, ι, objs, σd, rel, sr, ?_⟩
  rw [e1]
  intro v ι1 H1 rel1 ex1 r1
  have p := p.at ex1
  unfold revW at p
  split at p
  · rename_i xs hx
    obtain ⟨a, vs, rfl, q, k2⟩ := lsqW_ok rel1 r1 hx
    exact ⟨a, vs, rfl, q, fun q hq => p.freshL rel1 hq k2.reverse⟩
  · exact p.elim

/-! ### methods of built-in types -/
def rWm (g : GE) (f : W → List W → Objs → R W) : V → List V → Hp → VK → Prop := fun x xs H Q => ∃ F ι objs w ws, Rel g F ι H objs ∧ RW g ι (Al F ι objs) H w x ∧ RWs g ι (Al F ι objs) H ws xs ∧ Post g F ι objs H (f w ws objs) Q
def mtyOk (T : String) (o : Objs) (w : W) : Bool := match T, w with
  | "str", .v (.str _) => true
  | "list", w => match w with
    | .v (.lst _) => true
    | .o i => match o[i]? with
      | some ⟨_, .lst _⟩ => true
      | some ⟨_, .lol _⟩ => true
      | _ => false
    | _ => false
  | "dict", w => match w with
    | .v (.dic _ _) => true
    | .o i => match o[i]? with
      | some ⟨_, .dic _ _⟩ => true
      | _ => false
    | _ => false
  | _, _ => false
theorem mty_ok {T : String} {F : Addr → Prop} {ι : List Addr} {H : Hp} {objs : Objs} {w : W} {v : V} (rel : Rel (gX X) F ι H objs) (k : RW (gX X) ι (Al F ι objs) H w v) (h : mtyOk T objs w = true) : tyV X.K T v H := by
  unfold mtyOk at h
  split at h
  · simp only [RW, RV] at k; subst k; rfl
  · split at h
    · simp only [RW, RV] at k
      obtain ⟨a, vs, rfl, h1, h2, h3⟩ := k
      exact .inl ⟨rfl, vs, SqL.of h2⟩
    · obtain ⟨a, ha, rfl⟩ := k
      split at h
      · rename_i hs
        obtain ⟨vs, q1, q2⟩ := rel.at_ _ a _ ha hs
        exact .inl ⟨rfl, vs, SqL.of q1⟩
      · rename_i hs
        obtain ⟨vs, q1, q2⟩ := rel.at_ _ a _ ha hs
        exact .inl ⟨rfl, vs, SqL.of q1⟩
      · cases h
    · cases h
  · split at h
    · simp only [RW, RV] at k
      obtain ⟨a, vs, rfl, h1, h2, h3⟩ := k
      exact .inr (.inr (.inl ⟨rfl, .inl ⟨vs, h2⟩⟩))
    · obtain ⟨a, ha, rfl⟩ := k
      split at h
      · rename_i hs
        obtain ⟨vs, q1, q2⟩ := rel.at_ _ a _ ha hs
        exact .inr (.inr (.inl ⟨rfl, .inl ⟨vs, q1⟩⟩))
      · cases h
    · cases h
  · cases h
def mBM (T : String) (f : W → List W → Objs → R W) (a : ME) (l : ML) : ME := fun σ o => (a σ o).bind fun x o => if mtyOk T o x = true then (l σ o).bind fun ws o => f x ws o else .stuck
theorem star_all {env : Env} {cpos : Pos} : ∀ {es : List Expr}, es.all (fun e => !isStar e) = true → (backTo cpos (starEach es env)).all (fun x => !x.1) = true
  | [], _ => rfl
  | e :: es, h => by
    simp only [List.all_cons, Bool.and_eq_true, Bool.not_eq_true'] at h
    rw [star_cons h.1]
    have := star_all (env := env) (cpos := cpos) h.2
    simp only [backTo, List.map_cons, List.all_cons, Bool.not_false, Bool.true_and] at this ⊢
    exact this
theorem se_bm {T mid : String} {name : Str} {apos cpos : Pos} {f : W → List W → Objs → R W} (pa : PlainAttrs T) (slot : Slot T name mid) (hty : typeOf (.builtin mid) = pure (.type "method_descriptor")) (hm : MtR X mid (rWm (gX X) f)) (ho : SE X o ma) (ha : SA X (e :: es) ml)
    (hb : notSuper o = true) (hline : (apos.endLine == cpos.line) = true) (hst : (e :: es).all (fun e => !isStar e) = true) (hlen : es.length < 28) : SE X (.Call (.Attribute o name apos) (e :: es) [] cpos) (mBM T f ma ml) := by
  have h1 : isStar e = false := by simp only [List.all_cons, Bool.and_eq_true, Bool.not_eq_true'] at hst; exact hst.1
  have h2 : es.all (fun e => !isStar e) = true := by simp only [List.all_cons, Bool.and_eq_true] at hst; exact hst.2
  refine (pe_bm pa slot hty hm ho ha (attr_base hb _ _ _) ?_ hline (star_cons h1 _) (star_none h2)).weak fun σ H Q ⟨F, ι, objs, σd, rel, sr, p⟩ => ?_
  · rw [star_all hst]
    simp only [keywordEach, backToKw, List.map_nil, List.all_nil, Bool.true_and, List.length_cons, List.length_nil, List.isEmpty_nil, if_true, decide_eq_true_eq]
    omega
  · obtain ⟨x, o1, e1, p⟩ := p.bind
    refine ⟨F, ι, objs, σd, rel, sr, ?_⟩
    rw [e1]
    intro v ι1 H1 rel1 ex1 r1
    have p := p.at ex1
    split at p
    · rename_i ht
      refine ⟨mty_ok rel1 r1 ht, ?_⟩
      obtain ⟨ws, o2, e2, p⟩ := p.bind
      refine ⟨F, ι1, o1, σd, rel1, sr.ext ex1, ?_⟩
      rw [e2]
      intro vs ι2 H2 rel2 ex2 r2
      exact ⟨F, ι2, o2, x, ws, rel2, r1.ext ex2, r2, p.at ex2⟩
    · exact p.elim
theorem se_bm0 {T mid : String} {name : Str} {apos cpos : Pos} {f : W → List W → Objs → R W} (pa : PlainAttrs T) (slot : Slot T name mid) (hty : typeOf (.builtin mid) = pure (.type "method_descriptor")) (hm : MtR X mid (rWm (gX X) f)) (ho : SE X o ma)
    (hb : notSuper o = true) (hline : (apos.endLine == cpos.line) = true) : SE X (.Call (.Attribute o name apos) [] [] cpos) (mBM T f ma mNil) := by
  refine (pe_bm0 pa slot hty hm ho (attr_base hb _ _ _) hline).weak fun σ H Q ⟨F, ι, objs, σd, rel, sr, p⟩ => ?_
  obtain ⟨x, o1, e1, p⟩ := p.bind
  refine ⟨F, ι, objs, σd, rel, sr, ?_⟩
  rw [e1]
  intro v ι1 H1 rel1 ex1 r1
  have p := p.at ex1
  split at p
  · rename_i ht
    exact ⟨mty_ok rel1 r1 ht, F, ι1, o1, x, [], rel1, r1, .nil, p⟩
  · exact p.elim
def idxS (a : W) (ws : List W) (o : Objs) : R W := match a, ws with
  | .v (.str x), [.v (.str y)] => match Builtin.Str.occurrences x y 0 x.length 1 with
    | i :: _ => .ok (.v (.int (i : Nat))) o
    | [] => .stuck
  | _, _ => .stuck
theorem mr_idx : MtR X "str.index" (rWm (gX X) idxS) := by
  intro pins s σ H x xs v us Q I rx rs ⟨F, ι, objs, w, ws, rel, k, k2, p⟩
  unfold idxS at p
  split at p
  · split at p
    · rename_i hq
      obtain ⟨y, rfl, kk⟩ := paired1 k2
      simp only [RW, RV] at k kk; subst k kk
      exact mt_sindex pins s σ H _ _ v us Q I rx rs ⟨_, _, _, _, rfl, rfl, hq, p.flat rel (by simp only [RV])⟩
    · exact p.elim
  · exact p.elim
def rstripS (a : W) (ws : List W) (o : Objs) : R W := match a, ws with
  | .v (.str x), [.v (.str y)] => if x.length ≤ sizeLine then .ok (.v (.str (Txt.rstripChars x y))) o else .stuck
  | _, _ => .stuck
theorem mr_rstrip : MtR X "str.rstrip" (rWm (gX X) rstripS) := by
  intro pins s σ H x xs v us Q I rx rs ⟨F, ι, objs, w, ws, rel, k, k2, p⟩
  unfold rstripS at p
  split at p
  · split at p
    · rename_i hq
      obtain ⟨y, rfl, kk⟩ := paired1 k2
      simp only [RW, RV] at k kk; subst k kk
      exact mt_rstripChars pins s σ H _ _ v us Q I rx rs ⟨_, _, rfl, rfl, hq, p.flat rel (by simp only [RV])⟩
    · exact p.elim
  · exact p.elim
def joinS (a : W) (ws : List W) (o : Objs) : R W := match a, ws with
  | .v (.str x), [w] => match seqW o w with
    | some ds => match strsD ds with
      | some ys => if (ys.map (·.length)).sum + ys.length * x.length ≤ 16777216 then .ok (.v (.str (Txt.join x ys))) o else .stuck
      | none => .stuck
    | none => .stuck
  | _, _ => .stuck
theorem mr_join : MtR X "str.join" (rWm (gX X) joinS) := by
  intro pins s σ H x xs v us Q I rx rs ⟨F, ι, objs, w, ws, rel, k, k2, p⟩
  unfold joinS at p
  split at p
  · split at p
    · rename_i ds hd
      split at p
      · rename_i ys hy
        split at p
        · rename_i hz
          obtain ⟨y, rfl, kk⟩ := paired1 k2
          simp only [RW, RV] at k; subst k
          obtain ⟨a, vs, rfl, q, k3⟩ := seqW_ok rel kk hd
          rw [strsD_ok hy k3] at q
          exact mt_join pins s σ H _ _ v us Q I rx rs ⟨_, a, ys, rfl, rfl, q, hz, p.flat rel (by simp only [RV])⟩
        · exact p.elim
      · exact p.elim
    · exact p.elim
  · exact p.elim
/-- xs.append(e), xs.extend(ys), xs.pop() of a list of the store -/
def appendL (a : W) (ws : List W) (o : Objs) : R W := match a, ws with
  | .o i, [.v d] => match o[i]? with
    | some ⟨true, .lst xs⟩ => if xs.length < sizeLine then .ok (.v .non) (o.set i ⟨true, .lst (xs ++ [d])⟩) else .stuck
    | _ => .stuck
  | .o i, [.o j] => match o[i]? with
    | some ⟨true, .lol is⟩ => if is.length < sizeLine then .ok (.v .non) (o.set i ⟨true, .lol (is ++ [j])⟩) else .stuck
    | some ⟨true, .lst []⟩ => .ok (.v .non) (o.set i ⟨true, .lol [j]⟩)
    | _ => .stuck
  | _, _ => .stuck
theorem pairedApp {α β : Type} {P : α → β → Prop} : ∀ {xs xs' : List α} {ys ys' : List β}, Paired P xs ys → Paired P xs' ys' → Paired P (xs ++ xs') (ys ++ ys')
  | _, _, _, _, .nil, h => h
  | _, _, _, _, .cons h t, h' => .cons h (pairedApp t h')
theorem Post.setM {g : GE} {F : Addr → Prop} {ι : List Addr} {objs : Objs} {H : Hp} {Q : VK} {i : Nat} {a : Addr} {m m' : MO} {u : HO} {d : D} {v : V} (q : Post g F ι objs H (.ok (.v d) (objs.set i ⟨true, m'⟩)) Q) (r : Rel g F ι H objs) (hi : ι[i]? = some a) (ho : objs[i]? = some ⟨true, m⟩)
    (k : RO g ι (Al F ι (objs.set i ⟨true, m'⟩)) (upd H a u) m' a) (kv : RV g (Al F ι (objs.set i ⟨true, m'⟩)) (upd H a u) d v) : Q v (upd H a u) :=
  q v ι _ (r.set hi ho k) (Ext.set r hi ho) kv
theorem mr_append : MtR X "list.append" (rWm (gX X) appendL) := by
  intro pins s σ H x xs v us Q I rx rs ⟨F, ι, objs, w, ws, rel, k, k2, p⟩
  unfold appendL at p
  split at p
  · split at p
    · rename_i xs hx
      split at p
      · rename_i hz
        obtain ⟨y, rfl, kk⟩ := paired1 k2
        obtain ⟨a, ha, rfl⟩ := k
        obtain ⟨vs, q1, q2⟩ := rel.at_ _ a _ ha hx
        refine mt_append pins s σ H _ _ v us Q I rx rs ⟨a, vs, y, rfl, rfl, q1, by rw [← q2.length]; exact hz, ?_⟩
        refine p.setM rel ha hx ⟨_, upd_same, ?_⟩ (by simp only [RV])
        exact (q2.ext (Ext.set rel ha hx)).append (RVs.one (RV.ext kk (Ext.set rel ha hx)))
      · exact p.elim
    · exact p.elim
  · split at p
    · rename_i is hx
      split at p
      · rename_i hz
        obtain ⟨y, rfl, kk⟩ := paired1 k2
        obtain ⟨a, ha, rfl⟩ := k
        obtain ⟨vs, q1, q2⟩ := rel.at_ _ a _ ha hx
        refine mt_append pins s σ H _ _ v us Q I rx rs ⟨a, vs, y, rfl, rfl, q1, by rw [← Paired.length q2]; exact hz, ?_⟩
        exact p.setM rel ha hx ⟨_, upd_same, pairedApp q2 (.cons kk .nil)⟩ (by simp only [RV])
      · exact p.elim
    · rename_i hx
      obtain ⟨y, rfl, kk⟩ := paired1 k2
      obtain ⟨a, ha, rfl⟩ := k
      obtain ⟨vs, q1, q2⟩ := rel.at_ _ a _ ha hx
      simp only [RVs] at q2
      subst q2
      refine mt_append pins s σ H _ _ v us Q I rx rs ⟨a, [], y, rfl, rfl, q1, by simp [sizeLine_eq], ?_⟩
      exact p.setM rel ha hx ⟨_, upd_same, .cons kk .nil⟩ (by simp only [RV])
    · exact p.elim
  · exact p.elim
def extendL (a : W) (ws : List W) (o : Objs) : R W := match a, ws with
  | .o i, [b] => match o[i]? with
    | some ⟨true, .lst xs⟩ => match lstW o b with
      | some ys => if xs.length + ys.length ≤ sizeLine then .ok (.v .non) (o.set i ⟨true, .lst (xs ++ ys)⟩) else .stuck
      | none => .stuck
    | _ => .stuck
  | _, _ => .stuck
theorem mr_extend : MtR X "list.extend" (rWm (gX X) extendL) := by
  intro pins s σ H x xs v us Q I rx rs ⟨F, ι, objs, w, ws, rel, k, k2, p⟩
  unfold extendL at p
  split at p
  · split at p
    · rename_i xs hx
      split at p
      · rename_i ys hy
        split at p
        · rename_i hz
          obtain ⟨y, rfl, kk⟩ := paired1 k2
          obtain ⟨a, ha, rfl⟩ := k
          obtain ⟨vs, q1, q2⟩ := rel.at_ _ a _ ha hx
          obtain ⟨b, zs, rfl, q3, q4⟩ := lstW_ok rel kk hy
          refine mt_extend pins s σ H _ _ v us Q I rx rs ⟨a, b, vs, zs, rfl, rfl, q1, q3, by rw [← q2.length, ← q4.length]; exact hz, ?_⟩
          refine p.setM rel ha hx ⟨_, upd_same, ?_⟩ (by simp only [RV])
          exact (q2.ext (Ext.set rel ha hx)).append (q4.ext (Ext.set rel ha hx))
        · exact p.elim
      · exact p.elim
    · exact p.elim
  · exact p.elim
def popL (a : W) (ws : List W) (o : Objs) : R W := match a, ws with
  | .o i, [] => match o[i]? with
    | some ⟨true, .lst xs⟩ => match xs[xs.length - 1]? with
      | some d => .ok (.v d) (o.set i ⟨true, .lst xs.dropLast⟩)
      | none => .stuck
    | _ => .stuck
  | _, _ => .stuck
theorem RVs.dropLast {g : GE} {A : Addr → Prop} {H : Hp} {ds : List D} {vs : List V} (h : RVs g A H ds vs) : RVs g A H ds.dropLast vs.dropLast := by
  rw [List.dropLast_eq_take, List.dropLast_eq_take, h.length]
  exact h.take _
theorem mr_pop : MtR X "list.pop" (rWm (gX X) popL) := by
  intro pins s σ H x xs v us Q I rx rs ⟨F, ι, objs, w, ws, rel, k, k2, p⟩
  unfold popL at p
  split at p
  · split at p
    · rename_i xs hx
      split at p
      · rename_i d hd
        cases k2
        obtain ⟨a, ha, rfl⟩ := k
        obtain ⟨vs, q1, q2⟩ := rel.at_ _ a _ ha hx
        obtain ⟨y, e1, e2⟩ := q2.get hd
        refine mt_pop pins s σ H _ _ v us Q I rx rs ⟨a, vs, y, rfl, rfl, q1, by rw [← q2.length]; exact e1, ?_⟩
        refine p.setM rel ha hx ⟨_, upd_same, ?_⟩ (e2.ext (Ext.set rel ha hx))
        exact (q2.ext (Ext.set rel ha hx)).dropLast
      · exact p.elim
    · exact p.elim
  · exact p.elim
end
end RR

set_option maxHeartbeats 4000000
namespace RR
open PySem PySem.Spec PyProof.Rows L2
/-! ### what is walked -/
theorem Carry.refl {A : Addr → Prop} {H : Hp} : Carry A H A H := ⟨fun _ _ h n => ⟨h, n⟩⟩
theorem Carry.trans {A B C : Addr → Prop} {H H1 H2 : Hp} (a : Carry A H B H1) (b : Carry B H1 C H2) : Carry A H C H2 := ⟨fun x o h n => let ⟨q1, q2⟩ := a.kp x o h n; b.kp x o q1 q2⟩
def Yields (g : GE) (F : Addr → Prop) (J : It) (xs : List D) (ι0 : List Addr) (objs0 : Objs) (H0 : Hp) : Prop :=
  ∀ (i : Nat) (F' : Addr → Prop) (ι : List Addr) (objs : Objs) (H : Hp), Carry (Al F ι0 objs0) H0 (Al F' ι objs) H → Rel g F' ι H objs →
    (∀ d, xs[i]? = some d → J.go i H ∧ ∀ x H', J.yld i H x H' → Rel g F' ι H' objs ∧ Ext ι objs H ι objs H' ∧ RV g (Al F' ι objs) H' d x) ∧ (xs.length ≤ i → J.stop i H)
abbrev MI := Sl → Objs → R (List D)
abbrev SI (X : Cx) (tg e : Expr) (m : MI) : Prop := PI X tg e (fun σ H R => ∃ F ι objs σd, Rel (gX X) F ι H objs ∧ SRel (gX X) ι (Al F ι objs) H σd σ ∧
  match m σd objs with
  | .ok xs objs' => ∀ J ι' H', Rel (gX X) F ι' H' objs' → Ext ι objs H ι' objs' H' → Yields (gX X) F J xs ι' objs' H' → R J H'
  | .exc _ _ => False
  | .stuck => False)
theorem _root_.L2.PI.weak {X : Cx} {tg e : Expr} {t t' : TI} (h : PI X tg e t) (w : ∀ σ H R, t' σ H R → t σ H R) : PI X tg e t' := ⟨fun pins s σ H Q I q => h.run pins s σ H Q I (w σ H Q q)⟩
theorem _root_.L2.PI.or {X : Cx} {tg e : Expr} {t t' : TI} (h : PI X tg e t) (h' : PI X tg e t') : PI X tg e (fun σ H R => t σ H R ∨ t' σ H R) := ⟨fun pins s σ H Q I q => q.elim (h.run pins s σ H Q I) (h'.run pins s σ H Q I)⟩
section
variable {g : GE} {F F' : Addr → Prop} {ι ι' ι1 ι2 : List Addr} {H H' H1 H2 : Hp} {objs objs' objs1 objs2 : Objs}
theorem carryF (e : Ext ι objs H ι1 objs1 H1) (hF : ∀ a, F' a → F a ∨ H a = none) : Carry (Al F ι objs) H (Al F' ι1 objs1) H1 := ⟨fun a o h n => ⟨e.kp h n, fun z => by
  rcases z with z | z
  · rcases hF a z with z | z
    · exact n (.inl z)
    · rw [h] at z; cases z
  · exact e.off h n (.inr z)⟩⟩
theorem yields_list {K : PySem.W.Frag} {a : Addr} {xs : List D} {vs : List V} (hq : ∀ A1 H1, Carry (Al F ι objs) H A1 H1 → SqL K H1 a vs) (k : RVs g (Al F ι objs) H xs vs) : Yields g F (Itl K a) xs ι objs H := by
  intro i F' ι1 o1 H1 ca rel
  have q := hq _ _ ca
  refine ⟨fun d hd => ?_, fun hl => ⟨vs, q, by rw [← k.length]; exact hl⟩⟩
  obtain ⟨v, e1, e2⟩ := k.get hd
  refine ⟨⟨vs, v, q, e1⟩, fun x H' hy => ?_⟩
  obtain ⟨rfl, hy⟩ := hy
  have := hy vs q
  rw [e1] at this
  cases this
  exact ⟨rel, .refl, RV.car ca _ _ e2⟩
theorem yields_tup {K : PySem.W.Frag} {a : Addr} {xs : List D} {vs : List V} (hq : ∀ A1 H1, Carry (Al F ι objs) H A1 H1 → SqT K H1 a vs) (k : RVs g (Al F ι objs) H xs vs) : Yields g F (Itt K a) xs ι objs H := by
  intro i F' ι1 o1 H1 ca rel
  have q := hq _ _ ca
  refine ⟨fun d hd => ?_, fun hl => ⟨vs, q, by rw [← k.length]; exact hl⟩⟩
  obtain ⟨v, e1, e2⟩ := k.get hd
  refine ⟨⟨vs, v, q, e1⟩, fun x H' hy => ?_⟩
  obtain ⟨rfl, hy⟩ := hy
  have := hy vs q
  rw [e1] at this
  cases this
  exact ⟨rel, .refl, RV.car ca _ _ e2⟩
end
/-- the items of what is walked: a list of the store is not changed any more from then on -/
def iterW (o : Objs) : W → R (List D)
  | .v (.str x) => .ok (x.cps.toList.map fun c => D.str ⟨#[c]⟩) o
  | .v (.tup xs) => .ok xs o
  | .v (.lst xs) => .ok xs o
  | .v (.scr xs) => .ok xs o
  | .o i => match o[i]? with
    | some ⟨b, .lst xs⟩ => .ok xs (o.set i ⟨false, .lst xs⟩)
    | _ => .stuck
  | _ => .stuck
def mSeq (a : ME) : MI := fun σ o => (a σ o).bind fun x o => iterW o x
section
variable {X : Cx} {a b c e tg : Expr} {es : List Expr} {pos p : Pos} {ma mb mc : ME} {ml : ML}
theorem si_seq (ha : SE X e ma) : SI X tg e (mSeq ma) := by
  refine ((pi_list ha).or ((pi_tup ha).or (pi_str ha))).weak fun σ H Rk ⟨F, ι, objs, σd, rel, sr, p⟩ => ?_
  unfold mSeq at p
  cases e1 : ma σd objs with
  | exc _ _ => rw [e1] at p; exact p.elim
  | stuck => rw [e1] at p; exact p.elim
  | ok x o1 =>
    rw [e1, R.bind_ok] at p
    cases x with
    | v d =>
      cases d <;> simp only [iterW] at p
      all_goals try exact p.elim
      · -- a text
        refine .inr (.inr ⟨F, ι, objs, σd, rel, sr, ?_⟩)
        rw [e1]
        intro v ι1 H1 rel1 ex1 r1
        simp only [RW, RV] at r1
        subst r1
        rename_i x
        refine ⟨x, rfl, p _ ι1 H1 rel1 ex1 ?_⟩
        intro i F' ι2 o2 H2 ca rel2
        refine ⟨fun d hd => ?_, fun hl => ?_⟩
        · rw [List.getElem?_map] at hd
          cases hc : x.cps.toList[i]? with
          | none => rw [hc] at hd; cases hd
          | some c =>
            rw [hc] at hd
            cases hd
            refine ⟨by have := (List.getElem?_eq_some_iff.mp hc).1; simpa [Its, Str.length] using this, fun z H' hy => ?_⟩
            obtain ⟨rfl, c', hc', rfl⟩ := hy
            refine ⟨rel2, .refl, ?_⟩
            simp only [RV]
            rw [Array.getElem?_toList, hc'] at hc
            cases hc
            rfl
        · simpa [Its] using hl
      · refine .inr (.inl ⟨F, ι, objs, σd, rel, sr, ?_⟩)
        rw [e1]
        intro v ι1 H1 rel1 ex1 r1
        simp only [RW, RV] at r1
        obtain ⟨a, vs, rfl, h1, h2, h3⟩ := r1
        exact ⟨a, rfl, ⟨vs, SqT.of h2⟩, p _ ι1 H1 rel1 ex1 (yields_tup (fun A2 H2 ca => SqT.of (ca.kp _ _ h2 h1).1) h3)⟩
      · refine .inl ⟨F, ι, objs, σd, rel, sr, ?_⟩
        rw [e1]
        intro v ι1 H1 rel1 ex1 r1
        simp only [RW, RV] at r1
        obtain ⟨a, vs, rfl, h1, h2, h3⟩ := r1
        exact ⟨a, rfl, ⟨vs, SqL.of h2⟩, p _ ι1 H1 rel1 ex1 (yields_list (fun A2 H2 ca => SqL.of (ca.kp _ _ h2 h1).1) h3)⟩
      · refine .inl ⟨F, ι, objs, σd, rel, sr, ?_⟩
        rw [e1]
        intro v ι1 H1 rel1 ex1 r1
        simp only [RW, RV] at r1
        obtain ⟨a, vs, rfl, h1, h3⟩ := r1
        have all : ∀ A2 H2, Carry (Al F ι1 o1) H1 A2 H2 → SqL X.K H2 a vs := fun A2 H2 ca => by
          rcases h1 with ⟨h1, h2 | ⟨u, h2⟩⟩ | h1
          · exact .inl (.inl (ca.kp _ _ h2 h1).1)
          · exact .inl (.inr ⟨u, (ca.kp _ _ h2 h1).1⟩)
          · exact .inr h1
        exact ⟨a, rfl, ⟨vs, all _ _ .refl⟩, p _ ι1 H1 rel1 ex1 (yields_list all h3)⟩
    | o i =>
      cases hx : o1[i]? with
      | none => simp only [iterW, hx] at p
      | some en =>
        obtain ⟨b, m⟩ := en
        cases m with
        | lst xs =>
          simp only [iterW, hx] at p
          refine .inl ⟨F, ι, objs, σd, rel, sr, ?_⟩
          rw [e1]
          intro v ι1 H1 rel1 ex1 r1
          obtain ⟨a, ha, rfl⟩ := r1
          obtain ⟨vs, q1, q2⟩ := rel1.at_ _ a _ ha hx
          have fz := froze rel1 ha hx
          have xf : Ext ι1 o1 H1 ι1 (o1.set i ⟨false, .lst xs⟩) H1 := Ext.freeze hx
          exact ⟨a, rfl, ⟨vs, SqL.of q1⟩, p _ ι1 H1 (rel1.freeze hx) (ex1.trans xf) (yields_list (fun A2 H2 ca => SqL.of (ca.kp _ _ q1 fz).1) (q2.ext xf))⟩
        | lol is => simp only [iterW, hx] at p
        | dic ks ds => simp only [iterW, hx] at p
        | ins c ns ds => simp only [iterW, hx] at p
/-- range(n), range(a, b) -/
def rng (lo : Int) (n : Nat) : List D := (List.range n).map fun (i : Nat) => D.int (lo + i)
def rng1 (ws : List W) (o : Objs) : R (List D) := match ws with
  | [.v (.int j)] => if -(2 ^ 62) ≤ j ∧ j < 2 ^ 62 then .ok (rng 0 j.toNat) o else .stuck
  | _ => .stuck
def rng2 (ws : List W) (o : Objs) : R (List D) := match ws with
  | [.v (.int i), .v (.int j)] => if -(2 ^ 62) ≤ i ∧ i < 2 ^ 62 ∧ -(2 ^ 62) ≤ j ∧ j < 2 ^ 62 then .ok (rng i (j - i).toNat) o else .stuck
  | _ => .stuck
def mRng (f : List W → Objs → R (List D)) (l : ML) : MI := fun σ o => (l σ o).bind f
theorem yields_rng {g : GE} {F : Addr → Prop} {ι : List Addr} {H : Hp} {objs : Objs} (lo : Int) (n : Nat) : Yields g F (Itr lo n) (rng lo n) ι objs H := by
  intro i F' ι1 o1 H1 ca rel
  refine ⟨fun d hd => ?_, fun hl => by show n ≤ i; simpa [rng] using hl⟩
  unfold rng at hd
  rw [List.getElem?_map] at hd
  cases hc : (List.range n)[i]? with
  | none => rw [hc] at hd; cases hd
  | some c =>
    rw [hc] at hd
    cases hd
    have h1 := (List.getElem?_eq_some_iff.mp hc)
    obtain ⟨h1, h2⟩ := h1
    simp at h1 h2
    subst h2
    refine ⟨h1, fun z H' hy => ?_⟩
    obtain ⟨rfl, rfl⟩ := hy
    exact ⟨rel, .refl, by simp only [RV]⟩
theorem si_rng1 {p pos : Pos} (hg : Gl X "range") (hm : X.mg "range" = none) (ha : SA X [a] ml) (hs : isStar a = false) : SI X tg (.Call (.Name "range" p) [a] [] pos) (mRng rng1 ml) := by
  refine (pi_range1 hg hm ha (star_cons hs _)).weak fun σ H Rk ⟨F, ι, objs, σd, rel, sr, p⟩ => ?_
  unfold mRng at p
  cases e1 : ml σd objs with
  | exc _ _ => rw [e1] at p; exact p.elim
  | stuck => rw [e1] at p; exact p.elim
  | ok ws o1 =>
    rw [e1, R.bind_ok] at p
    refine ⟨F, ι, objs, σd, rel, sr, ?_⟩
    rw [e1]
    intro vs ι1 H1 rel1 ex1 r1
    unfold rng1 at p
    split at p
    · rename_i heq
      split at heq
      · split at heq
        · rename_i hb
          cases heq
          obtain ⟨y, rfl, k⟩ := paired1 r1
          simp only [RW, RV] at k; subst k
          exact ⟨_, rfl, hb.1, hb.2, p _ ι1 H1 rel1 ex1 (yields_rng _ _)⟩
        · cases heq
      · cases heq
    · exact p.elim
    · exact p.elim
theorem si_rng2 {p pos : Pos} (hg : Gl X "range") (hm : X.mg "range" = none) (ha : SA X [a, b] ml) (hs : isStar a = false) (hs2 : isStar b = false) : SI X tg (.Call (.Name "range" p) [a, b] [] pos) (mRng rng2 ml) := by
  refine (pi_range2 hg hm ha (by rw [star_cons hs, star_cons hs2]; rfl) (star_cons hs2 _)).weak fun σ H Rk ⟨F, ι, objs, σd, rel, sr, p⟩ => ?_
  unfold mRng at p
  cases e1 : ml σd objs with
  | exc _ _ => rw [e1] at p; exact p.elim
  | stuck => rw [e1] at p; exact p.elim
  | ok ws o1 =>
    rw [e1, R.bind_ok] at p
    refine ⟨F, ι, objs, σd, rel, sr, ?_⟩
    rw [e1]
    intro vs ι1 H1 rel1 ex1 r1
    unfold rng2 at p
    split at p
    · rename_i heq
      split at heq
      · split at heq
        · rename_i hb
          cases heq
          obtain ⟨y, z, rfl, k, k2⟩ := paired2 r1
          simp only [RW, RV] at k k2; subst k k2
          exact ⟨_, _, rfl, hb, p _ ι1 H1 rel1 ex1 (yields_rng _ _)⟩
        · cases heq
      · cases heq
    · exact p.elim
    · exact p.elim

/-! ### targets -/
abbrev MG := W → Sl → Objs → R Sl
def PostT (g : GE) (F : Addr → Prop) (ι : List Addr) (objs : Objs) (H : Hp) (r : R Sl) (Q : L2.St → Hp → Prop) : Prop :=
  match r with
  | .ok σd' objs' => ∀ ι' H' σ', Rel g F ι' H' objs' → Ext ι objs H ι' objs' H' → SRel g ι' (Al F ι' objs') H' σd' σ' → Q σ' H'
  | .exc _ _ => False
  | .stuck => False
abbrev SG (X : Cx) (tg : Expr) (m : MG) : Prop := PG X tg (fun v σ H Q => ∃ F ι objs σd w, Rel (gX X) F ι H objs ∧ SRel (gX X) ι (Al F ι objs) H σd σ ∧ RW (gX X) ι (Al F ι objs) H w v ∧ PostT (gX X) F ι objs H (m w σd objs) Q)
theorem _root_.L2.PG.weak {X : Cx} {e : Expr} {t t' : TG} (h : PG X e t) (w : ∀ v σ H Q, t' v σ H Q → t v σ H Q) : PG X e t' := ⟨fun pins s σ H v u Q I r q => h.run pins s σ H v u Q I r (w v σ H Q q)⟩
def gNm (i : Nat) : MG := fun w σ o => .ok (σ.set i (some w)) o
theorem sg_name {i : Nat} {x : Str} {pos : Pos} (hN : X.N.Nodup) (hi : X.N[i]? = some x) (hx : Loc X.env.scope x) (hf : X.fn x = true ∨ X.env.scope.names.lookup x = some .local) : SG X (.Name x pos) (gNm i) :=
  (pg_name hN hi hx hf).weak fun v σ H Q ⟨F, ι, objs, σd, w, rel, sr, k, p⟩ => p ι H _ rel .refl (sr.set i k)
end
end RR

set_option maxHeartbeats 4000000
namespace RR
open PySem PySem.Spec PyProof.Rows L2
/-! ### statements -/
inductive Fl where
  | nx (σ : Sl) | bk (σ : Sl) | ct (σ : Sl) | rt (w : W)
abbrev MS := Sl → Objs → R Fl
def PostS (g : GE) (F : Addr → Prop) (ι : List Addr) (objs : Objs) (H : Hp) (r : R Fl) (D : Ends) : Prop :=
  match r with
  | .ok (.nx σd) o => ∀ ι' H' σ', Rel g F ι' H' o → Ext ι objs H ι' o H' → SRel g ι' (Al F ι' o) H' σd σ' → D.nx σ' H'
  | .ok (.bk σd) o => ∀ ι' H' σ', Rel g F ι' H' o → Ext ι objs H ι' o H' → SRel g ι' (Al F ι' o) H' σd σ' → D.bk σ' H'
  | .ok (.ct σd) o => ∀ ι' H' σ', Rel g F ι' H' o → Ext ι objs H ι' o H' → SRel g ι' (Al F ι' o) H' σd σ' → D.ct σ' H'
  | .ok (.rt w) o => ∀ v ι' H', Rel g F ι' H' o → Ext ι objs H ι' o H' → RW g ι' (Al F ι' o) H' w v → D.rt v H'
  | .exc _ _ => False
  | .stuck => False
abbrev SS (X : Cx) (st : Stmt) (m : MS) : Prop := PS X st (fun D σ H => ∃ F ι objs σd, Rel (gX X) F ι H objs ∧ SRel (gX X) ι (Al F ι objs) H σd σ ∧ PostS (gX X) F ι objs H (m σd objs) D)
abbrev SSs (X : Cx) (st : List Stmt) (m : MS) : Prop := PSs X st (fun D σ H => ∃ F ι objs σd, Rel (gX X) F ι H objs ∧ SRel (gX X) ι (Al F ι objs) H σd σ ∧ PostS (gX X) F ι objs H (m σd objs) D)
section
variable {g : GE} {F F' : Addr → Prop} {ι ι' ι1 ι2 : List Addr} {H H' H1 H2 : Hp} {objs objs' objs1 objs2 : Objs}
theorem PostS.at {r : R Fl} {D : Ends} (p : PostS g F ι objs H r D) (e : Ext ι objs H ι1 objs1 H1) : PostS g F ι1 objs1 H1 r D := by
  cases r with
  | ok fl o =>
    cases fl with
    | nx σ => exact fun ι' H' σ' rl ex sr => p ι' H' σ' rl (e.trans ex) sr
    | bk σ => exact fun ι' H' σ' rl ex sr => p ι' H' σ' rl (e.trans ex) sr
    | ct σ => exact fun ι' H' σ' rl ex sr => p ι' H' σ' rl (e.trans ex) sr
    | rt w => exact fun v ι' H' rl ex sr => p v ι' H' rl (e.trans ex) sr
  | exc _ _ => exact p
  | stuck => exact p
theorem PostS.bind {α : Type} {r : R α} {f : α → Objs → R Fl} {D : Ends} (p : PostS g F ι objs H (r.bind f) D) : ∃ a o, r = .ok a o ∧ PostS g F ι objs H (f a o) D := by
  cases r with
  | ok w o => exact ⟨w, o, rfl, p⟩
  | exc _ _ => exact p.elim
  | stuck => exact p.elim
end
def mThen (a b : MS) : MS := fun σ o => (a σ o).bind fun fl o => match fl with | .nx σ => b σ o | fl => .ok fl o
def mSkip : MS := fun σ o => .ok (.nx σ) o
def mExpr (a : ME) : MS := fun σ o => (a σ o).bind fun _ o => .ok (.nx σ) o
def mRet (a : ME) : MS := fun σ o => (a σ o).bind fun w o => .ok (.rt w) o
def mRetN : MS := fun _ o => .ok (.rt (.v .non)) o
def mIfS (c : MB) (a b : MS) : MS := fun σ o => (c σ o).bind fun k o => if k = true then a σ o else b σ o
def mAsg (a : ME) (gm : MG) : MS := fun σ o => (a σ o).bind fun w o => (gm w σ o).bind fun σ o => .ok (.nx σ) o
def mBrk : MS := fun σ o => .ok (.bk σ) o
def mCnt : MS := fun σ o => .ok (.ct σ) o
def forGo (f : D → MS) : List D → MS
  | [], σ, o => .ok (.nx σ) o
  | d :: ds, σ, o => (f d σ o).bind fun fl o => match fl with
    | .nx σ => forGo f ds σ o
    | .ct σ => forGo f ds σ o
    | .bk σ => .ok (.nx σ) o
    | .rt w => .ok (.rt w) o
def mFor (mi : MI) (gm : MG) (b : MS) : MS := fun σ o => (mi σ o).bind fun xs o => forGo (fun d σ o => (gm (.v d) σ o).bind fun σ o => b σ o) xs σ o
def whileGo (c : MB) (b : MS) : Nat → MS
  | 0, _, _ => .stuck
  | n + 1, σ, o => (c σ o).bind fun k o => if k = true then (b σ o).bind fun fl o => match fl with
      | .nx σ => whileGo c b n σ o
      | .ct σ => whileGo c b n σ o
      | .bk σ => .ok (.nx σ) o
      | .rt w => .ok (.rt w) o
    else .ok (.nx σ) o
def mWhile (c : MB) (b : MS) : MS := whileGo c b 1000000000000
section
variable {X : Cx} {a b c e tg iter : Expr} {st : Stmt} {sts sts' : List Stmt} {es : List Expr} {pos p : Pos} {ma mb mc : ME} {ml : ML} {ms ms' : MS} {nc : MB} {gm : MG} {mi : MI}
theorem ss_nil : SSs X [] mSkip := pss_nil.weak fun D σ H ⟨F, ι, objs, σd, rel, sr, p⟩ => p ι H σ rel .refl sr
theorem ss_cons (h1 : SS X st ms) (h2 : SSs X sts ms') : SSs X (st :: sts) (mThen ms ms') := by
  refine (pss_cons h1 h2).weak fun D σ H ⟨F, ι, objs, σd, rel, sr, p⟩ => ?_
  obtain ⟨fl, o1, e1, p⟩ := p.bind
  refine ⟨F, ι, objs, σd, rel, sr, ?_⟩
  rw [e1]
  cases fl with
  | nx σ1 => exact fun ι1 H1 σ' rel1 ex1 sr1 => ⟨F, ι1, o1, σ1, rel1, sr1, p.at ex1⟩
  | bk σ1 => exact p
  | ct σ1 => exact p
  | rt w => exact p
theorem ss_pass : SS X (.Pass pos) mSkip := ps_pass.weak fun D σ H ⟨F, ι, objs, σd, rel, sr, p⟩ => p ι H σ rel .refl sr
theorem ss_break : SS X (.Break pos) mBrk := ps_break.weak fun D σ H ⟨F, ι, objs, σd, rel, sr, p⟩ => p ι H σ rel .refl sr
theorem ss_continue : SS X (.Continue pos) mCnt := ps_continue.weak fun D σ H ⟨F, ι, objs, σd, rel, sr, p⟩ => p ι H σ rel .refl sr
theorem ss_expr (h : SE X e ma) (hs : swapsWith e none pos.line X.env = pure false) : SS X (.Expr e pos) (mExpr ma) := by
  refine (ps_expr h hs).weak fun D σ H ⟨F, ι, objs, σd, rel, sr, p⟩ => ?_
  obtain ⟨w, o1, e1, p⟩ := p.bind
  refine ⟨F, ι, objs, σd, rel, sr, ?_⟩
  rw [e1]
  exact fun v ι1 H1 rel1 ex1 r1 => p ι1 H1 σ rel1 ex1 (sr.ext ex1)
theorem ss_ret (h : SE X e ma) : SS X (.Return (some e) pos) (mRet ma) := by
  refine (ps_ret h).weak fun D σ H ⟨F, ι, objs, σd, rel, sr, p⟩ => ?_
  obtain ⟨w, o1, e1, p⟩ := p.bind
  refine ⟨F, ι, objs, σd, rel, sr, ?_⟩
  rw [e1]
  exact fun v ι1 H1 rel1 ex1 r1 => p v ι1 H1 rel1 ex1 r1
theorem ss_retN : SS X (.Return none pos) mRetN := ps_retN.weak fun D σ H ⟨F, ι, objs, σd, rel, sr, p⟩ => p .non ι H rel .refl (by simp only [RW, RV])
theorem ss_if (hc : ST X c nc) (ha : SSs X sts ms) (hb : SSs X sts' ms') : SS X (.If c sts sts' pos) (mIfS nc ms ms') := by
  refine (ps_if hc ha hb).weak fun D σ H ⟨F, ι, objs, σd, rel, sr, p⟩ => ?_
  obtain ⟨k, o1, e1, p⟩ := p.bind
  refine ⟨F, ι, objs, σd, rel, sr, ?_⟩
  rw [e1]
  intro ι1 H1 rel1 ex1
  have p1 := p.at ex1
  cases k with
  | false =>
    simp only [Bool.false_eq_true, if_false] at p1 ⊢
    exact ⟨F, ι1, o1, σd, rel1, sr.ext ex1, p1⟩
  | true =>
    simp only [if_true] at p1 ⊢
    exact ⟨F, ι1, o1, σd, rel1, sr.ext ex1, p1⟩
theorem asg_each {env : Env} (h : isStar e = false) : assignEach (e :: es) env = (false, assign e env) :: assignEach es env := by
  cases e <;> first | rfl | (simp [isStar] at h)
theorem ss_asg (he : SE X e ma) (hg : SG X tg gm) (hs : swapsWithSole [tg] e pos.line X.env = pure false) (hw : swappedStores [tg] e X.env = pure none) (ht : isStar tg = false) : SS X (.Assign [tg] e pos) (mAsg ma gm) := by
  refine (ps_asg he hg hs hw (by rw [asg_each ht]; rfl)).weak fun D σ H ⟨F, ι, objs, σd, rel, sr, p⟩ => ?_
  obtain ⟨w, o1, e1, p⟩ := p.bind
  refine ⟨F, ι, objs, σd, rel, sr, ?_⟩
  rw [e1]
  intro v ι1 H1 rel1 ex1 r1
  refine ⟨F, ι1, o1, σd, w, rel1, sr.ext ex1, r1, ?_⟩
  obtain ⟨σ2, o2, e2, p⟩ := (p.at ex1).bind
  rw [e2]
  exact fun ι2 H2 σ' rel2 ex2 sr2 => p ι2 H2 σ' rel2 ex2 sr2
theorem ss_for (hp : PassesOwn (model X.prog X.w) X.A X.env X.xe) (hc : X.calm = true) (hi : SI X tg iter mi) (hg : SG X tg gm) (hb : SSs X sts ms) (hs : ∀ x, foldedSetIterable iter X.env x = pure x) : SS X (.For tg iter sts [] pos) (mFor mi gm ms) := by
  refine (ps_for hp hc hi hg hb hs).weak fun D σ H ⟨F, ι, objs, σd, rel, sr, p⟩ => ?_
  obtain ⟨xs, o1, e1, p⟩ := p.bind
  refine ⟨F, ι, objs, σd, rel, sr, ?_⟩
  rw [e1]
  intro J ι1 H1 rel1 ex1 yl
  generalize hf : (fun d σ o => (gm (.v d) σ o).bind fun σ o => ms σ o) = f at p
  refine ⟨fun i m σ' H' => m = xs.length - i ∧ i ≤ xs.length ∧ ∃ ι' objs' σd', Rel (gX X) F ι' H' objs' ∧ SRel (gX X) ι' (Al F ι' objs') H' σd' σ' ∧ Ext ι1 o1 H1 ι' objs' H' ∧ PostS (gX X) F ι' objs' H' (forGo f (xs.drop i) σd' objs') D,
    ⟨xs.length, by simp, Nat.zero_le _, ι1, o1, σd, rel1, sr.ext ex1, .refl, by rw [List.drop_zero]; exact p.at ex1⟩, ?_⟩
  rintro i m σ' H' ⟨rfl, hi', ι', objs', σd', rel', sr', ex', p'⟩
  obtain ⟨y1, y2⟩ := yl i F ι' objs' H' ex'.carry rel'
  by_cases hlt : i < xs.length
  · obtain ⟨go, y⟩ := y1 xs[i] (List.getElem?_eq_getElem hlt)
    refine .inr ⟨go, fun σ2 H2 => i + 1 ≤ xs.length ∧ ∃ ι2 objs2 σd2, Rel (gX X) F ι2 H2 objs2 ∧ SRel (gX X) ι2 (Al F ι2 objs2) H2 σd2 σ2 ∧ Ext ι1 o1 H1 ι2 objs2 H2 ∧ PostS (gX X) F ι2 objs2 H2 (forGo f (xs.drop (i + 1)) σd2 objs2) D,
      fun σ2 H2 hN => ⟨xs.length - (i + 1), by omega, rfl, hN⟩, fun x H2 hy => ?_⟩
    obtain ⟨rel2, ex2, rv2⟩ := y x H2 hy
    rw [List.drop_eq_getElem_cons hlt] at p'
    unfold forGo at p'
    obtain ⟨fl, o3, e3, p3⟩ := p'.bind
    rw [← hf] at e3
    dsimp only at e3
    cases e4 : gm (.v xs[i]) σd' objs' with
    | exc _ _ => rw [e4] at e3; cases e3
    | stuck => rw [e4] at e3; cases e3
    | ok σ4 o4 =>
      rw [e4, R.bind_ok] at e3
      refine ⟨F, ι', objs', σd', .v xs[i], rel2, sr'.ext ex2, rv2, ?_⟩
      rw [e4]
      intro ι5 H5 σ5 rel5 ex5 sr5
      refine ⟨F, ι5, o4, σ4, rel5, sr5, ?_⟩
      rw [e3]
      have p6 := (p3.at ex2).at ex5
      have exx := (ex'.trans ex2).trans ex5
      cases fl with
      | nx σ6 => exact fun ι7 H7 σ7 rel7 ex7 sr7 => ⟨hlt, ι7, o3, σ6, rel7, sr7, exx.trans ex7, p6.at ex7⟩
      | ct σ6 => exact fun ι7 H7 σ7 rel7 ex7 sr7 => ⟨hlt, ι7, o3, σ6, rel7, sr7, exx.trans ex7, p6.at ex7⟩
      | bk σ6 => exact fun ι7 H7 σ7 rel7 ex7 sr7 => p6 ι7 H7 σ7 rel7 ex7 sr7
      | rt w => exact fun v ι7 H7 rel7 ex7 sr7 => p6 v ι7 H7 rel7 ex7 sr7
  · have hi2 : i = xs.length := by omega
    subst hi2
    refine .inl ⟨y2 (Nat.le_refl _), ?_⟩
    rw [List.drop_length] at p'
    exact p' ι' H' σ' rel' .refl sr'
theorem ss_while (hp : PassesOwn (model X.prog X.w) X.A X.env X.xe) (hc : ST X c nc) (hb : SSs X sts ms) : SS X (.While c sts [] pos) (mWhile nc ms) := by
  refine (ps_while hp hc hb).weak fun D σ H ⟨F, ι, objs, σd, rel, sr, p⟩ => ?_
  refine ⟨fun m σ' H' => ∃ ι' objs' σd', Rel (gX X) F ι' H' objs' ∧ SRel (gX X) ι' (Al F ι' objs') H' σd' σ' ∧ PostS (gX X) F ι' objs' H' (whileGo nc ms m σd' objs') D, ⟨_, ι, objs, σd, rel, sr, p⟩, ?_⟩
  rintro m σ' H' ⟨ι', objs', σd', rel', sr', p'⟩
  cases m with
  | zero => exact p'.elim
  | succ m =>
    unfold whileGo at p'
    obtain ⟨k, o1, e1, p1⟩ := p'.bind
    refine ⟨F, ι', objs', σd', rel', sr', ?_⟩
    rw [e1]
    intro ι1 H1 rel1 ex1
    have p1 := p1.at ex1
    cases k with
    | false =>
      simp only [Bool.false_eq_true, if_false] at p1 ⊢
      exact p1 ι1 H1 σ' rel1 .refl (sr'.ext ex1)
    | true =>
      simp only [if_true] at p1 ⊢
      obtain ⟨fl, o2, e2, p2⟩ := p1.bind
      refine ⟨fun σ2 H2 => ∃ ι2 objs2 σd2, Rel (gX X) F ι2 H2 objs2 ∧ SRel (gX X) ι2 (Al F ι2 objs2) H2 σd2 σ2 ∧ PostS (gX X) F ι2 objs2 H2 (whileGo nc ms m σd2 objs2) D, fun σ2 H2 hN => ⟨m, Nat.lt_succ_self m, hN⟩, F, ι1, o1, σd', rel1, sr'.ext ex1, ?_⟩
      rw [e2]
      cases fl with
      | nx σ6 => exact fun ι7 H7 σ7 rel7 ex7 sr7 => ⟨ι7, o2, σ6, rel7, sr7, p2.at ex7⟩
      | ct σ6 => exact fun ι7 H7 σ7 rel7 ex7 sr7 => ⟨ι7, o2, σ6, rel7, sr7, p2.at ex7⟩
      | bk σ6 => exact fun ι7 H7 σ7 rel7 ex7 sr7 => p2 ι7 H7 σ7 rel7 ex7 sr7
      | rt w => exact fun v ι7 H7 rel7 ex7 sr7 => p2 v ι7 H7 rel7 ex7 sr7
end
end RR

set_option maxHeartbeats 4000000
namespace RR
open PySem PySem.Spec PyProof.Rows L2
/-! ### names as targets: one, or a tuple of them -/
def setAll {α : Type} : List (Option α) → List Nat → List α → List (Option α)
  | σ, i :: is, v :: vs => setAll (σ.set i (some v)) is vs
  | σ, _, _ => σ
inductive Tg where
  | one (i : Nat) | many (is : List Nat)
def Tg.slots : Tg → List Nat
  | .one i => [i]
  | .many is => is
def mTg : Tg → W → Sl → Objs → R Sl
  | .one i, w, σ, o => .ok (σ.set i (some w)) o
  | .many is, w, σ, o => match w with
    | .v (.tup ds) => if ds.length = is.length then .ok (setAll σ is (ds.map W.v)) o else .stuck
    | _ => .stuck
/-- what HandS reads of them -/
def hTg (K : PySem.W.Frag) : Tg → TG
  | .one i => gName i
  | .many is => fun v σ H Q => ∃ a xs, v = .ref a ∧ SqT K H a xs ∧ xs.length = is.length ∧ Q (setAll σ is xs) H
section
variable {g : GE} {F F' : Addr → Prop} {ι ι' ι1 ι2 : List Addr} {H H' H1 H2 : Hp} {objs objs' objs1 objs2 : Objs} {A : Addr → Prop}
theorem SRel.setAll : ∀ {is : List Nat} {ds : List D} {vs : List V} {σd : Sl} {σ : L2.St}, SRel g ι A H σd σ → RVs g A H ds vs → SRel g ι A H (setAll σd is (ds.map W.v)) (setAll σ is vs)
  | [], ds, vs, σd, σ, h, k => by
    cases ds <;> cases vs <;> exact h
  | i :: is, [], vs, σd, σ, h, k => by
    simp only [RVs] at k; subst k; exact h
  | i :: is, d :: ds, vs, σd, σ, h, k => by
    simp only [RVs] at k
    obtain ⟨v, r, rfl, k1, k2⟩ := k
    exact SRel.setAll (is := is) (h.set i k1) k2
theorem wipe_set {σ : L2.St} {i : Nat} {x : Option V} : ∀ {vs : List Nat}, i ∈ vs → wipe (σ.set i x) vs = wipe σ vs
  | v :: vs, h => by
    unfold wipe
    by_cases hv : i = v
    · subst hv
      by_cases h2 : i ∈ vs
      · rw [wipe_set h2]
      · -- the slot is set last
        have gen : ∀ (vs : List Nat) (σ : L2.St), i ∉ vs → (wipe (σ.set i x) vs) = (wipe σ vs).set i x := by
          intro vs
          induction vs with
          | nil => intro σ _; rfl
          | cons u us ih =>
            intro σ hn
            have h1 : i ≠ u := fun e => hn (e ▸ List.mem_cons_self)
            have h3 : i ∉ us := fun e => hn (List.mem_cons_of_mem _ e)
            unfold wipe
            rw [ih σ h3, List.set_comm _ _ h1]
        rw [gen vs σ h2, List.set_set]
    · rcases List.mem_cons.mp h with h | h
      · exact absurd h hv
      · rw [wipe_set h]
theorem wipe_setAll : ∀ {is : List Nat} {xs : List V} {σ : L2.St} {vs : List Nat}, (∀ i ∈ is, i ∈ vs) → wipe (setAll σ is xs) vs = wipe σ vs
  | [], xs, σ, vs, h => by cases xs <;> rfl
  | i :: is, [], σ, vs, h => rfl
  | i :: is, x :: xs, σ, vs, h => by
    unfold setAll
    rw [wipe_setAll (fun j hj => h j (List.mem_cons_of_mem _ hj)), wipe_set (h i List.mem_cons_self)]
/-- the slots of a block's own names forgotten -/
def wipeD (σ : Sl) : List Nat → Sl
  | [] => σ
  | v :: vs => (wipeD σ vs).set v none
theorem SRel.wipe {σd : Sl} {σ : L2.St} (h : SRel g ι A H σd σ) : ∀ vs : List Nat, SRel g ι A H (wipeD σd vs) (L2.wipe σ vs)
  | [] => h
  | v :: vs => by
    have := SRel.wipe h vs
    refine ⟨by simp only [wipeD, L2.wipe, List.length_set]; exact this.1, fun i w k => ?_⟩
    unfold wipeD at k
    unfold L2.wipe
    by_cases hi : i = v
    · subst hi
      by_cases hl : i < (wipeD σd vs).length
      · rw [List.getElem?_set_self hl] at k; cases k
      · rw [List.getElem?_eq_none (by simpa using hl)] at k; cases k
    · rw [List.getElem?_set_ne (Ne.symm hi)] at k ⊢
      exact this.2 i w k
end
section
variable {X : Cx} {a b c e tg iter : Expr} {st : Stmt} {sts sts' : List Stmt} {es : List Expr} {pos p : Pos} {ma mb mc : ME} {ml : ML} {ms ms' : MS} {nc : MB} {gm : MG} {mi : MI}
/-- the slots of written names -/
def nameIx (N : List Str) : List Expr → Option (List Nat)
  | [] => some []
  | .Name x _ :: es => match N.findIdx? (· == x), nameIx N es with
    | some i, some is => some (i :: is)
    | _, _ => none
  | _ :: _ => none
theorem findIdx_get {N : List Str} {x : Str} {i : Nat} (h : N.findIdx? (· == x) = some i) : N[i]? = some x := by
  obtain ⟨h1, h2, _⟩ := List.findIdx?_eq_some_iff_getElem.mp h
  rw [List.getElem?_eq_getElem h1]
  exact congrArg some (by simpa using h2)
def storable (X : Cx) (x : Str) : Prop := Loc X.env.scope x ∧ (X.fn x = true ∨ X.env.scope.names.lookup x = some .local)
theorem pgs_names (hN : X.N.Nodup) : ∀ {es : List Expr} {is : List Nat}, nameIx X.N es = some is → (∀ x p, Expr.Name x p ∈ es → storable X x) →
    PGs X es (fun vs σ H Q => vs.length = is.length ∧ Q (setAll σ is vs) H) ∧ (assignEach es X.env).length = is.length ∧ List.findIdx? (fun x => x.1) (assignEach es X.env) = none
  | [], is, h, hs => by
    cases h
    refine ⟨⟨fun pins s σ H vs us Q I r ⟨h1, h2⟩ => ?_⟩, rfl, rfl⟩
    have e : vs = [] := List.eq_nil_of_length_eq_zero h1
    subst e
    exact pgs_nil.run pins s σ H [] us Q I r ⟨rfl, h2⟩
  | .Name x p :: es, is, h, hs => by
    simp only [nameIx] at h
    split at h
    · rename_i i js hi hj
      cases h
      obtain ⟨ih, h2, h3⟩ := pgs_names hN hj fun y q hy => hs y q (List.mem_cons_of_mem _ hy)
      obtain ⟨hl, hf⟩ := hs x p List.mem_cons_self
      refine ⟨⟨fun pins s σ H vs us Q I r ⟨h1, hq⟩ => ?_⟩, ?_, ?_⟩
      · cases vs with
        | nil => simp at h1
        | cons v vs =>
          exact (pgs_cons (pg_name hN (findIdx_get hi) hl hf) ih (by rw [asg_each rfl]; rfl)).run pins s σ H (v :: vs) us Q I r ⟨v, vs, rfl, by simpa using h1, hq⟩
      · rw [asg_each rfl, List.length_cons, h2]; rfl
      · rw [asg_each rfl, List.findIdx?_cons, h3]; rfl
    · cases h
theorem hg_one {i : Nat} {x : Str} (hN : X.N.Nodup) (hi : X.N[i]? = some x) (hx : storable X x) : PG X (.Name x pos) (hTg X.K (.one i)) := pg_name hN hi hx.1 hx.2
theorem hg_many {k : Nat} {is : List Nat} (hc : X.calm = true) (hN : X.N.Nodup) (h : nameIx X.N es = some is) (hs : ∀ x p, Expr.Name x p ∈ es → storable X x) : PG X (.Tuple es k pos) (hTg X.K (.many is)) := by
  obtain ⟨h1, h2, h3⟩ := pgs_names hN h hs
  refine (pg_tup hc h1 h2 h3).weak fun v σ H Q ⟨a, xs, e1, e2, e3, q⟩ => ⟨a, xs, e1, e2, e3, e3, q⟩
theorem sg_tg {T : Tg} (h : PG X tg (hTg X.K T)) : SG X tg (mTg T) := by
  refine h.weak fun v σ H Q ⟨F, ι, objs, σd, w, rel, sr, k, p⟩ => ?_
  cases T with
  | one i => exact p ι H _ rel .refl (sr.set i k)
  | many is =>
    cases w with
    | o i => exact p.elim
    | v d =>
      cases d <;> simp only [mTg] at p
      all_goals try exact p.elim
      rename_i ds
      split at p
      · rename_i hl
        have k0 := k
        simp only [RW, RV] at k
        obtain ⟨a, vs, rfl, h1, h2, h3⟩ := k
        exact ⟨a, vs, rfl, SqT.of h2, by rw [← h3.length]; exact hl, p ι H _ rel .refl (sr.setAll h3)⟩
      · exact p.elim
/-! ### xs[i] = e -/
def setW (a i x : W) (o : Objs) : R Unit := match a, i with
  | .o k, .v (.int j) => match o[k]? with
    | some ⟨true, .lst xs⟩ => match x with
      | .v d => match ixN xs.length j with
        | some m => .ok () (o.set k ⟨true, .lst (xs.set m d)⟩)
        | none => .stuck
      | .o _ => .stuck
    | _ => .stuck
  | _, _ => .stuck
def gSb (a b : ME) : MG := fun x σ o => (a σ o).bind fun u o => (b σ o).bind fun i o => (setW u i x o).bind fun _ o => .ok σ o
def notSlice : Expr → Bool
  | .Slice _ _ _ _ => false
  | _ => true
theorem sg_sub (ha : SE X a ma) (hb : SE X b mb) (hs : notSlice b = true) : SG X (.Subscript a b pos) (gSb ma mb) := by
  refine (pg_sub ha hb set_list (fun v => by cases b <;> first | rfl | (simp [notSlice] at hs))).weak fun v σ H Q ⟨F, ι, objs, σd, w, rel, sr, k, p⟩ => ?_
  unfold gSb at p
  cases e1 : ma σd objs with
  | exc _ _ => rw [e1] at p; exact p.elim
  | stuck => rw [e1] at p; exact p.elim
  | ok u o1 =>
    rw [e1, R.bind_ok] at p
    refine ⟨F, ι, objs, σd, rel, sr, ?_⟩
    rw [e1]
    intro v1 ι1 H1 rel1 ex1 r1
    cases e2 : mb σd o1 with
    | exc _ _ => rw [e2] at p; exact p.elim
    | stuck => rw [e2] at p; exact p.elim
    | ok i o2 =>
      rw [e2, R.bind_ok] at p
      refine ⟨F, ι1, o1, σd, rel1, sr.ext ex1, ?_⟩
      rw [e2]
      intro v2 ι2 H2 rel2 ex2 r2
      have r1 := r1.ext ex2
      have k := (k.ext ex1).ext ex2
      cases e3 : setW u i w o2 with
      | exc _ _ => rw [e3] at p; exact p.elim
      | stuck => rw [e3] at p; exact p.elim
      | ok un o3 =>
        rw [e3, R.bind_ok] at p
        cases w with
        | o j =>
          unfold setW at e3
          split at e3
          · split at e3 <;> cases e3
          · cases e3
        | v d =>
          unfold setW at e3
          split at e3
          · split at e3
            · rename_i xs hx
              simp only at e3
              split at e3
              · rename_i m hm
                cases e3
                obtain ⟨a, ha, rfl⟩ := r1
                simp only [RW, RV] at r2
                subst r2
                obtain ⟨vs, q1, q2⟩ := rel2.at_ _ a _ ha hx
                refine ⟨a, vs, _, m, rfl, rfl, q1, by rw [← q2.length]; exact hm, ?_⟩
                have exs := Ext.set (o := .lst (vs.set m v)) (m' := .lst (xs.set m d)) rel2 ha hx
                refine p ι2 _ σ (rel2.set ha hx ⟨_, upd_same, ?_⟩) ((ex1.trans ex2).trans exs) (((sr.ext ex1).ext ex2).ext exs)
                exact (q2.ext exs).set (RV.ext k exs)
              · cases e3
            · cases e3
          · cases e3
end
end RR

set_option maxHeartbeats 4000000
namespace RR
open PySem PySem.Spec PyProof.Rows L2
/-! ### list comprehensions -/
def lcGo (turn : D → Objs → R (Option W)) : List D → List W → Objs → R (List W)
  | [], acc, o => .ok acc o
  | d :: ds, acc, o => (turn d o).bind fun r o => match r with
    | none => lcGo turn ds acc o
    | some w => if acc.length < sizeLine then lcGo turn ds (acc ++ [w]) o else .stuck
def lcTurn (T : Tg) (own : List Nat) (c : MB) (e : ME) (σ : Sl) (d : D) (o : Objs) : R (Option W) :=
  (mTg T (.v d) (wipeD σ own) o).bind fun σ o => (c σ o).bind fun k o => if k = true then (e σ o).bind fun w o => .ok (some w) o else .ok none o
def mYes : MB := fun _ o => .ok true o
def mLc (mu : Bool) (mi : MI) (T : Tg) (own : List Nat) (c : MB) (e : ME) : ME := fun σ o => (mi σ o).bind fun xs o => (lcGo (lcTurn T own c e σ) xs [] o).bind fun ws o => lstMk mu ws o
section
variable {g : GE} {F F' : Addr → Prop} {ι ι' ι1 ι2 : List Addr} {H H' H1 H2 : Hp} {objs objs' objs1 objs2 : Objs} {A A' : Addr → Prop}
theorem RWs.app {ws zs : List W} {vs us : List V} (h : RWs g ι A H ws vs) (k : RWs g ι A H zs us) : RWs g ι A H (ws ++ zs) (vs ++ us) := pairedApp h k
theorem RW.anti {w : W} {v : V} (h : RW g ι A H w v) (s : ∀ a, A' a → A a) : RW g ι A' H w v := by
  cases w with
  | v d => exact RV.car ⟨fun a o e n => ⟨e, fun z => n (s a z)⟩⟩ d v h
  | o i => exact h
theorem RWs.anti {ws : List W} {vs : List V} (h : RWs g ι A H ws vs) (s : ∀ a, A' a → A a) : RWs g ι A' H ws vs := Paired.mapP h fun _ _ q => q.anti s
theorem RVs.anti {ds : List D} {vs : List V} (h : RVs g A H ds vs) (s : ∀ a, A' a → A a) : RVs g A' H ds vs := RVs.car ⟨fun a o e n => ⟨e, fun z => n (s a z)⟩⟩ ds vs h
theorem RO.anti {m : MO} {a : Addr} (h : RO g ι A H m a) (s : ∀ a, A' a → A a) : RO g ι A' H m a := by
  cases m with
  | lst xs => exact let ⟨vs, h, r⟩ := h; ⟨vs, h, r.anti s⟩
  | lol is => exact h
  | dic ks ds => exact let ⟨kvs, h, k, r⟩ := h; ⟨kvs, h, k, r.anti s⟩
  | ins c ns ds => exact let ⟨C, dx, vs, c1, h, k, r⟩ := h; ⟨C, dx, vs, c1, h, k, r.anti s⟩
theorem Rel.relax (r : Rel g F' ι H objs) (s : ∀ a, F a → F' a) : Rel g F ι H objs :=
  ⟨r.nd, r.len, fun i a o e1 e2 => (r.at_ i a o e1 e2).anti fun b z => z.elim (fun z => .inl (s b z)) .inr, fun a z => r.out a (s a z)⟩
/-- the new list D is F's until it is done -/
def FD (F : Addr → Prop) (Dd : Addr) : Addr → Prop := fun a => F a ∨ a = Dd
/-- the list at D, made, as a result -/
theorem lc_done {mu : Bool} {ws : List W} {acc : List V} {Dd : Addr} {Q : VK} (h0 : H1 Dd = none) (r : Rel g (FD F Dd) ι H objs) (ex : Ext ι1 objs1 H1 ι objs H) (hD : H Dd = some (.lst acc)) (k : RWs g ι (Al (FD F Dd) ι objs) H ws acc) (r1 : Rel g F ι1 H1 objs1)
    (p : Post g F ι1 objs1 H1 (lstMk mu ws objs) Q) : Q (.ref Dd) H := by
  have nD : Dd ∉ ι := (r.out Dd (.inr rfl)).2
  have nF : ¬ F Dd := r1.freshF h0
  have aF : ∀ a, Al F ι objs a → Al (FD F Dd) ι objs a := fun a z => z.elim (fun z => .inl (.inl z)) .inr
  -- as a thing of the store
  have store : ∀ (o' : Objs) (m : MO), Ext ι objs H ι o' H → Rel g (FD F Dd) ι H o' → RO g (ι ++ [Dd]) (Al (FD F Dd) ι o') H m Dd → Post g F ι1 objs1 H1 (.ok (.o o'.length) (o' ++ [⟨true, m⟩])) Q → Q (.ref Dd) H := by
    intro o' m ex' r' ho p
    have hl : ι.length = o'.length := r'.len
    have same : ∀ a, Al F (ι ++ [Dd]) (o' ++ [⟨true, m⟩]) a ↔ Al (FD F Dd) ι o' a := by
      intro a
      constructor
      · rintro (z | ⟨i, u, e1, e2⟩)
        · exact .inl (.inl z)
        · by_cases hi : i < ι.length
          · rw [List.getElem?_append_left hi] at e1
            rw [List.getElem?_append_left (by omega)] at e2
            exact .inr ⟨i, u, e1, e2⟩
          · have e : i = ι.length := by
              have := (List.getElem?_eq_some_iff.mp e1).1
              simp at this; omega
            subst e
            simp at e1
            exact .inl (.inr e1.symm)
      · rintro ((z | z) | ⟨i, u, e1, e2⟩)
        · exact .inl z
        · subst z
          refine .inr ⟨ι.length, m, by simp, by rw [hl]; simp⟩
        · refine .inr ⟨i, u, ?_, ?_⟩
          · rw [List.getElem?_append_left (List.getElem?_eq_some_iff.mp e1).1]; exact e1
          · rw [List.getElem?_append_left (List.getElem?_eq_some_iff.mp e2).1]; exact e2
    have exI : ∀ {b : MO} {a : Addr}, RO g ι (Al (FD F Dd) ι o') H b a → RO g (ι ++ [Dd]) (Al (FD F Dd) ι o') H b a := by
      intro b a h
      cases b with
      | lst xs => exact h
      | lol is => exact let ⟨vs, h, q⟩ := h; ⟨vs, h, Paired.mapP q fun i v ⟨c, e, z⟩ => ⟨c, by rw [List.getElem?_append_left (List.getElem?_eq_some_iff.mp e).1]; exact e, z⟩⟩
      | dic ks ds => exact h
      | ins c ns ds => exact h
    have rel2 : Rel g F (ι ++ [Dd]) H (o' ++ [⟨true, m⟩]) := by
      refine ⟨?_, by simp [hl], fun i a ob e1 e2 => ?_, fun a z => ⟨(r'.out a (.inl z)).1, fun q => ?_⟩⟩
      · rw [List.nodup_append]
        refine ⟨r'.nd, by simp, fun a ha b hb e => ?_⟩
        rw [List.mem_singleton.mp hb] at e
        exact nD (e ▸ ha)
      · by_cases hi : i < ι.length
        · rw [List.getElem?_append_left hi] at e1
          rw [List.getElem?_append_left (by omega)] at e2
          exact (exI (r'.at_ i a ob e1 e2)).anti fun b z => (same b).mp z
        · have e : i = ι.length := by
            have := (List.getElem?_eq_some_iff.mp e1).1
            simp at this; omega
          subst e
          simp at e1
          rw [hl] at e2
          simp at e2
          subst e1 e2
          exact ho.anti fun b z => (same b).mp z
      · rcases List.mem_append.mp q with q | q
        · exact (r'.out a (.inl z)).2 q
        · rw [List.mem_singleton.mp q] at z; exact nF z
    have exx : Ext ι1 objs1 H1 (ι ++ [Dd]) (o' ++ [⟨true, m⟩]) H := by
      have e2 := ex.trans ex'
      refine ⟨e2.pre.trans (List.prefix_append _ _), e2.keep, fun a z n => ?_⟩
      rcases (same a).mp (.inr z) with (z | z) | z
      · -- a thing of F that is live: not so
        exfalso
        have : a ∈ ι ++ [Dd] := by
          obtain ⟨i, u, e1, _⟩ := (show Live (ι ++ [Dd]) (o' ++ [⟨true, m⟩]) a by assumption)
          exact List.mem_of_getElem? e1
        exact (rel2.out a z).2 this
      · rw [z]; exact h0
      · exact e2.new a z n
    exact p _ _ _ rel2 exx ⟨Dd, by rw [← hl]; simp, rfl⟩
  unfold lstMk at p
  split at p
  · rename_i i is ha
    split at p
    · refine store objs (.lol (i :: is)) .refl r ⟨acc, hD, ?_⟩ p
      exact Paired.mapP (allO_ok ha k) fun i v ⟨c, e, z⟩ => ⟨c, by rw [List.getElem?_append_left (List.getElem?_eq_some_iff.mp e).1]; exact e, z⟩
    · exact p.elim
  · split at p
    · rename_i ds o1 hp
      obtain ⟨r2, x2, k2⟩ := pulls_ok hp r k
      split at p
      · exact store o1 (.lst ds) x2 r2 ⟨acc, hD, k2⟩ p
      · exact p.elim
    · exact p.elim
  · split at p
    · rename_i ds o1 hp
      obtain ⟨r2, x2, k2⟩ := pulls_ok hp r k
      split at p
      · refine p (.ref Dd) ι H (r2.relax fun a z => .inl z) (ex.trans x2) ?_
        simp only [RW, RV]
        refine ⟨Dd, acc, rfl, fun z => ?_, hD, k2.anti fun a z => z.elim (fun z => .inl (.inl z)) .inr⟩
        rcases z with z | z
        · exact nF z
        · exact nD z.mem
      · exact p.elim
    · exact p.elim
end
section
variable {X : Cx} {a b c e tg iter elt : Expr} {st : Stmt} {sts sts' : List Stmt} {es : List Expr} {pos p : Pos} {ma mb mc me : ME} {ml : ML} {ms ms' : MS} {nc : MB} {gm : MG} {mi : MI}
theorem se_lcCore {T : Tg} {own : List Nat} {mu : Bool} (hT : ∀ i ∈ T.slots, i ∈ own) {σ : L2.St} {H : Hp} {Q : VK}
    (h : tev (gX X) (mLc mu mi T own nc me) σ H Q) :
    tLc (fun σ H R => ∃ F ι objs σd, Rel (gX X) F ι H objs ∧ SRel (gX X) ι (Al F ι objs) H σd σ ∧
      match mi σd objs with
      | .ok xs objs' => ∀ J ι' H', Rel (gX X) F ι' H' objs' → Ext ι objs H ι' objs' H' → Yields (gX X) F J xs ι' objs' H' → R J H'
      | .exc _ _ => False
      | .stuck => False) (hTg X.K T) (teb (gX X) nc) (tev (gX X) me) own σ H Q := by
  obtain ⟨F, ι, objs, σd, rel, sr, p⟩ := h
  obtain ⟨xs, o1, e1, p⟩ := p.bind
  refine ⟨F, ι, objs, σd, rel, sr, ?_⟩
  rw [e1]
  intro J ι1 H1 rel1 ex1 yl Dd hDd
  have p := p.at ex1
  generalize hf : lcTurn T own nc me σd = f at p
  have nA : Dd ∉ ι1 := rel1.fresh hDd
  have hFD : ∀ a, FD F Dd a → F a ∨ H1 a = none := fun a z => z.elim .inl fun z => .inr (by rw [z]; exact hDd)
  have relD : Rel (gX X) (FD F Dd) ι1 (upd H1 Dd (.lst [])) o1 := by
    have r := rel1.upd_new (o := .lst []) hDd
    refine ⟨r.nd, r.len, fun i a ob q1 q2 => ?_, fun a z => ?_⟩
    · have h1 := rel1.at_ i a ob q1 q2
      have hc : Carry (Al F ι1 o1) H1 (Al (FD F Dd) ι1 o1) (upd H1 Dd (.lst [])) := ⟨fun b u q n => ⟨by rw [upd_ne (ne_of_none q hDd)]; exact q, fun z => by
        rcases z with (z | z) | z
        · exact n (.inl z)
        · rw [z, hDd] at q; cases q
        · exact n (.inr z)⟩⟩
      have ne : a ≠ Dd := fun z => nA (z ▸ List.mem_of_getElem? q1)
      cases hm : ob.ob with
      | lst ys => rw [hm] at h1; exact let ⟨vs, h, k⟩ := h1; ⟨vs, by rw [upd_ne ne]; exact h, RVs.car hc _ _ k⟩
      | lol is => rw [hm] at h1; exact let ⟨vs, h, k⟩ := h1; ⟨vs, by rw [upd_ne ne]; exact h, k⟩
      | dic ks ds => rw [hm] at h1; exact let ⟨kvs, h, k, q⟩ := h1; ⟨kvs, by rw [upd_ne ne]; exact h, k, RVs.car hc _ _ q⟩
      | ins c ns ds => rw [hm] at h1; exact let ⟨C, dx, vs, c1, h, k, q⟩ := h1; ⟨C, dx, vs, c1, by rw [upd_ne ne]; exact h, k, RVs.car hc _ _ q⟩
    · rcases z with z | z
      · exact r.out a z
      · subst z
        exact ⟨⟨_, upd_same⟩, nA⟩
  refine ⟨fun i m H' => m = xs.length - i ∧ i ≤ xs.length ∧ ∃ ι' objs' ws acc, Rel (gX X) (FD F Dd) ι' H' objs' ∧ Ext ι1 o1 H1 ι' objs' H' ∧ H' Dd = some (.lst acc) ∧ RWs (gX X) ι' (Al (FD F Dd) ι' objs') H' ws acc ∧
      Post (gX X) F ι1 o1 H1 ((lcGo f (xs.drop i) ws objs').bind fun ws o => lstMk mu ws o) Q,
    ⟨xs.length, by simp, Nat.zero_le _, ι1, o1, [], [], relD, Ext.upd_new hDd, upd_same, .nil, by rw [List.drop_zero]; exact p⟩, ?_⟩
  rintro i m H' ⟨rfl, hi', ι', objs', ws, acc, rel', ex', hD', k', p'⟩
  obtain ⟨y1, y2⟩ := yl i (FD F Dd) ι' objs' H' (carryF ex' hFD) rel'
  by_cases hlt : i < xs.length
  · obtain ⟨go, y⟩ := y1 xs[i] (List.getElem?_eq_getElem hlt)
    refine .inr ⟨go, fun H2 => i + 1 ≤ xs.length ∧ ∃ ι2 objs2 ws2 acc2, Rel (gX X) (FD F Dd) ι2 H2 objs2 ∧ Ext ι1 o1 H1 ι2 objs2 H2 ∧ H2 Dd = some (.lst acc2) ∧ RWs (gX X) ι2 (Al (FD F Dd) ι2 objs2) H2 ws2 acc2 ∧
      Post (gX X) F ι1 o1 H1 ((lcGo f (xs.drop (i + 1)) ws2 objs2).bind fun ws o => lstMk mu ws o) Q,
      fun H2 hN => ⟨xs.length - (i + 1), by omega, rfl, hN⟩, fun x H2 hy => ?_⟩
    obtain ⟨rel2, ex2, rv2⟩ := y x H2 hy
    rw [List.drop_eq_getElem_cons hlt] at p'
    unfold lcGo at p'
    -- the slots of this turn
    have srT : ∃ σ2, mTg T (.v xs[i]) (wipeD σd own) objs' = .ok σ2 objs' ∧ ∀ K' : L2.St → Hp → Prop, (∀ σ3, SRel (gX X) ι' (Al (FD F Dd) ι' objs') H2 σ2 σ3 → wipe σ3 own = wipe σ own → K' σ3 H2) → hTg X.K T x (wipe σ own) H2 K' := by
      have srw : SRel (gX X) ι' (Al (FD F Dd) ι' objs') H2 (wipeD σd own) (wipe σ own) := by
        have s0 : SRel (gX X) ι' (Al (FD F Dd) ι' objs') H2 σd σ := by
          have s1 := sr.ext ex1
          refine ⟨s1.1, fun j w hj => ?_⟩
          obtain ⟨v, e, q⟩ := s1.2 j w hj
          refine ⟨v, e, ?_⟩
          cases w with
          | v d => exact RV.car (carryF (ex'.trans ex2) hFD) d v q
          | o n => exact RAt.ext q (ex'.trans ex2)
        exact s0.wipe own
      have ww : wipe (wipe σ own) own = wipe σ own := by
        have gen : ∀ (l : List Nat) (s : L2.St), (∀ j ∈ l, j ∈ own) → (∀ j ∈ own, j < s.length → s[j]? = some none) → wipe s l = s := by
          intro l
          induction l with
          | nil => intro s _ _; rfl
          | cons v vs ih =>
            intro s hl hs
            unfold wipe
            rw [ih s (fun j hj => hl j (List.mem_cons_of_mem _ hj)) hs]
            by_cases hv : v < s.length
            · have := hs v (hl v List.mem_cons_self) hv
              apply List.ext_getElem?
              intro n
              by_cases hn : n = v
              · subst hn; rw [List.getElem?_set_self hv, this]
              · rw [List.getElem?_set_ne (Ne.symm hn)]
            · rw [List.set_eq_of_length_le (by omega)]
        refine gen own _ (fun _ h => h) fun j hj hl => ?_
        cases hq : (wipe σ own)[j]? with
        | none => rw [List.getElem?_eq_none_iff] at hq; omega
        | some ov =>
          cases ov with
          | none => rfl
          | some v => exact absurd hj (wipe_some hq).2
      cases T with
      | one j =>
        refine ⟨_, rfl, fun K' hk => ?_⟩
        exact hk _ (srw.set j rv2) (by rw [wipe_set (hT j (by simp [Tg.slots])), ww])
      | many js =>
        cases e4 : mTg (.many js) (.v xs[i]) (wipeD σd own) objs' with
        | exc _ _ => rw [← hf] at p'; simp only [lcTurn, e4] at p'; exact p'.elim
        | stuck => rw [← hf] at p'; simp only [lcTurn, e4] at p'; exact p'.elim
        | ok σ4 o4 =>
          cases hd : xs[i] <;> rw [hd] at e4 rv2 <;> simp only [mTg] at e4
          all_goals try cases e4
          rename_i ds
          split at e4
          · rename_i hl
            cases e4
            refine ⟨_, rfl, fun K' hk => ?_⟩
            simp only [RV] at rv2
            obtain ⟨a, vs, rfl, h1, h2, h3⟩ := rv2
            exact ⟨a, vs, rfl, SqT.of h2, by rw [← h3.length]; exact hl, hk _ (srw.setAll h3) (by rw [wipe_setAll (is := js) (show ∀ i ∈ js, i ∈ own from hT), ww])⟩
          · cases e4
    obtain ⟨σ2, e4, hT2⟩ := srT
    refine hT2 _ fun σ3 sr3 hw => ⟨hw, ?_⟩
    rw [← hf] at p'
    simp only [lcTurn, e4, R.bind_ok] at p'
    cases e5 : nc σ2 objs' with
    | exc _ _ => rw [e5] at p'; exact p'.elim
    | stuck => rw [e5] at p'; exact p'.elim
    | ok kk o5 =>
      rw [e5, R.bind_ok] at p'
      refine ⟨FD F Dd, ι', objs', σ2, rel2, sr3, ?_⟩
      rw [e5]
      intro ι6 H6 rel6 ex6
      have exx := (ex'.trans ex2).trans ex6
      have kx := (RWs.ext k' ex2).ext ex6
      have nDl : ∀ {ι objs H}, Rel (gX X) (FD F Dd) ι H objs → ¬ Live ι objs Dd := fun r z => (r.out Dd (.inr rfl)).2 z.mem
      have hD6 : H6 Dd = some (.lst acc) := ex6.keep _ _ (ex2.keep _ _ hD' (nDl rel')) (nDl rel2)
      cases kk with
      | false =>
        simp only [Bool.false_eq_true, if_false, R.bind_ok] at p' ⊢
        exact ⟨hlt, ι6, o5, ws, acc, rel6, exx, hD6, kx, by rw [← hf]; exact p'⟩
      | true =>
        simp only [if_true] at p' ⊢
        cases e7 : me σ2 o5 with
        | exc _ _ => rw [e7] at p'; exact p'.elim
        | stuck => rw [e7] at p'; exact p'.elim
        | ok w o7 =>
          rw [e7, R.bind_ok, R.bind_ok] at p'
          simp only at p'
          split at p'
          · rename_i hz
            refine ⟨FD F Dd, ι6, o5, σ2, rel6, sr3.ext ex6, ?_⟩
            rw [e7]
            intro v8 ι8 H8 rel8 ex8 r8
            have hD8 : H8 Dd = some (.lst acc) := ex8.keep _ _ hD6 (nDl rel6)
            refine ⟨acc, hD8, by rw [← RWs.length kx]; exact hz, ?_⟩
            -- the list at D grows
            have nA8 : Dd ∉ ι8 := (rel8.out Dd (.inr rfl)).2
            have hc : Carry (Al (FD F Dd) ι8 o7) H8 (Al (FD F Dd) ι8 o7) (upd H8 Dd (.lst (acc ++ [v8]))) := ⟨fun b u q n => ⟨by rw [upd_ne (show b ≠ Dd from fun z => n (by rw [z]; exact .inl (.inr rfl)))]; exact q, n⟩⟩
            have carW : ∀ {w v}, RW (gX X) ι8 (Al (FD F Dd) ι8 o7) H8 w v → RW (gX X) ι8 (Al (FD F Dd) ι8 o7) (upd H8 Dd (.lst (acc ++ [v8]))) w v := by
              intro w v q
              cases w with
              | v d => exact RV.car hc d v q
              | o n => exact q
            refine ⟨hlt, ι8, o7, ws ++ [w], acc ++ [v8], ⟨rel8.nd, rel8.len, fun j a ob q1 q2 => ?_, fun a z => ?_⟩, ?_, upd_same, RWs.app (Paired.mapP (RWs.ext kx ex8) fun _ _ q => carW q) (.cons (carW r8) .nil), by rw [← hf]; exact p'⟩
            · have h1 := rel8.at_ j a ob q1 q2
              have ne : a ≠ Dd := fun z => nA8 (z ▸ List.mem_of_getElem? q1)
              cases hm : ob.ob with
              | lst ys => rw [hm] at h1; exact let ⟨vs, h, k⟩ := h1; ⟨vs, by rw [upd_ne ne]; exact h, RVs.car hc _ _ k⟩
              | lol is => rw [hm] at h1; exact let ⟨vs, h, k⟩ := h1; ⟨vs, by rw [upd_ne ne]; exact h, k⟩
              | dic ks ds => rw [hm] at h1; exact let ⟨kvs, h, k, q⟩ := h1; ⟨kvs, by rw [upd_ne ne]; exact h, k, RVs.car hc _ _ q⟩
              | ins c ns ds => rw [hm] at h1; exact let ⟨C, dx, vs, c1, h, k, q⟩ := h1; ⟨C, dx, vs, c1, by rw [upd_ne ne]; exact h, k, RVs.car hc _ _ q⟩
            · obtain ⟨⟨u, q⟩, n⟩ := rel8.out a z
              refine ⟨?_, n⟩
              by_cases ha : a = Dd
              · rw [ha]; exact ⟨_, upd_same⟩
              · exact ⟨u, by rw [upd_ne ha]; exact q⟩
            · have e8 := exx.trans ex8
              exact ⟨e8.pre, fun b u q n => by rw [upd_ne (ne_of_none q hDd)]; exact e8.keep b u q n, e8.new⟩
          · exact p'.elim
  · have hi2 : i = xs.length := by omega
    subst hi2
    refine .inl ⟨y2 (Nat.le_refl _), ?_⟩
    rw [List.drop_length] at p'
    simp only [lcGo, R.bind_ok] at p'
    exact lc_done hDd rel' ex' hD' k' rel1 p'
/-- [elt for target in iter if ..] -/
theorem se_lc {ifs : List Expr} {scope : Scope} {own : List (Str × Nat)} {T : Tg} {mu : Bool} (hc : X.calm = true) (hN : X.N.Nodup) (hi : SI X tg iter mi) (ok : BlkOk X.N X.env.scope scope own)
    (hT : ∀ i ∈ T.slots, i ∈ own.map (·.2))
    (hg : ∀ (s : Shared) (H : Hp) (C : Addr) (cl : List (Str × Addr)) (fp : List Addr), PG (X.blk s H scope (compEnvC scope cl C X.env) fp) tg (hTg X.K T))
    (ht : ∀ (s : Shared) (H : Hp) (C : Addr) (cl : List (Str × Addr)) (fp : List Addr), PTs (X.blk s H scope (compEnvC scope cl C X.env) fp) ifs (teb (gX X) nc))
    (he : ∀ (s : Shared) (H : Hp) (C : Addr) (cl : List (Str × Addr)) (fp : List Addr), SE (X.blk s H scope (compEnvC scope cl C X.env) fp) elt me)
    (hs : ∀ x, foldedSetIterable iter X.env x = pure x) : SE X (.ListComp elt [⟨tg, iter, ifs, 0⟩] scope pos) (mLc mu mi T (own.map (·.2)) nc me) :=
  (pe_lc hc hN hi ok hg ht he hs).weak fun σ H Q h => se_lcCore hT h
/-- name = [..] -/
theorem ss_setLc {i : Nat} {y : Str} {py spos : Pos} {ifs : List Expr} {scope : Scope} {own : List (Str × Nat)} {T : Tg} {mu : Bool} (hc : X.calm = true) (hN : X.N.Nodup) (hy : X.N[i]? = some y) (hyl : X.env.scope.names.lookup y = some .local)
    (hsw : swapsWith (.ListComp elt [⟨tg, iter, ifs, 0⟩] scope pos) (some (.Name y py)) spos.line X.env = pure true) (hi : SI X tg iter mi) (ok : BlkOk X.N X.env.scope scope own)
    (hT : ∀ i ∈ T.slots, i ∈ own.map (·.2))
    (hg : ∀ (s : Shared) (H : Hp) (C : Addr) (cl : List (Str × Addr)) (fp : List Addr), PG (X.blk s H scope (compEnvC scope cl C X.env) fp) tg (hTg X.K T))
    (ht : ∀ (s : Shared) (H : Hp) (C : Addr) (cl : List (Str × Addr)) (fp : List Addr), PTs (X.blk s H scope (compEnvC scope cl C X.env) fp) ifs (teb (gX X) nc))
    (he : ∀ (s : Shared) (H : Hp) (C : Addr) (cl : List (Str × Addr)) (fp : List Addr), SE (X.blk s H scope (compEnvC scope cl C X.env) fp) elt me)
    (hs : ∀ x, foldedSetIterable iter X.env x = pure x) : SS X (.Assign [.Name y py] (.ListComp elt [⟨tg, iter, ifs, 0⟩] scope pos) spos) (mAsg (mLc mu mi T (own.map (·.2)) nc me) (gNm i)) := by
  refine (ps_setLc (te := tev (gX X) me) hc hN hy hyl hsw hi ok hg ht he hs).weak fun D σ H ⟨F, ι, objs, σd, rel, sr, p⟩ => ?_
  obtain ⟨w, o1, e1, p⟩ := p.bind
  refine se_lcCore (mu := mu) hT ⟨F, ι, objs, σd, rel, sr, ?_⟩
  rw [e1]
  intro v ι1 H1 rel1 ex1 r1
  exact p ι1 H1 _ rel1 ex1 ((sr.ext ex1).set i r1)
theorem sts_nil : PTs X [] (teb (gX X) mYes) := ⟨fun pins s σ H Q I ⟨F, ι, objs, σd, rel, sr, p⟩ => pts_nil.run pins s σ H Q I (p ι H rel .refl)⟩
theorem sts_one (h : ST X c nc) : PTs X [c] (teb (gX X) nc) := pts_one h
end
end RR

set_option maxHeartbeats 4000000
namespace RR
open PySem PySem.Spec PyProof.Rows L2
/-! ### list comprehensions with two clauses -/
theorem R.bind_assoc {α β γ : Type} (r : R α) (f : α → Objs → R β) (k : β → Objs → R γ) : (r.bind f).bind k = r.bind fun a o => (f a o).bind k := by cases r <;> rfl
def lcGo2 (turn : D → List W → Objs → R (List W)) : List D → List W → Objs → R (List W)
  | [], acc, o => .ok acc o
  | d :: ds, acc, o => (turn d acc o).bind fun acc o => lcGo2 turn ds acc o
def lc2Turn (T : Tg) (own : List Nat) (c : MB) (mi1 : MI) (T1 : Tg) (own1 : List Nat) (c1 : MB) (e : ME) (σ : Sl) (d : D) (acc : List W) (o : Objs) : R (List W) :=
  (mTg T (.v d) (wipeD σ own) o).bind fun σ o => (c σ o).bind fun k o => if k = true then (mi1 σ o).bind fun ys o => lcGo (lcTurn T1 own1 c1 e σ) ys acc o else .ok acc o
def mLc2 (mu : Bool) (mi : MI) (T : Tg) (own : List Nat) (c : MB) (mi1 : MI) (T1 : Tg) (own1 : List Nat) (c1 : MB) (e : ME) : ME := fun σ o => (mi σ o).bind fun xs o => (lcGo2 (lc2Turn T own c mi1 T1 own1 c1 e σ) xs [] o).bind fun ws o => lstMk mu ws o
theorem wipe_wipe (σ : L2.St) (own : List Nat) : wipe (wipe σ own) own = wipe σ own := by
  have gen : ∀ (l : List Nat) (s : L2.St), (∀ j ∈ l, j ∈ own) → (∀ j ∈ own, j < s.length → s[j]? = some none) → wipe s l = s := by
    intro l
    induction l with
    | nil => intro s _ _; rfl
    | cons v vs ih =>
      intro s hl hs
      unfold wipe
      rw [ih s (fun j hj => hl j (List.mem_cons_of_mem _ hj)) hs]
      by_cases hv : v < s.length
      · have := hs v (hl v List.mem_cons_self) hv
        apply List.ext_getElem?
        intro n
        by_cases hn : n = v
        · subst hn; rw [List.getElem?_set_self hv, this]
        · rw [List.getElem?_set_ne (Ne.symm hn)]
      · rw [List.set_eq_of_length_le (by omega)]
  refine gen own _ (fun _ h => h) fun j hj hl => ?_
  cases hq : (wipe σ own)[j]? with
  | none => rw [List.getElem?_eq_none_iff] at hq; omega
  | some ov =>
    cases ov with
    | none => rfl
    | some v => exact absurd hj (wipe_some hq).2
/-- a turn's target -/
theorem tg_ok {g : GE} {T : Tg} {own : List Nat} (hT : ∀ i ∈ T.slots, i ∈ own) {ι : List Addr} {A : Addr → Prop} {H : Hp} {σd σ2 : Sl} {σ : L2.St} {d : D} {x : V} {o o2 : Objs} (s0 : SRel g ι A H σd σ) (rv : RV g A H d x) (e : mTg T (.v d) (wipeD σd own) o = .ok σ2 o2) :
    o2 = o ∧ ∀ K' : L2.St → Hp → Prop, (∀ σ3, SRel g ι A H σ2 σ3 → wipe σ3 own = wipe σ own → K' σ3 H) → hTg g.K T x (wipe σ own) H K' := by
  have srw : SRel g ι A H (wipeD σd own) (wipe σ own) := s0.wipe own
  have ww := wipe_wipe σ own
  cases T with
  | one j =>
    simp only [mTg] at e
    cases e
    exact ⟨rfl, fun K' hk => hk _ (srw.set j rv) (by rw [wipe_set (hT j (by simp [Tg.slots])), ww])⟩
  | many js =>
    cases d <;> simp only [mTg] at e
    all_goals try cases e
    rename_i ds
    split at e
    · rename_i hl
      cases e
      refine ⟨rfl, fun K' hk => ?_⟩
      simp only [RV] at rv
      obtain ⟨a, vs, rfl, h1, h2, h3⟩ := rv
      exact ⟨a, vs, rfl, SqT.of h2, by rw [← h3.length]; exact hl, hk _ (srw.setAll h3) (by rw [wipe_setAll (is := js) (show ∀ i ∈ js, i ∈ own from hT), ww])⟩
    · cases e
/-- the state within: the list at Dd grows; k is what comes -/
def LcS (g : GE) (F : Addr → Prop) (Dd : Addr) (ι1 : List Addr) (o1 : Objs) (H1 : Hp) (k : List W → Objs → R W) (Q : VK) (H' : Hp) (ι' : List Addr) (objs' : Objs) : Prop :=
  ∃ ws acc, Rel g (FD F Dd) ι' H' objs' ∧ Ext ι1 o1 H1 ι' objs' H' ∧ H' Dd = some (.lst acc) ∧ RWs g ι' (Al (FD F Dd) ι' objs') H' ws acc ∧ Post g F ι1 o1 H1 (k ws objs') Q
section
variable {g : GE} {F F' : Addr → Prop} {ι ι' ι1 ι2 : List Addr} {H H' H1 H2 : Hp} {objs objs' o1 : Objs} {Dd : Addr} {k : List W → Objs → R W} {Q : VK}
theorem LcS.rel (s : LcS g F Dd ι1 o1 H1 k Q H' ι' objs') : Rel g (FD F Dd) ι' H' objs' := let ⟨_, _, h, _⟩ := s; h
theorem relNew (rel1 : Rel g F ι1 H1 o1) (hDd : H1 Dd = none) : Rel g (FD F Dd) ι1 (upd H1 Dd (.lst [])) o1 := by
  have nA : Dd ∉ ι1 := rel1.fresh hDd
  have r := rel1.upd_new (o := .lst []) hDd
  refine ⟨r.nd, r.len, fun i a ob q1 q2 => ?_, fun a z => ?_⟩
  · have h1 := rel1.at_ i a ob q1 q2
    have hc : Carry (Al F ι1 o1) H1 (Al (FD F Dd) ι1 o1) (upd H1 Dd (.lst [])) := ⟨fun b u q n => ⟨by rw [upd_ne (ne_of_none q hDd)]; exact q, fun z => by
      rcases z with (z | z) | z
      · exact n (.inl z)
      · rw [z, hDd] at q; cases q
      · exact n (.inr z)⟩⟩
    have ne : a ≠ Dd := fun z => nA (z ▸ List.mem_of_getElem? q1)
    cases hm : ob.ob with
    | lst ys => rw [hm] at h1; exact let ⟨vs, h, k⟩ := h1; ⟨vs, by rw [upd_ne ne]; exact h, RVs.car hc _ _ k⟩
    | lol is => rw [hm] at h1; exact let ⟨vs, h, k⟩ := h1; ⟨vs, by rw [upd_ne ne]; exact h, k⟩
    | dic ks ds => rw [hm] at h1; exact let ⟨kvs, h, k, q⟩ := h1; ⟨kvs, by rw [upd_ne ne]; exact h, k, RVs.car hc _ _ q⟩
    | ins c ns ds => rw [hm] at h1; exact let ⟨C, dx, vs, c1, h, k, q⟩ := h1; ⟨C, dx, vs, c1, by rw [upd_ne ne]; exact h, k, RVs.car hc _ _ q⟩
  · rcases z with z | z
    · exact r.out a z
    · subst z
      exact ⟨⟨_, upd_same⟩, nA⟩
theorem offLive (r : Rel g (FD F Dd) ι H objs) : ¬ Live ι objs Dd := fun z => (r.out Dd (.inr rfl)).2 z.mem
/-- on to a later heap, Dd as it is -/
theorem LcS.on (s : LcS g F Dd ι1 o1 H1 k Q H' ι' objs') (r : Rel g (FD F Dd) ι2 H2 objs) (ex : Ext ι' objs' H' ι2 objs H2) {k2 : List W → Objs → R W} (hk : ∀ ws, k ws objs' = k2 ws objs) : LcS g F Dd ι1 o1 H1 k2 Q H2 ι2 objs := by
  obtain ⟨ws, acc, r', e', d', w', p'⟩ := s
  exact ⟨ws, acc, r, e'.trans ex, ex.keep _ _ d' (offLive r'), RWs.ext w' ex, by rw [← hk]; exact p'⟩
/-- one more -/
theorem LcS.more (hDd : H1 Dd = none) {w : W} {v : V} (s : LcS g F Dd ι1 o1 H1 (fun ws o => if ws.length < sizeLine then k (ws ++ [w]) o else .stuck) Q H' ι' objs') (kw : RW g ι' (Al (FD F Dd) ι' objs') H' w v) :
    ∃ acc, H' Dd = some (.lst acc) ∧ acc.length < sizeLine ∧ LcS g F Dd ι1 o1 H1 k Q (upd H' Dd (.lst (acc ++ [v]))) ι' objs' := by
  obtain ⟨ws, acc, rel8, e8, hD8, kx, p'⟩ := s
  dsimp only at p'
  split at p'
  case isFalse => exact p'.elim
  rename_i hz
  refine ⟨acc, hD8, by rw [← RWs.length kx]; exact hz, ?_⟩
  have nA8 : Dd ∉ ι' := (rel8.out Dd (.inr rfl)).2
  have hc : Carry (Al (FD F Dd) ι' objs') H' (Al (FD F Dd) ι' objs') (upd H' Dd (.lst (acc ++ [v]))) := ⟨fun b u q n => ⟨by rw [upd_ne (show b ≠ Dd from fun z => n (by rw [z]; exact .inl (.inr rfl)))]; exact q, n⟩⟩
  have carW : ∀ {w v'}, RW g ι' (Al (FD F Dd) ι' objs') H' w v' → RW g ι' (Al (FD F Dd) ι' objs') (upd H' Dd (.lst (acc ++ [v]))) w v' := by
    intro w v' q
    cases w with
    | v d => exact RV.car hc d v' q
    | o n => exact q
  refine ⟨ws ++ [w], acc ++ [v], ⟨rel8.nd, rel8.len, fun j a ob q1 q2 => ?_, fun a z => ?_⟩, ⟨e8.pre, fun b u q n => by rw [upd_ne (ne_of_none q hDd)]; exact e8.keep b u q n, e8.new⟩, upd_same, RWs.app (Paired.mapP kx fun _ _ q => carW q) (.cons (carW kw) .nil), p'⟩
  · have h1 := rel8.at_ j a ob q1 q2
    have ne : a ≠ Dd := fun z => nA8 (z ▸ List.mem_of_getElem? q1)
    cases hm : ob.ob with
    | lst ys => rw [hm] at h1; exact let ⟨vs, h, k⟩ := h1; ⟨vs, by rw [upd_ne ne]; exact h, RVs.car hc _ _ k⟩
    | lol is => rw [hm] at h1; exact let ⟨vs, h, k⟩ := h1; ⟨vs, by rw [upd_ne ne]; exact h, k⟩
    | dic ks ds => rw [hm] at h1; exact let ⟨kvs, h, k, q⟩ := h1; ⟨kvs, by rw [upd_ne ne]; exact h, k, RVs.car hc _ _ q⟩
    | ins c ns ds => rw [hm] at h1; exact let ⟨C, dx, vs, c1, h, k, q⟩ := h1; ⟨C, dx, vs, c1, by rw [upd_ne ne]; exact h, k, RVs.car hc _ _ q⟩
  · obtain ⟨⟨u, q⟩, n⟩ := rel8.out a z
    refine ⟨?_, n⟩
    by_cases ha : a = Dd
    · rw [ha]; exact ⟨_, upd_same⟩
    · exact ⟨u, by rw [upd_ne ha]; exact q⟩
/-- Dd's growth carries the rest -/
theorem growCarry {acc : List V} : Carry (Al (FD F Dd) ι objs) H (Al (FD F Dd) ι objs) (upd H Dd (.lst acc)) := ⟨fun b u q n => ⟨by rw [upd_ne (show b ≠ Dd from fun z => n (by rw [z]; exact .inl (.inr rfl)))]; exact q, n⟩⟩
end
/-- slots, carried -/
theorem SRel.carP {g : GE} {ι ι' : List Addr} {A A' : Addr → Prop} {H H' : Hp} {σd : Sl} {σ : L2.St} (s : SRel g ι A H σd σ) (c : Carry A H A' H') (hp : ι <+: ι') : SRel g ι' A' H' σd σ := by
  refine ⟨s.1, fun j w hj => ?_⟩
  obtain ⟨v, e, q⟩ := s.2 j w hj
  refine ⟨v, e, ?_⟩
  cases w with
  | v d => exact RV.car c d v q
  | o n =>
    obtain ⟨a, ha, rfl⟩ := q
    obtain ⟨t, rfl⟩ := hp
    exact ⟨a, by rw [List.getElem?_append_left (List.getElem?_eq_some_iff.mp ha).1]; exact ha, rfl⟩
section
variable {X : Cx} {a b c e tg iter elt tg1 iter1 : Expr} {st : Stmt} {sts sts' : List Stmt} {es : List Expr} {pos p : Pos} {ma mb mc me : ME} {ml : ML} {ms ms' : MS} {nc nc1 : MB} {gm : MG} {mi mi1 : MI}
abbrev tSI (g : GE) (m : MI) : TI := fun σ H R => ∃ F ι objs σd, Rel g F ι H objs ∧ SRel g ι (Al F ι objs) H σd σ ∧
  match m σd objs with
  | .ok xs objs' => ∀ J ι' H', Rel g F ι' H' objs' → Ext ι objs H ι' objs' H' → Yields g F J xs ι' objs' H' → R J H'
  | .exc _ _ => False
  | .stuck => False
theorem se_lc2Core {T T1 : Tg} {own own1 : List Nat} {mu : Bool} (hT : ∀ i ∈ T.slots, i ∈ own) (hT1 : ∀ i ∈ T1.slots, i ∈ own1) {σ : L2.St} {H : Hp} {Q : VK}
    (h : tev (gX X) (mLc2 mu mi T own nc mi1 T1 own1 nc1 me) σ H Q) :
    tLc2 (tSI (gX X) mi) (hTg X.K T) (teb (gX X) nc) (tSI (gX X) mi1) (hTg X.K T1) (teb (gX X) nc1) (tev (gX X) me) own own1 σ H Q := by
  obtain ⟨F, ι, objs, σd, rel, sr, p⟩ := h
  obtain ⟨xs, o1, e1, p⟩ := p.bind
  refine ⟨F, ι, objs, σd, rel, sr, ?_⟩
  rw [e1]
  intro J ι1 H1 rel1 ex1 yl Dd hDd
  have p := p.at ex1
  have hFD : ∀ a, FD F Dd a → F a ∨ H1 a = none := fun a z => z.elim .inl fun z => .inr (by rw [z]; exact hDd)
  let K : List D → List W → Objs → R W := fun ds ws o => (lcGo2 (lc2Turn T own nc mi1 T1 own1 nc1 me σd) ds ws o).bind fun ws o => lstMk mu ws o
  refine ⟨fun i m H' => m = xs.length - i ∧ i ≤ xs.length ∧ ∃ ι' objs', LcS (gX X) F Dd ι1 o1 H1 (K (xs.drop i)) Q H' ι' objs',
    ⟨xs.length, by simp, Nat.zero_le _, ι1, o1, [], [], relNew rel1 hDd, Ext.upd_new hDd, upd_same, .nil, by rw [List.drop_zero]; exact p⟩, ?_⟩
  rintro i m H' ⟨rfl, hi', ι', objs', S⟩
  have S0 := S
  obtain ⟨ws0, acc0, rel', ex', hD', k', p'⟩ := S
  obtain ⟨y1, y2⟩ := yl i (FD F Dd) ι' objs' H' (carryF ex' hFD) rel'
  by_cases hlt : i < xs.length
  · obtain ⟨go, y⟩ := y1 xs[i] (List.getElem?_eq_getElem hlt)
    refine .inr ⟨go, fun H2 => i + 1 ≤ xs.length ∧ ∃ ι2 objs2, LcS (gX X) F Dd ι1 o1 H1 (K (xs.drop (i + 1))) Q H2 ι2 objs2, fun H2 hN => ⟨xs.length - (i + 1), by omega, rfl, hN⟩, fun x H2 hy => ?_⟩
    obtain ⟨rel2, ex2, rv2⟩ := y x H2 hy
    have s0 : SRel (gX X) ι' (Al (FD F Dd) ι' objs') H2 σd σ := (sr.ext ex1).carP (carryF (ex'.trans ex2) hFD) (ex'.trans ex2).pre
    -- the turn
    have kd : ∀ ws o, K (xs.drop i) ws o = (mTg T (.v xs[i]) (wipeD σd own) o).bind fun σ o => (nc σ o).bind fun kk o => (if kk = true then (mi1 σ o).bind fun ys o => lcGo (lcTurn T1 own1 nc1 me σ) ys ws o else .ok ws o).bind fun ws o => K (xs.drop (i + 1)) ws o := by
      intro ws o
      show (lcGo2 (lc2Turn T own nc mi1 T1 own1 nc1 me σd) (xs.drop i) ws o).bind _ = _
      rw [List.drop_eq_getElem_cons hlt]
      rw [lcGo2, R.bind_assoc]
      rw [show lc2Turn T own nc mi1 T1 own1 nc1 me σd xs[i] ws o = (mTg T (.v xs[i]) (wipeD σd own) o).bind fun σ o => (nc σ o).bind fun k o => if k = true then (mi1 σ o).bind fun ys o => lcGo (lcTurn T1 own1 nc1 me σ) ys ws o else .ok ws o from rfl, R.bind_assoc]
      congr 1; funext σ o
      rw [R.bind_assoc]
    have pa : Post (gX X) F ι1 o1 H1 (K (xs.drop i) ws0 objs') Q := p'
    rw [kd] at pa
    obtain ⟨σ2, o2, e4, pb⟩ := pa.bind
    clear pa p'
    obtain ⟨rfl, hT2⟩ := tg_ok hT s0 rv2 e4
    refine hT2 _ fun σ3 sr3 hw => ⟨hw, ?_⟩
    obtain ⟨kk, o5, e5, pc⟩ := pb.bind
    have S2 : LcS (gX X) F Dd ι1 o1 H1 (fun ws o => (nc σ2 o).bind fun kk o => (if kk = true then (mi1 σ2 o).bind fun ys o => lcGo (lcTurn T1 own1 nc1 me σ2) ys ws o else .ok ws o).bind fun ws o => K (xs.drop (i + 1)) ws o) Q H2 ι' o2 := S0.on rel2 ex2 fun ws => by rw [kd, e4]; rfl
    refine ⟨FD F Dd, ι', o2, σ2, rel2, sr3, ?_⟩
    rw [e5]
    intro ι6 H6 rel6 ex6
    have S6 : LcS (gX X) F Dd ι1 o1 H1 (fun ws o => (if kk = true then (mi1 σ2 o).bind fun ys o => lcGo (lcTurn T1 own1 nc1 me σ2) ys ws o else .ok ws o).bind fun ws o => K (xs.drop (i + 1)) ws o) Q H6 ι6 o5 := S2.on rel6 ex6 fun ws => by rw [e5]; rfl
    cases kk with
    | false =>
      simp only [Bool.false_eq_true, if_false, R.bind_ok] at S6 ⊢
      exact ⟨hlt, ι6, o5, S6⟩
    | true =>
      simp only [if_true, R.bind_assoc] at S6 pc ⊢
      obtain ⟨ys0, o7, e7, pd⟩ := pc.bind
      refine ⟨FD F Dd, ι6, o5, σ2, rel6, sr3.ext ex6, ?_⟩
      cases e8 : mi1 σ2 o5 with
      | exc _ _ => rw [e8] at e7; cases e7
      | stuck => rw [e8] at e7; cases e7
      | ok ys o8 =>
      intro J1 ι8 H8 rel8 ex8 yl1
      have S8 : LcS (gX X) F Dd ι1 o1 H1 (fun ws o => (lcGo (lcTurn T1 own1 nc1 me σ2) ys ws o).bind fun ws o => K (xs.drop (i + 1)) ws o) Q H8 ι8 o8 := S6.on rel8 ex8 fun ws => by rw [e8]; rfl
      have sr8 : SRel (gX X) ι8 (Al (FD F Dd) ι8 o8) H8 σ2 σ3 := (sr3.ext ex6).ext ex8
      refine ⟨fun j m H' => m = ys.length - j ∧ j ≤ ys.length ∧ ∃ ι' objs', LcS (gX X) F Dd ι1 o1 H1 (fun ws o => (lcGo (lcTurn T1 own1 nc1 me σ2) (ys.drop j) ws o).bind fun ws o => K (xs.drop (i + 1)) ws o) Q H' ι' objs' ∧ Carry (Al (FD F Dd) ι8 o8) H8 (Al (FD F Dd) ι' objs') H' ∧ ι8 <+: ι',
        ⟨ys.length, by simp, Nat.zero_le _, ι8, o8, by rw [List.drop_zero]; exact S8, .refl, List.prefix_rfl⟩, ?_⟩
      rintro j m1 H9 ⟨rfl, hj', ι9, o9, S9, ca9, pre9⟩
      obtain ⟨z1, z2⟩ := yl1 j (FD F Dd) ι9 o9 H9 ca9 S9.rel
      by_cases hjt : j < ys.length
      · obtain ⟨go1, yy⟩ := z1 ys[j] (List.getElem?_eq_getElem hjt)
        refine .inr ⟨go1, fun H2 => j + 1 ≤ ys.length ∧ ∃ ι2 objs2, LcS (gX X) F Dd ι1 o1 H1 (fun ws o => (lcGo (lcTurn T1 own1 nc1 me σ2) (ys.drop (j + 1)) ws o).bind fun ws o => K (xs.drop (i + 1)) ws o) Q H2 ι2 objs2 ∧ Carry (Al (FD F Dd) ι8 o8) H8 (Al (FD F Dd) ι2 objs2) H2 ∧ ι8 <+: ι2,
          fun H2 hN => ⟨ys.length - (j + 1), by omega, rfl, hN⟩, fun x1 H10 hy1 => ?_⟩
        obtain ⟨rel10, ex10, rv10⟩ := yy x1 H10 hy1
        have ca10 : Carry (Al (FD F Dd) ι8 o8) H8 (Al (FD F Dd) ι9 o9) H10 := ca9.trans ex10.carry
        have s10 : SRel (gX X) ι9 (Al (FD F Dd) ι9 o9) H10 σ2 σ3 := sr8.carP ca10 pre9
        have kd1 : ∀ ws o, (lcGo (lcTurn T1 own1 nc1 me σ2) (ys.drop j) ws o).bind (fun ws o => K (xs.drop (i + 1)) ws o) = (mTg T1 (.v ys[j]) (wipeD σ2 own1) o).bind fun σ o => (nc1 σ o).bind fun kk o => if kk = true then (me σ o).bind fun w o => if ws.length < sizeLine then (lcGo (lcTurn T1 own1 nc1 me σ2) (ys.drop (j + 1)) (ws ++ [w]) o).bind (fun ws o => K (xs.drop (i + 1)) ws o) else .stuck else (lcGo (lcTurn T1 own1 nc1 me σ2) (ys.drop (j + 1)) ws o).bind (fun ws o => K (xs.drop (i + 1)) ws o) := by
          intro ws o
          rw [List.drop_eq_getElem_cons hjt]
          simp only [lcGo, lcTurn, R.bind_assoc]
          congr 1; funext σ o; congr 1; funext kk o
          cases kk
          · rfl
          · simp only [if_true, R.bind_assoc]
            congr 1; funext w o
            simp only [R.bind_ok]
            split <;> rfl
        obtain ⟨ws9, acc9, _, _, _, _, p9⟩ := S9
        have S9 : LcS (gX X) F Dd ι1 o1 H1 (fun ws o => (lcGo (lcTurn T1 own1 nc1 me σ2) (ys.drop j) ws o).bind fun ws o => K (xs.drop (i + 1)) ws o) Q H9 ι9 o9 := ⟨ws9, acc9, by assumption, by assumption, by assumption, by assumption, p9⟩
        have r9 : Post (gX X) F ι1 o1 H1 ((lcGo (lcTurn T1 own1 nc1 me σ2) (ys.drop j) ws9 o9).bind fun ws o => K (xs.drop (i + 1)) ws o) Q := p9
        rw [kd1] at r9
        obtain ⟨τ2, q2, f4, t9⟩ := r9.bind
        clear r9 p9
        obtain ⟨rfl, hT3⟩ := tg_ok hT1 s10 rv10 f4
        refine hT3 _ fun τ3 tr3 hw1 => ⟨hw1, ?_⟩
        obtain ⟨kb, q5, f5, u9⟩ := t9.bind
        refine ⟨FD F Dd, ι9, q2, τ2, rel10, tr3, ?_⟩
        rw [f5]
        intro ι11 H11 rel11 ex11
        have ca11 : Carry (Al (FD F Dd) ι8 o8) H8 (Al (FD F Dd) ι11 q5) H11 := ca10.trans ex11.carry
        have pre11 : ι8 <+: ι11 := pre9.trans ex11.pre
        have S11 : LcS (gX X) F Dd ι1 o1 H1 (fun ws o => if kb = true then (me τ2 o).bind fun w o => if ws.length < sizeLine then (lcGo (lcTurn T1 own1 nc1 me σ2) (ys.drop (j + 1)) (ws ++ [w]) o).bind (fun ws o => K (xs.drop (i + 1)) ws o) else .stuck else (lcGo (lcTurn T1 own1 nc1 me σ2) (ys.drop (j + 1)) ws o).bind (fun ws o => K (xs.drop (i + 1)) ws o)) Q H11 ι11 q5 :=
          S9.on rel11 (ex10.trans ex11) fun ws => by rw [kd1, f4, R.bind_ok, f5, R.bind_ok]
        cases kb with
        | false =>
          simp only [Bool.false_eq_true, if_false] at S11 ⊢
          exact ⟨hjt, ι11, q5, S11, ca11, pre11⟩
        | true =>
          simp only [if_true] at S11 u9 ⊢
          obtain ⟨w, q7, f7, v9⟩ := u9.bind
          refine ⟨FD F Dd, ι11, q5, τ2, rel11, tr3.ext ex11, ?_⟩
          rw [f7]
          intro v12 ι12 H12 rel12 ex12 r12
          have S12 : LcS (gX X) F Dd ι1 o1 H1 (fun ws o => if ws.length < sizeLine then (lcGo (lcTurn T1 own1 nc1 me σ2) (ys.drop (j + 1)) (ws ++ [w]) o).bind (fun ws o => K (xs.drop (i + 1)) ws o) else .stuck) Q H12 ι12 q7 :=
            S11.on rel12 ex12 fun ws => by rw [f7, R.bind_ok]
          obtain ⟨acc, hacc, hlen, S13⟩ := LcS.more (k := fun ws o => (lcGo (lcTurn T1 own1 nc1 me σ2) (ys.drop (j + 1)) ws o).bind (fun ws o => K (xs.drop (i + 1)) ws o)) hDd S12 r12
          exact ⟨acc, hacc, hlen, hjt, ι12, q7, S13, (ca11.trans ex12.carry).trans growCarry, pre11.trans ex12.pre⟩
      · have hj2 : j = ys.length := by omega
        subst hj2
        refine .inl ⟨z2 (Nat.le_refl _), hlt, ι9, o9, ?_⟩
        rw [List.drop_length] at S9
        exact S9
  · have hi2 : i = xs.length := by omega
    subst hi2
    refine .inl ⟨y2 (Nat.le_refl _), ?_⟩
    have p' : Post (gX X) F ι1 o1 H1 (K (xs.drop xs.length) ws0 objs') Q := p'
    have ke : K (xs.drop xs.length) ws0 objs' = lstMk mu ws0 objs' := by
      show (lcGo2 (lc2Turn T own nc mi1 T1 own1 nc1 me σd) (xs.drop xs.length) ws0 objs').bind _ = _
      rw [List.drop_length]; rfl
    rw [ke] at p'
    exact lc_done hDd rel' ex' hD' k' rel1 p'
/-- [elt for target in iter if .. for target in iter if ..] -/
theorem se_lc2 {ifs ifs1 : List Expr} {scope : Scope} {own : List (Str × Nat)} {T T1 : Tg} {own1 : List Nat} {mu : Bool} (hc : X.calm = true) (hN : X.N.Nodup) (hi : SI X tg iter mi) (ok : BlkOk X.N X.env.scope scope own) (hv : ∀ i ∈ own1, i ∈ own.map (·.2))
    (hT : ∀ i ∈ T.slots, i ∈ own.map (·.2)) (hT1 : ∀ i ∈ T1.slots, i ∈ own1)
    (hg : ∀ (s : Shared) (H : Hp) (C : Addr) (cl : List (Str × Addr)) (fp : List Addr), PG (X.blk s H scope (compEnvC scope cl C X.env) fp) tg (hTg X.K T))
    (ht : ∀ (s : Shared) (H : Hp) (C : Addr) (cl : List (Str × Addr)) (fp : List Addr), PTs (X.blk s H scope (compEnvC scope cl C X.env) fp) ifs (teb (gX X) nc))
    (hi1 : ∀ (s : Shared) (H : Hp) (C : Addr) (cl : List (Str × Addr)) (fp : List Addr), SI (X.blk s H scope (compEnvC scope cl C X.env) fp) tg1 iter1 mi1)
    (hg1 : ∀ (s : Shared) (H : Hp) (C : Addr) (cl : List (Str × Addr)) (fp : List Addr), PG (X.blk s H scope (compEnvC scope cl C X.env) fp) tg1 (hTg X.K T1))
    (ht1 : ∀ (s : Shared) (H : Hp) (C : Addr) (cl : List (Str × Addr)) (fp : List Addr), PTs (X.blk s H scope (compEnvC scope cl C X.env) fp) ifs1 (teb (gX X) nc1))
    (he : ∀ (s : Shared) (H : Hp) (C : Addr) (cl : List (Str × Addr)) (fp : List Addr), SE (X.blk s H scope (compEnvC scope cl C X.env) fp) elt me)
    (hs : ∀ x, foldedSetIterable iter X.env x = pure x) (hs1 : ∀ env x, foldedSetIterable iter1 env x = pure x) : SE X (.ListComp elt [⟨tg, iter, ifs, 0⟩, ⟨tg1, iter1, ifs1, 0⟩] scope pos) (mLc2 mu mi T (own.map (·.2)) nc mi1 T1 own1 nc1 me) :=
  (pe_lc2 hc hN hi ok hv hg ht hi1 hg1 ht1 he hs hs1).weak fun σ H Q h => se_lc2Core hT hT1 h
/-- name = [.. for .. for ..] -/
theorem ss_setLc2 {i : Nat} {y : Str} {py spos : Pos} {ifs ifs1 : List Expr} {scope : Scope} {own : List (Str × Nat)} {T T1 : Tg} {own1 : List Nat} {mu : Bool} (hc : X.calm = true) (hN : X.N.Nodup) (hy : X.N[i]? = some y) (hyl : X.env.scope.names.lookup y = some .local)
    (hsw : swapsWith (.ListComp elt [⟨tg, iter, ifs, 0⟩, ⟨tg1, iter1, ifs1, 0⟩] scope pos) (some (.Name y py)) spos.line X.env = pure true) (hi : SI X tg iter mi) (ok : BlkOk X.N X.env.scope scope own) (hv : ∀ i ∈ own1, i ∈ own.map (·.2))
    (hT : ∀ i ∈ T.slots, i ∈ own.map (·.2)) (hT1 : ∀ i ∈ T1.slots, i ∈ own1)
    (hg : ∀ (s : Shared) (H : Hp) (C : Addr) (cl : List (Str × Addr)) (fp : List Addr), PG (X.blk s H scope (compEnvC scope cl C X.env) fp) tg (hTg X.K T))
    (ht : ∀ (s : Shared) (H : Hp) (C : Addr) (cl : List (Str × Addr)) (fp : List Addr), PTs (X.blk s H scope (compEnvC scope cl C X.env) fp) ifs (teb (gX X) nc))
    (hi1 : ∀ (s : Shared) (H : Hp) (C : Addr) (cl : List (Str × Addr)) (fp : List Addr), SI (X.blk s H scope (compEnvC scope cl C X.env) fp) tg1 iter1 mi1)
    (hg1 : ∀ (s : Shared) (H : Hp) (C : Addr) (cl : List (Str × Addr)) (fp : List Addr), PG (X.blk s H scope (compEnvC scope cl C X.env) fp) tg1 (hTg X.K T1))
    (ht1 : ∀ (s : Shared) (H : Hp) (C : Addr) (cl : List (Str × Addr)) (fp : List Addr), PTs (X.blk s H scope (compEnvC scope cl C X.env) fp) ifs1 (teb (gX X) nc1))
    (he : ∀ (s : Shared) (H : Hp) (C : Addr) (cl : List (Str × Addr)) (fp : List Addr), SE (X.blk s H scope (compEnvC scope cl C X.env) fp) elt me)
    (hs : ∀ x, foldedSetIterable iter X.env x = pure x) (hs1 : ∀ env x, foldedSetIterable iter1 env x = pure x) : SS X (.Assign [.Name y py] (.ListComp elt [⟨tg, iter, ifs, 0⟩, ⟨tg1, iter1, ifs1, 0⟩] scope pos) spos) (mAsg (mLc2 mu mi T (own.map (·.2)) nc mi1 T1 own1 nc1 me) (gNm i)) := by
  refine (ps_setLc2 (wi1 := tSI (gX X) mi1) (te := tev (gX X) me) hc hN hy hyl hsw hi ok hv hg ht hi1 hg1 ht1 he hs hs1).weak fun D σ H ⟨F, ι, objs, σd, rel, sr, p⟩ => ?_
  obtain ⟨w, o1, e1, p⟩ := p.bind
  refine se_lc2Core (mu := mu) hT hT1 ⟨F, ι, objs, σd, rel, sr, ?_⟩
  rw [e1]
  intro v ι1 H1 rel1 ex1 r1
  exact p ι1 H1 _ rel1 ex1 ((sr.ext ex1).set i r1)
end
/-! ### range downwards -/
def rngD (hi : Int) (n : Nat) : List D := (List.range n).map fun (i : Nat) => D.int (hi - i)
def rng3 (ws : List W) (o : Objs) : R (List D) := match ws with
  | [.v (.int i), .v (.int j), .v (.int c)] => if c = -1 ∧ -(2 ^ 62) ≤ i ∧ i < 2 ^ 62 ∧ -(2 ^ 62) ≤ j ∧ j < 2 ^ 62 then .ok (rngD i (i - j).toNat) o else .stuck
  | _ => .stuck
theorem yields_rngD {g : GE} {F : Addr → Prop} {ι : List Addr} {H : Hp} {objs : Objs} (hi : Int) (n : Nat) : Yields g F (Itc hi (-1) n) (rngD hi n) ι objs H := by
  intro i F' ι1 o1 H1 ca rel
  refine ⟨fun d hd => ?_, fun hl => by show n ≤ i; simpa [rngD] using hl⟩
  unfold rngD at hd
  rw [List.getElem?_map] at hd
  cases hc : (List.range n)[i]? with
  | none => rw [hc] at hd; cases hd
  | some c =>
    rw [hc] at hd
    cases hd
    obtain ⟨h1, h2⟩ := List.getElem?_eq_some_iff.mp hc
    simp at h1 h2
    subst h2
    refine ⟨h1, fun z H' hy => ?_⟩
    obtain ⟨rfl, rfl⟩ := hy
    exact ⟨rel, .refl, by simp only [RV]; congr 1; omega⟩
theorem si_rng3 {X : Cx} {a b c tg : Expr} {ml : ML} {p pos : Pos} (hg : Gl X "range") (hm : X.mg "range" = none) (ha : SA X [a, b, c] ml) (hs : isStar a = false) (hs2 : isStar b = false) (hs3 : isStar c = false) : SI X tg (.Call (.Name "range" p) [a, b, c] [] pos) (mRng rng3 ml) := by
  refine (pi_range3 hg hm ha (star_cons hs _) (star_none (by simp [hs2, hs3]))).weak fun σ H Rk ⟨F, ι, objs, σd, rel, sr, p⟩ => ?_
  unfold mRng at p
  cases e1 : ml σd objs with
  | exc _ _ => rw [e1] at p; exact p.elim
  | stuck => rw [e1] at p; exact p.elim
  | ok ws o1 =>
    rw [e1, R.bind_ok] at p
    refine ⟨F, ι, objs, σd, rel, sr, ?_⟩
    rw [e1]
    intro vs ι1 H1 rel1 ex1 r1
    unfold rng3 at p
    split at p
    · rename_i heq
      split at heq
      · split at heq
        · rename_i hb
          cases heq
          cases r1 with
          | cons k1 r1 =>
            obtain ⟨y, z, rfl, k2, k3⟩ := paired2 r1
            simp only [RW, RV] at k1 k2 k3
            subst k1 k2 k3
            obtain ⟨rfl, b1, b2, b3, b4⟩ := hb
            exact ⟨_, _, _, _, rfl, RgC.neg b1 b2 b3 b4, p _ ι1 H1 rel1 ex1 (yields_rngD _ _)⟩
        · cases heq
      · cases heq
    · exact p.elim
    · exact p.elim
end RR

set_option maxHeartbeats 4000000
namespace RR
open PySem PySem.Spec PyProof.Rows L2
/-! ### defs: what they do, how they are called -/
/-- a def: fm runs it on its arguments and the things among them that it may change -/
structure FI where
  n : Nat
  /-- the first argument is a thing that the def may change -/
  mt : Bool
  fm : List W → Objs → R W
  /-- calls by names alone: the names, and where each parameter's value stands among them -/
  kws : List (List Str × List Nat) := []
def spOf (g : GE) (n : Nat) (fm : List W → Objs → R W) : Sp := fun vs H Q _ => vs.length = n ∧ ∃ F ι objs ws, Rel g F ι H objs ∧ RWs g ι (Al F ι objs) H ws vs ∧ Post g F ι objs H (fm ws objs) Q
def flatO : MO → Bool
  | .lol _ => false
  | _ => true
def freshL (o2 : Objs) : Option (List D) := match o2 with
  | [e] => match e with
    | ⟨true, .lst ds⟩ => some ds
    | _ => none
  | _ => none
theorem freshL_inv {o2 : Objs} {ds : List D} (h : freshL o2 = some ds) : o2 = [⟨true, .lst ds⟩] := by
  unfold freshL at h
  split at h
  · split at h
    · cases h; rfl
    · cases h
  · cases h
/-- behind a call: the thing changed at k, the result -/
def backC (k : Option Nat) (o : Objs) (r : R W) : R W := match r with
  | .ok (.v d) o2 => match k, o2 with
    | none, [] => .ok (.v d) o
    | some k, [e] => if flatO e.ob = true then .ok (.v d) (o.set k e) else .stuck
    | _, _ => .stuck
  | .ok (.o j) o2 => match k, j with
    | none, 0 => match freshL o2 with
      | some ds => .ok (.o o.length) (o ++ [⟨true, .lst ds⟩])
      | none => .stuck
    | _, _ => .stuck
  | .exc _ _ => .stuck
  | .stuck => .stuck
def callW (fi : FI) (ws : List W) (o : Objs) : R W :=
  if ws.length = fi.n then
    match fi.mt, ws with
    | false, ws => match pulls o ws with
      | some (ds, o1) => backC none o1 (fi.fm (ds.map W.v) [])
      | none => .stuck
    | true, .o k :: ws => match pulls o ws with
      | some (ds, o1) => match o1[k]? with
        | some ⟨true, m⟩ => if flatO m then backC (some k) o1 (fi.fm (.o 0 :: ds.map W.v) [⟨true, m⟩]) else .stuck
        | _ => .stuck
      | none => .stuck
    | true, _ => .stuck
  else .stuck
section
variable {g : GE} {F F' : Addr → Prop} {ι ι' ι1 ι2 : List Addr} {H H' H1 H2 : Hp} {objs objs' objs1 objs2 : Objs} {A A' : Addr → Prop}
theorem RVs.ws {ds : List D} {vs : List V} (h : RVs g A H ds vs) : RWs g ι A H (ds.map W.v) vs := by
  induction ds generalizing vs with
  | nil => simp only [RVs] at h; subst h; exact .nil
  | cons d ds ih =>
    simp only [RVs] at h
    obtain ⟨v, r, rfl, h1, h2⟩ := h
    exact .cons h1 (ih h2)
theorem Rel.nil (h : ∀ a, F a → ∃ o, H a = some o) : Rel g F [] H [] := ⟨by simp, rfl, fun i a o e => by simp at e, fun a z => ⟨h a z, by simp⟩⟩
theorem Rel.tracked (r : Rel g F ι H objs) {a : Addr} (h : Al F ι objs a) : ∃ o, H a = some o := by
  rcases h with h | h
  · exact (r.out a h).1
  · exact r.has h.mem
theorem Live.none {a : Addr} (h : Live [] [] a) : False := by obtain ⟨i, o, e, _⟩ := h; simp at e
/-- a heap in which nothing changed but what was new -/
theorem Rel.grown (r : Rel g F ι H objs) (k : ∀ b o, H b = some o → H' b = some o) : Rel g F ι H' objs ∧ Ext ι objs H ι objs H' := by
  have ex : Ext ι objs H ι objs H' := ⟨List.prefix_rfl, fun b o e _ => k b o e, fun _ z n => absurd z n⟩
  exact ⟨⟨r.nd, r.len, fun i a o e1 e2 => (r.at_ i a o e1 e2).ext ex fun u => k a u, fun a z => ⟨let ⟨o, e⟩ := (r.out a z).1; ⟨o, k a o e⟩, (r.out a z).2⟩⟩, ex⟩
theorem len1 {α : Type} {l : List α} (h : l.length = 1) : ∃ a, l = [a] := by
  match l, h with
  | [a], _ => exact ⟨a, rfl⟩
theorem call_pure {fm : List W → Objs → R W} {ds : List D} {vs : List V} {Q : VK} (r : Rel g F ι H objs) (k : RVs g (Al F ι objs) H ds vs) (p : Post g F ι objs H (backC none objs (fm (ds.map W.v) [])) Q) :
    ∃ F ι objs ws, Rel g F ι H objs ∧ RWs g ι (Al F ι objs) H ws vs ∧ Post g F ι objs H (fm ws objs) Q := by
  refine ⟨Al F ι objs, [], [], ds.map W.v, Rel.nil fun a z => r.tracked z, RVs.ws (k.anti fun a z => z.elim id fun z => z.none.elim), ?_⟩
  cases hfm : fm (ds.map W.v) [] with
  | exc _ _ => rw [hfm] at p; exact p.elim
  | stuck => rw [hfm] at p; exact p.elim
  | ok w o2 =>
    rw [hfm] at p
    cases w with
    | v d =>
      cases o2 with
      | cons _ _ => exact p.elim
      | nil =>
        have p : Post g F ι objs H (.ok (.v d) objs) Q := p
        intro v ι' H' r' ex' k'
        have e0 : ι' = [] := List.eq_nil_of_length_eq_zero r'.len
        subst e0
        obtain ⟨r2, x2⟩ := r.grown fun b o e => ex'.keep b o e fun z => z.none
        exact p v ι H' r2 x2 (RW.anti k' fun a z => .inl z)
    | o j =>
      cases j with
      | succ j => exact p.elim
      | zero =>
      cases hfr : freshL o2 with
      | none => simp only [backC, hfr] at p; exact p.elim
      | some zs =>
        simp only [backC, hfr] at p
        have hfr := freshL_inv hfr
        subst hfr
        have p : Post g F ι objs H (.ok (.o objs.length) (objs ++ [⟨true, .lst zs⟩])) Q := p
        intro v ι' H' r' ex' k'
        obtain ⟨a, rfl⟩ := len1 r'.len
        obtain ⟨b, hb, rfl⟩ := k'
        simp at hb
        subst hb
        obtain ⟨vs', q1, q2⟩ := r'.at_ 0 a _ rfl rfl
        have hn : H a = none := ex'.new a ⟨0, _, rfl, rfl⟩ fun z => z.none
        obtain ⟨r2, x2⟩ := r.grown fun b o e => ex'.keep b o e fun z => z.none
        have na : a ∉ ι := r.fresh hn
        have nF : ¬ F a := r.freshF hn
        have same : ∀ b, Al F (ι ++ [a]) (objs ++ [⟨true, .lst zs⟩]) b ↔ (Al F ι objs b ∨ b = a) := by
          intro b
          constructor
          · rintro (z | ⟨i, u, e1, e2⟩)
            · exact .inl (.inl z)
            · by_cases hi : i < ι.length
              · rw [List.getElem?_append_left hi] at e1
                rw [List.getElem?_append_left (by rw [← r.len]; exact hi)] at e2
                exact .inl (.inr ⟨i, u, e1, e2⟩)
              · have e : i = ι.length := by
                  have := (List.getElem?_eq_some_iff.mp e1).1
                  simp at this; omega
                subst e
                simp at e1
                exact .inr e1.symm
          · rintro ((z | ⟨i, u, e1, e2⟩) | z)
            · exact .inl z
            · refine .inr ⟨i, u, ?_, ?_⟩
              · rw [List.getElem?_append_left (List.getElem?_eq_some_iff.mp e1).1]; exact e1
              · rw [List.getElem?_append_left (List.getElem?_eq_some_iff.mp e2).1]; exact e2
            · subst z
              exact .inr ⟨ι.length, .lst zs, by simp, by rw [r.len]; simp⟩
        have exx : Ext ι objs H' (ι ++ [a]) (objs ++ [⟨true, .lst zs⟩]) H' → False ∨ True := fun _ => .inr trivial
        refine p _ (ι ++ [a]) H' ⟨?_, by simp [r.len], fun i b ob e1 e2 => ?_, fun b z => ⟨(r2.out b z).1, fun q => ?_⟩⟩ ⟨List.prefix_append _ _, x2.keep, fun b z n => ?_⟩ ⟨a, by rw [← r.len]; simp, rfl⟩
        · rw [List.nodup_append]
          refine ⟨r.nd, by simp, fun b hb c hc e => ?_⟩
          rw [List.mem_singleton.mp hc] at e
          exact na (e ▸ hb)
        · by_cases hi : i < ι.length
          · rw [List.getElem?_append_left hi] at e1
            rw [List.getElem?_append_left (by rw [← r.len]; exact hi)] at e2
            have h1 := r.at_ i b ob e1 e2
            have hc : Carry (Al F ι objs) H (Al F (ι ++ [a]) (objs ++ [⟨true, .lst zs⟩])) H' := ⟨fun c u q n => ⟨x2.kp q n, fun z => by
              rcases (same c).mp z with z | z
              · exact n z
              · rw [z, hn] at q; cases q⟩⟩
            have kp : ∀ u, H b = some u → H' b = some u := fun u q => ex'.keep b u q fun z => z.none
            cases hm : ob.ob with
            | lst ys => rw [hm] at h1; exact let ⟨vs, h, k⟩ := h1; ⟨vs, kp _ h, RVs.car hc _ _ k⟩
            | lol is => rw [hm] at h1; exact let ⟨vs, h, k⟩ := h1; ⟨vs, kp _ h, Paired.mapP k fun i v ⟨c, e, z⟩ => ⟨c, by rw [List.getElem?_append_left (List.getElem?_eq_some_iff.mp e).1]; exact e, z⟩⟩
            | dic ks ds => rw [hm] at h1; exact let ⟨kvs, h, k, q⟩ := h1; ⟨kvs, kp _ h, k, RVs.car hc _ _ q⟩
            | ins c ns ds => rw [hm] at h1; exact let ⟨C, dx, vs, c1, h, k, q⟩ := h1; ⟨C, dx, vs, c1, kp _ h, k, RVs.car hc _ _ q⟩
          · have e : i = ι.length := by
              have := (List.getElem?_eq_some_iff.mp e1).1
              simp at this; omega
            subst e
            simp at e1
            rw [r.len] at e2
            simp at e2
            subst e1 e2
            refine ⟨vs', q1, q2.anti fun c z => ?_⟩
            rcases (same c).mp z with z | z
            · exact .inl z
            · subst z; exact .inr ⟨0, _, rfl, rfl⟩
        · rcases List.mem_append.mp q with q | q
          · exact (r.out b z).2 q
          · rw [List.mem_singleton.mp q] at z; exact nF z
        · rcases (same b).mp (.inr z) with z' | z'
          · rcases z' with z' | z'
            · exact absurd z.mem (fun q => by
                rcases List.mem_append.mp q with q | q
                · exact (r.out b z').2 q
                · rw [List.mem_singleton.mp q] at z'; exact nF z')
            · exact absurd z' n
          · rw [z']; exact hn
theorem call_mut {fm : List W → Objs → R W} {ds : List D} {vs : List V} {v0 : V} {k : Nat} {m : MO} {Q : VK} (r : Rel g F ι H objs) (hk : RAt ι k v0) (ho : objs[k]? = some ⟨true, m⟩) (hm : flatO m = true) (kd : RVs g (Al F ι objs) H ds vs) (p : Post g F ι objs H (backC (some k) objs (fm (.o 0 :: ds.map W.v) [⟨true, m⟩])) Q) :
    ∃ F ι objs ws, Rel g F ι H objs ∧ RWs g ι (Al F ι objs) H ws (v0 :: vs) ∧ Post g F ι objs H (fm ws objs) Q := by
  obtain ⟨a, ha, rfl⟩ := hk
  have lv : Live ι objs a := ⟨k, m, ha, ho⟩
  -- what is live beside a
  have same : ∀ b, Al (fun b => Al F ι objs b ∧ b ≠ a) [a] [⟨true, m⟩] b ↔ Al F ι objs b := by
    intro b
    constructor
    · rintro (z | ⟨i, u, e1, e2⟩)
      · exact z.1
      · match i, e1 with
        | 0, e1 => simp at e1; subst e1; exact .inr lv
    · intro z
      by_cases hb : b = a
      · subst hb; exact .inr ⟨0, m, rfl, rfl⟩
      · exact .inl ⟨z, hb⟩
  have relC : Rel g (fun b => Al F ι objs b ∧ b ≠ a) [a] H [⟨true, m⟩] := by
    refine ⟨by simp, rfl, fun i b ob e1 e2 => ?_, fun b z => ⟨r.tracked z.1, by simpa using z.2⟩⟩
    match i, e1, e2 with
    | 0, e1, e2 =>
      simp at e1 e2
      subst e1 e2
      have h1 := (r.at_ k _ _ ha ho).anti fun b z => (same b).mp z
      cases m with
      | lst ys => exact h1
      | lol is => cases hm
      | dic ks ds => exact h1
      | ins c ns ds => exact h1
  refine ⟨_, [a], [⟨true, m⟩], .o 0 :: ds.map W.v, relC, .cons ⟨a, rfl, rfl⟩ (RVs.ws (kd.anti fun b z => (same b).mp z)), ?_⟩
  cases hfm : fm (.o 0 :: ds.map W.v) [⟨true, m⟩] with
  | exc _ _ => rw [hfm] at p; exact p.elim
  | stuck => rw [hfm] at p; exact p.elim
  | ok w o2 =>
    rw [hfm] at p
    cases w with
    | o j => exact p.elim
    | v d =>
      match o2, p with
      | [], p => exact p.elim
      | _ :: _ :: _, p => exact p.elim
      | [e], p =>
        simp only [backC] at p
        split at p
        case isFalse => exact p.elim
        rename_i hfe
        have p : Post g F ι objs H (.ok (.v d) (objs.set k e)) Q := p
        intro v ι' H' r' ex' k'
        have e0 : ι' = [a] := by
          obtain ⟨t, rfl⟩ := ex'.pre
          have := r'.len
          simp at this
          subst this
          rfl
        subst e0
        have hkl : k < objs.length := (List.getElem?_eq_some_iff.mp ho).1
        have kp : ∀ b u, H b = some u → b ≠ a → H' b = some u := fun b u q n => ex'.keep b u q fun z => by
          obtain ⟨i, u, e1, _⟩ := z
          match i, e1 with
          | 0, e1 => simp at e1; exact n e1.symm
        -- live behind the call
        have lv2 : ∀ b, Live ι (objs.set k e) b → Live ι objs b := by
          rintro b ⟨i, u, e1, e2⟩
          rcases set_get e2 with ⟨rfl, _⟩ | ⟨hi, e2⟩
          · rw [ha] at e1; cases e1; exact lv
          · exact ⟨i, u, e1, e2⟩
        have sub2 : ∀ b, Al F ι (objs.set k e) b → Al (fun b => Al F ι objs b ∧ b ≠ a) [a] [e] b := by
          rintro b (z | ⟨i, u, e1, e2⟩)
          · refine .inl ⟨.inl z, fun q => ?_⟩
            subst q
            exact (r.out _ z).2 (List.mem_of_getElem? ha)
          · rcases set_get e2 with ⟨rfl, q⟩ | ⟨hi, e2⟩
            · rw [ha] at e1; cases e1
              exact .inr ⟨0, u, rfl, by rw [← q]; rfl⟩
            · refine .inl ⟨.inr ⟨i, u, e1, e2⟩, fun q => ?_⟩
              subst q
              exact hi (r.idx e1 ha)
        have ex2 : Ext ι objs H ι (objs.set k e) H' := ⟨List.prefix_rfl, fun b u q n => kp b u q fun z => n (by rw [z]; exact lv), fun b z n => absurd (lv2 b z) n⟩
        refine p v ι H' ⟨r.nd, by simp [r.len], fun i b ob e1 e2 => ?_, fun b z => ⟨?_, (r.out b z).2⟩⟩ ex2 (RW.anti k' sub2)
        · rcases set_get e2 with ⟨rfl, rfl⟩ | ⟨hi, e2⟩
          · rw [ha] at e1; cases e1
            have h1 := (r'.at_ 0 _ _ rfl rfl).anti sub2
            cases hm2 : ob.ob with
            | lst ys => rw [hm2] at h1; exact h1
            | lol is => rw [hm2] at hfe; cases hfe
            | dic ks ds => rw [hm2] at h1; exact h1
            | ins c ns ds => rw [hm2] at h1; exact h1
          · refine (r.at_ i b ob e1 e2).ext ex2 fun u q => kp b u q fun z => ?_
            subst z
            exact hi (r.idx e1 ha)
        · obtain ⟨u, q⟩ := (r.out b z).1
          exact ⟨u, kp b u q fun y => (r.out b z).2 (by rw [y]; exact List.mem_of_getElem? ha)⟩
end
end RR

set_option maxHeartbeats 4000000
namespace RR
open PySem PySem.Spec PyProof.Rows L2
/-! ### defs that may ask for a repr: nothing guards -/
structure RoomG (k : Nat) (A : Around) : Prop where
  r : L2.Room k A
  g : A.guards = some []
namespace RoomG
variable {k j : Nat} {A : Around}
theorem mono (r : RoomG k A) (h : j ≤ k) : RoomG j A := ⟨r.r.mono h, r.g⟩
theorem deeper (r : RoomG (k + 1) A) (env : Env) : RoomG k (A.deeper env) := ⟨r.r.deeper env, r.g⟩
theorem in1 (r : RoomG (k + 1) A) : RoomG k A.in1 := ⟨r.r.in1, r.g⟩
theorem make_guards {C : Addr} {us : List Value} {kw : List (Str × Value)} : (A.under (.builtin "type.__call__" ⟨.ref C :: us, kw⟩)).guards = pushGuards [] A.guards := by
  first | rfl | simp [Around.under, Code.guards, Code.isGuard, guardIds]
theorem make (r : RoomG (k + 1) A) (C : Addr) (us : List Value) (kw : List (Str × Value)) : RoomG k (A.under (.builtin "type.__call__" ⟨.ref C :: us, kw⟩)) :=
  ⟨r.r.make C us kw, by rw [make_guards, r.g]; rfl⟩
theorem depth (r : RoomG k A) : A.depth < recursionLimit := r.r.depth
theorem units (r : RoomG k A) : A.units + 64 < cLine := r.r.units
theorem units0 (r : RoomG k A) : A.units < cLine := r.r.units0
theorem hd (r : RoomG k A) : A.handled = none := r.r.hd
end RoomG
structure FnG (P : Program) (w : World) (K : PySem.W.Frag) (mg : Str → Option Value) (base : Heap) (CX : CXT) (k : Nat) (f : Addr) (fd : FuncData) (ps : List Str) (sp : Sp) : Prop where
  len : ∀ vs H Q E, sp vs H Q E → vs.length = ps.length
  run : ∀ (A : Around) (outer : List Env) (s : Shared) (H : Hp) (args : Args) (us : List Value) (vs : List V) (Q : VK) (E : XK), RoomG k A → Env0 P w K mg base A outer s H → BindsTo s fd args (ps.zip us) → Vals vs us → sp vs H Q E →
    codeAny (model P w) A (.call (.ref f) args) (CR CX outer P w H s Q E) s
theorem FnG.mono {P : Program} {w : World} {K : PySem.W.Frag} {mg : Str → Option Value} {base : Heap} {CX : CXT} {j k : Nat} {f : Addr} {fd : FuncData} {ps : List Str} {sp : Sp} (F : FnG P w K mg base CX j f fd ps sp) (h : j ≤ k) :
    FnG P w K mg base CX k f fd ps sp := ⟨F.len, fun A outer s H args us vs Q E hr => F.run A outer s H args us vs Q E (hr.mono h)⟩
section
variable {X : Cx} {CX : CXT} {k : Nat} {f C : Addr} {fd : FuncData} {ps : List Str} {sp : Sp} {dvs : List V} {ds : List Value} {E : XK} {x m : Str} {p pos apos : Pos} {e o : Expr} {es : List Expr} {ta : TE} {t : TA}
theorem run_fnG {pins : List (Addr × Obj)} {σ : L2.St} {H : Hp} {s : Shared} {Q : VK} {us : List Value} {vs : List V} (F : FnG X.prog X.w X.K X.mg X.base CX k f fd ps sp) (hr : RoomG k X.A) (hb : Binds X.K fd ps ds) (hd : Vals dvs ds) (hx : Passes CX X E)
    (I : L2.Inv X pins σ H s) (r : Vals vs us) (h : sp (vs ++ dvs) H Q E) : wpAny (model X.prog X.w) X.A (call (.ref f) us) (EP X pins σ Q) X.xe s := by
  have r2 : Vals (vs ++ dvs) (us ++ ds) := r.append hd
  have hl : (us ++ ds).length = ps.length := by rw [← r2.length]; exact F.len _ _ _ _ h
  refine wpAny_call (codeAny_mono (F.run X.A X.stack s H ⟨us, []⟩ (us ++ ds) (vs ++ dvs) Q E hr I.env0 (hb s us I.kIn hl) r2 h) fun r s' hq => ?_)
  cases r with
  | error e => exact hx pins σ H s e s' I hq
  | ok fl =>
    cases fl with
    | ret u => exact I.after hq
    | next => exact False.elim hq
    | brk => exact False.elim hq
    | cont => exact False.elim hq
theorem pe_callG (F : FnG X.prog X.w X.K X.mg X.base CX k f fd ps sp) (hr : RoomG k X.A) (hg : Gl X x) (hm : X.mg x = some (.ref f)) (hk : PySem.W.keepIn X.K (.ref f) = true) (hb : Binds X.K fd ps ds) (hd : Vals dvs ds) (hx : Passes CX X E)
    (ha : PA X (e :: es) t) (hdb : (x == ("__debug__" : Str)) = false) (he : starEach (e :: es) X.env = (false, eval e X.env) :: starEach es X.env) (hpl : (backTo pos (starEach es X.env)).any (·.1) = false) :
    PE X (.Call (.Name x p) (e :: es) [] pos) (tCall sp dvs E t) := ⟨fun pins s σ H Q I h => wpAny_Call_Name_kw (ld_glob I hg hm
      (PySem.W.callWith_K (h₀ := X.base) I.ok.mod.kin hk (thn (ha.run pos pins s σ H _ I h) fun us s1 ⟨vs, H1, I1, r, q⟩ => ⟨I1.kIn, run_fnG F hr hb hd hx I1 r q⟩) he hpl) hdb)⟩
theorem pe_callG0 (F : FnG X.prog X.w X.K X.mg X.base CX k f fd ps sp) (hr : RoomG k X.A) (hg : Gl X x) (hm : X.mg x = some (.ref f)) (hk : PySem.W.keepIn X.K (.ref f) = true) (hb : Binds X.K fd ps ds) (hd : Vals dvs ds) (hx : Passes CX X E)
    (hdb : (x == ("__debug__" : Str)) = false) : PE X (.Call (.Name x p) [] [] pos) (tCall sp dvs E tNil) :=
  ⟨fun pins s σ H Q I h => wpAny_Call_Name_kw (ld_glob I hg hm (PySem.W.callWith_K0 I.kIn hk (run_fnG (us := []) F hr hb hd hx I .nil h)) hdb)⟩
theorem run_makeG {pins : List (Addr × Obj)} {σ : L2.St} {H : Hp} {s : Shared} {Q : VK} {us : List Value} {vs : List V} (M : Mk X.K C f) (F : FnG X.prog X.w X.K X.mg X.base CX k f fd ps sp) (hr : RoomG (k + 1) X.A) (hb : Binds X.K fd ps ds) (hd : Vals dvs ds)
    (hx : Passes CX X E) (I : L2.Inv X pins σ H s) (r : Vals vs us)
    (h : ∀ x dx, H x = none → H dx = none → dx ≠ x → sp (.ref x :: (vs ++ dvs)) (upd (upd H dx (.own x)) x (.ins C dx [])) (fun v H2 => v = .non ∧ Q (.ref x) H2) E) :
    wpAny (model X.prog X.w) X.A (call (.ref C) us) (EP X pins σ Q) X.xe s := by
  have hq := h (s.heap.objs.size + 1) s.heap.objs.size (I.hok.fresh (Nat.le_succ _)) (I.hok.fresh (Nat.le_refl _)) (Nat.ne_of_lt (Nat.lt_succ_self _))
  have I2 := Inv.made (C := C) I
  have r2 : Vals (V.ref (s.heap.objs.size + 1) :: (vs ++ dvs)) (Value.ref (s.heap.objs.size + 1) :: (us ++ ds)) := .cons rfl (r.append hd)
  have hl : (Value.ref (s.heap.objs.size + 1) :: us ++ ds).length = ps.length := by
    have e := r2.length
    rw [F.len _ _ _ _ hq] at e
    exact e.symm
  have go := F.run _ X.stack _ _ ⟨Value.ref (s.heap.objs.size + 1) :: us, []⟩ (Value.ref (s.heap.objs.size + 1) :: (us ++ ds)) _ _ E (hr.make C us []) (I2.env0.make C us []) (hb _ (Value.ref (s.heap.objs.size + 1) :: us) I2.kIn hl) r2 hq
  refine wpAny_call (make_map (f := f) I.kIn M.makes M.init (beq_iff_eq.mp M.fn) (codeAny_mono go fun r s' hq' => ?_))
  cases r with
  | error e => exact hx pins σ _ _ e s' I2 hq'
  | ok fl =>
    cases fl with
    | ret u =>
      obtain ⟨v, H', I3, rv, ev, q3⟩ := I2.after hq'
      subst ev
      exact ⟨rv, ⟨V.ref (s.heap.objs.size + 1), H', I3, rfl, q3⟩⟩
    | next => exact False.elim hq'
    | brk => exact False.elim hq'
    | cont => exact False.elim hq'
theorem pe_makeG (M : Mk X.K C f) (F : FnG X.prog X.w X.K X.mg X.base CX k f fd ps sp) (hr : RoomG (k + 1) X.A) (hg : Gl X x) (hm : X.mg x = some (.ref C)) (hb : Binds X.K fd ps ds) (hd : Vals dvs ds) (hx : Passes CX X E)
    (ha : PA X (e :: es) t) (hdb : (x == ("__debug__" : Str)) = false) (he : starEach (e :: es) X.env = (false, eval e X.env) :: starEach es X.env) (hpl : (backTo pos (starEach es X.env)).any (·.1) = false) :
    PE X (.Call (.Name x p) (e :: es) [] pos) (tMake C sp dvs E t) := ⟨fun pins s σ H Q I h => wpAny_Call_Name_kw (ld_glob I hg hm
      (PySem.W.callWith_K (h₀ := X.base) I.ok.mod.kin M.kp (thn (ha.run pos pins s σ H _ I h) fun us s1 ⟨vs, H1, I1, r, q⟩ => ⟨I1.kIn, run_makeG M F hr hb hd hx I1 r q⟩) he hpl) hdb)⟩
end
section
variable {X : Cx} {CX : CXT} {k : Nat} {a dx p g C : Addr} {fs : List (Str × V)} {fd : FuncData} {ps : List Str} {sp : Sp} {dvs : List V} {ds : List Value} {E : XK} {f : Str} {pos : Pos} {e : Expr} {ta : TE}
theorem getpropG {pins : List (Addr × Obj)} {σ : L2.St} {H : Hp} {s : Shared} {Q : VK} {b : Bool} {E' : Value → Shared → Prop} (I : L2.Inv X pins σ H s) (ea : H a = some (.ins C dx fs)) (c : Cls X.K C) (hp : PropOf X.K C f p g)
    (F : FnG X.prog X.w X.K X.mg X.base CX k g fd ps sp) (hr : RoomG (k + 1) X.A) (hb : Binds X.K fd ps ds) (hd : Vals dvs ds) (hx : Passes CX X.nox E) (h : sp (.ref a :: dvs) H Q E) :
    wpAny (model X.prog X.w) X.A (getAttr (.ref a) f b) (EP X pins σ Q) E' s := by
  obtain ⟨mA, O, _, _, _, _⟩ := ins_get I.hok ea
  obtain ⟨od, J, _⟩ := O.look
  obtain ⟨rest, hrec⟩ := hp.rec_
  have I1 := I.tok (s.toks + 1)
  have hl : ([Value.ref a] ++ ds).length = ps.length := by
    rw [← F.len _ _ _ _ h]
    show ds.length + 1 = dvs.length + 1
    rw [hd.length]
  have hc : (PySem.W.clsIn X.K C).isSome = true := by
    obtain ⟨cd, hc, _⟩ := PySem.W.any_some c.hd
    rw [hc]
    rfl
  have go := F.run X.A.in1 X.stack { s with toks := s.toks + 1 } H ⟨[.ref a], []⟩ (.ref a :: ds) (.ref a :: dvs) Q E hr.in1 I1.env0.in1 (hb _ [.ref a] I1.kIn hl) (.cons rfl hd) h
  refine PySem.W.get_bind I.kIn J (PySem.W.plainGet_of (c.get f)).1 (PySem.W.findObj_data hc hp.at_ hp.get hp.tak) (PySem.W.plainGet_of (c.get f)).2 (wpAny_call (PySem.W.prop_get (s := { s with toks := s.toks + 1 }) I.kIn hrec ?_))
  refine codeAny_mono go fun r s' hq => ?_
  cases r with
  | error er => exact False.elim (hx pins σ H { s with toks := s.toks + 1 } er s' (I1.wish _) hq)
  | ok fl =>
    cases fl with
    | ret u =>
      obtain ⟨v, H', I3, rv, q3⟩ := I1.after hq
      show wpAny _ _ (handedOut u) _ _ _
      rw [PySem.W.handedOut_of (handed_of rv)]
      exact wpAny_pure ⟨v, H', I3, rv, q3⟩
    | next => exact False.elim hq
    | brk => exact False.elim hq
    | cont => exact False.elim hq
theorem pe_propG (he : PE X e ta) (c : Cls X.K C) (hp : PropOf X.K C f p g) (F : FnG X.prog X.w X.K X.mg X.base CX k g fd ps sp) (hr : RoomG (k + 1) X.A) (hb : Binds X.K fd ps ds) (hd : Vals dvs ds) (hx : Passes CX X.nox E)
    (hab : attributeBase e f X.env (eval e X.env) = eval e X.env) : PE X (.Attribute e f pos) (tProp C sp dvs E ta) :=
  ⟨fun pins s σ H Q I h => attr_of hab (thn (he.run pins s σ H _ I h) fun u s1 ⟨x, H1, I1, rx, a, dx, fs, ex, ea, q⟩ => by
    subst ex
    obtain rfl : u = Value.ref a := rx
    exact getpropG I1 ea c hp F hr hb hd hx q)⟩
end
theorem fn_ofG {CX : CXT} {P : Program} {w : World} {K : PySem.W.Frag} {mg : Str → Option Value} {base : Heap} {k : Nat} {f : Addr} {name qual : Str} {params : Arguments} {body : List Stmt} {scope : Scope} {dV kV doc pm cdv ct oc : Value} {an od : Option Addr}
    {osl : Array (Option Value)} {N ps : List Str} {sp : Sp} (lk : K.lookup f = some ⟨oc, od, .func (PySem.W.fnOf name qual params body scope dV kV doc pm an cdv ct), osl⟩) (hcd : PySem.W.codeIn K cdv qual = true) (S : FnScope N ps scope)
    (len : ∀ vs H Q E, sp vs H Q E → vs.length = ps.length)
    (hbody : ∀ (A : Around) (outer : List Env) (s : Shared) (H : Hp) (vs : List V) (Q : VK) (E : XK), RoomG k (A.deeper (envOfC qual scope s.heap.objs.size f cdv)) → sp vs H Q E →
      ∃ t, PSs (cxOf CX P w K mg base N qual scope f cdv A outer s H E) body t ∧ t { nx := fun _ H' => Q .non H', rt := Q } (L2.start N vs) H) :
    FnG P w K mg base CX (k + 1) f (PySem.W.fnOf name qual params body scope dV kV doc pm an cdv ct) ps sp := by
  refine ⟨len, fun A outer s H args us vs Q E hr e0 hb r hsp => ?_⟩
  have hl := len _ _ _ _ hsp
  have KX : K.In s.heap := e0.mod.kin.keeps fun b o e => (e0.bs b o e).1
  have lim : s.heap.NoLimit := e0.mod.nolimit.keeps fun b o e => (e0.bs b o e).1
  have hkind : ∀ y ∈ ps.zip us, scope.names.lookup y.1 = some .local ∨ (scope.names.lookup y.1 = some .cell ∧ ((cellsFrom (s.heap.objs.size + 1) scope.names []).lookup y.1).isSome = true) := fun ⟨n, v⟩ hy => by
    rcases S.par n (List.of_mem_zip hy).1 with q | q
    · exact .inl q
    · exact .inr ⟨q, PySem.W.cellsFrom_some _ _ _ (.inl q)⟩
  refine codeAny_call_function hr.depth (KX _ _ lk) rfl S.co S.gen rfl (PySem.W.codeRec_of KX hcd) (hb _ _ _ _ ?_)
  refine wpAny_newFunctionEnv_cells S.kind hkind fun env he s1 x => ?_
  subst he
  refine ⟨lim.keeps x.toInCall.keep, codeAny_func ?_⟩
  obtain ⟨t, ht, hq⟩ := hbody A outer s H vs Q E (hr.deeper _) hsp
  have I : L2.Inv (cxOf CX P w K mg base N qual scope f cdv A outer s H E) [] (L2.start N vs) H s1 := inv_start S hr.hd e0 hl r x
  refine wpAny_mono (ht.run [] s1 (L2.start N vs) H _ I hq) (fun fl s' hs => ?_) fun e s' hs => hs
  have fin : ∀ {σ' : L2.St} {H' : Hp} {v : V} {u : Value}, L2.Inv (cxOf CX P w K mg base N qual scope f cdv A outer s H E) [] σ' H' s' → L2.RelV v u → Q v H' → CE outer P w H s Q u s' :=
    fun {σ' H' v u} J rv q => ⟨v, H', J.os, J.bare, J.base, J.hok, rv, q⟩
  cases fl with
  | ret u =>
    obtain ⟨v, σ', H', J, rv, q⟩ := hs
    exact fin J rv q
  | next =>
    obtain ⟨σ', H', J, q⟩ := hs
    exact fin (v := V.non) (u := Value.none) J rfl q
  | brk =>
    obtain ⟨_, _, _, q⟩ := hs
    exact False.elim q
  | cont =>
    obtain ⟨_, _, _, q⟩ := hs
    exact False.elim q
theorem okG {P : Program} {w : World} {K : PySem.W.Frag} {mg : Str → Option Value} {base : Heap} {x qual : Str} {params : Arguments} {body : List Stmt} {scope : Scope} {dvs : List V} {kws : List (Str × V)} {f : Addr} {fd : FuncData}
    {CX : CXT} {N ps : List Str} {k : Nat} {sp : Sp} (F : FunD K x qual params body scope dvs kws f fd) (S : FnScope N ps scope) (len : ∀ vs H Q E, sp vs H Q E → vs.length = ps.length)
    (hbody : ∀ (cdv : Value) (A : Around) (outer : List Env) (s : Shared) (H : Hp) (vs : List V) (Q : VK) (E : XK), RoomG k (A.deeper (envOfC qual scope s.heap.objs.size f cdv)) → sp vs H Q E →
      ∃ t, PSs (cxOf CX P w K mg base N qual scope f cdv A outer s H E) body t ∧ t { nx := fun _ H' => Q .non H', rt := Q } (L2.start N vs) H) : FnG P w K mg base CX (k + 1) f fd ps sp := by
  obtain ⟨oc, od, dV, kV, doc, pm, an, cdv, ct, osl, rfl, lk, hcd, _, _⟩ := F.ex
  exact fn_ofG lk hcd S len fun A outer s H vs Q E hr hsp => hbody cdv A outer s H vs Q E hr hsp
/-- the law's call: the promise is given as FnG; FnOk's head wants it at callerA alone -/
theorem lawG {P : Program} {w : World} {K : PySem.W.Frag} {mg mb : Str → Option Value} {CX : CXT} {k : Nat} {fa a : Addr} {fd : FuncData} {x : Str} {sp : Sp} {s₁ : Shared} {vs : List Value} {ns : List Int}
    (KX : K.In s₁.heap) (hns : s₁.heap.Ns mainGlobals mg) (hb : s₁.heap.Ns builtinsNs mb) (hbb : ∀ x : Str, x ≠ "__name__" → mb x = bootBuiltins x) (hlim : s₁.heap.NoLimit) (hg : s₁.gens = #[])
    (ha : s₁.heap.get? a = some { cls := .type "list", data := .seq vs.toArray }) (hi : IntsAre vs ns) (hl : ns.length ≤ sizeLine) (hr : RoomG k callerA)
    (F : ∀ base : Heap, K.In base → base.Ns mainGlobals mg → FnG P w K mg base CX k fa fd [x] sp) (hbind : ∀ (s : Shared) (u : Value), BindsTo s fd ⟨[u], []⟩ [(x, u)])
    (hsp : ∀ H : Hp, Only H → SqL K H a (ns.map V.int) → sp [.ref a] H (fun v _ => v = .bl true) fun _ _ _ => False)
    (hCX : ∀ H e s', CX [] H s₁ (fun _ _ _ => False) e s' → False) :
    codeAny (model P w) callerA (.call (.ref fa) ⟨[.ref a], []⟩) (fun r s' => r = .ok (.ret (.bool true)) ∧ OldK s₁.heap s'.heap ∧ s'.os = s₁.os ∧ AllBare s'.gens) s₁ := by
  have rv := vals_ints hi
  have lenV := hi.length
  have core : ∀ U : Hp, Only U → SqL K U a (ns.map V.int) → HOk P w U s₁.heap → (∀ b, U b ≠ none → b = a) → (U a ≠ none → K.lookup a = none) → codeAny (model P w) callerA (.call (.ref fa) ⟨[.ref a], []⟩)
      (fun r s' => r = .ok (.ret (.bool true)) ∧ OldK s₁.heap s'.heap ∧ s'.os = s₁.os ∧ AllBare s'.gens) s₁ := by
    intro U hO hS hok hA hK
    have only : ∀ {b : Addr}, (b = a → False) → U b = none := fun {b} nb => by
      cases q : U b with
      | none => rfl
      | some u => exact (nb (hA b (by rw [q]; simp))).elim
    have nsK : ∀ {b : Addr} {m : Str → Option Value}, s₁.heap.Ns b m → (hidT s₁.heap U).Ns b m := fun {b m} ⟨o, es, ep, e, d, r⟩ => ⟨o, es, ep, hidT_get e (only fun z => by
      subst z
      rw [ha] at e; cases e
      have d2 : Data.seq vs.toArray _ = Data.dict es ep := d
      cases d2), d, r⟩
    have hKb : K.In (hidT s₁.heap U) := fun b o e => hidT_get (KX b o e) (by
      cases q : U b with
      | none => rfl
      | some u =>
        have z : b = a := hA b (by rw [q]; simp)
        subst z
        rw [hK (by rw [q]; simp)] at e; cases e)
    have hM : Mod K mg (hidT s₁.heap U) := ⟨hKb, nsK hns, ⟨mb, nsK hb, hbb⟩, let ⟨mc, m1, m2⟩ := hlim; ⟨mc, nsK m1, m2⟩⟩
    have e0 : Env0 P w K mg (hidT s₁.heap U) callerA [] s₁ U := ⟨rfl, hM, fun b o e => of_hidT e, Nat.le_of_eq (hidT_size _ _), trivial, fun b z => absurd (show b ∈ ([] : List Addr) from z) (by simp), hok, .of_eq hg⟩
    have go := (F _ hKb (nsK hns)).run callerA [] s₁ U ⟨[.ref a], []⟩ [.ref a] [.ref a] _ _ hr e0 (hbind s₁ (.ref a)) (.cons rfl .nil) (hsp U hO hS)
    refine codeAny_mono go fun r s' h => ?_
    cases r with
    | error e => exact (hCX U e s' h).elim
    | ok fl =>
      cases fl with
      | next => exact False.elim h
      | brk => exact False.elim h
      | cont => exact False.elim h
      | ret u =>
        obtain ⟨v, U', os, bare, un, hok2, r2, q⟩ := h
        have q2 : v = .bl true := q
        subst q2
        obtain rfl : u = Value.bool true := r2
        refine ⟨rfl, OldK.of_keep fun b o e => ?_, os, bare⟩
        cases q : U b with
        | none => exact un.keep b o e q (fun z => absurd (show b ∈ ([] : List Addr) from z) (by simp)) (by simp)
        | some u =>
          rcases hO b with z | ⟨ob, xs, z⟩
          · rw [q] at z; cases z
          · obtain ⟨e1, _⟩ := hok b _ z
            obtain ⟨e2, _⟩ := hok2 b _ (un.frzs b ob _ z)
            rw [e] at e1; cases e1
            exact e2
  cases hk : K.lookup a with
  | some o =>
    have e := KX a o hk
    rw [ha] at e
    cases e
    refine core (fun _ => none) (fun _ => .inl rfl) (.inr ⟨_, vs.toArray, _, hk, rfl, rfl, rfl, by rw [List.size_toArray, lenV]; exact hl, by simpa using rv⟩) (fun b u z => ?_) (fun b z => absurd rfl z) fun z => absurd rfl z
    have z2 : (none : Option HO) = some u := z
    cases z2
  | none =>
    let fz : HO := .frz { cls := .type "list", data := .seq vs.toArray } (.lst (ns.map V.int))
    refine core (fun b => if b = a then some fz else none) (fun b => ?_) (.inl (.inr ⟨_, if_pos rfl⟩)) (fun b u z => ?_) (fun b z => ?_) fun _ => hk
    · by_cases hb : b = a
      · exact .inr ⟨_, _, if_pos hb⟩
      · exact .inl (if_neg hb)
    · by_cases hb : b = a
      · have z2 := (if_pos hb).symm.trans z
        cases z2
        subst hb
        exact ⟨ha, by rw [List.length_map]; exact hl, vs, _, rv, ha⟩
      · have z2 := (if_neg hb).symm.trans z
        cases z2
    · by_cases hb : b = a
      · exact hb
      · exact absurd (if_neg hb) z
theorem walkG {l : PySem.W.OpenLaw} {n k : Nat} {q : Program} {loose : List Str} {XP : (Str → Option Value) → Heap → Prop} {YP : World → Heap → Prop} {d : DefRec} {CX : CXT} {x : Str}
    (hn : l.most = some n) (hn2 : n ≤ sizeLine) (hdf : d.params.defaults = []) (hr : RoomG k callerA)
    (F : ∀ (w : World) (mg : Str → Option Value) (fa : Addr) (h : Heap), YP w h → h.Ns mainGlobals mg → mg d.name = some (.ref fa) → ∃ (K : PySem.W.Frag) (fd : FuncData) (sp : Sp), K.In h ∧ (∀ (s : Shared) (u : Value), BindsTo s fd ⟨[u], []⟩ [(x, u)]) ∧
      (∀ (H : Hp) (a : Addr) (ns : List Int), ns.length ≤ n → Only H → SqL K H a (ns.map V.int) → sp [.ref a] H (fun v _ => v = .bl true) fun _ _ _ => False) ∧ ∀ base : Heap, K.In base → base.Ns mainGlobals mg → FnG l.prog w K mg base CX k fa fd [x] sp)
    (hCX : ∀ (H : Hp) (s : Shared) (e : Value) (s' : Shared), CX [] H s (fun _ _ _ => False) e s' → False) : PySem.W.WalkO q loose XP YP l.row.toRowW d [] (fun f vs => PySem.call f vs) :=
  Att.attach_call hn hdf fun w s₀ s₁ mg mb fa o pm cd doc a vs ns G Y ho hd hcd hmg hobj hints hlen hg =>
    let ⟨K, fd, sp, KX, hb, hsp, hF⟩ := F w mg fa _ Y G.T.g hmg
    lawG KX G.T.g G.T.b G.T.builtins G.T.nolimit hg hobj hints (Nat.le_trans hlen hn2) hr hF hb (fun H hO hS => hsp H a ns hlen hO hS) fun H e s' => hCX H s₁ e s'
end RR

set_option maxHeartbeats 4000000
namespace RR
open PySem PySem.Spec PyProof.Rows L2
section
variable {g : GE} {F F' : Addr → Prop} {ι ι' ι1 ι2 : List Addr} {H H' H1 H2 : Hp} {objs objs' objs1 objs2 : Objs} {A A' : Addr → Prop}
theorem call_ok {fi : FI} {ws : List W} {vs : List V} {Q : VK} {E : XK} (r : Rel g F ι H objs) (k : RWs g ι (Al F ι objs) H ws vs) (p : Post g F ι objs H (callW fi ws objs) Q) : spOf g fi.n fi.fm vs H Q E := by
  unfold callW at p
  split at p
  · rename_i hl
    refine ⟨by rw [← k.length]; exact hl, ?_⟩
    split at p
    · split at p
      · rename_i ds o1 hp
        obtain ⟨r1, x1, k1⟩ := pulls_ok hp r k
        exact call_pure r1 k1 (p.at x1)
      · exact p.elim
    · cases k with
      | cons kk ks =>
        split at p
        · rename_i ds o1 hp
          obtain ⟨r1, x1, k1⟩ := pulls_ok hp r ks
          split at p
          · rename_i m hm
            split at p
            · rename_i hf
              exact call_mut r1 kk hm hf k1 (p.at x1)
            · exact p.elim
          · exact p.elim
        · exact p.elim
    · exact p.elim
  · exact p.elim
/-! ### a def's body -/
def startD (n : Nat) (ws : List W) : Sl := ws.map some ++ List.replicate (n - ws.length) none
def finC (k : Nat) (fr : Bool) (r : R Fl) : R W := match r with
  | .ok (.nx _) o => if (o.take k).all (fun e => flatO e.ob) = true then .ok (.v .non) (o.take k) else .stuck
  | .ok (.rt w) o => match fr with
    | true => match k, w with
      | 0, .o j => match o[j]? with
        | some ⟨true, .lst ds⟩ => .ok (.o 0) [⟨true, .lst ds⟩]
        | _ => .stuck
      | _, _ => .stuck
    | false => match pull o w with
      | some (d, o) => if (o.take k).all (fun e => flatO e.ob) = true then .ok (.v d) (o.take k) else .stuck
      | none => .stuck
  | .ok (.bk _) _ => .stuck
  | .ok (.ct _) _ => .stuck
  | .exc _ _ => .stuck
  | .stuck => .stuck
def runFn (n : Nat) (fr : Bool) (ms : MS) (ws : List W) (o : Objs) : R W := finC o.length fr (ms (startD n ws) o)
theorem Rel.trunc (r : Rel g F ι' H' objs') (ex : Ext ι objs H ι' objs' H') (hk : ι.length = k) (hf : (objs'.take k).all (fun e => flatO e.ob) = true) : Rel g F ι H' (objs'.take k) ∧ Ext ι objs H ι (objs'.take k) H' ∧ ∀ a, Al F ι (objs'.take k) a → Al F ι' objs' a := by
  obtain ⟨t, rfl⟩ := ex.pre
  have hl : k ≤ objs'.length := by
    have := r.len
    simp at this
    omega
  have sub : ∀ a, Live ι (objs'.take k) a → Live (ι ++ t) objs' a := by
    rintro a ⟨i, u, e1, e2⟩
    have hi := (List.getElem?_eq_some_iff.mp e1).1
    refine ⟨i, u, by rw [List.getElem?_append_left hi]; exact e1, ?_⟩
    rw [List.getElem?_take] at e2
    split at e2
    · exact e2
    · cases e2
  have sub2 : ∀ a, Al F ι (objs'.take k) a → Al F (ι ++ t) objs' a := fun a z => z.elim .inl fun z => .inr (sub a z)
  refine ⟨⟨(List.nodup_append.mp r.nd).1, by rw [List.length_take]; omega, fun i a ob e1 e2 => ?_, fun a z => ⟨(r.out a z).1, fun q => (r.out a z).2 (List.mem_append_left _ q)⟩⟩, ⟨List.prefix_rfl, ex.keep, fun a z n => ex.new a (sub a z) n⟩, sub2⟩
  have hi := (List.getElem?_eq_some_iff.mp e1).1
  have e3 : objs'[i]? = some ob := by
    rw [List.getElem?_take] at e2
    split at e2
    · exact e2
    · cases e2
  have h1 := (r.at_ i a ob (by rw [List.getElem?_append_left hi]; exact e1) e3).anti sub2
  have hfl : flatO ob.ob = true := by
    have := List.all_eq_true.mp hf ob (List.mem_of_getElem? e2)
    exact this
  cases hm : ob.ob with
  | lst ys => rw [hm] at h1; exact h1
  | lol is => rw [hm] at hfl; cases hfl
  | dic ks ds => rw [hm] at h1; exact h1
  | ins c ns ds => rw [hm] at h1; exact h1
theorem fin_ok {fr : Bool} {r : R Fl} {Q : VK} (rel : Rel g F ι H objs) (p : Post g F ι objs H (finC objs.length fr r) Q) : PostS g F ι objs H r { nx := fun _ H' => Q .non H', rt := Q } := by
  cases r with
  | exc _ _ => exact p
  | stuck => exact p
  | ok fl o =>
    cases fl with
    | bk _ => exact p.elim
    | ct _ => exact p.elim
    | nx σ =>
      intro ι' H' σ' r' ex' sr'
      simp only [finC] at p
      split at p
      · rename_i hf
        obtain ⟨r2, x2, s2⟩ := r'.trunc ex' rel.len hf
        exact p .non ι H' r2 x2 (by simp only [RW, RV])
      · exact p.elim
    | rt w =>
      intro v ι' H' r' ex' k'
      cases fr with
      | false =>
        simp only [finC] at p
        split at p
        · rename_i d o2 hp
          obtain ⟨r1, x1, k1⟩ := pull_ok hp r' k'
          split at p
          · rename_i hf
            obtain ⟨r2, x2, s2⟩ := r1.trunc (ex'.trans x1) rel.len hf
            exact p v ι H' r2 x2 (RW.anti (w := .v d) k1 s2)
          · exact p.elim
        · exact p.elim
      | true =>
        cases w with
        | v d =>
          cases objs <;> exact p.elim
        | o j =>
          cases objs with
          | cons _ _ => exact p.elim
          | nil =>
            have e0 : ι = [] := List.eq_nil_of_length_eq_zero rel.len
            subst e0
            simp only [finC, List.length_nil] at p
            split at p
            · rename_i ds hj
              obtain ⟨a, ha, rfl⟩ := k'
              obtain ⟨vs, q1, q2⟩ := r'.at_ j a _ ha hj
              have lv : Live ι' o a := ⟨j, _, ha, hj⟩
              have sub : ∀ b, Al F [a] [⟨true, .lst ds⟩] b → Al F ι' o b := by
                rintro b (z | ⟨i, u, e1, e2⟩)
                · exact .inl z
                · match i, e1 with
                  | 0, e1 => simp at e1; subst e1; exact .inr lv
              refine p _ [a] H' ⟨by simp, rfl, fun i b ob e1 e2 => ?_, fun b z => ⟨(r'.out b z).1, fun q => ?_⟩⟩ ⟨List.nil_prefix, ex'.keep, fun b z n => ?_⟩ ⟨a, rfl, rfl⟩
              · match i, e1, e2 with
                | 0, e1, e2 =>
                  simp at e1 e2
                  subst e1 e2
                  exact ⟨vs, q1, q2.anti sub⟩
              · rw [List.mem_singleton.mp q] at z
                exact (r'.out a z).2 (List.mem_of_getElem? ha)
              · obtain ⟨i, u, e1, e2⟩ := z
                match i, e1 with
                | 0, e1 => simp at e1; subst e1; exact ex'.new _ lv n
            · exact p.elim
theorem start_ok {n : Nat} {ws : List W} {vs : List V} (k : RWs g ι A H ws vs) (N : List Str) (hn : N.length = n) : SRel g ι A H (startD n ws) (L2.start N vs) := by
  unfold startD L2.start
  refine ⟨by simp [k.length, hn], fun i w h => ?_⟩
  have hl : ws.length = vs.length := k.length
  by_cases hi : i < ws.length
  · rw [List.getElem?_append_left (by simpa using hi)] at h
    rw [List.getElem?_append_left (by simp; omega)]
    rw [List.getElem?_map] at h ⊢
    cases hw : ws[i]? with
    | none => rw [hw] at h; cases h
    | some u =>
      rw [hw] at h
      cases h
      have gen : ∀ {ws : List W} {vs : List V} {i : Nat}, RWs g ι A H ws vs → ws[i]? = some w → ∃ v, vs[i]? = some v ∧ RW g ι A H w v := by
        intro ws vs i pr
        induction pr generalizing i with
        | nil => intro h; simp at h
        | cons r _ ih =>
          intro h
          cases i with
          | zero => simp at h; subst h; exact ⟨_, rfl, r⟩
          | succ i => exact ih (by simpa using h)
      obtain ⟨v, e1, e2⟩ := gen k hw
      exact ⟨v, by rw [e1]; rfl, e2⟩
  · rw [List.getElem?_append_right (by simpa using hi)] at h
    rw [List.getElem?_replicate] at h
    split at h
    · cases h
    · cases h
end
/-! ### the call, the def -/
/-- the values in the parameters' order -/
def permL {α : Type} (π : List Nat) (ws : List α) : List α := π.filterMap fun (i : Nat) => ws[i]?
def KwB (fd : FuncData) (ps : List Str) (p : List Str × List Nat) : Prop := ∀ (s : Shared) (us : List Value), us.length = p.1.length → BindsTo s fd ⟨[], p.1.zip us⟩ (ps.zip (permL p.2 us))
/-- what is known of a def of the module: at x, called with n arguments -/
structure FnS (P : Program) (w : World) (K : PySem.W.Frag) (mg : Str → Option Value) (base : Heap) (k : Nat) (x : Str) (fi : FI) : Prop where
  ex : ∃ f fd ps, FnG P w K mg base CX0 k f fd ps (spOf ⟨K, mg⟩ fi.n fi.fm) ∧ mg x = some (.ref f) ∧ PySem.W.keepIn K (.ref f) = true ∧ Binds K fd ps [] ∧ ∀ p ∈ fi.kws, KwB fd ps p
theorem FnS.mono {P : Program} {w : World} {K : PySem.W.Frag} {mg : Str → Option Value} {base : Heap} {j k : Nat} {x : Str} {fi : FI} (h : FnS P w K mg base j x fi) (hj : j ≤ k) : FnS P w K mg base k x fi :=
  let ⟨f, fd, ps, a, b⟩ := h.ex; ⟨f, fd, ps, a.mono hj, b⟩
theorem permL_rel {α β : Type} {P : α → β → Prop} {xs : List α} {ys : List β} (h : Paired P xs ys) : ∀ π : List Nat, Paired P (permL π xs) (permL π ys)
  | [] => .nil
  | i :: π => by
    have ih := permL_rel h π
    unfold permL at ih ⊢
    rw [List.filterMap_cons, List.filterMap_cons]
    have gen : ∀ {xs : List α} {ys : List β} {i : Nat}, Paired P xs ys → (xs[i]? = none ∧ ys[i]? = none) ∨ ∃ a b, xs[i]? = some a ∧ ys[i]? = some b ∧ P a b := by
      intro xs ys i pr
      induction pr generalizing i with
      | nil => exact .inl ⟨by simp, by simp⟩
      | cons r _ ih =>
        cases i with
        | zero => exact .inr ⟨_, _, rfl, rfl, r⟩
        | succ i => simpa using ih (i := i)
    rcases gen (i := i) h with ⟨e1, e2⟩ | ⟨a, b, e1, e2, r⟩
    · rw [e1, e2]; exact ih
    · rw [e1, e2]; exact .cons r ih
section
variable {X : Cx} {a b c e tg iter elt : Expr} {st : Stmt} {sts sts' : List Stmt} {es : List Expr} {pos p : Pos} {ma mb mc me : ME} {ml : ML} {ms ms' : MS} {nc : MB} {gm : MG} {mi : MI}
theorem se_call {k : Nat} {x : Str} {fi : FI} (h : FnS X.prog X.w X.K X.mg X.base k x fi) (hr : RoomG k X.A) (hg : Gl X x) (ha : SA X (e :: es) ml) (hdb : (x == ("__debug__" : Str)) = false) (hst : (e :: es).all (fun e => !isStar e) = true) :
    SE X (.Call (.Name x p) (e :: es) [] pos) (mCall (callW fi) ml) := by
  obtain ⟨f, fd, ps, F, hm, hk, hb, _⟩ := h.ex
  have h1 : isStar e = false := by simp only [List.all_cons, Bool.and_eq_true, Bool.not_eq_true'] at hst; exact hst.1
  have h2 : es.all (fun e => !isStar e) = true := by simp only [List.all_cons, Bool.and_eq_true] at hst; exact hst.2
  refine (pe_callG (E := E0) F hr hg hm hk hb .nil pass0 ha hdb (star_cons h1 _) (star_none h2)).weak fun σ H Q ⟨F, ι, objs, σd, rel, sr, p⟩ => ?_
  obtain ⟨ws, o1, e1, p⟩ := p.bind
  refine ⟨F, ι, objs, σd, rel, sr, ?_⟩
  rw [e1]
  intro vs ι1 H1 rel1 ex1 r1
  rw [List.append_nil]
  exact call_ok rel1 r1 (p.at ex1)
/-- f(k = v, ..): by names alone -/
abbrev SK (X : Cx) (kws : List Keyword) (m : ML) : Prop := PK X kws (tea (gX X) m)
theorem sk_nil : SK X [] mNil := ⟨fun pos pins s σ H Q I ⟨F, ι, objs, σd, rel, sr, p⟩ => pk_nil.run pos pins s σ H Q I (p [] ι H rel .refl .nil)⟩
theorem sk_cons {nm : Option Str} {kpos : Pos} {kws : List Keyword} (ha : SE X e ma) (hr : SK X kws ml) : SK X (⟨nm, e, kpos⟩ :: kws) (mCons ma ml) := ⟨fun pos pins s σ H Q I ⟨F, ι, objs, σd, rel, sr, p⟩ => (pk_cons ha hr).run pos pins s σ H Q I (by
  obtain ⟨x, o1, e1, p⟩ := p.bind
  refine ⟨F, ι, objs, σd, rel, sr, ?_⟩
  rw [e1]
  intro v ι1 H1 rel1 ex1 r1
  obtain ⟨xs, o2, e2, p⟩ := (p.at ex1).bind
  refine ⟨F, ι1, o1, σd, rel1, sr.ext ex1, ?_⟩
  rw [e2]
  intro v2 ι2 H2 rel2 ex2 r2
  exact (p.at ex2) (v :: v2) ι2 H2 rel2 .refl (.cons (r1.ext ex2) r2))⟩
theorem run_kw {CX : CXT} {k : Nat} {f : Addr} {fd : FuncData} {ps ks : List Str} {sp : Sp} {E : XK} {pins : List (Addr × Obj)} {σ : L2.St} {H : Hp} {s : Shared} {Q : VK} {us us' : List Value} {vs' : List V} (F : FnG X.prog X.w X.K X.mg X.base CX k f fd ps sp) (hr : RoomG k X.A) (hb : BindsTo s fd ⟨[], ks.zip us⟩ (ps.zip us')) (hx : Passes CX X E)
    (I : L2.Inv X pins σ H s) (r : Vals vs' us') (h : sp vs' H Q E) : wpAny (model X.prog X.w) X.A (call (.ref f) [] (ks.zip us)) (EP X pins σ Q) X.xe s := by
  refine wpAny_call (codeAny_mono (F.run X.A X.stack s H ⟨[], ks.zip us⟩ us' vs' Q E hr I.env0 hb r h) fun r s' hq => ?_)
  cases r with
  | error e => exact hx pins σ H s e s' I hq
  | ok fl =>
    cases fl with
    | ret u => exact I.after hq
    | next => exact False.elim hq
    | brk => exact False.elim hq
    | cont => exact False.elim hq
def kwNames (kws : List Keyword) : Option (List Str) := match kws with
  | [] => some []
  | ⟨some n, _, _⟩ :: r => (kwNames r).map fun l => n :: l
  | ⟨none, _, _⟩ :: _ => none
theorem kw_facts {env : Env} : ∀ {kws : List Keyword} {ks : List Str}, kwNames kws = some ks → (backToKw pos (keywordEach kws env)).all (·.1.isSome) = true ∧ (backToKw pos (keywordEach kws env)).filterMap (·.1) = ks ∧ (backToKw pos (keywordEach kws env)).any (·.1.isNone) = false ∧ kws.length = ks.length
  | [], ks, h => by cases h; exact ⟨rfl, rfl, rfl, rfl⟩
  | ⟨none, _, _⟩ :: _, ks, h => by cases h
  | ⟨some n, v, kp⟩ :: r, ks, h => by
    simp only [kwNames] at h
    obtain ⟨l, h1, rfl⟩ := Option.map_eq_some_iff.mp h
    obtain ⟨a1, a2, a3, a4⟩ := kw_facts (env := env) h1
    simp only [keywordEach, backToKw, List.map_cons] at a1 a2 a3 ⊢
    refine ⟨?_, ?_, ?_, by simp [a4]⟩
    · rw [List.all_cons, a1]; rfl
    · rw [List.filterMap_cons]; simp only; rw [a2]
    · rw [List.any_cons, a3]; rfl
def mCallK (fi : FI) (π : List Nat) (n : Nat) (l : ML) : ME := fun σ o => (l σ o).bind fun ws o => if ws.length = n then callW fi (permL π ws) o else .stuck
theorem se_callK {k : Nat} {x : Str} {fi : FI} {kws : List Keyword} {ks : List Str} {π : List Nat} (h : FnS X.prog X.w X.K X.mg X.base k x fi) (hr : RoomG k X.A) (hg : Gl X x) (hk1 : kwNames kws = some ks) (hk2 : (ks, π) ∈ fi.kws) (ha : SK X kws ml) (hdb : (x == ("__debug__" : Str)) = false) :
    SE X (.Call (.Name x p) [] kws pos) (mCallK fi π ks.length ml) := by
  obtain ⟨f, fd, ps, Fn, hm, hk, hb, hkw⟩ := h.ex
  obtain ⟨a1, a2, a3, a4⟩ := kw_facts (pos := pos) (env := X.env) hk1
  refine ⟨fun pins s σ H Q I ⟨F, ι, objs, σd, rel, sr, pp⟩ => ?_⟩
  refine wpAny_Call_Name_kw (ld_glob I hg hm ?_ hdb)
  refine PySem.W.callWith_KW0 (h₀ := X.base) I.ok.mod.kin hk a1 ?_ (by rw [a3]; rfl)
  obtain ⟨ws, o1, e1, pp⟩ := pp.bind
  have hq : tea (gX X) ml σ H (fun zs H2 => zs.length = ks.length ∧ spOf ⟨X.K, X.mg⟩ fi.n fi.fm (permL π zs) H2 Q E0) := by
    refine ⟨F, ι, objs, σd, rel, sr, ?_⟩
    rw [e1]
    intro vs ι1 H1 rel1 ex1 r1
    have pp := pp.at ex1
    split at pp
    · rename_i hl
      exact ⟨by rw [← RWs.length r1]; exact hl, call_ok rel1 (permL_rel r1 π) pp⟩
    · exact pp.elim
  refine thn (ha.run pos pins s σ H _ I hq) fun us s2 ⟨zs, H2, I2, rz, hl, q2⟩ => ⟨I2.kIn, ?_⟩
  rw [a2]
  exact run_kw Fn hr (hkw _ hk2 s2 us (by rw [← rz.length]; exact hl)) pass0 I2 (permL_rel rz π) q2
end
/-- THE DEF: its body's run is what a call gives -/
theorem fn_ok {P : Program} {w : World} {K : PySem.W.Frag} {mg : Str → Option Value} {base : Heap} {x qual : Str} {params : Arguments} {body : List Stmt} {scope : Scope} {dvs : List V} {kws : List (Str × V)} {f : Addr} {fd : FuncData} {N ps : List Str} {k : Nat} {fr : Bool} {ms : MS} (Fu : FunD K x qual params body scope dvs kws f fd) (S : FnScope N ps scope)
    (hb : ∀ (X : Cx), X.prog = P → X.w = w → X.K = K → X.mg = mg → X.base = base → X.N = N → X.env.scope = scope → X.calm = true → X.fn = (fun _ => true) → X.xe = (fun _ _ => False) → RoomG k X.A → SSs X body ms) :
    FnG P w K mg base CX0 (k + 1) f fd ps (spOf ⟨K, mg⟩ ps.length (runFn N.length fr ms)) := by
  refine okG Fu S (fun vs H Q E h => h.1) fun cdv A outer s H vs Q E hr h => ?_
  obtain ⟨hl, F, ι, objs, ws, rel, kw, p⟩ := h
  exact ⟨_, PSs.nox (hb _ rfl rfl rfl rfl rfl rfl rfl rfl rfl rfl hr), F, ι, objs, startD N.length ws, rel, start_ok kw N rfl, fin_ok rel p⟩
end RR

set_option maxHeartbeats 4000000
namespace RR
open PySem PySem.Spec PyProof.Rows L2
/-! ### tuples of targets of any form -/
def mGs : List MG → List W → Sl → Objs → R Sl
  | [], [], σ, o => .ok σ o
  | m :: ms, w :: ws, σ, o => (m w σ o).bind fun σ o => mGs ms ws σ o
  | _, _, _, _ => .stuck
abbrev SGs (X : Cx) (ts : List Expr) (m : List MG) : Prop := PGs X ts (fun vs σ H Q => ∃ F ι objs σd ws, Rel (gX X) F ι H objs ∧ SRel (gX X) ι (Al F ι objs) H σd σ ∧ RWs (gX X) ι (Al F ι objs) H ws vs ∧ PostT (gX X) F ι objs H (mGs m ws σd objs) Q)
theorem PostT.at {g : GE} {F : Addr → Prop} {ι ι1 : List Addr} {objs objs1 : Objs} {H H1 : Hp} {r : R Sl} {Q : L2.St → Hp → Prop} (p : PostT g F ι objs H r Q) (e : Ext ι objs H ι1 objs1 H1) : PostT g F ι1 objs1 H1 r Q := by
  cases r with
  | ok w o => exact fun ι' H' σ' rl ex sr => p ι' H' σ' rl (e.trans ex) sr
  | exc _ _ => exact p
  | stuck => exact p
theorem PostT.bind {α : Type} {g : GE} {F : Addr → Prop} {ι : List Addr} {objs : Objs} {H : Hp} {r : R α} {f : α → Objs → R Sl} {Q : L2.St → Hp → Prop} (p : PostT g F ι objs H (r.bind f) Q) : ∃ a o, r = .ok a o ∧ PostT g F ι objs H (f a o) Q := by
  cases r with
  | ok w o => exact ⟨w, o, rfl, p⟩
  | exc _ _ => exact p.elim
  | stuck => exact p.elim
def gTupG (ms : List MG) : MG := fun w σ o => match w with
  | .v (.tup ds) => if ds.length = ms.length then mGs ms (ds.map W.v) σ o else .stuck
  | _ => .stuck
section
variable {X : Cx} {a b c e tg iter elt : Expr} {st : Stmt} {sts sts' : List Stmt} {es ts : List Expr} {pos p : Pos} {ma mb mc me : ME} {ml : ML} {ms ms' : MS} {nc : MB} {gm : MG} {gms : List MG} {mi : MI}
theorem sgs_nil : SGs X [] [] := ⟨fun pins s σ H vs us Q I r ⟨F, ι, objs, σd, ws, rel, sr, k, p⟩ => by
  cases k with
  | nil => exact pgs_nil.run pins s σ H [] us Q I r ⟨rfl, p ι H σ rel .refl sr⟩
  | cons _ _ => exact p.elim⟩
theorem sgs_cons (h1 : SG X e gm) (h2 : SGs X es gms) (hs : isStar e = false) : SGs X (e :: es) (gm :: gms) := ⟨fun pins s σ H vs us Q I r ⟨F, ι, objs, σd, ws, rel, sr, k, p⟩ => by
  cases k with
  | nil => exact p.elim
  | cons k ks =>
    refine (pgs_cons h1 h2 (by rw [asg_each hs]; rfl)).run pins s σ H _ us Q I r ⟨_, _, rfl, F, ι, objs, σd, _, rel, sr, k, ?_⟩
    obtain ⟨σ1, o1, e1, p⟩ := p.bind
    rw [e1]
    intro ι1 H1 σ' rel1 ex1 sr1
    exact ⟨F, ι1, o1, σ1, _, rel1, sr1, RWs.ext ks ex1, p.at ex1⟩⟩
theorem each_len {env : Env} : ∀ {es : List Expr}, es.all (fun e => !isStar e) = true → (assignEach es env).length = es.length ∧ List.findIdx? (fun x => x.1) (assignEach es env) = none
  | [], _ => ⟨rfl, rfl⟩
  | e :: es, h => by
    simp only [List.all_cons, Bool.and_eq_true, Bool.not_eq_true'] at h
    obtain ⟨h1, h2⟩ := each_len (env := env) h.2
    rw [asg_each h.1]
    exact ⟨by rw [List.length_cons, h1, List.length_cons], by rw [List.findIdx?_cons, h2]; rfl⟩
theorem sg_tupG {k : Nat} (hc : X.calm = true) (h : SGs X ts gms) (hs : ts.all (fun e => !isStar e) = true) (hl : gms.length = ts.length) : SG X (.Tuple ts k pos) (gTupG gms) := by
  obtain ⟨h1, h2⟩ := each_len (env := X.env) hs
  refine (pg_tup hc h h1 h2).weak fun v σ H Q ⟨F, ι, objs, σd, w, rel, sr, k, p⟩ => ?_
  unfold gTupG at p
  split at p
  · split at p
    · rename_i hd
      have k0 := k
      simp only [RW, RV] at k
      obtain ⟨a, vs, rfl, q1, q2, q3⟩ := k
      exact ⟨a, vs, rfl, SqT.of q2, by rw [← q3.length, hd, hl], F, ι, objs, σd, _, rel, sr, RVs.ws q3, p⟩
    · exact p.elim
  · exact p.elim
/-! ### x, y = a, b, one by one -/
def mUnp (l : ML) (ms : List MG) : MS := fun σ o => (l σ o).bind fun ws o => if ws.length = ms.length ∧ ws.length ≤ 1000 then (mGs ms ws σ o).bind fun σ o => .ok (.nx σ) o else .stuck
theorem ss_unp {kt k2 : Nat} {pt pt2 : Pos} (hc : X.calm = true) (h : SA X es ml) (hg : SGs X ts gms) (hst : ts.all (fun e => !isStar e) = true) (hl : gms.length = ts.length) (hs : swapsWithSole [.Tuple ts kt pt] (.Tuple es k2 pt2) pos.line X.env = pure false) (hw : swappedStores [.Tuple ts kt pt] (.Tuple es k2 pt2) X.env = pure none) :
    SS X (.Assign [.Tuple ts kt pt] (.Tuple es k2 pt2) pos) (mUnp ml gms) := by
  obtain ⟨h1, h2⟩ := each_len (env := X.env) hst
  refine (ps_asg (pe_tup h) (pg_tup hc hg h1 h2) hs hw rfl).weak fun D σ H ⟨F, ι, objs, σd, rel, sr, p⟩ => ?_
  obtain ⟨ws, o1, e1, p⟩ := p.bind
  refine ⟨F, ι, objs, σd, rel, sr, ?_⟩
  rw [e1]
  intro vs ι1 H1 rel1 ex1 r1
  have p := p.at ex1
  split at p
  case isFalse => exact p.elim
  rename_i hz
  have hlen : vs.length = ws.length := (RWs.length r1).symm
  refine ⟨by rw [hlen, sizeLine_eq]; omega, fun q hq => ?_⟩
  have xx : Ext ι1 o1 H1 ι1 o1 (upd H1 q (.tup vs)) := Ext.upd_new hq
  refine ⟨q, vs, rfl, SqT.of upd_same, by rw [hlen, hz.1, hl], F, ι1, o1, σd, ws, rel1.upd_new hq, (sr.ext ex1).ext xx, RWs.ext r1 xx, ?_⟩
  obtain ⟨σ2, o2, e2, p⟩ := p.bind
  rw [e2]
  exact fun ι2 H2 σ' rel2 ex2 sr2 => p ι2 H2 σ' rel2 (xx.trans ex2) sr2
/-! ### x, y = a, b at once -/
def mPar (is : List Nat) (l : ML) : MS := fun σ o => (l σ o).bind fun ws o => if ws.length = is.length then .ok (.nx (setAll σ is ws)) o else .stuck
theorem ss_par {i j : Nat} {x y : Str} {px py pt pt2 : Pos} {kt k2 : Nat} (hc : X.calm = true) (hN : X.N.Nodup) (hi : X.N[i]? = some x) (hj : X.N[j]? = some y) (hij : i ≠ j) (hx : X.env.scope.names.lookup x = some .local) (hy : X.env.scope.names.lookup y = some .local)
    (h : SA X [a, b] ml) (hsw : swappedStores [.Tuple [.Name x px, .Name y py] kt pt] (.Tuple [a, b] k2 pt2) X.env = pure (some [x, y])) (hs : swapsWithSole [.Tuple [.Name x px, .Name y py] kt pt] (.Tuple [a, b] k2 pt2) pos.line X.env = pure false) :
    SS X (.Assign [.Tuple [.Name x px, .Name y py] kt pt] (.Tuple [a, b] k2 pt2) pos) (mPar [i, j] ml) := by
  refine (ps_par hc hN hi hj hij hx hy h hsw hs).weak fun D σ H ⟨F, ι, objs, σd, rel, sr, p⟩ => ?_
  obtain ⟨ws, o1, e1, p⟩ := p.bind
  refine ⟨F, ι, objs, σd, rel, sr, ?_⟩
  rw [e1]
  intro vs ι1 H1 rel1 ex1 r1
  have p := p.at ex1
  split at p
  · rename_i hl
    match ws, hl with
    | [w1, w2], _ =>
      obtain ⟨v1, v2, rfl, k1, k2⟩ := paired2 r1
      exact ⟨v1, v2, rfl, p ι1 H1 _ rel1 .refl (((sr.ext ex1).set i k1).set j k2)⟩
  · exact p.elim
theorem blk_fn {env : Env} (h : env.scope.kind = .function) : env.blockKind = .function := by
  unfold Env.blockKind; rw [h]; rfl
theorem any2 {a b : Expr} (f : Expr → Bool) (hf : ∀ e, f e = isStar e) : List.any [a, b] f = (isStar a || isStar b) := by
  simp only [List.any_cons, List.any_nil, Bool.or_false, hf]
/-- what is stored at once, of two names -/
def swap2 (sc : Scope) (x y : Str) (px py : Pos) (a b : Expr) : Option Bool :=
  if isStar a || isStar b then some false
  else if sc.names.lookup x == some .local && sc.names.lookup y == some .local && py.line == px.line && x != y then
    (if foldedForSure 8 a && foldedForSure 8 b then some false else if constantsAlone 8 a && constantsAlone 8 b then none else some true)
  else some false
theorem dups2 {x y : Str} (h : (x == y) = false) : [x, y].eraseDups.length = 2 := by
  have h2 : (y == x) = false := by simpa using fun e => (by simpa using h : ¬ x = y) e.symm
  rw [List.eraseDups_cons]
  simp only [List.filter_cons, h2, Bool.not_false, if_true, List.filter_nil]
  rw [List.eraseDups_cons]
  rfl
theorem swapped2 {sc : Scope} {x y : Str} {px py pt pt2 : Pos} {kt k2 : Nat} {a b : Expr} {env : Env} {r : Bool} (hs : env.scope = sc) (hk : sc.kind = .function) (h : swap2 sc x y px py a b = some r) :
    swappedStores [.Tuple [.Name x px, .Name y py] kt pt] (.Tuple [a, b] k2 pt2) env = pure (if r then some [x, y] else none) := by
  subst hs
  have hb : env.blockKind = .function := blk_fn hk
  have hx : env.kindOf x = env.scope.names.lookup x := rfl
  have hy : env.kindOf y = env.scope.names.lookup y := rfl
  unfold swap2 at h
  unfold swappedStores
  simp only [List.length_cons, List.length_nil, hb, hx, hy, List.head?_cons, Option.map_some, Option.getD_some, Expr.pos, List.filterMap_cons, List.filterMap_nil, List.all_cons, List.all_nil, Bool.and_true]
  rw [any2 (a := a) (b := b)]
  · by_cases hst : (isStar a || isStar b) = true
    · rw [if_pos hst] at h
      cases h
      simp [hst]
    · rw [if_neg hst] at h
      simp only [Bool.not_eq_true] at hst
      by_cases hl : (env.scope.names.lookup x == some .local && env.scope.names.lookup y == some .local && py.line == px.line && x != y) = true
      · rw [if_pos hl] at h
        simp only [Bool.and_eq_true] at hl
        obtain ⟨⟨⟨h1, h2⟩, h3⟩, h4⟩ := hl
        have h4' : (x == y) = false := by simpa using h4
        simp only [hst, h1, h2, h3, beq_self_eq_true, Bool.and_self, if_true, List.length_cons, List.length_nil, dups2 h4']
        by_cases hf : (foldedForSure 8 a && foldedForSure 8 b) = true
        · rw [if_pos hf] at h
          cases h
          simp [hf]
        · rw [if_neg hf] at h
          simp only [Bool.not_eq_true] at hf
          by_cases hcn : (constantsAlone 8 a && constantsAlone 8 b) = true
          · rw [if_pos hcn] at h; cases h
          · rw [if_neg hcn] at h
            cases h
            simp only [Bool.not_eq_true] at hcn
            simp [hf, hcn]
      · rw [if_neg hl] at h
        cases h
        simp only [hst]
        by_cases h1 : (env.scope.names.lookup x == some NameKind.local) = true
        · by_cases h2 : (env.scope.names.lookup y == some NameKind.local) = true
          · by_cases h3 : (py.line == px.line) = true
            · have h4 : x = y := by
                simp only [h1, h2, h3, Bool.true_and, Bool.not_eq_true] at hl
                simpa using hl
              subst h4
              have : [x, x].eraseDups.length = 1 := by rw [List.eraseDups_cons]; simp
              simp [h1, h3, this]
            · simp [h1, h2, h3]
          · simp [h1, h2]
        · by_cases h2 : (env.scope.names.lookup y == some NameKind.local && py.line == px.line) = true
          · simp only [h1, h2]
            simp
          · simp only [h1, h2]
            simp
  · intro e; cases e <;> rfl
end
end RR

set_option maxHeartbeats 4000000
namespace RR
open PySem PySem.Spec PyProof.Rows L2
/-! ### zip of two sequences, each a list or a tuple -/
inductive Kd where
  | l | t
def Kd.nm : Kd → String
  | .l => "list_iterator"
  | .t => "tuple_iterator"
def Kd.itr (q : Kd) (h : Heap) (i a : Addr) (n : Nat) : Prop := match q with
  | .l => h.IsListIter i a n
  | .t => h.IsTupleIter i a n
def Kd.has (q : Kd) (h : Heap) (a : Addr) (xs : Array Value) : Prop := match q with
  | .l => h.IsList a xs
  | .t => h.IsTuple a xs
def Kd.sq (q : Kd) (K : PySem.W.Frag) (H : Hp) (a : Addr) (xs : List V) : Prop := match q with
  | .l => SqL K H a xs
  | .t => SqT K H a xs
section
variable {prog : Program} {w : World} {A : Around} {E : Value → Shared → Prop} {s : Shared} {q q1 q2 : Kd} {h h' : Heap} {i a b c : Addr} {n : Nat} {xs ys : Array Value}
theorem Kd.itr_ext (x : q.itr h i a n) (e : Heap.ExtBut c h h') (d : i ≠ c) : q.itr h' i a n := by
  cases q
  · exact Heap.IsListIter.extBut x e d
  · exact Heap.IsTupleIter.extBut x e d
theorem Kd.itr_at (x : q.itr h i a n) (e : ∀ o, h.get? i = some o → h'.get? i = some o) : q.itr h' i a n := by
  cases q
  · exact Heap.IsListIter.at x e
  · exact Heap.IsTupleIter.at x e
theorem Kd.has_ext (x : q.has h a xs) (e : Heap.ExtBut c h h') (d : a ≠ c) : q.has h' a xs := by
  cases q
  · exact Heap.IsList.extBut x e d
  · exact Heap.IsTuple.extBut x e d
theorem Kd.itr_obj (x : q.itr h i a n) : ∃ o vs, h.get? i = some o ∧ o.data = .fields vs := by
  cases q
  · obtain ⟨o, e, _, d⟩ := x; exact ⟨o, _, e, d⟩
  · obtain ⟨o, e, _, d⟩ := x; exact ⟨o, _, e, d⟩
theorem Kd.next {x : Value} {Q : Value → Shared → Prop} (z : q.itr s.heap i a n) (y : q.has s.heap a xs) (hx : xs[n]? = some x) (k : ∀ h', q.itr h' i a (n + 1) → Heap.SameBut i s.heap h' → Q x { s with heap := h' }) :
    wpAny (model prog w) A (Builtin.SmallTypes.nextOf (.ref i)) Q E s := by
  cases q
  · exact wpAny_nextOf_list_item z y hx k
  · exact RZ.nextOf_tuple_item z y hx k
theorem Kd.stop {Q : Value → Shared → Prop} (hh : A.handled = none) (z : q.itr s.heap i a n) (y : q.has s.heap a xs) (hx : xs[n]? = none)
    (k : ∀ h' e, Heap.ExtBut i s.heap h' → (∃ o, h'.get? e = some o ∧ o.cls = .type "StopIteration") → E (.ref e) { s with heap := h' }) : wpAny (model prog w) A (Builtin.SmallTypes.nextOf (.ref i)) Q E s := by
  cases q
  · exact wpAny_nextOf_list_end hh z y hx k
  · exact RZ.nextOf_tuple_end hh z y hx k
end
section
variable {prog : Program} {w : World} {A : Around} {E : Value → Shared → Prop} {s : Shared} {q1 q2 : Kd}
theorem zipK_item {z TI TO i1 i2 l1 l2 : Addr} {k1 k2 : Nat} {xs ys : Array Value} {x y a b : Value} {Q : Value → Shared → Prop} (D : ZipApart z TI TO i1 i2 l1 l2)
    (hz : IsZip s.heap z TI TO .none) (hTI : IsPair s.heap TI (.ref i1) (.ref i2)) (hTO : IsPair s.heap TO a b)
    (h1 : q1.itr s.heap i1 l1 k1) (h2 : q2.itr s.heap i2 l2 k2) (p1 : q1.has s.heap l1 xs) (p2 : q2.has s.heap l2 ys) (hx : xs[k1]? = some x) (hy : ys[k2]? = some y)
    (hQ : ∀ h', IsZip h' z TI TO (rawInt s.heap.objs.size) → IsPair h' TO x y → q1.itr h' i1 l1 (k1 + 1) → q2.itr h' i2 l2 (k2 + 1) → IsPair h' s.heap.objs.size x y → h'.objs.size = s.heap.objs.size + 1 →
      (∀ c o, c ≠ z → c ≠ TO → c ≠ i1 → c ≠ i2 → s.heap.get? c = some o → h'.get? c = some o) → Q (.ref s.heap.objs.size) { s with heap := h' }) :
    wpAny (model prog w) A (Builtin.«zip.__next__» ⟨[.ref z], []⟩) (fun fin s' => ∃ v, fin = .done (.ret v) ∧ Q v s') E s := by
  show wpAny _ _ (field (.ref z) 2 >>= _) _ _ _
  refine wpAny_bind (wpAny_field hz rfl (x := .bool false) rfl ?_)
  show wpAny _ _ (field (.ref z) 3 >>= _) _ _ _
  refine wpAny_bind (wpAny_field hz rfl (x := .ref TI) rfl (wpAny_bind (wpAny_seqItems hTI rfl ?_)))
  show wpAny _ _ (Builtin.SmallTypes.ownedTupleIsFree (.ref z) >>= _) _ _ _
  refine wpAny_bind ?_
  unfold Builtin.SmallTypes.ownedTupleIsFree
  refine wpAny_bind (wpAny_field hz rfl (x := .none) rfl (wpAny_pure ?_))
  simp only [if_true]
  refine wpAny_bind (wpAny_rule (wpAny_bind (wpAny_field hz rfl (x := .ref TO) rfl (wpAny_bind (wpAny_setField_rec hz (by simp) fun ha za sa => ?_)))))
  have za : IsZip ha z TI TO .ellipsis := za
  refine wpAny_bind ?_
  simp only [List.zipIdx_cons, List.zipIdx_nil, List.forIn_cons, List.forIn_nil]
  refine wpAny_bind (wpAny_bind (wpAny_onRaise ?_))
  show wpAny _ _ (Builtin.SmallTypes.nextOf (.ref i1) >>= _) _ _ _
  refine wpAny_bind (Kd.next (q := q1) (Kd.itr_ext h1 sa.extBut D.i1z) (Kd.has_ext p1 sa.extBut D.l1z) hx fun hb h1b sb => wpAny_pure ?_)
  have TOb : IsPair hb TO a b := sb.extBut _ _ D.TOi1 (sa.extBut _ _ D.TOz hTO)
  refine wpAny_bind (wpAny_seqItems TOb rfl (wpAny_bind (wpAny_updateSeq_pair TOb fun hc TOc sc => ?_)))
  have TOc : IsPair hc TO x b := TOc
  refine wpAny_bind (wpAny_letGo (wpAny_pure (wpAny_bind (wpAny_bind (wpAny_onRaise ?_)))))
  show wpAny _ _ (Builtin.SmallTypes.nextOf (.ref i2) >>= _) _ _ _
  refine wpAny_bind (Kd.next (q := q2) (Kd.itr_ext (Kd.itr_ext (Kd.itr_ext h2 sa.extBut D.i2z) sb.extBut D.i12.symm) sc.extBut D.TOi2.symm) (Kd.has_ext (Kd.has_ext (Kd.has_ext p2 sa.extBut D.l2z) sb.extBut D.l2i1) sc.extBut D.l2TO) hy fun hd h2d sd => wpAny_pure ?_)
  have TOd : IsPair hd TO x b := sd.extBut _ _ D.TOi2 TOc
  refine wpAny_bind (wpAny_seqItems TOd rfl (wpAny_bind (wpAny_updateSeq_pair TOd fun he TOe se => ?_)))
  have TOe : IsPair he TO x y := TOe
  refine wpAny_bind (wpAny_letGo (wpAny_pure (wpAny_pure (wpAny_bind (wpAny_seqItems TOe rfl (wpAny_bind (wpAny_newTuple ?_)))))))
  have hsz : he.objs.size = s.heap.objs.size := by rw [se.1, sd.1, sc.1, sb.1, sa.1]
  have ze : IsZip he z TI TO .ellipsis := se.extBut _ _ D.TOz.symm (sd.extBut _ _ D.i2z.symm (sc.extBut _ _ D.TOz.symm (sb.extBut _ _ D.i1z.symm za)))
  have ke : ∀ c o, c ≠ z → c ≠ TO → c ≠ i1 → c ≠ i2 → s.heap.get? c = some o → he.get? c = some o := fun c o c1 c2 c3 c4 e =>
    se.extBut _ _ c2 (sd.extBut _ _ c4 (sc.extBut _ _ c2 (sb.extBut _ _ c3 (sa.extBut _ _ c1 e))))
  have h1e : q1.itr he i1 l1 (k1 + 1) := Kd.itr_ext (Kd.itr_ext (Kd.itr_ext h1b sc.extBut D.TOi1.symm) sd.extBut D.i12) se.extBut D.TOi1.symm
  have h2e : q2.itr he i2 l2 (k2 + 1) := Kd.itr_ext h2d se.extBut D.TOi2.symm
  have zlt : z < he.objs.size := Heap.lt_size ze
  show wpAny _ _ (Builtin.SmallTypes.ownedTupleHandOut (.ref z) (.ref he.objs.size) >>= _) _ _ _
  refine wpAny_bind ?_
  unfold Builtin.SmallTypes.ownedTupleHandOut
  have zf : IsZip (he.push { cls := .type "tuple", data := .seq #[x, y] }) z TI TO .ellipsis := Heap.get?_push_of_some _ ze
  refine wpAny_bind (wpAny_setField_rec zf (by simp) fun hg zg sg => ?_)
  have zg : IsZip hg z TI TO (rawInt he.objs.size) := zg
  refine wpAny_setField_rec zg (by simp) fun hk zk sk => ?_
  have zk : IsZip hk z TI TO (rawInt he.objs.size) := zk
  have up : ∀ c o, c ≠ z → he.get? c = some o → hk.get? c = some o := fun c o c1 e => sk.extBut _ _ c1 (sg.extBut _ _ c1 (Heap.get?_push_of_some _ e))
  have Tk : IsPair hk he.objs.size x y := sk.extBut _ _ (Nat.ne_of_gt zlt) (sg.extBut _ _ (Nat.ne_of_gt zlt) (Heap.get?_push_size _ rfl))
  have szk : hk.objs.size = he.objs.size + 1 := by rw [sk.1, sg.1, Heap.size_push]
  rw [hsz] at zk Tk szk
  refine wpAny_pure ⟨_, rfl, ?_⟩
  show Q (.ref he.objs.size) _
  rw [hsz]
  exact hQ hk zk (up _ _ D.TOz TOe) (Kd.itr_at h1e fun o e => up _ o D.i1z e) (Kd.itr_at h2e fun o e => up _ o D.i2z e) Tk szk fun c o c1 c2 c3 c4 e => up c o c1 (ke c o c1 c2 c3 c4 e)
theorem zipK_end {z TI TO i1 i2 l1 l2 : Addr} {k1 k2 : Nat} {xs ys : Array Value} {a b : Value} {Q : Fin → Shared → Prop} (hh : A.handled = none) (D : ZipApart z TI TO i1 i2 l1 l2)
    (hz : IsZip s.heap z TI TO .none) (hTI : IsPair s.heap TI (.ref i1) (.ref i2)) (hTO : IsPair s.heap TO a b)
    (h1 : q1.itr s.heap i1 l1 k1) (h2 : q2.itr s.heap i2 l2 k2) (p1 : q1.has s.heap l1 xs) (p2 : q2.has s.heap l2 ys) (hend : xs[k1]? = none ∨ ys[k2]? = none)
    (hE : ∀ h' e, (∀ c o, c ≠ z → c ≠ TO → c ≠ i1 → c ≠ i2 → s.heap.get? c = some o → h'.get? c = some o) → (∃ o, h'.get? e = some o ∧ o.cls = .type "StopIteration") → E (.ref e) { s with heap := h' }) :
    wpAny (model prog w) A (Builtin.«zip.__next__» ⟨[.ref z], []⟩) Q E s := by
  show wpAny _ _ (field (.ref z) 2 >>= _) _ _ _
  refine wpAny_bind (wpAny_field hz rfl (x := .bool false) rfl ?_)
  show wpAny _ _ (field (.ref z) 3 >>= _) _ _ _
  refine wpAny_bind (wpAny_field hz rfl (x := .ref TI) rfl (wpAny_bind (wpAny_seqItems hTI rfl ?_)))
  show wpAny _ _ (Builtin.SmallTypes.ownedTupleIsFree (.ref z) >>= _) _ _ _
  refine wpAny_bind ?_
  unfold Builtin.SmallTypes.ownedTupleIsFree
  refine wpAny_bind (wpAny_field hz rfl (x := .none) rfl (wpAny_pure ?_))
  simp only [if_true]
  refine wpAny_bind (wpAny_rule (wpAny_bind (wpAny_field hz rfl (x := .ref TO) rfl (wpAny_bind (wpAny_setField_rec hz (by simp) fun ha za sa => ?_)))))
  have za : IsZip ha z TI TO .ellipsis := za
  refine wpAny_bind ?_
  simp only [List.zipIdx_cons, List.zipIdx_nil, List.forIn_cons, List.forIn_nil]
  refine wpAny_bind (wpAny_bind (wpAny_onRaise ?_))
  show wpAny _ _ (Builtin.SmallTypes.nextOf (.ref i1) >>= _) _ _ _
  cases hx : xs[k1]? with
  | none =>
    refine wpAny_bind (Kd.stop (q := q1) hh (Kd.itr_ext h1 sa.extBut D.i1z) (Kd.has_ext p1 sa.extBut D.l1z) hx fun hb e sb he => ?_)
    obtain ⟨oe, hoe, hce⟩ := he
    have zb : IsZip hb z TI TO .ellipsis := sb _ _ D.i1z.symm za
    have ez : e ≠ z := fun x => by subst x; rw [zb] at hoe; cases hoe; simp at hce
    refine wpAny_setField_rec zb (by simp) fun hc _ sc => hE hc e (fun c o c1 _ c3 _ x => sc.extBut _ _ c1 (sb _ _ c3 (sa.extBut _ _ c1 x))) ⟨oe, sc.extBut _ _ ez hoe, hce⟩
  | some x =>
    have hy : ys[k2]? = none := by rcases hend with h | h; rw [hx] at h; cases h; exact h
    refine wpAny_bind (Kd.next (q := q1) (Kd.itr_ext h1 sa.extBut D.i1z) (Kd.has_ext p1 sa.extBut D.l1z) hx fun hb h1b sb => wpAny_pure ?_)
    have TOb : IsPair hb TO a b := sb.extBut _ _ D.TOi1 (sa.extBut _ _ D.TOz hTO)
    refine wpAny_bind (wpAny_seqItems TOb rfl (wpAny_bind (wpAny_updateSeq_pair TOb fun hc TOc sc => ?_)))
    refine wpAny_bind (wpAny_letGo (wpAny_pure (wpAny_bind (wpAny_bind (wpAny_onRaise ?_)))))
    show wpAny _ _ (Builtin.SmallTypes.nextOf (.ref i2) >>= _) _ _ _
    refine wpAny_bind (Kd.stop (q := q2) hh (Kd.itr_ext (Kd.itr_ext (Kd.itr_ext h2 sa.extBut D.i2z) sb.extBut D.i12.symm) sc.extBut D.TOi2.symm) (Kd.has_ext (Kd.has_ext (Kd.has_ext p2 sa.extBut D.l2z) sb.extBut D.l2i1) sc.extBut D.l2TO) hy fun hd e sd he => ?_)
    obtain ⟨oe, hoe, hce⟩ := he
    have zd : IsZip hd z TI TO .ellipsis := sd _ _ D.i2z.symm (sc.extBut _ _ D.TOz.symm (sb.extBut _ _ D.i1z.symm za))
    have ez : e ≠ z := fun x => by subst x; rw [zd] at hoe; cases hoe; simp at hce
    refine wpAny_setField_rec zd (by simp) fun he _ se => hE he e (fun c o c1 c2 c3 c4 x => se.extBut _ _ c1 (sd _ _ c4 (sc.extBut _ _ c2 (sb.extBut _ _ c3 (sa.extBut _ _ c1 x))))) ⟨oe, se.extBut _ _ ez hoe, hce⟩
theorem nextZ_item {z TI TO i1 i2 l1 l2 : Addr} {k1 k2 : Nat} {xs ys : Array Value} {x y a b : Value} {Q : Option Value → Shared → Prop} (D : ZipApart z TI TO i1 i2 l1 l2)
    (hz : IsZip s.heap z TI TO .none) (hTI : IsPair s.heap TI (.ref i1) (.ref i2)) (hTO : IsPair s.heap TO a b)
    (h1 : q1.itr s.heap i1 l1 k1) (h2 : q2.itr s.heap i2 l2 k2) (p1 : q1.has s.heap l1 xs) (p2 : q2.has s.heap l2 ys) (hx : xs[k1]? = some x) (hy : ys[k2]? = some y)
    (hQ : ∀ h', IsZip h' z TI TO (rawInt s.heap.objs.size) → IsPair h' TO x y → q1.itr h' i1 l1 (k1 + 1) → q2.itr h' i2 l2 (k2 + 1) → IsPair h' s.heap.objs.size x y → h'.objs.size = s.heap.objs.size + 1 →
      (∀ c o, c ≠ z → c ≠ TO → c ≠ i1 → c ≠ i2 → s.heap.get? c = some o → h'.get? c = some o) → Q (some (.ref s.heap.objs.size)) { s with heap := h' }) :
    wpAny (model prog w) A (pyNext (.ref z)) Q E s := by
  have hT : s.TypeIs (.ref z) "zip" := ⟨_, hz, rfl⟩
  unfold pyNext
  exact wpAny_bind (wpAny_attempt (wpAny_callSpecial?_slot (name := Str.ofString "__next__") hT F.slot_zip_next (wpAny_call_entry F.slot_zip_next hT F.entry_zip_next
    (zipK_item D hz hTI hTO h1 h2 p1 p2 hx hy fun h' a1 a2 a3 a4 a5 a6 a7 => wpAny_pure (hQ h' a1 a2 a3 a4 a5 a6 a7)) (F.args_zip_next_1 _))))
theorem nextZ_end {z TI TO i1 i2 l1 l2 : Addr} {k1 k2 : Nat} {xs ys : Array Value} {a b : Value} {Q : Option Value → Shared → Prop} (hh : A.handled = none) (D : ZipApart z TI TO i1 i2 l1 l2)
    (hz : IsZip s.heap z TI TO .none) (hTI : IsPair s.heap TI (.ref i1) (.ref i2)) (hTO : IsPair s.heap TO a b)
    (h1 : q1.itr s.heap i1 l1 k1) (h2 : q2.itr s.heap i2 l2 k2) (p1 : q1.has s.heap l1 xs) (p2 : q2.has s.heap l2 ys) (hend : xs[k1]? = none ∨ ys[k2]? = none)
    (hQ : ∀ h', (∀ c o, c ≠ z → c ≠ TO → c ≠ i1 → c ≠ i2 → s.heap.get? c = some o → h'.get? c = some o) → Q none { s with heap := h' }) : wpAny (model prog w) A (pyNext (.ref z)) Q E s := by
  have hT : s.TypeIs (.ref z) "zip" := ⟨_, hz, rfl⟩
  unfold pyNext
  refine wpAny_bind (wpAny_attempt (wpAny_callSpecial?_slot (name := Str.ofString "__next__") hT F.slot_zip_next (wpAny_call_entry F.slot_zip_next hT F.entry_zip_next
    (zipK_end hh D hz hTI hTO h1 h2 p1 p2 hend fun h' e hk he => ?_) (F.args_zip_next_1 _))))
  obtain ⟨o, ho, hc⟩ := he
  exact wpAny_bind (wpAny_isInstance (T := "StopIteration") (b := true) ⟨o, ho, hc⟩ isSubtype_stop (wpAny_pure (hQ _ hk)))
end
def Kd.ob (q : Kd) (a : Addr) : Obj := { cls := .type q.nm, data := .fields #[.ref a, .int 0 0] }
abbrev zk1 (h : Heap) (q : Kd) (a : Addr) : Heap := h.push (q.ob a)
abbrev zk2 (h : Heap) (q r : Kd) (a b : Addr) : Heap := (zk1 h q a).push (r.ob b)
abbrev zk3 (h : Heap) (q r : Kd) (a b : Addr) : Heap := (zk2 h q r a b).push { cls := .type "tuple", data := .seq #[.ref h.objs.size, .ref (zk1 h q a).objs.size] }
abbrev zk4 (h : Heap) (q r : Kd) (a b : Addr) : Heap := (zk3 h q r a b).push { cls := .type "tuple", data := .seq #[.none, .none] }
abbrev zk5 (h : Heap) (q r : Kd) (a b : Addr) : Heap := (zk4 h q r a b).push { cls := .type "zip", data := .fields #[.none, .bool false, .bool false, .ref (zk2 h q r a b).objs.size, .ref (zk3 h q r a b).objs.size] }
theorem meetsLT (l1 l2 : Addr) (xs ys : Array Value) :
    Meets (Builtin.«zip.__new__» ⟨[.type "zip", .ref l1, .ref l2], []⟩) (fun _ R s => s.heap.IsList l1 xs ∧ s.heap.IsTuple l2 ys ∧ R (.ok (.ret (.ref (zk4 s.heap .l .t l1 l2).objs.size))) { s with heap := zk5 s.heap .l .t l1 l2 }) :=
  .of_wp fun prog w A R s h => by
    obtain ⟨hp, g, d, tk, os⟩ := s; obtain ⟨hl1, hl2, h⟩ := h
    have hsub := sub_zip
    have e1 : Heap.IsList (Shared.heap ⟨hp, g, d, tk, os⟩) l1 xs := hl1
    have e2 : Heap.IsTuple (Shared.heap ⟨hp.push { cls := .type "list_iterator", data := .fields #[.ref l1, .int 0 0] }, g, d, tk, os⟩) l2 ys := Heap.IsTuple.push hl2 _
    wp_walk using wpAny_pyIter_list e1, wpAny_pyIter_tuple e2
    exact ⟨_, rfl, h⟩
theorem meetsTL (l1 l2 : Addr) (xs ys : Array Value) :
    Meets (Builtin.«zip.__new__» ⟨[.type "zip", .ref l1, .ref l2], []⟩) (fun _ R s => s.heap.IsTuple l1 xs ∧ s.heap.IsList l2 ys ∧ R (.ok (.ret (.ref (zk4 s.heap .t .l l1 l2).objs.size))) { s with heap := zk5 s.heap .t .l l1 l2 }) :=
  .of_wp fun prog w A R s h => by
    obtain ⟨hp, g, d, tk, os⟩ := s; obtain ⟨hl1, hl2, h⟩ := h
    have hsub := sub_zip
    have e1 : Heap.IsTuple (Shared.heap ⟨hp, g, d, tk, os⟩) l1 xs := hl1
    have e2 : Heap.IsList (Shared.heap ⟨hp.push { cls := .type "tuple_iterator", data := .fields #[.ref l1, .int 0 0] }, g, d, tk, os⟩) l2 ys := Heap.IsList.push hl2 _
    wp_walk using wpAny_pyIter_tuple e1, wpAny_pyIter_list e2
    exact ⟨_, rfl, h⟩
theorem meetsK (q r : Kd) (l1 l2 : Addr) (xs ys : Array Value) :
    Meets (Builtin.«zip.__new__» ⟨[.type "zip", .ref l1, .ref l2], []⟩) (fun _ R s => q.has s.heap l1 xs ∧ r.has s.heap l2 ys ∧ R (.ok (.ret (.ref (zk4 s.heap q r l1 l2).objs.size))) { s with heap := zk5 s.heap q r l1 l2 }) := by
  cases q <;> cases r
  · exact meets_zip_new l1 l2 xs ys
  · exact meetsLT l1 l2 xs ys
  · exact meetsTL l1 l2 xs ys
  · exact RZ.meets_zipT_new l1 l2 xs ys
end RR

set_option maxHeartbeats 4000000
namespace RR
open PySem PySem.Spec PyProof.Rows L2
section
variable {prog : Program} {w : World} {A : Around} {E : Value → Shared → Prop} {s : Shared} {q r : Kd}
theorem Kd.itr0 {h : Heap} {i a : Addr} (e : h.get? i = some (q.ob a)) : q.itr h i a 0 := by
  cases q
  · exact ⟨_, e, rfl, rfl⟩
  · exact ⟨_, e, rfl, rfl⟩
theorem call_zipK {l1 l2 : Addr} {xs ys : Array Value} {Q : Value → Shared → Prop} (p1 : q.has s.heap l1 xs) (p2 : r.has s.heap l2 ys)
    (h : ∀ h', IsZip h' (s.heap.objs.size + 4) (s.heap.objs.size + 2) (s.heap.objs.size + 3) .none → IsPair h' (s.heap.objs.size + 2) (.ref s.heap.objs.size) (.ref (s.heap.objs.size + 1)) →
      IsPair h' (s.heap.objs.size + 3) .none .none → q.itr h' s.heap.objs.size l1 0 → r.itr h' (s.heap.objs.size + 1) l2 0 → (∀ c o, s.heap.get? c = some o → h'.get? c = some o) → Q (.ref (s.heap.objs.size + 4)) { s with heap := h' }) :
    wpAny (model prog w) A (call (.type "zip") [.ref l1, .ref l2]) Q E s := by
  refine callType_new F.called_zip (by decide) (F.typeCall_zip_2 _ _) (F.newCall_zip_2 _ _) (fun obj => F.args_object_init_3 obj _ _) F.entry_zip_new (meetsK q r l1 l2 xs ys) ⟨p1, p2, ?_⟩
  have n1 : (zk1 s.heap q l1).objs.size = s.heap.objs.size + 1 := Heap.size_push ..
  have n2 : (zk2 s.heap q r l1 l2).objs.size = s.heap.objs.size + 2 := by rw [Heap.size_push, n1]
  have n3 : (zk3 s.heap q r l1 l2).objs.size = s.heap.objs.size + 3 := by rw [Heap.size_push, n2]
  have n4 : (zk4 s.heap q r l1 l2).objs.size = s.heap.objs.size + 4 := by rw [Heap.size_push, n3]
  have g5 : (zk5 s.heap q r l1 l2).get? (zk4 s.heap q r l1 l2).objs.size = some _ := Heap.get?_push_size _ rfl
  have g4 : (zk5 s.heap q r l1 l2).get? (zk3 s.heap q r l1 l2).objs.size = some _ := Heap.get?_push_of_some _ (Heap.get?_push_size _ rfl)
  have g3 : (zk5 s.heap q r l1 l2).get? (zk2 s.heap q r l1 l2).objs.size = some _ := Heap.get?_push_of_some _ (Heap.get?_push_of_some _ (Heap.get?_push_size _ rfl))
  have g2 : (zk5 s.heap q r l1 l2).get? (zk1 s.heap q l1).objs.size = some (r.ob l2) := Heap.get?_push_of_some _ (Heap.get?_push_of_some _ (Heap.get?_push_of_some _ (Heap.get?_push_size _ (by cases r <;> rfl))))
  have g1 : (zk5 s.heap q r l1 l2).get? s.heap.objs.size = some (q.ob l1) := Heap.get?_push_of_some _ (Heap.get?_push_of_some _ (Heap.get?_push_of_some _ (Heap.get?_push_of_some _ (Heap.get?_push_size _ (by cases q <;> rfl)))))
  show _ ∧ _
  rw [n2, n3, n4] at g5
  rw [n1, n2] at g3
  rw [n3] at g4
  rw [n1] at g2
  rw [n4]
  exact ⟨⟨_, g5, rfl⟩, h _ g5 g3 g4 (Kd.itr0 g1) (Kd.itr0 g2) fun c o x =>
    Heap.get?_push_of_some _ (Heap.get?_push_of_some _ (Heap.get?_push_of_some _ (Heap.get?_push_of_some _ (Heap.get?_push_of_some _ x))))⟩
end
/-- the sequences at a and b as they stand at each turn, the items in new pairs -/
def ItzK (q r : Kd) (K : PySem.W.Frag) (a b : Addr) : It :=
  ⟨fun i H => ∃ (xs ys : List V) (x y : V), q.sq K H a xs ∧ r.sq K H b ys ∧ xs[i]? = some x ∧ ys[i]? = some y,
    fun i H v H' => ∃ T x y, v = .ref T ∧ H T = none ∧ H' = upd H T (.tup [x, y]) ∧ (∀ xs, q.sq K H a xs → xs[i]? = some x) ∧ ∀ ys, r.sq K H b ys → ys[i]? = some y,
    fun i H => ∃ xs ys : List V, q.sq K H a xs ∧ r.sq K H b ys ∧ (xs.length ≤ i ∨ ys.length ≤ i)⟩
section
variable {X : Cx} {pins : List (Addr × Obj)} {σ : L2.St} {H : Hp} {s : Shared} {q : Kd}
theorem Kd.at_ {a : Addr} {xs : List V} (I : L2.Inv X pins σ H s) (h : q.sq X.K H a xs) : ∃ its : List Value, Vals xs its ∧ q.has s.heap a its.toArray ∧ a < s.heap.objs.size := by
  cases q
  · obtain ⟨its, rv, p, _⟩ := I.list h
    exact ⟨its, rv, p.isList, p.lt⟩
  · obtain ⟨its, rv, p, _⟩ := I.tuple h
    obtain ⟨o, ho, _⟩ := id p
    exact ⟨its, rv, p, Heap.lt_size ho⟩
theorem Kd.inj {a : Addr} {xs ys : List V} (I : L2.Inv X pins σ H s) (h : q.sq X.K H a xs) (k : q.sq X.K H a ys) : xs = ys := by
  cases q
  · exact I.list_inj h k
  · exact I.tuple_inj h k
end
theorem turn_zipK {q r : Kd} {P : Program} {w : World} {K : PySem.W.Frag} {elts : List Expr} {kk : Nat} {tpos : Pos} {a b z TI TO i1 i2 : Addr} (D : ZipApart z TI TO i1 i2 a b) :
    Turn P w K (.Tuple elts kk tpos) (ItzK q r K a b) [z, TI, TO, i1, i2] z (fun i h => IsZip h z TI TO .none ∧ IsPair h TI (.ref i1) (.ref i2) ∧ (∃ x y, IsPair h TO x y) ∧ q.itr h i1 a i ∧ r.itr h i2 b i) where
  mem := by simp
  obj := fun i h st c hc => by
    obtain ⟨hz, hTI, ⟨x, y, hTO⟩, t1, t2⟩ := st
    obtain ⟨o1, v1, e1, d1⟩ := Kd.itr_obj t1
    obtain ⟨o2, v2, e2, d2⟩ := Kd.itr_obj t2
    have e' : c = z ∨ c = TI ∨ c = TO ∨ c = i1 ∨ c = i2 := by simpa using hc
    rcases e' with m | m | m | m | m
    · rw [m]; exact ⟨_, hz, fun v m => nomatch m⟩
    · rw [m]; exact ⟨_, hTI, fun v m => nomatch m⟩
    · rw [m]; exact ⟨_, hTO, fun v m => nomatch m⟩
    · rw [m]; exact ⟨o1, e1, fun v m => by rw [d1] at m; cases m⟩
    · rw [m]; exact ⟨o2, e2, fun v m => by rw [d2] at m; cases m⟩
  keep := fun i h h' st k => by
    obtain ⟨hz, hTI, ⟨x, y, hTO⟩, t1, t2⟩ := st
    exact ⟨k z (by simp) _ hz, k TI (by simp) _ hTI, ⟨x, y, k TO (by simp) _ hTO⟩, Kd.itr_at t1 fun o m => k i1 (by simp) o m, Kd.itr_at t2 fun o m => k i2 (by simp) o m⟩
  item := by
    intro X hP hw hK hc i pins s σ H E I hf st hg
    subst hP hw hK
    obtain ⟨hz, hTI, ⟨x0, y0, hTO⟩, t1, t2⟩ := st
    obtain ⟨xs, ys, x, y, hqx, hqy, hx, hy⟩ := hg
    obtain ⟨its, rv, p, _⟩ := Kd.at_ I hqx
    obtain ⟨its2, rv2, p2, _⟩ := Kd.at_ I hqy
    obtain ⟨u, hu, ru⟩ := rv.get hx
    obtain ⟨u2, hu2, ru2⟩ := rv2.get hy
    have zlt : z < s.heap.objs.size := Heap.lt_size hz
    refine nextZ_item D hz hTI hTO t1 t2 p p2 (x := u) (y := u2) (by simpa using hu) (by simpa using hu2) fun h' z' TO' t1' t2' hT hsz hk => ?_
    refine ⟨_, rfl, wpAny_letOwnedTupleGo_zip (s := { s with heap := h' }) z' fun h'' z'' sb => ?_⟩
    have hT2 : h''.get? s.heap.objs.size = some { cls := .type "tuple", data := .seq #[u, u2] } := (sb.2 _ (Nat.ne_of_gt zlt)).trans hT
    have new : ObjOk X.prog X.w (upd H s.heap.objs.size (.tup [x, y])) h'' s.heap.objs.size (.tup [x, y]) := ⟨by show 2 ≤ sizeLine; decide, [u, u2], .cons ru (.cons ru2 .nil), ⟨_, hT2, rfl, _, rfl⟩⟩
    have far : ∀ {c : Addr}, c ∉ [z, TI, TO, i1, i2] → c ≠ z ∧ c ≠ TO ∧ c ≠ i1 ∧ c ≠ i2 := fun {c} hb => ⟨fun e => hb (by simp [e]), fun e => hb (by simp [e]), fun e => hb (by simp [e]), fun e => hb (by simp [e])⟩
    have I1 : L2.Inv X pins σ (upd H s.heap.objs.size (.tup [x, y])) { s with heap := h'' } :=
      I.turnedNew (t' := s.toks) (ch := [z, TI, TO, i1, i2]) (fun c o hb m => (sb.2 c (far hb).1).trans (hk c o (far hb).1 (far hb).2.1 (far hb).2.2.1 (far hb).2.2.2 m)) hf (Nat.le_refl _) new
    refine ⟨.ref s.heap.objs.size, _, I1, rfl, ⟨_, x, y, rfl, I.hok.fresh (Nat.le_refl _), rfl, fun l hl => by rw [Kd.inj I hl hqx]; exact hx, fun l hl => by rw [Kd.inj I hl hqy]; exact hy⟩, ⟨z'', ?_, ⟨u, u2, ?_⟩, ?_, ?_⟩, fun c hcm => ?_⟩
    · exact (sb.2 _ D.TIz).trans (hk _ _ D.TIz D.TITO D.TIi1 D.TIi2 hTI)
    · exact (sb.2 _ D.TOz).trans TO'
    · exact Kd.itr_at t1' fun o m => (sb.2 _ D.i1z).trans m
    · exact Kd.itr_at t2' fun o m => (sb.2 _ D.i2z).trans m
    · have hlt : c < s.heap.objs.size := by
        have e' : c = z ∨ c = TI ∨ c = TO ∨ c = i1 ∨ c = i2 := by simpa using hcm
        rcases e' with m | m | m | m | m
        · rw [m]; exact zlt
        · rw [m]; exact Heap.lt_size hTI
        · rw [m]; exact Heap.lt_size hTO
        · rw [m]; obtain ⟨_, _, e1, _⟩ := Kd.itr_obj t1; exact Heap.lt_size e1
        · rw [m]; obtain ⟨_, _, e2, _⟩ := Kd.itr_obj t2; exact Heap.lt_size e2
      rw [upd_ne (Nat.ne_of_lt hlt)]
      exact (hf c hcm).1
  done := by
    intro X hP hw hK hc i pins s σ H E I hf st hg
    subst hP hw hK
    obtain ⟨hz, hTI, ⟨x0, y0, hTO⟩, t1, t2⟩ := st
    obtain ⟨xs, ys, hqx, hqy, hend⟩ := hg
    obtain ⟨its, rv, p, _⟩ := Kd.at_ I hqx
    obtain ⟨its2, rv2, p2, _⟩ := Kd.at_ I hqy
    have n1 := rv.length
    have n2 := rv2.length
    have he : its.toArray[i]? = none ∨ its2.toArray[i]? = none := by
      rcases hend with m | m
      · exact .inl (by simp; omega)
      · exact .inr (by simp; omega)
    have far : ∀ {c : Addr}, c ∉ [z, TI, TO, i1, i2] → c ≠ z ∧ c ≠ TO ∧ c ≠ i1 ∧ c ≠ i2 := fun {c} hb => ⟨fun e => hb (by simp [e]), fun e => hb (by simp [e]), fun e => hb (by simp [e]), fun e => hb (by simp [e])⟩
    exact nextZ_end (I.ok.hd hc) D hz hTI hTO t1 t2 p p2 he fun h' hk => ⟨rfl, I.turnedL (t' := s.toks) (ch := [z, TI, TO, i1, i2]) (fun c o hb m => hk c o (far hb).1 (far hb).2.1 (far hb).2.2.1 (far hb).2.2.2 m) hf⟩
  self := fun A i s Q E st h => wpAny_pyIter_zip st.1 h
end RR

set_option maxHeartbeats 4000000
namespace RR
open PySem PySem.Spec PyProof.Rows L2
theorem pi_zipK {X : Cx} {e e2 : Expr} {ta : TA} {p pos tpos : Pos} {elts : List Expr} {kk : Nat} (hg : Gl X "zip") (hm : X.mg "zip" = none) (ha : PA X [e, e2] ta)
    (hs : starEach [e, e2] X.env = (false, eval e X.env) :: starEach [e2] X.env) (hpl : (backTo pos (starEach [e2] X.env)).any (·.1) = false) :
    PI X (.Tuple elts kk tpos) (.Call (.Name "zip" p) [e, e2] [] pos) (fun σ H R => ta σ H fun vs H1 => ∃ (q r : Kd) (a b : Addr) (xs ys : List V), vs = [.ref a, .ref b] ∧ q.sq X.K H1 a xs ∧ r.sq X.K H1 b ys ∧ R (ItzK q r X.K a b) H1) := by
  refine ⟨fun pins s σ H R I h => ?_⟩
  refine Call_ (ld_blt I hg hm PyProof.Rows.boot_zip (PyProof.Rows.callWith_type1 (thn (ha.run pos pins s σ H _ I h) fun us s1 ⟨vs, H1, I1, r1, z1⟩ => ?_) hs hpl))
  obtain ⟨q, r, a, b, xs, ys, ex, hqx, hqy, go⟩ := z1
  subst ex
  cases r1 with
  | cons ra rr =>
    cases rr with
    | cons rb rr =>
      cases rr
      cases ra
      cases rb
      have fresh5 : ∀ c, c ∈ [s1.heap.objs.size + 4, s1.heap.objs.size + 2, s1.heap.objs.size + 3, s1.heap.objs.size, s1.heap.objs.size + 1] → FpOk X pins H1 c := fun c hcm => by
        have hle : s1.heap.objs.size ≤ c := by
          simp only [List.mem_cons, List.not_mem_nil, or_false] at hcm
          omega
        exact I1.fpOk hle (I1.hok.fresh hle)
      obtain ⟨its, rv, p1, n1⟩ := Kd.at_ I1 hqx
      obtain ⟨its2, rv2, p2, n2⟩ := Kd.at_ I1 hqy
      refine call_zipK p1 p2 fun h' hz hTI hTO t1 t2 hk => wpAny_pyIter_zip hz ?_
      have I2 : L2.Inv X pins σ H1 { s1 with heap := h' } := I1.kept (t' := s1.toks) hk
      exact ⟨s1.heap.objs.size + 4, [s1.heap.objs.size + 4, s1.heap.objs.size + 2, s1.heap.objs.size + 3, s1.heap.objs.size, s1.heap.objs.size + 1], _, _, H1, rfl, I2, turn_zipK (PySem.W.ktu_apart s1.heap.objs.size a b n1 n2), ⟨hz, hTI, ⟨_, _, hTO⟩, t1, t2⟩, fresh5, go⟩
/-- a sequence that is walked: a list of the store is not changed any more from then on -/
def kdW (o : Objs) : W → Option (Kd × List D × Objs)
  | .v (.tup xs) => some (.t, xs, o)
  | .v (.lst xs) => some (.l, xs, o)
  | .o i => match o[i]? with
    | some ⟨_, .lst xs⟩ => some (.l, xs, o.set i ⟨false, .lst xs⟩)
    | _ => none
  | _ => none
def zipD (xs ys : List D) : List D := List.zipWith (fun x y => D.tup [x, y]) xs ys
def mZip (l : ML) : MI := fun σ o => (l σ o).bind fun ws o => match ws with
  | [a, b] => match kdW o a with
    | some (_, xs, o1) => match kdW o1 b with
      | some (_, ys, o2) => .ok (zipD xs ys) o2
      | none => .stuck
    | none => .stuck
  | _ => .stuck
section
variable {g : GE} {F F' : Addr → Prop} {ι ι' ι1 ι2 : List Addr} {H H' H1 H2 : Hp} {objs objs' objs1 objs2 : Objs}
theorem kdW_ok {w : W} {v : V} {q : Kd} {xs : List D} {o1 : Objs} (rel : Rel g F ι H objs) (k : RW g ι (Al F ι objs) H w v) (h : kdW objs w = some (q, xs, o1)) :
    Rel g F ι H o1 ∧ Ext ι objs H ι o1 H ∧ ∃ a vs, v = .ref a ∧ RVs g (Al F ι o1) H xs vs ∧ ∀ A2 H2, Carry (Al F ι o1) H A2 H2 → q.sq g.K H2 a vs := by
  cases w with
  | v d =>
    cases d <;> simp only [kdW, Option.some.injEq, Prod.mk.injEq, reduceCtorEq] at h
    · obtain ⟨rfl, rfl, rfl⟩ := h
      obtain ⟨a, vs, rfl, h1, h2, h3⟩ := k
      exact ⟨rel, .refl, a, vs, rfl, h3, fun A2 H2 ca => SqT.of (ca.kp _ _ h2 h1).1⟩
    · obtain ⟨rfl, rfl, rfl⟩ := h
      obtain ⟨a, vs, rfl, h1, h2, h3⟩ := k
      exact ⟨rel, .refl, a, vs, rfl, h3, fun A2 H2 ca => SqL.of (ca.kp _ _ h2 h1).1⟩
  | o i =>
    simp only [kdW] at h
    split at h
    · rename_i b ys hx
      cases h
      obtain ⟨a, ha, rfl⟩ := k
      obtain ⟨vs, q1, q2⟩ := rel.at_ _ a _ ha hx
      have fz := froze rel ha hx
      have xf : Ext ι objs H ι (objs.set i ⟨false, .lst xs⟩) H := Ext.freeze hx
      exact ⟨rel.freeze hx, xf, a, vs, rfl, q2.ext xf, fun A2 H2 ca => SqL.of (ca.kp _ _ q1 fz).1⟩
    · cases h
theorem yields_zip {q r : Kd} {a b : Addr} {xs ys : List D} {vs us : List V} (h1 : ∀ A1 H1, Carry (Al F ι objs) H A1 H1 → q.sq g.K H1 a vs) (h2 : ∀ A1 H1, Carry (Al F ι objs) H A1 H1 → r.sq g.K H1 b us)
    (k1 : RVs g (Al F ι objs) H xs vs) (k2 : RVs g (Al F ι objs) H ys us) : Yields g F (ItzK q r g.K a b) (zipD xs ys) ι objs H := by
  intro i F' ι1 o1 H1 ca rel
  have s1 := h1 _ _ ca
  have s2 := h2 _ _ ca
  refine ⟨fun d hd => ?_, fun hl => ⟨vs, us, s1, s2, ?_⟩⟩
  · rw [zipD, List.getElem?_zipWith] at hd
    cases hx : xs[i]? with
    | none => rw [hx] at hd; simp at hd
    | some x =>
      cases hy : ys[i]? with
      | none => rw [hx, hy] at hd; simp at hd
      | some y =>
        rw [hx, hy] at hd
        simp only [Option.some.injEq] at hd
        subst hd
        obtain ⟨v, e1, e2⟩ := k1.get hx
        obtain ⟨u, e3, e4⟩ := k2.get hy
        refine ⟨⟨vs, us, v, u, s1, s2, e1, e3⟩, fun z H' hy => ?_⟩
        obtain ⟨T, x', y', rfl, hT, rfl, z1, z2⟩ := hy
        have z1 := z1 vs s1
        have z2 := z2 us s2
        rw [e1] at z1; rw [e3] at z2
        cases z1; cases z2
        have xx : Ext ι1 o1 H1 ι1 o1 (upd H1 T (.tup [v, u])) := Ext.upd_new hT
        refine ⟨rel.upd_new hT, xx, T, [v, u], rfl, ?_, upd_same, ?_⟩
        · exact fun z => rel.off hT z
        · exact RVs.ext (show RVs g (Al F' ι1 o1) H1 [x, y] [v, u] from by
            simp only [RVs]
            exact ⟨v, [u], rfl, RV.car ca _ _ e2, u, [], rfl, RV.car ca _ _ e4, rfl⟩) xx
  · rw [zipD, List.length_zipWith, k1.length, k2.length] at hl
    omega
end
theorem si_zip {X : Cx} {a b : Expr} {p pos tpos : Pos} {elts : List Expr} {kk : Nat} {ml : ML} (hg : Gl X "zip") (hm : X.mg "zip" = none) (ha : SA X [a, b] ml) (h1 : isStar a = false) (h2 : isStar b = false) :
    SI X (.Tuple elts kk tpos) (.Call (.Name "zip" p) [a, b] [] pos) (mZip ml) := by
  refine (pi_zipK hg hm ha (star_cons h1 _) (star_none (by simp [h2]))).weak fun σ H Rk ⟨F, ι, objs, σd, rel, sr, p⟩ => ?_
  unfold mZip at p
  cases e1 : ml σd objs with
  | exc _ _ => rw [e1] at p; exact p.elim
  | stuck => rw [e1] at p; exact p.elim
  | ok ws o =>
    rw [e1, R.bind_ok] at p
    refine ⟨F, ι, objs, σd, rel, sr, ?_⟩
    rw [e1]
    intro vs ι1 H1 rel1 ex1 r1
    match ws, p, r1 with
    | [], p, _ => exact p.elim
    | [_], p, _ => exact p.elim
    | _ :: _ :: _ :: _, p, _ => exact p.elim
    | [w, z], p, r1 =>
      obtain ⟨x, y, rfl, k1, k2⟩ := paired2 r1
      simp only at p
      cases hw : kdW o w with
      | none => rw [hw] at p; exact p.elim
      | some t =>
        obtain ⟨q, xs, o1⟩ := t
        rw [hw] at p
        simp only at p
        cases hz : kdW o1 z with
        | none => rw [hz] at p; exact p.elim
        | some t =>
          obtain ⟨r, ys, o2⟩ := t
          rw [hz] at p
          simp only at p
          obtain ⟨rel2, x2, a, vs, rfl, m1, m2⟩ := kdW_ok rel1 k1 hw
          obtain ⟨rel3, x3, b, us, rfl, n1, n2⟩ := kdW_ok rel2 (k2.ext x2) hz
          exact ⟨q, r, a, b, vs, us, rfl, m2 _ _ x3.carry, n2 _ _ .refl, p _ ι1 H1 rel3 ((ex1.trans x2).trans x3) (yields_zip (fun A2 H2 ca => m2 _ _ (x3.carry.trans ca)) n2 (m1.ext x3) n1)⟩
end RR

set_option maxHeartbeats 4000000
namespace RR
open PySem PySem.Spec PyProof.Rows L2
/-! ### enumerate of a list or a tuple -/
section
variable {prog : Program} {w : World} {A : Around} {E : Value → Shared → Prop} {s : Shared} {q : Kd}
theorem enumK_item {e it l : Addr} {i : Nat} {items : Array Value} {x old : Value} {Q : Value → Shared → Prop}
    (he : IsEnum s.heap e it i old) (hit : q.itr s.heap it l i) (hl : q.has s.heap l items) (hx : items[i]? = some x) (hne : e ≠ it)
    (hQ : ∀ h', IsEnumOut h' e it ((i : Int) + 1) x s.heap.objs.size → q.itr h' it l (i + 1) → h'.get? s.heap.objs.size = some { cls := .type "tuple", data := .seq #[.int i s.toks, x] } →
      (∀ b o, b ≠ e → b ≠ it → s.heap.get? b = some o → h'.get? b = some o) → Q (.ref s.heap.objs.size) { s with heap := h', toks := s.toks + 1 }) :
    wpAny (model prog w) A (Builtin.«enumerate.__next__» ⟨[.ref e], []⟩) (fun fin s' => ∃ v, fin = .done (.ret v) ∧ Q v s') E s := by
  obtain ⟨hp, g, d, tk, os⟩ := s
  show wpAny _ _ (field (.ref e) 2 >>= _) _ _ _
  refine wpAny_bind (wpAny_field he rfl (x := .ref it) rfl (wpAny_bind (Kd.next (q := q) hit hl hx fun ha ita sa => ?_)))
  have sa : Heap.SameBut it hp ha := sa
  have ea : IsEnum ha e it i old := (sa.2 e hne).trans he
  show wpAny _ _ (field (.ref e) 3 >>= _) _ _ ⟨ha, g, d, tk, os⟩
  refine wpAny_bind (wpAny_field ea rfl (x := rawInt i) rfl ?_)
  show wpAny _ _ (field (.ref e) 4 >>= _) _ _ ⟨ha, g, d, tk, os⟩
  refine wpAny_bind (wpAny_field ea rfl (x := .none) rfl ?_)
  show wpAny _ _ (mkInt i >>= _) _ _ ⟨ha, g, d, tk, os⟩
  refine wpAny_bind (wpAny_mkInt ?_)
  show wpAny _ _ (setField (.ref e) 3 (rawInt ((i : Int) + 1)) >>= _) _ _ ⟨ha, g, d, tk + 1, os⟩
  refine wpAny_bind (wpAny_setField_rec ea (by simp) fun hb eb sb => ?_)
  have sb : Heap.SameBut e ha hb := sb
  have eb : IsEnum hb e it ((i : Int) + 1) old := eb
  show wpAny _ _ (setField (.ref e) 4 .none >>= _) _ _ ⟨hb, g, d, tk + 1, os⟩
  refine wpAny_bind (wpAny_setField_rec eb (by simp) fun hc ec sc => ?_)
  have sc : Heap.SameBut e hb hc := sc
  have ec : IsEnum hc e it ((i : Int) + 1) old := ec
  show wpAny _ _ (newTuple [.int i tk, x] >>= _) _ _ ⟨hc, g, d, tk + 1, os⟩
  refine wpAny_bind (wpAny_newTuple ?_)
  have ed : IsEnum (hc.push { cls := .type "tuple", data := .seq #[.int i tk, x] }) e it ((i : Int) + 1) old := Heap.get?_push_of_some _ ec
  have hsz : hc.objs.size = hp.objs.size := by rw [sc.1, sb.1, sa.1]
  have hel : e < hp.objs.size := Heap.lt_size he
  have kd : ∀ b o, b ≠ e → b ≠ it → hp.get? b = some o → (hc.push { cls := .type "tuple", data := .seq #[.int i tk, x] }).get? b = some o := fun b o hbe hbi hb =>
    Heap.get?_push_of_some _ (sc.extBut b o hbe (sb.extBut b o hbe (sa.extBut b o hbi hb)))
  have itd : q.itr (hc.push { cls := .type "tuple", data := .seq #[.int i tk, x] }) it l (i + 1) := Kd.itr_at (Kd.itr_ext (Kd.itr_ext ita sb.extBut (Ne.symm hne)) sc.extBut (Ne.symm hne)) fun o m => Heap.get?_push_of_some _ m
  have td : (hc.push { cls := .type "tuple", data := .seq #[.int i tk, x] }).get? hp.objs.size = some { cls := .type "tuple", data := .seq #[.int i tk, x] } := by rw [← hsz]; exact Heap.get?_push_size _ rfl
  rw [hsz]
  generalize hc.push { cls := .type "tuple", data := .seq #[.int i tk, x] } = hd at ed kd itd td
  show wpAny _ _ (Builtin.SmallTypes.ownedTupleIsFree (.ref e) >>= _) _ _ ⟨hd, g, d, tk + 1, os⟩
  refine wpAny_bind ?_
  unfold Builtin.SmallTypes.ownedTupleIsFree
  refine wpAny_bind (wpAny_field ed rfl (x := .none) rfl (wpAny_pure ?_))
  simp only [if_true]
  refine wpAny_bind (wpAny_rule (wpAny_bind (wpAny_field ed rfl (x := old) rfl (wpAny_bind (wpAny_setField_rec ed (by simp) fun hf ef sf => ?_)))))
  have sf : Heap.SameBut e hd hf := sf
  have ef : IsEnum hf e it ((i : Int) + 1) x := ef
  show wpAny _ _ (Builtin.SmallTypes.ownedTupleHandOut (.ref e) (.ref hp.objs.size) >>= _) _ _ ⟨hf, g, d, tk + 1, os⟩
  refine wpAny_bind ?_
  unfold Builtin.SmallTypes.ownedTupleHandOut
  refine wpAny_bind (wpAny_setField_rec ef (by simp) fun hg eg sg => ?_)
  have sg : Heap.SameBut e hf hg := sg
  have eg : IsEnumOut hg e it ((i : Int) + 1) x hp.objs.size := eg
  refine wpAny_setField_rec eg (by simp) fun hk ek sk => ?_
  have sk : Heap.SameBut e hg hk := sk
  have ek : IsEnumOut hk e it ((i : Int) + 1) x hp.objs.size := ek
  refine wpAny_bind (wpAny_letGo (wpAny_pure ⟨_, rfl, hQ hk ek ?_ ?_ ?_⟩))
  · exact Kd.itr_ext (Kd.itr_ext (Kd.itr_ext itd sf.extBut (Ne.symm hne)) sg.extBut (Ne.symm hne)) sk.extBut (Ne.symm hne)
  · exact sk.extBut _ _ (Nat.ne_of_gt hel) (sg.extBut _ _ (Nat.ne_of_gt hel) (sf.extBut _ _ (Nat.ne_of_gt hel) td))
  · exact fun b o hbe hbi hb => sk.extBut b o hbe (sg.extBut b o hbe (sf.extBut b o hbe (kd b o hbe hbi hb)))
theorem nextE_item {e it l : Addr} {i : Nat} {items : Array Value} {x old : Value} {Q : Option Value → Shared → Prop}
    (he : IsEnum s.heap e it i old) (hit : q.itr s.heap it l i) (hl : q.has s.heap l items) (hx : items[i]? = some x) (hne : e ≠ it)
    (hQ : ∀ h', IsEnumOut h' e it ((i : Int) + 1) x s.heap.objs.size → q.itr h' it l (i + 1) → h'.get? s.heap.objs.size = some { cls := .type "tuple", data := .seq #[.int i s.toks, x] } →
      (∀ b o, b ≠ e → b ≠ it → s.heap.get? b = some o → h'.get? b = some o) → Q (some (.ref s.heap.objs.size)) { s with heap := h', toks := s.toks + 1 }) :
    wpAny (model prog w) A (pyNext (.ref e)) Q E s := by
  have hT : s.TypeIs (.ref e) "enumerate" := ⟨_, he, rfl⟩
  unfold pyNext
  exact wpAny_bind (wpAny_attempt (wpAny_callSpecial?_slot (name := Str.ofString "__next__") hT F.slot_enumerate_next (wpAny_call_entry F.slot_enumerate_next hT F.entry_enumerate_next
    (enumK_item he hit hl hx hne fun h' a b c k => wpAny_pure (hQ h' a b c k)) (F.args_enumerate_next_1 _))))
theorem nextE_end {e it l : Addr} {i : Nat} {items : Array Value} {old : Value} {Q : Option Value → Shared → Prop} (hh : A.handled = none)
    (he : IsEnum s.heap e it i old) (hit : q.itr s.heap it l i) (hl : q.has s.heap l items) (hx : items[i]? = none)
    (hQ : ∀ h', Heap.ExtBut it s.heap h' → Q none { s with heap := h' }) : wpAny (model prog w) A (pyNext (.ref e)) Q E s := by
  have hT : s.TypeIs (.ref e) "enumerate" := ⟨_, he, rfl⟩
  unfold pyNext
  refine wpAny_bind (wpAny_attempt (wpAny_callSpecial?_slot (name := Str.ofString "__next__") hT F.slot_enumerate_next (wpAny_call_entry F.slot_enumerate_next hT F.entry_enumerate_next ?_ (F.args_enumerate_next_1 _))))
  show wpAny _ _ (field (.ref e) 2 >>= _) _ _ _
  refine wpAny_bind (wpAny_field he rfl (x := .ref it) rfl (wpAny_bind (Kd.stop (q := q) hh hit hl hx fun h' x he' hx' => ?_)))
  obtain ⟨o, ho, hc⟩ := hx'
  exact wpAny_bind (wpAny_isInstance (T := "StopIteration") (b := true) ⟨o, ho, hc⟩ isSubtype_stop (wpAny_pure (hQ _ he')))
end
end RR

set_option maxHeartbeats 4000000
namespace RR
open PySem PySem.Spec PyProof.Rows L2
open PySem.AutoSeq1 (wpAny_loadPart')
theorem meetsET (l : Addr) (items : Array Value) (n : Nat) (dct : Option Addr) (sl : Array (Option Value)) :
    Meets (Builtin.«enumerate.__new__» ⟨[.type "enumerate", .ref l], []⟩) (fun _ R s => s.heap.get? l = some { cls := .type "tuple", dict := dct, data := .seq items n, slots := sl } ∧
      R (.ok (.ret (.ref (s.heap.push (Kd.ob .t l)).objs.size))) { s with heap := (s.heap.push (Kd.ob .t l)).push { cls := .type "enumerate", data := .fields #[.none, .bool false, .ref s.heap.objs.size, rawInt 0, .none, .none] } }) :=
  .of_wp fun prog w A R s h => by
    obtain ⟨hp, g, d, tk, os⟩ := s; obtain ⟨hl, h⟩ := h
    have hsub := sub_enumerate
    have e1 : Heap.IsTuple (Shared.heap ⟨hp, g, d, tk, os⟩) l items := ⟨_, hl, rfl, n, rfl⟩
    wp_walk using wpAny_loadPart' hl
    refine wpAny_stack_any fun st => wpAny_pure ?_
    split
    · rename_i c _ _ _ _ _
      cases (c == Value.type "enumerate")
      · wp_walk using wpAny_loadPart' hl, wpAny_pyIter_tuple e1
        exact ⟨_, rfl, h⟩
      · wp_walk using wpAny_loadPart' hl, wpAny_pyIter_tuple e1
        exact ⟨_, rfl, h⟩
    · wp_walk using wpAny_loadPart' hl, wpAny_pyIter_tuple e1
      exact ⟨_, rfl, h⟩
section
variable {prog : Program} {w : World} {A : Around} {E : Value → Shared → Prop} {s : Shared} {q : Kd}
theorem call_enumK {l : Addr} {items : Array Value} {Q : Value → Shared → Prop} (hL : q.has s.heap l items)
    (h : ∀ h', IsEnum h' (s.heap.objs.size + 1) s.heap.objs.size 0 .none → q.itr h' s.heap.objs.size l 0 → (∀ b o, s.heap.get? b = some o → h'.get? b = some o) → Q (.ref (s.heap.objs.size + 1)) { s with heap := h' }) :
    wpAny (model prog w) A (call (.type "enumerate") [.ref l]) Q E s := by
  cases q with
  | l => exact call_enumerate_list hL fun h' a b _ c => h h' a b c
  | t =>
    obtain ⟨⟨c, dct, dt, sl⟩, hl, hc, n, hd⟩ := hL
    have hc : c = .type "tuple" := hc
    have hd : dt = .seq items n := hd
    subst hc hd
    refine callType_new F.called_enumerate (by decide) (F.typeCall_enumerate_1 _) (F.newCall_enumerate_1 _) (fun obj => F.args_object_init_2 obj _) F.entry_enumerate_new (meetsET l items n dct sl) ⟨hl, ?_⟩
    have hz : (s.heap.push (Kd.ob .t l)).objs.size = s.heap.objs.size + 1 := Heap.size_push ..
    have he : IsEnum ((s.heap.push (Kd.ob .t l)).push { cls := .type "enumerate", data := .fields #[.none, .bool false, .ref s.heap.objs.size, rawInt 0, .none, .none] }) (s.heap.objs.size + 1) s.heap.objs.size 0 .none := by
      have := Heap.get?_push_size (s.heap.push (Kd.ob .t l)) (o := { cls := .type "enumerate", data := .fields #[.none, .bool false, .ref s.heap.objs.size, rawInt 0, .none, .none] }) rfl
      rw [hz] at this; exact this
    show _ ∧ _
    rw [hz]
    exact ⟨⟨_, he, rfl⟩, h _ he (Kd.itr0 (q := .t) (Heap.get?_push_of_some _ (Heap.get?_push_size _ rfl))) fun b o x => Heap.get?_push_of_some _ (Heap.get?_push_of_some _ x)⟩
end
/-- the sequence at a as it stands at each turn, each item in a new pair -/
def IteK (q : Kd) (K : PySem.W.Frag) (a : Addr) : It :=
  ⟨fun i H => ∃ (xs : List V) (x : V), q.sq K H a xs ∧ xs[i]? = some x, fun i H v H' => ∃ T x, v = .ref T ∧ H T = none ∧ H' = upd H T (.tup [.int (i : Nat), x]) ∧ ∀ xs, q.sq K H a xs → xs[i]? = some x,
    fun i H => ∃ xs : List V, q.sq K H a xs ∧ xs.length ≤ i⟩
theorem turn_enumK {q : Kd} {P : Program} {w : World} {K : PySem.W.Frag} {elts : List Expr} {kk : Nat} {tpos : Pos} (a e it : Addr) :
    Turn P w K (.Tuple elts kk tpos) (IteK q K a) [e, it] e (fun i h => (∃ old, IsEnum h e it ((i : Nat) : Int) old) ∧ q.itr h it a i ∧ e ≠ it) where
  mem := by simp
  obj := fun i h st b hb => by
    obtain ⟨⟨old, he⟩, t1, _⟩ := st
    obtain ⟨o, vs, ho, hd⟩ := Kd.itr_obj t1
    have e' : b = e ∨ b = it := by simpa using hb
    rcases e' with m | m
    · rw [m]; exact ⟨_, he, fun v m => nomatch m⟩
    · rw [m]; exact ⟨o, ho, fun v m => by rw [hd] at m; cases m⟩
  keep := fun i h h' st k => let ⟨⟨old, he⟩, hi, hne⟩ := st; ⟨⟨old, k e (by simp) _ he⟩, Kd.itr_at hi fun o m => k it (by simp) o m, hne⟩
  item := by
    intro X hP hw hK hc i pins s σ H E I hf st hg
    subst hP hw hK
    obtain ⟨⟨old, he⟩, hit, hne⟩ := st
    obtain ⟨xs, x, hq, hx⟩ := hg
    obtain ⟨its, rv, p, hz⟩ := Kd.at_ I hq
    obtain ⟨u, hu, ru⟩ := rv.get hx
    have hel : e < s.heap.objs.size := Heap.lt_size he
    have hil : it < s.heap.objs.size := by obtain ⟨_, _, m, _⟩ := Kd.itr_obj hit; exact Heap.lt_size m
    refine nextE_item he hit p (x := u) (by simpa using hu) hne fun h' ho hit' hT hk => ?_
    refine ⟨_, rfl, wpAny_letOwnedTupleGo_enum (s := { s with heap := h', toks := s.toks + 1 }) ho fun h'' he' sb => ?_⟩
    have hT2 : h''.get? s.heap.objs.size = some { cls := .type "tuple", data := .seq #[.int i s.toks, u] } := (sb.2 _ (Nat.ne_of_gt hel)).trans hT
    have new : ObjOk X.prog X.w (upd H s.heap.objs.size (.tup [.int (i : Nat), x])) h'' s.heap.objs.size (.tup [.int (i : Nat), x]) := ⟨by show 2 ≤ sizeLine; decide, [.int i s.toks, u], .cons ⟨_, rfl⟩ (.cons ru .nil), ⟨_, hT2, rfl, _, rfl⟩⟩
    have far : ∀ {c : Addr}, c ∉ [e, it] → c ≠ e ∧ c ≠ it := fun {c} hb => ⟨fun z => hb (by simp [z]), fun z => hb (by simp [z])⟩
    have I1 : L2.Inv X pins σ (upd H s.heap.objs.size (.tup [.int (i : Nat), x])) { s with heap := h'', toks := s.toks + 1 } :=
      I.turnedNew (ch := [e, it]) (fun b ob hb m => (sb.2 b (far hb).1).trans (hk b ob (far hb).1 (far hb).2 m)) hf (Nat.le_refl _) new
    refine ⟨.ref s.heap.objs.size, _, I1, rfl, ⟨_, x, rfl, I.hok.fresh (Nat.le_refl _), rfl, fun ys hy => by rw [Kd.inj I hy hq]; exact hx⟩, ⟨⟨u, ?_⟩, Kd.itr_at hit' fun o m => (sb.2 it (Ne.symm hne)).trans m, hne⟩, fun b hb => ?_⟩
    · have e1 : ((i + 1 : Nat) : Int) = (i : Int) + 1 := by omega
      rw [e1]; exact he'
    · have hb' : b < s.heap.objs.size := by
        have e' : b = e ∨ b = it := by simpa using hb
        rcases e' with m | m
        · rw [m]; exact hel
        · rw [m]; exact hil
      rw [upd_ne (Nat.ne_of_lt hb')]
      exact (hf b hb).1
  done := by
    intro X hP hw hK hc i pins s σ H E I hf st hg
    subst hP hw hK
    obtain ⟨⟨old, he⟩, hit, hne⟩ := st
    obtain ⟨xs, hq, hx⟩ := hg
    obtain ⟨its, rv, p, hz⟩ := Kd.at_ I hq
    obtain ⟨f0, f1, f2, f3, f4, f5⟩ := hf it (by simp)
    have hl := rv.length
    exact nextE_end (I.ok.hd hc) he hit p (by simp; omega) fun h' eb => ⟨rfl, I.turned (t' := s.toks) (fun b o hb m => eb b o hb m) f0 f1 f3 f4 f5⟩
  self := fun A i s Q E st h => let ⟨⟨_, he⟩, _⟩ := st; wpAny_pyIter_enum he h
theorem pi_enumK {X : Cx} {e : Expr} {ta : TA} {p pos tpos : Pos} {elts : List Expr} {kk : Nat} (hg : Gl X "enumerate") (hm : X.mg "enumerate" = none) (ha : PA X [e] ta) (hs : starEach [e] X.env = [(false, eval e X.env)]) :
    PI X (.Tuple elts kk tpos) (.Call (.Name "enumerate" p) [e] [] pos) (fun σ H R => ta σ H fun vs H1 => ∃ (q : Kd) (a : Addr) (xs : List V), vs = [.ref a] ∧ q.sq X.K H1 a xs ∧ R (IteK q X.K a) H1) := by
  refine ⟨fun pins s σ H R I h => ?_⟩
  refine Call_ (ld_blt I hg hm boot_enumerate (PyProof.Rows.callWith_type1 (thn (ha.run pos pins s σ H _ I h) fun us s1 ⟨vs, H1, I1, r1, z1⟩ => ?_) hs rfl))
  obtain ⟨q, a, xs, ex, hq, go⟩ := z1
  subst ex
  cases r1 with
  | cons ra rr =>
    cases rr
    cases ra
    obtain ⟨its, rv, p', hz⟩ := Kd.at_ I1 hq
    refine call_enumK p' fun h' he hit hk => wpAny_pyIter_enum he ?_
    have I2 : L2.Inv X pins σ H1 { s1 with heap := h' } := I1.kept (t' := s1.toks) hk
    refine ⟨s1.heap.objs.size + 1, [s1.heap.objs.size + 1, s1.heap.objs.size], _, _, H1, rfl, I2, turn_enumK a (s1.heap.objs.size + 1) s1.heap.objs.size, ⟨⟨.none, he⟩, hit, Nat.succ_ne_self _⟩, fun b hb => ?_, go⟩
    have hle : s1.heap.objs.size ≤ b := by
      have hb' : b = s1.heap.objs.size + 1 ∨ b = s1.heap.objs.size := by simpa using hb
      rcases hb' with m | m
      · rw [m]; exact Nat.le_succ _
      · rw [m]; exact Nat.le_refl _
    exact I1.fpOk hle (I1.hok.fresh hle)
def enumD (xs : List D) : List D := xs.zipIdx.map fun p => D.tup [.int (p.2 : Nat), p.1]
def mEnum (l : ML) : MI := fun σ o => (l σ o).bind fun ws o => match ws with
  | [a] => match kdW o a with
    | some (_, xs, o1) => .ok (enumD xs) o1
    | none => .stuck
  | _ => .stuck
theorem yields_enum {g : GE} {F : Addr → Prop} {ι : List Addr} {H : Hp} {objs : Objs} {q : Kd} {a : Addr} {xs : List D} {vs : List V} (h1 : ∀ A1 H1, Carry (Al F ι objs) H A1 H1 → q.sq g.K H1 a vs) (k1 : RVs g (Al F ι objs) H xs vs) : Yields g F (IteK q g.K a) (enumD xs) ι objs H := by
  intro i F' ι1 o1 H1 ca rel
  have s1 := h1 _ _ ca
  refine ⟨fun d hd => ?_, fun hl => ⟨vs, s1, ?_⟩⟩
  · rw [enumD, List.getElem?_map, List.getElem?_zipIdx] at hd
    cases hx : xs[i]? with
    | none => rw [hx] at hd; simp at hd
    | some x =>
      rw [hx] at hd
      simp only [Option.map_some, Option.some.injEq, Nat.zero_add] at hd
      subst hd
      obtain ⟨v, e1, e2⟩ := k1.get hx
      refine ⟨⟨vs, v, s1, e1⟩, fun z H' hy => ?_⟩
      obtain ⟨T, x', rfl, hT, rfl, z1⟩ := hy
      have z1 := z1 vs s1
      rw [e1] at z1
      cases z1
      have xx : Ext ι1 o1 H1 ι1 o1 (upd H1 T (.tup [.int (i : Nat), v])) := Ext.upd_new hT
      refine ⟨rel.upd_new hT, xx, T, [.int (i : Nat), v], rfl, fun z => rel.off hT z, upd_same, ?_⟩
      exact RVs.ext (show RVs g (Al F' ι1 o1) H1 [.int (i : Nat), x] [.int (i : Nat), v] from by
        simp only [RVs]
        exact ⟨_, [v], rfl, by simp only [RV], v, [], rfl, RV.car ca _ _ e2, rfl⟩) xx
  · simp only [enumD, List.length_map, List.length_zipIdx] at hl
    rw [← k1.length]; exact hl
theorem si_enum {X : Cx} {a : Expr} {p pos tpos : Pos} {elts : List Expr} {kk : Nat} {ml : ML} (hg : Gl X "enumerate") (hm : X.mg "enumerate" = none) (ha : SA X [a] ml) (h1 : isStar a = false) :
    SI X (.Tuple elts kk tpos) (.Call (.Name "enumerate" p) [a] [] pos) (mEnum ml) := by
  refine (pi_enumK hg hm ha (star_cons h1 _)).weak fun σ H Rk ⟨F, ι, objs, σd, rel, sr, p⟩ => ?_
  unfold mEnum at p
  cases e1 : ml σd objs with
  | exc _ _ => rw [e1] at p; exact p.elim
  | stuck => rw [e1] at p; exact p.elim
  | ok ws o =>
    rw [e1, R.bind_ok] at p
    refine ⟨F, ι, objs, σd, rel, sr, ?_⟩
    rw [e1]
    intro vs ι1 H1 rel1 ex1 r1
    match ws, p, r1 with
    | [], p, _ => exact p.elim
    | _ :: _ :: _, p, _ => exact p.elim
    | [w], p, r1 =>
      obtain ⟨x, rfl, k1⟩ := paired1 r1
      simp only at p
      cases hw : kdW o w with
      | none => rw [hw] at p; exact p.elim
      | some t =>
        obtain ⟨q, xs, o1⟩ := t
        rw [hw] at p
        simp only at p
        obtain ⟨rel2, x2, a, vs, rfl, m1, m2⟩ := kdW_ok rel1 k1 hw
        exact ⟨q, a, vs, rfl, m2 _ _ .refl, p _ ι1 H1 rel2 (ex1.trans x2) (yields_enum m2 m1)⟩
end RR

set_option maxHeartbeats 4000000
namespace RR
open PySem PySem.Spec PyProof.Rows L2
/-! ### own classes -/
/-- the types of plain values -/
def bTys : List String := ["NoneType", "bool", "int", "str", "tuple", "list", "dict"]
structure CI where
  /-- names that instances have, and no class of theirs -/
  flds : List Str := []
  /-- __init__: the new instance first -/
  init : Option FI := none
  props : List (Str × FI) := []
  eqm : Option FI := none
  lenm : Option FI := none
  /-- neither an own truth nor a length -/
  tru : Bool := false
  /-- an own __bool__ -/
  boolm : Option FI := none
/-- a new instance, frozen behind its __init__ -/
def makeW (c : Str) (fi : FI) (ws : List W) (o : Objs) : R W :=
  if ws.length + 1 = fi.n then match pulls o ws with
    | some (ds, o1) => match fi.fm (.o 0 :: ds.map W.v) [⟨true, .ins c [] []⟩] with
      | .ok (.v .non) [⟨_, .ins c' ns vs⟩] => if c' = c then .ok (.v (.ins c ns vs)) o1 else .stuck
      | _ => .stuck
    | none => .stuck
  else .stuck
section
variable {g : GE} {F F' : Addr → Prop} {ι ι' ι1 ι2 : List Addr} {H H' H1 H2 : Hp} {objs objs' objs1 objs2 : Objs} {A A' : Addr → Prop}
theorem make_ok {c : Str} {fi : FI} {ws : List W} {vs : List V} {Q : VK} {E : XK} {C : Addr} (hC : g.mg c = some (.ref C)) (r : Rel g F ι H objs) (k : RWs g ι (Al F ι objs) H ws vs) (p : Post g F ι objs H (makeW c fi ws objs) Q) :
    ∀ x dx, H x = none → H dx = none → dx ≠ x → spOf g fi.n fi.fm (.ref x :: vs) (upd (upd H dx (.own x)) x (.ins C dx [])) (fun v H2 => v = .non ∧ Q (.ref x) H2) E := by
  intro x dx hx hdx hne
  unfold makeW at p
  split at p
  case isFalse => exact p.elim
  rename_i hl
  split at p
  case h_2 => exact p.elim
  rename_i ds o1 hp
  obtain ⟨r1, x1, k1⟩ := pulls_ok hp r k
  have p := p.at x1
  refine ⟨by rw [← hl]; simp [k.length], ?_⟩
  have kp2 : ∀ b o, H b = some o → upd (upd H dx (.own x)) x (.ins C dx []) b = some o := fun b o e => by
    rw [upd_ne (ne_of_none e hx), upd_ne (ne_of_none e hdx)]; exact e
  have offx : ¬ Al F ι o1 x := r1.off hx
  have same : ∀ b, Al (Al F ι o1) [x] [⟨true, .ins c [] []⟩] b ↔ (Al F ι o1 b ∨ b = x) := by
    intro b
    constructor
    · rintro (z | ⟨i, u, e1, e2⟩)
      · exact .inl z
      · match i, e1 with
        | 0, e1 => simp at e1; exact .inr e1.symm
    · rintro (z | z)
      · exact .inl z
      · subst z; exact .inr ⟨0, _, rfl, rfl⟩
  have relC : Rel g (Al F ι o1) [x] (upd (upd H dx (.own x)) x (.ins C dx [])) [⟨true, .ins c [] []⟩] := by
    refine ⟨by simp, rfl, fun i b ob e1 e2 => ?_, fun b z => ⟨?_, fun q => ?_⟩⟩
    · match i, e1, e2 with
      | 0, e1, e2 =>
        simp at e1 e2
        subst e1 e2
        exact ⟨C, dx, [], hC, upd_same, rfl, by simp only [RVs]⟩
    · obtain ⟨o, e⟩ := r1.tracked z
      exact ⟨o, kp2 b o e⟩
    · rw [List.mem_singleton.mp q] at z; exact offx z
  have kd : RVs g (Al (Al F ι o1) [x] [⟨true, .ins c [] []⟩]) (upd (upd H dx (.own x)) x (.ins C dx [])) ds vs :=
    RVs.car ⟨fun b o e n => ⟨kp2 b o e, fun z => by
      rcases (same b).mp z with z | z
      · exact n z
      · rw [z, hx] at e; cases e⟩⟩ _ _ k1
  refine ⟨Al F ι o1, [x], [⟨true, .ins c [] []⟩], .o 0 :: ds.map W.v, relC, .cons ⟨x, rfl, rfl⟩ (RVs.ws kd), ?_⟩
  split at p
  case h_2 => exact p.elim
  rename_i b c' ns vs' hfm
  rw [hfm]
  split at p
  case isFalse => exact p.elim
  rename_i hcc
  subst hcc
  intro v ι' H' r' ex' k'
  have hv : v = .non := by simpa only [RW, RV] using k'
  refine ⟨hv, ?_⟩
  have e0 : ι' = [x] := by
    obtain ⟨t, rfl⟩ := ex'.pre
    have := r'.len
    simp at this
    subst this
    rfl
  subst e0
  have kp : ∀ b o, H b = some o → H' b = some o := fun b o e => ex'.keep b o (kp2 b o e) fun z => by
    obtain ⟨i, u, e1, _⟩ := z
    match i, e1 with
    | 0, e1 => simp at e1; rw [← e1, hx] at e; cases e
  obtain ⟨r2, x2⟩ := r1.grown kp
  obtain ⟨C', dx', us, q1, q2, q3, q4⟩ := r'.at_ 0 x _ rfl rfl
  refine p (.ref x) ι H' r2 x2 ?_
  exact ⟨x, C', dx', us, rfl, offx, q1, q2, q3, q4.anti fun b z => .inl z⟩
end
/-- what is known of a class of the module -/
structure ClsS (P : Program) (w : World) (K : PySem.W.Frag) (mg : Str → Option Value) (base : Heap) (k : Nat) (c : Str) (ci : CI) : Prop where
  ex : ∃ C, mg c = some (.ref C) ∧ Cls K C ∧ PySem.W.keepIn K (.ref C) = true ∧
    (∀ fi, ci.init = some fi → ∃ fI fd ps, Mk K C fI ∧ FnG P w K mg base CX0 k fI fd ps (spOf ⟨K, mg⟩ fi.n fi.fm) ∧ Binds K fd ps [] ∧ ∀ q ∈ fi.kws, ∀ (s : Shared) (u0 : Value) (us : List Value), us.length = q.1.length → BindsTo s fd ⟨[u0], q.1.zip us⟩ (ps.zip (u0 :: permL q.2 us))) ∧
    (∀ q ∈ ci.props, ∃ pa ga fd ps, PropOf K C q.1 pa ga ∧ FnG P w K mg base CX0 k ga fd ps (spOf ⟨K, mg⟩ q.2.n q.2.fm) ∧ Binds K fd ps []) ∧
    (∀ f ∈ ci.flds, NoAttr K C f)
  own : ∃ C, mg c = some (.ref C) ∧ PySem.W.findIn K (.ref C) "__class__" = some (some (.builtin "object.__class__")) ∧ PySem.W.specialIn K (.builtin "object.__class__") "__get__" = some (some (.builtin "getset_descriptor.__get__")) ∧
    PySem.W.takesIn K (.builtin "object.__class__") = some true ∧ PySem.W.mroIn K C (.type "object") = some true ∧ PySem.W.findIn K (.ref C) "__ne__" = some (some (.builtin "object.__ne__")) ∧
    (∀ T ∈ bTys, PySem.W.kitOne K (.type T) (.ref C) = some false ∧ PySem.W.notFirst K C (.type T) = true) ∧
    (∀ fi, ci.eqm = some fi → ∃ f fd ps, PySem.W.findIn K (.ref C) "__eq__" = some (some (.ref f)) ∧ PySem.W.isFn K (.ref f) = true ∧ FnG P w K mg base CX0 k f fd ps (spOf ⟨K, mg⟩ fi.n fi.fm) ∧ Binds K fd ps []) ∧
    (∀ fi, ci.lenm = some fi → ∃ f fd ps, PySem.W.findIn K (.ref C) "__len__" = some (some (.ref f)) ∧ PySem.W.isFn K (.ref f) = true ∧ FnG P w K mg base CX0 k f fd ps (spOf ⟨K, mg⟩ fi.n fi.fm) ∧ Binds K fd ps []) ∧
    (ci.tru = true → PySem.W.findIn K (.ref C) "__bool__" = some none ∧ PySem.W.findIn K (.ref C) "__len__" = some none)
  bool : ∀ fi, ci.boolm = some fi → ∃ C f fd ps, mg c = some (.ref C) ∧ PySem.W.findIn K (.ref C) "__bool__" = some (some (.ref f)) ∧ PySem.W.isFn K (.ref f) = true ∧ FnG P w K mg base CX0 k f fd ps (spOf ⟨K, mg⟩ fi.n fi.fm) ∧ Binds K fd ps []
theorem ClsS.mono {P : Program} {w : World} {K : PySem.W.Frag} {mg : Str → Option Value} {base : Heap} {j k : Nat} {c : Str} {ci : CI} (h : ClsS P w K mg base j c ci) (hj : j ≤ k) : ClsS P w K mg base k c ci :=
  let ⟨C, a1, a2, a3, a6, a4, a5⟩ := h.ex
  let ⟨C', d1, d2, d3, d4, d5, d6, d7, d8, d9, d10⟩ := h.own
  ⟨⟨C, a1, a2, a3, fun fi e => let ⟨fI, fd, ps, b1, b2, b3, b4⟩ := a6 fi e; ⟨fI, fd, ps, b1, b2.mono hj, b3, b4⟩, fun q hq => let ⟨pa, ga, fd, ps, c1, c2, c3⟩ := a4 q hq; ⟨pa, ga, fd, ps, c1, c2.mono hj, c3⟩, a5⟩,
    ⟨C', d1, d2, d3, d4, d5, d6, d7, fun fi e => let ⟨f, fd, ps, e1, e2, e3, e4⟩ := d8 fi e; ⟨f, fd, ps, e1, e2, e3.mono hj, e4⟩, fun fi e => let ⟨f, fd, ps, e1, e2, e3, e4⟩ := d9 fi e; ⟨f, fd, ps, e1, e2, e3.mono hj, e4⟩, d10⟩,
    fun fi e => let ⟨C, f, fd, ps, e0, e1, e2, e3, e4⟩ := h.bool fi e; ⟨C, f, fd, ps, e0, e1, e2, e3.mono hj, e4⟩⟩
section
variable {X : Cx} {a b c e tg iter elt : Expr} {st : Stmt} {sts sts' : List Stmt} {es : List Expr} {pos p : Pos} {ma mb mc me : ME} {ml : ML} {ms ms' : MS} {nc : MB} {gm : MG} {mi : MI}
theorem se_make {k : Nat} {x : Str} {ci : CI} {fi : FI} (hi : ci.init = some fi) (h : ClsS X.prog X.w X.K X.mg X.base k x ci) (hr : RoomG (k + 1) X.A) (hg : Gl X x) (ha : SA X (e :: es) ml) (hdb : (x == ("__debug__" : Str)) = false) (hst : (e :: es).all (fun e => !isStar e) = true) :
    SE X (.Call (.Name x p) (e :: es) [] pos) (mCall (makeW x fi) ml) := by
  obtain ⟨C, hm, hc, hk, hin, _⟩ := h.ex
  obtain ⟨fI, fd, ps, M, Fn, hb, _⟩ := hin fi hi
  have h1 : isStar e = false := by simp only [List.all_cons, Bool.and_eq_true, Bool.not_eq_true'] at hst; exact hst.1
  have h2 : es.all (fun e => !isStar e) = true := by simp only [List.all_cons, Bool.and_eq_true] at hst; exact hst.2
  refine (pe_makeG (E := E0) M Fn hr hg hm hb .nil pass0 ha hdb (star_cons h1 _) (star_none h2)).weak fun σ H Q ⟨F, ι, objs, σd, rel, sr, p⟩ => ?_
  obtain ⟨ws, o1, e1, p⟩ := p.bind
  refine ⟨F, ι, objs, σd, rel, sr, ?_⟩
  rw [e1]
  intro vs ι1 H1 rel1 ex1 r1
  rw [List.append_nil]
  exact make_ok hm rel1 r1 (p.at ex1)
theorem run_mk {CX : CXT} {k : Nat} {f C : Addr} {fd : FuncData} {ps ks : List Str} {sp : Sp} {E : XK} {pins : List (Addr × Obj)} {σ : L2.St} {H : Hp} {s : Shared} {Q : VK} {ws us' : List Value} {vs' : List V} (M : Mk X.K C f) (F : FnG X.prog X.w X.K X.mg X.base CX k f fd ps sp) (hr : RoomG (k + 1) X.A)
    (hb : ∀ (s : Shared) (u0 : Value), BindsTo s fd ⟨[u0], ks.zip ws⟩ (ps.zip (u0 :: us'))) (hx : Passes CX X E) (I : L2.Inv X pins σ H s) (r : Vals vs' us')
    (h : ∀ x dx, H x = none → H dx = none → dx ≠ x → sp (.ref x :: vs') (upd (upd H dx (.own x)) x (.ins C dx [])) (fun v H2 => v = .non ∧ Q (.ref x) H2) E) :
    wpAny (model X.prog X.w) X.A (call (.ref C) [] (ks.zip ws)) (EP X pins σ Q) X.xe s := by
  have hq := h (s.heap.objs.size + 1) s.heap.objs.size (I.hok.fresh (Nat.le_succ _)) (I.hok.fresh (Nat.le_refl _)) (Nat.ne_of_lt (Nat.lt_succ_self _))
  have I2 := Inv.made (C := C) I
  have r2 : Vals (V.ref (s.heap.objs.size + 1) :: vs') (Value.ref (s.heap.objs.size + 1) :: us') := .cons rfl r
  refine wpAny_call (make_map (f := f) I.kIn M.makes M.init (beq_iff_eq.mp M.fn) (codeAny_mono (F.run _ X.stack _ _ ⟨[Value.ref (s.heap.objs.size + 1)], ks.zip ws⟩ (Value.ref (s.heap.objs.size + 1) :: us') _ _ E (hr.make C [] (ks.zip ws))
    (I2.env0.make C [] (ks.zip ws)) (hb _ _) r2 hq) fun r s' hq' => ?_))
  cases r with
  | error e => exact hx pins σ _ _ e s' I2 hq'
  | ok fl =>
    cases fl with
    | ret u =>
      obtain ⟨v, H', I3, rv, ev, q3⟩ := I2.after hq'
      subst ev
      exact ⟨rv, ⟨V.ref (s.heap.objs.size + 1), H', I3, rfl, q3⟩⟩
    | next => exact False.elim hq'
    | brk => exact False.elim hq'
    | cont => exact False.elim hq'
def mMakeK (c : Str) (fi : FI) (π : List Nat) (n : Nat) (l : ML) : ME := fun σ o => (l σ o).bind fun ws o => if ws.length = n then makeW c fi (permL π ws) o else .stuck
theorem se_makeK {k : Nat} {x : Str} {ci : CI} {fi : FI} (hi : ci.init = some fi) {kws : List Keyword} {ks : List Str} {π : List Nat} (h : ClsS X.prog X.w X.K X.mg X.base k x ci) (hr : RoomG (k + 1) X.A) (hg : Gl X x) (hk1 : kwNames kws = some ks) (hk2 : (ks, π) ∈ fi.kws) (ha : SK X kws ml) (hdb : (x == ("__debug__" : Str)) = false) :
    SE X (.Call (.Name x p) [] kws pos) (mMakeK x fi π ks.length ml) := by
  obtain ⟨C, hm, hc, hk, hin, _⟩ := h.ex
  obtain ⟨fI, fd, ps, M, Fn, hb, hkw⟩ := hin fi hi
  obtain ⟨a1, a2, a3, a4⟩ := kw_facts (pos := pos) (env := X.env) hk1
  refine ⟨fun pins s σ H Q I ⟨F, ι, objs, σd, rel, sr, pp⟩ => ?_⟩
  refine wpAny_Call_Name_kw (ld_glob I hg hm ?_ hdb)
  refine PySem.W.callWith_KW0 (h₀ := X.base) I.ok.mod.kin hk a1 ?_ (by rw [a3]; rfl)
  obtain ⟨ws, o1, e1, pp⟩ := pp.bind
  have hq : tea (gX X) ml σ H (fun zs H2 => zs.length = ks.length ∧ ∀ x dx, H2 x = none → H2 dx = none → dx ≠ x → spOf ⟨X.K, X.mg⟩ fi.n fi.fm (.ref x :: permL π zs) (upd (upd H2 dx (.own x)) x (.ins C dx [])) (fun v H3 => v = .non ∧ Q (.ref x) H3) E0) := by
    refine ⟨F, ι, objs, σd, rel, sr, ?_⟩
    rw [e1]
    intro vs ι1 H1 rel1 ex1 r1
    have pp := pp.at ex1
    split at pp
    · rename_i hl
      exact ⟨by rw [← RWs.length r1]; exact hl, make_ok hm rel1 (permL_rel r1 π) pp⟩
    · exact pp.elim
  refine thn (ha.run pos pins s σ H _ I hq) fun us s2 ⟨zs, H2, I2, rz, hl, q2⟩ => ⟨I2.kIn, ?_⟩
  rw [a2]
  exact run_mk M Fn hr (fun s u0 => hkw _ hk2 s u0 us (by rw [← rz.length]; exact hl)) pass0 I2 (permL_rel rz π) q2
/-- e.f: a property, a field -/
def attrW (cl : List (Str × CI)) (f : Str) (w : W) (o : Objs) : R W := match w with
  | .v (.ins c ns vs) => match cl.lookup c with
    | some ci => match ci.props.lookup f with
      | some fi => callW fi [w] o
      | none => if ci.flds.contains f = true then match (ns.zip vs).lookup f with
        | some d => .ok (.v d) o
        | none => .stuck else .stuck
    | none => .stuck
  | _ => .stuck
theorem lookup_mem {α : Type} : ∀ {l : List (Str × α)} {x : Str} {a : α}, l.lookup x = some a → (x, a) ∈ l
  | [], _, _, h => by simp at h
  | (y, b) :: l, x, a, h => by
    rw [List.lookup_cons] at h
    by_cases e : (x == y) = true
    · rw [e] at h; cases h; rw [beq_iff_eq.mp e]; exact .head _
    · simp only [Bool.not_eq_true] at e; rw [e] at h; exact .tail _ (lookup_mem h)
theorem zip_rel {g : GE} {A : Addr → Prop} {H : Hp} {f : Str} {d : D} : ∀ {ns : List Str} {ds : List D} {vs : List V}, RVs g A H ds vs → (ns.zip ds).lookup f = some d → ∃ v, (ns.zip vs).lookup f = some v ∧ RV g A H d v
  | [], _, _, _, h => by simp at h
  | _ :: _, [], _, _, h => by simp at h
  | n :: ns, d' :: ds, vs, k, h => by
    simp only [RVs] at k
    obtain ⟨v, r, rfl, k1, k2⟩ := k
    rw [List.zip_cons_cons, List.lookup_cons] at h ⊢
    by_cases e : (f == n) = true
    · rw [e] at h ⊢; cases h; exact ⟨v, rfl, k1⟩
    · simp only [Bool.not_eq_true] at e; rw [e] at h ⊢; exact zip_rel k2 h
theorem se_attr {k : Nat} {cl : List (Str × CI)} {f : Str} (h : ∀ c ci, (c, ci) ∈ cl → ClsS X.prog X.w X.K X.mg X.base k c ci) (hr : RoomG (k + 1) X.A) (he : SE X e ma) (hs : notSuper e = true) : SE X (.Attribute e f pos) (mUn (attrW cl f) ma) := by
  refine ⟨fun pins s σ H Q I ⟨F, ι, objs, σd, rel, sr, p⟩ => ?_⟩
  obtain ⟨w, o1, e1, p⟩ := p.bind
  have p' := p
  unfold attrW at p
  split at p
  case h_2 => exact p.elim
  rename_i c ns ds
  split at p
  case h_2 => exact p.elim
  rename_i ci hci
  obtain ⟨C, hm, hc, hk, _, hpr, hfl⟩ := (h c ci (lookup_mem hci)).ex
  split at p
  · rename_i fi hfi
    obtain ⟨pa, ga, fd, ps, hP, Fn, hb⟩ := hpr _ (lookup_mem hfi)
    refine (pe_propG (E := E0) he hc hP Fn hr hb .nil pass0 (attr_base hs _ _ _)).run pins s σ H Q I ?_
    refine ⟨F, ι, objs, σd, rel, sr, ?_⟩
    rw [e1]
    intro v ι1 H1 rel1 ex1 r1
    have r1' := r1
    obtain ⟨a, C', dx, vs, rfl, na, q1, q2, q3, q4⟩ := r1
    have : C' = C := by have z := q1.symm.trans hm; cases z; rfl
    subst this
    exact ⟨a, dx, _, rfl, q2, call_ok rel1 (.cons r1' .nil) (p.at ex1)⟩
  · split at p
    case isFalse => exact p.elim
    rename_i hcf
    split at p
    case h_2 => exact p.elim
    rename_i d hd
    refine (pe_fld he (attr_base hs _ _ _)).run pins s σ H Q I ?_
    refine ⟨F, ι, objs, σd, rel, sr, ?_⟩
    rw [e1]
    intro v ι1 H1 rel1 ex1 r1
    obtain ⟨a, C', dx, vs, rfl, na, q1, q2, q3, q4⟩ := r1
    have : C' = C := by have z := q1.symm.trans hm; cases z; rfl
    subst this
    obtain ⟨u, l1, l2⟩ := zip_rel q4 hd
    exact ⟨a, C', dx, _, u, rfl, q2, hc, hfl f (by simpa using hcf), l1, (p.at ex1).flat rel1 l2⟩
/-- self.f = value, a new field -/
def mSetF (cl : List (Str × CI)) (f : Str) (mv mo : ME) : MS := fun σ o => (mv σ o).bind fun w o => (mo σ o).bind fun u o => match w, u with
  | .v d, .o k => match o[k]? with
    | some ⟨true, .ins c ns ds⟩ => match cl.lookup c with
      | some ci => if ci.flds.contains f = true ∧ ns.contains f = false ∧ ns.length < 1000 then .ok (.nx σ) (o.set k ⟨true, .ins c (ns ++ [f]) (ds ++ [d])⟩) else .stuck
      | none => .stuck
    | _ => .stuck
  | _, _ => .stuck
theorem putF_new {f : Str} {v : V} : ∀ {ns : List Str} {vs : List V}, ns.contains f = false → ns.length = vs.length → putF f v (ns.zip vs) = (ns ++ [f]).zip (vs ++ [v])
  | [], [], _, _ => rfl
  | n :: ns, u :: vs, h, hl => by
    simp only [List.contains_cons, Bool.or_eq_false_iff] at h
    have hn : n ≠ f := fun z => by rw [z] at h; simp at h
    simp only [List.zip_cons_cons, putF, if_neg hn, List.cons_append]
    rw [putF_new h.2 (by simpa using hl)]
  | [], _ :: _, _, hl => by simp at hl
  | _ :: _, [], _, hl => by simp at hl
theorem ss_setF {k : Nat} {cl : List (Str × CI)} {f : Str} {o v : Expr} {mo mv : ME} {pos' : Pos} (h : ∀ c ci, (c, ci) ∈ cl → ClsS X.prog X.w X.K X.mg X.base k c ci) (ho : SE X o mo) (hv : SE X v mv) (hs : swapsWith v (some (.Attribute o f pos')) pos.line X.env = pure false) :
    SS X (.Assign [.Attribute o f pos'] v pos) (mSetF cl f mv mo) := by
  refine (ps_fld ho hv hs).weak fun D σ H ⟨F, ι, objs, σd, rel, sr, p⟩ => ?_
  obtain ⟨w, o1, e1, p⟩ := p.bind
  refine ⟨F, ι, objs, σd, rel, sr, ?_⟩
  rw [e1]
  intro y ι1 H1 rel1 ex1 r1
  obtain ⟨u, o2, e2, p⟩ := (p.at ex1).bind
  refine ⟨F, ι1, o1, σd, rel1, sr.ext ex1, ?_⟩
  rw [e2]
  intro x ι2 H2 rel2 ex2 r2
  have p := p.at ex2
  cases w with
  | o _ => exact p.elim
  | v d =>
  cases u with
  | v _ => exact p.elim
  | o kk =>
  simp only at p
  split at p
  case h_2 => exact p.elim
  rename_i c ns ds hk
  split at p
  case h_2 => exact p.elim
  rename_i ci hci
  split at p
  case isFalse => exact p.elim
  rename_i hcond
  obtain ⟨C, hm, hc, hkp, _, hpr, hfl⟩ := (h c ci (lookup_mem hci)).ex
  obtain ⟨a, ha, rfl⟩ := r2
  obtain ⟨C', dx, vs, q1, q2, q3, q4⟩ := rel2.at_ _ a _ ha hk
  have : C' = C := by have z := q1.symm.trans hm; cases z; rfl
  subst this
  have hvl : ns.length = vs.length := q3.trans q4.length
  refine ⟨a, C', dx, _, rfl, q2, hc, hfl f (by simpa using hcond.1), by simp [List.length_zip, ← hvl]; exact hcond.2.2, ?_⟩
  rw [putF_new hcond.2.1 hvl]
  have exs := Ext.set (o := .ins C' dx ((ns ++ [f]).zip (vs ++ [y]))) (m' := .ins c (ns ++ [f]) (ds ++ [d])) rel2 ha hk
  refine p ι2 _ σ (rel2.set ha hk ⟨C', dx, vs ++ [y], q1, upd_same, by simp [q3], ?_⟩) exs (((sr.ext ex1).ext ex2).ext exs)
  exact (q4.ext exs).append (RVs.one (RV.ext (RV.ext r1 ex2) exs))
end
end RR

set_option maxHeartbeats 4000000
namespace RR
open PySem PySem.Spec PyProof.Rows L2
/-! ### own == and != -/
section
variable {M : Model} {prog : Program} {w : World} {A : Around} {E : Value → Shared → Prop} {s : Shared} {K : PySem.W.Frag} {x C f : Addr} {ox : Obj} {od : Option Obj} {b tb : Value}
theorem ifBound_objNe {args : List Value} {Q : Option Value → Shared → Prop} (X : K.In s.heap) (I : PySem.W.InstAt s.heap x ox C od) (hs : PySem.W.findIn K (.ref C) "__ne__" = some (some (.builtin "object.__ne__")))
    (h : wpAny M A (call (.builtin "object.__ne__") (.ref x :: args)) (fun v => Q (some v)) E s) : wpAny M A (callSpecialIfBound? (.ref x) "__ne__" args) Q E s := by
  simp only [callSpecialIfBound?, bindSpecialIfBound?]
  refine wpAny_holding (wpAny_bind (wpAny_bind (wpAny_bind (I.type.here ((PySem.W.looks_findIn X hs).here ?_)))))
  refine wpAny_bind (wpAny_askSetting (wpAny_ite ?_))
  have fin : wpAny M A (call (.builtin "object.__ne__") ([.ref x] ++ args) >>= fun v => pure (some v)) Q E s := wpAny_bind (wpAny_mono h (fun v s' h' => wpAny_pure h') fun _ _ h' => h')
  split
  · exact wpAny_bind (wpAny_of_eq (F.cmp_object.ne.bind _) (wpAny_pure (by exact fin)))
  · exact wpAny_tryCatch (wpAny_bind (wpAny_of_eq (F.cmp_object.ne.bind _) (wpAny_pure (by exact fin))))
theorem entry_ne {Q : Fin → Shared → Prop} (hu : A.units < cLine) (X : K.In s.heap) (I : PySem.W.InstAt s.heap x ox C od) (hs : PySem.W.findIn K (.ref C) "__eq__" = some (some (.ref f))) (hf : PySem.W.isFn K (.ref f) = true)
    (h : wpAny (model prog w) A (call (.ref f) [.ref x, b]) (fun v s' => ∃ k, v = .bool k ∧ Q (.done (.ret (.bool (!k)))) s') E s) : wpAny (model prog w) A (Builtin.«object.__ne__» ⟨[.ref x, b], []⟩) Q E s := by
  unfold Builtin.«object.__ne__»
  repeat (first
    | with_reducible refine wpAny_cRoomFor hu ?_
    | (refine wpAny_bind (m := callSpecialIfBound? (.ref x) (Str.ofString "__eq__") [b])
        (PySem.W.ifBound_K X I hs hf (wpAny_mono h (fun r s' hr => by
          obtain ⟨k, rfl, hq⟩ := hr
          repeat (first | exact hq | exact wpAny_pure hq | exact wpAny_truthy_bool hq | (refine wpAny_bind (m := truthy (.bool _)) (wpAny_truthy_bool ?_)) | wp_step)) fun _ _ e => e)))
    | wp_step)
theorem call_objNe {Q : Value → Shared → Prop} (hu : A.units + 1 < cLine) (X : K.In s.heap) (I : PySem.W.InstAt s.heap x ox C od) (hm : PySem.W.mroIn K C (.type "object") = some true) (hs : PySem.W.findIn K (.ref C) "__eq__" = some (some (.ref f))) (hf : PySem.W.isFn K (.ref f) = true)
    (h : wpAny (model prog w) A.in1 (call (.ref f) [.ref x, b]) (fun v s' => ∃ k, v = .bool k ∧ Q (.bool (!k)) s') E s) : wpAny (model prog w) A (call (.builtin "object.__ne__") [.ref x, b]) Q E s :=
  wpAny_call (codeAny_call_builtin F.cmp_object.ne.plain F.cmpEntry_ne (PySem.W.check_slot F.cmpKind_ne F.cmpSplit_ne (I.type.andThen (PySem.W.looks_mroIn X hm)) (F.cmpArgs_ne _ _) (entry_ne (A := A.in1) hu X I hs hf (wpAny_mono h (fun v s' hv => by
    obtain ⟨k, rfl, hq⟩ := hv
    exact ⟨k, rfl, hq⟩) fun _ _ e => e))))
theorem ne_K {Q : Value → Shared → Prop} (hu : A.units + 1 < cLine) (X : K.In s.heap) (I : PySem.W.InstAt s.heap x ox C od) (hb : PySem.W.Looks (model prog w) s.heap (typeOf b) tb) (hn : PySem.W.notFirst K C tb = true)
    (hm : PySem.W.mroIn K C (.type "object") = some true) (hne : PySem.W.findIn K (.ref C) "__ne__" = some (some (.builtin "object.__ne__"))) (hs : PySem.W.findIn K (.ref C) "__eq__" = some (some (.ref f))) (hf : PySem.W.isFn K (.ref f) = true)
    (h : wpAny (model prog w) A.in1 (call (.ref f) [.ref x, b]) (fun v s' => ∃ k, v = .bool k ∧ Q (.bool (!k)) s') E s) : wpAny (model prog w) A (richCompare .NotEq (.ref x) b) Q E s := by
  have one : wpAny (model prog w) A (tryCompare (.ref x) "__ne__" b) (fun r s' => ∃ v, r = some v ∧ Q v s') E s := by
    unfold tryCompare
    refine wpAny_bind (ifBound_objNe X I hne (call_objNe hu X I hm hs hf (wpAny_mono h (fun v s' hv => ?_) fun _ _ e => e)))
    obtain ⟨k, rfl, hq⟩ := hv
    exact ⟨k, rfl, wpAny_pure ⟨_, rfl, hq⟩⟩
  unfold richCompare
  simp only [oneThing_ref]
  refine wpAny_holding (wpAny_bind (wpAny_cRoomFor (Nat.lt_of_succ_lt hu) ?_))
  refine wpAny_bind (I.type.here (wpAny_bind (hb.here ?_)))
  rw [cmpInfo_NotEq]
  dsimp only
  split
  · rename_i q
    have e : PySem.W.subIn K tb (.ref C) = some false := by
      rcases Bool.or_eq_true_iff.mp hn with e | e
      · rw [beq_iff_eq.mp e] at q; simp at q
      · exact beq_iff_eq.mp e
    refine wpAny_bind ((PySem.W.looks_subIn X e).here ?_)
    simp only [Bool.false_eq_true, if_false]
    refine wpAny_bind (wpAny_mono one (fun r s' z => ?_) fun _ _ e => e)
    obtain ⟨v, rfl, hq⟩ := z
    exact wpAny_pure hq
  · refine wpAny_bind (wpAny_pure ?_)
    simp only [Bool.false_eq_true, if_false]
    refine wpAny_bind (wpAny_mono one (fun r s' z => ?_) fun _ _ e => e)
    obtain ⟨v, rfl, hq⟩ := z
    exact wpAny_pure hq
end
/-! ### isinstance, ==, != over own classes -/
/-- own class of the first one, own class asked for, the answer -/
abbrev KT := List ((Str × Str) × Bool)
def KtS (K : PySem.W.Frag) (mg : Str → Option Value) (kt : KT) : Prop := ∀ q b, (q, b) ∈ kt → ∃ C' C, mg q.1 = some (.ref C') ∧ mg q.2 = some (.ref C) ∧ PySem.W.kitOne K (.ref C') (.ref C) = some b
def insW (o : Objs) : W → Option Str
  | .v (.ins c _ _) => some c
  | .o i => match o[i]? with
    | some ⟨_, .ins c _ _⟩ => some c
    | _ => none
  | _ => none
def isiC (cl : List (Str × CI)) (kt : KT) (a b : W) (o : Objs) : R W := match b with
  | .v (.glo c) => match cl.lookup c with
    | some _ => match insW o a with
      | some c' => match cl.lookup c' with
        | some _ => match kt.lookup (c', c) with
          | some k => .ok (.v (.bl k)) o
          | none => .stuck
        | none => .stuck
      | none => match tyW o a with
        | some _ => .ok (.v (.bl false)) o
        | none => .stuck
    | none => .stuck
  | b => isiW a b o
theorem tyW_b {o : Objs} {w : W} {n : String} (h : tyW o w = some n) : n ∈ bTys := by
  cases w with
  | v d => cases d <;> simp only [tyW, tyD, Option.some.injEq, reduceCtorEq] at h <;> subst h <;> simp [bTys]
  | o i =>
    simp only [tyW] at h
    split at h <;> first | (cases h; simp [bTys]) | cases h
section
variable {X : Cx} {k : Nat} {cl : List (Str × CI)} {kt : KT}
theorem insW_ok {F : Addr → Prop} {ι : List Addr} {objs : Objs} {H : Hp} {w : W} {v : V} {c : Str} (rel : Rel (gX X) F ι H objs) (k : RW (gX X) ι (Al F ι objs) H w v) (h : insW objs w = some c) : ∃ a C dx fs, v = .ref a ∧ X.mg c = some (.ref C) ∧ H a = some (.ins C dx fs) := by
  cases w with
  | v d =>
    cases d <;> simp only [insW, Option.some.injEq, reduceCtorEq] at h
    subst h
    obtain ⟨a, C, dx, vs, rfl, na, q1, q2, q3, q4⟩ := k
    exact ⟨a, C, dx, _, rfl, q1, q2⟩
  | o i =>
    simp only [insW] at h
    split at h
    · rename_i hs
      cases h
      obtain ⟨a, ha, rfl⟩ := k
      obtain ⟨C, dx, vs, q1, q2, q3, q4⟩ := rel.at_ _ a _ ha hs
      exact ⟨a, C, dx, _, rfl, q1, q2⟩
    · cases h
theorem ClsS.ty {c : Str} {ci : CI} {C a dx : Addr} {fs : List (Str × V)} {H : Hp} (h : ClsS X.prog X.w X.K X.mg X.base k c ci) (hm : X.mg c = some (.ref C)) (e : H a = some (.ins C dx fs)) : TyX X.K H (.ref a) (.ref C) := by
  obtain ⟨C1, a1, a2, a3, _⟩ := h.ex
  obtain ⟨C2, d1, d2, d3, d4, d5, _⟩ := h.own
  have e1 : C1 = C := by have z := a1.symm.trans hm; cases z; rfl
  have e2 : C2 = C := by have z := d1.symm.trans hm; cases z; rfl
  subst e1 e2
  exact .base (.ins e a2 d2 d3 d4 d5)
theorem cb_isiC (hcl : ∀ c ci, (c, ci) ∈ cl → ClsS X.prog X.w X.K X.mg X.base k c ci) (hkt : KtS X.K X.mg kt) : CallR X (.builtin "isinstance") (rWc (gX X) (on2 (isiC cl kt))) := by
  have old := cb_isi (X := X)
  intro pins s σ H xs us Q I r ⟨F, ι, objs, ws, rel, kk, p⟩
  match ws, p with
  | [], p => exact p.elim
  | [_], p => exact p.elim
  | _ :: _ :: _ :: _, p => exact p.elim
  | [w, z], p =>
    obtain ⟨x, y, rfl, k1, k2⟩ := paired2 kk
    have p : Post (gX X) F ι objs H (isiC cl kt w z objs) Q := p
    have go : Post (gX X) F ι objs H (isiW w z objs) Q → wpAny (model X.prog X.w) X.A (call (.builtin "isinstance") us) (EP X pins σ Q) X.xe s := fun p => old pins s σ H _ us Q I r ⟨F, ι, objs, [w, z], rel, kk, p⟩
    unfold isiC at p
    rename_i p0
    clear p0
    split at p
    · rename_i c
      split at p
      case h_2 => exact p.elim
      rename_i ci hci
      obtain ⟨C, hm, rfl⟩ := k2
      have S := hcl c ci (lookup_mem hci)
      split at p
      · rename_i c' hc'
        split at p
        case h_2 => exact p.elim
        rename_i ci' hci'
        split at p
        case h_2 => exact p.elim
        rename_i b hb
        obtain ⟨a, C', dx, fs, rfl, m', e⟩ := insW_ok rel k1 hc'
        obtain ⟨D', D, n1, n2, n3⟩ := hkt _ _ (by
          have gen : ∀ {l : KT} {q : Str × Str} {b : Bool}, l.lookup q = some b → (q, b) ∈ l := by
            intro l q b
            induction l with
            | nil => intro h; simp at h
            | cons y l ih =>
              obtain ⟨y, b'⟩ := y
              intro h
              rw [List.lookup_cons] at h
              by_cases e : (q == y) = true
              · rw [e] at h; cases h; rw [eq_of_beq e]; exact .head _
              · simp only [Bool.not_eq_true] at e; rw [e] at h; exact .tail _ (ih h)
          exact gen hb)
        have e1 : D' = C' := by have z := n1.symm.trans m'; cases z; rfl
        have e2 : D = C := by have z := n2.symm.trans hm; cases z; rfl
        subst e1 e2
        exact call_isi pins s σ H _ us Q I r ⟨_, _, _, _, b, rfl, .own _, (hcl c' ci' (lookup_mem hci')).ty m' e, n3, p.flat rel (by simp only [RV])⟩
      · split at p
        case h_2 => exact p.elim
        rename_i n hn
        obtain ⟨C2, d1, d2, d3, d4, d5, d6, d7, _⟩ := S.own
        have e2 : C2 = C := by have z := d1.symm.trans hm; cases z; rfl
        subst e2
        exact call_isi pins s σ H _ us Q I r ⟨_, _, _, _, false, rfl, .own _, tyW_ok rel k1 hn, (d7 n (tyW_b hn)).1, p.flat rel (by simp only [RV])⟩
    · exact go p
end
end RR

set_option maxHeartbeats 4000000
namespace RR
open PySem PySem.Spec PyProof.Rows L2
/-- a == b, a an own instance with an own == : the def's answer -/
def ownEq (cl : List (Str × CI)) (neg : Bool) (c : Str) (a b : W) (o : Objs) : R W := match cl.lookup c with
  | some ci => match ci.eqm with
    | some fi => if insW o b = some c ∨ (insW o b = none ∧ (tyW o b).isSome = true) then (callW fi [a, b] o).bind fun r o => match r with
        | .v (.bl k) => .ok (.v (.bl (if neg then !k else k))) o
        | _ => .stuck else .stuck
    | none => .stuck
  | none => .stuck
def eqC (cl : List (Str × CI)) (a b : W) (o : Objs) : R W := match insW o a with
  | some c => ownEq cl false c a b o
  | none => eqW a b o
def neC (cl : List (Str × CI)) (a b : W) (o : Objs) : R W := match insW o a with
  | some c => ownEq cl true c a b o
  | none => neW a b o
section
variable {X : Cx} {k : Nat} {cl : List (Str × CI)}
theorem ownEq_core (hcl : ∀ c ci, (c, ci) ∈ cl → ClsS X.prog X.w X.K X.mg X.base k c ci) {neg : Bool} {c : Str} {a b : W} {objs : Objs} {F : Addr → Prop} {ι : List Addr} {H : Hp} {Q : VK} {x y : V} {u v : Value} {pins : List (Addr × Obj)} {σ : L2.St} {s : Shared} (I : L2.Inv X pins σ H s) (rel : Rel (gX X) F ι H objs)
    (rx : RelV x u) (ry : RelV y v) (k1 : RW (gX X) ι (Al F ι objs) H a x) (k2 : RW (gX X) ι (Al F ι objs) H b y) (hc : insW objs a = some c) (p : Post (gX X) F ι objs H (ownEq cl neg c a b objs) Q) :
    ∃ (ax C dx : Addr) (fs : List (Str × V)) (tb : Value) (f : Addr) (fd : FuncData) (ps : List Str) (fi : FI), x = .ref ax ∧ H ax = some (.ins C dx fs) ∧ PySem.W.Looks (model X.prog X.w) s.heap (typeOf v) tb ∧ PySem.W.notFirst X.K C tb = true ∧ PySem.W.mroIn X.K C (.type "object") = some true ∧
      PySem.W.findIn X.K (.ref C) "__ne__" = some (some (.builtin "object.__ne__")) ∧ PySem.W.findIn X.K (.ref C) "__eq__" = some (some (.ref f)) ∧ PySem.W.isFn X.K (.ref f) = true ∧ FnG X.prog X.w X.K X.mg X.base CX0 k f fd ps (spOf ⟨X.K, X.mg⟩ fi.n fi.fm) ∧ Binds X.K fd ps [] ∧
      spOf ⟨X.K, X.mg⟩ fi.n fi.fm [x, y] H (fun r H' => ∃ kb, r = .bl kb ∧ Q (.bl (if neg then !kb else kb)) H') E0 := by
  unfold ownEq at p
  split at p
  case h_2 => exact p.elim
  rename_i ci hci
  split at p
  case h_2 => exact p.elim
  rename_i fi hfi
  split at p
  case isFalse => exact p.elim
  rename_i hb
  have S := hcl c ci (lookup_mem hci)
  obtain ⟨C1, a1, a2, a3, _⟩ := S.ex
  obtain ⟨C, d1, d2, d3, d4, d5, d6, d7, d8, _⟩ := S.own
  obtain ⟨f, fd, ps, e1, e2, e3, e4⟩ := d8 fi hfi
  obtain ⟨ax, C', dx, fs, rfl, m', ea⟩ := insW_ok rel k1 hc
  have z1 : C' = C := by have z := m'.symm.trans d1; cases z; rfl
  subst z1
  have tb : ∃ tb, PySem.W.Looks (model X.prog X.w) s.heap (typeOf v) tb ∧ PySem.W.notFirst X.K C' tb = true := by
    rcases hb with hb | ⟨hb, hb2⟩
    · obtain ⟨ay, C2, dy, gs, rfl, m2, eb⟩ := insW_ok rel k2 hb
      have z1 : C2 = C' := by have z := m2.symm.trans d1; cases z; rfl
      subst z1
      cases ry
      obtain ⟨mB, J', _⟩ := ins_get I.hok eb
      obtain ⟨od', J', _⟩ := J'.look
      exact ⟨.ref C2, J'.type, by simp [PySem.W.notFirst]⟩
    · obtain ⟨n, hn⟩ := Option.isSome_iff_exists.mp hb2
      obtain ⟨P, kx, hp, _⟩ := kit_of I ry (tyW_ok rel k2 hn)
      exact ⟨.type n, kx.ty _ _ I.kIn hp, (d7 n (tyW_b hn)).2⟩
  obtain ⟨tb, t1, t2⟩ := tb
  refine ⟨ax, C', dx, fs, tb, f, fd, ps, fi, rfl, ea, t1, t2, d5, d6, e1, e2, e3, e4, ?_⟩
  obtain ⟨w, o1, ew, p⟩ := p.bind
  refine call_ok (ws := [a, b]) rel (.cons k1 (.cons k2 .nil)) ?_
  rw [ew]
  intro r ι' H' rel' ex' kr
  cases w with
  | o _ => exact p.elim
  | v d =>
    cases d <;> first | exact p.elim | skip
    rename_i kb
    have hr : r = .bl kb := by simpa only [RW, RV] using kr
    exact ⟨kb, hr, p (.bl (if neg then !kb else kb)) ι' H' rel' ex' (by simp only [RW, RV])⟩
theorem or_eqC (hcl : ∀ c ci, (c, ci) ∈ cl → ClsS X.prog X.w X.K X.mg X.base k c ci) (hr : RoomG (k + 1) X.A) (hu : X.A.units + 64 < cLine) : OpR X (compareOp .Eq) (rW2 (gX X) (eqC cl)) := by
  intro pins s σ H x y u v Q I rx ry ⟨F, ι, objs, w1, w2, rel, k1, k2, p⟩
  unfold eqC at p
  split at p
  case h_2 => exact or_eq hu pins s σ H x y u v Q I rx ry ⟨F, ι, objs, w1, w2, rel, k1, k2, p⟩
  rename_i c hc
  obtain ⟨ax, C, dx, fs, tb, f, fd, ps, fi, rfl, ea, t1, t2, d5, d6, e1, e2, Fn, hb, hsp⟩ := ownEq_core hcl I rel rx ry k1 k2 hc p
  cases rx
  obtain ⟨mA, J, _⟩ := ins_get I.hok ea
  obtain ⟨od, J, _⟩ := J.look
  obtain ⟨m, hF⟩ := I.fr
  show wpAny (model X.prog X.w) X.A (richCompare .Eq (.ref ax) v) (EP X pins σ Q) X.xe s
  refine PySem.W.cmp_K (op := .Eq) (tb := tb) (hr.mono (Nat.le_succ k)).units0 hF I.ok.mod.kin J t1 t2 e1 e2 ?_
  have hl := Fn.len _ _ _ _ hsp
  have r2 : Vals [V.ref ax, y] [Value.ref ax, v] := .cons rfl (.cons ry .nil)
  refine wpAny_call (codeAny_mono (Fn.run X.A X.stack s H ⟨[.ref ax, v], []⟩ [.ref ax, v] [.ref ax, y] _ E0 (hr.mono (Nat.le_succ k)) I.env0 (by
    have := hb s [.ref ax, v] I.kIn (by simpa using hl)
    simpa using this) r2 hsp) fun r s' hq => ?_)
  cases r with
  | error e => exact pass0 pins σ H s e s' I hq
  | ok fl =>
    cases fl with
    | ret w =>
      obtain ⟨z, H', I', rz, kb, ez, q⟩ := I.after hq
      subst ez
      cases rz
      exact ⟨.bl kb, H', I', rfl, q⟩
    | next => exact False.elim hq
    | brk => exact False.elim hq
    | cont => exact False.elim hq
theorem or_neC (hcl : ∀ c ci, (c, ci) ∈ cl → ClsS X.prog X.w X.K X.mg X.base k c ci) (hr : RoomG (k + 1) X.A) (hu : X.A.units + 64 < cLine) : OpR X (compareOp .NotEq) (rW2 (gX X) (neC cl)) := by
  intro pins s σ H x y u v Q I rx ry ⟨F, ι, objs, w1, w2, rel, k1, k2, p⟩
  unfold neC at p
  split at p
  case h_2 => exact or_ne hu pins s σ H x y u v Q I rx ry ⟨F, ι, objs, w1, w2, rel, k1, k2, p⟩
  rename_i c hc
  obtain ⟨ax, C, dx, fs, tb, f, fd, ps, fi, rfl, ea, t1, t2, d5, d6, e1, e2, Fn, hb, hsp⟩ := ownEq_core hcl I rel rx ry k1 k2 hc p
  cases rx
  obtain ⟨mA, J, _⟩ := ins_get I.hok ea
  obtain ⟨od, J, _⟩ := J.look
  show wpAny (model X.prog X.w) X.A (richCompare .NotEq (.ref ax) v) (EP X pins σ Q) X.xe s
  refine ne_K (tb := tb) (by omega) I.kIn J t1 t2 d5 d6 e1 e2 ?_
  have hl := Fn.len _ _ _ _ hsp
  have r2 : Vals [V.ref ax, y] [Value.ref ax, v] := .cons rfl (.cons ry .nil)
  refine wpAny_call (codeAny_mono (Fn.run X.A.in1 X.stack s H ⟨[.ref ax, v], []⟩ [.ref ax, v] [.ref ax, y] _ E0 hr.in1 I.env0.in1 (by
    have := hb s [.ref ax, v] I.kIn (by simpa using hl)
    simpa using this) r2 hsp) fun r s' hq => ?_)
  cases r with
  | error e => exact (pass0 pins σ H s e s' I hq : X.xe e s')
  | ok fl =>
    cases fl with
    | ret w =>
      obtain ⟨z, H', I', rz, kb, ez, q⟩ := I.after hq
      subst ez
      cases rz
      exact ⟨kb, rfl, .bl (!kb), H', I', rfl, q⟩
    | next => exact False.elim hq
    | brk => exact False.elim hq
    | cont => exact False.elim hq
end
end RR

set_option maxHeartbeats 4000000
namespace RR
open PySem PySem.Spec PyProof.Rows L2
/-! ### repr, bool -/
def reprW (a : W) (o : Objs) : R W :=
  if (pyW o a).canLay0 = true ∧ (pyW o a).showable = true ∧ (pyW o a).depth < 60 ∧ (pyW o a).shown.length ≤ sizeLine then .ok (.v (.str (pyW o a).shown)) o else .stuck
section
variable {X : Cx}
theorem cb_repr (hg : X.A.guards = some []) (hu : X.A.units + 64 < cLine) : CallR X (.builtin "repr") (rWc (gX X) (on1 reprW)) := by
  refine cr_on1 fun pins s σ H x us Q F ι objs w I r rel k p => ?_
  obtain ⟨u, rfl, rx⟩ := vals1 r
  unfold reprW at p
  split at p
  case isFalse => exact p.elim
  rename_i hc
  obtain ⟨h1, h2, h3, h4⟩ := hc
  have dp := k.dp rel h1
  obtain ⟨as, rd⟩ := Dp.reads I _ _ _ dp rx
  have hq := p.flat rel (v := .str (pyW objs w).shown) (by simp only [RV])
  generalize pyW objs w = d at *
  cases rd with
  | none => exact PySem.P.repr_of_none ⟨.str _, H, I.tok _, ⟨_, rfl⟩, hq⟩
  | bool b =>
    refine PySem.P.repr_of_bool ⟨.str _, H, I.tok _, ⟨_, rfl⟩, ?_⟩
    cases b <;> exact hq
  | int i t => exact PySem.P.repr_of_int (by simpa [PyData.showable] using h2) ⟨.str _, H, I.tok _, ⟨_, rfl⟩, hq⟩
  | str y t => exact PySem.P.repr_of_str ⟨.str _, H, I.tok _, ⟨_, rfl⟩, hq⟩ h4
  | list e1 e2 e3 e4 => exact repr_of_reads' (.list e1 e2 e3 e4) h2 (PyData.noDict_hsm (PyData.hasDict_of_canLay _ h1)) hg (by omega) (fun _ _ e => e) (fun h' u tk kk => ⟨.str _, H, I.kept kk, ⟨_, rfl⟩, hq⟩) h4
  | tuple e1 e2 e3 e4 => exact repr_of_reads' (.tuple e1 e2 e3 e4) h2 (PyData.noDict_hsm (PyData.hasDict_of_canLay _ h1)) hg (by omega) (fun _ _ e => e) (fun h' u tk kk => ⟨.str _, H, I.kept kk, ⟨_, rfl⟩, hq⟩) h4
  | dict e1 e2 e3 e4 e5 => simp [PyData.canLay0] at h1
end
/-- bool of an own instance without an own truth or length; of a number; of a list -/
def boolW (cl : List (Str × CI)) (a : W) (o : Objs) : R W := match a with
  | .v (.int i) => .ok (.v (.bl (i != 0))) o
  | .v (.bl b) => .ok (.v (.bl b)) o
  | a => match insW o a with
    | some c => match cl.lookup c with
      | some ci => if ci.tru = true then .ok (.v (.bl true)) o else .stuck
      | none => .stuck
    | none => .stuck
section
variable {M : Model} {A : Around} {E : Value → Shared → Prop} {s : Shared} {K : PySem.W.Frag} {x C : Addr} {ox : Obj} {od : Option Obj}
theorem truthy_ins {Q : Bool → Shared → Prop} (X : K.In s.heap) (I : PySem.W.InstAt s.heap x ox C od) (hs : PySem.W.findIn K (.ref C) "__bool__" = some none) (hl : PySem.W.findIn K (.ref C) "__len__" = some none)
    (h : Q true s) : wpAny M A (truthy (.ref x)) Q E s := by
  unfold truthy
  refine wpAny_bind (m := callSpecial? (.ref x) (Str.ofString "__bool__")) (wpAny_bind (wpAny_bind (I.type.here ?_)))
  refine (PySem.W.looks_findIn X hs).here (wpAny_pure (wpAny_bind (wpAny_bind (I.type.here ?_))))
  exact (PySem.W.looks_findIn X hl).here (wpAny_pure h)
theorem meets_bool_K (a C : Addr) (ox : Obj) (K : PySem.W.Frag) (hs : PySem.W.findIn K (.ref C) "__bool__" = some none) (hl : PySem.W.findIn K (.ref C) "__len__" = some none) :
    Meets (Builtin.«bool.__new__» ⟨[.type "bool", .ref a], []⟩) (fun _ R s => (K.In s.heap ∧ ∃ od, PySem.W.InstAt s.heap a ox C od) ∧ R (.ok (.ret (.bool true))) s) :=
  Meets.of_wp fun prog w A R s hz => by
    obtain ⟨⟨k, od, i⟩, hz⟩ := hz
    obtain ⟨hp, g, d, tk, os⟩ := s
    have f1 := F.conv_sub_bool
    repeat (any_goals (first | assumption | (with_reducible refine truthy_ins k i hs hl ?_) | wp_step))
    all_goals first | exact ⟨_, rfl, hz⟩ | exact hz | skip
end
section
variable {X : Cx} {k : Nat} {cl : List (Str × CI)}
theorem ct_bool (hcl : ∀ c ci, (c, ci) ∈ cl → ClsS X.prog X.w X.K X.mg X.base k c ci) : CallR X (.type "bool") (rWc (gX X) (on1 (boolW cl))) := by
  refine cr_on1 fun pins s σ H x us Q F ι objs w I r rel kk p => ?_
  unfold boolW at p
  split at p
  · simp only [RW, RV] at kk; subst kk
    exact call_bool1 pins s σ H _ us Q I r (.inl ⟨_, rfl, p.flat rel (by simp only [RV])⟩)
  · simp only [RW, RV] at kk; subst kk
    exact call_bool1 pins s σ H _ us Q I r (.inr ⟨_, rfl, p.flat rel (by simp only [RV])⟩)
  · split at p
    case h_2 => exact p.elim
    rename_i c hc
    split at p
    case h_2 => exact p.elim
    rename_i ci hci
    split at p
    case isFalse => exact p.elim
    rename_i ht
    obtain ⟨C, d1, d2, d3, d4, d5, d6, d7, d8, d9, d10⟩ := (hcl c ci (lookup_mem hci)).own
    obtain ⟨t1, t2⟩ := d10 ht
    obtain ⟨ax, C', dx, fs, rfl, m', ea⟩ := insW_ok rel kk hc
    have z1 : C' = C := by have z := m'.symm.trans d1; cases z; rfl
    subst z1
    obtain rfl := Vals.ref1 r
    obtain ⟨mA, J, _⟩ := ins_get I.hok ea
    obtain ⟨od, J, _⟩ := J.look
    exact call_bool_1 (meets_bool_K ax C' _ X.K t1 t2) ⟨⟨I.kIn, _, J⟩, rfl, ⟨.bl true, H, I, rfl, p.flat rel (by simp only [RV])⟩⟩
/-- len, of an own instance too -/
def lenC (cl : List (Str × CI)) (a : W) (o : Objs) : R W := match insW o a with
  | some c => match cl.lookup c with
    | some ci => match ci.lenm with
      | some fi => (callW fi [a] o).bind fun r o => match r with
        | .v (.int n) => if 0 ≤ n ∧ n < 2 ^ 63 then .ok (.v (.int n)) o else .stuck
        | _ => .stuck
      | none => .stuck
    | none => .stuck
  | none => lenW a o
theorem cb_lenC (hcl : ∀ c ci, (c, ci) ∈ cl → ClsS X.prog X.w X.K X.mg X.base k c ci) (hr : RoomG (k + 1) X.A) : CallR X (.builtin "len") (rWc (gX X) (on1 (lenC cl))) := by
  refine cr_on1 fun pins s σ H x us Q F ι objs w I r rel kk p => ?_
  unfold lenC at p
  split at p
  case h_2 => exact cb_len pins s σ H _ us Q I r ⟨F, ι, objs, [w], rel, .cons kk .nil, p⟩
  rename_i c hc
  split at p
  case h_2 => exact p.elim
  rename_i ci hci
  split at p
  case h_2 => exact p.elim
  rename_i fi hfi
  obtain ⟨C, d1, d2, d3, d4, d5, d6, d7, d8, d9, d10⟩ := (hcl c ci (lookup_mem hci)).own
  obtain ⟨f, fd, ps, e1, e2, Fn, hb⟩ := d9 fi hfi
  obtain ⟨ax, C', dx, fs, rfl, m', ea⟩ := insW_ok rel kk hc
  have z1 : C' = C := by have z := m'.symm.trans d1; cases z; rfl
  subst z1
  obtain rfl := Vals.ref1 r
  obtain ⟨mA, J, _⟩ := ins_get I.hok ea
  obtain ⟨od, J, _⟩ := J.look
  obtain ⟨m, hF⟩ := I.fr
  obtain ⟨wr, o1, ew, p⟩ := p.bind
  have hsp : spOf ⟨X.K, X.mg⟩ fi.n fi.fm [.ref ax] H (fun r H' => ∃ n : Int, r = .int n ∧ (0 ≤ n ∧ n < 2 ^ 63) ∧ Q (.int n) H') E0 := by
    refine call_ok (ws := [w]) rel (.cons kk .nil) ?_
    rw [ew]
    intro r ι' H' rel' ex' kr
    cases wr with
    | o _ => exact p.elim
    | v d =>
      cases d <;> first | exact p.elim | skip
      rename_i n
      simp only at p
      split at p
      case isFalse => exact p.elim
      rename_i hn
      have hrn : r = .int n := by simpa only [RW, RV] using kr
      exact ⟨n, hrn, hn, p (.int n) ι' H' rel' ex' (by simp only [RW, RV])⟩
  refine PySem.W.len_K hF I.ok.mod.kin J e1 e2 ?_
  have hl := Fn.len _ _ _ _ hsp
  have r2 : Vals [V.ref ax] [Value.ref ax] := .cons rfl .nil
  refine wpAny_call (codeAny_mono (Fn.run X.A.in1 X.stack s H ⟨[.ref ax], []⟩ [.ref ax] [.ref ax] _ E0 hr.in1 I.env0.in1 (by
    have := hb s [.ref ax] I.kIn (by simpa using hl)
    simpa using this) r2 hsp) fun r s' hq => ?_)
  cases r with
  | error e => exact (pass0 pins σ H s e s' I hq : X.xe e s')
  | ok fl =>
    cases fl with
    | ret w =>
      obtain ⟨z, H', I', rz, n, ez, hn, q⟩ := I.after hq
      subst ez
      obtain ⟨t, rfl⟩ := rz
      exact ⟨hn, .int n, H', I'.tok _, ⟨_, rfl⟩, q⟩
    | next => exact False.elim hq
    | brk => exact False.elim hq
    | cont => exact False.elim hq
end
end RR

set_option maxHeartbeats 4000000
/-! ### == of two tuples whose parts may be own instances -/
namespace RRT
open PySem PySem.SeqAt
open AutoSeq1 (wpAny_loadPart')
open MeetsSeq MeetsSeq2 MeetsSeq3 SeqRoads2
section
variable {prog : Program} {w : World} {A : Around} {R : Result → Shared → Prop}
theorem tuple_eqG (l b : Addr) (items items2 : Array Value) (n n2 : Nat) (dd dd2 : Option Addr) (sl sl2 : Array (Option Value)) (hsz : items.size = items2.size) (I : Nat → Shared → Prop)
    (turn : ∀ i (h1 : i < items.size) (h2 : i < items2.size) s, I i s → wpAny (model prog w) A.in1 (eqBool items[i] items2[i]) (fun r s' => (r = true ∧ I (i + 1) s') ∨ (r = false ∧ R (.ok (.ret (.bool false))) s')) (fun e s' => R (.error e) s') s)
    (fin : ∀ s, I items.size s → R (.ok (.ret (.bool true))) s) {s : Shared} (hl1 : s.heap.get? l = some { cls := .type "tuple", dict := dd, data := .seq items n, slots := sl }) (hb1 : s.heap.get? b = some { cls := .type "tuple", dict := dd2, data := .seq items2 n2, slots := sl2 }) (h : I 0 s) :
    wpAny (model prog w) A.in1 (Builtin.«tuple.__eq__» ⟨[.ref l, .ref b], []⟩) (GQ.FinOf prog w A R) (fun e s' => R (.error e) s') s := by
  have f2 := AutoSeq1.sub_tuple_tuple
  have hZ : (items.toList.zip items2.toList).length = items.size := by simp [hsz]
  have h0 := h
  obtain ⟨hp, g, d, tk, os⟩ := s
  wp_walk using wpAny_loadPart' hl1, wpAny_loadPart' hb1, wpAny_forIn_list _ (fun rest b s' => b.1 = none ∧ ∃ i, rest = (items.toList.zip items2.toList).drop i ∧ i ≤ items.size ∧ I i s') _
  case turn =>
    rintro ⟨y, x⟩ rest b s' ⟨hb', i, hz, hi, hI⟩
    have hlt : i < (items.toList.zip items2.toList).length := by
      rcases Nat.lt_or_ge i (items.toList.zip items2.toList).length with h' | h'
      · exact h'
      · rw [List.drop_of_length_le h'] at hz; cases hz
    have h1 : i < items.size := hZ ▸ hlt
    have h2 : i < items2.size := hsz ▸ h1
    rw [List.drop_eq_getElem_cons hlt] at hz
    injection hz with hyx hrest
    have hy : y = items[i] := by have := congrArg Prod.fst hyx; simpa using this
    have hx : x = items2[i] := by have := congrArg Prod.snd hyx; simpa using this
    subst hy hx
    refine wpAny_bind (wpAny_mono (turn i h1 h2 s' hI) (fun r s2 q2 => ?_) fun _ _ x => x)
    rcases q2 with ⟨hr, q2⟩ | ⟨hr, q2⟩
    · subst hr
      wp_walk
      exact ⟨rfl, i + 1, hrest, h1, q2⟩
    · subst hr
      wp_walk
      exact q2
  case fin =>
    rintro ⟨b1, b2⟩ s' ⟨hb', i, hz, hi, hI⟩
    simp only at hb'
    subst hb'
    have hge : items.size ≤ i := by
      rcases Nat.lt_or_ge i (items.toList.zip items2.toList).length with h' | h'
      · rw [List.drop_eq_getElem_cons h'] at hz; cases hz
      · exact hZ ▸ h'
    have hi' : i = items.size := by omega
    have hR : R (.ok (.ret (.bool true))) s' := fin s' (hi' ▸ hI)
    wp_walk
    simpa [Builtin.Tuple.tupleCompareSizes, hsz] using hR
  case h =>
    exact ⟨rfl, 0, rfl, Nat.zero_le _, h0⟩
end
section
variable {prog : Program} {w : World} {A : Around} {E : Value → Shared → Prop} {s : Shared}
theorem rc_tupG {l b : Addr} {items items2 : Array Value} {Q : Value → Shared → Prop} (hsz : items.size = items2.size) (hu : A.units < cLine) (I : Nat → Shared → Prop)
    (hl : s.heap.IsTuple l items) (hb : s.heap.IsTuple b items2)
    (turn : ∀ i (h1 : i < items.size) (h2 : i < items2.size) s, I i s → wpAny (model prog w) A.in1 (eqBool items[i] items2[i]) (fun r s' => (r = true ∧ I (i + 1) s') ∨ (r = false ∧ Q (.bool false) s')) E s)
    (fin : ∀ s, I items.size s → Q (.bool true) s) (h : I 0 s) : wpAny (model prog w) A (richCompare .Eq (.ref l) (.ref b)) Q E s := by
  obtain ⟨⟨cls, dd, data, sl⟩, ho, hc, n, hd⟩ := id hl
  obtain ⟨⟨cls2, dd2, data2, sl2⟩, ho2, hc2, n2, hd2⟩ := id hb
  simp only at hc hd hc2 hd2
  subst hc hd hc2 hd2
  refine wpAny_richCompare_same_room (op := .Eq) ⟨_, ho, rfl⟩ ⟨_, ho2, rfl⟩ F.slot_tuple_eq (GQ.call_here F.slot_tuple_eq ⟨_, ho, rfl⟩ F.entry_tuple_eq (F.args_tuple_eq_2 _ _) ?_) hu
  exact tuple_eqG (R := wants (fun v s' => v ≠ .notImplemented ∧ Q v s') E) l b items items2 n n2 dd dd2 sl sl2 hsz I (fun i h1 h2 s hi => wpAny_mono (turn i h1 h2 s hi) (fun r s' q => q.elim .inl fun z => .inr ⟨z.1, (fun x => nomatch x), z.2⟩) fun _ _ x => x) (fun s' q => ⟨(fun x => nomatch x), fin s' q⟩) ho ho2 h
end
end RRT
namespace RR
open PySem PySem.Spec PyProof.Rows L2
mutual
/-- numbers, texts, truth values, None, tuples and lists of such -/
def plainD : D → Bool
  | .non => true
  | .bl _ => true
  | .int _ => true
  | .str _ => true
  | .tup xs => plainDs xs
  | .lst xs => plainDs xs
  | _ => false
def plainDs : List D → Bool
  | [] => true
  | d :: ds => plainD d && plainDs ds
end
section
variable {g : GE} {A A' : Addr → Prop} {H : Hp}
mutual
theorem RV.uniq : ∀ (d d' : D) (v : V), plainD d = true → plainD d' = true → RV g A H d v → RV g A H d' v → d = d'
  | .non, d', v, _, h', r, r' => by
    simp only [RV] at r; subst r
    cases d' <;> simp only [plainD, Bool.false_eq_true] at h' <;> simp only [RV, reduceCtorEq] at r' <;> first | rfl | (obtain ⟨_, _, e, _⟩ := r'; cases e)
  | .bl b, d', v, _, h', r, r' => by
    simp only [RV] at r; subst r
    cases d' <;> simp only [plainD, Bool.false_eq_true] at h' <;> simp only [RV, reduceCtorEq] at r' <;> first | (cases r'; rfl) | (obtain ⟨_, _, e, _⟩ := r'; cases e)
  | .int b, d', v, _, h', r, r' => by
    simp only [RV] at r; subst r
    cases d' <;> simp only [plainD, Bool.false_eq_true] at h' <;> simp only [RV, reduceCtorEq] at r' <;> first | (cases r'; rfl) | (obtain ⟨_, _, e, _⟩ := r'; cases e)
  | .str b, d', v, _, h', r, r' => by
    simp only [RV] at r; subst r
    cases d' <;> simp only [plainD, Bool.false_eq_true] at h' <;> simp only [RV, reduceCtorEq] at r' <;> first | (cases r'; rfl) | (obtain ⟨_, _, e, _⟩ := r'; cases e)
  | .tup xs, d', v, h, h', r, r' => by
    simp only [RV] at r
    obtain ⟨a, vs, rfl, _, e, k⟩ := r
    simp only [plainD] at h
    cases d' <;> simp only [plainD, Bool.false_eq_true] at h' <;> simp only [RV, reduceCtorEq] at r'
    · obtain ⟨a', vs', e1, _, e2, k'⟩ := r'
      cases e1
      have := e.symm.trans e2
      simp only [Option.some.injEq, HO.tup.injEq] at this
      subst this
      rw [RVs.uniq xs _ vs h h' k k']
    · obtain ⟨a', vs', e1, _, e2, k'⟩ := r'
      cases e1
      have := e.symm.trans e2
      cases this
  | .lst xs, d', v, h, h', r, r' => by
    simp only [RV] at r
    obtain ⟨a, vs, rfl, _, e, k⟩ := r
    simp only [plainD] at h
    cases d' <;> simp only [plainD, Bool.false_eq_true] at h' <;> simp only [RV, reduceCtorEq] at r'
    · obtain ⟨a', vs', e1, _, e2, k'⟩ := r'
      cases e1
      have := e.symm.trans e2
      cases this
    · obtain ⟨a', vs', e1, _, e2, k'⟩ := r'
      cases e1
      have := e.symm.trans e2
      simp only [Option.some.injEq, HO.lst.injEq] at this
      subst this
      rw [RVs.uniq xs _ vs h h' k k']
  | .scr _, _, _, h, _, _, _ => by simp [plainD] at h
  | .dic _ _, _, _, h, _, _, _ => by simp [plainD] at h
  | .ins _ _ _, _, _, h, _, _, _ => by simp [plainD] at h
  | .ty _, _, _, h, _, _, _ => by simp [plainD] at h
  | .glo _, _, _, h, _, _, _ => by simp [plainD] at h
theorem RVs.uniq : ∀ (ds ds' : List D) (vs : List V), plainDs ds = true → plainDs ds' = true → RVs g A H ds vs → RVs g A H ds' vs → ds = ds'
  | [], ds', vs, _, _, r, r' => by
    simp only [RVs] at r; subst r
    cases ds' with
    | nil => rfl
    | cons d ds => simp only [RVs] at r'; obtain ⟨_, _, e, _⟩ := r'; cases e
  | d :: ds, ds', vs, h, h', r, r' => by
    simp only [RVs] at r
    obtain ⟨v, rs, rfl, k1, k2⟩ := r
    simp only [plainDs, Bool.and_eq_true] at h
    cases ds' with
    | nil => simp only [RVs] at r'; cases r'
    | cons d' ds' =>
      simp only [RVs] at r'
      obtain ⟨v', rs', e, k1', k2'⟩ := r'
      cases e
      simp only [plainDs, Bool.and_eq_true] at h'
      rw [RV.uniq d d' v h.1 h'.1 k1 k1', RVs.uniq ds ds' rs h.2 h'.2 k2 k2']
end
end
/-- two instances that surely are not the same -/
def difI (ns : List Str) (vs : List D) (ns' : List Str) (vs' : List D) : Bool := match vs, vs' with
  | [p], [p'] => decide (ns = ns') && decide (ns.length = 1) && plainD p && plainD p' && SeqAt.shaped (py p) && !PyData.eqv (py p) (py p')
  | _, _ => false
/-- (i, ..) == (j, ..), i and j own instances of one class, the rest plain -/
def eqTup (cl : List (Str × CI)) (a b : W) (o : Objs) : R W := match a, b with
  | .v (.tup (.ins c ns vs :: xs)), .v (.tup (.ins c' ns' vs' :: ys)) => match cl.lookup c with
    | some ci => match ci.eqm with
      | some fi => if c' = c ∧ xs.length = ys.length ∧ fi.n = 2 ∧ fi.mt = false ∧ SeqAt.shaped (py (.tup xs)) = true ∧ SeqAt.shaped (py (.tup ys)) = true then
          (match fi.fm [.v (.ins c ns vs), .v (.ins c' ns' vs')] [] with
            | .ok (.v (.bl true)) [] => .ok (.v (.bl (PyData.eqv (py (.tup xs)) (py (.tup ys))))) o
            | .ok (.v (.bl false)) [] => if difI ns vs ns' vs' = true then .ok (.v (.bl false)) o else .stuck
            | _ => .stuck)
        else .stuck
      | none => .stuck
    | none => .stuck
  | _, _ => .stuck
def headI : W → Bool
  | .v (.tup (.ins _ _ _ :: _)) => true
  | _ => false
def eqY (cl : List (Str × CI)) (a b : W) (o : Objs) : R W := if headI a = true ∧ headI b = true then eqTup cl a b o else eqC cl a b o
theorem eqvAll_at {ps qs : List PyData} (hl : ps.length = qs.length) (h : PyData.eqvAll ps qs = false ∨ PyData.eqvAll ps qs = true) : (PyData.eqvAll ps qs = true ↔ ∀ i (h1 : i < ps.length) (h2 : i < qs.length), PyData.eqv ps[i] qs[i] = true) := by
  induction ps generalizing qs with
  | nil =>
    cases qs with
    | nil => exact ⟨fun _ i h1 => by simp at h1, fun _ => by simp [PyData.eqvAll]⟩
    | cons q qs => simp at hl
  | cons p ps ih =>
    cases qs with
    | nil => simp at hl
    | cons q qs =>
      have e : PyData.eqvAll (p :: ps) (q :: qs) = (PyData.eqv p q && PyData.eqvAll ps qs) := by simp [PyData.eqvAll]
      rw [e, Bool.and_eq_true, ih (by simpa using hl) (by cases PyData.eqvAll ps qs <;> simp)]
      constructor
      · rintro ⟨h1, h2⟩ i
        cases i with
        | zero => exact fun _ _ => h1
        | succ i => exact fun h3 h4 => h2 i (by simpa using h3) (by simpa using h4)
      · intro h
        exact ⟨h 0 (by simp) (by simp), fun i h1 h2 => h (i + 1) (by simpa using h1) (by simpa using h2)⟩
theorem pys_get (xs : List D) : pys xs = xs.map py := by
  induction xs with
  | nil => rfl
  | cons x xs ih => simp only [pys, ih, List.map_cons]
theorem depthAll_le {ps : List PyData} {i : Nat} (h : i < ps.length) : ps[i].depth ≤ PyData.depthAll ps := by
  induction ps generalizing i with
  | nil => simp at h
  | cons p ps ih =>
    simp only [PyData.depthAll]
    cases i with
    | zero => exact Nat.le_max_left _ _
    | succ i => exact Nat.le_trans (ih (by simpa using h)) (Nat.le_max_right _ _)
theorem layAll_at {ps : List PyData} {i : Nat} (h : i < ps.length) (hc : PyData.canLayAll0 ps = true) : ps[i].canLay0 = true := by
  induction ps generalizing i with
  | nil => simp at h
  | cons p ps ih =>
    simp only [PyData.canLayAll0, Bool.and_eq_true] at hc
    cases i with
    | zero => exact hc.1
    | succ i => exact ih (by simpa using h) hc.2
theorem RVs.at {g : GE} {A : Addr → Prop} {H : Hp} : ∀ {ds : List D} {vs : List V} {i : Nat} {d : D} {v : V}, RVs g A H ds vs → ds[i]? = some d → vs[i]? = some v → RV g A H d v
  | [], _, _, _, _, _, h, _ => by simp at h
  | e :: ds, vs, i, d, v, r, h, h' => by
    simp only [RVs] at r
    obtain ⟨u, rs, rfl, k1, k2⟩ := r
    cases i with
    | zero => simp at h h'; subst h; subst h'; exact k1
    | succ i => exact RVs.at k2 (by simpa using h) (by simpa using h')
theorem Vals.at : ∀ {vs : List V} {us : List Value} {i : Nat} {v : V} {u : Value}, Vals vs us → vs[i]? = some v → us[i]? = some u → RelV v u
  | _, _, i, _, _, .nil, h, _ => by simp at h
  | _, _, i, _, _, .cons k ks, h, h' => by
    cases i with
    | zero => simp at h h'; subst h; subst h'; exact k
    | succ i => exact Vals.at ks (by simpa using h) (by simpa using h')
section
variable {X : Cx} {k : Nat} {cl : List (Str × CI)}
theorem or_eqY (hcl : ∀ c ci, (c, ci) ∈ cl → ClsS X.prog X.w X.K X.mg X.base k c ci) (hr : RoomG (k + 1) X.A) (hu : X.A.units + 64 < cLine) : OpR X (compareOp .Eq) (rW2 (gX X) (eqY cl)) := by
  intro pins s σ H x y u v Q I rx ry ⟨F, ι, objs, w1, w2, rel, k1, k2, p⟩
  unfold eqY at p
  split at p
  case isFalse => exact or_eqC hcl hr hu pins s σ H x y u v Q I rx ry ⟨F, ι, objs, w1, w2, rel, k1, k2, p⟩
  unfold eqTup at p
  split at p
  case h_2 => exact p.elim
  rename_i c ns vs xs c' ns' vs' ys hh
  split at p
  case h_2 => exact p.elim
  rename_i ci hci
  split at p
  case h_2 => exact p.elim
  rename_i fi hfi
  split at p
  case isFalse => exact p.elim
  rename_i hc
  obtain ⟨rfl, hlen, hn, hm, sh1, sh2⟩ := hc
  -- the answer of the own ==
  obtain ⟨kb, hfm, p⟩ : ∃ kb : Bool, fi.fm [.v (.ins c' ns vs), .v (.ins c' ns' vs')] [] = .ok (.v (.bl kb)) [] ∧ Post (gX X) F ι objs H (if kb = true then .ok (.v (.bl (PyData.eqv (py (.tup xs)) (py (.tup ys))))) objs else if difI ns vs ns' vs' = true then .ok (.v (.bl false)) objs else .stuck) Q := by
    split at p
    · rename_i e; exact ⟨true, e, p⟩
    · rename_i e; exact ⟨false, e, p⟩
    · exact p.elim
  have hcall : ∀ o : Objs, callW fi [.v (.ins c' ns vs), .v (.ins c' ns' vs')] o = .ok (.v (.bl kb)) o := fun o => by
    simp only [callW, List.length_cons, List.length_nil, hn, if_true, hm, pulls_v, pulls_nil, List.map_cons, List.map_nil, hfm, backC]
  simp only [RW] at k1 k2
  have k1' := k1
  have k2' := k2
  simp only [RV] at k1 k2
  obtain ⟨l, tv, rfl, _, hl, kl⟩ := k1
  obtain ⟨b, tv2, rfl, _, hb, kb2⟩ := k2
  simp only [RVs] at kl kb2
  obtain ⟨v1, r1, rfl, i1, t1⟩ := kl
  obtain ⟨v2, r2, rfl, i2, t2⟩ := kb2
  have q1 := i1
  have q2 := i2
  simp only [RV] at q1 q2
  obtain ⟨a1, C1, dx1, fv1, rfl, _, m1, ha1, ln1, fr1⟩ := q1
  obtain ⟨a2, C2, dx2, fv2, rfl, _, m2, ha2, ln2, fr2⟩ := q2
  cases rx
  cases ry
  obtain ⟨its, z1, e1, _⟩ := I.tuple (SqT.of hl)
  obtain ⟨its2, z2, e2, _⟩ := I.tuple (SqT.of hb)
  have hsz : its.toArray.size = its2.toArray.size := by
    rw [List.size_toArray, List.size_toArray, ← z1.length, ← z2.length]
    simp [← t1.length, ← t2.length, hlen]
  have hL : its.length = xs.length + 1 := by rw [← z1.length]; simp [← t1.length]
  have lay1 : PyData.canLayAll0 (pys xs) = true := by have := SeqAt.canLay_of_shaped sh1; simpa [py, PyData.canLay0] using this
  have lay2 : PyData.canLayAll0 (pys ys) = true := by have := SeqAt.canLay_of_shaped sh2; simpa [py, PyData.canLay0] using this
  have dep1 : PyData.depthAll (pys xs) ≤ 63 := by have := SeqAt.depth_of_shaped sh1; simp only [py, PyData.depth] at this; omega
  have evE : PyData.eqv (py (.tup xs)) (py (.tup ys)) = PyData.eqvAll (pys xs) (pys ys) := by simp [py, PyData.eqv]
  rw [evE] at p
  show wpAny (model X.prog X.w) X.A (richCompare .Eq (.ref l) (.ref b)) (EP X pins σ Q) X.xe s
  -- the state between
  refine RRT.rc_tupG hsz (by omega) (fun i s' => (i = 0 → s' = s) ∧ ∃ ι' H', Inv X pins σ H' s' ∧ Rel (gX X) F ι' H' objs ∧ Ext ι objs H ι' objs H' ∧ (0 < i → kb = true) ∧ ∀ j, j + 1 < i → ∀ (h1 : j < (pys xs).length) (h2 : j < (pys ys).length), PyData.eqv (pys xs)[j] (pys ys)[j] = true) e1 e2 ?_ ?_ ⟨fun _ => rfl, ι, H, I, rel, .refl, fun z => absurd z (by omega), fun j hj => absurd hj (by omega)⟩
  · intro i h1 h2 s' ⟨hs0, ι', H', I', rel', ex', hkb, hal⟩
    simp only [List.size_toArray] at h1 h2
    simp only [List.getElem_toArray]
    cases i with
    | zero =>
      have := hs0 rfl
      subst this
      have hi1 : its[0] = .ref a1 := by
        cases z1 with
        | cons k ks => cases k; rfl
      have hi2 : its2[0] = .ref a2 := by
        cases z2 with
        | cons k ks => cases k; rfl
      rw [hi1, hi2]
      by_cases hab : a1 = a2
      · subst hab
        -- the same instance
        have hk : kb = true := by
          cases kb with
          | true => rfl
          | false =>
            exfalso
            simp only [Bool.false_eq_true, if_false] at p
            split at p
            case isFalse => exact p.elim
            rename_i hd
            unfold difI at hd
            split at hd
            case h_2 => cases hd
            rename_i p1 p2
            simp only [Bool.and_eq_true, decide_eq_true_eq, Bool.not_eq_true'] at hd
            obtain ⟨⟨⟨⟨⟨rfl, hn1⟩, pl1⟩, pl2⟩, sh⟩, ne⟩ := hd
            have hz := ha1.symm.trans ha2
            simp only [Option.some.injEq, HO.ins.injEq] at hz
            have fl1 := fr1.length
            have fl2 := fr2.length
            have hv : fv1 = fv2 := by
              match ns, fv1, fv2, hn1, fl1, fl2 with
              | [n], [x1], [x2], _, _, _ => simpa using hz.2.2
            subst hv
            have := RVs.uniq [p1] [p2] fv1 (by simp [plainDs, pl1]) (by simp [plainDs, pl2]) fr1 fr2
            simp only [List.cons.injEq, and_true] at this
            subst this
            rw [SeqAt.eqv_refl _ (SeqAt.canLay_of_shaped sh)] at ne
            cases ne
        exact SeqAt.EqAt.same (A := X.A.in1) (s := s') (.ref a1) X.prog X.w X.xe _ (.inl ⟨rfl, fun z => by omega, ι', H', I', rel', ex', fun _ => hk, fun j hj => absurd hj (by omega)⟩)
      · refine GQ.eqBool_refG hab ?_
        -- the own ==
        have pown : Post (gX X) F ι objs H (ownEq cl false c' (.v (.ins c' ns vs)) (.v (.ins c' ns' vs')) objs) (fun r H' => r = .bl kb ∧ ∃ ι', Rel (gX X) F ι' H' objs ∧ Ext ι objs H ι' objs H') := by
          have e : ownEq cl false c' (.v (.ins c' ns vs)) (.v (.ins c' ns' vs')) objs = .ok (.v (.bl kb)) objs := by
            have hin : insW objs (.v (.ins c' ns' vs')) = some c' := rfl
            simp only [ownEq, hci, hfi, hin, true_or, if_true, hcall, R.bind_ok, Bool.false_eq_true, if_false]
          rw [e]
          intro r ι2 H2 rel2 ex2 kr
          simp only [RW, RV] at kr
          exact ⟨kr, ι2, rel2, ex2⟩
        obtain ⟨ax, C, dx, fs, tb, f, fd, ps, fi', ex1, ea, tt1, tt2, d5, d6, ee1, ee2, Fn, hbd, hsp⟩ := ownEq_core hcl I rel (x := .ref a1) (y := .ref a2) (u := .ref a1) (v := .ref a2) rfl rfl (a := .v (.ins c' ns vs)) (b := .v (.ins c' ns' vs')) i1 i2 rfl pown
        cases ex1
        obtain ⟨mA, J, _⟩ := ins_get I.hok ea
        obtain ⟨od, J, _⟩ := J.look
        obtain ⟨m, hF⟩ := I.fr
        refine PySem.W.cmp_K (op := .Eq) (tb := tb) (by show X.A.in1.units < cLine; simp only [Around.in1]; omega) hF I.ok.mod.kin J tt1 tt2 ee1 ee2 ?_
        have hl' := Fn.len _ _ _ _ hsp
        have r2 : Vals [V.ref a1, V.ref a2] [Value.ref a1, Value.ref a2] := .cons rfl (.cons rfl .nil)
        refine wpAny_call (codeAny_mono (Fn.run X.A.in1 X.stack s' H ⟨[.ref a1, .ref a2], []⟩ [.ref a1, .ref a2] [.ref a1, .ref a2] _ E0 hr.in1 I.env0.in1 (by
          have := hbd s' [.ref a1, .ref a2] I.kIn (by simpa using hl')
          simpa using this) r2 hsp) fun r s'' hq => ?_)
        cases r with
        | error e => exact (pass0 pins σ H s' e s'' I hq : X.xe e s'')
        | ok fl =>
          cases fl with
          | ret w =>
            obtain ⟨z, H2, I2, rz, kb', ez, hz, ι2, rel2, ex2⟩ := I.after hq
            subst ez
            simp only [Bool.false_eq_true, if_false] at hz
            cases hz
            cases rz
            refine ⟨kb, rfl, ?_⟩
            cases kb with
            | true => exact .inl ⟨rfl, fun z => by omega, ι2, H2, I2, rel2, ex2, fun _ => rfl, fun j hj => absurd hj (by omega)⟩
            | false =>
              refine .inr ⟨rfl, .bl false, H2, I2, rfl, ?_⟩
              simp only [Bool.false_eq_true, if_false] at p
              split at p
              case isFalse => exact p.elim
              exact p (.bl false) ι2 H2 rel2 ex2 (by simp only [RW, RV])
          | next => exact False.elim hq
          | brk => exact False.elim hq
          | cont => exact False.elim hq
    | succ i =>
      have hk := hkb (by omega)
      subst hk
      simp only [if_true] at p
      have hi1 : i < xs.length := by omega
      have hi2 : i < ys.length := by omega
      have tr1 := t1.ext ex'
      have tr2 := t2.ext ex'
      have g1 : r1[i]? = some (r1[i]'(by rw [← t1.length]; exact hi1)) := List.getElem?_eq_getElem _
      have g2 : r2[i]? = some (r2[i]'(by rw [← t2.length]; exact hi2)) := List.getElem?_eq_getElem _
      have rv1 := RVs.at tr1 (List.getElem?_eq_getElem hi1) g1
      have rv2 := RVs.at tr2 (List.getElem?_eq_getElem hi2) g2
      have ru1 := Vals.at (i := i + 1) z1 (show (V.ref a1 :: r1)[i + 1]? = _ from g1) (List.getElem?_eq_getElem h1)
      have ru2 := Vals.at (i := i + 1) z2 (show (V.ref a2 :: r2)[i + 1]? = _ from g2) (List.getElem?_eq_getElem h2)
      have pl1 : i < (pys xs).length := by rw [pys_get]; simpa using hi1
      have pl2 : i < (pys ys).length := by rw [pys_get]; simpa using hi2
      have pe1 : (pys xs)[i] = py xs[i] := by simp [pys_get]
      have pe2 : (pys ys)[i] = py ys[i] := by simp [pys_get]
      have c1 := layAll_at pl1 lay1
      have c2 := layAll_at pl2 lay2
      have dd1 := depthAll_le pl1
      rw [pe1] at c1 dd1
      rw [pe2] at c2
      obtain ⟨as1, rd1⟩ := Dp.reads I' _ _ _ (RV.dp _ _ rv1 c1) ru1
      obtain ⟨as2, rd2⟩ := Dp.reads I' _ _ _ (RV.dp _ _ rv2 c2) ru2
      have hmin : min (py xs[i]).depth (py ys[i]).depth ≤ (py xs[i]).depth := Nat.min_le_left _ _
      refine SeqAt.eqAt_reads _ _ X.A.in1 s' _ _ _ _ rd1 rd2 c1 c2 (by simp only [Around.in1]; omega) X.prog X.w X.xe _ ?_
      cases hv : PyData.eqv (py xs[i]) (py ys[i]) with
      | true =>
        refine .inl ⟨rfl, fun z => by omega, ι', H', I', rel', ex', fun _ => rfl, fun j hj g1 g2 => ?_⟩
        by_cases hji : j = i
        · subst hji; rw [pe1, pe2]; exact hv
        · exact hal j (by omega) g1 g2
      | false =>
        refine .inr ⟨rfl, .bl false, H', I', rfl, ?_⟩
        have hf : PyData.eqvAll (pys xs) (pys ys) = false := by
          cases ha : PyData.eqvAll (pys xs) (pys ys) with
          | false => rfl
          | true =>
            have := (eqvAll_at (by rw [pys_get, pys_get]; simpa using hlen) (.inr ha)).mp ha i pl1 pl2
            rw [pe1, pe2, hv] at this
            cases this
        rw [hf] at p
        exact p (.bl false) ι' H' rel' ex' (by simp only [RW, RV])
  · intro s' ⟨_, ι', H', I', rel', ex', hkb, hal⟩
    simp only [List.size_toArray] at hkb hal
    have hk := hkb (by omega)
    subst hk
    simp only [if_true] at p
    have hf : PyData.eqvAll (pys xs) (pys ys) = true := by
      refine (eqvAll_at (by rw [pys_get, pys_get]; simpa using hlen) (by cases PyData.eqvAll (pys xs) (pys ys) <;> simp)).mpr fun i h1 h2 => hal i ?_ h1 h2
      have h3 : i < (xs.map py).length := by rw [← pys_get]; exact h1
      rw [List.length_map] at h3
      omega
    rw [hf] at p
    exact ⟨.bl true, H', I', rfl, p (.bl true) ι' H' rel' ex' (by simp only [RW, RV])⟩
end
end RR

set_option maxHeartbeats 4000000
namespace RR
open PySem PySem.Spec PyProof.Rows L2
theorem kt_mem {l : KT} {q : Str × Str} {b : Bool} : l.lookup q = some b → (q, b) ∈ l := by
  induction l with
  | nil => intro h; simp at h
  | cons y l ih =>
    obtain ⟨y, b'⟩ := y
    intro h
    rw [List.lookup_cons] at h
    by_cases e : (q == y) = true
    · rw [e] at h; cases h; rw [eq_of_beq e]; exact .head _
    · simp only [Bool.not_eq_true] at e; rw [e] at h; exact .tail _ (ih h)
theorem kit_notFirst {K : PySem.W.Frag} {C C' : Addr} (h : PySem.W.kitOne K (.ref C') (.ref C) = some false) : PySem.W.notFirst K C (.ref C') = true := by
  unfold PySem.W.kitOne at h
  split at h
  · cases h
  · unfold PySem.W.kitCls at h
    simp only at h
    split at h
    · unfold PySem.W.notFirst
      rw [h]; simp
    · cases h
/-- a == b, b an instance of another own class -/
def ownEq2 (cl : List (Str × CI)) (kt : KT) (neg : Bool) (c c2 : Str) (a b : W) (o : Objs) : R W := match cl.lookup c with
  | some ci => match ci.eqm with
    | some fi => if insW o b = some c2 ∧ kt.lookup (c2, c) = some false then (callW fi [a, b] o).bind fun r o => match r with
        | .v (.bl k) => .ok (.v (.bl (if neg then !k else k))) o
        | _ => .stuck else .stuck
    | none => .stuck
  | none => .stuck
/-- two instances of unlike own classes -/
def unlk (o : Objs) (a b : W) : Option (Str × Str) := match insW o a, insW o b with
  | some c, some c2 => if c = c2 then none else some (c, c2)
  | _, _ => none
def eqZ (cl : List (Str × CI)) (kt : KT) (a b : W) (o : Objs) : R W := match unlk o a b with
  | some (c, c2) => ownEq2 cl kt false c c2 a b o
  | none => eqY cl a b o
def neZ (cl : List (Str × CI)) (kt : KT) (a b : W) (o : Objs) : R W := match unlk o a b with
  | some (c, c2) => ownEq2 cl kt true c c2 a b o
  | none => neC cl a b o
theorem unlk_inv {o : Objs} {a b : W} {c c2 : Str} (h : unlk o a b = some (c, c2)) : insW o a = some c := by
  unfold unlk at h
  split at h
  · rename_i h1 h2
    split at h
    · cases h
    · simp only [Option.some.injEq, Prod.mk.injEq] at h
      rw [h1, h.1]
  · cases h
section
variable {X : Cx} {k : Nat} {cl : List (Str × CI)} {kt : KT}
theorem ownEq2_core (hcl : ∀ c ci, (c, ci) ∈ cl → ClsS X.prog X.w X.K X.mg X.base k c ci) (hkt : KtS X.K X.mg kt) {neg : Bool} {c c2 : Str} {a b : W} {objs : Objs} {F : Addr → Prop} {ι : List Addr} {H : Hp} {Q : VK} {x y : V} {u v : Value} {pins : List (Addr × Obj)} {σ : L2.St} {s : Shared} (I : L2.Inv X pins σ H s) (rel : Rel (gX X) F ι H objs)
    (rx : RelV x u) (ry : RelV y v) (k1 : RW (gX X) ι (Al F ι objs) H a x) (k2 : RW (gX X) ι (Al F ι objs) H b y) (hc : insW objs a = some c) (p : Post (gX X) F ι objs H (ownEq2 cl kt neg c c2 a b objs) Q) :
    ∃ (ax C dx : Addr) (fs : List (Str × V)) (tb : Value) (f : Addr) (fd : FuncData) (ps : List Str) (fi : FI), x = .ref ax ∧ H ax = some (.ins C dx fs) ∧ PySem.W.Looks (model X.prog X.w) s.heap (typeOf v) tb ∧ PySem.W.notFirst X.K C tb = true ∧ PySem.W.mroIn X.K C (.type "object") = some true ∧
      PySem.W.findIn X.K (.ref C) "__ne__" = some (some (.builtin "object.__ne__")) ∧ PySem.W.findIn X.K (.ref C) "__eq__" = some (some (.ref f)) ∧ PySem.W.isFn X.K (.ref f) = true ∧ FnG X.prog X.w X.K X.mg X.base CX0 k f fd ps (spOf ⟨X.K, X.mg⟩ fi.n fi.fm) ∧ Binds X.K fd ps [] ∧
      spOf ⟨X.K, X.mg⟩ fi.n fi.fm [x, y] H (fun r H' => ∃ kb, r = .bl kb ∧ Q (.bl (if neg then !kb else kb)) H') E0 := by
  unfold ownEq2 at p
  split at p
  case h_2 => exact p.elim
  rename_i ci hci
  split at p
  case h_2 => exact p.elim
  rename_i fi hfi
  split at p
  case isFalse => exact p.elim
  rename_i hb
  have S := hcl c ci (lookup_mem hci)
  obtain ⟨C1, a1, a2, a3, _⟩ := S.ex
  obtain ⟨C, d1, d2, d3, d4, d5, d6, d7, d8, _⟩ := S.own
  obtain ⟨f, fd, ps, e1, e2, e3, e4⟩ := d8 fi hfi
  obtain ⟨ax, C', dx, fs, rfl, m', ea⟩ := insW_ok rel k1 hc
  have z1 : C' = C := by have z := m'.symm.trans d1; cases z; rfl
  subst z1
  have tb : ∃ tb, PySem.W.Looks (model X.prog X.w) s.heap (typeOf v) tb ∧ PySem.W.notFirst X.K C' tb = true := by
    obtain ⟨ay, C2, dy, gs, rfl, m2, eb⟩ := insW_ok rel k2 hb.1
    cases ry
    obtain ⟨mB, J', _⟩ := ins_get I.hok eb
    obtain ⟨od', J', _⟩ := J'.look
    obtain ⟨D', D, n1, n2, n3⟩ := hkt _ _ (kt_mem hb.2)
    have y1 : D' = C2 := by have z := n1.symm.trans m2; cases z; rfl
    have y2 : D = C' := by have z := n2.symm.trans d1; cases z; rfl
    subst y1 y2
    exact ⟨.ref D', J'.type, kit_notFirst n3⟩
  obtain ⟨tb, t1, t2⟩ := tb
  refine ⟨ax, C', dx, fs, tb, f, fd, ps, fi, rfl, ea, t1, t2, d5, d6, e1, e2, e3, e4, ?_⟩
  obtain ⟨w, o1, ew, p⟩ := p.bind
  refine call_ok (ws := [a, b]) rel (.cons k1 (.cons k2 .nil)) ?_
  rw [ew]
  intro r ι' H' rel' ex' kr
  cases w with
  | o _ => exact p.elim
  | v d =>
    cases d <;> first | exact p.elim | skip
    rename_i kb
    have hr : r = .bl kb := by simpa only [RW, RV] using kr
    exact ⟨kb, hr, p (.bl (if neg then !kb else kb)) ι' H' rel' ex' (by simp only [RW, RV])⟩
theorem or_eqZ (hcl : ∀ c ci, (c, ci) ∈ cl → ClsS X.prog X.w X.K X.mg X.base k c ci) (hkt : KtS X.K X.mg kt) (hr : RoomG (k + 1) X.A) (hu : X.A.units + 64 < cLine) : OpR X (compareOp .Eq) (rW2 (gX X) (eqZ cl kt)) := by
  intro pins s σ H x y u v Q I rx ry ⟨F, ι, objs, w1, w2, rel, k1, k2, p⟩
  unfold eqZ at p
  split at p
  case h_2 => exact or_eqY hcl hr hu pins s σ H x y u v Q I rx ry ⟨F, ι, objs, w1, w2, rel, k1, k2, p⟩
  rename_i c c2 hcc
  have hc := unlk_inv hcc
  obtain ⟨ax, C, dx, fs, tb, f, fd, ps, fi, rfl, ea, t1, t2, d5, d6, e1, e2, Fn, hb, hsp⟩ := ownEq2_core hcl hkt I rel rx ry k1 k2 hc p
  cases rx
  obtain ⟨mA, J, _⟩ := ins_get I.hok ea
  obtain ⟨od, J, _⟩ := J.look
  obtain ⟨m, hF⟩ := I.fr
  show wpAny (model X.prog X.w) X.A (richCompare .Eq (.ref ax) v) (EP X pins σ Q) X.xe s
  refine PySem.W.cmp_K (op := .Eq) (tb := tb) (hr.mono (Nat.le_succ k)).units0 hF I.ok.mod.kin J t1 t2 e1 e2 ?_
  have hl := Fn.len _ _ _ _ hsp
  have r2 : Vals [V.ref ax, y] [Value.ref ax, v] := .cons rfl (.cons ry .nil)
  refine wpAny_call (codeAny_mono (Fn.run X.A X.stack s H ⟨[.ref ax, v], []⟩ [.ref ax, v] [.ref ax, y] _ E0 (hr.mono (Nat.le_succ k)) I.env0 (by
    have := hb s [.ref ax, v] I.kIn (by simpa using hl)
    simpa using this) r2 hsp) fun r s' hq => ?_)
  cases r with
  | error e => exact pass0 pins σ H s e s' I hq
  | ok fl =>
    cases fl with
    | ret w =>
      obtain ⟨z, H', I', rz, kb, ez, q⟩ := I.after hq
      subst ez
      cases rz
      exact ⟨.bl kb, H', I', rfl, q⟩
    | next => exact False.elim hq
    | brk => exact False.elim hq
    | cont => exact False.elim hq
theorem or_neZ (hcl : ∀ c ci, (c, ci) ∈ cl → ClsS X.prog X.w X.K X.mg X.base k c ci) (hkt : KtS X.K X.mg kt) (hr : RoomG (k + 1) X.A) (hu : X.A.units + 64 < cLine) : OpR X (compareOp .NotEq) (rW2 (gX X) (neZ cl kt)) := by
  intro pins s σ H x y u v Q I rx ry ⟨F, ι, objs, w1, w2, rel, k1, k2, p⟩
  unfold neZ at p
  split at p
  case h_2 => exact or_neC hcl hr hu pins s σ H x y u v Q I rx ry ⟨F, ι, objs, w1, w2, rel, k1, k2, p⟩
  rename_i c c2 hcc
  have hc := unlk_inv hcc
  obtain ⟨ax, C, dx, fs, tb, f, fd, ps, fi, rfl, ea, t1, t2, d5, d6, e1, e2, Fn, hb, hsp⟩ := ownEq2_core hcl hkt I rel rx ry k1 k2 hc p
  cases rx
  obtain ⟨mA, J, _⟩ := ins_get I.hok ea
  obtain ⟨od, J, _⟩ := J.look
  show wpAny (model X.prog X.w) X.A (richCompare .NotEq (.ref ax) v) (EP X pins σ Q) X.xe s
  refine ne_K (tb := tb) (by omega) I.kIn J t1 t2 d5 d6 e1 e2 ?_
  have hl := Fn.len _ _ _ _ hsp
  have r2 : Vals [V.ref ax, y] [Value.ref ax, v] := .cons rfl (.cons ry .nil)
  refine wpAny_call (codeAny_mono (Fn.run X.A.in1 X.stack s H ⟨[.ref ax, v], []⟩ [.ref ax, v] [.ref ax, y] _ E0 hr.in1 I.env0.in1 (by
    have := hb s [.ref ax, v] I.kIn (by simpa using hl)
    simpa using this) r2 hsp) fun r s' hq => ?_)
  cases r with
  | error e => exact (pass0 pins σ H s e s' I hq : X.xe e s')
  | ok fl =>
    cases fl with
    | ret w =>
      obtain ⟨z, H', I', rz, kb, ez, q⟩ := I.after hq
      subst ez
      cases rz
      exact ⟨kb, rfl, .bl (!kb), H', I', rfl, q⟩
    | next => exact False.elim hq
    | brk => exact False.elim hq
    | cont => exact False.elim hq
end
end RR

set_option maxHeartbeats 4000000
namespace RR
open PySem PySem.Spec PyProof.Rows L2
/-! ### dicts by numbers and texts -/
def keyOf : D → Option Key
  | .int i => some (.inl i)
  | .str x => some (.inr x)
  | _ => none
def keq : D → D → Bool
  | .int i, .int j => i == j
  | .str x, .str y => x == y
  | _, _ => false
def dval : List D → List D → D → Option D
  | k :: ks, v :: vs, d => if keq k d = true then some v else dval ks vs d
  | _, _, _ => none
/-- the values, one of them put otherwise -/
def dset : List D → List D → D → D → List D
  | k :: ks, v :: vs, d, x => (if keq k d = true then x else v) :: dset ks vs d x
  | _, _, _, _ => []
def dput (ks vs : List D) (k x : D) : List D × List D := if (ks.any fun q => keq q k) = true then (ks, dset ks vs k x) else (ks ++ [k], vs ++ [x])
def dicW (o : Objs) : W → Option (List D × List D)
  | .v (.dic ks vs) => some (ks, vs)
  | .o i => match o[i]? with
    | some ⟨_, .dic ks vs⟩ => some (ks, vs)
    | _ => none
  | _ => none
theorem keyOf_D (k : Key) : keyOf (keyD k) = some k := by cases k <;> rfl
theorem keyOf_inv {d : D} {k : Key} (h : keyOf d = some k) : d = keyD k := by
  cases d <;> simp only [keyOf, reduceCtorEq, Option.some.injEq] at h <;> subst h <;> rfl
theorem keq_D (a b : Key) : keq (keyD a) (keyD b) = decide (a = b) := by
  cases a with
  | inl i =>
    cases b with
    | inl j => by_cases h : i = j <;> simp [keyD, keq, h]
    | inr y => simp [keyD, keq]
  | inr x =>
    cases b with
    | inl j => simp [keyD, keq]
    | inr y => by_cases h : x = y <;> simp [keyD, keq, h]
section
variable {g : GE} {F : Addr → Prop} {ι : List Addr} {H : Hp} {objs : Objs} {A : Addr → Prop}
theorem RV_key {k : Key} {v : V} : RV g A H (keyD k) v ↔ v = kV k := by cases k <;> simp only [keyD, RV, kV]
theorem dval_rel (k : Key) : ∀ {kvs : List (Key × V)} {ds : List D}, RVs g A H ds (kvs.map (·.2)) → (dval (kvs.map fun p => keyD p.1) ds (keyD k) = none ∧ valV kvs k = none) ∨ ∃ d v, dval (kvs.map fun p => keyD p.1) ds (keyD k) = some d ∧ valV kvs k = some v ∧ RV g A H d v
  | [], ds, h => by
    cases ds with
    | nil => exact .inl ⟨rfl, rfl⟩
    | cons d ds => simp only [RVs] at h; obtain ⟨v, r, e, _⟩ := h; cases e
  | p :: kvs, ds, h => by
    cases ds with
    | nil => simp only [RVs, List.map_cons] at h; cases h
    | cons d ds =>
      simp only [RVs, List.map_cons] at h
      obtain ⟨v, r, e, h1, h2⟩ := h
      cases e
      simp only [List.map_cons, dval, keq_D]
      by_cases hk : p.1 = k
      · rw [valV_pos hk]
        exact .inr ⟨d, p.2, by simp [hk], rfl, h1⟩
      · rw [valV_neg hk]
        simp only [hk, decide_false, Bool.false_eq_true, if_false]
        exact dval_rel k h2
theorem any_D (k : Key) (kvs : List (Key × V)) : ((kvs.map fun p => keyD p.1).any fun q => keq q (keyD k)) = kvs.any fun kv => decide (kv.1 = k) := by
  induction kvs with
  | nil => rfl
  | cons p kvs ih => simp only [List.map_cons, List.any_cons, ih, keq_D]
theorem dset_rel (k : Key) {d : D} {v : V} (hd : RV g A H d v) : ∀ {kvs : List (Key × V)} {ds : List D}, RVs g A H ds (kvs.map (·.2)) → RVs g A H (dset (kvs.map fun p => keyD p.1) ds (keyD k) d) ((kvs.map fun kv => if kv.1 = k then (kv.1, v) else kv).map (·.2))
  | [], ds, h => by
    cases ds with
    | nil => simp [dset, RVs]
    | cons d ds => simp only [RVs] at h; obtain ⟨v, r, e, _⟩ := h; cases e
  | p :: kvs, ds, h => by
    cases ds with
    | nil => simp only [RVs, List.map_cons] at h; cases h
    | cons e ds =>
      simp only [RVs, List.map_cons] at h
      obtain ⟨u, r, q, h1, h2⟩ := h
      cases q
      simp only [List.map_cons, dset, keq_D, RVs]
      by_cases hk : p.1 = k
      · exact ⟨v, _, by simp [hk], by simp [hk]; exact hd, dset_rel k hd h2⟩
      · exact ⟨p.2, _, by simp [hk], by simp [hk]; exact h1, dset_rel k hd h2⟩
theorem dput_rel (k : Key) {d : D} {v : V} {kvs : List (Key × V)} {ds : List D} (hd : RV g A H d v) (h : RVs g A H ds (kvs.map (·.2))) : (dput (kvs.map fun p => keyD p.1) ds (keyD k) d).1 = (putK kvs k v).map (fun p => keyD p.1) ∧ RVs g A H (dput (kvs.map fun p => keyD p.1) ds (keyD k) d).2 ((putK kvs k v).map (·.2)) := by
  unfold dput putK
  rw [any_D]
  by_cases ha : (kvs.any fun kv => decide (kv.1 = k)) = true
  · rw [if_pos ha, if_pos ha]
    refine ⟨?_, dset_rel k hd h⟩
    rw [List.map_map]
    refine List.map_congr_left fun p _ => ?_
    simp only [Function.comp]
    split <;> rfl
  · rw [if_neg ha, if_neg ha]
    refine ⟨by simp, ?_⟩
    rw [List.map_append]
    exact h.append (RVs.one hd)
theorem dicW_ok {w : W} {v : V} {ks vs : List D} (rel : Rel g F ι H objs) (k : RW g ι (Al F ι objs) H w v) (h : dicW objs w = some (ks, vs)) : ∃ a kvs, v = .ref a ∧ H a = some (.dK kvs) ∧ ks = kvs.map (fun p => keyD p.1) ∧ RVs g (Al F ι objs) H vs (kvs.map (·.2)) := by
  cases w with
  | v d =>
    cases d <;> simp only [dicW, reduceCtorEq, Option.some.injEq, Prod.mk.injEq] at h
    obtain ⟨rfl, rfl⟩ := h
    simp only [RW, RV] at k
    obtain ⟨a, kvs, rfl, _, h1, h2, h3⟩ := k
    exact ⟨a, kvs, rfl, h1, h2, h3⟩
  | o i =>
    simp only [dicW] at h
    split at h
    · rename_i hi
      cases h
      obtain ⟨a, ha, rfl⟩ := k
      obtain ⟨kvs, h1, h2, h3⟩ := rel.at_ _ a _ ha hi
      exact ⟨a, kvs, rfl, h1, h2, h3⟩
    · cases h
end
/-! ### x in d -/
def inD (ks vs : List D) (a : W) (o : Objs) : R W := match a with
  | .v .non => .ok (.v (.bl false)) o
  | .v d => match keyOf d with
    | some _ => .ok (.v (.bl (dval ks vs d).isSome)) o
    | none => .stuck
  | _ => .stuck
def inX (a b : W) (o : Objs) : R W := match dicW o b with
  | some (ks, vs) => inD ks vs a o
  | none => inW a b o
def ninX (a b : W) (o : Objs) : R W := match dicW o b with
  | some (ks, vs) => (inD ks vs a o).bind fun w o => match w with
    | .v (.bl k) => .ok (.v (.bl (!k))) o
    | _ => .stuck
  | none => ninW a b o
section
variable {X : Cx}
theorem inD_ok {ks vs : List D} {a b : W} {objs : Objs} {F : Addr → Prop} {ι : List Addr} {H : Hp} {x y : V} (rel : Rel (gX X) F ι H objs) (k1 : RW (gX X) ι (Al F ι objs) H a x) (k2 : RW (gX X) ι (Al F ι objs) H b y) (hd : dicW objs b = some (ks, vs)) {w : W} {o : Objs} (e : inD ks vs a objs = .ok w o) :
    o = objs ∧ ∃ c : Bool, w = .v (.bl c) ∧ ∃ q kvs, y = .ref q ∧ H q = some (.dK kvs) ∧ ((x = .non ∧ c = false) ∨ ∃ k, x = kV k ∧ c = (valV kvs k).isSome) := by
  obtain ⟨q, kvs, rfl, hq, rfl, hv⟩ := dicW_ok rel k2 hd
  unfold inD at e
  split at e
  · cases e
    simp only [RW, RV] at k1
    exact ⟨rfl, false, rfl, q, kvs, rfl, hq, .inl ⟨k1, rfl⟩⟩
  · rename_i d _
    split at e
    · rename_i k hk
      cases e
      have := keyOf_inv hk
      subst this
      have hx : x = kV k := RV_key.mp k1
      refine ⟨rfl, _, rfl, q, kvs, rfl, hq, .inr ⟨k, hx, ?_⟩⟩
      rcases dval_rel (g := gX X) (A := Al F ι objs) (H := H) k hv with ⟨h1, h2⟩ | ⟨d, v, h1, h2, _⟩
      · rw [h1, h2]; rfl
      · rw [h1, h2]; rfl
    · cases e
  · cases e
theorem or_inX (hu : X.A.units + 1 < cLine) : OpR X (compareOp .In) (rW2 (gX X) inX) := by
  intro pins s σ H x y v u Q I rx ry ⟨F, ι, objs, w1, w2, rel, k1, k2, p⟩
  unfold inX at p
  split at p
  case h_2 => exact or_in pins s σ H x y v u Q I rx ry ⟨F, ι, objs, w1, w2, rel, k1, k2, p⟩
  rename_i ks vs hd
  cases e : inD ks vs w1 objs with
  | exc _ _ => rw [e] at p; exact p.elim
  | stuck => rw [e] at p; exact p.elim
  | ok w o =>
    rw [e] at p
    obtain ⟨rfl, c, rfl, q, kvs, rfl, hq, hc⟩ := inD_ok rel k1 k2 hd e
    cases ry
    rcases hc with ⟨rfl, rfl⟩ | ⟨k, rfl, rfl⟩
    · cases rx
      exact d_inNone I (.inl hq) fun s' I' => ⟨.bl false, H, I', rfl, p.flat rel (by simp only [RV])⟩
    · exact d_in hu I (.k hq) rx fun s' I' => ⟨.bl _, H, I', rfl, p.flat rel (by simp only [RV])⟩
theorem or_ninX (hu : X.A.units + 1 < cLine) : OpR X (compareOp .NotIn) (rW2 (gX X) ninX) := by
  intro pins s σ H x y v u Q I rx ry ⟨F, ι, objs, w1, w2, rel, k1, k2, p⟩
  unfold ninX at p
  split at p
  case h_2 => exact or_nin pins s σ H x y v u Q I rx ry ⟨F, ι, objs, w1, w2, rel, k1, k2, p⟩
  rename_i ks vs hd
  obtain ⟨w, o, e, p⟩ := p.bind
  obtain ⟨rfl, c, rfl, q, kvs, rfl, hq, hc⟩ := inD_ok rel k1 k2 hd e
  cases ry
  rcases hc with ⟨rfl, rfl⟩ | ⟨k, rfl, rfl⟩
  · cases rx
    exact d_notInNone I (.inl hq) fun s' I' => ⟨.bl true, H, I', rfl, p.flat rel (by simp only [RV]; rfl)⟩
  · exact d_notIn hu I (.k hq) rx fun s' I' => ⟨.bl _, H, I', rfl, p.flat rel (by simp only [RV])⟩
/-! ### list(d) -/
def listX (mu : Bool) (a : W) (o : Objs) : R W := match dicW o a with
  | some (ks, _) => if ks.length ≤ sizeLine then (if mu then .ok (.o o.length) (o ++ [⟨true, .lst ks⟩]) else .ok (.v (.lst ks)) o) else .stuck
  | none => listW mu a o
theorem RVs_keys {g : GE} {A : Addr → Prop} {H : Hp} : ∀ (kvs : List (Key × V)), RVs g A H (kvs.map fun p => keyD p.1) (kvs.map fun p => kV p.1)
  | [] => by simp [RVs]
  | p :: kvs => by simp only [List.map_cons, RVs]; exact ⟨_, _, rfl, RV_key.mpr rfl, RVs_keys kvs⟩
theorem ct_listX (hc : X.calm = true) {mu : Bool} : CallR X (.type "list") (rWc (gX X) (on1 (listX mu))) := by
  refine cr_on1 fun pins s σ H x us Q F ι objs w I r rel k p => ?_
  unfold listX at p
  split at p
  case h_2 => exact ct_list pins s σ H _ us Q I r ⟨F, ι, objs, [w], rel, .cons k .nil, p⟩
  rename_i ks vs hd
  obtain ⟨a, kvs, rfl, hq, rfl, hv⟩ := dicW_ok rel k hd
  split at p
  case isFalse => exact p.elim
  split at p
  · exact call_listD hc pins s σ H _ us Q I r ⟨a, kvs, rfl, .inl hq, fun l hl => p.freshM rel hl (RVs_keys kvs)⟩
  · exact call_listD hc pins s σ H _ us Q I r ⟨a, kvs, rfl, .inl hq, fun l hl => p.freshL rel hl (RVs_keys kvs)⟩
end
/-! ### d[k] = v -/
def setX (a i x : W) (o : Objs) : R Unit := match a with
  | .o n => match o[n]? with
    | some ⟨true, .dic ks vs⟩ => match i, x with
      | .v k, .v d => match keyOf k with
        | some _ => if ks.length < sizeLine then .ok () (o.set n ⟨true, .dic (dput ks vs k d).1 (dput ks vs k d).2⟩) else .stuck
        | none => .stuck
      | _, _ => .stuck
    | _ => setW a i x o
  | _ => setW a i x o
def gSx (a b : ME) : MG := fun x σ o => (a σ o).bind fun u o => (b σ o).bind fun i o => (setX u i x o).bind fun _ o => .ok σ o
def rSetX : TSet := fun o i v H Q => rSetL o i v H Q ∨ rSetD o i v H Q
theorem set_any {X : Cx} (hu : X.A.units + 1 < cLine) : PSet X rSetX := fun pins s σ H o i v ov iv u Q I ro ri rv h => h.elim (set_list pins s σ H o i v ov iv u Q I ro ri rv) (set_dict hu pins s σ H o i v ov iv u Q I ro ri rv)
theorem sg_subX {X : Cx} {a b : Expr} {ma mb : ME} {pos : Pos} (hu : X.A.units + 1 < cLine) (ha : SE X a ma) (hb : SE X b mb) (hs : notSlice b = true) : SG X (.Subscript a b pos) (gSx ma mb) := by
  refine (pg_sub ha hb (set_any hu) (fun v => by cases b <;> first | rfl | (simp [notSlice] at hs))).weak fun v σ H Q ⟨F, ι, objs, σd, w, rel, sr, k, p⟩ => ?_
  unfold gSx at p
  obtain ⟨u, o1, e1, p1⟩ := p.bind
  clear p
  refine ⟨F, ι, objs, σd, rel, sr, ?_⟩
  rw [e1]
  intro v1 ι1 H1 rel1 ex1 r1
  obtain ⟨i, o2, e2, p2⟩ := p1.bind
  clear p1
  refine ⟨F, ι1, o1, σd, rel1, sr.ext ex1, ?_⟩
  rw [e2]
  intro v2 ι2 H2 rel2 ex2 r2
  replace r1 := r1.ext ex2
  replace k := (k.ext ex1).ext ex2
  obtain ⟨un, o3, e3, p⟩ := p2.bind
  clear p2
  -- as a list
  have old : setW u i w o2 = .ok un o3 → rSetX v1 v2 v H2 fun H3 => Q σ H3 := fun e3 => by
    refine .inl ?_
    cases w with
    | o j =>
      unfold setW at e3
      split at e3
      · split at e3 <;> cases e3
      · cases e3
    | v d =>
      unfold setW at e3
      split at e3
      case h_2 => cases e3
      split at e3
      case h_2 => cases e3
      rename_i xs hx
      simp only at e3
      split at e3
      case h_2 => cases e3
      rename_i m hm
      cases e3
      obtain ⟨a, ha, rfl⟩ := r1
      simp only [RW, RV] at r2
      subst r2
      obtain ⟨vs, q1, q2⟩ := rel2.at_ _ a _ ha hx
      refine ⟨a, vs, _, m, rfl, rfl, q1, by rw [← q2.length]; exact hm, ?_⟩
      have exs := Ext.set (o := .lst (vs.set m v)) (m' := .lst (xs.set m d)) rel2 ha hx
      refine p ι2 _ σ (rel2.set ha hx ⟨_, upd_same, ?_⟩) ((ex1.trans ex2).trans exs) (((sr.ext ex1).ext ex2).ext exs)
      exact (q2.ext exs).set (RV.ext k exs)
  unfold setX at e3
  split at e3
  case h_2 => exact old e3
  rename_i n
  split at e3
  case h_2 => exact old e3
  rename_i ks vs hx
  split at e3
  case h_2 => cases e3
  rename_i kd d
  split at e3
  case h_2 => cases e3
  rename_i kk hk
  split at e3
  case isFalse => cases e3
  rename_i hz
  cases e3
  have := keyOf_inv hk
  subst this
  obtain ⟨a, ha, rfl⟩ := r1
  have hv2 : v2 = kV kk := RV_key.mp r2
  subst hv2
  obtain ⟨kvs, q1, rfl, q3⟩ := rel2.at_ _ a _ ha hx
  refine .inr ⟨a, _, rfl, DPut.k q1 (by simpa using hz), ?_⟩
  have exs := Ext.set (o := .dK (putK kvs kk v)) (m' := .dic (dput (kvs.map fun p => keyD p.1) vs (keyD kk) d).1 (dput (kvs.map fun p => keyD p.1) vs (keyD kk) d).2) rel2 ha hx
  obtain ⟨d1, d2⟩ := dput_rel kk (RV.ext k exs) (q3.ext exs)
  exact p ι2 _ σ (rel2.set ha hx ⟨putK kvs kk v, upd_same, d1, d2⟩) ((ex1.trans ex2).trans exs) (((sr.ext ex1).ext ex2).ext exs)
end RR

set_option maxHeartbeats 4000000
namespace RR
open PySem PySem.Spec PyProof.Rows L2
/-! ### dict comprehensions -/
abbrev DA := List D × List D
def dcGo (turn : D → Objs → R (Option (D × D))) : List D → DA → Objs → R DA
  | [], acc, o => .ok acc o
  | d :: ds, acc, o => (turn d o).bind fun r o => match r with
    | none => dcGo turn ds acc o
    | some (k, v) => if (keyOf k).isSome = true ∧ acc.1.length < sizeLine then dcGo turn ds (dput acc.1 acc.2 k v) o else .stuck
def dcTurn (T : Tg) (own : List Nat) (c : MB) (ek ev : ME) (σ : Sl) (d : D) (o : Objs) : R (Option (D × D)) :=
  (mTg T (.v d) (wipeD σ own) o).bind fun σ o => (c σ o).bind fun k o => if k = true then (ek σ o).bind fun wk o => (ev σ o).bind fun wv o => match wk, wv with
    | .v k, .v v => .ok (some (k, v)) o
    | _, _ => .stuck else .ok none o
def dicMk (mu : Bool) (acc : DA) (o : Objs) : R W := if mu = true then .ok (.o o.length) (o ++ [⟨true, .dic acc.1 acc.2⟩]) else .ok (.v (.dic acc.1 acc.2)) o
def mDc (mu : Bool) (mi : MI) (T : Tg) (own : List Nat) (c : MB) (ek ev : ME) : ME := fun σ o => (mi σ o).bind fun xs o => (dcGo (dcTurn T own c ek ev σ) xs ([], []) o).bind fun acc o => dicMk mu acc o
def dcGo2 (turn : D → DA → Objs → R DA) : List D → DA → Objs → R DA
  | [], acc, o => .ok acc o
  | d :: ds, acc, o => (turn d acc o).bind fun acc o => dcGo2 turn ds acc o
def dc2Turn (T : Tg) (own : List Nat) (c : MB) (mi1 : MI) (T1 : Tg) (own1 : List Nat) (c1 : MB) (ek ev : ME) (σ : Sl) (d : D) (acc : DA) (o : Objs) : R DA :=
  (mTg T (.v d) (wipeD σ own) o).bind fun σ o => (c σ o).bind fun k o => if k = true then (mi1 σ o).bind fun ys o => dcGo (dcTurn T1 own1 c1 ek ev σ) ys acc o else .ok acc o
def mDc2 (mu : Bool) (mi : MI) (T : Tg) (own : List Nat) (c : MB) (mi1 : MI) (T1 : Tg) (own1 : List Nat) (c1 : MB) (ek ev : ME) : ME := fun σ o => (mi σ o).bind fun xs o => (dcGo2 (dc2Turn T own c mi1 T1 own1 c1 ek ev σ) xs ([], []) o).bind fun acc o => dicMk mu acc o
section
variable {g : GE} {F F' : Addr → Prop} {ι ι' ι1 ι2 : List Addr} {H H' H1 H2 : Hp} {objs objs' objs1 o1 : Objs} {Dd : Addr} {k : DA → Objs → R W} {Q : VK}
/-- what was made at Dd, a thing of the store from now on -/
theorem store_done (h0 : H1 Dd = none) (r : Rel g (FD F Dd) ι H objs) (ex : Ext ι1 objs1 H1 ι objs H) (r1 : Rel g F ι1 H1 objs1) {m : MO} (ho : RO g (ι ++ [Dd]) (Al (FD F Dd) ι objs) H m Dd) (p : Post g F ι1 objs1 H1 (.ok (.o objs.length) (objs ++ [⟨true, m⟩])) Q) : Q (.ref Dd) H := by
  have nD : Dd ∉ ι := (r.out Dd (.inr rfl)).2
  have nF : ¬ F Dd := r1.freshF h0
  have hl : ι.length = objs.length := r.len
  have same : ∀ a, Al F (ι ++ [Dd]) (objs ++ [⟨true, m⟩]) a ↔ Al (FD F Dd) ι objs a := by
    intro a
    constructor
    · rintro (z | ⟨i, u, e1, e2⟩)
      · exact .inl (.inl z)
      · by_cases hi : i < ι.length
        · rw [List.getElem?_append_left hi] at e1
          rw [List.getElem?_append_left (by omega)] at e2
          exact .inr ⟨i, u, e1, e2⟩
        · have e : i = ι.length := by
            have := (List.getElem?_eq_some_iff.mp e1).1
            simp at this; omega
          subst e
          simp at e1
          exact .inl (.inr e1.symm)
    · rintro ((z | z) | ⟨i, u, e1, e2⟩)
      · exact .inl z
      · subst z
        refine .inr ⟨ι.length, m, by simp, by rw [hl]; simp⟩
      · refine .inr ⟨i, u, ?_, ?_⟩
        · rw [List.getElem?_append_left (List.getElem?_eq_some_iff.mp e1).1]; exact e1
        · rw [List.getElem?_append_left (List.getElem?_eq_some_iff.mp e2).1]; exact e2
  have exI : ∀ {b : MO} {a : Addr}, RO g ι (Al (FD F Dd) ι objs) H b a → RO g (ι ++ [Dd]) (Al (FD F Dd) ι objs) H b a := by
    intro b a h
    cases b with
    | lst xs => exact h
    | lol is => exact let ⟨vs, h, q⟩ := h; ⟨vs, h, Paired.mapP q fun i v ⟨c, e, z⟩ => ⟨c, by rw [List.getElem?_append_left (List.getElem?_eq_some_iff.mp e).1]; exact e, z⟩⟩
    | dic ks ds => exact h
    | ins c ns ds => exact h
  have rel2 : Rel g F (ι ++ [Dd]) H (objs ++ [⟨true, m⟩]) := by
    refine ⟨?_, by simp [hl], fun i a ob e1 e2 => ?_, fun a z => ⟨(r.out a (.inl z)).1, fun q => ?_⟩⟩
    · rw [List.nodup_append]
      refine ⟨r.nd, by simp, fun a ha b hb e => ?_⟩
      rw [List.mem_singleton.mp hb] at e
      exact nD (e ▸ ha)
    · by_cases hi : i < ι.length
      · rw [List.getElem?_append_left hi] at e1
        rw [List.getElem?_append_left (by omega)] at e2
        exact (exI (r.at_ i a ob e1 e2)).anti fun b z => (same b).mp z
      · have e : i = ι.length := by
          have := (List.getElem?_eq_some_iff.mp e1).1
          simp at this; omega
        subst e
        simp at e1
        rw [hl] at e2
        simp at e2
        subst e1 e2
        exact ho.anti fun b z => (same b).mp z
    · rcases List.mem_append.mp q with q | q
      · exact (r.out a (.inl z)).2 q
      · rw [List.mem_singleton.mp q] at z; exact nF z
  have exx : Ext ι1 objs1 H1 (ι ++ [Dd]) (objs ++ [⟨true, m⟩]) H := by
    refine ⟨ex.pre.trans (List.prefix_append _ _), ex.keep, fun a z n => ?_⟩
    have hm : a ∈ ι ++ [Dd] := let ⟨i, u, e1, _⟩ := z; List.mem_of_getElem? e1
    rcases (same a).mp (.inr z) with (z | z) | z
    · exact absurd hm (rel2.out a z).2
    · rw [z]; exact h0
    · exact ex.new a z n
  exact p _ _ _ rel2 exx ⟨Dd, by rw [← hl]; simp, rfl⟩
/-- the state within: the dict at Dd grows -/
def DcS (g : GE) (F : Addr → Prop) (Dd : Addr) (ι1 : List Addr) (o1 : Objs) (H1 : Hp) (k : DA → Objs → R W) (Q : VK) (H' : Hp) (ι' : List Addr) (objs' : Objs) : Prop :=
  ∃ ds kvs, Rel g (FD F Dd) ι' H' objs' ∧ Ext ι1 o1 H1 ι' objs' H' ∧ H' Dd = some (.dK kvs) ∧ RVs g (Al (FD F Dd) ι' objs') H' ds (kvs.map (·.2)) ∧ Post g F ι1 o1 H1 (k (kvs.map (fun p => keyD p.1), ds) objs') Q
theorem DcS.rel (s : DcS g F Dd ι1 o1 H1 k Q H' ι' objs') : Rel g (FD F Dd) ι' H' objs' := let ⟨_, _, h, _⟩ := s; h
theorem relNewD (rel1 : Rel g F ι1 H1 o1) (hDd : H1 Dd = none) : Rel g (FD F Dd) ι1 (upd H1 Dd (.dK [])) o1 := by
  have nA : Dd ∉ ι1 := rel1.fresh hDd
  have r := rel1.upd_new (o := .dK []) hDd
  refine ⟨r.nd, r.len, fun i a ob q1 q2 => ?_, fun a z => ?_⟩
  · have h1 := rel1.at_ i a ob q1 q2
    have hc : Carry (Al F ι1 o1) H1 (Al (FD F Dd) ι1 o1) (upd H1 Dd (.dK [])) := ⟨fun b u q n => ⟨by rw [upd_ne (ne_of_none q hDd)]; exact q, fun z => by
      rcases z with (z | z) | z
      · exact n (.inl z)
      · rw [z, hDd] at q; cases q
      · exact n (.inr z)⟩⟩
    have ne : a ≠ Dd := fun z => nA (z ▸ List.mem_of_getElem? q1)
    cases hm : ob.ob with
    | lst ys => rw [hm] at h1; exact let ⟨vs, h, k⟩ := h1; ⟨vs, by rw [upd_ne ne]; exact h, RVs.car hc _ _ k⟩
    | lol is => rw [hm] at h1; exact let ⟨vs, h, k⟩ := h1; ⟨vs, by rw [upd_ne ne]; exact h, k⟩
    | dic ks ds => rw [hm] at h1; exact let ⟨kvs, h, k, q⟩ := h1; ⟨kvs, by rw [upd_ne ne]; exact h, k, RVs.car hc _ _ q⟩
    | ins c ns ds => rw [hm] at h1; exact let ⟨C, dx, vs, c1, h, k, q⟩ := h1; ⟨C, dx, vs, c1, by rw [upd_ne ne]; exact h, k, RVs.car hc _ _ q⟩
  · rcases z with z | z
    · exact r.out a z
    · subst z
      exact ⟨⟨_, upd_same⟩, nA⟩
theorem DcS.start (rel1 : Rel g F ι1 H1 o1) (hDd : H1 Dd = none) (p : Post g F ι1 o1 H1 (k ([], []) o1) Q) : DcS g F Dd ι1 o1 H1 k Q (upd H1 Dd (.dK [])) ι1 o1 :=
  ⟨[], [], relNewD rel1 hDd, Ext.upd_new hDd, upd_same, by simp only [List.map_nil, RVs], p⟩
theorem DcS.on (s : DcS g F Dd ι1 o1 H1 k Q H' ι' objs') (r : Rel g (FD F Dd) ι2 H2 objs) (ex : Ext ι' objs' H' ι2 objs H2) {k2 : DA → Objs → R W} (hk : ∀ acc, k acc objs' = k2 acc objs) : DcS g F Dd ι1 o1 H1 k2 Q H2 ι2 objs := by
  obtain ⟨ds, kvs, r', e', d', w', p'⟩ := s
  exact ⟨ds, kvs, r, e'.trans ex, ex.keep _ _ d' (offLive r'), w'.ext ex, by rw [← hk]; exact p'⟩
/-- one more -/
theorem DcS.more (hDd : H1 Dd = none) {kd vd : D} {y z : V} (s : DcS g F Dd ι1 o1 H1 (fun acc o => if (keyOf kd).isSome = true ∧ acc.1.length < sizeLine then k (dput acc.1 acc.2 kd vd) o else .stuck) Q H' ι' objs') (ky : RV g (Al (FD F Dd) ι' objs') H' kd y) (kz : RV g (Al (FD F Dd) ι' objs') H' vd z) :
    ∃ kvs kk, y = kV kk ∧ H' Dd = some (.dK kvs) ∧ kvs.length < sizeLine ∧ DcS g F Dd ι1 o1 H1 k Q (upd H' Dd (.dK (putK kvs kk z))) ι' objs' := by
  obtain ⟨ds, kvs, rel8, e8, hD8, kx, p'⟩ := s
  dsimp only at p'
  split at p'
  case isFalse => exact p'.elim
  rename_i hz
  obtain ⟨kk, hk⟩ := Option.isSome_iff_exists.mp hz.1
  have := keyOf_inv hk
  subst this
  refine ⟨kvs, kk, RV_key.mp ky, hD8, by simpa using hz.2, ?_⟩
  have nA8 : Dd ∉ ι' := (rel8.out Dd (.inr rfl)).2
  have hc : Carry (Al (FD F Dd) ι' objs') H' (Al (FD F Dd) ι' objs') (upd H' Dd (.dK (putK kvs kk z))) := ⟨fun b u q n => ⟨by rw [upd_ne (show b ≠ Dd from fun z => n (by rw [z]; exact .inl (.inr rfl)))]; exact q, n⟩⟩
  obtain ⟨d1, d2⟩ := dput_rel kk (RV.car hc _ _ kz) (RVs.car hc _ _ kx)
  refine ⟨_, putK kvs kk z, ⟨rel8.nd, rel8.len, fun j a ob q1 q2 => ?_, fun a z => ?_⟩, ⟨e8.pre, fun b u q n => by rw [upd_ne (ne_of_none q hDd)]; exact e8.keep b u q n, e8.new⟩, upd_same, d2, by rw [← d1]; exact p'⟩
  · have h1 := rel8.at_ j a ob q1 q2
    have ne : a ≠ Dd := fun z => nA8 (z ▸ List.mem_of_getElem? q1)
    cases hm : ob.ob with
    | lst ys => rw [hm] at h1; exact let ⟨vs, h, k⟩ := h1; ⟨vs, by rw [upd_ne ne]; exact h, RVs.car hc _ _ k⟩
    | lol is => rw [hm] at h1; exact let ⟨vs, h, k⟩ := h1; ⟨vs, by rw [upd_ne ne]; exact h, k⟩
    | dic ks ds => rw [hm] at h1; exact let ⟨kvs, h, k, q⟩ := h1; ⟨kvs, by rw [upd_ne ne]; exact h, k, RVs.car hc _ _ q⟩
    | ins c ns ds => rw [hm] at h1; exact let ⟨C, dx, vs, c1, h, k, q⟩ := h1; ⟨C, dx, vs, c1, by rw [upd_ne ne]; exact h, k, RVs.car hc _ _ q⟩
  · obtain ⟨⟨u, q⟩, n⟩ := rel8.out a z
    refine ⟨?_, n⟩
    by_cases ha : a = Dd
    · rw [ha]; exact ⟨_, upd_same⟩
    · exact ⟨u, by rw [upd_ne ha]; exact q⟩
theorem growCarryD {kvs : List (Key × V)} : Carry (Al (FD F Dd) ι objs) H (Al (FD F Dd) ι objs) (upd H Dd (.dK kvs)) := ⟨fun b u q n => ⟨by rw [upd_ne (show b ≠ Dd from fun z => n (by rw [z]; exact .inl (.inr rfl)))]; exact q, n⟩⟩
theorem dc_done {mu : Bool} (h0 : H1 Dd = none) (r1 : Rel g F ι1 H1 o1) (s : DcS g F Dd ι1 o1 H1 (dicMk mu) Q H' ι' objs') : Q (.ref Dd) H' := by
  obtain ⟨ds, kvs, r, ex, hD, kx, p⟩ := s
  unfold dicMk at p
  split at p
  · exact store_done (m := .dic (kvs.map fun p => keyD p.1) ds) h0 r ex r1 ⟨kvs, hD, rfl, kx⟩ p
  · refine p (.ref Dd) ι' H' (r.relax fun a z => .inl z) ex ?_
    simp only [RW, RV]
    refine ⟨Dd, kvs, rfl, fun z => ?_, hD, rfl, kx.anti fun a z => z.elim (fun z => .inl (.inl z)) .inr⟩
    rcases z with z | z
    · exact r1.freshF h0 z
    · exact (r.out Dd (.inr rfl)).2 z.mem
end
section
variable {X : Cx} {a b c e tg iter elt tg1 iter1 kx vx : Expr} {pos p : Pos} {ma mb mc mk mv : ME} {nc nc1 : MB} {mi mi1 : MI}
theorem se_dcCore {T : Tg} {own : List Nat} {mu : Bool} (hT : ∀ i ∈ T.slots, i ∈ own) {σ : L2.St} {H : Hp} {Q : VK} (h : tev (gX X) (mDc mu mi T own nc mk mv) σ H Q) : tDc (tSI (gX X) mi) (hTg X.K T) (teb (gX X) nc) (tev (gX X) mk) (tev (gX X) mv) own σ H Q := by
  obtain ⟨F, ι, objs, σd, rel, sr, p⟩ := h
  obtain ⟨xs, o1, e1, p⟩ := p.bind
  refine ⟨F, ι, objs, σd, rel, sr, ?_⟩
  rw [e1]
  intro J ι1 H1 rel1 ex1 yl Dd hDd
  have p := p.at ex1
  have hFD : ∀ a, FD F Dd a → F a ∨ H1 a = none := fun a z => z.elim .inl fun z => .inr (by rw [z]; exact hDd)
  let K : List D → DA → Objs → R W := fun ds acc o => (dcGo (dcTurn T own nc mk mv σd) ds acc o).bind fun acc o => dicMk mu acc o
  refine ⟨fun i m H' => m = xs.length - i ∧ i ≤ xs.length ∧ ∃ ι' objs', DcS (gX X) F Dd ι1 o1 H1 (K (xs.drop i)) Q H' ι' objs',
    ⟨xs.length, by simp, Nat.zero_le _, ι1, o1, DcS.start rel1 hDd (by rw [List.drop_zero]; exact p)⟩, ?_⟩
  rintro i m H' ⟨rfl, hi', ι', objs', S⟩
  obtain ⟨y1, y2⟩ := yl i (FD F Dd) ι' objs' H' (carryF (let ⟨_, _, _, e, _⟩ := S; e) hFD) S.rel
  have ex' : Ext ι1 o1 H1 ι' objs' H' := let ⟨_, _, _, e, _⟩ := S; e
  by_cases hlt : i < xs.length
  · obtain ⟨go, y⟩ := y1 xs[i] (List.getElem?_eq_getElem hlt)
    refine .inr ⟨go, fun H2 => i + 1 ≤ xs.length ∧ ∃ ι2 objs2, DcS (gX X) F Dd ι1 o1 H1 (K (xs.drop (i + 1))) Q H2 ι2 objs2, fun H2 hN => ⟨xs.length - (i + 1), by omega, rfl, hN⟩, fun x H2 hy => ?_⟩
    obtain ⟨rel2, ex2, rv2⟩ := y x H2 hy
    have s0 : SRel (gX X) ι' (Al (FD F Dd) ι' objs') H2 σd σ := (sr.ext ex1).carP (carryF (ex'.trans ex2) hFD) (ex'.trans ex2).pre
    have kd : ∀ acc o, K (xs.drop i) acc o = (mTg T (.v xs[i]) (wipeD σd own) o).bind fun σ o => (nc σ o).bind fun kk o => if kk = true then (mk σ o).bind fun wk o => (mv σ o).bind fun wv o => match wk, wv with
        | .v k, .v v => if (keyOf k).isSome = true ∧ acc.1.length < sizeLine then K (xs.drop (i + 1)) (dput acc.1 acc.2 k v) o else .stuck
        | _, _ => .stuck else K (xs.drop (i + 1)) acc o := by
      intro acc o
      show (dcGo (dcTurn T own nc mk mv σd) (xs.drop i) acc o).bind _ = _
      rw [List.drop_eq_getElem_cons hlt, dcGo, R.bind_assoc]
      rw [show dcTurn T own nc mk mv σd xs[i] o = (mTg T (.v xs[i]) (wipeD σd own) o).bind fun σ o => (nc σ o).bind fun k o => if k = true then (mk σ o).bind fun wk o => (mv σ o).bind fun wv o => match wk, wv with
        | .v k, .v v => .ok (some (k, v)) o
        | _, _ => .stuck else .ok none o from rfl, R.bind_assoc]
      congr 1; funext σ o
      rw [R.bind_assoc]
      congr 1; funext kk o
      cases kk
      · rfl
      · simp only [if_true, R.bind_assoc]
        congr 1; funext wk o
        congr 1; funext wv o
        cases wk <;> cases wv <;> first | rfl | skip
        simp only [R.bind_ok]
        split <;> rfl
    obtain ⟨ds0, kvs0, _, _, _, _, pz⟩ := id S
    have pa : Post (gX X) F ι1 o1 H1 (K (xs.drop i) (kvs0.map (fun p => keyD p.1), ds0) objs') Q := pz
    rw [kd] at pa
    obtain ⟨σ2, o2, e4, pb⟩ := pa.bind
    clear pa pz
    obtain ⟨rfl, hT2⟩ := tg_ok hT s0 rv2 e4
    refine hT2 _ fun σ3 sr3 hw => ⟨hw, ?_⟩
    obtain ⟨kk, o5, e5, pc⟩ := pb.bind
    refine ⟨FD F Dd, ι', o2, σ2, rel2, sr3, ?_⟩
    rw [e5]
    intro ι6 H6 rel6 ex6
    have S6 : DcS (gX X) F Dd ι1 o1 H1 (fun acc o => if kk = true then (mk σ2 o).bind fun wk o => (mv σ2 o).bind fun wv o => match wk, wv with
        | .v k, .v v => if (keyOf k).isSome = true ∧ acc.1.length < sizeLine then K (xs.drop (i + 1)) (dput acc.1 acc.2 k v) o else .stuck
        | _, _ => .stuck else K (xs.drop (i + 1)) acc o) Q H6 ι6 o5 := S.on rel6 (ex2.trans ex6) fun acc => by rw [kd, e4, R.bind_ok, e5, R.bind_ok]
    cases kk with
    | false =>
      simp only [Bool.false_eq_true, if_false] at S6 ⊢
      exact ⟨hlt, ι6, o5, S6⟩
    | true =>
      simp only [if_true] at S6 pc ⊢
      obtain ⟨wk, o7, e7, pd⟩ := pc.bind
      obtain ⟨wv, o8, e8, pe⟩ := pd.bind
      refine ⟨FD F Dd, ι6, o5, σ2, rel6, sr3.ext ex6, ?_⟩
      rw [e7]
      intro y7 ι7 H7 rel7 ex7 r7
      refine ⟨FD F Dd, ι7, o7, σ2, rel7, (sr3.ext ex6).ext ex7, ?_⟩
      rw [e8]
      intro z8 ι8 H8 rel8 ex8 r8
      replace r7 := r7.ext ex8
      cases wk with
      | o _ => cases wv <;> exact pe.elim
      | v kd' =>
        cases wv with
        | o _ => exact pe.elim
        | v vd =>
          have S8 : DcS (gX X) F Dd ι1 o1 H1 (fun acc o => if (keyOf kd').isSome = true ∧ acc.1.length < sizeLine then K (xs.drop (i + 1)) (dput acc.1 acc.2 kd' vd) o else .stuck) Q H8 ι8 o8 := S6.on rel8 (ex7.trans ex8) fun acc => by rw [e7, R.bind_ok, e8, R.bind_ok]
          obtain ⟨kvs, kk, h1, h2, h3, h4⟩ := S8.more (k := K (xs.drop (i + 1))) hDd r7 r8
          exact ⟨kvs, kk, h1, h2, h3, hlt, ι8, o8, h4⟩
  · have hi2 : i = xs.length := by omega
    subst hi2
    refine .inl ⟨y2 (Nat.le_refl _), dc_done (mu := mu) (ι' := ι') (objs' := objs') hDd rel1 ?_⟩
    obtain ⟨ds0, kvs0, z1, z2, z3, z4, pz⟩ := S
    have pz : Post (gX X) F ι1 o1 H1 (K (xs.drop xs.length) (kvs0.map (fun p => keyD p.1), ds0) objs') Q := pz
    have ke : ∀ acc o, K (xs.drop xs.length) acc o = dicMk mu acc o := fun acc o => by
      show (dcGo (dcTurn T own nc mk mv σd) (xs.drop xs.length) acc o).bind _ = _
      rw [List.drop_length]; rfl
    rw [ke] at pz
    exact ⟨ds0, kvs0, z1, z2, z3, z4, pz⟩
/-- {k: v for target in iter if ..} -/
theorem se_dc {ifs : List Expr} {scope : Scope} {own : List (Str × Nat)} {T : Tg} {mu : Bool} (hc : X.calm = true) (hN : X.N.Nodup) (hi : SI X tg iter mi) (ok : BlkOk X.N X.env.scope scope own)
    (hT : ∀ i ∈ T.slots, i ∈ own.map (·.2))
    (hg : ∀ (s : Shared) (H : Hp) (C : Addr) (cl : List (Str × Addr)) (fp : List Addr), PG (X.blk s H scope (compEnvC scope cl C X.env) fp) tg (hTg X.K T))
    (ht : ∀ (s : Shared) (H : Hp) (C : Addr) (cl : List (Str × Addr)) (fp : List Addr), PTs (X.blk s H scope (compEnvC scope cl C X.env) fp) ifs (teb (gX X) nc))
    (hk : ∀ (s : Shared) (H : Hp) (C : Addr) (cl : List (Str × Addr)) (fp : List Addr), SE (X.blk s H scope (compEnvC scope cl C X.env) fp) kx mk)
    (he : ∀ (s : Shared) (H : Hp) (C : Addr) (cl : List (Str × Addr)) (fp : List Addr), SE (X.blk s H scope (compEnvC scope cl C X.env) fp) vx mv)
    (hs : ∀ x, foldedSetIterable iter X.env x = pure x) : SE X (.DictComp kx vx [⟨tg, iter, ifs, 0⟩] scope pos) (mDc mu mi T (own.map (·.2)) nc mk mv) :=
  (pe_dc hc hN hi ok hg ht hk he hs).weak fun σ H Q h => se_dcCore hT h
end
end RR

set_option maxHeartbeats 4000000
namespace RR
open PySem PySem.Spec PyProof.Rows L2
/-! ### dict comprehensions with two clauses -/
theorem dTurn_out (kx vx t0 i0 t1 i1 : Expr) (jfs0 jfs1 : List Expr) (scope : Scope) (pos : Pos) (it acc : Value) (env : Env) :
    compTurn (.DictComp kx vx [⟨t0, i0, jfs0, 0⟩, ⟨t1, i1, jfs1, 0⟩] scope pos) 0 it acc env = (do
      standAt i0.pos
      match ← pyNext it with
      | none => pure (.done .next)
      | some v =>
        letOwnedTupleGo t0 it v
        assign t0 env v
        let mut ok := true
        for c in jfs0 do
          if ok then ok ← isTrue c env (eval c env)
        if ok then
          let x ← eval i1 env
          standAt i1.pos
          let x ← foldedSetIterable i1 env x
          let _ ← runOwn (.compStart (.DictComp kx vx [⟨t0, i0, jfs0, 0⟩, ⟨t1, i1, jfs1, 0⟩] scope pos) 1 (← holding [x] (pyIter x)) acc env) env
        again (.compLoop (.DictComp kx vx [⟨t0, i0, jfs0, 0⟩, ⟨t1, i1, jfs1, 0⟩] scope pos) 0 it acc env)) := by rfl
theorem dTurn_in (kx vx t0 i0 t1 i1 : Expr) (jfs0 jfs1 : List Expr) (scope : Scope) (pos : Pos) (it : Value) (D : Addr) (env : Env) :
    compTurn (.DictComp kx vx [⟨t0, i0, jfs0, 0⟩, ⟨t1, i1, jfs1, 0⟩] scope pos) 1 it (.ref D) env = (do
      standAt i1.pos
      match ← pyNext it with
      | none => pure (.done .next)
      | some v =>
        letOwnedTupleGo t1 it v
        assign t1 env v
        let mut ok := true
        for c in jfs1 do
          if ok then ok ← isTrue c env (eval c env)
        if ok then
          (do
            let kv ← eval kx env
            let vv ← holding [kv] (eval vx env)
            standAt { kx.pos with endLine := vx.pos.endLine, endCol := vx.pos.endCol }
            holding [kv, vv] (dictSet D kv vv))
        again (.compLoop (.DictComp kx vx [⟨t0, i0, jfs0, 0⟩, ⟨t1, i1, jfs1, 0⟩] scope pos) 1 it (.ref D) env)) := by rfl

section
variable {prog : Program} {w : World} {A : Around} {R : Result → Shared → Prop} {s : Shared} {kx vx t0 i0 t1 i1 : Expr} {jfs0 jfs1 : List Expr} {scope : Scope} {pos : Pos} {it acc : Value} {D : Addr} {env : Env}
theorem dLoop_out (hs : ∀ x, foldedSetIterable i1 env x = pure x) (I : Nat → Shared → Prop)
    (tr : ∀ n s, I n s → wpAny (model prog w) A (pyNext it) (fun r t₁ => match r with
      | none => R (.ok .next) t₁
      | some v => wpAny (model prog w) A (letOwnedTupleGo t0 it v) (fun _ t₁' => wpAny (model prog w) A (assign t0 env v) (fun _ t₂ =>
          wpAny (model prog w) A (forIn jfs0 true fun c r => if r = true then do let ok ← isTrue c env (eval c env); pure (ForInStep.yield ok) else pure (ForInStep.yield r)) (fun ok t₃ =>
            if ok = true then wpAny (model prog w) A (eval i1 env) (fun x t₄ => wpAny (model prog w) A (pyIter x) (fun it1 t₅ =>
              codeAny (model prog w) A (.compStart (.DictComp kx vx [⟨t0, i0, jfs0, 0⟩, ⟨t1, i1, jfs1, 0⟩] scope pos) 1 it1 acc env) (fun r s' => match r with
                | .ok _ => ∃ m, m < n ∧ I m s'
                | .error _ => False) t₅) (notedBy (model prog w) A env fun e s' => R (.error e) s') t₄) (notedBy (model prog w) A env fun e s' => R (.error e) s') t₃
            else ∃ m, m < n ∧ I m t₃) (notedBy (model prog w) A env fun e s' => R (.error e) s') t₂) (notedBy (model prog w) A env fun e s' => R (.error e) s') t₁') (notedBy (model prog w) A env fun e s' => R (.error e) s') t₁) (notedBy (model prog w) A env fun e s' => R (.error e) s') s)
    (n : Nat) (h : I n s) :
    codeAny (model prog w) A (.compLoop (.DictComp kx vx [⟨t0, i0, jfs0, 0⟩, ⟨t1, i1, jfs1, 0⟩] scope pos) 0 it acc env) R s := by
  refine codeAny_loop rfl I (fun n s hI => ?_) n h
  show wpAny _ A ((compTurn (.DictComp kx vx [⟨t0, i0, jfs0, 0⟩, ⟨t1, i1, jfs1, 0⟩] scope pos) 0 it acc env).onRaise (fun x => do noteFrame x env; theTreesLotGoes x)) _ _ s
  refine wpAny_noted ?_
  rw [dTurn_out]
  refine wpAny_bind (wpAny_standAt (wpAny_bind (wpAny_mono (tr n s hI) (fun r t₁ g₁ => ?_) fun _ _ h' => h')))
  cases r with
  | none => exact wpAny_pure g₁
  | some v =>
    refine wpAny_bind (wpAny_mono g₁ (fun _ t₁' g₁' => ?_) fun _ _ h' => h')
    refine wpAny_bind (wpAny_mono g₁' (fun _ t₂ g₂ => wpAny_bind (wpAny_mono g₂ (fun ok t₃ g₃ => ?_) fun _ _ h' => h')) fun _ _ h' => h')
    cases ok with
    | false => exact wpAny_pure ⟨rfl, g₃⟩
    | true =>
      refine wpAny_bind (wpAny_mono g₃ (fun x t₄ g₄ => ?_) fun _ _ h' => h')
      refine wpAny_bind (wpAny_standAt (wpAny_bind (wpAny_of_eq (hs x) (wpAny_bind (wpAny_holding (wpAny_mono g₄ (fun it1 t₅ g₅ => ?_) fun _ _ h' => h'))))))
      refine wpAny_bind (wpAny_runOwn ?_)
      rw [Around.mark_none]
      refine codeAny_mono g₅ fun r s' hr => ?_
      cases r with
      | ok f =>
        first
          | exact wpAny_pure ⟨rfl, hr⟩
          | exact wpAny_bind (wpAny_pure (wpAny_pure ⟨rfl, hr⟩))
      | error e => exact hr.elim
theorem dLoop_in (I : Nat → Shared → Prop)
    (tr : ∀ n s, I n s → wpAny (model prog w) A (pyNext it) (fun r t₁ => match r with
      | none => R (.ok .next) t₁
      | some v => wpAny (model prog w) A (letOwnedTupleGo t1 it v) (fun _ t₁' => wpAny (model prog w) A (assign t1 env v) (fun _ t₂ =>
          wpAny (model prog w) A (forIn jfs1 true fun c r => if r = true then do let ok ← isTrue c env (eval c env); pure (ForInStep.yield ok) else pure (ForInStep.yield r)) (fun ok t₃ =>
            if ok = true then wpAny (model prog w) A (eval kx env) (fun kv t₄ => wpAny (model prog w) A (eval vx env) (fun vv t₅ =>
              wpAny (model prog w) A (dictSet D kv vv) (fun _ t₆ => ∃ m, m < n ∧ I m t₆) (notedBy (model prog w) A env fun e s' => R (.error e) s') t₅) (notedBy (model prog w) A env fun e s' => R (.error e) s') t₄) (notedBy (model prog w) A env fun e s' => R (.error e) s') t₃
            else ∃ m, m < n ∧ I m t₃) (notedBy (model prog w) A env fun e s' => R (.error e) s') t₂) (notedBy (model prog w) A env fun e s' => R (.error e) s') t₁') (notedBy (model prog w) A env fun e s' => R (.error e) s') t₁) (notedBy (model prog w) A env fun e s' => R (.error e) s') s)
    (n : Nat) (h : I n s) :
    codeAny (model prog w) A (.compLoop (.DictComp kx vx [⟨t0, i0, jfs0, 0⟩, ⟨t1, i1, jfs1, 0⟩] scope pos) 1 it (.ref D) env) R s := by
  refine codeAny_loop rfl I (fun n s hI => ?_) n h
  show wpAny _ A ((compTurn (.DictComp kx vx [⟨t0, i0, jfs0, 0⟩, ⟨t1, i1, jfs1, 0⟩] scope pos) 1 it (.ref D) env).onRaise (fun x => do noteFrame x env; theTreesLotGoes x)) _ _ s
  refine wpAny_noted ?_
  rw [dTurn_in]
  refine wpAny_bind (wpAny_standAt (wpAny_bind (wpAny_mono (tr n s hI) (fun r t₁ g₁ => ?_) fun _ _ h' => h')))
  cases r with
  | none => exact wpAny_pure g₁
  | some v =>
    refine wpAny_bind (wpAny_mono g₁ (fun _ t₁' g₁' => ?_) fun _ _ h' => h')
    refine wpAny_bind (wpAny_mono g₁' (fun _ t₂ g₂ => wpAny_bind (wpAny_mono g₂ (fun ok t₃ g₃ => ?_) fun _ _ h' => h')) fun _ _ h' => h')
    cases ok with
    | false => exact wpAny_pure ⟨rfl, g₃⟩
    | true =>
      exact wpAny_bind (wpAny_bind (wpAny_mono g₃ (fun kv t₄ g₄ => wpAny_bind (wpAny_holding (wpAny_mono g₄ (fun vv t₅ g₅ => wpAny_bind (wpAny_standAt (wpAny_holding (wpAny_mono g₅ (fun _ t₆ g₆ => wpAny_pure ⟨rfl, g₆⟩) fun _ _ h' => h')))) fun _ _ h' => h'))) fun _ _ h' => h'))
theorem dStart1_ok (h0 : codeAny (model prog w) A (.compLoop (.DictComp kx vx [⟨t0, i0, jfs0, 0⟩, ⟨t1, i1, jfs1, 0⟩] scope pos) 1 it acc env) R s)
    (h : wpAny (model prog w) A (pyIter it) (fun it' s' => codeAny (model prog w) A (.compLoop (.DictComp kx vx [⟨t0, i0, jfs0, 0⟩, ⟨t1, i1, jfs1, 0⟩] scope pos) 1 it' acc env) R s')
      (notedBy (model prog w) A env fun x s' => R (.error x) s') s) :
    codeAny (model prog w) A (.compStart (.DictComp kx vx [⟨t0, i0, jfs0, 0⟩, ⟨t1, i1, jfs1, 0⟩] scope pos) 1 it acc env) R s := by
  refine codeAny_of_tree ?_
  show wpAny _ _ ((compStart (.DictComp kx vx [⟨t0, i0, jfs0, 0⟩, ⟨t1, i1, jfs1, 0⟩] scope pos) 1 it acc env).onRaise (fun x => do noteFrame x env; standAt theWindowsPlace)) _ _ s
  refine wpAny_notedAt ?_
  unfold compStart
  show wpAny _ _ (ask >>= _) _ _ s
  refine wpAny_bind (wpAny_askSetting (wpAny_ite ?_))
  split
  · first
      | exact wpAny_bind (wpAny_pure (wpAny_pure (And.intro rfl h0)))
      | exact wpAny_pure (And.intro rfl h0)
  · first
      | exact wpAny_bind (wpAny_rule (wpAny_bind (wpAny_standAt (wpAny_bind (wpAny_mono h (fun it' s' h' => wpAny_pure (And.intro rfl h')) fun _ _ x => x)))))
      | (refine wpAny_bind (wpAny_rule ?_); show wpAny _ _ (standAt i1.pos >>= _) _ _ s; exact wpAny_bind (wpAny_standAt (wpAny_bind (wpAny_mono h (fun it' s' h' => wpAny_pure (And.intro rfl h')) fun _ _ x => x))))
end

section
variable {X : Cx}
def tDc2 (wi : TI) (g : TG) (tt : TT) (wi1 : TI) (g1 : TG) (tt1 : TT) (tk te : TE) (vs vs1 : List Nat) : TE := fun σ H Q => wi σ H fun J Hp1 => ∀ D, Hp1 D = none → ∃ W : Nat → Nat → Hp → Prop, (∃ m, W 0 m (upd Hp1 D (.dK []))) ∧ ∀ i m H, W i m H →
  (J.stop i H ∧ Q (.ref D) H) ∨ (J.go i H ∧ ∃ Nx : Hp → Prop, (∀ H', Nx H' → ∃ m', m' < m ∧ W (i + 1) m' H') ∧ ∀ x H', J.yld i H x H' → g x (wipe σ vs) H' fun σ2 Hp2 => wipe σ2 vs = wipe σ vs ∧ tt σ2 Hp2 fun b Hp3 =>
    if b = true then wi1 σ2 Hp3 fun J1 Hp4 => ∃ W1 : Nat → Nat → Hp → Prop, (∃ m, W1 0 m Hp4) ∧ ∀ j k H, W1 j k H →
      (J1.stop j H ∧ Nx H) ∨ (J1.go j H ∧ ∃ Nx1 : Hp → Prop, (∀ H', Nx1 H' → ∃ k', k' < k ∧ W1 (j + 1) k' H') ∧ ∀ x H', J1.yld j H x H' → g1 x (wipe σ2 vs1) H' fun σ3 Hp5 => wipe σ3 vs1 = wipe σ2 vs1 ∧ tt1 σ3 Hp5 fun b Hp6 =>
        if b = true then tk σ3 Hp6 fun y Hp7 => te σ3 Hp7 fun z Hp8 => ∃ kvs k, y = kV k ∧ Hp8 D = some (.dK kvs) ∧ kvs.length < sizeLine ∧ Nx1 (upd Hp8 D (.dK (putK kvs k z))) else Nx1 Hp6)
    else Nx Hp3)
theorem dc2_core {pins : List (Addr × Obj)} {s : Shared} {σ : L2.St} {H : Hp} {Q : VK} {kx vx tg iter tg1 iter1 : Expr} {ifs jfs1 : List Expr} {scope : Scope} {own : List (Str × Nat)} {vs1 : List Nat} {pos pos' : Pos} {wi wi1 : TI} {g g1 : TG} {tt tt1 : TT} {tk te : TE} {use : Option (Value → Sem Unit)} {Qf : Value → Shared → Prop}
    (hc : X.calm = true) (hN : X.N.Nodup) (I : L2.Inv X pins σ H s) (hi : PI X tg iter wi) (ok : BlkOk X.N X.env.scope scope own) (hv : ∀ i ∈ vs1, i ∈ own.map (·.2))
    (hg : ∀ (s : Shared) (H : Hp) (C : Addr) (cl : List (Str × Addr)) (fq : List Addr), PG (X.blk s H scope (compEnvC scope cl C X.env) fq) tg g) (ht : ∀ (s : Shared) (H : Hp) (C : Addr) (cl : List (Str × Addr)) (fq : List Addr), PTs (X.blk s H scope (compEnvC scope cl C X.env) fq) ifs tt)
    (hk : ∀ (s : Shared) (H : Hp) (C : Addr) (cl : List (Str × Addr)) (fq : List Addr), PE (X.blk s H scope (compEnvC scope cl C X.env) fq) kx tk)
    (he : ∀ (s : Shared) (H : Hp) (C : Addr) (cl : List (Str × Addr)) (fq : List Addr), PE (X.blk s H scope (compEnvC scope cl C X.env) fq) vx te) (hs : ∀ x, foldedSetIterable iter X.env x = pure x)
    (hi1 : ∀ (s : Shared) (H : Hp) (C : Addr) (cl : List (Str × Addr)) (fq : List Addr), PI (X.blk s H scope (compEnvC scope cl C X.env) fq) tg1 iter1 wi1)
    (hg1 : ∀ (s : Shared) (H : Hp) (C : Addr) (cl : List (Str × Addr)) (fq : List Addr), PG (X.blk s H scope (compEnvC scope cl C X.env) fq) tg1 g1)
    (ht1 : ∀ (s : Shared) (H : Hp) (C : Addr) (cl : List (Str × Addr)) (fq : List Addr), PTs (X.blk s H scope (compEnvC scope cl C X.env) fq) jfs1 tt1)
    (hs1 : ∀ env x, foldedSetIterable iter1 env x = pure x)
    (h : tDc2 wi g tt wi1 g1 tt1 tk te (own.map (·.2)) vs1 σ H Q)
    (hRR : ∀ D C s' m H', L2.Inv X pins σ H' s' → Q (.ref D) H' → s'.heap.Ns C m → FpOk X pins H' C → compPost (model X.prog X.w) X.A X.xe use Qf (.ref D) C (.ok .next) s') :
    wpAny (model X.prog X.w) X.A (comprehension (.DictComp kx vx [⟨tg, iter, ifs, 0⟩, ⟨tg1, iter1, jfs1, 0⟩] scope pos) scope X.env pos' newDict false (eval iter X.env) use) Qf X.xe s := by
  have hfr : ∀ y ∈ scope.names, y.2 = .free → ∃ c, X.env.cells.lookup y.1 = some c := fun y hy e => by
    rcases ok.free y hy e with k | k
    · exact I.ok.has _ (.inl k)
    · exact I.ok.has _ (.inr k)
  refine wpAny_comprehension_free (use := use) rfl hs (closure_ok hfr) ok.kind (fun y hy e => by rw [ok.uniq y hy, e])
    (thn (hi.run pins s σ H _ I h) fun xv sh1 hx => thn hx fun itv sh2 h2 => ?_)
  obtain ⟨it, fq, tu, J, Hp2, e, In2, T, st2, f2, q⟩ := h2
  subst e
  refine wpAny_newObj_type (newEnv_comp ?_)
  generalize hD : sh2.heap.objs.size = D
  have hDn : Hp2 D = none := In2.hok.fresh (Nat.le_of_eq hD)
  obtain ⟨W, ⟨m0, w0⟩, tr⟩ := q D hDn
  generalize hu3 : ({ sh2 with heap := sh2.heap.push { cls := .type "dict", data := .dict #[] } } : Shared) = sh3
  have In3 : L2.Inv X pins σ (upd Hp2 D (.dK [])) sh3 := by
    rw [← hu3]
    refine In2.laid (t' := sh2.toks) (fun b o e => Heap.get?_push_of_some _ e) (Nat.le_of_eq hD) ?_
    rw [← hD]
    exact dk_empty sh2.heap In2.big
  have h3 : sh3.heap = sh2.heap.push { cls := .type "dict", data := .dict #[] } := by rw [← hu3]
  have sz : ∀ b ∈ fq, b < sh2.heap.objs.size := fun b hb => by
    obtain ⟨o, e, _⟩ := T.obj _ _ st2 b hb
    exact Heap.lt_size e
  have f3 : ∀ b ∈ fq, FpOk X pins (upd Hp2 D (.dK [])) b ∧ b < sh3.heap.objs.size := fun b hb => by
    have hlt := sz b hb
    refine ⟨⟨?_, (f2 b hb).2⟩, by rw [h3, Heap.size_push]; exact Nat.lt_succ_of_lt hlt⟩
    rw [upd_ne (by rw [← hD]; exact Nat.ne_of_lt hlt)]
    exact (f2 b hb).1
  have st3 : tu 0 sh3.heap := T.keep _ _ _ st2 fun b _ o e => by rw [h3]; exact Heap.get?_push_of_some _ e
  have In4 := block_start In3 ok hN f3
  have pg := hg sh3 (upd Hp2 D (.dK [])) sh3.heap.objs.size (cellsFrom (sh3.heap.objs.size + 1) scope.names (cloFrom X.env.cells scope.names [])) fq
  have pt := ht sh3 (upd Hp2 D (.dK [])) sh3.heap.objs.size (cellsFrom (sh3.heap.objs.size + 1) scope.names (cloFrom X.env.cells scope.names [])) fq
  have pk := hk sh3 (upd Hp2 D (.dK [])) sh3.heap.objs.size (cellsFrom (sh3.heap.objs.size + 1) scope.names (cloFrom X.env.cells scope.names [])) fq
  have pe := he sh3 (upd Hp2 D (.dK [])) sh3.heap.objs.size (cellsFrom (sh3.heap.objs.size + 1) scope.names (cloFrom X.env.cells scope.names [])) fq
  have pi1 := hi1 sh3 (upd Hp2 D (.dK [])) sh3.heap.objs.size (cellsFrom (sh3.heap.objs.size + 1) scope.names (cloFrom X.env.cells scope.names [])) fq
  have pg1 := hg1 sh3 (upd Hp2 D (.dK [])) sh3.heap.objs.size (cellsFrom (sh3.heap.objs.size + 1) scope.names (cloFrom X.env.cells scope.names [])) fq
  have pt1 := ht1 sh3 (upd Hp2 D (.dK [])) sh3.heap.objs.size (cellsFrom (sh3.heap.objs.size + 1) scope.names (cloFrom X.env.cells scope.names [])) fq
  show codeAny _ _ (.compStart (.DictComp kx vx [⟨tg, iter, ifs, 0⟩, ⟨tg1, iter1, jfs1, 0⟩] scope pos) 0 (.ref it) (.ref D) (compEnvC scope (cellsFrom (sh3.heap.objs.size + 1) scope.names (cloFrom X.env.cells scope.names [])) sh3.heap.objs.size X.env)) (compPost (model X.prog X.w) X.A X.xe use Qf (.ref D) sh3.heap.objs.size) { sh3 with heap := pushCells (sh3.heap.push { cls := .type "dict", data := .dict #[] }) scope.names }
  have nfq : ∀ b ∈ fq, (upd Hp2 D (.dK [])) b = none := fun b hb => (f3 b hb).1.1
  generalize hcv : compEnvC scope (cellsFrom (sh3.heap.objs.size + 1) scope.names (cloFrom X.env.cells scope.names [])) sh3.heap.objs.size X.env = ce at In4 pg pt pk pe pi1 pg1 pt1 ⊢
  have cL : ce.locals = sh3.heap.objs.size := by subst hcv; rfl
  generalize hH3 : upd Hp2 D (.dK []) = Hp3 at In3 In4 pg pt pk pe pi1 pg1 pt1 w0 nfq f3
  generalize hu4 : ({ sh3 with heap := pushCells (sh3.heap.push { cls := .type "dict", data := .dict #[] }) scope.names } : Shared) = sh4 at In4 ⊢
  have st4 : tu 0 sh4.heap := T.keep _ _ _ st3 fun b _ o e => by rw [← hu4]; exact pushCells_keeps _ _ _ _ (Heap.get?_push_of_some _ e)
  have sta : ∀ {σ' : L2.St} {H' : Hp} {s' : Shared}, L2.Inv (X.blk sh3 Hp3 scope ce fq) [] σ' H' s' → (∀ b ∈ fq, H' b = none) → ∀ b ∈ fq, FpOk (X.blk sh3 Hp3 scope ce fq) [] H' b := fun {σ' H' s'} I' hn b hb =>
    ⟨hn b hb, (I'.ok.exf b hb).1, I'.ok.exfs b hb, .inl hb, fun x c e => (I'.ok.exf b hb).2 x c e, fun p hp => absurd (show p ∈ ([] : List (Addr × Obj)) ++ [] from hp) (by simp)⟩
  have lp : codeAny (model X.prog X.w) X.A (.compLoop (.DictComp kx vx [⟨tg, iter, ifs, 0⟩, ⟨tg1, iter1, jfs1, 0⟩] scope pos) 0 (.ref it) (.ref D) ce) (compPost (model X.prog X.w) X.A X.xe use Qf (.ref D) sh3.heap.objs.size) sh4 := by
    refine dLoop_out (hs1 ce) (fun n s' => ∃ i H', L2.Inv (X.blk sh3 Hp3 scope ce fq) [] (wipe σ (own.map (·.2))) H' s' ∧ tu i s'.heap ∧ (∀ b ∈ fq, H' b = none) ∧ W i n H') ?_ m0 ⟨0, Hp3, In4, st4, nfq, w0⟩
    rintro n sh5 ⟨i, Hp5, In5, st5, n5, w5⟩
    rcases tr i n Hp5 w5 with ⟨stop, qq⟩ | ⟨go, Nx, hNx, step⟩
    · have td := T.done (X.blk sh3 Hp3 scope ce fq) rfl rfl rfl hc i [] sh5 _ Hp5 (fun _ _ => False) In5 (sta In5 n5) st5 stop
      refine thnF td fun r sh6 ⟨hr, In6⟩ => ?_
      subst hr
      have In7 : L2.Inv X pins σ Hp5 sh6 := In3.call' (ch := fq) In6.os In6.base In6.hok In6.bare fun b hb => ⟨(f3 b hb).1.2.2.2.1, (f3 b hb).1.2.1, (f3 b hb).1.2.2.2.2.1, (f3 b hb).1.2.2.2.2.2⟩
      have nC : Hp5 sh3.heap.objs.size = none := by
        have z : Hp5 ce.locals = none := In6.free
        rw [cL] at z
        exact z
      obtain ⟨m, hn, _⟩ := In6.loc
      have hn : sh6.heap.Ns ce.locals m := hn
      rw [cL] at hn
      exact hRR D sh3.heap.objs.size sh6 m Hp5 In7 qq hn (In3.fpOk (Nat.le_refl _) nC)
    · have ti := T.item (X.blk sh3 Hp3 scope ce fq) rfl rfl rfl hc i [] sh5 _ Hp5 (fun _ _ => False) In5 (sta In5 n5) st5 go
      refine thnF ti fun r sh6 ⟨u, hr, h6⟩ => ?_
      subst hr
      refine thnF h6 fun _ sh7 ⟨x, Hp7, In7, re7, y7, st7, n7⟩ => ?_
      have In7' := In7.pinned (sta In7 n7) (T.obj _ _ st7)
      refine thnF (pg.run _ sh7 _ Hp7 x u _ In7' re7 (step x Hp7 y7)) fun _ sh8 ⟨σ8, Hp8, In8, hw8, qu8⟩ => ?_
      refine thnF (pt.run _ sh8 σ8 Hp8 _ In8 qu8) fun b sh9 ⟨Hp9, In9, qu9⟩ => ?_
      have fi_ : ∀ {σ9 : L2.St} {s' : Shared} {H' : Hp}, L2.Inv (X.blk sh3 Hp3 scope ce fq) ([] ++ pinsAt fq sh7.heap) σ9 H' s' → (wipe σ (own.map (·.2))).length = σ9.length → (∀ (j : Nat) v, (wipe σ (own.map (·.2)))[j]? = some (some v) → σ9[j]? = some (some v)) → Nx H' →
          ∃ m, m < n ∧ ∃ i H', L2.Inv (X.blk sh3 Hp3 scope ce fq) [] (wipe σ (own.map (·.2))) H' s' ∧ tu i s'.heap ∧ (∀ b ∈ fq, H' b = none) ∧ W i m H' := fun {σ9 s' H'} I' hl hk nx => by
        obtain ⟨m', hm, w'⟩ := hNx H' nx
        have pin' : ∀ b ∈ fq, ∀ o, sh7.heap.get? b = some o → s'.heap.get? b = some o ∧ H' b = none := fun b hb o e =>
          let z := I'.pin (b, o) (List.mem_append_right _ (List.mem_append_right _ (mem_pinsAt hb e)))
          ⟨z.1, z.2.1⟩
        refine ⟨m', hm, i + 1, H', (I'.unpinned (pins := [])).weak hl hk, T.keep _ _ _ st7 fun b hb o e => (pin' b hb o e).1, fun b hb => ?_, w'⟩
        obtain ⟨o, e, _⟩ := T.obj _ _ st7 b hb
        exact (pin' b hb o e).2
      have hl8 : (wipe σ (own.map (·.2))).length = σ8.length := by rw [← hw8, wipe_length]
      have hk8 : ∀ (j : Nat) v, (wipe σ (own.map (·.2)))[j]? = some (some v) → σ8[j]? = some (some v) := fun j v e => by
        rw [← hw8] at e
        exact (wipe_some e).1
      have hk9 : ∀ (j : Nat) v, (wipe σ (own.map (·.2)))[j]? = some (some v) → (wipe σ8 vs1)[j]? = some (some v) := fun j v e => by
        rw [← hw8] at e
        obtain ⟨e1, e2⟩ := wipe_some e
        rw [wipe_out fun z => e2 (hv j z)]
        exact e1
      cases b with
      | false =>
        simp only [Bool.false_eq_true, if_false] at qu9 ⊢
        exact fi_ In9 hl8 hk8 qu9
      | true =>
        simp only [if_true] at qu9 ⊢
        refine thnF (pi1.run _ sh9 σ8 Hp9 _ In9 qu9) fun xv sh10 hx => thnF hx fun itv sh11 h11 => ?_
        obtain ⟨it1, fq1, tu1, J1, Hp11, e1, In11, T1, st11, f11, W1, ⟨m1, w1⟩, tr1⟩ := h11
        subst e1
        have sta1 : ∀ {H' : Hp}, (∀ b ∈ fq1, H' b = none) → ∀ b ∈ fq1, FpOk (X.blk sh3 Hp3 scope ce fq) ([] ++ pinsAt fq sh7.heap) H' b := fun hn b hb => ⟨hn b hb, (f11 b hb).2⟩
        have lp1 : codeAny (model X.prog X.w) X.A (.compLoop (.DictComp kx vx [⟨tg, iter, ifs, 0⟩, ⟨tg1, iter1, jfs1, 0⟩] scope pos) 1 (.ref it1) (.ref D) ce)
            (fun r s' => match r with
              | .ok _ => ∃ m, m < n ∧ ∃ i H', L2.Inv (X.blk sh3 Hp3 scope ce fq) [] (wipe σ (own.map (·.2))) H' s' ∧ tu i s'.heap ∧ (∀ b ∈ fq, H' b = none) ∧ W i m H'
              | .error _ => False) sh11 := by
          refine dLoop_in (fun k s' => ∃ j H', L2.Inv (X.blk sh3 Hp3 scope ce fq) ([] ++ pinsAt fq sh7.heap) (wipe σ8 vs1) H' s' ∧ tu1 j s'.heap ∧ (∀ b ∈ fq1, H' b = none) ∧ W1 j k H') ?_ m1 ⟨0, Hp11, In11.weak (wipe_length _ _) (fun j v e => (wipe_some e).1), st11, fun b hb => (f11 b hb).1, w1⟩
          rintro k sh12 ⟨j, Hp12, In12, st12, n12, w12⟩
          rcases tr1 j k Hp12 w12 with ⟨stop1, nx1⟩ | ⟨go1, Nx1, hNx1, step1⟩
          · refine thnF (T1.done (X.blk sh3 Hp3 scope ce fq) rfl rfl rfl hc j _ sh12 (wipe σ8 vs1) Hp12 (fun _ _ => False) In12 (sta1 n12) st12 stop1) fun r sh13 ⟨hr, In13⟩ => ?_
            subst hr
            exact fi_ In13 (hl8.trans (wipe_length σ8 vs1).symm) hk9 nx1
          · refine thnF (T1.item (X.blk sh3 Hp3 scope ce fq) rfl rfl rfl hc j _ sh12 (wipe σ8 vs1) Hp12 (fun _ _ => False) In12 (sta1 n12) st12 go1) fun r sh13 ⟨u1, hr, h13⟩ => ?_
            subst hr
            refine thnF h13 fun _ sh14 ⟨x1, Hp14, In14, re14, y14, st14, n14⟩ => ?_
            have In14' := In14.pinned (sta1 n14) (T1.obj _ _ st14)
            refine thnF (pg1.run _ sh14 (wipe σ8 vs1) Hp14 x1 u1 _ In14' re14 (step1 x1 Hp14 y14)) fun _ sh15 ⟨σ15, Hp15, In15, hw15, qu15⟩ => ?_
            refine thnF (pt1.run _ sh15 σ15 Hp15 _ In15 qu15) fun b1 sh16 ⟨Hp16, In16, qu16⟩ => ?_
            have fi1 : ∀ {s' : Shared} {H' : Hp}, L2.Inv (X.blk sh3 Hp3 scope ce fq) (([] ++ pinsAt fq sh7.heap) ++ pinsAt fq1 sh14.heap) σ15 H' s' → Nx1 H' → ∃ m, m < k ∧ ∃ j H', L2.Inv (X.blk sh3 Hp3 scope ce fq) ([] ++ pinsAt fq sh7.heap) (wipe σ8 vs1) H' s' ∧ tu1 j s'.heap ∧ (∀ b ∈ fq1, H' b = none) ∧ W1 j m H' := fun {s' H'} I' nx => by
              obtain ⟨m', hm, w'⟩ := hNx1 H' nx
              have pin' : ∀ b ∈ fq1, ∀ o, sh14.heap.get? b = some o → s'.heap.get? b = some o ∧ H' b = none := fun b hb o e =>
                let z := I'.pin (b, o) (List.mem_append_right _ (List.mem_append_right _ (mem_pinsAt hb e)))
                ⟨z.1, z.2.1⟩
              refine ⟨m', hm, j + 1, H', I'.unpinned.weak (by rw [← hw15, wipe_length]) (fun j v e => by rw [← hw15] at e; exact (wipe_some e).1), T1.keep _ _ _ st14 fun b hb o e => (pin' b hb o e).1, fun b hb => ?_, w'⟩
              obtain ⟨o, e, _⟩ := T1.obj _ _ st14 b hb
              exact (pin' b hb o e).2
            cases b1 with
            | false =>
              simp only [Bool.false_eq_true, if_false] at qu16 ⊢
              exact fi1 In16 qu16
            | true =>
              simp only [if_true] at qu16 ⊢
              refine thnF (pk.run _ sh16 σ15 Hp16 _ In16 qu16) fun z sh17 ⟨yk, Hp17, In17, re17, qu17⟩ => ?_
              refine thnF (pe.run _ sh17 σ15 Hp17 _ In17 qu17) fun z2 sh18 ⟨yv, Hp18, In18, re18, kvs, kk, ek, hD18, hz18, nx⟩ => ?_
              subst ek
              exact d_dictSet (X := X.blk sh3 Hp3 scope ce fq) In18 hD18 hz18 re17 re18 fun sh19 In19 => fi1 In19 nx
        exact dStart1_ok lp1 (T1.self X.A 0 _ _ _ st11 lp1)
  exact codeAny_compStart_dict lp (T.self X.A 0 _ _ _ st4 lp)
theorem pe_dc2 {kx vx tg iter tg1 iter1 : Expr} {ifs jfs1 : List Expr} {scope : Scope} {own : List (Str × Nat)} {vs1 : List Nat} {pos : Pos} {wi wi1 : TI} {g g1 : TG} {tt tt1 : TT} {tk te : TE} (hc : X.calm = true) (hN : X.N.Nodup) (hi : PI X tg iter wi) (ok : BlkOk X.N X.env.scope scope own) (hv : ∀ i ∈ vs1, i ∈ own.map (·.2))
    (hg : ∀ (s : Shared) (H : Hp) (C : Addr) (cl : List (Str × Addr)) (fq : List Addr), PG (X.blk s H scope (compEnvC scope cl C X.env) fq) tg g) (ht : ∀ (s : Shared) (H : Hp) (C : Addr) (cl : List (Str × Addr)) (fq : List Addr), PTs (X.blk s H scope (compEnvC scope cl C X.env) fq) ifs tt)
    (hi1 : ∀ (s : Shared) (H : Hp) (C : Addr) (cl : List (Str × Addr)) (fq : List Addr), PI (X.blk s H scope (compEnvC scope cl C X.env) fq) tg1 iter1 wi1)
    (hg1 : ∀ (s : Shared) (H : Hp) (C : Addr) (cl : List (Str × Addr)) (fq : List Addr), PG (X.blk s H scope (compEnvC scope cl C X.env) fq) tg1 g1) (ht1 : ∀ (s : Shared) (H : Hp) (C : Addr) (cl : List (Str × Addr)) (fq : List Addr), PTs (X.blk s H scope (compEnvC scope cl C X.env) fq) jfs1 tt1)
    (hk : ∀ (s : Shared) (H : Hp) (C : Addr) (cl : List (Str × Addr)) (fq : List Addr), PE (X.blk s H scope (compEnvC scope cl C X.env) fq) kx tk)
    (he : ∀ (s : Shared) (H : Hp) (C : Addr) (cl : List (Str × Addr)) (fq : List Addr), PE (X.blk s H scope (compEnvC scope cl C X.env) fq) vx te) (hs : ∀ x, foldedSetIterable iter X.env x = pure x := by intro _; rfl) (hs1 : ∀ env x, foldedSetIterable iter1 env x = pure x := by intro _ _; rfl) :
    PE X (.DictComp kx vx [⟨tg, iter, ifs, 0⟩, ⟨tg1, iter1, jfs1, 0⟩] scope pos) (tDc2 wi g tt wi1 g1 tt1 tk te (own.map (·.2)) vs1) := by
  refine ⟨fun pins s σ H Q I h => ?_⟩
  rw [arm_eval_DictComp]
  refine dc2_core hc hN I hi ok hv hg ht hk he hs hi1 hg1 ht1 hs1 h fun D C s' m H' I' q hn f => ⟨m, hn, fun h'' sb => ?_⟩
  obtain ⟨f0, f1, f2, f3, f4, f5⟩ := f
  exact ⟨.ref D, H', I'.turned (t' := s'.toks) (fun b o hb e => (sb.2 b hb).trans e) f0 f1 f3 f4 f5, rfl, q⟩
end
end RR

set_option maxHeartbeats 4000000
namespace RR
open PySem PySem.Spec PyProof.Rows L2
section
variable {X : Cx} {a b c e tg iter elt tg1 iter1 kx vx : Expr} {pos p : Pos} {ma mb mc mk mv : ME} {nc nc1 : MB} {mi mi1 : MI}
theorem se_dc2Core {T T1 : Tg} {own own1 : List Nat} {mu : Bool} (hT : ∀ i ∈ T.slots, i ∈ own) (hT1 : ∀ i ∈ T1.slots, i ∈ own1) {σ : L2.St} {H : Hp} {Q : VK}
    (h : tev (gX X) (mDc2 mu mi T own nc mi1 T1 own1 nc1 mk mv) σ H Q) :
    tDc2 (tSI (gX X) mi) (hTg X.K T) (teb (gX X) nc) (tSI (gX X) mi1) (hTg X.K T1) (teb (gX X) nc1) (tev (gX X) mk) (tev (gX X) mv) own own1 σ H Q := by
  obtain ⟨F, ι, objs, σd, rel, sr, p⟩ := h
  obtain ⟨xs, o1, e1, p⟩ := p.bind
  refine ⟨F, ι, objs, σd, rel, sr, ?_⟩
  rw [e1]
  intro J ι1 H1 rel1 ex1 yl Dd hDd
  have p := p.at ex1
  have hFD : ∀ a, FD F Dd a → F a ∨ H1 a = none := fun a z => z.elim .inl fun z => .inr (by rw [z]; exact hDd)
  let K : List D → DA → Objs → R W := fun ds acc o => (dcGo2 (dc2Turn T own nc mi1 T1 own1 nc1 mk mv σd) ds acc o).bind fun acc o => dicMk mu acc o
  refine ⟨fun i m H' => m = xs.length - i ∧ i ≤ xs.length ∧ ∃ ι' objs', DcS (gX X) F Dd ι1 o1 H1 (K (xs.drop i)) Q H' ι' objs',
    ⟨xs.length, by simp, Nat.zero_le _, ι1, o1, DcS.start rel1 hDd (by rw [List.drop_zero]; exact p)⟩, ?_⟩
  rintro i m H' ⟨rfl, hi', ι', objs', S⟩
  have ex' : Ext ι1 o1 H1 ι' objs' H' := let ⟨_, _, _, e, _⟩ := S; e
  obtain ⟨y1, y2⟩ := yl i (FD F Dd) ι' objs' H' (carryF ex' hFD) S.rel
  by_cases hlt : i < xs.length
  · obtain ⟨go, y⟩ := y1 xs[i] (List.getElem?_eq_getElem hlt)
    refine .inr ⟨go, fun H2 => i + 1 ≤ xs.length ∧ ∃ ι2 objs2, DcS (gX X) F Dd ι1 o1 H1 (K (xs.drop (i + 1))) Q H2 ι2 objs2, fun H2 hN => ⟨xs.length - (i + 1), by omega, rfl, hN⟩, fun x H2 hy => ?_⟩
    obtain ⟨rel2, ex2, rv2⟩ := y x H2 hy
    have s0 : SRel (gX X) ι' (Al (FD F Dd) ι' objs') H2 σd σ := (sr.ext ex1).carP (carryF (ex'.trans ex2) hFD) (ex'.trans ex2).pre
    have kd : ∀ acc o, K (xs.drop i) acc o = (mTg T (.v xs[i]) (wipeD σd own) o).bind fun σ o => (nc σ o).bind fun kk o => (if kk = true then (mi1 σ o).bind fun ys o => dcGo (dcTurn T1 own1 nc1 mk mv σ) ys acc o else .ok acc o).bind fun acc o => K (xs.drop (i + 1)) acc o := by
      intro acc o
      show (dcGo2 (dc2Turn T own nc mi1 T1 own1 nc1 mk mv σd) (xs.drop i) acc o).bind _ = _
      rw [List.drop_eq_getElem_cons hlt, dcGo2, R.bind_assoc]
      rw [show dc2Turn T own nc mi1 T1 own1 nc1 mk mv σd xs[i] acc o = (mTg T (.v xs[i]) (wipeD σd own) o).bind fun σ o => (nc σ o).bind fun k o => if k = true then (mi1 σ o).bind fun ys o => dcGo (dcTurn T1 own1 nc1 mk mv σ) ys acc o else .ok acc o from rfl, R.bind_assoc]
      congr 1; funext σ o
      rw [R.bind_assoc]
    obtain ⟨ds0, kvs0, _, _, _, _, pz⟩ := id S
    have pa : Post (gX X) F ι1 o1 H1 (K (xs.drop i) (kvs0.map (fun p => keyD p.1), ds0) objs') Q := pz
    rw [kd] at pa
    obtain ⟨σ2, o2, e4, pb⟩ := pa.bind
    clear pa pz
    obtain ⟨rfl, hT2⟩ := tg_ok hT s0 rv2 e4
    refine hT2 _ fun σ3 sr3 hw => ⟨hw, ?_⟩
    obtain ⟨kk, o5, e5, pc⟩ := pb.bind
    refine ⟨FD F Dd, ι', o2, σ2, rel2, sr3, ?_⟩
    rw [e5]
    intro ι6 H6 rel6 ex6
    have S6 : DcS (gX X) F Dd ι1 o1 H1 (fun acc o => (if kk = true then (mi1 σ2 o).bind fun ys o => dcGo (dcTurn T1 own1 nc1 mk mv σ2) ys acc o else .ok acc o).bind fun acc o => K (xs.drop (i + 1)) acc o) Q H6 ι6 o5 := S.on rel6 (ex2.trans ex6) fun acc => by rw [kd, e4, R.bind_ok, e5, R.bind_ok]
    cases kk with
    | false =>
      simp only [Bool.false_eq_true, if_false, R.bind_ok] at S6 ⊢
      exact ⟨hlt, ι6, o5, S6⟩
    | true =>
      simp only [if_true, R.bind_assoc] at S6 pc ⊢
      obtain ⟨ys0, o7, e7, pd⟩ := pc.bind
      refine ⟨FD F Dd, ι6, o5, σ2, rel6, sr3.ext ex6, ?_⟩
      cases e8 : mi1 σ2 o5 with
      | exc _ _ => rw [e8] at e7; cases e7
      | stuck => rw [e8] at e7; cases e7
      | ok ys o8 =>
      intro J1 ι8 H8 rel8 ex8 yl1
      have S8 : DcS (gX X) F Dd ι1 o1 H1 (fun acc o => (dcGo (dcTurn T1 own1 nc1 mk mv σ2) ys acc o).bind fun acc o => K (xs.drop (i + 1)) acc o) Q H8 ι8 o8 := S6.on rel8 ex8 fun acc => by rw [e8]; rfl
      have sr8 : SRel (gX X) ι8 (Al (FD F Dd) ι8 o8) H8 σ2 σ3 := (sr3.ext ex6).ext ex8
      refine ⟨fun j m H' => m = ys.length - j ∧ j ≤ ys.length ∧ ∃ ι' objs', DcS (gX X) F Dd ι1 o1 H1 (fun acc o => (dcGo (dcTurn T1 own1 nc1 mk mv σ2) (ys.drop j) acc o).bind fun acc o => K (xs.drop (i + 1)) acc o) Q H' ι' objs' ∧ Carry (Al (FD F Dd) ι8 o8) H8 (Al (FD F Dd) ι' objs') H' ∧ ι8 <+: ι',
        ⟨ys.length, by simp, Nat.zero_le _, ι8, o8, by rw [List.drop_zero]; exact S8, .refl, List.prefix_rfl⟩, ?_⟩
      rintro j m1 H9 ⟨rfl, hj', ι9, o9, S9, ca9, pre9⟩
      obtain ⟨z1, z2⟩ := yl1 j (FD F Dd) ι9 o9 H9 ca9 S9.rel
      by_cases hjt : j < ys.length
      · obtain ⟨go1, yy⟩ := z1 ys[j] (List.getElem?_eq_getElem hjt)
        let K1 : DA → Objs → R W := fun acc o => (dcGo (dcTurn T1 own1 nc1 mk mv σ2) (ys.drop (j + 1)) acc o).bind fun acc o => K (xs.drop (i + 1)) acc o
        refine .inr ⟨go1, fun H2 => j + 1 ≤ ys.length ∧ ∃ ι2 objs2, DcS (gX X) F Dd ι1 o1 H1 K1 Q H2 ι2 objs2 ∧ Carry (Al (FD F Dd) ι8 o8) H8 (Al (FD F Dd) ι2 objs2) H2 ∧ ι8 <+: ι2,
          fun H2 hN => ⟨ys.length - (j + 1), by omega, rfl, hN⟩, fun x1 H10 hy1 => ?_⟩
        obtain ⟨rel10, ex10, rv10⟩ := yy x1 H10 hy1
        have ca10 : Carry (Al (FD F Dd) ι8 o8) H8 (Al (FD F Dd) ι9 o9) H10 := ca9.trans ex10.carry
        have s10 : SRel (gX X) ι9 (Al (FD F Dd) ι9 o9) H10 σ2 σ3 := sr8.carP ca10 pre9
        have kd1 : ∀ acc o, (dcGo (dcTurn T1 own1 nc1 mk mv σ2) (ys.drop j) acc o).bind (fun acc o => K (xs.drop (i + 1)) acc o) = (mTg T1 (.v ys[j]) (wipeD σ2 own1) o).bind fun σ o => (nc1 σ o).bind fun kk o => if kk = true then (mk σ o).bind fun wk o => (mv σ o).bind fun wv o => match wk, wv with
            | .v k, .v v => if (keyOf k).isSome = true ∧ acc.1.length < sizeLine then K1 (dput acc.1 acc.2 k v) o else .stuck
            | _, _ => .stuck else K1 acc o := by
          intro acc o
          rw [List.drop_eq_getElem_cons hjt, dcGo, R.bind_assoc]
          rw [show dcTurn T1 own1 nc1 mk mv σ2 ys[j] o = (mTg T1 (.v ys[j]) (wipeD σ2 own1) o).bind fun σ o => (nc1 σ o).bind fun k o => if k = true then (mk σ o).bind fun wk o => (mv σ o).bind fun wv o => match wk, wv with
            | .v k, .v v => .ok (some (k, v)) o
            | _, _ => .stuck else .ok none o from rfl, R.bind_assoc]
          congr 1; funext σ o
          rw [R.bind_assoc]
          congr 1; funext kk o
          cases kk
          · rfl
          · simp only [if_true, R.bind_assoc]
            congr 1; funext wk o
            congr 1; funext wv o
            cases wk <;> cases wv <;> first | rfl | skip
            simp only [R.bind_ok]
            split <;> rfl
        obtain ⟨ds9, kvs9, _, _, _, _, p9⟩ := id S9
        have r9 : Post (gX X) F ι1 o1 H1 ((dcGo (dcTurn T1 own1 nc1 mk mv σ2) (ys.drop j) (kvs9.map (fun p => keyD p.1), ds9) o9).bind fun acc o => K (xs.drop (i + 1)) acc o) Q := p9
        rw [kd1] at r9
        obtain ⟨τ2, q2, f4, t9⟩ := r9.bind
        clear r9 p9
        obtain ⟨rfl, hT3⟩ := tg_ok hT1 s10 rv10 f4
        refine hT3 _ fun τ3 tr3 hw1 => ⟨hw1, ?_⟩
        obtain ⟨kb, q5, f5, u9⟩ := t9.bind
        refine ⟨FD F Dd, ι9, q2, τ2, rel10, tr3, ?_⟩
        rw [f5]
        intro ι11 H11 rel11 ex11
        have ca11 : Carry (Al (FD F Dd) ι8 o8) H8 (Al (FD F Dd) ι11 q5) H11 := ca10.trans ex11.carry
        have pre11 : ι8 <+: ι11 := pre9.trans ex11.pre
        have S11 : DcS (gX X) F Dd ι1 o1 H1 (fun acc o => if kb = true then (mk τ2 o).bind fun wk o => (mv τ2 o).bind fun wv o => match wk, wv with
            | .v k, .v v => if (keyOf k).isSome = true ∧ acc.1.length < sizeLine then K1 (dput acc.1 acc.2 k v) o else .stuck
            | _, _ => .stuck else K1 acc o) Q H11 ι11 q5 := S9.on rel11 (ex10.trans ex11) fun acc => by rw [kd1, f4, R.bind_ok, f5, R.bind_ok]
        cases kb with
        | false =>
          simp only [Bool.false_eq_true, if_false] at S11 ⊢
          exact ⟨hjt, ι11, q5, S11, ca11, pre11⟩
        | true =>
          simp only [if_true] at S11 u9 ⊢
          obtain ⟨wk, q7, f7, v9⟩ := u9.bind
          obtain ⟨wv, q8, f8, w9⟩ := v9.bind
          refine ⟨FD F Dd, ι11, q5, τ2, rel11, tr3.ext ex11, ?_⟩
          rw [f7]
          intro y12 ι12 H12 rel12 ex12 r12
          refine ⟨FD F Dd, ι12, q7, τ2, rel12, (tr3.ext ex11).ext ex12, ?_⟩
          rw [f8]
          intro z13 ι13 H13 rel13 ex13 r13
          replace r12 := r12.ext ex13
          cases wk with
          | o _ => cases wv <;> exact w9.elim
          | v kd' =>
            cases wv with
            | o _ => exact w9.elim
            | v vd =>
              have S13 : DcS (gX X) F Dd ι1 o1 H1 (fun acc o => if (keyOf kd').isSome = true ∧ acc.1.length < sizeLine then K1 (dput acc.1 acc.2 kd' vd) o else .stuck) Q H13 ι13 q8 := S11.on rel13 (ex12.trans ex13) fun acc => by rw [f7, R.bind_ok, f8, R.bind_ok]
              obtain ⟨kvs, kk, h1, h2, h3, h4⟩ := S13.more (k := K1) hDd r12 r13
              exact ⟨kvs, kk, h1, h2, h3, hjt, ι13, q8, h4, ((ca11.trans ex12.carry).trans ex13.carry).trans growCarryD, (pre11.trans ex12.pre).trans ex13.pre⟩
      · have hj2 : j = ys.length := by omega
        subst hj2
        refine .inl ⟨z2 (Nat.le_refl _), hlt, ι9, o9, ?_⟩
        rw [List.drop_length] at S9
        exact S9
  · have hi2 : i = xs.length := by omega
    subst hi2
    refine .inl ⟨y2 (Nat.le_refl _), dc_done (mu := mu) (ι' := ι') (objs' := objs') hDd rel1 ?_⟩
    obtain ⟨ds0, kvs0, z1, z2, z3, z4, pz⟩ := S
    have pz : Post (gX X) F ι1 o1 H1 (K (xs.drop xs.length) (kvs0.map (fun p => keyD p.1), ds0) objs') Q := pz
    have ke : ∀ acc o, K (xs.drop xs.length) acc o = dicMk mu acc o := fun acc o => by
      show (dcGo2 (dc2Turn T own nc mi1 T1 own1 nc1 mk mv σd) (xs.drop xs.length) acc o).bind _ = _
      rw [List.drop_length]; rfl
    rw [ke] at pz
    exact ⟨ds0, kvs0, z1, z2, z3, z4, pz⟩
theorem se_dc2 {ifs ifs1 : List Expr} {scope : Scope} {own : List (Str × Nat)} {T T1 : Tg} {own1 : List Nat} {mu : Bool} (hc : X.calm = true) (hN : X.N.Nodup) (hi : SI X tg iter mi) (ok : BlkOk X.N X.env.scope scope own) (hv : ∀ i ∈ own1, i ∈ own.map (·.2))
    (hT : ∀ i ∈ T.slots, i ∈ own.map (·.2)) (hT1 : ∀ i ∈ T1.slots, i ∈ own1)
    (hg : ∀ (s : Shared) (H : Hp) (C : Addr) (cl : List (Str × Addr)) (fp : List Addr), PG (X.blk s H scope (compEnvC scope cl C X.env) fp) tg (hTg X.K T))
    (ht : ∀ (s : Shared) (H : Hp) (C : Addr) (cl : List (Str × Addr)) (fp : List Addr), PTs (X.blk s H scope (compEnvC scope cl C X.env) fp) ifs (teb (gX X) nc))
    (hi1 : ∀ (s : Shared) (H : Hp) (C : Addr) (cl : List (Str × Addr)) (fp : List Addr), SI (X.blk s H scope (compEnvC scope cl C X.env) fp) tg1 iter1 mi1)
    (hg1 : ∀ (s : Shared) (H : Hp) (C : Addr) (cl : List (Str × Addr)) (fp : List Addr), PG (X.blk s H scope (compEnvC scope cl C X.env) fp) tg1 (hTg X.K T1))
    (ht1 : ∀ (s : Shared) (H : Hp) (C : Addr) (cl : List (Str × Addr)) (fp : List Addr), PTs (X.blk s H scope (compEnvC scope cl C X.env) fp) ifs1 (teb (gX X) nc1))
    (hk : ∀ (s : Shared) (H : Hp) (C : Addr) (cl : List (Str × Addr)) (fp : List Addr), SE (X.blk s H scope (compEnvC scope cl C X.env) fp) kx mk)
    (he : ∀ (s : Shared) (H : Hp) (C : Addr) (cl : List (Str × Addr)) (fp : List Addr), SE (X.blk s H scope (compEnvC scope cl C X.env) fp) vx mv)
    (hs : ∀ x, foldedSetIterable iter X.env x = pure x) (hs1 : ∀ env x, foldedSetIterable iter1 env x = pure x) : SE X (.DictComp kx vx [⟨tg, iter, ifs, 0⟩, ⟨tg1, iter1, ifs1, 0⟩] scope pos) (mDc2 mu mi T (own.map (·.2)) nc mi1 T1 own1 nc1 mk mv) :=
  (pe_dc2 hc hN hi ok hv hg ht hi1 hg1 ht1 hk he hs hs1).weak fun σ H Q h => se_dc2Core hT hT1 h
end
end RR

set_option maxHeartbeats 4000000
namespace RR
open PySem PySem.Spec PyProof.Rows L2
/-! ### name = {..} -/
section
variable {X : Cx} {kx vx tg iter : Expr} {ifs : List Expr} {scope : Scope} {own : List (Str × Nat)} {pos spos py : Pos} {i : Nat} {y : Str}
theorem ps_setDc {wi : TI} {g : TG} {tt : TT} {tk te : TE} (hc : X.calm = true) (hN : X.N.Nodup) (hy : X.N[i]? = some y) (hyl : X.env.scope.names.lookup y = some .local)
    (hsw : swapsWith (.DictComp kx vx [⟨tg, iter, ifs, 0⟩] scope pos) (some (.Name y py)) spos.line X.env = pure true) (hi : PI X tg iter wi) (ok : BlkOk X.N X.env.scope scope own)
    (hg : ∀ (s : Shared) (H : Hp) (C : Addr) (cl : List (Str × Addr)) (fq : List Addr), PG (X.blk s H scope (compEnvC scope cl C X.env) fq) tg g) (ht : ∀ (s : Shared) (H : Hp) (C : Addr) (cl : List (Str × Addr)) (fq : List Addr), PTs (X.blk s H scope (compEnvC scope cl C X.env) fq) ifs tt)
    (hk : ∀ (s : Shared) (H : Hp) (C : Addr) (cl : List (Str × Addr)) (fq : List Addr), PE (X.blk s H scope (compEnvC scope cl C X.env) fq) kx tk)
    (he : ∀ (s : Shared) (H : Hp) (C : Addr) (cl : List (Str × Addr)) (fq : List Addr), PE (X.blk s H scope (compEnvC scope cl C X.env) fq) vx te) (hs : ∀ x, foldedSetIterable iter X.env x = pure x) :
    PS X (.Assign [.Name y py] (.DictComp kx vx [⟨tg, iter, ifs, 0⟩] scope pos) spos) (tAsg (tDc wi g tt tk te (own.map (·.2))) (gName i)) := by
  refine ⟨fun pins s σ H Dn I h => ?_⟩
  rw [exec_Assign_Name_used _ _ _ _ hsw]
  refine wpAny_bind (wpAny_standAt (wpAny_bind ?_))
  show wpAny _ X.A (do let _ ← comprehension (.DictComp kx vx [⟨tg, iter, ifs, 0⟩] scope pos) scope X.env (firstIterPos [⟨tg, iter, ifs, 0⟩] pos) newDict false (eval iter X.env) (some (assign (.Name y py) X.env))) _ _ s
  have h : tDc wi g tt tk te (own.map (·.2)) σ H (fun x H1 => gName i x σ H1 Dn.nx) := h
  refine wpAny_bind (thn (dc_core (Qf := fun _ s' => SP X pins Dn .next s') hc hN I hi ok hg ht hk he hs h fun L C s' m H' I' q hn f => ?_) fun _ s' hq => wpAny_pure (wpAny_pure hq))
  show wpAny _ _ (assign (.Name y py) X.env (.ref L)) _ _ _
  refine wpAny_assign_Name (store_ok2 (v := V.ref L) I' hN hy (.inl hyl) rfl (fun sz Iz ⟨a, sb, ha⟩ => ?_) (.inr hyl))
  obtain ⟨f0, f1, f2, f3, f4, f5⟩ := f
  have haC : C ≠ a := by
    rcases ha with z | z
    · rw [z]; exact f1
    · exact fun e => f4 y a z e.symm
  refine ⟨m, hn.sameBut sb haC, fun hz sbz => ?_⟩
  exact ⟨_, H', Iz.turned (t' := sz.toks) (fun b o hb e => (sbz.2 b hb).trans e) f0 f1 f3 f4 f5, q⟩
theorem ss_setDc {T : Tg} {mu : Bool} {mk mv : ME} {nc : MB} {mi : MI} (hc : X.calm = true) (hN : X.N.Nodup) (hy : X.N[i]? = some y) (hyl : X.env.scope.names.lookup y = some .local)
    (hsw : swapsWith (.DictComp kx vx [⟨tg, iter, ifs, 0⟩] scope pos) (some (.Name y py)) spos.line X.env = pure true) (hi : SI X tg iter mi) (ok : BlkOk X.N X.env.scope scope own) (hT : ∀ i ∈ T.slots, i ∈ own.map (·.2))
    (hg : ∀ (s : Shared) (H : Hp) (C : Addr) (cl : List (Str × Addr)) (fp : List Addr), PG (X.blk s H scope (compEnvC scope cl C X.env) fp) tg (hTg X.K T))
    (ht : ∀ (s : Shared) (H : Hp) (C : Addr) (cl : List (Str × Addr)) (fp : List Addr), PTs (X.blk s H scope (compEnvC scope cl C X.env) fp) ifs (teb (gX X) nc))
    (hk : ∀ (s : Shared) (H : Hp) (C : Addr) (cl : List (Str × Addr)) (fp : List Addr), SE (X.blk s H scope (compEnvC scope cl C X.env) fp) kx mk)
    (he : ∀ (s : Shared) (H : Hp) (C : Addr) (cl : List (Str × Addr)) (fp : List Addr), SE (X.blk s H scope (compEnvC scope cl C X.env) fp) vx mv)
    (hs : ∀ x, foldedSetIterable iter X.env x = pure x) : SS X (.Assign [.Name y py] (.DictComp kx vx [⟨tg, iter, ifs, 0⟩] scope pos) spos) (mAsg (mDc mu mi T (own.map (·.2)) nc mk mv) (gNm i)) := by
  refine (ps_setDc (wi := tSI (gX X) mi) (tk := tev (gX X) mk) (te := tev (gX X) mv) hc hN hy hyl hsw hi ok hg ht hk he hs).weak fun Dn σ H ⟨F, ι, objs, σd, rel, sr, p⟩ => ?_
  obtain ⟨w, o1, e1, p⟩ := p.bind
  refine se_dcCore (mu := mu) hT ⟨F, ι, objs, σd, rel, sr, ?_⟩
  rw [e1]
  intro v ι1 H1 rel1 ex1 r1
  exact p ι1 H1 _ rel1 ex1 ((sr.ext ex1).set i r1)
end
/-! ### name = {x: True for x in name}: of a dict's keys, too -/
def keysAll (b : Bool) (ks : List D) : DA := ks.foldl (fun acc k => dput acc.1 acc.2 k (.bl b)) ([], [])
def mDcK (mu : Bool) (i j : Nat) (own : List Nat) (b : Bool) : ME := fun σ o => match σ[i]? with
  | some (some w) => match dicW o w with
    | some (ks, _) => if j < σ.length ∧ ks.length < sizeLine then dicMk mu (keysAll b ks) o else .stuck
    | none => mDc mu (mSeq (mVar i)) (.one j) own mYes (mVar j) (mConst (.bl b)) σ o
  | _ => .stuck
def putAll (b : Bool) (kvs : List (Key × V)) : List (Key × V) := kvs.foldl (fun acc p => putK acc p.1 (.bl b)) []
theorem putAll_len (b : Bool) (kvs : List (Key × V)) : (putAll b kvs).length ≤ kvs.length := by
  have gen : ∀ (kvs acc : List (Key × V)), (kvs.foldl (fun acc p => putK acc p.1 (.bl b)) acc).length ≤ acc.length + kvs.length := by
    intro kvs
    induction kvs with
    | nil => intro acc; simp
    | cons p kvs ih =>
      intro acc
      rw [List.foldl_cons]
      refine Nat.le_trans (ih _) ?_
      have := length_putK acc p.1 (V.bl b)
      simp; omega
  simpa [putAll] using gen kvs []
theorem keysAll_rel {g : GE} {A : Addr → Prop} {H : Hp} (b : Bool) (kvs : List (Key × V)) : (keysAll b (kvs.map fun p => keyD p.1)).1 = (putAll b kvs).map (fun p => keyD p.1) ∧ RVs g A H (keysAll b (kvs.map fun p => keyD p.1)).2 ((putAll b kvs).map (·.2)) := by
  have gen : ∀ (kvs acc : List (Key × V)) (da : DA), da.1 = acc.map (fun p => keyD p.1) → RVs g A H da.2 (acc.map (·.2)) →
      ((kvs.map fun p => keyD p.1).foldl (fun acc k => dput acc.1 acc.2 k (.bl b)) da).1 = (kvs.foldl (fun acc p => putK acc p.1 (.bl b)) acc).map (fun p => keyD p.1) ∧ RVs g A H ((kvs.map fun p => keyD p.1).foldl (fun acc k => dput acc.1 acc.2 k (.bl b)) da).2 ((kvs.foldl (fun acc p => putK acc p.1 (.bl b)) acc).map (·.2)) := by
    intro kvs
    induction kvs with
    | nil => intro acc da h1 h2; exact ⟨h1, h2⟩
    | cons p kvs ih =>
      intro acc da h1 h2
      rw [List.map_cons, List.foldl_cons, List.foldl_cons]
      have hd : RV g A H (.bl b) (.bl b) := by simp only [RV]
      obtain ⟨d1, d2⟩ := dput_rel p.1 hd h2
      rw [← h1] at d1 d2
      exact ih _ _ d1 d2
  exact gen kvs [] ([], []) rfl (by simp only [List.map_nil, RVs])
section
variable {X : Cx} {scope : Scope} {own : List (Str × Nat)} {pos spos py p1 p2 p3 p4 : Pos} {q i j kc : Nat} {x y z : Str} {b : Bool} {mu : Bool}
theorem ss_setDcK (hc : X.calm = true) (hN : X.N.Nodup) (hz : X.N[q]? = some z) (hzl : X.env.scope.names.lookup z = some .local)
    (hsw : swapsWith (.DictComp (.Name x p1) (.Constant (.bool b) kc p4) [⟨.Name x p2, .Name y p3, [], 0⟩] scope pos) (some (.Name z py)) spos.line X.env = pure true) (hy : PE X (.Name y p3) (tVar i)) (ok : BlkOk X.N X.env.scope scope own) (hj : j ∈ own.map (·.2))
    (hg : ∀ (s : Shared) (H : Hp) (C : Addr) (cl : List (Str × Addr)) (fp : List Addr), PG (X.blk s H scope (compEnvC scope cl C X.env) fp) (.Name x p2) (gName j))
    (hk : ∀ (s : Shared) (H : Hp) (C : Addr) (cl : List (Str × Addr)) (fp : List Addr), PE (X.blk s H scope (compEnvC scope cl C X.env) fp) (.Name x p1) (tVar j))
    (old : SS X (.Assign [.Name z py] (.DictComp (.Name x p1) (.Constant (.bool b) kc p4) [⟨.Name x p2, .Name y p3, [], 0⟩] scope pos) spos) (mAsg (mDc mu (mSeq (mVar i)) (.one j) (own.map (·.2)) mYes (mVar j) (mConst (.bl b))) (gNm q))) :
    SS X (.Assign [.Name z py] (.DictComp (.Name x p1) (.Constant (.bool b) kc p4) [⟨.Name x p2, .Name y p3, [], 0⟩] scope pos) spos) (mAsg (mDcK mu i j (own.map (·.2)) b) (gNm q)) := by
  have new := ps_lock (ps_setDc (wi := iKeys (tVar i)) (g := gName j) (tt := tYes) (tk := tVar j) (te := tC (.bl b)) hc hN hz hzl hsw (pi_keys hy) ok hg (fun _ _ _ _ _ => pts_nil) hk (fun _ _ _ _ _ => pe_bl) (fun _ => rfl))
  refine ⟨fun pins s σ H Dn I ⟨F, ι, objs, σd, rel, sr, p⟩ => ?_⟩
  obtain ⟨w0, o1, e1, p⟩ := p.bind
  unfold mDcK at e1
  split at e1
  case h_2 => cases e1
  rename_i w hw
  split at e1
  case h_2 =>
    refine old.run pins s σ H Dn I ⟨F, ι, objs, σd, rel, sr, ?_⟩
    show PostS _ _ _ _ _ ((mDc mu (mSeq (mVar i)) (.one j) (own.map (·.2)) mYes (mVar j) (mConst (.bl b)) σd objs).bind _) _
    rw [e1]
    exact p
  rename_i ks vs hd
  split at e1
  case isFalse => cases e1
  rename_i hlen
  obtain ⟨v, hv, kv⟩ := sr.2 i w hw
  obtain ⟨a, kvs, rfl, hq, rfl, hvs⟩ := dicW_ok rel kv hd
  have hjl : j < σ.length := by have := sr.1; have := hlen.1; omega
  have hkl : kvs.length < sizeLine := by simpa using hlen.2
  refine new.run pins s σ H Dn I ⟨a, .dK kvs, hq, trivial, fun od => ?_⟩
  refine ⟨.ref a, hv, a, od, rfl, .inl ⟨kvs, upd_same, ?_⟩⟩
  intro Dd hDd
  have hne : Dd ≠ a := fun z => by rw [z, upd_same] at hDd; cases hDd
  have hDn : H Dd = none := by rw [upd_ne hne] at hDd; exact hDd
  refine ⟨fun n m H' => n ≤ kvs.length ∧ m = kvs.length - n ∧ H' = upd (upd H a (.frz od (.dK kvs))) Dd (.dK (putAll b (kvs.take n))), ⟨kvs.length, Nat.zero_le _, by simp, by simp [putAll]⟩, ?_⟩
  rintro n m H' ⟨hn, rfl, rfl⟩
  have hfz : upd (upd H a (.frz od (.dK kvs))) Dd (.dK (putAll b (kvs.take n))) a = some (.frz od (.dK kvs)) := by rw [upd_ne (fun z => hne z.symm), upd_same]
  by_cases hlt : n < kvs.length
  · refine .inr ⟨⟨hfz, hlt⟩, fun H2 => H2 = upd (upd H a (.frz od (.dK kvs))) Dd (.dK (putAll b (kvs.take (n + 1)))), fun H2 e => ⟨kvs.length - (n + 1), by omega, by omega, rfl, e⟩, ?_⟩
    rintro u H2 ⟨rfl, k, val, hk1, rfl⟩
    refine ⟨by rw [wipe_set hj, wipe_wipe], ?_⟩
    show tYes _ _ _
    have hset : ((wipe σ (own.map (·.2))).set j (some (kV k)))[j]? = some (some (kV k)) := by rw [List.getElem?_set_self (by rw [wipe_length]; exact hjl)]
    refine ⟨kV k, hset, putAll b (kvs.take n), k, rfl, upd_same, ?_, ?_⟩
    · have := putAll_len b (kvs.take n)
      rw [List.length_take] at this
      omega
    · have e : putAll b (kvs.take (n + 1)) = putK (putAll b (kvs.take n)) k (.bl b) := by
        rw [List.take_add_one, hk1]
        simp [putAll, List.foldl_append]
      rw [e]
      funext c
      by_cases hcD : c = Dd
      · rw [hcD, upd_same, upd_same]
      · rw [upd_ne hcD, upd_ne hcD, upd_ne hcD]
  · have hn2 : n = kvs.length := by omega
    subst hn2
    refine .inl ⟨⟨hfz, Nat.le_refl _⟩, hfz, ?_⟩
    rw [List.take_length]
    have eH : upd (upd (upd H a (.frz od (.dK kvs))) Dd (.dK (putAll b kvs))) a (.dK kvs) = upd H Dd (.dK (putAll b kvs)) := by
      funext c
      by_cases hca : c = a
      · subst hca; rw [upd_same, upd_ne (fun z => hne z.symm)]; exact hq.symm
      · rw [upd_ne hca]
        by_cases hcD : c = Dd
        · rw [hcD, upd_same, upd_same]
        · rw [upd_ne hcD, upd_ne hca, upd_ne hcD]
    rw [eH]
    obtain ⟨k1, k2⟩ := keysAll_rel (g := gX X) (A := Al F ι objs) (H := H) b kvs
    unfold dicMk at e1
    split at e1
    · cases e1
      refine p (ι ++ [Dd]) _ _ (rel.alloc hDn ⟨putAll b kvs, upd_same, k1, k2.ext (Ext.alloc rel hDn)⟩) (Ext.alloc rel hDn) ((sr.ext (Ext.alloc rel hDn)).set q ⟨Dd, ?_, rfl⟩)
      rw [← rel.len]; simp
    · cases e1
      refine p ι _ _ (rel.upd_new hDn) (Ext.upd_new hDn) ((sr.ext (Ext.upd_new hDn)).set q ?_)
      simp only [RW, RV]
      exact ⟨Dd, putAll b kvs, rfl, rel.off hDn, upd_same, k1, k2.up hDn⟩
end
end RR

set_option maxHeartbeats 4000000
namespace RR
open PySem PySem.Spec PyProof.Rows L2
/-! ### {} and {k: v} -/
def mDic0 (mu : Bool) : ME := fun _ o => dicMk mu ([], []) o
def mDic1 (mu : Bool) (mk mv : ME) : ME := fun σ o => (mk σ o).bind fun wk o => (mv σ o).bind fun wv o => match wk, wv with
  | .v k, .v v => if (keyOf k).isSome = true then dicMk mu ([k], [v]) o else .stuck
  | _, _ => .stuck
section
variable {X : Cx} {kx vx a b c : Expr} {pos : Pos} {mk mv ma mb mc : ME} {mu : Bool}
theorem se_dic0 : SE X (.Dict [] [] pos) (mDic0 mu) :=
  pe_dnewK.weak fun σ H Q ⟨F, ι, objs, σd, rel, sr, p⟩ q hq => dc_done (mu := mu) (ι' := ι) (objs' := objs) hq rel (DcS.start rel hq p)
theorem se_dic1 (hk : SE X kx mk) (hv : SE X vx mv) : SE X (.Dict [some kx] [vx] pos) (mDic1 mu mk mv) := by
  refine (pe_disp (pps_cons hk hv pps_nil) rfl rfl (by simp) (by simp)).weak fun σ H Q ⟨F, ι, objs, σd, rel, sr, p⟩ Dd hDd => ?_
  let K : DA → Objs → R W := fun acc o => (mk σd o).bind fun wk o => (mv σd o).bind fun wv o => match wk, wv with
    | .v k, .v v => if (keyOf k).isSome = true ∧ acc.1.length < sizeLine then dicMk mu (dput acc.1 acc.2 k v) o else .stuck
    | _, _ => .stuck
  have hK : ∀ o, mDic1 mu mk mv σd o = K ([], []) o := fun o => by
    show ((mk σd o).bind _) = ((mk σd o).bind _)
    congr 1; funext wk o
    congr 1; funext wv o
    cases wk <;> cases wv <;> first | rfl | skip
    rename_i k v
    have hz : (0 : Nat) < sizeLine := by decide
    simp only [List.length_nil, hz, and_true]
    rfl
  rw [hK] at p
  have S := DcS.start (k := K) rel hDd p
  have hFD : ∀ a, FD F Dd a → F a ∨ H a = none := fun a z => z.elim .inl fun z => .inr (by rw [z]; exact hDd)
  have ex0 : Ext ι objs H ι objs (upd H Dd (.dK [])) := Ext.upd_new hDd
  have s0 : SRel (gX X) ι (Al (FD F Dd) ι objs) (upd H Dd (.dK [])) σd σ := sr.carP (carryF ex0 hFD) ex0.pre
  obtain ⟨wk, o1, e1, p1⟩ := p.bind
  obtain ⟨wv, o2, e2, p2⟩ := p1.bind
  refine ⟨FD F Dd, ι, objs, σd, S.rel, s0, ?_⟩
  rw [e1]
  intro y1 ι1 H1 rel1 ex1 r1
  refine ⟨FD F Dd, ι1, o1, σd, rel1, s0.ext ex1, ?_⟩
  rw [e2]
  intro y2 ι2 H2 rel2 ex2 r2
  replace r1 := r1.ext ex2
  have exx := ex1.trans ex2
  have hD2 : H2 Dd = some (.dK []) := exx.keep _ _ upd_same (offLive S.rel)
  cases wk with
  | o _ => cases wv <;> exact p2.elim
  | v kd =>
    cases wv with
    | o _ => exact p2.elim
    | v vd =>
      have S2 : DcS (gX X) F Dd ι objs H (fun acc o => if (keyOf kd).isSome = true ∧ acc.1.length < sizeLine then dicMk mu (dput acc.1 acc.2 kd vd) o else .stuck) Q H2 ι2 o2 := S.on rel2 exx fun acc => by
        show ((mk σd objs).bind _) = _
        rw [e1, R.bind_ok, e2, R.bind_ok]
      obtain ⟨kvs, kk, h1, h2, h3, h4⟩ := S2.more (k := dicMk mu) hDd r1 r2
      rw [hD2] at h2
      simp only [Option.some.injEq, HO.dK.injEq] at h2
      subst h2
      refine ⟨hD2, [(kk, y2)], by rw [h1]; rfl, by simp, ?_⟩
      exact dc_done hDd rel h4
/-! ### d[k] -/
def ixX (a b : W) (o : Objs) : R W := match dicW o a with
  | some (ks, vs) => match b with
    | .v k => match keyOf k with
      | some _ => match dval ks vs k with
        | some d => .ok (.v d) o
        | none => .stuck
      | none => .stuck
    | _ => .stuck
  | none => ixW a b o
theorem ir_ixX (hu : X.A.units + 1 < cLine) : IxR X (rW2 (gX X) ixX) := by
  intro value slice pins s σ H x y v u Q I rx ry ⟨F, ι, objs, w1, w2, rel, h1, h2, p⟩ hs
  unfold ixX at p
  split at p
  case h_2 => exact ir_ix value slice pins s σ H x y v u Q I rx ry ⟨F, ι, objs, w1, w2, rel, h1, h2, p⟩ hs
  rename_i ks vs hd
  obtain ⟨a, kvs, rfl, hq, rfl, hvs⟩ := dicW_ok rel h1 hd
  cases rx
  split at p
  case h_2 => exact p.elim
  rename_i kd
  split at p
  case h_2 => exact p.elim
  rename_i kk hk
  have := keyOf_inv hk
  subst this
  have hy : y = kV kk := RV_key.mp h2
  subst hy
  split at p
  case h_2 => exact p.elim
  rename_i d hdv
  rcases dval_rel (g := gX X) (A := Al F ι objs) (H := H) kk hvs with ⟨e1, _⟩ | ⟨d', v', e1, e2, e3⟩
  · rw [e1] at hdv; cases hdv
  · rw [e1] at hdv
    cases hdv
    have g : DGet H a (kV kk) (some v') := by rw [← e2]; exact .k hq
    have hT := dict_typeIs I g
    unfold subscriptTail
    refine wpAny_bind ?_
    rw [getitemInPython_of_ne hT.not_modules]
    refine wpAny_bind (wpAny_specialOf hT PySem.F.slot_dict_getitem.lookup ?_)
    have fin : wpAny (model X.prog X.w) X.A (subscripted slice false (.ref a) u) (fun r s₃ => wpAny (model X.prog X.w) X.A (letTemporaryGo value (.ref a) r >>= fun _ => pure r) (EP X pins σ Q) X.xe s₃) X.xe s := by
      rw [hs]
      exact wpAny_operating (d_getItem hu I g ry fun w' s3 I3 rw' => wpAny_bind (wpAny_letTemporaryGo (wpAny_pure ⟨v', H, I3, rw', p.flat rel e3⟩)))
    first
      | exact wpAny_pure (wpAny_bind fin)
      | exact wpAny_bind (wpAny_pure (wpAny_bind fin))
      | exact wpAny_bind fin
theorem se_ixX (hu : X.A.units + 1 < cLine) (ha : SE X a ma) (hb : SE X b mb) (hs : PlainIx b) : SE X (.Subscript a b pos) (mBin ixX ma mb) := by
  refine (pe_ix (ir_ixX hu) ha hb hs).weak fun σ H Q ⟨F, ι, objs, σd, rel, sr, p⟩ => ?_
  obtain ⟨x, o1, e1, p⟩ := p.bind
  refine ⟨F, ι, objs, σd, rel, sr, ?_⟩
  rw [e1]
  intro v ι1 H1 rel1 ex1 r1
  obtain ⟨y, o2, e2, p⟩ := (p.at ex1).bind
  refine ⟨F, ι1, o1, σd, rel1, sr.ext ex1, ?_⟩
  rw [e2]
  intro v2 ι2 H2 rel2 ex2 r2
  exact ⟨F, ι2, o2, x, y, rel2, r1.ext ex2, r2, p.at ex2⟩
/-! ### list(range(n)) -/
def rgMk (mu : Bool) (n : Int) (o : Objs) : R W := if -(2 ^ 62) ≤ n ∧ n ≤ 16777216 then (if mu = true then .ok (.o o.length) (o ++ [⟨true, .lst (rng 0 n.toNat)⟩]) else .ok (.v (.lst (rng 0 n.toNat))) o) else .stuck
def mLrg (mu : Bool) (ma : ME) : ME := fun σ o => (ma σ o).bind fun w o => match w with
  | .v (.int n) => rgMk mu n o
  | _ => .stuck
theorem rng_rgV {g : GE} {A : Addr → Prop} {H : Hp} (n : Int) : RVs g A H (rng 0 n.toNat) (rgV 0 n) := by
  have gen : ∀ l : List Nat, RVs g A H (l.map fun (i : Nat) => D.int (0 + (i : Int))) (l.map fun (i : Nat) => V.int (0 + (i : Int))) := by
    intro l
    induction l with
    | nil => simp only [List.map_nil, RVs]
    | cons i l ih => simp only [List.map_cons, RVs]; exact ⟨_, _, rfl, by simp only [RV], ih⟩
  have e1 : rng 0 n.toNat = (List.range n.toNat).map fun (i : Nat) => D.int (0 + (i : Int)) := rfl
  have e2 : rgV 0 n = (List.range n.toNat).map fun (i : Nat) => V.int (0 + (i : Int)) := by unfold rgV; rw [Int.sub_zero]
  rw [e1, e2]
  exact gen _
theorem se_lrg {p p2 pos2 : Pos} (hc : X.calm = true) (hg : Gl X "list") (hm : X.mg "list" = none) (hg2 : Gl X "range") (hm2 : X.mg "range" = none) (ha : SE X a ma) (hs : isStar a = false) :
    SE X (.Call (.Name "list" p) [.Call (.Name "range" p2) [a] [] pos2] [] pos) (mLrg mu ma) := by
  refine (pe_listRg hc hg hm (prg_1 hg2 hm2 ha (star_cons hs _))).weak fun σ H Q ⟨F, ι, objs, σd, rel, sr, p⟩ => ?_
  obtain ⟨w, o1, e1, p⟩ := p.bind
  refine ⟨F, ι, objs, σd, rel, sr, ?_⟩
  rw [e1]
  intro v ι1 H1 rel1 ex1 r1
  have p := p.at ex1
  split at p
  case h_2 => exact p.elim
  rename_i n _
  simp only [RW, RV] at r1
  unfold rgMk at p
  split at p
  case isFalse => exact p.elim
  rename_i hn
  refine ⟨n, r1, ⟨by omega, by omega, hn.1, by omega, by omega⟩, fun q hq => ?_⟩
  split at p
  · exact p.freshM rel1 hq (rng_rgV n)
  · exact p.freshL rel1 hq (rng_rgV n)
/-! ### dict(xs) of a list of pairs -/
def prOf : D → Option (D × D)
  | .tup [k, v] => if (keyOf k).isSome = true then some (k, v) else none
  | _ => none
def prsOf : List D → Option (List (D × D))
  | [] => some []
  | d :: ds => match prOf d, prsOf ds with
    | some p, some ps => some (p :: ps)
    | _, _ => none
def merD (acc : DA) (ps : List (D × D)) : DA := ps.foldl (fun acc p => dput acc.1 acc.2 p.1 p.2) acc
def dictW (mu : Bool) (a : W) (o : Objs) : R W := match lstW o a with
  | some xs => match prsOf xs with
    | some ps => dicMk mu (merD ([], []) ps) o
    | none => .stuck
  | none => .stuck
theorem merD_rel {g : GE} {A : Addr → Prop} {H : Hp} : ∀ (ps : List (D × D)) (more kvs : List (Key × V)) (da : DA), ps.map (·.1) = more.map (fun p => keyD p.1) → RVs g A H (ps.map (·.2)) (more.map (·.2)) → da.1 = kvs.map (fun p => keyD p.1) → RVs g A H da.2 (kvs.map (·.2)) →
    (merD da ps).1 = (mergeK kvs more).map (fun p => keyD p.1) ∧ RVs g A H (merD da ps).2 ((mergeK kvs more).map (·.2))
  | [], more, kvs, da, h1, h2, h3, h4 => by
    cases more with
    | nil => exact ⟨h3, h4⟩
    | cons p more => simp at h1
  | (k, v) :: ps, more, kvs, da, h1, h2, h3, h4 => by
    cases more with
    | nil => simp at h1
    | cons p more =>
      simp only [List.map_cons, List.cons.injEq] at h1
      simp only [List.map_cons, RVs] at h2
      obtain ⟨v', r, e, k1, k2⟩ := h2
      cases e
      obtain ⟨d1, d2⟩ := dput_rel p.1 k1 h4
      rw [← h3] at d1 d2
      have e : merD da ((k, v) :: ps) = merD (dput da.1 da.2 k v) ps := rfl
      have e2 : mergeK kvs (p :: more) = mergeK (putK kvs p.1 p.2) more := rfl
      rw [e, e2, h1.1]
      exact merD_rel ps more _ _ h1.2 k2 d1 d2
theorem prs_rel {g : GE} {A : Addr → Prop} {H : Hp} : ∀ {xs : List D} {vs : List V} {ps : List (D × D)}, prsOf xs = some ps → RVs g A H xs vs → ∃ (as : List Addr) (kvs : List (Key × V)), vs = as.map V.ref ∧ Paired (fun p kv => SqT g.K H p [kV kv.1, kv.2]) as kvs ∧ ps.map (·.1) = kvs.map (fun p => keyD p.1) ∧ RVs g A H (ps.map (·.2)) (kvs.map (·.2))
  | [], vs, ps, h, r => by
    cases h
    simp only [RVs] at r
    subst r
    exact ⟨[], [], rfl, .nil, rfl, by simp only [List.map_nil, RVs]⟩
  | d :: ds, vs, ps, h, r => by
    simp only [RVs] at r
    obtain ⟨v, rs, rfl, k1, k2⟩ := r
    unfold prsOf at h
    split at h
    case h_2 => cases h
    rename_i p ps' hp hps
    cases h
    obtain ⟨as, kvs, rfl, q2, q3, q4⟩ := prs_rel hps k2
    unfold prOf at hp
    split at hp
    case h_2 => cases hp
    rename_i kd vd
    split at hp
    case isFalse => cases hp
    rename_i hk
    cases hp
    obtain ⟨kk, hk⟩ := Option.isSome_iff_exists.mp hk
    have := keyOf_inv hk
    subst this
    simp only [RV, RVs] at k1
    obtain ⟨a, tv, rfl, _, ha, y1, r1, rfl, ky, y2, r2, rfl, kv, hr2⟩ := k1
    subst hr2
    have hy1 : y1 = kV kk := RV_key.mp ky
    subst hy1
    refine ⟨a :: as, (kk, y2) :: kvs, rfl, .cons (SqT.of ha) q2, by simp only [List.map_cons, q3], ?_⟩
    simp only [List.map_cons, RVs]
    exact ⟨y2, _, rfl, kv, q4⟩
theorem ct_dictX (hc : X.calm = true) {mu : Bool} : CallR X (.type "dict") (rWc (gX X) (on1 (dictW mu))) := by
  refine cr_on1 fun pins s σ H x us Q F ι objs w I r rel k p => ?_
  unfold dictW at p
  split at p
  case h_2 => exact p.elim
  rename_i xs hx
  split at p
  case h_2 => exact p.elim
  rename_i ps hps
  obtain ⟨a, vs, rfl, hq, kv⟩ := lstW_ok rel k hx
  obtain ⟨as, kvs, rfl, q2, q3, q4⟩ := prs_rel hps kv
  refine call_dictP hc pins s σ H _ us Q I r ⟨a, as, kvs, rfl, SqL.of hq, q2, fun Dd hDd => ?_⟩
  have ex := Ext.upd_new (ι := ι) (objs := objs) (H := H) (p := Dd) (o := .dK (mergeK [] kvs)) hDd
  obtain ⟨m1, m2⟩ := merD_rel ps kvs [] ([], []) q3 q4 rfl (by simp only [List.map_nil, RVs])
  unfold dicMk at p
  split at p
  · refine p _ (ι ++ [Dd]) _ (rel.alloc hDd ⟨mergeK [] kvs, upd_same, m1, m2.ext (Ext.alloc rel hDd)⟩) (Ext.alloc rel hDd) ⟨Dd, ?_, rfl⟩
    rw [← rel.len]; simp
  · refine p _ ι _ (rel.upd_new hDd) (Ext.upd_new hDd) ?_
    simp only [RW, RV]
    exact ⟨Dd, mergeK [] kvs, rfl, rel.off hDd, upd_same, m1, m2.up hDd⟩
/-! ### x, y, z = a, b, c at once -/
theorem paired3 {α β : Type} {P : α → β → Prop} {a b c : α} {vs : List β} (h : Paired P [a, b, c] vs) : ∃ x y z, vs = [x, y, z] ∧ P a x ∧ P b y ∧ P c z := by
  cases h with
  | cons h1 t => cases t with
    | cons h2 t => cases t with
      | cons h3 t => cases t; exact ⟨_, _, _, rfl, h1, h2, h3⟩
theorem ss_par3 {i j l : Nat} {x y z : Str} {px py pz pt pt2 : Pos} {kt k2 : Nat} {ml : ML} (hc : X.calm = true) (hN : X.N.Nodup) (hi : X.N[i]? = some x) (hj : X.N[j]? = some y) (hl : X.N[l]? = some z) (hij : i ≠ j) (hil : i ≠ l) (hjl : j ≠ l)
    (hx : X.env.scope.names.lookup x = some .local) (hy : X.env.scope.names.lookup y = some .local) (hz : X.env.scope.names.lookup z = some .local) (h : SA X [a, b, c] ml)
    (hsw : swappedStores [.Tuple [.Name x px, .Name y py, .Name z pz] kt pt] (.Tuple [a, b, c] k2 pt2) X.env = pure (some [x, y, z])) (hs : swapsWithSole [.Tuple [.Name x px, .Name y py, .Name z pz] kt pt] (.Tuple [a, b, c] k2 pt2) pos.line X.env = pure false) :
    SS X (.Assign [.Tuple [.Name x px, .Name y py, .Name z pz] kt pt] (.Tuple [a, b, c] k2 pt2) pos) (mPar [i, j, l] ml) := by
  refine (ps_par3 hc hN hi hj hl hij hil hjl hx hy hz h hsw hs).weak fun D σ H ⟨F, ι, objs, σd, rel, sr, p⟩ => ?_
  obtain ⟨ws, o1, e1, p⟩ := p.bind
  refine ⟨F, ι, objs, σd, rel, sr, ?_⟩
  rw [e1]
  intro vs ι1 H1 rel1 ex1 r1
  have p := p.at ex1
  split at p
  · rename_i hl
    match ws, hl with
    | [w1, w2, w3], _ =>
      obtain ⟨v1, v2, v3, rfl, k1, k2, k3⟩ := paired3 r1
      exact ⟨v1, v2, v3, rfl, p ι1 H1 _ rel1 .refl ((((sr.ext ex1).set i k1).set j k2).set l k3)⟩
  · exact p.elim
/-- three names at once -/
def swap3 (sc : Scope) (x y z : Str) (px py pz : Pos) (a b c : Expr) : Bool :=
  !(isStar a || isStar b || isStar c) && (sc.names.lookup x == some .local) && (sc.names.lookup y == some .local) && (sc.names.lookup z == some .local) && (py.line == px.line) && (pz.line == px.line) &&
    (x != y) && (x != z) && (y != z) && !(foldedForSure 8 a && foldedForSure 8 b && foldedForSure 8 c) && !(constantsAlone 8 a && constantsAlone 8 b && constantsAlone 8 c)
theorem dups3 {x y z : Str} (h1 : (x == y) = false) (h2 : (x == z) = false) (h3 : (y == z) = false) : [x, y, z].eraseDups.length = 3 := by
  have g1 : (y == x) = false := by simpa using fun e => (by simpa using h1 : ¬ x = y) e.symm
  have g2 : (z == x) = false := by simpa using fun e => (by simpa using h2 : ¬ x = z) e.symm
  have g3 : (z == y) = false := by simpa using fun e => (by simpa using h3 : ¬ y = z) e.symm
  rw [List.eraseDups_cons]
  simp only [List.filter_cons, g1, g2, Bool.not_false, if_true, List.filter_nil]
  rw [List.eraseDups_cons]
  simp only [List.filter_cons, g3, Bool.not_false, if_true, List.filter_nil]
  rw [List.eraseDups_cons]
  rfl
theorem swapped3 {sc : Scope} {x y z : Str} {px py pz pt pt2 : Pos} {kt k2 : Nat} {env : Env} (hs : env.scope = sc) (hk : sc.kind = .function) (h : swap3 sc x y z px py pz a b c = true) :
    swappedStores [.Tuple [.Name x px, .Name y py, .Name z pz] kt pt] (.Tuple [a, b, c] k2 pt2) env = pure (some [x, y, z]) := by
  subst hs
  have hb : env.blockKind = .function := blk_fn hk
  have hx : env.kindOf x = env.scope.names.lookup x := rfl
  have hy : env.kindOf y = env.scope.names.lookup y := rfl
  have hz : env.kindOf z = env.scope.names.lookup z := rfl
  unfold swap3 at h
  simp only [Bool.and_eq_true, Bool.not_eq_true', Bool.or_eq_false_iff] at h
  obtain ⟨⟨⟨⟨⟨⟨⟨⟨⟨⟨⟨⟨s1, s2⟩, s3⟩, l1⟩, l2⟩, l3⟩, p1⟩, p2⟩, d1⟩, d2⟩, d3⟩, f⟩, cn⟩ := h
  have d1' : (x == y) = false := by simpa using d1
  have d2' : (x == z) = false := by simpa using d2
  have d3' : (y == z) = false := by simpa using d3
  have hst : ∀ f : Expr → Bool, (∀ e, f e = isStar e) → List.any [a, b, c] f = false := fun f hf => by simp only [List.any_cons, List.any_nil, hf, s1, s2, s3, Bool.or_false]
  unfold swappedStores
  simp only [List.length_cons, List.length_nil, hb, hx, hy, hz, List.head?_cons, Option.map_some, Option.getD_some, Expr.pos, List.filterMap_cons, List.filterMap_nil, List.all_cons, List.all_nil, Bool.and_true]
  rw [hst]
  · simp only [l1, l2, l3, p1, p2, beq_self_eq_true, Bool.and_self, if_true, List.length_cons, List.length_nil, dups3 d1' d2' d3']
    have f' : (foldedForSure 8 a && (foldedForSure 8 b && foldedForSure 8 c)) = false := by rw [← Bool.and_assoc]; exact f
    have cn' : (constantsAlone 8 a && (constantsAlone 8 b && constantsAlone 8 c)) = false := by rw [← Bool.and_assoc]; exact cn
    simp [f', cn']
  · intro e; cases e <;> rfl
end
end RR

set_option maxHeartbeats 4000000
namespace RR
open PySem PySem.Spec PyProof.Rows L2
/-! ### the truth of a value, an own instance too -/
def truC (cl : List (Str × CI)) (w : W) (o : Objs) : R Bool := match insW o w with
  | some c => match cl.lookup c with
    | some ci => match ci.boolm with
      | some fi => (callW fi [w] o).bind fun r o => match r with
        | .v (.bl k) => .ok k o
        | _ => .stuck
      | none => .stuck
    | none => .stuck
  | none => match truW o w with
    | some k => .ok k o
    | none => .stuck
def mTruC (cl : List (Str × CI)) (m : ME) : MB := fun σ o => (m σ o).bind fun w o => truC cl w o
section
variable {X : Cx} {k : Nat} {cl : List (Str × CI)} {a : Expr} {ma : ME}
theorem st_valC (hcl : ∀ c ci, (c, ci) ∈ cl → ClsS X.prog X.w X.K X.mg X.base k c ci) (hr : RoomG (k + 1) X.A) (ha : SE X a ma) (he : ∀ whole, isTrue a X.env whole = (do let v ← whole; standAt a.pos; holding [v] (truthy v))) : ST X a (mTruC cl ma) := by
  refine ⟨fun pins s σ H Q I ⟨F, ι, objs, σd, rel, sr, p⟩ => ?_⟩
  obtain ⟨w, o1, e1, p⟩ := p.bind
  have h : tev (gX X) ma σ H (fun v H1 => ∃ ι1, Rel (gX X) F ι1 H1 o1 ∧ Ext ι objs H ι1 o1 H1 ∧ RW (gX X) ι1 (Al F ι1 o1) H1 w v) := by
    refine ⟨F, ι, objs, σd, rel, sr, ?_⟩
    rw [e1]
    intro v ι1 H1 rel1 ex1 r1
    exact ⟨ι1, rel1, ex1, r1⟩
  refine isTrue_plain (thn (ha.run pins s σ H _ I h) fun v s1 ⟨x, H1, I1, r1, ι1, rel1, ex1, kw⟩ => ?_) (he _)
  unfold truC at p
  split at p
  case h_2 =>
    split at p
    case h_2 => exact p.elim
    rename_i kk hk
    exact tr_ok pins s1 σ H1 x v Q I1 r1 ⟨F, ι1, o1, w, rel1, kw, kk, hk, p ι1 H1 rel1 ex1⟩
  rename_i c hc
  split at p
  case h_2 => exact p.elim
  rename_i ci hci
  split at p
  case h_2 => exact p.elim
  rename_i fi hfi
  obtain ⟨C, f, fd, ps, d1, d2, d3, Fn, hb⟩ := (hcl c ci (lookup_mem hci)).bool fi hfi
  obtain ⟨ax, C', dx, fs, rfl, m', ea⟩ := insW_ok rel1 kw hc
  have z1 : C' = C := by have z := m'.symm.trans d1; cases z; rfl
  subst z1
  cases r1
  obtain ⟨mA, J, _⟩ := ins_get I1.hok ea
  obtain ⟨od, J, _⟩ := J.look
  obtain ⟨m, hF⟩ := I1.fr
  obtain ⟨wr, o2, ew, p⟩ := p.bind
  have hsp : spOf ⟨X.K, X.mg⟩ fi.n fi.fm [.ref ax] H1 (fun r H' => ∃ b : Bool, r = .bl b ∧ Q b H') E0 := by
    refine call_ok (ws := [w]) rel1 (.cons kw .nil) ?_
    rw [ew]
    intro r ι' H' rel' ex' kr
    cases wr with
    | o _ => exact p.elim
    | v d =>
      cases d <;> first | exact p.elim | skip
      rename_i b
      have hrb : r = .bl b := by simpa only [RW, RV] using kr
      exact ⟨b, hrb, p ι' H' rel' (ex1.trans ex')⟩
  refine PySem.W.truthy_K hF I1.ok.mod.kin J d2 d3 ?_
  have hl := Fn.len _ _ _ _ hsp
  have r2 : Vals [V.ref ax] [Value.ref ax] := .cons rfl .nil
  refine wpAny_call (codeAny_mono (Fn.run X.A X.stack s1 H1 ⟨[.ref ax], []⟩ [.ref ax] [.ref ax] _ E0 (hr.mono (Nat.le_succ k)) I1.env0 (by
    have := hb s1 [.ref ax] I1.kIn (by simpa using hl)
    simpa using this) r2 hsp) fun r s' hq => ?_)
  cases r with
  | error e => exact (pass0 pins σ H1 s1 e s' I1 hq : X.xe e s')
  | ok fl =>
    cases fl with
    | ret w =>
      obtain ⟨z, H', I', rz, b, ez, q⟩ := I1.after hq
      subst ez
      cases rz
      exact ⟨H', I', q⟩
    | next => exact False.elim hq
    | brk => exact False.elim hq
    | cont => exact False.elim hq
end
end RR

set_option maxHeartbeats 4000000
namespace RR
open PySem PySem.Spec PyProof.Rows L2
/-! ### [*xs, y] -/
def mStar (ma : ME) (l : ML) : ML := fun σ o => (ma σ o).bind fun x o => match seqW o x with
  | some ds => (l σ o).bind fun ws o => .ok (ds.map W.v ++ ws) o
  | none => .stuck
section
variable {X : Cx} {e : Expr} {es : List Expr} {ma : ME} {ml : ML}
theorem RWs_app {g : GE} {ι : List Addr} {A : Addr → Prop} {H : Hp} : ∀ {ds : List D} {us : List V} {ws : List W} {vs : List V}, RVs g A H ds us → RWs g ι A H ws vs → RWs g ι A H (ds.map W.v ++ ws) (us ++ vs)
  | [], us, ws, vs, h, k => by
    have : us = [] := by simpa [RVs] using h
    subst this; exact k
  | d :: ds, us, ws, vs, h, k => by
    simp only [RVs] at h
    obtain ⟨u, us', rfl, h1, h2⟩ := h
    exact .cons (by simpa only [RW] using h1) (RWs_app h2 k)
theorem sa_star {pos : Pos} (ha : SE X e ma) (hr : SA X es ml) : SA X (.Starred e pos :: es) (mStar ma ml) := by
  refine (StX.pa_star ha hr (by rfl)).weak fun σ H Q ⟨F, ι, objs, σd, rel, sr, p⟩ => ?_
  obtain ⟨x, o1, e1, p⟩ := p.bind
  refine ⟨F, ι, objs, σd, rel, sr, ?_⟩
  rw [e1]
  intro v ι1 H1 rel1 ex1 r1
  have p := p.at ex1
  split at p
  · rename_i ds hds
    obtain ⟨a, vs, ev, hsq, k⟩ := seqW_ok rel1 r1 hds
    obtain ⟨xs, o2, e2, p⟩ := p.bind
    refine ⟨a, vs, ev, hsq.symm, F, ι1, o1, σd, rel1, sr.ext ex1, ?_⟩
    rw [e2]
    intro v2 ι2 H2 rel2 ex2 r2
    exact (p.at ex2) (vs ++ v2) ι2 H2 rel2 .refl (RWs_app (k.ext ex2) r2)
  · exact p.elim
end
def cListS (f : Expr → Option ME) : List Expr → Option ML
  | [] => some mNil
  | .Starred e _ :: es => (f e).bind fun m => (cListS f es).map fun l => mStar m l
  | e :: es => if isStar e then none else (f e).bind fun m => (cListS f es).map fun l => mCons m l
theorem cListS_ok {X : Cx} {f : Expr → Option ME} (hf : ∀ e m, f e = some m → SE X e m) : ∀ {es : List Expr} {ml : ML}, cListS f es = some ml → SA X es ml
  | [], ml, h => by cases h; exact sa_nil
  | e :: es, ml, h => by
    unfold cListS at h
    split at h
    · rename_i hn; cases hn
    · rename_i e0 p es0 hn
      cases hn
      obtain ⟨m, h1, h⟩ := Option.bind_eq_some_iff.mp h
      obtain ⟨l, h2, rfl⟩ := Option.map_eq_some_iff.mp h
      exact sa_star (hf _ m h1) (cListS_ok hf h2)
    · rename_i e0 es0 _ hn
      cases hn
      split at h
      · cases h
      · rename_i hs
        obtain ⟨m, h1, h⟩ := Option.bind_eq_some_iff.mp h
        obtain ⟨l, h2, rfl⟩ := Option.map_eq_some_iff.mp h
        exact sa_cons (hf _ m h1) (cListS_ok hf h2) (by simpa using hs)
end RR

set_option maxHeartbeats 4000000
namespace RR
open PySem PySem.Spec PyProof.Rows L2
/-! ### from the text to its run -/
structure CC where
  N : List Str
  sc : Scope
  sto : List (Str × NameKind)
  mu : List (Nat × Nat)
  fs : List (Str × FI)
  cs : List (Str × D)
  cl : List (Str × CI) := []
  kt : KT := []
def isMu (cc : CC) (p : Pos) : Bool := cc.mu.contains (p.line, p.col)
inductive BF where
  | len | abs | int | divmod | sum | max | min | any | all | list | tuple | isinstance | repr | bool | dict
def BF.name : BF → Str
  | .len => "len" | .abs => "abs" | .int => "int" | .divmod => "divmod" | .sum => "sum" | .max => "max" | .min => "min" | .any => "any" | .all => "all" | .list => "list" | .tuple => "tuple" | .isinstance => "isinstance" | .repr => "repr" | .bool => "bool" | .dict => "dict"
def BF.cal : BF → Value
  | .len => .builtin "len" | .abs => .builtin "abs" | .int => .type "int" | .divmod => .builtin "divmod" | .sum => .builtin "sum" | .max => .builtin "max" | .min => .builtin "min" | .any => .builtin "any" | .all => .builtin "all"
  | .list => .type "list" | .tuple => .type "tuple" | .isinstance => .builtin "isinstance" | .repr => .builtin "repr" | .bool => .type "bool" | .dict => .type "dict"
def BF.fn (mu : Bool) (cl : List (Str × CI)) (kt : KT) : BF → List W → Objs → R W
  | .len => on1 (lenC cl) | .abs => on1 absW | .int => on1 intW | .divmod => on2 divmodW | .sum => on1 sumW | .max => maxW | .min => minW | .any => on1 anyW | .all => on1 allW | .list => on1 (listX mu) | .tuple => on1 tupleW | .isinstance => on2 (isiC cl kt) | .repr => on1 reprW | .bool => on1 (boolW cl) | .dict => on1 (dictW mu)
def allBF : List BF := [.len, .int, .isinstance, .tuple, .all, .list, .any, .sum, .max, .min, .divmod, .abs, .repr, .bool, .dict]
def bfOf (x : Str) : Option BF := allBF.find? fun b => b.name == x
def bltNames : List Str := ["len", "int", "isinstance", "tuple", "all", "list", "any", "sum", "max", "min", "divmod", "abs", "range", "bool", "str", "dict", "enumerate", "zip", "repr", "sorted", "set"]
def tyNames : List (Str × String) := [("int", "int"), ("bool", "bool"), ("str", "str"), ("tuple", "tuple"), ("list", "list"), ("dict", "dict")]
theorem BF.mem (b : BF) : b.name ∈ bltNames := by cases b <;> decide +kernel
theorem BF.boot (b : BF) : bootBuiltins b.name = some b.cal := by cases b <;> decide +kernel
theorem BF.nm (b : BF) : b.name ≠ "__name__" ∧ (b.name == ("__debug__" : Str)) = false := by cases b <;> decide +kernel
theorem ty_boot {x : Str} {n : String} (h : (x, n) ∈ tyNames) : bootBuiltins x = some (.type n) ∧ x ∈ bltNames ∧ x ≠ "__name__" ∧ (x == ("__debug__" : Str)) = false := by
  simp only [tyNames, List.mem_cons, List.not_mem_nil, or_false, Prod.mk.injEq] at h
  rcases h with h | h | h | h | h | h <;> obtain ⟨rfl, rfl⟩ := h <;> decide +kernel
/-- xs * n as a list of the store -/
def repM (a b : W) (o : Objs) : R W := match b with
  | .v (.int k) => match lstW o a with
    | some xs => if -(2 ^ 63) ≤ k ∧ k < 2 ^ 63 ∧ xs.length * k.toNat ≤ sizeLine then .ok (.o o.length) (o ++ [⟨true, .lst (List.replicate k.toNat xs).flatten⟩]) else .stuck
    | none => .stuck
  | _ => .stuck
def binF (mu : Bool) : Operator → Option (W → W → Objs → R W)
  | .Add => some addW | .Sub => some subW | .Mult => some (if mu then repM else mulW) | .FloorDiv => some fdivW | .Mod => some modW | .Pow => some powW
  | _ => none
def cmpF (cl : List (Str × CI)) (kt : KT) : CmpOp → (W → W → Objs → R W)
  | .Eq => eqZ cl kt | .NotEq => neZ cl kt | .Lt => ltW | .LtE => leW | .Gt => gtW | .GtE => geW | .Is => isW | .IsNot => isnW | .In => inX | .NotIn => ninX
structure MD where
  T : String
  f : W → List W → Objs → R W
/-- the methods of built-in types -/
inductive MF where
  | append | extend | pop | index | rstrip | join
def MF.name : MF → Str
  | .append => "append" | .extend => "extend" | .pop => "pop" | .index => "index" | .rstrip => "rstrip" | .join => "join"
def MF.ty : MF → String
  | .append => "list" | .extend => "list" | .pop => "list" | .index => "str" | .rstrip => "str" | .join => "str"
def MF.fn : MF → W → List W → Objs → R W
  | .append => appendL | .extend => extendL | .pop => popL | .index => idxS | .rstrip => rstripS | .join => joinS
def allMF : List MF := [.append, .index, .join, .extend, .pop, .rstrip]
def mfOf (x : Str) : Option MF := allMF.find? fun b => b.name == x
def isVis (k : Option NameKind) : Bool := match k with | some .local => true | some .cell => true | some .free => true | _ => false
def isLoc (k : Option NameKind) : Bool := match k with | some .local => true | some .cell => true | _ => false
def isGlo (k : Option NameKind) : Bool := match k with | some .globalImplicit => true | _ => false
def isLocal (k : Option NameKind) : Bool := match k with | some .local => true | _ => false
def cName (cc : CC) (x : Str) : Option ME :=
  if isVis (cc.sc.names.lookup x) then (cc.N.findIdx? (· == x)).map mVar
  else if isGlo (cc.sc.names.lookup x) then
    match cc.cs.lookup x with
    | some d => some (mConst d)
    | none => match cc.cl.lookup x with
      | some _ => some (mConst (.glo x))
      | none => (tyNames.lookup x).map fun n => mConst (.ty n)
  else none
def cList (f : Expr → Option ME) : List Expr → Option ML
  | [] => some mNil
  | e :: es => if isStar e then none else (f e).bind fun m => (cList f es).map fun l => mCons m l
def cAnds (f : Expr → Option MB) : List Expr → Option MB
  | [] => none
  | [e] => f e
  | e :: es => (f e).bind fun m => (cAnds f es).map fun l => mAnd m l
def cOrs (f : Expr → Option MB) : List Expr → Option MB
  | [] => none
  | [e] => f e
  | e :: es => (f e).bind fun m => (cOrs f es).map fun l => mOr m l
def cAndV (f : Expr → Option ME) : List Expr → Option ME
  | [] => none
  | [e] => f e
  | e :: es => (f e).bind fun m => (cAndV f es).map fun l => mAndV m l
def cOrV (f : Expr → Option ME) : List Expr → Option ME
  | [] => none
  | [e] => f e
  | e :: es => (f e).bind fun m => (cOrV f es).map fun l => mOrV m l
def cPart (f : Expr → Option ME) : Option Expr → Option (Option ME)
  | none => some none
  | some e => (f e).map some
/-- the own names of a block, by slot -/
def ownOf (N : List Str) (names : List (Str × NameKind)) : List (Str × Nat) := N.zipIdx.filter fun p => isLoc (names.lookup p.1)
def cTg (cc : CC) : Expr → Option Tg
  | .Name x _ => if isLoc (cc.sto.lookup x) then (cc.N.findIdx? (· == x)).map Tg.one else none
  | .Tuple es _ _ => if es.all (fun e => match e with | .Name x _ => isLoc (cc.sto.lookup x) | _ => false) then (nameIx cc.N es).map Tg.many else none
  | _ => none
def blkCC (cc : CC) (scope : Scope) : CC := { cc with sc := relS scope cc.sc, sto := scope.names }
/-- what is walked -/
def isTupE : Expr → Bool
  | .Tuple _ _ _ => true
  | _ => false
theorem isTupE_inv {e : Expr} (h : isTupE e = true) : ∃ es k p, e = .Tuple es k p := by
  cases e <;> simp only [isTupE, Bool.false_eq_true] at h
  exact ⟨_, _, _, rfl⟩
def cIter (f : Expr → Option ME) (cc : CC) (tg e : Expr) : Option MI :=
  match e with
  | .Call (.Name x _) args [] _ =>
    if x == ("range" : Str) then
      (if isGlo (cc.sc.names.lookup x) then
        match args with
        | [a] => (cList f [a]).map fun l => mRng rng1 l
        | [a, b] => (cList f [a, b]).map fun l => mRng rng2 l
        | [a, b, c] => (cList f [a, b, c]).map fun l => mRng rng3 l
        | _ => none
      else none)
    else if x == ("zip" : Str) then
      (if isGlo (cc.sc.names.lookup x) && isTupE tg then
        match args with
        | [a, b] => (cList f [a, b]).map fun l => mZip l
        | _ => none
      else none)
    else if x == ("enumerate" : Str) then
      (if isGlo (cc.sc.names.lookup x) && isTupE tg then
        match args with
        | [a] => (cList f [a]).map fun l => mEnum l
        | _ => none
      else none)
    else (f e).map mSeq
  | .Set _ _ _ => none
  | e => (f e).map mSeq
def cConst : Const → Option ME
  | .int i => some (mConst (.int i))
  | .str i => some (mConst (.str i))
  | .bool i => some (mConst (.bl i))
  | .none => some (mConst .non)
  | _ => none
def cCmp (cl : List (Str × CI)) (kt : KT) (f : Expr → Option ME) (a : Expr) (ops : List CmpOp) (bs : List Expr) : Option ME :=
  match ops, bs with
  | [op], [b] => if behindInMarks op b then none else (f a).bind fun ma => (f b).map fun mb => mBin (cmpF cl kt op) ma mb
  | [op, op'], [b, c] => if lastMarks [op, op'] [b, c] then none else (f a).bind fun ma => (f b).bind fun mb => (f c).map fun mc => mChain (cmpF cl kt op) (cmpF cl kt op') ma mb mc
  | _, _ => none
def cUn (f : Expr → Option ME) (op : UnaryOp) (a : Expr) : Option ME :=
  match op with
  | .USub => (f a).map fun ma => mUn negW ma
  | .Not => (f a).map mNotV
  | _ => none
def isM1 : Expr → Bool
  | .UnaryOp .USub (.Constant (.int i) _ _) _ => i == 1
  | _ => false
theorem isM1_inv {e : Expr} (h : isM1 e = true) : ∃ k p1 p2, e = .UnaryOp .USub (.Constant (.int 1) k p1) p2 := by
  unfold isM1 at h
  split at h
  · rename_i i k p1 p2
    have : i = 1 := by simpa using h
    subst this
    exact ⟨_, _, _, rfl⟩
  · cases h
def cSub (f : Expr → Option ME) (mu : Bool) (a s : Expr) : Option ME :=
  match s with
  | .Slice lo hi none _ => (f a).bind fun ma => (cPart f lo).bind fun ml => (cPart f hi).map fun mh => mSl mu ma ml mh
  | .Slice none none (some st) _ => if isM1 st then (f a).map fun ma => mUn revW ma else none
  | s => if notSlice s then (f a).bind fun ma => (f s).map fun mb => mBin ixX ma mb else none
/-- the bound of list(range(n)) -/
def rgArg : List Expr → Option Expr
  | [.Call (.Name r _) [a] [] _] => if r == ("range" : Str) then some a else none
  | _ => none
def cCallN (f : Expr → Option ME) (cc : CC) (x : Str) (es : List Expr) (pos : Pos) : Option ME :=
  if isGlo (cc.sc.names.lookup x) then
    match es with
    | [] => none
    | e :: es => match cc.fs.lookup x with
      | some fi => (cList f (e :: es)).map fun l => mCall (callW fi) l
      | none => match cc.cl.lookup x with
        | some ci => ci.init.bind fun fi => (cList f (e :: es)).map fun l => mCall (makeW x fi) l
        | none => match rgArg (e :: es) with
          | some a => if x == ("list" : Str) && isGlo (cc.sc.names.lookup ("range" : Str)) && !isStar a then (f a).map fun m => mLrg (isMu cc pos) m else none
          | none => (bfOf x).bind fun bf => (cList f (e :: es)).map fun l => mCall (bf.fn (isMu cc pos) cc.cl cc.kt) l
  else none
def cCallM (f : Expr → Option ME) (o : Expr) (name : Str) (es : List Expr) (apos cpos : Pos) : Option ME :=
  if notSuper o && apos.endLine == cpos.line && decide (es.length < 28) then
    (mfOf name).bind fun mf => (f o).bind fun mo => (cList f es).map fun l => mBM mf.ty mf.fn mo l
  else none
def cKw (f : Expr → Option ME) : List Keyword → Option ML
  | [] => some mNil
  | ⟨_, e, _⟩ :: r => (f e).bind fun m => (cKw f r).map fun l => mCons m l
def cCallKw (f : Expr → Option ME) (cc : CC) (x : Str) (kws : List Keyword) : Option ME :=
  if isGlo (cc.sc.names.lookup x) then
    match cc.fs.lookup x with
    | some fi => (kwNames kws).bind fun ks => (fi.kws.lookup ks).bind fun π => (cKw f kws).map fun l => mCallK fi π ks.length l
    | none => (cc.cl.lookup x).bind fun ci => ci.init.bind fun fi => (kwNames kws).bind fun ks => (fi.kws.lookup ks).bind fun π => (cKw f kws).map fun l => mMakeK x fi π ks.length l
  else none
def cCall (f : Expr → Option ME) (cc : CC) (fn : Expr) (es : List Expr) (kws : List Keyword) (pos : Pos) : Option ME :=
  match kws with
  | [] => match fn with
    | .Name x _ => cCallN f cc x es pos
    | .Attribute o name apos => cCallM f o name es apos pos
    | _ => none
  | kw :: kws => match fn, es with
    | .Name x _, [] => cCallKw f cc x (kw :: kws)
    | _, _ => none
def cIfs (t : Expr → Option MB) : List Expr → Option MB
  | [] => some mYes
  | [c] => t c
  | _ => none
/-- a comprehension's parts: what is walked, the target's slots, the own slots, the test, the element -/
def cLc (f : Expr → Option ME) (f' : Expr → Option ME) (t' : Expr → Option MB) (cc : CC) (mu : Bool) (elt : Expr) (gs : List Comprehension) (scope : Scope) : Option ME :=
  match gs with
  | [⟨tg, iter, ifs, 0⟩] =>
    let own : List (Str × Nat) := ownOf cc.N scope.names
    if blkC cc.N cc.sc scope own then
      (cIter f cc tg iter).bind fun mi => (cTg (blkCC cc scope) tg).bind fun T =>
        if T.slots.all (fun i => (own.map (·.2)).contains i) then
          (cIfs t' ifs).bind fun mc => (f' elt).map fun me => mLc mu mi T (own.map (·.2)) mc me
        else none
    else none
  | _ => none
def cLc2 (f : Expr → Option ME) (f' : Expr → Option ME) (t' : Expr → Option MB) (cc : CC) (mu : Bool) (elt : Expr) (gs : List Comprehension) (scope : Scope) : Option ME :=
  match gs with
  | [⟨tg, iter, ifs, 0⟩, ⟨tg1, iter1, ifs1, 0⟩] =>
    let own : List (Str × Nat) := ownOf cc.N scope.names
    if blkC cc.N cc.sc scope own then
      (cIter f cc tg iter).bind fun mi => (cTg (blkCC cc scope) tg).bind fun T => (cIter f' (blkCC cc scope) tg1 iter1).bind fun mi1 => (cTg (blkCC cc scope) tg1).bind fun T1 =>
        if T.slots.all (fun i => (own.map (·.2)).contains i) && T1.slots.all (fun i => (own.map (·.2)).contains i) then
          (cIfs t' ifs).bind fun mc => (cIfs t' ifs1).bind fun mc1 => (f' elt).map fun me => mLc2 mu mi T (own.map (·.2)) mc mi1 T1 T1.slots mc1 me
        else none
    else none
  | _ => none
def cDc (f : Expr → Option ME) (f' : Expr → Option ME) (t' : Expr → Option MB) (cc : CC) (mu : Bool) (kx vx : Expr) (gs : List Comprehension) (scope : Scope) : Option ME :=
  match gs with
  | [⟨tg, iter, ifs, 0⟩] =>
    let own : List (Str × Nat) := ownOf cc.N scope.names
    if blkC cc.N cc.sc scope own then
      (cIter f cc tg iter).bind fun mi => (cTg (blkCC cc scope) tg).bind fun T =>
        if T.slots.all (fun i => (own.map (·.2)).contains i) then
          (cIfs t' ifs).bind fun mc => (f' kx).bind fun mk => (f' vx).map fun mv => mDc mu mi T (own.map (·.2)) mc mk mv
        else none
    else none
  | _ => none
def cDc2 (f : Expr → Option ME) (f' : Expr → Option ME) (t' : Expr → Option MB) (cc : CC) (mu : Bool) (kx vx : Expr) (gs : List Comprehension) (scope : Scope) : Option ME :=
  match gs with
  | [⟨tg, iter, ifs, 0⟩, ⟨tg1, iter1, ifs1, 0⟩] =>
    let own : List (Str × Nat) := ownOf cc.N scope.names
    if blkC cc.N cc.sc scope own then
      (cIter f cc tg iter).bind fun mi => (cTg (blkCC cc scope) tg).bind fun T => (cIter f' (blkCC cc scope) tg1 iter1).bind fun mi1 => (cTg (blkCC cc scope) tg1).bind fun T1 =>
        if T.slots.all (fun i => (own.map (·.2)).contains i) && T1.slots.all (fun i => (own.map (·.2)).contains i) then
          (cIfs t' ifs).bind fun mc => (cIfs t' ifs1).bind fun mc1 => (f' kx).bind fun mk => (f' vx).map fun mv => mDc2 mu mi T (own.map (·.2)) mc mi1 T1 T1.slots mc1 mk mv
        else none
    else none
  | _ => none
def isTwo (gs : List Comprehension) : Bool := match gs with | [_, _] => true | _ => false
def cStep (cc : CC) (f : Expr → Option ME) (t : Expr → Option MB) (fb : Scope → Expr → Option ME) (tb : Scope → Expr → Option MB) (e : Expr) : Option ME :=
  match e with
  | .Constant c _ _ => cConst c
  | .Name x _ => cName cc x
  | .BinOp a op b pos => (binF (isMu cc pos) op).bind fun fo => (f a).bind fun ma => (f b).map fun mb => mBin fo ma mb
  | .Compare a ops bs _ => cCmp cc.cl cc.kt f a ops bs
  | .Attribute a x _ => if notSuper a then (f a).map fun ma => mUn (attrW cc.cl x) ma else none
  | .UnaryOp op a _ => cUn f op a
  | .BoolOp .And es _ => cAndV f es
  | .BoolOp .Or es _ => cOrV f es
  | .IfExp c a b _ => (t c).bind fun mc => (f a).bind fun ma => (f b).map fun mb => mIf mc ma mb
  | .Tuple es _ _ => (cList f es).map mTup
  | .List es pos => (cListS f es).map (mLst (isMu cc pos))
  | .Subscript a s pos => cSub f (isMu cc pos) a s
  | .Dict ks vs pos => match ks, vs with
    | [], [] => some (mDic0 (isMu cc pos))
    | [some k], [v] => (f k).bind fun mk => (f v).map fun mv => mDic1 (isMu cc pos) mk mv
    | _, _ => none
  | .Call fn es kws pos => cCall f cc fn es kws pos
  | .ListComp elt gs scope pos => if isTwo gs then cLc2 f (fb scope) (tb scope) cc (isMu cc pos) elt gs scope else cLc f (fb scope) (tb scope) cc (isMu cc pos) elt gs scope
  | .DictComp kx vx gs scope pos => if isTwo gs then cDc2 f (fb scope) (tb scope) cc (isMu cc pos) kx vx gs scope else cDc f (fb scope) (tb scope) cc (isMu cc pos) kx vx gs scope
  | _ => none
def mAsB (m : ME) : MB := fun σ o => asB (m σ o)
def mStuck : MS := fun _ _ => .stuck
def cCmpT (cl : List (Str × CI)) (kt : KT) (f : Expr → Option ME) (a : Expr) (ops : List CmpOp) (bs : List Expr) : Option MB :=
  match ops, bs with
  | [op], [b] => if behindInMarks op b then none else (f a).bind fun ma => (f b).map fun mb => fun σ o => asB (mBin (cmpF cl kt op) ma mb σ o)
  | [op, op'], [b, c] => if lastMarks [op, op'] [b, c] then none else (f a).bind fun ma => (f b).bind fun mb => (f c).map fun mc => fun σ o => asB (mChain (cmpF cl kt op) (cmpF cl kt op') ma mb mc σ o)
  | _, _ => none
/-- no comparison, and, or, not: its value's truth -/
def plainT : Expr → Bool
  | .UnaryOp .Not _ _ => false
  | .BoolOp _ _ _ => false
  | .IfExp _ _ _ _ => false
  | .Compare _ _ _ _ => false
  | _ => true
def tStep (cl : List (Str × CI)) (kt : KT) (f : Expr → Option ME) (t : Expr → Option MB) (e : Expr) : Option MB :=
  match e with
  | .Compare a ops bs _ => cCmpT cl kt f a ops bs
  | .BoolOp .And es _ => cAnds t es
  | .BoolOp .Or es _ => cOrs t es
  | .UnaryOp .Not a _ => (t a).map mNot
  | e => if plainT e then (f e).map (mTruC cl) else none
mutual
def cE : Nat → CC → Expr → Option ME
  | 0, _, _ => none
  | n + 1, cc, e => cStep cc (cE n cc) (cT n cc) (fun s => cE n (blkCC cc s)) (fun s => cT n (blkCC cc s)) e
def cT : Nat → CC → Expr → Option MB
  | 0, _, _ => none
  | n + 1, cc, e => tStep cc.cl cc.kt (cE n cc) (cT n cc) e
end
end RR

set_option maxHeartbeats 4000000
namespace RR
open PySem PySem.Spec PyProof.Rows L2
structure GX (X : Cx) (cc : CC) (k : Nat) : Prop where
  calm : X.calm = true
  nN : X.N = cc.N
  nd : cc.N.Nodup
  sc : X.env.scope = cc.sc
  kind : cc.sc.kind = .function
  sto : ∀ x, isLoc (cc.sto.lookup x) = true → storable X x
  room : RoomG (k + 1) X.A
  own : PassesOwn (model X.prog X.w) X.A X.env X.xe
  fs : ∀ x fi, (x, fi) ∈ cc.fs → FnS X.prog X.w X.K X.mg X.base (k + 1) x fi ∧ (x == ("__debug__" : Str)) = false
  cs : ∀ x d, (x, d) ∈ cc.cs → (∃ u v, X.mg x = some u ∧ L2.RelV v u ∧ ∀ A H, RV (gX X) A H d v) ∧ (x == ("__debug__" : Str)) = false
  blt : ∀ x ∈ bltNames, X.mg x = none
  cl : ∀ c ci, (c, ci) ∈ cc.cl → ClsS X.prog X.w X.K X.mg X.base k c ci
  cld : ∀ c ci, (c, ci) ∈ cc.cl → (c == ("__debug__" : Str)) = false
  kt : KtS X.K X.mg cc.kt
  dbg : ∀ x ∈ cc.N, (x == ("__debug__" : Str)) = false ∧ (x == ("__classdict__" : Str)) = false
theorem mem_of_lookup {α : Type} : ∀ {l : List (Str × α)} {x : Str} {a : α}, l.lookup x = some a → (x, a) ∈ l
  | (k, v) :: r, x, a, h => by
    rw [List.lookup_cons] at h
    by_cases hb : (x == k) = true
    · rw [hb] at h
      cases h
      have : x = k := by simpa using hb
      subst this
      exact List.mem_cons_self
    · rw [Bool.not_eq_true] at hb
      rw [hb] at h
      exact List.mem_cons_of_mem _ (mem_of_lookup h)
theorem isVis_ok {sc : Scope} {x : Str} (h : isVis (sc.names.lookup x) = true) : Vis sc x := by
  unfold isVis at h
  split at h
  · rename_i e; exact .inl e
  · rename_i e; exact .inr (.inl e)
  · rename_i e; exact .inr (.inr e)
  · cases h
theorem isGlo_ok {X : Cx} {cc : CC} {k : Nat} (G : GX X cc k) {x : Str} (h : isGlo (cc.sc.names.lookup x) = true) : Gl X x := by
  unfold isGlo at h
  split at h
  · rename_i e
    show X.env.scope.names.lookup x = _
    rw [G.sc]; exact e
  · cases h
section
variable {X : Cx} {cc : CC} {k : Nat} {f : Expr → Option ME} {t : Expr → Option MB}
theorem or_rep : OpR X (binaryOp .Mult) (rW2 (gX X) repM) := by
  intro pins s σ H x y v u Q I rx ry ⟨F, ι, objs, w1, w2, rel, h1, h2, p⟩
  unfold repM at p
  split at p
  · split at p
    · rename_i xs l1
      split at p
      · rename_i hc
        simp only [RW, RV] at h2
        subst h2
        obtain ⟨a, vs, rfl, e1, k1⟩ := lstW_ok rel h1 l1
        exact op_rep pins s σ H _ _ v u Q I rx ry ⟨a, _, vs, rfl, rfl, e1, hc.1, hc.2.1, by rw [← k1.length]; exact hc.2.2, fun q hq => p.freshM rel hq (k1.rep _)⟩
      · exact p.elim
    · exact p.elim
  · exact p.elim
theorem binF_ok {mu : Bool} {op : Operator} {fo : W → W → Objs → R W} (h : binF mu op = some fo) : OpR X (binaryOp op) (rW2 (gX X) fo) := by
  cases op <;> simp only [binF, Option.some.injEq, reduceCtorEq] at h
  · subst h; exact or_add
  · subst h; exact or_sub
  · subst h
    cases mu
    · exact or_mul
    · exact or_rep
  · subst h; exact or_mod
  · subst h; exact or_pow
  · subst h; exact or_fdiv
theorem cmpF_ok (G : GX X cc k) (op : CmpOp) : OpR X (compareOp op) (rW2 (gX X) (cmpF cc.cl cc.kt op)) := by
  have hu := G.room.units
  cases op
  · exact or_eqZ G.cl G.kt G.room hu
  · exact or_neZ G.cl G.kt G.room hu
  · exact or_lt
  · exact or_le
  · exact or_gt
  · exact or_ge
  · exact or_is
  · exact or_isn
  · exact or_inX (by omega)
  · exact or_ninX (by omega)
theorem BF_ok (G : GX X cc k) (b : BF) (mu : Bool) : CallR X b.cal (rWc (gX X) (b.fn mu cc.cl cc.kt)) := by
  have hc := G.calm
  cases b
  · exact cb_lenC G.cl G.room
  · exact cb_abs
  · exact ct_int
  · exact cb_divmod
  · exact cb_sum hc
  · exact cb_max hc
  · exact cb_min hc
  · exact cb_any hc
  · exact cb_all hc
  · exact ct_listX hc
  · exact ct_tuple
  · exact cb_isiC G.cl G.kt
  · exact cb_repr G.room.g G.room.units
  · exact ct_bool G.cl
  · exact ct_dictX hc
theorem se_bf {b : BF} {mu : Bool} {e : Expr} {es : List Expr} {pos p : Pos} {ml : ML} (G : GX X cc k) (hg : Gl X b.name) (ha : SA X (e :: es) ml) (hst : (e :: es).all (fun e => !isStar e) = true) : SE X (.Call (.Name b.name p) (e :: es) [] pos) (mCall (b.fn mu cc.cl cc.kt) ml) := by
  have hm := G.blt _ b.mem
  have hb := b.boot
  have ok := BF_ok (X := X) G b mu
  obtain ⟨n1, n2⟩ := b.nm
  cases b
  · exact se_callB ok hg hm hb ha n1 n2 hst
  · exact se_callB ok hg hm hb ha n1 n2 hst
  · exact se_callTy ok hg hm hb ha n1 n2 hst
  · exact se_callB ok hg hm hb ha n1 n2 hst
  · exact se_callB ok hg hm hb ha n1 n2 hst
  · exact se_callB ok hg hm hb ha n1 n2 hst
  · exact se_callB ok hg hm hb ha n1 n2 hst
  · exact se_callB ok hg hm hb ha n1 n2 hst
  · exact se_callB ok hg hm hb ha n1 n2 hst
  · exact se_callTy ok hg hm hb ha n1 n2 hst
  · exact se_callTy ok hg hm hb ha n1 n2 hst
  · exact se_callB ok hg hm hb ha n1 n2 hst
  · exact se_callB ok hg hm hb ha n1 n2 hst
  · exact se_callTy ok hg hm hb ha n1 n2 hst
  · exact se_callTy ok hg hm hb ha n1 n2 hst
theorem bfOf_inv {x : Str} {b : BF} (h : bfOf x = some b) : b.name = x := by
  have := List.find?_some h
  simpa using this
theorem mfOf_inv {x : Str} {b : MF} (h : mfOf x = some b) : b.name = x := by
  have := List.find?_some h
  simpa using this
theorem cName_ok {x : Str} {m : ME} {pos : Pos} (G : GX X cc k) (h : cName cc x = some m) : SE X (.Name x pos) m := by
  unfold cName at h
  split at h
  · rename_i hv
    obtain ⟨i, hi, rfl⟩ := Option.map_eq_some_iff.mp h
    have hN : X.N[i]? = some x := by rw [G.nN]; exact findIdx_get hi
    have hd := G.dbg x (by rw [← G.nN]; exact List.mem_of_getElem? hN)
    exact se_var hN (by rw [G.sc]; exact isVis_ok hv) hd.1 hd.2
  · split at h
    · rename_i hg
      split at h
      · rename_i d hd
        cases h
        obtain ⟨⟨u, v, h1, h2, h3⟩, h4⟩ := G.cs x d (mem_of_lookup hd)
        exact se_const (pe_glob (isGlo_ok G hg) h1 h2 h4) h3
      · split at h
        · rename_i ci hci
          cases h
          obtain ⟨C, a1, _⟩ := (G.cl x ci (mem_of_lookup hci)).ex
          exact se_const (v := .ref C) (pe_glob (isGlo_ok G hg) a1 rfl (G.cld x ci (mem_of_lookup hci))) fun _ _ => by simp only [RV]; exact ⟨C, a1, rfl⟩
        · obtain ⟨n, hn, rfl⟩ := Option.map_eq_some_iff.mp h
          obtain ⟨b1, b2, b3, b4⟩ := ty_boot (mem_of_lookup hn)
          exact se_const (v := .ty n) (pe_bltn (isGlo_ok G hg) (G.blt x b2) b1 rfl b3 b4) fun _ _ => by simp only [RV]
    · cases h
theorem cList_ok (hf : ∀ e m, f e = some m → SE X e m) : ∀ {es : List Expr} {ml : ML}, cList f es = some ml → SA X es ml ∧ es.all (fun e => !isStar e) = true
  | [], ml, h => by cases h; exact ⟨sa_nil, rfl⟩
  | e :: es, ml, h => by
    unfold cList at h
    split at h
    · cases h
    · rename_i hs
      obtain ⟨m, h1, h⟩ := Option.bind_eq_some_iff.mp h
      obtain ⟨l, h2, rfl⟩ := Option.map_eq_some_iff.mp h
      obtain ⟨i1, i2⟩ := cList_ok hf h2
      have hs' : isStar e = false := by simpa using hs
      exact ⟨sa_cons (hf e m h1) i1 hs', by rw [List.all_cons, i2, hs']; rfl⟩
theorem cAnds_ok (ht : ∀ e m, t e = some m → ST X e m) {pos : Pos} : ∀ {es : List Expr} {m : MB}, cAnds t es = some m → SW X (.BoolOp .And es pos) m
  | [], m, h => by cases h
  | [e], m, h => sw_and1 (ht e m h)
  | e :: e' :: es, m, h => by
    unfold cAnds at h
    obtain ⟨m1, h1, h⟩ := Option.bind_eq_some_iff.mp h
    obtain ⟨m2, h2, rfl⟩ := Option.map_eq_some_iff.mp h
    exact sw_and (ht e m1 h1) (cAnds_ok ht h2)
theorem cOrs_ok (ht : ∀ e m, t e = some m → ST X e m) {pos : Pos} : ∀ {es : List Expr} {m : MB}, cOrs t es = some m → SW X (.BoolOp .Or es pos) m
  | [], m, h => by cases h
  | [e], m, h => sw_or1 (ht e m h)
  | e :: e' :: es, m, h => by
    unfold cOrs at h
    obtain ⟨m1, h1, h⟩ := Option.bind_eq_some_iff.mp h
    obtain ⟨m2, h2, rfl⟩ := Option.map_eq_some_iff.mp h
    exact sw_or (ht e m1 h1) (cOrs_ok ht h2)
theorem cAndV_ok (hf : ∀ e m, f e = some m → SE X e m) {pos : Pos} : ∀ {es : List Expr} {m : ME}, cAndV f es = some m → SE X (.BoolOp .And es pos) m
  | [], m, h => by cases h
  | [e], m, h => se_one (hf e m h)
  | e :: e' :: es, m, h => by
    unfold cAndV at h
    obtain ⟨m1, h1, h⟩ := Option.bind_eq_some_iff.mp h
    obtain ⟨m2, h2, rfl⟩ := Option.map_eq_some_iff.mp h
    exact se_and (hf e m1 h1) (cAndV_ok hf h2)
theorem cOrV_ok (hf : ∀ e m, f e = some m → SE X e m) {pos : Pos} : ∀ {es : List Expr} {m : ME}, cOrV f es = some m → SE X (.BoolOp .Or es pos) m
  | [], m, h => by cases h
  | [e], m, h => se_one (hf e m h)
  | e :: e' :: es, m, h => by
    unfold cOrV at h
    obtain ⟨m1, h1, h⟩ := Option.bind_eq_some_iff.mp h
    obtain ⟨m2, h2, rfl⟩ := Option.map_eq_some_iff.mp h
    exact se_or (hf e m1 h1) (cOrV_ok hf h2)
theorem cPart_ok (hf : ∀ e m, f e = some m → SE X e m) {oe : Option Expr} {m : Option ME} (h : cPart f oe = some m) : SO X oe (mPart m) := by
  cases oe with
  | none => cases h; exact so_none
  | some e =>
    obtain ⟨m1, h1, rfl⟩ := Option.map_eq_some_iff.mp h
    exact so_some (hf e m1 h1)
theorem cConst_ok {c : Const} {m : ME} {j : Nat} {pos : Pos} (h : cConst c = some m) : SE X (.Constant c j pos) m := by
  cases c <;> simp only [cConst, Option.some.injEq, reduceCtorEq] at h <;> subst h
  · exact se_non
  · exact se_bl
  · exact se_int
  · exact se_str
theorem cCmp_ok (G : GX X cc k) (hf : ∀ e m, f e = some m → SE X e m) {a : Expr} {ops : List CmpOp} {bs : List Expr} {m : ME} {pos : Pos} (h : cCmp cc.cl cc.kt f a ops bs = some m) : SE X (.Compare a ops bs pos) m := by
  unfold cCmp at h
  split at h
  · split at h
    · cases h
    · rename_i hb
      obtain ⟨m1, h1, h⟩ := Option.bind_eq_some_iff.mp h
      obtain ⟨m2, h2, rfl⟩ := Option.map_eq_some_iff.mp h
      exact se_cmp (cmpF_ok G _) (hf _ _ h1) (hf _ _ h2) (by simpa using hb)
  · split at h
    · cases h
    · rename_i hb
      obtain ⟨m1, h1, h⟩ := Option.bind_eq_some_iff.mp h
      obtain ⟨m2, h2, h⟩ := Option.bind_eq_some_iff.mp h
      obtain ⟨m3, h3, rfl⟩ := Option.map_eq_some_iff.mp h
      exact se_chain (cmpF_ok G _) (cmpF_ok G _) (hf _ _ h1) (hf _ _ h2) (hf _ _ h3) (by simpa using hb)
  · cases h
theorem cUn_ok (hf : ∀ e m, f e = some m → SE X e m) {a : Expr} {op : UnaryOp} {m : ME} {pos : Pos} (h : cUn f op a = some m) : SE X (.UnaryOp op a pos) m := by
  cases op <;> simp only [cUn, reduceCtorEq] at h
  · obtain ⟨m1, h1, rfl⟩ := Option.map_eq_some_iff.mp h
    exact se_not (hf _ _ h1)
  · obtain ⟨m1, h1, rfl⟩ := Option.map_eq_some_iff.mp h
    exact se_un ur_neg (hf _ _ h1)
theorem plain_ix {s : Expr} (hn : notSlice s = true) : PlainIx s := fun o i => by
  cases s <;> first | rfl | (simp [notSlice] at hn)
theorem fold_ok {e : Expr} {env : Env} (h : ∀ a b c, e = .Set a b c → False) (x : Value) : foldedSetIterable e env x = pure x := by
  cases e <;> first | rfl | (exfalso; exact h _ _ _ rfl)
theorem cSub_ok (G : GX X cc k) (hf : ∀ e m, f e = some m → SE X e m) {mu : Bool} {a s : Expr} {m : ME} {pos : Pos} (h : cSub f mu a s = some m) : SE X (.Subscript a s pos) m := by
  unfold cSub at h
  split at h
  · obtain ⟨m1, h1, h⟩ := Option.bind_eq_some_iff.mp h
    obtain ⟨m2, h2, h⟩ := Option.bind_eq_some_iff.mp h
    obtain ⟨m3, h3, rfl⟩ := Option.map_eq_some_iff.mp h
    exact se_slice (hf _ _ h1) (cPart_ok hf h2) (cPart_ok hf h3)
  · split at h
    · rename_i hm
      obtain ⟨k, p1, p2, rfl⟩ := isM1_inv hm
      obtain ⟨m1, h1, rfl⟩ := Option.map_eq_some_iff.mp h
      exact se_rev (hf _ _ h1)
    · cases h
  · split at h
    · rename_i hn
      obtain ⟨m1, h1, h⟩ := Option.bind_eq_some_iff.mp h
      obtain ⟨m2, h2, rfl⟩ := Option.map_eq_some_iff.mp h
      exact se_ixX (by have := G.room.units; omega) (hf _ _ h1) (hf _ _ h2) (plain_ix hn)
    · cases h
theorem MF_ok (mf : MF) : ∃ mid, PlainAttrs mf.ty ∧ Slot mf.ty mf.name mid ∧ typeOf (.builtin mid) = pure (.type "method_descriptor") ∧ MtR X mid (rWm (gX X) mf.fn) := by
  cases mf
  · exact ⟨_, F.plainAttrs_list, F.slot_list_append, F.type_list_append, mr_append⟩
  · exact ⟨_, F.plainAttrs_list, F.slot_list_extend, F.type_list_extend, mr_extend⟩
  · exact ⟨_, F.plainAttrs_list, F.slot_list_pop, F.type_list_pop, mr_pop⟩
  · exact ⟨_, F.plainAttrs_str, F.slot_str_index, F.type_str_index, mr_idx⟩
  · exact ⟨_, F.plainAttrs_str, F.slot_str_rstrip, F.type_str_rstrip, mr_rstrip⟩
  · exact ⟨_, F.plainAttrs_str, F.slot_str_join, F.type_str_join, mr_join⟩
theorem cKw_ok (hf : ∀ e m, f e = some m → SE X e m) : ∀ {kws : List Keyword} {ml : ML}, cKw f kws = some ml → SK X kws ml
  | [], ml, h => by cases h; exact sk_nil
  | ⟨nm, e, kp⟩ :: r, ml, h => by
    simp only [cKw] at h
    obtain ⟨m, h1, h⟩ := Option.bind_eq_some_iff.mp h
    obtain ⟨l, h2, rfl⟩ := Option.map_eq_some_iff.mp h
    exact sk_cons (hf _ _ h1) (cKw_ok hf h2)
theorem mem_of_lookup' {α β : Type} [BEq α] [LawfulBEq α] : ∀ {l : List (α × β)} {x : α} {a : β}, l.lookup x = some a → (x, a) ∈ l
  | (k, v) :: r, x, a, h => by
    rw [List.lookup_cons] at h
    by_cases hb : (x == k) = true
    · rw [hb] at h
      cases h
      have : x = k := by simpa using hb
      subst this
      exact List.mem_cons_self
    · rw [Bool.not_eq_true] at hb
      rw [hb] at h
      exact List.mem_cons_of_mem _ (mem_of_lookup' h)
theorem cCall_ok (G : GX X cc k) (hf : ∀ e m, f e = some m → SE X e m) {fn : Expr} {es : List Expr} {kws : List Keyword} {m : ME} {pos : Pos} (h : cCall f cc fn es kws pos = some m) : SE X (.Call fn es kws pos) m := by
  unfold cCall at h
  split at h
  · split at h
    · unfold cCallN at h
      split at h
      · rename_i hg
        split at h
        · cases h
        · split at h
          · rename_i fi hfi
            obtain ⟨l, h1, rfl⟩ := Option.map_eq_some_iff.mp h
            obtain ⟨a1, a2⟩ := cList_ok hf h1
            obtain ⟨g1, g2⟩ := G.fs _ _ (mem_of_lookup hfi)
            exact se_call g1 G.room (isGlo_ok G hg) a1 g2 a2
          · split at h
            · rename_i ci hci
              obtain ⟨fi, hi, h⟩ := Option.bind_eq_some_iff.mp h
              obtain ⟨l, h1, rfl⟩ := Option.map_eq_some_iff.mp h
              obtain ⟨a1, a2⟩ := cList_ok hf h1
              exact se_make hi (G.cl _ _ (mem_of_lookup hci)) G.room (isGlo_ok G hg) a1 (G.cld _ _ (mem_of_lookup hci)) a2
            · split at h
              · rename_i a hra
                split at h
                · rename_i hc
                  simp only [Bool.and_eq_true, Bool.not_eq_true'] at hc
                  obtain ⟨⟨hx, hgr⟩, hst⟩ := hc
                  have := eq_of_beq hx
                  subst this
                  obtain ⟨m1, h1, rfl⟩ := Option.map_eq_some_iff.mp h
                  unfold rgArg at hra
                  split at hra
                  · split at hra
                    · rename_i hr
                      have := eq_of_beq hr
                      subst this
                      cases hra
                      rename_i hxx
                      cases hxx
                      exact se_lrg G.calm (isGlo_ok G hg) (G.blt _ (by decide +kernel)) (isGlo_ok G hgr) (G.blt _ (by decide +kernel)) (hf _ _ h1) hst
                    · cases hra
                  · cases hra
                · cases h
              obtain ⟨b, hb, h⟩ := Option.bind_eq_some_iff.mp h
              obtain ⟨l, h1, rfl⟩ := Option.map_eq_some_iff.mp h
              obtain ⟨a1, a2⟩ := cList_ok hf h1
              have := bfOf_inv hb
              subst this
              exact se_bf G (isGlo_ok G hg) a1 a2
      · cases h
    · unfold cCallM at h
      split at h
      · rename_i hc
        simp only [Bool.and_eq_true, decide_eq_true_eq] at hc
        obtain ⟨mf, hmf, h⟩ := Option.bind_eq_some_iff.mp h
        obtain ⟨mo, ho, h⟩ := Option.bind_eq_some_iff.mp h
        obtain ⟨l, h1, rfl⟩ := Option.map_eq_some_iff.mp h
        obtain ⟨a1, a2⟩ := cList_ok hf h1
        have := mfOf_inv hmf
        subst this
        obtain ⟨mid, m1, m2, m3, m4⟩ := MF_ok (X := X) mf
        cases es with
        | nil =>
          cases h1
          exact se_bm0 m1 m2 m3 m4 (hf _ _ ho) hc.1.1 hc.1.2
        | cons e es =>
          exact se_bm m1 m2 m3 m4 (hf _ _ ho) a1 hc.1.1 hc.1.2 a2 (by have := hc.2; simp at this; omega)
      · cases h
    · cases h
  · split at h
    · unfold cCallKw at h
      split at h
      · rename_i hg
        split at h
        · rename_i fi h1
          obtain ⟨ks, h2, h⟩ := Option.bind_eq_some_iff.mp h
          obtain ⟨π, h3, h⟩ := Option.bind_eq_some_iff.mp h
          obtain ⟨l, h4, rfl⟩ := Option.map_eq_some_iff.mp h
          obtain ⟨g1, g2⟩ := G.fs _ _ (mem_of_lookup h1)
          exact se_callK g1 G.room (isGlo_ok G hg) h2 (mem_of_lookup' h3) (cKw_ok hf h4) g2
        · obtain ⟨ci, h1, h⟩ := Option.bind_eq_some_iff.mp h
          obtain ⟨fi, hi, h⟩ := Option.bind_eq_some_iff.mp h
          obtain ⟨ks, h2, h⟩ := Option.bind_eq_some_iff.mp h
          obtain ⟨π, h3, h⟩ := Option.bind_eq_some_iff.mp h
          obtain ⟨l, h4, rfl⟩ := Option.map_eq_some_iff.mp h
          exact se_makeK hi (G.cl _ _ (mem_of_lookup h1)) G.room (isGlo_ok G hg) h2 (mem_of_lookup' h3) (cKw_ok hf h4) (G.cld _ _ (mem_of_lookup h1))
      · cases h
    · cases h
theorem cIter_ok (G : GX X cc k) (hf : ∀ e m, f e = some m → SE X e m) {tg e : Expr} {mi : MI} (h : cIter f cc tg e = some mi) : SI X tg e mi ∧ ∀ x, foldedSetIterable e X.env x = pure x := by
  unfold cIter at h
  split at h
  · refine ⟨?_, fun x => rfl⟩
    split at h
    · rename_i hx
      have hx := eq_of_beq hx
      subst hx
      split at h
      · rename_i hg
        split at h
        · obtain ⟨l, h1, rfl⟩ := Option.map_eq_some_iff.mp h
          obtain ⟨a1, a2⟩ := cList_ok hf h1
          simp only [List.all_cons, List.all_nil, Bool.and_true, Bool.not_eq_true'] at a2
          exact si_rng1 (isGlo_ok G hg) (G.blt _ (by decide +kernel)) a1 a2
        · obtain ⟨l, h1, rfl⟩ := Option.map_eq_some_iff.mp h
          obtain ⟨a1, a2⟩ := cList_ok hf h1
          simp only [List.all_cons, List.all_nil, Bool.and_true, Bool.and_eq_true, Bool.not_eq_true'] at a2
          exact si_rng2 (isGlo_ok G hg) (G.blt _ (by decide +kernel)) a1 a2.1 a2.2
        · obtain ⟨l, h1, rfl⟩ := Option.map_eq_some_iff.mp h
          obtain ⟨a1, a2⟩ := cList_ok hf h1
          simp only [List.all_cons, List.all_nil, Bool.and_true, Bool.and_eq_true, Bool.not_eq_true'] at a2
          exact si_rng3 (isGlo_ok G hg) (G.blt _ (by decide +kernel)) a1 a2.1 a2.2.1 a2.2.2
        · cases h
      · cases h
    · split at h
      · rename_i hx
        have hx := eq_of_beq hx
        subst hx
        split at h
        · rename_i hg
          simp only [Bool.and_eq_true] at hg
          obtain ⟨es, kk, tp, rfl⟩ := isTupE_inv hg.2
          split at h
          · obtain ⟨l, h1, rfl⟩ := Option.map_eq_some_iff.mp h
            obtain ⟨a1, a2⟩ := cList_ok hf h1
            simp only [List.all_cons, List.all_nil, Bool.and_true, Bool.and_eq_true, Bool.not_eq_true'] at a2
            exact si_zip (isGlo_ok G hg.1) (G.blt _ (by decide +kernel)) a1 a2.1 a2.2
          · cases h
        · cases h
      · split at h
        · rename_i hx
          have hx := eq_of_beq hx
          subst hx
          split at h
          · rename_i hg
            simp only [Bool.and_eq_true] at hg
            obtain ⟨es, kk, tp, rfl⟩ := isTupE_inv hg.2
            split at h
            · obtain ⟨l, h1, rfl⟩ := Option.map_eq_some_iff.mp h
              obtain ⟨a1, a2⟩ := cList_ok hf h1
              simp only [List.all_cons, List.all_nil, Bool.and_true, Bool.not_eq_true'] at a2
              exact si_enum (isGlo_ok G hg.1) (G.blt _ (by decide +kernel)) a1 a2
            · cases h
          · cases h
        · obtain ⟨m, h1, rfl⟩ := Option.map_eq_some_iff.mp h
          exact si_seq (hf _ _ h1)
  · cases h
  · rename_i _ hns
    obtain ⟨m, h1, rfl⟩ := Option.map_eq_some_iff.mp h
    exact ⟨si_seq (hf _ _ h1), fold_ok hns⟩
theorem isLoc_sc {names : List (Str × NameKind)} {x : Str} (h : isLoc (names.lookup x) = true) : names.lookup x = some .local ∨ names.lookup x = some .cell := by
  unfold isLoc at h
  split at h
  · rename_i e; exact .inl e
  · rename_i e; exact .inr e
  · cases h
theorem cTg_ok {X : Cx} (hN : X.N = cc.N) (nd : cc.N.Nodup) (hc : X.calm = true) (hs : ∀ x, isLoc (cc.sto.lookup x) = true → storable X x) {tg : Expr} {T : Tg} (h : cTg cc tg = some T) : PG X tg (hTg X.K T) := by
  unfold cTg at h
  split at h
  · split at h
    · rename_i hl
      obtain ⟨i, hi, rfl⟩ := Option.map_eq_some_iff.mp h
      exact hg_one (by rw [hN]; exact nd) (by rw [hN]; exact findIdx_get hi) (hs _ hl)
    · cases h
  · split at h
    · rename_i hl
      obtain ⟨is, hi, rfl⟩ := Option.map_eq_some_iff.mp h
      refine hg_many hc (by rw [hN]; exact nd) (by rw [hN]; exact hi) fun x p hm => ?_
      have := List.all_eq_true.mp hl _ hm
      exact hs x this
    · cases h
  · cases h
theorem lookup_mapk {g : Str × NameKind → Str × NameKind} (h1 : ∀ p, (g p).1 = p.1) (h2 : ∀ p, p.2 = .cell → (g p).2 = .cell) : ∀ {names : List (Str × NameKind)} {x : Str}, names.lookup x = some .cell → (names.map g).lookup x = some .cell
  | [], _, h => by simp at h
  | p :: r, x, h => by
    have ih := lookup_mapk h1 h2 (names := r) (x := x)
    obtain ⟨n, k⟩ := p
    rw [List.map_cons]
    rw [List.lookup_cons] at h
    have e : g (n, k) = (n, (g (n, k)).2) := Prod.ext (h1 (n, k)) rfl
    rw [e, List.lookup_cons]
    by_cases hb : (x == n) = true
    · rw [hb] at h ⊢
      cases h
      exact congrArg some (h2 (n, .cell) rfl)
    · rw [Bool.not_eq_true] at hb
      rw [hb] at h ⊢
      exact ih h
theorem lookup_relabel_cell {env : Env} {names : List (Str × NameKind)} {x : Str} (h : names.lookup x = some .cell) :
    (names.map fun (n, k) => if (k == NameKind.free && env.scope.kind == .function && env.kindOf n == some .cell) then (n, NameKind.cell) else (n, k)).lookup x = some .cell :=
  lookup_mapk (fun p => by dsimp only; split <;> rfl) (fun p hp => by dsimp only; split <;> first | rfl | exact hp) h
/-- within a comprehension's block -/
theorem GX.blk (G : GX X cc k) {scope : Scope} {own : List (Str × Nat)} (ok : BlkOk cc.N cc.sc scope own) (s : Shared) (H : Hp) (C : Addr) (cl : List (Str × Addr)) (fp : List Addr) : GX (X.blk s H scope (compEnvC scope cl C X.env) fp) (blkCC cc scope) k where
  calm := G.calm
  nN := G.nN
  nd := G.nd
  sc := by
    show relabel scope X.env = relS scope cc.sc
    rw [← G.sc]; rfl
  kind := ok.kind
  sto := fun x h => by
    have hl := isLoc_sc h
    have hk : X.env.scope.kind = .function := by rw [G.sc]; exact G.kind
    refine ⟨?_, ?_⟩
    · rcases hl with hl | hl
      · exact .inl (lookup_relabel_local hl)
      · exact .inr (lookup_relabel_cell hl)
    · rcases hl with hl | hl
      · exact .inr (lookup_relabel_local hl)
      · refine .inl ?_
        have hl : scope.names.lookup x = some .cell := hl
        show (scope.names.lookup x == some .cell) = true
        rw [hl]; rfl
  room := G.room
  own := PassesOwn.never
  fs := G.fs
  cs := G.cs
  blt := G.blt
  cl := G.cl
  cld := G.cld
  kt := G.kt
  dbg := G.dbg
theorem cLc_parts (G : GX X cc k) (hf : ∀ e m, f e = some m → SE X e m) {fb : Scope → Expr → Option ME} {tb : Scope → Expr → Option MB} {scope : Scope}
    (hfb : ∀ X', GX X' (blkCC cc scope) k → ∀ e m, fb scope e = some m → SE X' e m) (htb : ∀ X', GX X' (blkCC cc scope) k → ∀ e m, tb scope e = some m → ST X' e m)
    {mu : Bool} {elt : Expr} {gs : List Comprehension} {m : ME} (h : cLc f (fb scope) (tb scope) cc mu elt gs scope = some m) :
    ∃ (tg iter : Expr) (ifs : List Expr) (mi : MI) (T : Tg) (own : List (Str × Nat)) (mc : MB) (me : ME), gs = [⟨tg, iter, ifs, 0⟩] ∧ m = mLc mu mi T (own.map (·.2)) mc me ∧ SI X tg iter mi ∧ BlkOk X.N X.env.scope scope own ∧ (∀ i ∈ T.slots, i ∈ own.map (·.2)) ∧
      (∀ (s : Shared) (H : Hp) (C : Addr) (cl : List (Str × Addr)) (fp : List Addr), PG (X.blk s H scope (compEnvC scope cl C X.env) fp) tg (hTg X.K T)) ∧
      (∀ (s : Shared) (H : Hp) (C : Addr) (cl : List (Str × Addr)) (fp : List Addr), PTs (X.blk s H scope (compEnvC scope cl C X.env) fp) ifs (teb (gX X) mc)) ∧
      (∀ (s : Shared) (H : Hp) (C : Addr) (cl : List (Str × Addr)) (fp : List Addr), SE (X.blk s H scope (compEnvC scope cl C X.env) fp) elt me) ∧ ∀ x, foldedSetIterable iter X.env x = pure x := by
  unfold cLc at h
  split at h
  · rename_i tg iter ifs
    dsimp only at h
    split at h
    · rename_i hb
      have ok : BlkOk cc.N cc.sc scope (ownOf cc.N scope.names) := blkOk_by hb
      obtain ⟨mi, h1, h⟩ := Option.bind_eq_some_iff.mp h
      obtain ⟨T, h2, h⟩ := Option.bind_eq_some_iff.mp h
      split at h
      · rename_i hT
        obtain ⟨mc, h3, h⟩ := Option.bind_eq_some_iff.mp h
        obtain ⟨me, h4, rfl⟩ := Option.map_eq_some_iff.mp h
        obtain ⟨i1, i2⟩ := cIter_ok (tg := tg) G hf h1
        refine ⟨tg, iter, ifs, mi, T, _, mc, me, rfl, rfl, i1, by rw [G.nN, G.sc]; exact ok, fun i hi => ?_, fun s H C cl fp => ?_, fun s H C cl fp => ?_, fun s H C cl fp => ?_, i2⟩
        · have := List.all_eq_true.mp hT i hi
          exact List.contains_iff_mem.mp this
        · have G' := G.blk ok s H C cl fp
          exact cTg_ok G'.nN G'.nd G'.calm G'.sto h2
        · have G' := G.blk ok s H C cl fp
          unfold cIfs at h3
          split at h3
          · cases h3; exact sts_nil
          · exact sts_one (htb _ G' _ _ h3)
          · cases h3
        · exact hfb _ (G.blk ok s H C cl fp) _ _ h4
      · cases h
    · cases h
  · cases h
theorem cIter_fold {f : Expr → Option ME} {cc : CC} {tg e : Expr} {mi : MI} (h : cIter f cc tg e = some mi) : ∀ env x, foldedSetIterable e env x = pure x := by
  unfold cIter at h
  split at h
  · exact fun _ _ => rfl
  · cases h
  · rename_i _ hns
    exact fun env x => fold_ok hns x
theorem cLc2_parts (G : GX X cc k) (hf : ∀ e m, f e = some m → SE X e m) {fb : Scope → Expr → Option ME} {tb : Scope → Expr → Option MB} {scope : Scope}
    (hfb : ∀ X', GX X' (blkCC cc scope) k → ∀ e m, fb scope e = some m → SE X' e m) (htb : ∀ X', GX X' (blkCC cc scope) k → ∀ e m, tb scope e = some m → ST X' e m)
    {mu : Bool} {elt : Expr} {gs : List Comprehension} {m : ME} (h : cLc2 f (fb scope) (tb scope) cc mu elt gs scope = some m) :
    ∃ (tg iter tg1 iter1 : Expr) (ifs ifs1 : List Expr) (mi mi1 : MI) (T T1 : Tg) (own : List (Str × Nat)) (mc mc1 : MB) (me : ME), gs = [⟨tg, iter, ifs, 0⟩, ⟨tg1, iter1, ifs1, 0⟩] ∧ m = mLc2 mu mi T (own.map (·.2)) mc mi1 T1 T1.slots mc1 me ∧ SI X tg iter mi ∧ BlkOk X.N X.env.scope scope own ∧ (∀ i ∈ T1.slots, i ∈ own.map (·.2)) ∧ (∀ i ∈ T.slots, i ∈ own.map (·.2)) ∧
      (∀ (s : Shared) (H : Hp) (C : Addr) (cl : List (Str × Addr)) (fp : List Addr), PG (X.blk s H scope (compEnvC scope cl C X.env) fp) tg (hTg X.K T)) ∧
      (∀ (s : Shared) (H : Hp) (C : Addr) (cl : List (Str × Addr)) (fp : List Addr), PTs (X.blk s H scope (compEnvC scope cl C X.env) fp) ifs (teb (gX X) mc)) ∧
      (∀ (s : Shared) (H : Hp) (C : Addr) (cl : List (Str × Addr)) (fp : List Addr), SI (X.blk s H scope (compEnvC scope cl C X.env) fp) tg1 iter1 mi1) ∧
      (∀ (s : Shared) (H : Hp) (C : Addr) (cl : List (Str × Addr)) (fp : List Addr), PG (X.blk s H scope (compEnvC scope cl C X.env) fp) tg1 (hTg X.K T1)) ∧
      (∀ (s : Shared) (H : Hp) (C : Addr) (cl : List (Str × Addr)) (fp : List Addr), PTs (X.blk s H scope (compEnvC scope cl C X.env) fp) ifs1 (teb (gX X) mc1)) ∧
      (∀ (s : Shared) (H : Hp) (C : Addr) (cl : List (Str × Addr)) (fp : List Addr), SE (X.blk s H scope (compEnvC scope cl C X.env) fp) elt me) ∧ (∀ x, foldedSetIterable iter X.env x = pure x) ∧ ∀ env x, foldedSetIterable iter1 env x = pure x := by
  have ifsOk : ∀ {ifs : List Expr} {mc : MB} {X' : Cx}, GX X' (blkCC cc scope) k → cIfs (tb scope) ifs = some mc → PTs X' ifs (teb (gX X') mc) := by
    intro ifs mc X' G' h3
    unfold cIfs at h3
    split at h3
    · cases h3; exact sts_nil
    · exact sts_one (htb _ G' _ _ h3)
    · cases h3
  unfold cLc2 at h
  split at h
  · rename_i tg iter ifs tg1 iter1 ifs1
    dsimp only at h
    split at h
    · rename_i hb
      have ok : BlkOk cc.N cc.sc scope (ownOf cc.N scope.names) := blkOk_by hb
      obtain ⟨mi, h1, h⟩ := Option.bind_eq_some_iff.mp h
      obtain ⟨T, h2, h⟩ := Option.bind_eq_some_iff.mp h
      obtain ⟨mi1, h5, h⟩ := Option.bind_eq_some_iff.mp h
      obtain ⟨T1, h6, h⟩ := Option.bind_eq_some_iff.mp h
      split at h
      · rename_i hT
        simp only [Bool.and_eq_true] at hT
        obtain ⟨mc, h3, h⟩ := Option.bind_eq_some_iff.mp h
        obtain ⟨mc1, h7, h⟩ := Option.bind_eq_some_iff.mp h
        obtain ⟨me, h4, rfl⟩ := Option.map_eq_some_iff.mp h
        obtain ⟨i1, i2⟩ := cIter_ok (tg := tg) G hf h1
        refine ⟨tg, iter, tg1, iter1, ifs, ifs1, mi, mi1, T, T1, _, mc, mc1, me, rfl, rfl, i1, by rw [G.nN, G.sc]; exact ok, fun i hi => ?_, fun i hi => ?_, fun s H C cl fp => ?_, fun s H C cl fp => ?_, fun s H C cl fp => ?_, fun s H C cl fp => ?_, fun s H C cl fp => ?_, fun s H C cl fp => ?_, i2, cIter_fold h5⟩
        · exact List.contains_iff_mem.mp (List.all_eq_true.mp hT.2 i hi)
        · exact List.contains_iff_mem.mp (List.all_eq_true.mp hT.1 i hi)
        · have G' := G.blk ok s H C cl fp
          exact cTg_ok G'.nN G'.nd G'.calm G'.sto h2
        · exact ifsOk (G.blk ok s H C cl fp) h3
        · exact (cIter_ok (G.blk ok s H C cl fp) (hfb _ (G.blk ok s H C cl fp)) h5).1
        · have G' := G.blk ok s H C cl fp
          exact cTg_ok G'.nN G'.nd G'.calm G'.sto h6
        · exact ifsOk (G.blk ok s H C cl fp) h7
        · exact hfb _ (G.blk ok s H C cl fp) _ _ h4
      · cases h
    · cases h
  · cases h
theorem cDc_parts (G : GX X cc k) (hf : ∀ e m, f e = some m → SE X e m) {fb : Scope → Expr → Option ME} {tb : Scope → Expr → Option MB} {scope : Scope}
    (hfb : ∀ X', GX X' (blkCC cc scope) k → ∀ e m, fb scope e = some m → SE X' e m) (htb : ∀ X', GX X' (blkCC cc scope) k → ∀ e m, tb scope e = some m → ST X' e m)
    {mu : Bool} {kx vx : Expr} {gs : List Comprehension} {m : ME} (h : cDc f (fb scope) (tb scope) cc mu kx vx gs scope = some m) :
    ∃ (tg iter : Expr) (ifs : List Expr) (mi : MI) (T : Tg) (own : List (Str × Nat)) (mc : MB) (mk mv : ME), gs = [⟨tg, iter, ifs, 0⟩] ∧ m = mDc mu mi T (own.map (·.2)) mc mk mv ∧ SI X tg iter mi ∧ BlkOk X.N X.env.scope scope own ∧ (∀ i ∈ T.slots, i ∈ own.map (·.2)) ∧
      (∀ (s : Shared) (H : Hp) (C : Addr) (cl : List (Str × Addr)) (fp : List Addr), PG (X.blk s H scope (compEnvC scope cl C X.env) fp) tg (hTg X.K T)) ∧
      (∀ (s : Shared) (H : Hp) (C : Addr) (cl : List (Str × Addr)) (fp : List Addr), PTs (X.blk s H scope (compEnvC scope cl C X.env) fp) ifs (teb (gX X) mc)) ∧
      (∀ (s : Shared) (H : Hp) (C : Addr) (cl : List (Str × Addr)) (fp : List Addr), SE (X.blk s H scope (compEnvC scope cl C X.env) fp) kx mk) ∧ (∀ (s : Shared) (H : Hp) (C : Addr) (cl : List (Str × Addr)) (fp : List Addr), SE (X.blk s H scope (compEnvC scope cl C X.env) fp) vx mv) ∧ ∀ x, foldedSetIterable iter X.env x = pure x := by
  unfold cDc at h
  split at h
  · rename_i tg iter ifs
    dsimp only at h
    split at h
    · rename_i hb
      have ok : BlkOk cc.N cc.sc scope (ownOf cc.N scope.names) := blkOk_by hb
      obtain ⟨mi, h1, h⟩ := Option.bind_eq_some_iff.mp h
      obtain ⟨T, h2, h⟩ := Option.bind_eq_some_iff.mp h
      split at h
      · rename_i hT
        obtain ⟨mc, h3, h⟩ := Option.bind_eq_some_iff.mp h
        obtain ⟨mk, h4, h⟩ := Option.bind_eq_some_iff.mp h
        obtain ⟨mv, h8, rfl⟩ := Option.map_eq_some_iff.mp h
        obtain ⟨i1, i2⟩ := cIter_ok (tg := tg) G hf h1
        refine ⟨tg, iter, ifs, mi, T, _, mc, mk, mv, rfl, rfl, i1, by rw [G.nN, G.sc]; exact ok, fun i hi => ?_, fun s H C cl fp => ?_, fun s H C cl fp => ?_, fun s H C cl fp => ?_, fun s H C cl fp => ?_, i2⟩
        · have := List.all_eq_true.mp hT i hi
          exact List.contains_iff_mem.mp this
        · have G' := G.blk ok s H C cl fp
          exact cTg_ok G'.nN G'.nd G'.calm G'.sto h2
        · have G' := G.blk ok s H C cl fp
          unfold cIfs at h3
          split at h3
          · cases h3; exact sts_nil
          · exact sts_one (htb _ G' _ _ h3)
          · cases h3
        · exact hfb _ (G.blk ok s H C cl fp) _ _ h4
        · exact hfb _ (G.blk ok s H C cl fp) _ _ h8
      · cases h
    · cases h
  · cases h
theorem cDc2_parts (G : GX X cc k) (hf : ∀ e m, f e = some m → SE X e m) {fb : Scope → Expr → Option ME} {tb : Scope → Expr → Option MB} {scope : Scope}
    (hfb : ∀ X', GX X' (blkCC cc scope) k → ∀ e m, fb scope e = some m → SE X' e m) (htb : ∀ X', GX X' (blkCC cc scope) k → ∀ e m, tb scope e = some m → ST X' e m)
    {mu : Bool} {kx vx : Expr} {gs : List Comprehension} {m : ME} (h : cDc2 f (fb scope) (tb scope) cc mu kx vx gs scope = some m) :
    ∃ (tg iter tg1 iter1 : Expr) (ifs ifs1 : List Expr) (mi mi1 : MI) (T T1 : Tg) (own : List (Str × Nat)) (mc mc1 : MB) (mk mv : ME), gs = [⟨tg, iter, ifs, 0⟩, ⟨tg1, iter1, ifs1, 0⟩] ∧ m = mDc2 mu mi T (own.map (·.2)) mc mi1 T1 T1.slots mc1 mk mv ∧ SI X tg iter mi ∧ BlkOk X.N X.env.scope scope own ∧ (∀ i ∈ T1.slots, i ∈ own.map (·.2)) ∧ (∀ i ∈ T.slots, i ∈ own.map (·.2)) ∧
      (∀ (s : Shared) (H : Hp) (C : Addr) (cl : List (Str × Addr)) (fp : List Addr), PG (X.blk s H scope (compEnvC scope cl C X.env) fp) tg (hTg X.K T)) ∧
      (∀ (s : Shared) (H : Hp) (C : Addr) (cl : List (Str × Addr)) (fp : List Addr), PTs (X.blk s H scope (compEnvC scope cl C X.env) fp) ifs (teb (gX X) mc)) ∧
      (∀ (s : Shared) (H : Hp) (C : Addr) (cl : List (Str × Addr)) (fp : List Addr), SI (X.blk s H scope (compEnvC scope cl C X.env) fp) tg1 iter1 mi1) ∧
      (∀ (s : Shared) (H : Hp) (C : Addr) (cl : List (Str × Addr)) (fp : List Addr), PG (X.blk s H scope (compEnvC scope cl C X.env) fp) tg1 (hTg X.K T1)) ∧
      (∀ (s : Shared) (H : Hp) (C : Addr) (cl : List (Str × Addr)) (fp : List Addr), PTs (X.blk s H scope (compEnvC scope cl C X.env) fp) ifs1 (teb (gX X) mc1)) ∧
      (∀ (s : Shared) (H : Hp) (C : Addr) (cl : List (Str × Addr)) (fp : List Addr), SE (X.blk s H scope (compEnvC scope cl C X.env) fp) kx mk) ∧ (∀ (s : Shared) (H : Hp) (C : Addr) (cl : List (Str × Addr)) (fp : List Addr), SE (X.blk s H scope (compEnvC scope cl C X.env) fp) vx mv) ∧ (∀ x, foldedSetIterable iter X.env x = pure x) ∧ ∀ env x, foldedSetIterable iter1 env x = pure x := by
  have ifsOk : ∀ {ifs : List Expr} {mc : MB} {X' : Cx}, GX X' (blkCC cc scope) k → cIfs (tb scope) ifs = some mc → PTs X' ifs (teb (gX X') mc) := by
    intro ifs mc X' G' h3
    unfold cIfs at h3
    split at h3
    · cases h3; exact sts_nil
    · exact sts_one (htb _ G' _ _ h3)
    · cases h3
  unfold cDc2 at h
  split at h
  · rename_i tg iter ifs tg1 iter1 ifs1
    dsimp only at h
    split at h
    · rename_i hb
      have ok : BlkOk cc.N cc.sc scope (ownOf cc.N scope.names) := blkOk_by hb
      obtain ⟨mi, h1, h⟩ := Option.bind_eq_some_iff.mp h
      obtain ⟨T, h2, h⟩ := Option.bind_eq_some_iff.mp h
      obtain ⟨mi1, h5, h⟩ := Option.bind_eq_some_iff.mp h
      obtain ⟨T1, h6, h⟩ := Option.bind_eq_some_iff.mp h
      split at h
      · rename_i hT
        simp only [Bool.and_eq_true] at hT
        obtain ⟨mc, h3, h⟩ := Option.bind_eq_some_iff.mp h
        obtain ⟨mc1, h7, h⟩ := Option.bind_eq_some_iff.mp h
        obtain ⟨mk, h4, h⟩ := Option.bind_eq_some_iff.mp h
        obtain ⟨mv, h8, rfl⟩ := Option.map_eq_some_iff.mp h
        obtain ⟨i1, i2⟩ := cIter_ok (tg := tg) G hf h1
        refine ⟨tg, iter, tg1, iter1, ifs, ifs1, mi, mi1, T, T1, _, mc, mc1, mk, mv, rfl, rfl, i1, by rw [G.nN, G.sc]; exact ok, fun i hi => ?_, fun i hi => ?_, fun s H C cl fp => ?_, fun s H C cl fp => ?_, fun s H C cl fp => ?_, fun s H C cl fp => ?_, fun s H C cl fp => ?_, fun s H C cl fp => ?_, fun s H C cl fp => ?_, i2, cIter_fold h5⟩
        · exact List.contains_iff_mem.mp (List.all_eq_true.mp hT.2 i hi)
        · exact List.contains_iff_mem.mp (List.all_eq_true.mp hT.1 i hi)
        · have G' := G.blk ok s H C cl fp
          exact cTg_ok G'.nN G'.nd G'.calm G'.sto h2
        · exact ifsOk (G.blk ok s H C cl fp) h3
        · exact (cIter_ok (G.blk ok s H C cl fp) (hfb _ (G.blk ok s H C cl fp)) h5).1
        · have G' := G.blk ok s H C cl fp
          exact cTg_ok G'.nN G'.nd G'.calm G'.sto h6
        · exact ifsOk (G.blk ok s H C cl fp) h7
        · exact hfb _ (G.blk ok s H C cl fp) _ _ h4
        · exact hfb _ (G.blk ok s H C cl fp) _ _ h8
      · cases h
    · cases h
  · cases h
theorem cStep_ok (G : GX X cc k) (hf : ∀ e m, f e = some m → SE X e m) (ht : ∀ e m, t e = some m → ST X e m) {fb : Scope → Expr → Option ME} {tb : Scope → Expr → Option MB}
    (hfb : ∀ scope X', GX X' (blkCC cc scope) k → ∀ e m, fb scope e = some m → SE X' e m) (htb : ∀ scope X', GX X' (blkCC cc scope) k → ∀ e m, tb scope e = some m → ST X' e m)
    {e : Expr} {m : ME} (h : cStep cc f t fb tb e = some m) : SE X e m := by
  unfold cStep at h
  split at h
  · exact cConst_ok h
  · exact cName_ok G h
  · obtain ⟨fo, h0, h⟩ := Option.bind_eq_some_iff.mp h
    obtain ⟨m1, h1, h⟩ := Option.bind_eq_some_iff.mp h
    obtain ⟨m2, h2, rfl⟩ := Option.map_eq_some_iff.mp h
    exact se_bin (binF_ok h0) (hf _ _ h1) (hf _ _ h2)
  · exact cCmp_ok G hf h
  · split at h
    · rename_i hns
      obtain ⟨ma, h1, rfl⟩ := Option.map_eq_some_iff.mp h
      exact se_attr G.cl G.room (hf _ _ h1) hns
    · cases h
  · exact cUn_ok hf h
  · exact cAndV_ok hf h
  · exact cOrV_ok hf h
  · obtain ⟨m0, h0, h⟩ := Option.bind_eq_some_iff.mp h
    obtain ⟨m1, h1, h⟩ := Option.bind_eq_some_iff.mp h
    obtain ⟨m2, h2, rfl⟩ := Option.map_eq_some_iff.mp h
    exact se_if (ht _ _ h0) (hf _ _ h1) (hf _ _ h2)
  · obtain ⟨l, h1, rfl⟩ := Option.map_eq_some_iff.mp h
    exact se_tup (cList_ok hf h1).1
  · obtain ⟨l, h1, rfl⟩ := Option.map_eq_some_iff.mp h
    exact se_lst (cListS_ok hf h1)
  · exact cSub_ok G hf h
  · split at h
    · cases h; exact se_dic0
    · obtain ⟨m1, h1, h⟩ := Option.bind_eq_some_iff.mp h
      obtain ⟨m2, h2, rfl⟩ := Option.map_eq_some_iff.mp h
      exact se_dic1 (hf _ _ h1) (hf _ _ h2)
    · cases h
  · exact cCall_ok G hf h
  · split at h
    · obtain ⟨tg, iter, tg1, iter1, ifs, ifs1, mi, mi1, T, T1, own, mc, mc1, me, rfl, rfl, c1, c2, c3, c4, c5, c6, c7, c8, c9, c10, c11, c12⟩ := cLc2_parts G hf (hfb _) (htb _) h
      exact se_lc2 G.calm (by rw [G.nN]; exact G.nd) c1 c2 c3 c4 (fun _ h => h) c5 c6 c7 c8 c9 c10 c11 c12
    · obtain ⟨tg, iter, ifs, mi, T, own, mc, me, rfl, rfl, c1, c2, c3, c4, c5, c6, c7⟩ := cLc_parts G hf (hfb _) (htb _) h
      exact se_lc G.calm (by rw [G.nN]; exact G.nd) c1 c2 c3 c4 c5 c6 c7
  · split at h
    · obtain ⟨tg, iter, tg1, iter1, ifs, ifs1, mi, mi1, T, T1, own, mc, mc1, mk, mv, rfl, rfl, c1, c2, c3, c4, c5, c6, c7, c8, c9, c10, c13, c11, c12⟩ := cDc2_parts G hf (hfb _) (htb _) h
      exact se_dc2 G.calm (by rw [G.nN]; exact G.nd) c1 c2 c3 c4 (fun _ h => h) c5 c6 c7 c8 c9 c10 c13 c11 c12
    · obtain ⟨tg, iter, ifs, mi, T, own, mc, mk, mv, rfl, rfl, c1, c2, c3, c4, c5, c6, c8, c7⟩ := cDc_parts G hf (hfb _) (htb _) h
      exact se_dc G.calm (by rw [G.nN]; exact G.nd) c1 c2 c3 c4 c5 c6 c8 c7
  · cases h
theorem st_chain {a b c : Expr} {ma mb mc : ME} {pos : Pos} {op op' : CmpOp} {f f' : W → W → Objs → R W} (ho : OpR X (compareOp op) (rW2 (gX X) f)) (ho' : OpR X (compareOp op') (rW2 (gX X) f')) (ha : SE X a ma) (hb : SE X b mb) (hc : SE X c mc) (hm : lastMarks [op, op'] [b, c] = false) :
    ST X (.Compare a [op, op'] [b, c] pos) (fun σ o => asB (mChain f f' ma mb mc σ o)) := by
  refine (pt_chain ho ho' ha hb hc hm).weak fun σ H Q ⟨F, ι, objs, σd, rel, sr, p⟩ => ?_
  obtain ⟨z, oz, ez, p⟩ := p.bind
  cases e1 : ma σd objs with
  | exc e o => rw [mChain, e1] at ez; cases ez
  | stuck => rw [mChain, e1] at ez; cases ez
  | ok x o1 =>
    rw [mChain, e1, R.bind_ok] at ez
    refine ⟨F, ι, objs, σd, rel, sr, ?_⟩
    rw [e1]
    intro v ι1 H1 rel1 ex1 r1
    cases e2 : mb σd o1 with
    | exc e o => rw [e2] at ez; cases ez
    | stuck => rw [e2] at ez; cases ez
    | ok y o2 =>
      rw [e2, R.bind_ok] at ez
      refine ⟨F, ι1, o1, σd, rel1, sr.ext ex1, ?_⟩
      rw [e2]
      intro v2 ι2 H2 rel2 ex2 r2
      refine ⟨F, ι2, o2, x, y, rel2, r1.ext ex2, r2, ?_⟩
      cases e3 : asB (f x y o2) with
      | exc e o => rw [e3] at ez; cases ez
      | stuck => rw [e3] at ez; cases ez
      | ok kk o3 =>
        rw [e3, R.bind_ok] at ez
        rw [asB_inv e3]
        intro v3 ι3 H3 rel3 ex3 r3
        simp only [RW, RV] at r3
        subst r3
        refine ⟨kk, rfl, ?_⟩
        have exx := (ex1.trans ex2).trans ex3
        cases kk with
        | false =>
          simp only [Bool.false_eq_true, if_false] at ez ⊢
          cases ez
          exact ⟨false, rfl, p ι3 H3 rel3 exx⟩
        | true =>
          simp only [if_true] at ez ⊢
          cases e5 : mc σd o3 with
          | exc e o => rw [e5] at ez; cases ez
          | stuck => rw [e5] at ez; cases ez
          | ok w o5 =>
            rw [e5, R.bind_ok] at ez
            refine ⟨F, ι3, o3, σd, rel3, ((sr.ext ex1).ext ex2).ext ex3, ?_⟩
            rw [e5]
            intro v4 ι4 H4 rel4 ex4 r4
            refine ⟨F, ι4, o5, y, w, rel4, (r2.ext ex3).ext ex4, r4, ?_⟩
            rw [ez]
            intro v5 ι5 H5 rel5 ex5 r5
            split at p
            · simp only [RW, RV] at r5
              subst r5
              exact ⟨_, rfl, p ι5 H5 rel5 ((exx.trans ex4).trans ex5)⟩
            · exact p.elim
theorem plainT_ok {e : Expr} (h : plainT e = true) (env : Env) (whole : Sem Value) : isTrue e env whole = (do let v ← whole; standAt e.pos; holding [v] (truthy v)) := by
  cases e <;> first | rfl | (simp [plainT] at h) | skip
  rename_i op a p
  cases op <;> first | rfl | (simp [plainT] at h)
theorem tStep_ok (G : GX X cc k) (hf : ∀ e m, f e = some m → SE X e m) (ht : ∀ e m, t e = some m → ST X e m) {e : Expr} {m : MB} (h : tStep cc.cl cc.kt f t e = some m) : ST X e m := by
  unfold tStep at h
  split at h
  · unfold cCmpT at h
    split at h
    · split at h
      · cases h
      · rename_i hb
        obtain ⟨m1, h1, h⟩ := Option.bind_eq_some_iff.mp h
        obtain ⟨m2, h2, rfl⟩ := Option.map_eq_some_iff.mp h
        exact st_cmp (cmpF_ok G _) (hf _ _ h1) (hf _ _ h2) (by simpa using hb)
    · split at h
      · cases h
      · rename_i hb
        obtain ⟨m1, h1, h⟩ := Option.bind_eq_some_iff.mp h
        obtain ⟨m2, h2, h⟩ := Option.bind_eq_some_iff.mp h
        obtain ⟨m3, h3, rfl⟩ := Option.map_eq_some_iff.mp h
        exact st_chain (cmpF_ok G _) (cmpF_ok G _) (hf _ _ h1) (hf _ _ h2) (hf _ _ h3) (by simpa using hb)
    · cases h
  · exact (cAnds_ok ht h).pt
  · exact (cOrs_ok ht h).pt
  · obtain ⟨m1, h1, rfl⟩ := Option.map_eq_some_iff.mp h
    exact st_not (ht _ _ h1)
  · split at h
    · rename_i hp
      obtain ⟨m1, h1, rfl⟩ := Option.map_eq_some_iff.mp h
      exact st_valC G.cl G.room (hf _ _ h1) fun whole => plainT_ok hp _ _
    · cases h
end
theorem c_ok {k : Nat} : ∀ (n : Nat), (∀ cc X, GX X cc k → ∀ e m, cE n cc e = some m → SE X e m) ∧ (∀ cc X, GX X cc k → ∀ e m, cT n cc e = some m → ST X e m)
  | 0 => ⟨fun cc X _ e m h => (by cases h), fun cc X _ e m h => (by cases h)⟩
  | n + 1 => by
    obtain ⟨ih1, ih2⟩ := c_ok (k := k) n
    refine ⟨fun cc X G e m h => ?_, fun cc X G e m h => ?_⟩
    · unfold cE at h
      exact cStep_ok G (ih1 cc X G) (ih2 cc X G) (fun scope X' G' => ih1 _ X' G') (fun scope X' G' => ih2 _ X' G') h
    · unfold cT at h
      exact tStep_ok G (ih1 cc X G) (ih2 cc X G) h
end RR

set_option maxHeartbeats 4000000
namespace RR
open PySem PySem.Spec PyProof.Rows L2
/-! ### statements from the text -/
def cG (f : Expr → Option ME) (cc : CC) : Expr → Option MG
  | .Name x _ => if isLoc (cc.sto.lookup x) then (cc.N.findIdx? (· == x)).map gNm else none
  | .Subscript a b _ => if notSlice b then (f a).bind fun ma => (f b).map fun mb => gSx ma mb else none
  | _ => none
def cGs (f : Expr → Option ME) (cc : CC) : List Expr → Option (List MG)
  | [] => some []
  | e :: es => (cG f cc e).bind fun g => (cGs f cc es).map fun gs => g :: gs
/-- a target that may be a tuple of targets -/
def cG2 (f : Expr → Option ME) (cc : CC) (e : Expr) : Option MG := match e with
  | .Tuple ts _ _ => (cGs f cc ts).map gTupG
  | e => cG f cc e
def cG2s (f : Expr → Option ME) (cc : CC) : List Expr → Option (List MG)
  | [] => some []
  | e :: es => (cG2 f cc e).bind fun g => (cG2s f cc es).map fun gs => g :: gs
/-- a comprehension as a value -/
def isComp : Expr → Bool
  | .ListComp _ _ _ _ => true
  | .SetComp _ _ _ _ => true
  | .DictComp _ _ _ _ _ => true
  | _ => false
def isTuple : Expr → Bool
  | .Tuple _ _ _ => true
  | _ => false
/-- x = [..] stores as it goes -/
def swC (cc : CC) (x : Str) (p lpos : Pos) (scope : Scope) : Bool :=
  isLocal (cc.sc.names.lookup x) && p.line == lpos.line && !(scope.names.any fun (n, k) => n == x && (k == .local || k == .cell))
/-- {x: True for x in y}, y a name: its slot, x's slot, the truth value -/
def dcK (cc : CC) (kx vx : Expr) (gs : List Comprehension) (scope : Scope) : Option (Nat × Nat × Bool) :=
  match kx, vx, gs with
  | .Name x1 _, .Constant (.bool b) _ _, [⟨.Name x2 _, .Name y _, [], 0⟩] =>
    let own : List (Str × Nat) := ownOf cc.N scope.names
    if x1 == x2 && blkC cc.N cc.sc scope own && isVis (cc.sc.names.lookup y) && isLoc (scope.names.lookup x2) then
      (cc.N.findIdx? (· == y)).bind fun q => (cc.N.findIdx? (· == x2)).bind fun j => if (own.map (·.2)).contains j then some (q, j, b) else none
    else none
  | _, _, _ => none
def cAsg (n : Nat) (cc : CC) (tg e : Expr) : Option MS :=
  match tg with
  | .Name x p => match e with
    | .ListComp elt gs scope lpos =>
      if swC cc x p lpos scope then
        (match n with
          | 0 => none
          | n + 1 => (cc.N.findIdx? (· == x)).bind fun i => (if isTwo gs then cLc2 (cE n cc) (cE n (blkCC cc scope)) (cT n (blkCC cc scope)) cc (isMu cc lpos) elt gs scope else cLc (cE n cc) (cE n (blkCC cc scope)) (cT n (blkCC cc scope)) cc (isMu cc lpos) elt gs scope).map fun m => mAsg m (gNm i))
      else (cE n cc e).bind fun m => (cG (cE n cc) cc tg).map fun g => mAsg m g
    | .DictComp kx vx gs scope lpos =>
      if swC cc x p lpos scope then
        (match n with
          | 0 => none
          | n + 1 => (cc.N.findIdx? (· == x)).bind fun i => match dcK cc kx vx gs scope with
            | some (q, j, b) => some (mAsg (mDcK (isMu cc lpos) q j ((ownOf cc.N scope.names).map (·.2)) b) (gNm i))
            | none => (cDc (cE n cc) (cE n (blkCC cc scope)) (cT n (blkCC cc scope)) cc (isMu cc lpos) kx vx gs scope).map fun m => mAsg m (gNm i))
      else (cE n cc e).bind fun m => (cG (cE n cc) cc tg).map fun g => mAsg m g
    | e => if isComp e then none else (cE n cc e).bind fun m => (cG (cE n cc) cc tg).map fun g => mAsg m g
  | .Subscript _ _ _ => (cE n cc e).bind fun m => (cG (cE n cc) cc tg).map fun g => mAsg m g
  | .Attribute o x _ => if isComp e then none else (cE n cc e).bind fun m => (cE n cc o).map fun mo => mSetF cc.cl x m mo
  | .Tuple ts _ _ => match e with
    | .Tuple vs _ _ => match ts, vs with
      | [.Name x px, .Name y py], [a, b] => match swap2 cc.sc x y px py a b with
        | some true => (cc.N.findIdx? (· == x)).bind fun i => (cc.N.findIdx? (· == y)).bind fun j => if i = j then none else (cList (cE n cc) [a, b]).map fun l => mPar [i, j] l
        | some false => (cList (cE n cc) [a, b]).bind fun l => (cGs (cE n cc) cc ts).map fun g => mUnp l g
        | none => none
      | [.Name x px, .Name y py, .Name z pz], [a, b, c] => if swap3 cc.sc x y z px py pz a b c then
          (cc.N.findIdx? (· == x)).bind fun i => (cc.N.findIdx? (· == y)).bind fun j => (cc.N.findIdx? (· == z)).bind fun l => if i = j ∨ i = l ∨ j = l then none else (cList (cE n cc) [a, b, c]).map fun ml => mPar [i, j, l] ml
        else none
      | ts, vs => if ts.any isTuple then (cList (cE n cc) vs).bind fun l => (cG2s (cE n cc) cc ts).map fun g => mUnp l g else none
    | e => if isComp e then none else (cE n cc e).bind fun m => (cGs (cE n cc) cc ts).map fun g => mAsg m (gTupG g)
  | _ => none
def cTgF (cc : CC) (tg : Expr) : Option MG := (cTg cc tg).map mTg
mutual
def cS : Nat → Nat → CC → Stmt → Option MS
  | 0, _, _, _ => none
  | d + 1, n, cc, st => match st with
    | .Pass _ => some mSkip
    | .Break _ => some mBrk
    | .Continue _ => some mCnt
    | .Expr e _ => if isComp e then none else (cE n cc e).map mExpr
    | .Return (some e) _ => (cE n cc e).map mRet
    | .Return none _ => some mRetN
    | .If c a b _ => (cT n cc c).bind fun mc => (cSs d n cc a).bind fun ma => (cSs d n cc b).map fun mb => mIfS mc ma mb
    | .Assign [tg] e _ => cAsg n cc tg e
    | .For tg iter body [] _ => (cIter (cE n cc) cc tg iter).bind fun mi => (cTgF cc tg).bind fun g => (cSs d n cc body).map fun mb => mFor mi g mb
    | .While c body [] _ => (cT n cc c).bind fun mc => (cSs d n cc body).map fun mb => mWhile mc mb
    | .Raise _ _ _ => some fun _ _ => .stuck
    | _ => none
def cSs : Nat → Nat → CC → List Stmt → Option MS
  | 0, _, _, _ => none
  | _ + 1, _, _, [] => some mSkip
  | d + 1, n, cc, s :: ss => (cS d n cc s).bind fun m => (cSs d n cc ss).map fun ms => mThen m ms
end
section
variable {X : Cx} {cc : CC} {k : Nat} {f : Expr → Option ME}
theorem cG_ok (G : GX X cc k) (hf : ∀ e m, f e = some m → SE X e m) {e : Expr} {g : MG} (h : cG f cc e = some g) : SG X e g ∧ isStar e = false := by
  unfold cG at h
  split at h
  · split at h
    · rename_i hl
      obtain ⟨i, hi, rfl⟩ := Option.map_eq_some_iff.mp h
      have hs := G.sto _ hl
      exact ⟨sg_name (by rw [G.nN]; exact G.nd) (by rw [G.nN]; exact findIdx_get hi) hs.1 hs.2, rfl⟩
    · cases h
  · split at h
    · rename_i hn
      obtain ⟨m1, h1, h⟩ := Option.bind_eq_some_iff.mp h
      obtain ⟨m2, h2, rfl⟩ := Option.map_eq_some_iff.mp h
      exact ⟨sg_subX (by have := G.room.units; omega) (hf _ _ h1) (hf _ _ h2) hn, rfl⟩
    · cases h
  · cases h
theorem cGs_ok (G : GX X cc k) (hf : ∀ e m, f e = some m → SE X e m) : ∀ {es : List Expr} {gs : List MG}, cGs f cc es = some gs → SGs X es gs ∧ es.all (fun e => !isStar e) = true ∧ gs.length = es.length
  | [], gs, h => by cases h; exact ⟨sgs_nil, rfl, rfl⟩
  | e :: es, gs, h => by
    unfold cGs at h
    obtain ⟨g, h1, h⟩ := Option.bind_eq_some_iff.mp h
    obtain ⟨gs', h2, rfl⟩ := Option.map_eq_some_iff.mp h
    obtain ⟨a1, a2⟩ := cG_ok G hf h1
    obtain ⟨b1, b2, b3⟩ := cGs_ok G hf h2
    exact ⟨sgs_cons a1 b1 a2, by rw [List.all_cons, b2, a2]; rfl, by rw [List.length_cons, b3, List.length_cons]⟩
theorem cG2_ok (G : GX X cc k) (hf : ∀ e m, f e = some m → SE X e m) {e : Expr} {g : MG} (h : cG2 f cc e = some g) : SG X e g ∧ isStar e = false := by
  unfold cG2 at h
  split at h
  · obtain ⟨gs, h1, rfl⟩ := Option.map_eq_some_iff.mp h
    obtain ⟨b1, b2, b3⟩ := cGs_ok G hf h1
    exact ⟨sg_tupG G.calm b1 b2 b3, rfl⟩
  · exact cG_ok G hf h
theorem cG2s_ok (G : GX X cc k) (hf : ∀ e m, f e = some m → SE X e m) : ∀ {es : List Expr} {gs : List MG}, cG2s f cc es = some gs → SGs X es gs ∧ es.all (fun e => !isStar e) = true ∧ gs.length = es.length
  | [], gs, h => by cases h; exact ⟨sgs_nil, rfl, rfl⟩
  | e :: es, gs, h => by
    unfold cG2s at h
    obtain ⟨g, h1, h⟩ := Option.bind_eq_some_iff.mp h
    obtain ⟨gs', h2, rfl⟩ := Option.map_eq_some_iff.mp h
    obtain ⟨a1, a2⟩ := cG2_ok G hf h1
    obtain ⟨b1, b2, b3⟩ := cG2s_ok G hf h2
    exact ⟨sgs_cons a1 b1 a2, by rw [List.all_cons, b2, a2]; rfl, by rw [List.length_cons, b3, List.length_cons]⟩
theorem fm_short {α β : Type} (f : α → Option β) : ∀ {l : List α}, (∃ a ∈ l, f a = none) → (l.filterMap f).length < l.length
  | [], h => by obtain ⟨a, h, _⟩ := h; simp at h
  | b :: l, h => by
    have hl := List.length_filterMap_le f l
    rw [List.filterMap_cons]
    split
    · simp only [List.length_cons]; omega
    · rename_i c hc
      obtain ⟨a, ha, e⟩ := h
      rcases List.mem_cons.mp ha with rfl | ha
      · rw [e] at hc; cases hc
      · have := fm_short f ⟨a, ha, e⟩
        simp only [List.length_cons]; omega
theorem nest_none {ts vs : List Expr} {k1 k2 : Nat} {p1 p2 : Pos} {env : Env} (h : ts.any isTuple = true) : swappedStores [.Tuple ts k1 p1] (.Tuple vs k2 p2) env = pure none := by
  obtain ⟨t, ht, hi⟩ := List.any_eq_true.mp h
  unfold swappedStores
  simp only
  split
  · rfl
  · split
    · rfl
    · refine if_pos ?_
      rw [Bool.or_eq_true]
      refine .inl ?_
      rw [bne_iff_ne]
      exact Nat.ne_of_lt (fm_short _ ⟨t, ht, by cases t <;> first | rfl | (simp [isTuple] at hi)⟩)
theorem sw_none {e : Expr} {t : Option Expr} {l : Nat} {env : Env} (h : isComp e = false) : swapsWith e t l env = pure false := by
  cases e <;> first | rfl | (simp [isComp] at h)
theorem sw_sub {e a b : Expr} {p : Pos} {l : Nat} {env : Env} : swapsWith e (some (.Subscript a b p)) l env = pure false := by
  unfold swapsWith
  split <;> rfl
theorem sw_tup {e : Expr} {ts : List Expr} {k : Nat} {p : Pos} {l : Nat} {env : Env} : swapsWith e (some (.Tuple ts k p)) l env = pure false := by
  unfold swapsWith
  split <;> rfl
theorem sws_sub {e a b : Expr} {p : Pos} {l : Nat} {env : Env} : swapsWithSole [.Subscript a b p] e l env = pure false := sw_sub (e := e) (a := a) (b := b) (p := p) (l := l) (env := env)
theorem sws_tup {e : Expr} {ts : List Expr} {k : Nat} {p : Pos} {l : Nat} {env : Env} : swapsWithSole [.Tuple ts k p] e l env = pure false := sw_tup (e := e) (ts := ts) (k := k) (p := p) (l := l) (env := env)
theorem isLocal_iff {o : Option NameKind} : isLocal o = (o == some .local) := by
  unfold isLocal
  cases o with
  | none => rfl
  | some k => cases k <;> rfl
theorem sw_lc (G : GX X cc k) {x : Str} {p lpos : Pos} {elt : Expr} {gs : List Comprehension} {scope : Scope} {l : Nat} : swapsWith (.ListComp elt gs scope lpos) (some (.Name x p)) l X.env = pure (swC cc x p lpos scope) := by
  have hb : X.env.blockKind = .function := blk_fn (by rw [G.sc]; exact G.kind)
  have hk : X.env.kindOf x = cc.sc.names.lookup x := by show X.env.scope.names.lookup x = _; rw [G.sc]
  unfold swapsWith swC
  simp only [hb, hk, isLocal_iff, Expr.pos]
  rfl
theorem sw_dc (G : GX X cc k) {x : Str} {p lpos : Pos} {kx vx : Expr} {gs : List Comprehension} {scope : Scope} {l : Nat} : swapsWith (.DictComp kx vx gs scope lpos) (some (.Name x p)) l X.env = pure (swC cc x p lpos scope) := by
  have hb : X.env.blockKind = .function := blk_fn (by rw [G.sc]; exact G.kind)
  have hk : X.env.kindOf x = cc.sc.names.lookup x := by show X.env.scope.names.lookup x = _; rw [G.sc]
  unfold swapsWith swC
  simp only [hb, hk, isLocal_iff, Expr.pos]
  rfl
theorem dcK_ok (G : GX X cc k) {kx vx : Expr} {gs : List Comprehension} {scope : Scope} {q j i : Nat} {b mu : Bool} {z : Str} {py pos spos : Pos} (h : dcK cc kx vx gs scope = some (q, j, b)) (hz : X.N[i]? = some z) (hzl : X.env.scope.names.lookup z = some .local)
    (hsw : swapsWith (.DictComp kx vx gs scope pos) (some (.Name z py)) spos.line X.env = pure true) :
    SS X (.Assign [.Name z py] (.DictComp kx vx gs scope pos) spos) (mAsg (mDcK mu q j ((ownOf cc.N scope.names).map (·.2)) b) (gNm i)) := by
  unfold dcK at h
  split at h
  case h_2 => cases h
  rename_i x1 p1 b' kc p4 x2 p2 y p3
  dsimp only at h
  split at h
  case isFalse => cases h
  rename_i hc
  simp only [Bool.and_eq_true] at hc
  obtain ⟨⟨⟨h1, h2⟩, h3⟩, h4⟩ := hc
  have := eq_of_beq h1
  subst this
  obtain ⟨q', hq, h⟩ := Option.bind_eq_some_iff.mp h
  obtain ⟨j', hj, h⟩ := Option.bind_eq_some_iff.mp h
  split at h
  case isFalse => cases h
  rename_i hm
  simp only [Option.some.injEq, Prod.mk.injEq] at h
  obtain ⟨rfl, rfl, rfl⟩ := h
  have ok : BlkOk cc.N cc.sc scope (ownOf cc.N scope.names) := blkOk_by h2
  have ok' : BlkOk X.N X.env.scope scope (ownOf cc.N scope.names) := by rw [G.nN, G.sc]; exact ok
  have hN : X.N.Nodup := by rw [G.nN]; exact G.nd
  have hyN : X.N[q']? = some y := by rw [G.nN]; exact findIdx_get hq
  have hxN : X.N[j']? = some x1 := by rw [G.nN]; exact findIdx_get hj
  have dy := G.dbg y (by rw [← G.nN]; exact List.mem_of_getElem? hyN)
  have dx := G.dbg x1 (by rw [← G.nN]; exact List.mem_of_getElem? hxN)
  have vy : Vis X.env.scope y := by rw [G.sc]; exact isVis_ok h3
  have st : ∀ (s : Shared) (H : Hp) (C : Addr) (cl : List (Str × Addr)) (fp : List Addr), storable (X.blk s H scope (compEnvC scope cl C X.env) fp) x1 := fun s H C cl fp => (G.blk ok s H C cl fp).sto x1 h4
  have vx : ∀ (s : Shared) (H : Hp) (C : Addr) (cl : List (Str × Addr)) (fp : List Addr), Vis (X.blk s H scope (compEnvC scope cl C X.env) fp).env.scope x1 := fun s H C cl fp => (st s H C cl fp).1.elim .inl fun z => .inr (.inl z)
  have hmj := List.contains_iff_mem.mp hm
  refine ss_setDcK G.calm hN hz hzl hsw (pe_var hyN vy dy.1 dy.2) ok' hmj (fun s H C cl fp => pg_name hN hxN (st s H C cl fp).1 (st s H C cl fp).2) (fun s H C cl fp => pe_var hxN (vx s H C cl fp) dx.1 dx.2) ?_
  refine ss_setDc (T := .one j') G.calm hN hz hzl hsw (si_seq (se_var hyN vy dy.1 dy.2)) ok' (fun i hi => ?_) (fun s H C cl fp => hg_one hN hxN (st s H C cl fp)) (fun s H C cl fp => sts_nil) (fun s H C cl fp => se_var hxN (vx s H C cl fp) dx.1 dx.2) (fun s H C cl fp => cConst_ok rfl) (fun _ => rfl)
  have : i = j' := by simpa [Tg.slots] using hi
  subst this
  exact hmj
theorem ss_nil_of {e tg : Expr} (h : isTuple tg = false ∨ isTuple e = false) (hl : ∀ es p, tg ≠ .List es p) (env : Env) : swappedStores [tg] e env = pure none := by
  unfold swappedStores
  cases tg <;> first | rfl | skip
  · rename_i es p; exact absurd rfl (hl es p)
  · cases e <;> first | rfl | (simp [isTuple] at h)
theorem cAsg_ok (G : GX X cc k) {n : Nat} {tg e : Expr} {m : MS} {pos : Pos} (h : cAsg n cc tg e = some m) : SS X (.Assign [tg] e pos) m := by
  have hf : ∀ e m, cE n cc e = some m → SE X e m := fun e m h => (c_ok n).1 cc X G e m h
  unfold cAsg at h
  split at h
  · rename_i x p
    have plain : ∀ {e : Expr} {m : MS}, swapsWith e (some (.Name x p)) pos.line X.env = pure false → ((cE n cc e).bind fun m => (cG (cE n cc) cc (.Name x p)).map fun g => mAsg m g) = some m → SS X (.Assign [.Name x p] e pos) m := by
      intro e m hs h
      obtain ⟨m1, h1, h⟩ := Option.bind_eq_some_iff.mp h
      obtain ⟨g, h2, rfl⟩ := Option.map_eq_some_iff.mp h
      exact ss_asg (hf _ _ h1) (cG_ok G hf h2).1 hs (ss_nil_of (.inl rfl) (by intros; simp) _) rfl
    split at h
    · split at h
      · rename_i hs
        cases n with
        | zero => cases h
        | succ n =>
          obtain ⟨i, hi, h⟩ := Option.bind_eq_some_iff.mp h
          obtain ⟨m', h1, rfl⟩ := Option.map_eq_some_iff.mp h
          have hl : X.env.scope.names.lookup x = some .local := by
            rw [G.sc]
            simp only [swC, Bool.and_eq_true] at hs
            have := hs.1.1
            rw [isLocal_iff] at this
            exact eq_of_beq this
          split at h1
          · obtain ⟨tg', iter, tg1, iter1, ifs, ifs1, mi, mi1, T, T1, own, mc, mc1, me, rfl, rfl, c1, c2, c3, c4, c5, c6, c7, c8, c9, c10, c11, c12⟩ := cLc2_parts (fb := fun s => cE n (blkCC cc s)) (tb := fun s => cT n (blkCC cc s)) G (fun e m h => (c_ok n).1 cc X G e m h) (fun X' G' e m h => (c_ok n).1 _ X' G' e m h) (fun X' G' e m h => (c_ok n).2 _ X' G' e m h) h1
            exact ss_setLc2 G.calm (by rw [G.nN]; exact G.nd) (by rw [G.nN]; exact findIdx_get hi) hl (by rw [sw_lc G, hs]) c1 c2 c3 c4 (fun _ h => h) c5 c6 c7 c8 c9 c10 c11 c12
          obtain ⟨tg', iter, ifs, mi, T, own, mc, me, rfl, rfl, c1, c2, c3, c4, c5, c6, c7⟩ := cLc_parts (fb := fun s => cE n (blkCC cc s)) (tb := fun s => cT n (blkCC cc s)) G (fun e m h => (c_ok n).1 cc X G e m h) (fun X' G' e m h => (c_ok n).1 _ X' G' e m h) (fun X' G' e m h => (c_ok n).2 _ X' G' e m h) h1
          exact ss_setLc G.calm (by rw [G.nN]; exact G.nd) (by rw [G.nN]; exact findIdx_get hi) hl (by rw [sw_lc G, hs]) c1 c2 c3 c4 c5 c6 c7
      · rename_i hs
        exact plain (by rw [sw_lc G]; simp only [Bool.not_eq_true] at hs; rw [hs]) h
    · split at h
      · rename_i hs
        cases n with
        | zero => cases h
        | succ n =>
          obtain ⟨i, hi, h⟩ := Option.bind_eq_some_iff.mp h
          have hl : X.env.scope.names.lookup x = some .local := by
            rw [G.sc]
            simp only [swC, Bool.and_eq_true] at hs
            have := hs.1.1
            rw [isLocal_iff] at this
            exact eq_of_beq this
          split at h
          · rename_i q j b hk
            cases h
            exact dcK_ok G hk (by rw [G.nN]; exact findIdx_get hi) hl (by rw [sw_dc G, hs])
          · obtain ⟨m', h1, rfl⟩ := Option.map_eq_some_iff.mp h
            obtain ⟨tg', iter, ifs, mi, T, own, mc, mk, mv, rfl, rfl, c1, c2, c3, c4, c5, c6, c8, c7⟩ := cDc_parts (fb := fun s => cE n (blkCC cc s)) (tb := fun s => cT n (blkCC cc s)) G (fun e m h => (c_ok n).1 cc X G e m h) (fun X' G' e m h => (c_ok n).1 _ X' G' e m h) (fun X' G' e m h => (c_ok n).2 _ X' G' e m h) h1
            exact ss_setDc G.calm (by rw [G.nN]; exact G.nd) (by rw [G.nN]; exact findIdx_get hi) hl (by rw [sw_dc G, hs]) c1 c2 c3 c4 c5 c6 c8 c7
      · rename_i hs
        exact plain (by rw [sw_dc G]; simp only [Bool.not_eq_true] at hs; rw [hs]) h
    · split at h
      · cases h
      · rename_i hc
        exact plain (sw_none (by simpa using hc)) h
  · obtain ⟨m1, h1, h⟩ := Option.bind_eq_some_iff.mp h
    obtain ⟨g, h2, rfl⟩ := Option.map_eq_some_iff.mp h
    exact ss_asg (hf _ _ h1) (cG_ok G hf h2).1 sws_sub (ss_nil_of (.inl rfl) (by intros; simp) _) rfl
  · split at h
    · cases h
    · rename_i hc
      obtain ⟨m1, h1, h⟩ := Option.bind_eq_some_iff.mp h
      obtain ⟨mo, h2, rfl⟩ := Option.map_eq_some_iff.mp h
      exact ss_setF G.cl (hf _ _ h2) (hf _ _ h1) (sw_none (by simpa using hc))
  · split at h
    · split at h
      · rename_i x px y py a b
        split at h
        · rename_i hsw
          obtain ⟨i, hi, h⟩ := Option.bind_eq_some_iff.mp h
          obtain ⟨j, hj, h⟩ := Option.bind_eq_some_iff.mp h
          split at h
          · cases h
          · rename_i hij
            obtain ⟨l, h1, rfl⟩ := Option.map_eq_some_iff.mp h
            have hk : X.env.scope = cc.sc := G.sc
            have loc : cc.sc.names.lookup x = some .local ∧ cc.sc.names.lookup y = some .local := by
              unfold swap2 at hsw
              split at hsw
              · cases hsw
              · split at hsw
                · rename_i hl
                  simp only [Bool.and_eq_true] at hl
                  exact ⟨eq_of_beq hl.1.1.1, eq_of_beq hl.1.1.2⟩
                · cases hsw
            exact ss_par G.calm (by rw [G.nN]; exact G.nd) (by rw [G.nN]; exact findIdx_get hi) (by rw [G.nN]; exact findIdx_get hj) hij (by rw [hk]; exact loc.1) (by rw [hk]; exact loc.2) (cList_ok hf h1).1 (by rw [swapped2 hk G.kind hsw]; rfl) sws_tup
        · rename_i hsw
          obtain ⟨m1, h1, h⟩ := Option.bind_eq_some_iff.mp h
          obtain ⟨g, h2, rfl⟩ := Option.map_eq_some_iff.mp h
          obtain ⟨b1, b2, b3⟩ := cGs_ok G hf h2
          exact ss_unp G.calm (cList_ok hf h1).1 b1 b2 b3 sws_tup (by rw [swapped2 G.sc G.kind hsw]; rfl)
        · cases h
      · rename_i x px y py z pz a b c
        split at h
        · rename_i hsw
          obtain ⟨i, hi, h⟩ := Option.bind_eq_some_iff.mp h
          obtain ⟨j, hj, h⟩ := Option.bind_eq_some_iff.mp h
          obtain ⟨l, hl, h⟩ := Option.bind_eq_some_iff.mp h
          split at h
          · cases h
          · rename_i hne
            obtain ⟨ml, h1, rfl⟩ := Option.map_eq_some_iff.mp h
            have hk : X.env.scope = cc.sc := G.sc
            have hsw' := hsw
            unfold swap3 at hsw'
            simp only [Bool.and_eq_true, Bool.not_eq_true', Bool.or_eq_false_iff] at hsw'
            obtain ⟨⟨⟨⟨⟨⟨⟨⟨⟨⟨⟨⟨s1, s2⟩, s3⟩, l1⟩, l2⟩, l3⟩, p1⟩, p2⟩, d1⟩, d2⟩, d3⟩, f⟩, cn⟩ := hsw'
            exact ss_par3 G.calm (by rw [G.nN]; exact G.nd) (by rw [G.nN]; exact findIdx_get hi) (by rw [G.nN]; exact findIdx_get hj) (by rw [G.nN]; exact findIdx_get hl) (fun e => hne (.inl e)) (fun e => hne (.inr (.inl e))) (fun e => hne (.inr (.inr e)))
              (by rw [hk]; exact eq_of_beq l1) (by rw [hk]; exact eq_of_beq l2) (by rw [hk]; exact eq_of_beq l3) (cList_ok hf h1).1 (swapped3 hk G.kind hsw) sws_tup
        · cases h
      · split at h
        · rename_i hnest
          obtain ⟨m1, h1, h⟩ := Option.bind_eq_some_iff.mp h
          obtain ⟨g, h2, rfl⟩ := Option.map_eq_some_iff.mp h
          obtain ⟨b1, b2, b3⟩ := cG2s_ok G hf h2
          exact ss_unp G.calm (cList_ok hf h1).1 b1 b2 b3 sws_tup (nest_none hnest)
        · cases h
    · rename_i hnt
      split at h
      · cases h
      · rename_i hc
        obtain ⟨m1, h1, h⟩ := Option.bind_eq_some_iff.mp h
        obtain ⟨g, h2, rfl⟩ := Option.map_eq_some_iff.mp h
        obtain ⟨b1, b2, b3⟩ := cGs_ok G hf h2
        refine ss_asg (hf _ _ h1) (sg_tupG G.calm b1 b2 b3) sws_tup (ss_nil_of (.inr ?_) (by intros; simp) _) rfl
        cases e <;> first | rfl | (exfalso; exact hnt _ _ _ rfl)
  · cases h
end
theorem cS_ok {X : Cx} {cc : CC} {k n : Nat} (G : GX X cc k) : ∀ (d : Nat), (∀ st m, cS d n cc st = some m → SS X st m) ∧ (∀ sts m, cSs d n cc sts = some m → SSs X sts m)
  | 0 => ⟨fun st m h => (by unfold cS at h; cases h), fun st m h => (by unfold cSs at h; cases h)⟩
  | d + 1 => by
    obtain ⟨ih1, ih2⟩ := cS_ok (n := n) G d
    have hf : ∀ e m, cE n cc e = some m → SE X e m := fun e m h => (c_ok n).1 cc X G e m h
    have ht : ∀ e m, cT n cc e = some m → ST X e m := fun e m h => (c_ok n).2 cc X G e m h
    refine ⟨fun st m h => ?_, fun sts m h => ?_⟩
    · unfold cS at h
      split at h
      · cases h; exact ss_pass
      · cases h; exact ss_break
      · cases h; exact ss_continue
      · split at h
        · cases h
        · rename_i hc
          obtain ⟨m1, h1, rfl⟩ := Option.map_eq_some_iff.mp h
          exact ss_expr (hf _ _ h1) (sw_none (by simpa using hc))
      · obtain ⟨m1, h1, rfl⟩ := Option.map_eq_some_iff.mp h
        exact ss_ret (hf _ _ h1)
      · cases h; exact ss_retN
      · obtain ⟨m0, h0, h⟩ := Option.bind_eq_some_iff.mp h
        obtain ⟨m1, h1, h⟩ := Option.bind_eq_some_iff.mp h
        obtain ⟨m2, h2, rfl⟩ := Option.map_eq_some_iff.mp h
        exact ss_if (ht _ _ h0) (ih2 _ _ h1) (ih2 _ _ h2)
      · exact cAsg_ok G h
      · obtain ⟨mi, h0, h⟩ := Option.bind_eq_some_iff.mp h
        obtain ⟨g, h1, h⟩ := Option.bind_eq_some_iff.mp h
        obtain ⟨m2, h2, rfl⟩ := Option.map_eq_some_iff.mp h
        obtain ⟨T, hT, rfl⟩ := Option.map_eq_some_iff.mp h1
        obtain ⟨i1, i2⟩ := cIter_ok G hf h0
        exact ss_for G.own G.calm i1 (sg_tg (cTg_ok G.nN G.nd G.calm G.sto hT)) (ih2 _ _ h2) i2
      · obtain ⟨m0, h0, h⟩ := Option.bind_eq_some_iff.mp h
        obtain ⟨m1, h1, rfl⟩ := Option.map_eq_some_iff.mp h
        exact ss_while G.own (ht _ _ h0) (ih2 _ _ h1)
      · cases h
        exact ps_never.weak fun D σ H ⟨F, ι, objs, σd, rel, sr, p⟩ => p
      · cases h
    · cases sts with
      | nil => unfold cSs at h; cases h; exact ss_nil
      | cons s ss =>
        unfold cSs at h
        obtain ⟨m1, h1, h⟩ := Option.bind_eq_some_iff.mp h
        obtain ⟨m2, h2, rfl⟩ := Option.map_eq_some_iff.mp h
        exact ss_cons (ih1 _ _ h1) (ih2 _ _ h2)
end RR

set_option maxHeartbeats 4000000
namespace RR
open PySem PySem.Spec PyProof.Rows L2
/-! ### a module's defs, one after the other -/
structure EnvS (P : Program) (w : World) (K : PySem.W.Frag) (mg : Str → Option Value) (base : Heap) (k : Nat) (fs : List (Str × FI)) (cl : List (Str × CI)) : Prop where
  fs : ∀ x fi, (x, fi) ∈ fs → FnS P w K mg base (k + 1) x fi ∧ (x == ("__debug__" : Str)) = false
  cl : ∀ c ci, (c, ci) ∈ cl → ClsS P w K mg base k c ci ∧ (c == ("__debug__" : Str)) = false
structure ConS (K : PySem.W.Frag) (mg : Str → Option Value) (cs : List (Str × D)) (kt : KT) : Prop where
  kt : KtS K mg kt
  cs : ∀ x d, (x, d) ∈ cs → (∃ u v, mg x = some u ∧ L2.RelV v u ∧ ∀ A H, RV ⟨K, mg⟩ A H d v) ∧ (x == ("__debug__" : Str)) = false
  blt : ∀ x ∈ bltNames, mg x = none
theorem EnvS.nil {P : Program} {w : World} {K : PySem.W.Frag} {mg : Str → Option Value} {base : Heap} : EnvS P w K mg base 0 [] [] := ⟨fun _ _ h => by simp at h, fun _ _ h => by simp at h⟩
def okN (N : List Str) : Bool := N.all fun x => !(x == ("__debug__" : Str)) && !(x == ("__classdict__" : Str))
def ccOf (N : List Str) (scope : Scope) (mu : List (Nat × Nat)) (fs : List (Str × FI)) (cs : List (Str × D)) (cl : List (Str × CI)) (kt : KT) : CC := ⟨N, scope, scope.names, mu, fs, cs, cl, kt⟩
theorem EnvS.fn {P : Program} {w : World} {K : PySem.W.Frag} {mg : Str → Option Value} {base : Heap} {k : Nat} {fs : List (Str × FI)} {cs : List (Str × D)} {cl : List (Str × CI)} {kt : KT} {x qual : Str} {params : Arguments} {body : List Stmt} {scope : Scope} {f : Addr} {fd : FuncData} {N ps : List Str} {mu : List (Nat × Nat)} {fr : Bool} {ms : MS}
    (E : EnvS P w K mg base k fs cl) (C : ConS K mg cs kt) (Fu : FunD K x qual params body scope [] [] f fd) (S : FnScope N ps scope)
    (dbg : okN N = true) (hc : cSs 60 60 (ccOf N scope mu fs cs cl kt) body = some ms) : FnG P w K mg base CX0 (k + 2) f fd ps (spOf ⟨K, mg⟩ ps.length (runFn N.length fr ms)) := by
  refine fn_ok Fu S fun X e1 e2 e3 e4 e5 e6 e7 e8 e9 e10 hr => ?_
  subst e1 e2 e3 e4 e5
  have G : GX X (ccOf N scope mu fs cs cl kt) k := by
    refine ⟨e8, e6, S.nd, e7, S.kind, fun y h => ?_, hr, ?_, E.fs, C.cs, C.blt, fun c ci h => (E.cl c ci h).1, fun c ci h => (E.cl c ci h).2, C.kt, fun y hy => ?_⟩
    · refine ⟨?_, .inl (by rw [e9])⟩
      rw [e7]
      exact isLoc_sc h
    · rw [e10]; exact PassesOwn.never
    · have := List.all_eq_true.mp dbg y hy
      simp only [Bool.and_eq_true, Bool.not_eq_true'] at this
      exact this
  exact (cS_ok G 60).2 _ _ hc
theorem EnvS.add {P : Program} {w : World} {K : PySem.W.Frag} {mg : Str → Option Value} {base : Heap} {k : Nat} {fs : List (Str × FI)} {cs : List (Str × D)} {cl : List (Str × CI)} {kt : KT} {x qual : Str} {params : Arguments} {body : List Stmt} {scope : Scope} {f : Addr} {fd : FuncData} {N ps : List Str} {mu : List (Nat × Nat)} {fr mt : Bool} {kws : List (List Str × List Nat)} {ms : MS}
    (E : EnvS P w K mg base k fs cl) (C : ConS K mg cs kt) (Fu : FunD K x qual params body scope [] [] f fd) (gl : mg x = some (.ref f)) (S : FnScope N ps scope) (bd : Binds K fd ps []) (kb : ∀ p ∈ kws, KwB fd ps p)
    (dbg : okN N = true) (hx : (x == ("__debug__" : Str)) = false) (hc : cSs 60 60 (ccOf N scope mu fs cs cl kt) body = some ms) (n : Nat) (hn : n = ps.length) (sl : Nat) (hsl : sl = N.length) :
    EnvS P w K mg base (k + 1) ((x, ⟨n, mt, runFn sl fr ms, kws⟩) :: fs) cl := by
  subst hn hsl
  refine ⟨fun y fi hm => ?_, fun c ci h => ⟨(E.cl c ci h).1.mono (Nat.le_succ k), (E.cl c ci h).2⟩⟩
  rcases List.mem_cons.mp hm with e | hm
  · cases e
    exact ⟨⟨f, fd, ps, E.fn C Fu S dbg hc, gl, Fu.kp, bd, kb⟩, hx⟩
  · obtain ⟨h1, h2⟩ := E.fs y fi hm
    exact ⟨h1.mono (Nat.le_succ (k + 1)), h2⟩
theorem kw_bind {K : PySem.W.Frag} {x qual : Str} {params : Arguments} {body : List Stmt} {scope : Scope} {f : Addr} {fd : FuncData} {ps ks : List Str} {π : List Nat} {kws : List (Str × V)} (F : FunD K x qual params body scope [] kws f fd)
    (h : ∀ (kV doc pm : Value) (an : Option Addr) (cdv ct : Value) (us : List Value), us.length = ks.length → bindArgs (PySem.W.fnOf x qual params body scope .none kV doc pm an cdv ct) ⟨[], ks.zip us⟩ = pure (ps.zip (permL π us))) : KwB fd ps (ks, π) := fun s us hl => by
  obtain ⟨oc, od, dV, kV, doc, pm, an, cdv, ct, osl, rfl, lk, hcd, hD, hK⟩ := F.ex
  rcases hD with ⟨_, rfl⟩ | ⟨e, _⟩
  · exact .of_eq (h kV doc pm an cdv ct us hl)
  · exact absurd rfl e
theorem RVs_ints {g : GE} {A : Addr → Prop} {H : Hp} : ∀ ns : List Int, RVs g A H (ns.map D.int) (ns.map V.int)
  | [] => by simp [RVs]
  | n :: ns => by simp only [List.map_cons, RVs]; exact ⟨_, _, rfl, by simp only [RV], RVs_ints ns⟩
/-- the law's own call -/
theorem law_sp {K : PySem.W.Frag} {mg : Str → Option Value} {fm : List W → Objs → R W} {H : Hp} {a : Addr} {ns : List Int} {E : XK} (h : fm [.v (.scr (ns.map D.int))] [] = .ok (.v (.bl true)) []) (hS : SqL K H a (ns.map V.int)) : spOf ⟨K, mg⟩ 1 fm [.ref a] H (fun v _ => v = .bl true) E := by
  refine ⟨rfl, fun _ => False, [], [], [.v (.scr (ns.map D.int))], Rel.nil fun _ z => z.elim, .cons ?_ .nil, ?_⟩
  · simp only [RW, RV]
    refine ⟨a, ns.map V.int, rfl, ?_, ?_⟩
    · rcases hS with h | h
      · exact .inl ⟨fun z => z.elim id fun z => z.none, h⟩
      · exact .inr h
    · exact RVs_ints ns
  · rw [h]
    intro v ι' H' _ _ k
    simpa only [RW, RV] using k
end RR

set_option maxHeartbeats 4000000
namespace RR
open PySem PySem.Spec PyProof.Rows L2
theorem EnvS.cls {P : Program} {w : World} {K : PySem.W.Frag} {mg : Str → Option Value} {base : Heap} {j k : Nat} {fs : List (Str × FI)} {cl : List (Str × CI)} {c : Str} {ci : CI} (E : EnvS P w K mg base j fs cl) (h : ClsS P w K mg base k c ci) (hj : j ≤ k) (hd : (c == ("__debug__" : Str)) = false) : EnvS P w K mg base k fs ((c, ci) :: cl) :=
  ⟨fun x fi hx => ⟨(E.fs x fi hx).1.mono (by omega), (E.fs x fi hx).2⟩, fun x z hz => by
    rcases List.mem_cons.mp hz with e | hz
    · cases e; exact ⟨h, hd⟩
    · exact ⟨(E.cl x z hz).1.mono hj, (E.cl x z hz).2⟩⟩
/-! ### what the head tells of classes -/
def clsBody : Stmt → List Stmt
  | .ClassDef _ _ _ b _ _ _ _ _ _ _ => b
  | _ => []
/-- where a def stands: a global's name; a class's method; a property's getter -/
inductive AdX where
  | glo (x : Str) | meth (c m : Str) | get (c f : Str)
def getA (K : PySem.W.Frag) (c f : Str) : Addr := match PySem.W.recIn K (He.ma K (He.ga K c) f) "property" with
  | some (.ref g :: _) => g
  | _ => 0
def AdX.ad (K : PySem.W.Frag) : AdX → Addr
  | .glo x => He.ga K x
  | .meth c m => He.ma K (He.ga K c) m
  | .get c f => getA K c f
structure DefX where
  at_ : AdX
  name : Str
  qual : Str
  st : Stmt
def fnX (K : PySem.W.Frag) (a : Addr) : He.FnW := match K.lookup a with
  | some ⟨_, _, .func fd, _⟩ => some (fd.name, fd.qualname, fd.params, fd.body, fd.scope, fd.globals, fd.closure, fd.builtins)
  | _ => none
def DefX.val (d : DefX) : He.FnW := some (d.name, d.qual, defArgs d.st, .stmts (defBody d.st), defScope d.st, mainGlobals, [], builtinsNs)
def DefX.ok (K : PySem.W.Frag) (d : DefX) : Bool := PySem.W.keepIn K (.ref (d.at_.ad K)) && (match K.lookup (d.at_.ad K) with
  | some ⟨_, _, .func fd, _⟩ => PySem.W.codeIn K fd.code d.qual && (He.dflB K fd.defaults [] && He.kwdB K fd.kwdefaults [])
  | _ => false)
theorem DefX.funD {K : PySem.W.Frag} {d : DefX} (e : fnX K (d.at_.ad K) = d.val) (c : d.ok K = true) : ∃ fd, FunD K d.name d.qual (defArgs d.st) (defBody d.st) (defScope d.st) [] [] (d.at_.ad K) fd := by
  obtain ⟨kp, c2⟩ := He.ba c
  unfold fnX at e
  cases q : K.lookup (d.at_.ad K) with
  | none => rw [q] at c2; cases c2
  | some o =>
    obtain ⟨oc, od, dt, osl⟩ := o
    rw [q] at c2 e
    cases dt with
    | func fd =>
      obtain ⟨n1, n2, n3, n4, n5, n6, n7, n8, n9, n10, n11, n12, n13, n14, n15⟩ := fd
      have e2 : (some (n1, n2, n3, n4, n5, n6, n7, n15) : He.FnW) = some (d.name, d.qual, defArgs d.st, .stmts (defBody d.st), defScope d.st, mainGlobals, [], builtinsNs) := e
      simp only [Option.some.injEq, Prod.mk.injEq] at e2
      obtain ⟨z1, z2, z3, z4, z5, z6, z7, z8⟩ := e2
      subst z1 z2 z3 z4 z5 z6 z7 z8
      have c3 : (PySem.W.codeIn K n13 d.qual && (He.dflB K n8 [] && He.kwdB K n9 [])) = true := c2
      obtain ⟨k1, k2⟩ := He.ba c3
      obtain ⟨k3, k4⟩ := He.ba k2
      exact ⟨_, ⟨oc, od, n8, n9, n10, n11, n12, n13, n14, osl, rfl, q, k1, He.dflB_ok k3, He.kwdB_ok k4⟩, kp⟩
    | _ => cases c2
abbrev AlX : Type := Bool × List He.FnW
def obsX (fa : List He.Fa) (xs : List (PySem.W.Frag → Bool)) (fn : List DefX) (K : PySem.W.Frag) : AlX := (((fa.all fun f => f.ok K) && xs.all fun x => x K) && fn.all fun d => d.ok K, fn.map fun d => fnX K (d.at_.ad K))
def valX (fn : List DefX) : AlX := (true, fn.map DefX.val)
def SaysX (fa : List He.Fa) (xs : List (PySem.W.Frag → Bool)) (fn : List DefX) (K : PySem.W.Frag) : Prop := obsX fa xs fn K = valX fn
def obsXG (n : Nat) (fa : List He.Fa) (xs : List (PySem.W.Frag → Bool)) (fn : List DefX) (g : Addr → Option Obj) : AlX := obsX fa xs fn (He.frG g (He.asD g n))
def hookX (n : Nat) (fa : List He.Fa) (xs : List (PySem.W.Frag → Bool)) (fn : List DefX) : PySem.W.Hook where
  α := AlX
  obs := fun s => obsXG n fa xs fn s.heap.get?
  val := fun _ => valX fn
  says := fun _ h => ∃ K : PySem.W.Frag, K.In h ∧ SaysX fa xs fn K
  of := fun _ _ e => ⟨_, He.frG_in, e⟩
  keeps := fun _ _ _ ⟨K, hK, c⟩ k => ⟨K, PySem.W.Frag.In.keeps hK k, c⟩
theorem obsXG_eq {n : Nat} {fa : List He.Fa} {xs : List (PySem.W.Frag → Bool)} {fn : List DefX} {g : Addr → Option Obj} {s : Shared} (h : ∀ a, g a = s.heap.get? a) : obsXG n fa xs fn g = (hookX n fa xs fn).obs s := by
  have e : g = s.heap.get? := funext h
  rw [e] <;> rfl
section
variable {fa : List He.Fa} {xs : List (PySem.W.Frag → Bool)} {fn : List DefX} {K : PySem.W.Frag}
theorem SaysX.parts (c : SaysX fa xs fn K) : ((fa.all fun f => f.ok K) = true ∧ (xs.all fun x => x K) = true) ∧ (fn.all fun d => d.ok K) = true :=
  let z := He.ba (show (((fa.all fun f => f.ok K) && xs.all fun x => x K) && fn.all fun d => d.ok K) = true from congrArg (fun z : AlX => z.1) c)
  ⟨He.ba z.1, z.2⟩
theorem SaysX.fact (c : SaysX fa xs fn K) (i : Nat) {f : He.Fa} (h : fa[i]? = some f) : f.ok K = true := List.all_eq_true.mp c.parts.1.1 f (List.mem_of_getElem? h)
theorem SaysX.more (c : SaysX fa xs fn K) (i : Nat) {x : PySem.W.Frag → Bool} (h : xs[i]? = some x) : x K = true := List.all_eq_true.mp c.parts.1.2 x (List.mem_of_getElem? h)
theorem SaysX.def_ (c : SaysX fa xs fn K) (i : Nat) {d : DefX} (h : fn[i]? = some d) : ∃ fd, FunD K d.name d.qual (defArgs d.st) (defBody d.st) (defScope d.st) [] [] (d.at_.ad K) fd := by
  have e : fn.map (fun d => fnX K (d.at_.ad K)) = fn.map DefX.val := congrArg (fun z : AlX => z.2) c
  have e2 : (fn.map fun d => fnX K (d.at_.ad K))[i]? = (fn.map DefX.val)[i]? := by rw [e]
  rw [List.getElem?_map, List.getElem?_map, h] at e2
  exact DefX.funD (Option.some.inj e2) (List.all_eq_true.mp c.parts.2 d (List.mem_of_getElem? h))
end
/-- a class -/
def clsB (c : Str) (K : PySem.W.Frag) : Bool :=
  ((He.Fa.cls c).ok K && PySem.W.keepIn K (.ref (He.ga K c))) && ((He.eqO (PySem.W.findIn K (.ref (He.ga K c)) "__class__") (some (some (.builtin "object.__class__"))) && He.eqO (PySem.W.specialIn K (.builtin "object.__class__") "__get__") (some (some (.builtin "getset_descriptor.__get__")))) &&
    ((decide (PySem.W.takesIn K (.builtin "object.__class__") = some true) && decide (PySem.W.mroIn K (He.ga K c) (.type "object") = some true)) && (He.eqO (PySem.W.findIn K (.ref (He.ga K c)) "__ne__") (some (some (.builtin "object.__ne__"))) &&
      bTys.all fun T => decide (PySem.W.kitOne K (.type T) (.ref (He.ga K c)) = some false) && PySem.W.notFirst K (He.ga K c) (.type T))))
/-- a property of it -/
def propB (c f : Str) (K : PySem.W.Frag) : Bool := match PySem.W.findIn K (.ref (He.ga K c)) f with
  | some (some (.ref p)) => (He.eqO (PySem.W.specialIn K (.ref p) "__get__") (some (some (.builtin "property.__get__"))) && decide (PySem.W.takesIn K (.ref p) = some true)) && (match PySem.W.recIn K p "property" with
    | some (.ref _ :: _) => true
    | _ => false)
  | _ => false
theorem propB_ok {c f : Str} {K : PySem.W.Frag} (h : propB c f K = true) : ∃ p, PropOf K (He.ga K c) f p (getA K c f) := by
  unfold propB at h
  split at h
  · rename_i p hp
    obtain ⟨h1, h2⟩ := He.ba h
    obtain ⟨h3, h4⟩ := He.ba h1
    have ep : He.ma K (He.ga K c) f = p := by unfold He.ma; rw [hp]
    split at h2
    · rename_i g r hr
      have eg : getA K c f = g := by unfold getA; rw [ep, hr]
      refine ⟨p, hp, He.eqO_ok h3, of_decide_eq_true h4, r, ?_⟩
      rw [eg]; exact hr
    · cases h2
  · cases h
/-- an own == or len -/
def ownB (c m : Str) (K : PySem.W.Frag) : Bool := He.eqO (PySem.W.findIn K (.ref (He.ga K c)) m) (some (some (.ref (He.ma K (He.ga K c) m)))) && PySem.W.isFn K (.ref (He.ma K (He.ga K c) m))
/-- neither an own truth nor a length -/
def truB (c : Str) (K : PySem.W.Frag) : Bool := He.eqO (PySem.W.findIn K (.ref (He.ga K c)) "__bool__") (some none) && He.eqO (PySem.W.findIn K (.ref (He.ga K c)) "__len__") (some none)
def ktB (c' c : Str) (b : Bool) (K : PySem.W.Frag) : Bool := decide (PySem.W.kitOne K (.ref (He.ga K c')) (.ref (He.ga K c)) = some b)
theorem ClsS.of {P : Program} {w : World} {K : PySem.W.Frag} {mg : Str → Option Value} {base : Heap} {k : Nat} {c : Str} {ci : CI} (hb : clsB c K = true) (hm : mg c = some (.ref (He.ga K c)))
    (hf : ∀ f ∈ ci.flds, (He.Fa.noat c f).ok K = true)
    (hi : ∀ fi, ci.init = some fi → (He.Fa.mkr c).ok K = true ∧ ∃ fd ps, FnG P w K mg base CX0 k (AdX.ad K (.meth c "__init__")) fd ps (spOf ⟨K, mg⟩ fi.n fi.fm) ∧ Binds K fd ps [] ∧ ∀ q ∈ fi.kws, ∀ (s : Shared) (u0 : Value) (us : List Value), us.length = q.1.length → BindsTo s fd ⟨[u0], q.1.zip us⟩ (ps.zip (u0 :: permL q.2 us)))
    (hp : ∀ q ∈ ci.props, propB c q.1 K = true ∧ ∃ fd ps, FnG P w K mg base CX0 k (AdX.ad K (.get c q.1)) fd ps (spOf ⟨K, mg⟩ q.2.n q.2.fm) ∧ Binds K fd ps [])
    (he : ∀ fi, ci.eqm = some fi → ownB c "__eq__" K = true ∧ ∃ fd ps, FnG P w K mg base CX0 k (AdX.ad K (.meth c "__eq__")) fd ps (spOf ⟨K, mg⟩ fi.n fi.fm) ∧ Binds K fd ps [])
    (hl : ∀ fi, ci.lenm = some fi → ownB c "__len__" K = true ∧ ∃ fd ps, FnG P w K mg base CX0 k (AdX.ad K (.meth c "__len__")) fd ps (spOf ⟨K, mg⟩ fi.n fi.fm) ∧ Binds K fd ps [])
    (ht : ci.tru = true → truB c K = true)
    (hbo : ∀ fi, ci.boolm = some fi → ownB c "__bool__" K = true ∧ ∃ fd ps, FnG P w K mg base CX0 k (AdX.ad K (.meth c "__bool__")) fd ps (spOf ⟨K, mg⟩ fi.n fi.fm) ∧ Binds K fd ps []) : ClsS P w K mg base k c ci := by
  obtain ⟨b1, b2⟩ := He.ba hb
  obtain ⟨b3, b4⟩ := He.ba b1
  obtain ⟨b5, b6⟩ := He.ba b2
  obtain ⟨b7, b8⟩ := He.ba b5
  obtain ⟨b9, b10⟩ := He.ba b6
  obtain ⟨b11, b12⟩ := He.ba b9
  obtain ⟨b13, b14⟩ := He.ba b10
  refine ⟨⟨_, hm, He.cls_ok b3, b4, fun fi e => ?_, fun q hq => ?_, fun f h => He.noat_ok (hf f h)⟩, ⟨_, hm, He.eqO_ok b7, He.eqO_ok b8, of_decide_eq_true b11, of_decide_eq_true b12, He.eqO_ok b13, fun T hT => ?_, fun fi e => ?_, fun fi e => ?_, fun e => ?_⟩, fun fi e => ?_⟩
  · obtain ⟨m, fd, ps, F, bd, kw⟩ := hi fi e
    exact ⟨_, fd, ps, He.mkr_ok m, F, bd, kw⟩
  · obtain ⟨pb, fd, ps, F, bd⟩ := hp q hq
    obtain ⟨p, P1⟩ := propB_ok pb
    exact ⟨p, _, fd, ps, P1, F, bd⟩
  · have := List.all_eq_true.mp b14 T hT
    obtain ⟨t1, t2⟩ := He.ba this
    exact ⟨of_decide_eq_true t1, t2⟩
  · obtain ⟨ob, fd, ps, F, bd⟩ := he fi e
    obtain ⟨o1, o2⟩ := He.ba ob
    exact ⟨_, fd, ps, He.eqO_ok o1, o2, F, bd⟩
  · obtain ⟨ob, fd, ps, F, bd⟩ := hl fi e
    obtain ⟨o1, o2⟩ := He.ba ob
    exact ⟨_, fd, ps, He.eqO_ok o1, o2, F, bd⟩
  · obtain ⟨o1, o2⟩ := He.ba (ht e)
    exact ⟨He.eqO_ok o1, He.eqO_ok o2⟩
  · obtain ⟨ob, fd, ps, F, bd⟩ := hbo fi e
    obtain ⟨o1, o2⟩ := He.ba ob
    exact ⟨_, _, fd, ps, hm, He.eqO_ok o1, o2, F, bd⟩
/-- keywords of a class's call -/
theorem kw_bindM {K : PySem.W.Frag} {x qual : Str} {params : Arguments} {body : List Stmt} {scope : Scope} {f : Addr} {fd : FuncData} {ps ks : List Str} {π : List Nat} {kws : List (Str × V)} (F : FunD K x qual params body scope [] kws f fd)
    (h : ∀ (kV doc pm : Value) (an : Option Addr) (cdv ct : Value) (u0 : Value) (us : List Value), us.length = ks.length → bindArgs (PySem.W.fnOf x qual params body scope .none kV doc pm an cdv ct) ⟨[u0], ks.zip us⟩ = pure (ps.zip (u0 :: permL π us))) :
    ∀ (s : Shared) (u0 : Value) (us : List Value), us.length = ks.length → BindsTo s fd ⟨[u0], ks.zip us⟩ (ps.zip (u0 :: permL π us)) := fun s u0 us hl => by
  obtain ⟨oc, od, dV, kV, doc, pm, an, cdv, ct, osl, rfl, lk, hcd, hD, hK⟩ := F.ex
  rcases hD with ⟨_, rfl⟩ | ⟨e, _⟩
  · exact .of_eq (h kV doc pm an cdv ct u0 us hl)
  · exact absurd rfl e
end RR

set_option maxHeartbeats 4000000
namespace RR
open PySem PySem.Spec PyProof.Rows L2
/-! ### runs, one step each -/
section
variable {σ : Sl} {o : Objs}
@[simp] theorem e_Const (d : D) : mConst d σ o = .ok (.v d) o := id rfl
@[simp] theorem e_Var (i : Nat) : mVar i σ o = match σ[i]? with | some (some w) => .ok w o | _ => .stuck := id rfl
@[simp] theorem e_Bin (f : W → W → Objs → R W) (a b : ME) : mBin f a b σ o = (a σ o).bind fun x o => (b σ o).bind fun y o => f x y o := id rfl
@[simp] theorem e_Un (f : W → Objs → R W) (a : ME) : mUn f a σ o = (a σ o).bind fun x o => f x o := id rfl
@[simp] theorem e_Nil : mNil σ o = .ok [] o := id rfl
@[simp] theorem e_Cons (a : ME) (b : ML) : mCons a b σ o = (a σ o).bind fun x o => (b σ o).bind fun xs o => .ok (x :: xs) o := id rfl
@[simp] theorem e_Chain (f f' : W → W → Objs → R W) (a b c : ME) : mChain f f' a b c σ o = (a σ o).bind fun x o => (b σ o).bind fun y o => (asB (f x y o)).bind fun k o => if k = true then (c σ o).bind fun z o => f' y z o else .ok (.v (.bl false)) o := id rfl
@[simp] theorem e_Tru (m : ME) : mTru m σ o = (m σ o).bind fun x o => match truW o x with | some k => .ok k o | none => .stuck := id rfl
@[simp] theorem e_TruC (cl : List (Str × CI)) (m : ME) : mTruC cl m σ o = (m σ o).bind fun x o => truC cl x o := id rfl
@[simp] theorem truC_b (cl : List (Str × CI)) (b : Bool) : truC cl (.v (.bl b)) o = .ok b o := id rfl
@[simp] theorem truC_i (cl : List (Str × CI)) (i : Int) : truC cl (.v (.int i)) o = .ok (decide (i ≠ 0)) o := id rfl
@[simp] theorem ixX_l (xs : List D) (b : W) : ixX (.v (.lst xs)) b o = ixW (.v (.lst xs)) b o := id rfl
@[simp] theorem ixX_t (xs : List D) (b : W) : ixX (.v (.tup xs)) b o = ixW (.v (.tup xs)) b o := id rfl
@[simp] theorem ixX_c (xs : List D) (b : W) : ixX (.v (.scr xs)) b o = ixW (.v (.scr xs)) b o := id rfl
@[simp] theorem ixX_s (xs : Str) (b : W) : ixX (.v (.str xs)) b o = ixW (.v (.str xs)) b o := id rfl
theorem ixX_o {k : Nat} {e : Bool} {xs : List D} (h : o[k]? = some ⟨e, .lst xs⟩) (b : W) : ixX (.o k) b o = ixW (.o k) b o := by
  simp only [ixX, dicW, h]
@[simp] theorem e_Star (a : ME) (b : ML) : mStar a b σ o = (a σ o).bind fun x o => match seqW o x with
  | some ds => (b σ o).bind fun ws o => .ok (ds.map W.v ++ ws) o
  | none => .stuck := id rfl
@[simp] theorem e_Dic0 (mu : Bool) : mDic0 mu σ o = dicMk mu ([], []) o := id rfl
@[simp] theorem e_Dic1 (mu : Bool) (mk mv : ME) : mDic1 mu mk mv σ o = (mk σ o).bind fun wk o => (mv σ o).bind fun wv o => match wk, wv with
  | .v k, .v v => if (keyOf k).isSome = true then dicMk mu ([k], [v]) o else .stuck
  | _, _ => .stuck := id rfl
@[simp] theorem e_Lrg (mu : Bool) (ma : ME) : mLrg mu ma σ o = (ma σ o).bind fun w o => match w with
  | .v (.int n) => rgMk mu n o
  | _ => .stuck := id rfl
@[simp] theorem e_And (a b : MB) : mAnd a b σ o = (a σ o).bind fun k o => if k = true then b σ o else .ok false o := id rfl
@[simp] theorem e_Or (a b : MB) : mOr a b σ o = (a σ o).bind fun k o => if k = true then .ok true o else b σ o := id rfl
@[simp] theorem e_Not (a : MB) : mNot a σ o = (a σ o).bind fun k o => .ok (!k) o := id rfl
@[simp] theorem e_AndV (a b : ME) : mAndV a b σ o = (asB (a σ o)).bind fun k o => if k = true then b σ o else .ok (.v (.bl false)) o := id rfl
@[simp] theorem e_OrV (a b : ME) : mOrV a b σ o = (asB (a σ o)).bind fun k o => if k = true then .ok (.v (.bl true)) o else b σ o := id rfl
@[simp] theorem e_NotV (a : ME) : mNotV a σ o = (asB (a σ o)).bind fun k o => .ok (.v (.bl (!k))) o := id rfl
@[simp] theorem e_If (c : MB) (a b : ME) : mIf c a b σ o = (c σ o).bind fun k o => if k = true then a σ o else b σ o := id rfl
@[simp] theorem e_AsB (m : ME) : mAsB m σ o = asB (m σ o) := id rfl
@[simp] theorem asB_ok (b : Bool) : asB (.ok (.v (.bl b)) o) = .ok b o := id rfl
@[simp] theorem e_Yes : mYes σ o = .ok true o := id rfl
@[simp] theorem e_Tup (l : ML) : mTup l σ o = (l σ o).bind tupW := id rfl
@[simp] theorem e_Lst (mu : Bool) (l : ML) : mLst mu l σ o = (l σ o).bind (lstMk mu) := id rfl
@[simp] theorem e_Call (f : List W → Objs → R W) (l : ML) : mCall f l σ o = (l σ o).bind f := id rfl
@[simp] theorem e_CallK (fi : FI) (π : List Nat) (n : Nat) (l : ML) : mCallK fi π n l σ o = (l σ o).bind fun ws o => if ws.length = n then callW fi (permL π ws) o else .stuck := id rfl
@[simp] theorem e_BM (T : String) (f : W → List W → Objs → R W) (a : ME) (l : ML) : mBM T f a l σ o = (a σ o).bind fun x o => if mtyOk T o x = true then (l σ o).bind fun ws o => f x ws o else .stuck := id rfl
@[simp] theorem e_Sl (mu : Bool) (a : ME) (lo hi : Option ME) : mSl mu a lo hi σ o = (a σ o).bind fun x o => (mPart lo σ o).bind fun l o => (mPart hi σ o).bind fun h o => slW mu x l h o := id rfl
@[simp] theorem e_PartN : mPart none σ o = .ok none o := id rfl
@[simp] theorem e_PartS (m : ME) : mPart (some m) σ o = (m σ o).bind fun x o => match x with | .v (.int i) => .ok (some i) o | _ => .stuck := id rfl
@[simp] theorem e_Seq (a : ME) : mSeq a σ o = (a σ o).bind fun x o => iterW o x := id rfl
@[simp] theorem e_Rng (f : List W → Objs → R (List D)) (l : ML) : mRng f l σ o = (l σ o).bind f := id rfl
@[simp] theorem e_Lc (mu : Bool) (mi : MI) (T : Tg) (own : List Nat) (c : MB) (e : ME) : mLc mu mi T own c e σ o = (mi σ o).bind fun xs o => (lcGo (lcTurn T own c e σ) xs [] o).bind fun ws o => lstMk mu ws o := id rfl
@[simp] theorem e_Then (a b : MS) : mThen a b σ o = (a σ o).bind fun fl o => match fl with | .nx σ => b σ o | fl => .ok fl o := id rfl
@[simp] theorem e_Skip : mSkip σ o = .ok (.nx σ) o := id rfl
@[simp] theorem e_Expr (a : ME) : mExpr a σ o = (a σ o).bind fun _ o => .ok (.nx σ) o := id rfl
@[simp] theorem e_Ret (a : ME) : mRet a σ o = (a σ o).bind fun w o => .ok (.rt w) o := id rfl
@[simp] theorem e_RetN : mRetN σ o = .ok (.rt (.v .non)) o := id rfl
@[simp] theorem e_IfS (c : MB) (a b : MS) : mIfS c a b σ o = (c σ o).bind fun k o => if k = true then a σ o else b σ o := id rfl
@[simp] theorem e_Asg (a : ME) (gm : MG) : mAsg a gm σ o = (a σ o).bind fun w o => (gm w σ o).bind fun σ o => .ok (.nx σ) o := id rfl
@[simp] theorem e_Brk : mBrk σ o = .ok (.bk σ) o := id rfl
@[simp] theorem e_Cnt : mCnt σ o = .ok (.ct σ) o := id rfl
@[simp] theorem e_For (mi : MI) (gm : MG) (b : MS) : mFor mi gm b σ o = (mi σ o).bind fun xs o => forGo (fun d σ o => (gm (.v d) σ o).bind fun σ o => b σ o) xs σ o := id rfl
@[simp] theorem e_While (c : MB) (b : MS) : mWhile c b σ o = whileGo c b 1000000000000 σ o := id rfl
@[simp] theorem e_Par (is : List Nat) (l : ML) : mPar is l σ o = (l σ o).bind fun ws o => if ws.length = is.length then .ok (.nx (setAll σ is ws)) o else .stuck := id rfl
@[simp] theorem e_gNm (i : Nat) (w : W) : gNm i w σ o = .ok (σ.set i (some w)) o := id rfl
@[simp] theorem e_gSb (a b : ME) (x : W) : gSb a b x σ o = (a σ o).bind fun u o => (b σ o).bind fun i o => (setW u i x o).bind fun _ o => .ok σ o := id rfl
@[simp] theorem e_gSx (a b : ME) (x : W) : gSx a b x σ o = (a σ o).bind fun u o => (b σ o).bind fun i o => (setX u i x o).bind fun _ o => .ok σ o := id rfl
@[simp] theorem e_gTupG (ms : List MG) (ds : List D) : gTupG ms (.v (.tup ds)) σ o = if ds.length = ms.length then mGs ms (ds.map W.v) σ o else .stuck := id rfl
@[simp] theorem e_TgOne (i : Nat) (w : W) : mTg (.one i) w σ o = .ok (σ.set i (some w)) o := id rfl
@[simp] theorem e_TgMany (is : List Nat) (ds : List D) : mTg (.many is) (.v (.tup ds)) σ o = if ds.length = is.length then .ok (setAll σ is (ds.map W.v)) o else .stuck := id rfl
@[simp] theorem e_mGsN : mGs [] [] σ o = .ok σ o := id rfl
@[simp] theorem e_mGsC (m : MG) (ms : List MG) (w : W) (ws : List W) : mGs (m :: ms) (w :: ws) σ o = (m w σ o).bind fun σ o => mGs ms ws σ o := id rfl
@[simp] theorem e_setAllN {α : Type} (s : List (Option α)) : setAll s [] [] = s := id rfl
@[simp] theorem e_setAllC {α : Type} (s : List (Option α)) (i : Nat) (is : List Nat) (v : α) (vs : List α) : setAll s (i :: is) (v :: vs) = setAll (s.set i (some v)) is vs := id rfl
@[simp] theorem e_wipeN : wipeD σ [] = σ := id rfl
@[simp] theorem e_wipeC (v : Nat) (vs : List Nat) : wipeD σ (v :: vs) = (wipeD σ vs).set v none := id rfl
@[simp] theorem e_on1 (f : W → Objs → R W) (a : W) : on1 f [a] o = f a o := id rfl
@[simp] theorem e_on2 (f : W → W → Objs → R W) (a b : W) : on2 f [a, b] o = f a b o := id rfl
@[simp] theorem e_lcTurn (T : Tg) (own : List Nat) (c : MB) (e : ME) (d : D) : lcTurn T own c e σ d o = (mTg T (.v d) (wipeD σ own) o).bind fun σ o => (c σ o).bind fun k o => if k = true then (e σ o).bind fun w o => .ok (some w) o else .ok none o := id rfl
@[simp] theorem e_lcN (turn : D → Objs → R (Option W)) (acc : List W) : lcGo turn [] acc o = .ok acc o := id rfl
@[simp] theorem e_forN (f : D → MS) : forGo f [] σ o = .ok (.nx σ) o := id rfl
@[simp] theorem e_startD (n : Nat) (ws : List W) : startD n ws = ws.map some ++ List.replicate (n - ws.length) none := id rfl
end
/-! ### what the built-in things give -/
section
variable {o : Objs}
@[simp] theorem add_ii (i j : Int) : addW (.v (.int i)) (.v (.int j)) o = .ok (.v (.int (i + j))) o := id rfl
theorem add_ss (x y : Str) (h : x.length + y.length ≤ sizeLine) : addW (.v (.str x)) (.v (.str y)) o = .ok (.v (.str (x ++ y))) o := by simp [addW, h]
theorem add_ll (x y : List D) (h : x.length + y.length ≤ sizeLine) : addW (.v (.lst x)) (.v (.lst y)) o = .ok (.v (.lst (x ++ y))) o := by simp [addW, lstW, h]
@[simp] theorem sub_ii (i j : Int) : subW (.v (.int i)) (.v (.int j)) o = .ok (.v (.int (i - j))) o := id rfl
theorem mul_ii (i j : Int) (h : CMul i j) : mulW (.v (.int i)) (.v (.int j)) o = .ok (.v (.int (i * j))) o := by simp [mulW, h]
theorem mul_si (x : Str) (k : Nat) (h : k ≤ 1000000 ∧ x.length * k ≤ sizeLine) : mulW (.v (.str x)) (.v (.int (k : Int))) o = .ok (.v (.str (repS x k))) o := by
  have : (k : Int) ≤ 1000000 := by omega
  simp [mulW, h.2, this]
theorem mul_ti (xs : List D) (k : Nat) (hx : xs ≠ []) (h : 1 ≤ k ∧ k ≤ 1000 ∧ xs.length ≤ 1000) : mulW (.v (.tup xs)) (.v (.int (k : Int))) o = .ok (.v (.tup (List.replicate k xs).flatten)) o := by
  have h1 : (1 : Int) ≤ k := by omega
  have h2 : (k : Int) ≤ 1000 := by omega
  simp [mulW, h1, h2, h.2.2, hx]
theorem fdiv_ii (i j : Int) (h : 0 < j ∧ j < 1073741824) : fdivW (.v (.int i)) (.v (.int j)) o = .ok (.v (.int (i / j))) o := by
  have : CDiv i j := h
  simp [fdivW, this]
theorem mod_ii (i j : Int) (h : 0 < j) : modW (.v (.int i)) (.v (.int j)) o = .ok (.v (.int (i % j))) o := by simp [modW, h]
@[simp] theorem fdiv_i2 (i : Int) : fdivW (.v (.int i)) (.v (.int 2)) o = .ok (.v (.int (i / 2))) o := fdiv_ii i 2 (by decide)
@[simp] theorem mod_i2 (i : Int) : modW (.v (.int i)) (.v (.int 2)) o = .ok (.v (.int (i % 2))) o := mod_ii i 2 (by decide)
@[simp] theorem mul_2i (i : Int) : mulW (.v (.int 2)) (.v (.int i)) o = .ok (.v (.int (2 * i))) o := mul_ii 2 i (.inl (by decide))
@[simp] theorem eq_ii (i j : Int) : eqW (.v (.int i)) (.v (.int j)) o = .ok (.v (.bl (decide (i = j)))) o := id rfl
@[simp] theorem eq_ss (i j : Str) : eqW (.v (.str i)) (.v (.str j)) o = .ok (.v (.bl (decide (i = j)))) o := id rfl
@[simp] theorem ne_ii (i j : Int) : neW (.v (.int i)) (.v (.int j)) o = .ok (.v (.bl (!decide (i = j)))) o := id rfl
@[simp] theorem ne_ss (i j : Str) : neW (.v (.str i)) (.v (.str j)) o = .ok (.v (.bl (!decide (i = j)))) o := id rfl
@[simp] theorem lt_ii (i j : Int) : ltW (.v (.int i)) (.v (.int j)) o = .ok (.v (.bl (decide (i < j)))) o := id rfl
@[simp] theorem le_ii (i j : Int) : leW (.v (.int i)) (.v (.int j)) o = .ok (.v (.bl (decide (i ≤ j)))) o := id rfl
@[simp] theorem gt_ii (i j : Int) : gtW (.v (.int i)) (.v (.int j)) o = .ok (.v (.bl (decide (j < i)))) o := id rfl
@[simp] theorem ge_ii (i j : Int) : geW (.v (.int i)) (.v (.int j)) o = .ok (.v (.bl (decide (j ≤ i)))) o := id rfl
@[simp] theorem int_i (i : Int) : intW (.v (.int i)) o = .ok (.v (.int i)) o := id rfl
@[simp] theorem abs_i (i : Int) : absW (.v (.int i)) o = .ok (.v (.int (if i < 0 then -i else i))) o := id rfl
@[simp] theorem len_l (xs : List D) : lenW (.v (.lst xs)) o = .ok (.v (.int xs.length)) o := id rfl
@[simp] theorem len_t (xs : List D) : lenW (.v (.tup xs)) o = .ok (.v (.int xs.length)) o := id rfl
@[simp] theorem len_c (xs : List D) : lenW (.v (.scr xs)) o = .ok (.v (.int xs.length)) o := id rfl
theorem len_s (x : Str) (h : x.length ≤ sizeLine) : lenW (.v (.str x)) o = .ok (.v (.int x.length)) o := by simp [lenW, h]
@[simp] theorem iter_l (xs : List D) : iterW o (.v (.lst xs)) = .ok xs o := id rfl
@[simp] theorem iter_t (xs : List D) : iterW o (.v (.tup xs)) = .ok xs o := id rfl
@[simp] theorem iter_c (xs : List D) : iterW o (.v (.scr xs)) = .ok xs o := id rfl
theorem iter_s (x : Str) : iterW o (.v (.str x)) = .ok (x.cps.toList.map fun c => D.str ⟨#[c]⟩) o := rfl
@[simp] theorem rev_l (xs : List D) : revW (.v (.lst xs)) o = .ok (.v (.lst xs.reverse)) o := id rfl
@[simp] theorem tru_b (b : Bool) : truW o (.v (.bl b)) = some b := id rfl
@[simp] theorem tuple_l (xs : List D) : tupleW (.v (.lst xs)) o = .ok (.v (.tup xs)) o := id rfl
theorem list_t (xs : List D) (h : xs.length ≤ sizeLine) : listW false (.v (.tup xs)) o = .ok (.v (.lst xs)) o := by simp [listW, seqW, h]
theorem any_l (bs : List Bool) : anyW (.v (.lst (bs.map D.bl))) o = .ok (.v (.bl (bs.any id))) o := by simp [anyW, lstW, boolsD_map]
theorem all_l (bs : List Bool) : allW (.v (.lst (bs.map D.bl))) o = .ok (.v (.bl (bs.all id))) o := by simp [allW, lstW, boolsD_map]
theorem sum_l (is : List Int) : sumW (.v (.lst (is.map D.int))) o = .ok (.v (.int is.sum)) o := by simp [sumW, lstW, intsD_map]
theorem rng_n (n : Nat) (h : n < 4611686018427387904) : rng1 [.v (.int (n : Int))] o = .ok (rng 0 n) o := by
  have h1 : (-(2 ^ 62) : Int) ≤ n := by omega
  have h2 : (n : Int) < 2 ^ 62 := by omega
  simp only [rng1, h1, h2, and_self, if_true, Int.toNat_natCast]
theorem rng_s (n : Nat) (h : n ≤ 1000000) : rng1 [.v (.int (n : Int))] o = .ok (rng 0 n) o := rng_n n (Nat.lt_of_le_of_lt h (by decide))
theorem rng_eq (n : Nat) : rng 0 n = (List.range n).map fun (i : Nat) => D.int (i : Int) := by simp [rng]
theorem ix_l (xs : List D) (i : Nat) (d : D) (h : xs[i]? = some d) : ixW (.v (.lst xs)) (.v (.int (i : Int))) o = .ok (.v d) o := by
  obtain ⟨h1, h2⟩ := List.getElem?_eq_some_iff.mp h
  have h0 : (0 : Int) ≤ i := by omega
  have h3 : (i : Int) < xs.length := by omega
  simp [ixW, seqW, atI, ixN, h3, h]
theorem ix_t (xs : List D) (i : Nat) (d : D) (h : xs[i]? = some d) : ixW (.v (.tup xs)) (.v (.int (i : Int))) o = .ok (.v d) o := by
  obtain ⟨h1, h2⟩ := List.getElem?_eq_some_iff.mp h
  have h0 : (0 : Int) ≤ i := by omega
  have h3 : (i : Int) < xs.length := by omega
  simp [ixW, seqW, atI, ixN, h3, h]
theorem ix_o {k : Nat} {e : Ent} (xs : List D) (i : Nat) (d : D) (hk : o[k]? = some e) (he : e.ob = .lst xs) (h : xs[i]? = some d) : ixW (.o k) (.v (.int (i : Int))) o = .ok (.v d) o := by
  obtain ⟨h1, h2⟩ := List.getElem?_eq_some_iff.mp h
  have h3 : (i : Int) < xs.length := by omega
  cases e with | mk b m => cases he; simp [ixW, seqW, atI, ixN, h3, h, hk]
theorem ix_s (x : Str) (i : Nat) (c : Nat) (hl : x.length ≤ sizeLine) (h : x.cps.toList[i]? = some c) : ixW (.v (.str x)) (.v (.int (i : Int))) o = .ok (.v (.str ⟨#[c]⟩)) o := by
  obtain ⟨h1, h2⟩ := List.getElem?_eq_some_iff.mp h
  have h3 : (i : Int) < x.cps.toList.length := by omega
  simp only [ixW, atI, ixN, h3, if_true, Int.toNat_natCast, h, hl, Option.bind_some, show (0 : Int) ≤ i by omega]
theorem lst_vs (ds : List D) (h : ds.length ≤ sizeLine) : lstMk false (ds.map W.v) o = .ok (.v (.lst ds)) o := by
  simp [lstMk, pulls_vs, h]
@[simp] theorem lst_0 : lstMk true [] o = .ok (.o o.length) (o ++ [⟨true, .lst []⟩]) := id rfl
@[simp] theorem lst_0f : lstMk false [] o = .ok (.v (.lst [])) o := id rfl
@[simp] theorem lst_1f (a : D) : lstMk false [.v a] o = .ok (.v (.lst [a])) o := id rfl
@[simp] theorem lst_3f (a b c : D) : lstMk false [.v a, .v b, .v c] o = .ok (.v (.lst [a, b, c])) o := id rfl
@[simp] theorem lst_4f (a b c d : D) : lstMk false [.v a, .v b, .v c, .v d] o = .ok (.v (.lst [a, b, c, d])) o := id rfl
@[simp] theorem lst_7f (a b c d e f g : D) : lstMk false [.v a, .v b, .v c, .v d, .v e, .v f, .v g] o = .ok (.v (.lst [a, b, c, d, e, f, g])) o := id rfl
@[simp] theorem lst_3t (a b c : D) : lstMk true [.v a, .v b, .v c] o = .ok (.o o.length) (o ++ [⟨true, .lst [a, b, c]⟩]) := id rfl
@[simp] theorem tup_1 (a : D) : tupW [.v a] o = .ok (.v (.tup [a])) o := id rfl
@[simp] theorem tup_2 (a b : D) : tupW [.v a, .v b] o = .ok (.v (.tup [a, b])) o := id rfl
@[simp] theorem isi_ii (i : Int) : isiW (.v (.int i)) (.v (.ty "int")) o = .ok (.v (.bl true)) o := by
  have : kitB "int" "int" = some true := by decide +kernel
  simp [isiW, tyW, tyD, this]
@[simp] theorem isi_ib (i : Int) : isiW (.v (.int i)) (.v (.ty "bool")) o = .ok (.v (.bl false)) o := by
  have : kitB "int" "bool" = some false := by decide +kernel
  simp [isiW, tyW, tyD, this]
@[simp] theorem isi_ss (i : Str) : isiW (.v (.str i)) (.v (.ty "str")) o = .ok (.v (.bl true)) o := by
  have : kitB "str" "str" = some true := by decide +kernel
  simp [isiW, tyW, tyD, this]
@[simp] theorem isi_tt (i : List D) : isiW (.v (.tup i)) (.v (.ty "tuple")) o = .ok (.v (.bl true)) o := by
  have : kitB "tuple" "tuple" = some true := by decide +kernel
  simp [isiW, tyW, tyD, this]
end
/-! ### calls and returns -/
theorem fin_v {k : Nat} {d : D} {o : Objs} (h : (o.take k).all (fun e => flatO e.ob) = true) : finC k false (.ok (.rt (.v d)) o) = .ok (.v d) (o.take k) := by
  simp only [finC, pull_v, h, if_true]
@[simp] theorem fin_v0 {d : D} {o : Objs} : finC 0 false (.ok (.rt (.v d)) o) = .ok (.v d) [] := id rfl
@[simp] theorem fin_n0 {σ : Sl} {o : Objs} : finC 0 false (.ok (.nx σ) o) = .ok (.v .non) [] := id rfl
@[simp] theorem fin_v1 {d : D} {b : Bool} {xs : List D} {o : Objs} : finC 1 false (.ok (.rt (.v d)) (⟨b, .lst xs⟩ :: o)) = .ok (.v d) [⟨b, .lst xs⟩] := id rfl
theorem fin_o0 {i : Nat} {xs : List D} {b : Bool} {o : Objs} (h : o[i]? = some ⟨b, .lst xs⟩) : finC 0 false (.ok (.rt (.o i)) o) = .ok (.v (.lst xs)) [] := by
  simp only [finC, pull, pullAt, h, List.take_zero, List.all_nil, if_true]
theorem call_p {fi : FI} {ds : List D} {d : D} {o : Objs} (hn : ds.length = fi.n) (hm : fi.mt = false) (h : fi.fm (ds.map W.v) [] = .ok (.v d) []) : callW fi (ds.map W.v) o = .ok (.v d) o := by
  simp only [callW, List.length_map, hn, if_true, hm, pulls_vs, h, backC]
theorem call_p1 {fi : FI} {a : D} {d : D} {o : Objs} (hn : fi.n = 1) (hm : fi.mt = false) (h : fi.fm [.v a] [] = .ok (.v d) []) : callW fi [.v a] o = .ok (.v d) o := call_p (ds := [a]) hn.symm hm h
theorem call_p2 {fi : FI} {a b : D} {d : D} {o : Objs} (hn : fi.n = 2) (hm : fi.mt = false) (h : fi.fm [.v a, .v b] [] = .ok (.v d) []) : callW fi [.v a, .v b] o = .ok (.v d) o := call_p (ds := [a, b]) hn.symm hm h
theorem call_p3 {fi : FI} {a b c : D} {d : D} {o : Objs} (hn : fi.n = 3) (hm : fi.mt = false) (h : fi.fm [.v a, .v b, .v c] [] = .ok (.v d) []) : callW fi [.v a, .v b, .v c] o = .ok (.v d) o := call_p (ds := [a, b, c]) hn.symm hm h
/-- a call that changes the list at k -/
theorem call_m {fi : FI} {k : Nat} {xs ys : List D} {ds : List D} {d : D} {o : Objs} (hn : ds.length + 1 = fi.n) (hm : fi.mt = true) (hk : o[k]? = some ⟨true, .lst xs⟩)
    (h : fi.fm (.o 0 :: ds.map W.v) [⟨true, .lst xs⟩] = .ok (.v d) [⟨true, .lst ys⟩]) : callW fi (.o k :: ds.map W.v) o = .ok (.v d) (o.set k ⟨true, .lst ys⟩) := by
  simp only [callW, List.length_cons, List.length_map, hn, if_true, hm, pulls_vs, hk, flatO, h, backC]
/-- a call that gives a fresh list -/
theorem call_f {fi : FI} {ys : List D} {ds : List D} {o : Objs} (hn : ds.length = fi.n) (hm : fi.mt = false) (h : fi.fm (ds.map W.v) [] = .ok (.o 0) [⟨true, .lst ys⟩]) : callW fi (ds.map W.v) o = .ok (.o o.length) (o ++ [⟨true, .lst ys⟩]) := by
  simp only [callW, List.length_map, hn, if_true, hm, pulls_vs, h, backC, freshL]
/-! ### loops -/
theorem for_inv {f : D → MS} {I : Nat → Sl → Objs → Prop} : ∀ (xs : List D) (j : Nat) {σ : Sl} {o : Objs}, (∀ i d σ o, xs[i]? = some d → I (j + i) σ o → ∃ σ' o', f d σ o = .ok (.nx σ') o' ∧ I (j + i + 1) σ' o') → I j σ o →
    ∃ σ' o', forGo f xs σ o = .ok (.nx σ') o' ∧ I (j + xs.length) σ' o'
  | [], j, σ, o, _, h => ⟨σ, o, rfl, h⟩
  | x :: xs, j, σ, o, hs, h => by
    obtain ⟨σ1, o1, e1, h1⟩ := hs 0 x σ o rfl h
    obtain ⟨σ2, o2, e2, h2⟩ := for_inv (f := f) (I := I) xs (j + 1) (σ := σ1) (o := o1) (fun i d σ o he hi => by
      have := hs (i + 1) d σ o (by simpa using he) (by rw [show j + (i + 1) = j + 1 + i by omega]; exact hi)
      rw [show j + (i + 1) + 1 = j + 1 + i + 1 by omega] at this
      exact this) h1
    refine ⟨σ2, o2, ?_, ?_⟩
    · simp only [forGo, e1, R.bind_ok, e2]
    · rw [List.length_cons, show j + (xs.length + 1) = j + 1 + xs.length by omega]; exact h2
theorem while_inv {c : MB} {b : MS} {I : Nat → Sl → Objs → Prop} {Q : Sl → Objs → Prop}
    (hs : ∀ m σ o, I (m + 1) σ o → ∃ σ' o' o'', c σ o = .ok true o' ∧ b σ o' = .ok (.nx σ') o'' ∧ I m σ' o'') (h0 : ∀ σ o, I 0 σ o → ∃ o', c σ o = .ok false o' ∧ Q σ o') :
    ∀ (m n : Nat) {σ : Sl} {o : Objs}, m < n → I m σ o → ∃ σ' o', whileGo c b n σ o = .ok (.nx σ') o' ∧ Q σ' o'
  | 0, n + 1, σ, o, _, h => by
    obtain ⟨o', e, q⟩ := h0 σ o h
    exact ⟨σ, o', by simp [whileGo, e], q⟩
  | m + 1, n + 1, σ, o, hl, h => by
    obtain ⟨σ', o', o'', e1, e2, h1⟩ := hs m σ o h
    obtain ⟨σ2, o2, e3, q⟩ := while_inv hs h0 m n (σ := σ') (o := o'') (by omega) h1
    exact ⟨σ2, o2, by simp [whileGo, e1, e2, e3], q⟩
  | _, 0, _, _, h, _ => by omega
/-- a comprehension whose turns change nothing -/
theorem lc_map {turn : D → Objs → R (Option W)} {f : D → D} {o : Objs} : ∀ (xs : List D) (acc : List W), acc.length + xs.length ≤ sizeLine → (∀ d ∈ xs, turn d o = .ok (some (.v (f d))) o) → lcGo turn xs acc o = .ok (acc ++ (xs.map f).map W.v) o
  | [], acc, _, _ => by simp
  | x :: xs, acc, hl, h => by
    simp only [List.length_cons] at hl
    have hlt : acc.length < sizeLine := by omega
    simp only [lcGo, h x (by simp), R.bind_ok, hlt, if_true]
    rw [lc_map xs (acc ++ [W.v (f x)]) (by simp; omega) (fun d hd => h d (by simp [hd]))]
    simp
theorem lc_mapL {turn : D → Objs → R (Option W)} {f : D → D} {o : Objs} {mu : Bool} {xs : List D} {α : Type} {g : List W → Objs → R α} (hl : xs.length ≤ sizeLine) (h : ∀ d ∈ xs, turn d o = .ok (some (.v (f d))) o) : (lcGo turn xs [] o).bind g = g ((xs.map f).map W.v) o := by
  rw [lc_map xs [] (by simpa using hl) h]; simp
/-- .. that all are left out -/
theorem lc_none {turn : D → Objs → R (Option W)} {o : Objs} {acc : List W} : ∀ (xs : List D), (∀ d ∈ xs, turn d o = .ok none o) → lcGo turn xs acc o = .ok acc o
  | [], _ => rfl
  | x :: xs, h => by
    simp only [lcGo, h x (by simp), R.bind_ok]
    exact lc_none xs (fun d hd => h d (by simp [hd]))
/-- a comprehension whose turns change the store -/
theorem lc_inv {turn : D → Objs → R (Option W)} {I : Objs → Prop} {P : D → D → Prop} : ∀ (xs : List D) (acc : List W) {o : Objs}, acc.length + xs.length ≤ sizeLine → (∀ d ∈ xs, ∀ o, I o → ∃ r o', turn d o = .ok (some (.v r)) o' ∧ P d r ∧ I o') → I o →
    ∃ (rs : List D) (o' : Objs), lcGo turn xs acc o = .ok (acc ++ rs.map W.v) o' ∧ rs.length = xs.length ∧ (∀ (i : Nat) d r, xs[i]? = some d → rs[i]? = some r → P d r) ∧ I o'
  | [], acc, o, _, _, h => ⟨[], o, by simp, rfl, fun i d r e => by simp at e, h⟩
  | x :: xs, acc, o, hl, hs, h => by
    simp only [List.length_cons] at hl
    have hlt : acc.length < sizeLine := by omega
    obtain ⟨r, o1, e1, p, h1⟩ := hs x (by simp) o h
    obtain ⟨rs, o2, e2, l2, p2, h2⟩ := lc_inv (turn := turn) (I := I) (P := P) xs (acc ++ [W.v r]) (o := o1) (by simp; omega) (fun d hd => hs d (by simp [hd])) h1
    refine ⟨r :: rs, o2, ?_, by simp [l2], ?_, h2⟩
    · simp only [lcGo, e1, R.bind_ok, hlt, if_true, e2]; simp
    · intro i d r' e e'
      cases i with
      | zero => simp at e e'; subst e; subst e'; exact p
      | succ i => exact p2 i d r' (by simpa using e) (by simpa using e')
end RR

set_option maxHeartbeats 4000000
namespace RR
open PySem PySem.Spec PyProof.Rows L2
/-! ### what holds behind a run -/
@[irreducible] def Out {α : Type} (r : R α) (Q : α → Objs → Prop) : Prop := match r with | .ok a o => Q a o | _ => False
@[simp] theorem out_ok {α : Type} {a : α} {o : Objs} {Q : α → Objs → Prop} : Out (.ok a o) Q = Q a o := by unfold Out; exact id rfl
@[simp] theorem out_stuck {α : Type} {Q : α → Objs → Prop} : Out .stuck Q = False := by unfold Out; exact id rfl
@[simp] theorem out_exc {α : Type} {e : D} {o : Objs} {Q : α → Objs → Prop} : Out (.exc e o) Q = False := by unfold Out; exact id rfl
@[simp] theorem out_bind {α β : Type} {r : R α} {f : α → Objs → R β} {Q : β → Objs → Prop} : Out (r.bind f) Q = Out r (fun a o => Out (f a o) Q) := by cases r <;> simp
theorem out_mono {α : Type} {r : R α} {P Q : α → Objs → Prop} (h : Out r P) (w : ∀ a o, P a o → Q a o) : Out r Q := by
  cases r with
  | ok a o => rw [out_ok] at h ⊢; exact w a o h
  | exc _ _ => rw [out_exc] at h; exact h.elim
  | stuck => rw [out_stuck] at h; exact h.elim
theorem out_inv {α : Type} {r : R α} {Q : α → Objs → Prop} (h : Out r Q) : ∃ a o, r = .ok a o ∧ Q a o := by
  cases r with
  | ok b o' => rw [out_ok] at h; exact ⟨b, o', rfl, h⟩
  | exc _ _ => rw [out_exc] at h; exact h.elim
  | stuck => rw [out_stuck] at h; exact h.elim
theorem out_eq {α : Type} {r : R α} {a : α} {o : Objs} (h : Out r fun b o' => b = a ∧ o' = o) : r = .ok a o := by
  obtain ⟨b, o', e, rfl, rfl⟩ := out_inv h
  exact e
theorem out_of {α : Type} {r : R α} {a : α} {o : Objs} {Q : α → Objs → Prop} (e : r = .ok a o) (h : Q a o) : Out r Q := by rw [e, out_ok]; exact h
theorem out_for {f : D → MS} {xs : List D} {σ : Sl} {o : Objs} {Q : Fl → Objs → Prop} (I : Nat → Sl → Objs → Prop) (h0 : I 0 σ o)
    (hs : ∀ i d σ o, xs[i]? = some d → I i σ o → Out (f d σ o) fun fl o' => ∃ σ', (fl = .nx σ' ∨ fl = .ct σ') ∧ I (i + 1) σ' o') (hq : ∀ σ o, I xs.length σ o → Q (.nx σ) o) : Out (forGo f xs σ o) Q := by
  have key : ∀ (ys : List D) (j : Nat) (σ : Sl) (o : Objs), (∀ i d, ys[i]? = some d → xs[j + i]? = some d) → j + ys.length = xs.length → I j σ o → Out (forGo f ys σ o) Q := by
    intro ys
    induction ys with
    | nil => intro j σ o _ hl hi; rw [e_forN, out_ok]; exact hq σ o (by simpa [← hl] using hi)
    | cons y ys ih =>
      intro j σ o hy hl hi
      obtain ⟨fl, o1, e1, σ1, c1, i1⟩ := out_inv (hs j y σ o (by simpa using hy 0 y rfl) hi)
      have := ih (j + 1) σ1 o1 (fun i d e => by have := hy (i + 1) d (by simpa using e); rw [show j + 1 + i = j + (i + 1) by omega]; exact this) (by simp at hl; omega) i1
      rcases c1 with rfl | rfl <;> simpa [forGo, e1] using this
  exact key xs 0 σ o (fun i d e => by simpa using e) (by simp) h0
theorem out_while {c : MB} {b : MS} {n : Nat} {σ : Sl} {o : Objs} {Q : Fl → Objs → Prop} (m : Nat) (I : Nat → Sl → Objs → Prop) (hn : m < n) (h0 : I m σ o)
    (hs : ∀ m σ o, I (m + 1) σ o → Out (c σ o) fun k o => k = true ∧ Out (b σ o) fun fl o => ∃ σ', (fl = .nx σ' ∨ fl = .ct σ') ∧ I m σ' o) (hz : ∀ σ o, I 0 σ o → Out (c σ o) fun k o => k = false ∧ Q (.nx σ) o) : Out (whileGo c b n σ o) Q := by
  induction m generalizing n σ o with
  | zero =>
    cases n with
    | zero => omega
    | succ n =>
      obtain ⟨k, o1, e1, rfl, q⟩ := out_inv (hz σ o h0)
      simpa [whileGo, e1] using q
  | succ m ih =>
    cases n with
    | zero => omega
    | succ n =>
      obtain ⟨k, o1, e1, rfl, q⟩ := out_inv (hs m σ o h0)
      obtain ⟨fl, o2, e2, σ2, c2, i2⟩ := out_inv q
      have := ih (n := n) (by omega) i2
      rcases c2 with rfl | rfl <;> simpa [whileGo, e1, e2] using this
/-- turns that change nothing -/
theorem out_lc {α : Type} {turn : D → Objs → R (Option W)} {o : Objs} {Q : List W → Objs → Prop} {g : α → D} {l : List α} (f : α → D) (hl : l.length ≤ sizeLine)
    (h : ∀ a ∈ l, Out (turn (g a) o) fun r o' => r = some (.v (f a)) ∧ o' = o) (q : Q ((l.map f).map W.v) o) : Out (lcGo turn (l.map g) [] o) Q := by
  have key : ∀ (l : List α) (acc : List W), acc.length + l.length ≤ sizeLine → (∀ a ∈ l, Out (turn (g a) o) fun r o' => r = some (.v (f a)) ∧ o' = o) → lcGo turn (l.map g) acc o = .ok (acc ++ (l.map f).map W.v) o := by
    intro l
    induction l with
    | nil => intro acc _ _; simp
    | cons a l ih =>
      intro acc hl h
      simp only [List.length_cons] at hl
      have hlt : acc.length < sizeLine := by omega
      have e := out_eq (h a (by simp))
      simp only [List.map_cons, lcGo, e, R.bind_ok, hlt, if_true]
      rw [ih (acc ++ [W.v (f a)]) (by simp; omega) (fun d hd => h d (by simp [hd]))]
      simp
  rw [key l [] (by simpa using hl) h]
  simpa using q
theorem out_lcN {α : Type} {turn : D → Objs → R (Option W)} {o : Objs} {Q : List W → Objs → Prop} {g : α → D} {l : List α} (h : ∀ a ∈ l, Out (turn (g a) o) fun r o' => r = none ∧ o' = o) (q : Q [] o) : Out (lcGo turn (l.map g) [] o) Q := by
  rw [lc_none (l.map g) (fun d hd => by obtain ⟨a, ha, rfl⟩ := List.mem_map.mp hd; exact out_eq (h a ha)), out_ok]
  exact q
/-- turns that change the store -/
theorem out_lcI {turn : D → Objs → R (Option W)} {o : Objs} {Q : List W → Objs → Prop} {xs : List D} (I : Objs → Prop) (P : D → Prop) (hl : xs.length ≤ sizeLine) (h0 : I o)
    (h : ∀ d ∈ xs, ∀ o, I o → Out (turn d o) fun r o' => ∃ e, r = some (.v e) ∧ P e ∧ I o') (q : ∀ (rs : List D) (o' : Objs), rs.length = xs.length → (∀ r ∈ rs, P r) → I o' → Q (rs.map W.v) o') : Out (lcGo turn xs [] o) Q := by
  obtain ⟨rs, o', e, l, p, i⟩ := lc_inv (turn := turn) (I := I) (P := fun _ r => P r) xs [] (o := o) (by simpa using hl) (fun d hd o hi => by
    obtain ⟨r, o', e, x, rfl, p, i⟩ := out_inv (h d hd o hi)
    exact ⟨x, o', e, p, i⟩) h0
  rw [e, out_ok]
  refine q rs o' l (fun r hr => ?_) i
  obtain ⟨i, hi, rfl⟩ := List.mem_iff_getElem.mp hr
  exact p i (xs[i]'(by omega)) _ (List.getElem?_eq_getElem _) (List.getElem?_eq_getElem _)
/-! ### defs -/
theorem run_p {n : Nat} {m : MS} {ws : List W} {d : D} (h : Out (m (startD n ws) []) fun fl _ => fl = .rt (.v d)) : runFn n false m ws [] = .ok (.v d) [] := by
  obtain ⟨fl, o, e, rfl⟩ := out_inv h
  simp only [runFn, e]; rfl
theorem run_pn {n : Nat} {m : MS} {ws : List W} (h : Out (m (startD n ws) []) fun fl _ => ∃ σ, fl = .nx σ) : runFn n false m ws [] = .ok (.v .non) [] := by
  obtain ⟨fl, o, e, σ, rfl⟩ := out_inv h
  simp only [runFn, e]; rfl
theorem run_po {n : Nat} {m : MS} {ws : List W} {xs : List D} (h : Out (m (startD n ws) []) fun fl o => ∃ i b, fl = .rt (.o i) ∧ o[i]? = some ⟨b, .lst xs⟩) : runFn n false m ws [] = .ok (.v (.lst xs)) [] := by
  obtain ⟨fl, o, e, i, b, rfl, ho⟩ := out_inv h
  simp only [runFn, e]
  exact fin_o0 ho
/-- the barrel -/
def br (f s c : Int) : Ent := ⟨true, .lst [.int f, .int s, .int c]⟩
/-- a def that draws -/
def Draws (fi : FI) (ds : List D) (P : D → Prop) : Prop := ∀ f s c : Int, ∃ (d : D) (f' s' c' : Int), fi.fm (.o 0 :: ds.map W.v) [br f s c] = .ok (.v d) [br f' s' c'] ∧ P d
theorem run_m {n : Nat} {m : MS} {ds : List D} {P : D → Prop} {f s c : Int} (h : Out (m (startD n (.o 0 :: ds.map W.v)) [br f s c]) fun fl o => ∃ d f' s' c' r, fl = .rt (.v d) ∧ o = br f' s' c' :: r ∧ P d) :
    ∃ (d : D) (f' s' c' : Int), runFn n false m (.o 0 :: ds.map W.v) [br f s c] = .ok (.v d) [br f' s' c'] ∧ P d := by
  obtain ⟨fl, o, e, d, f', s', c', r, rfl, rfl, p⟩ := out_inv h
  exact ⟨d, f', s', c', by simp only [runFn, e]; rfl, p⟩
theorem out_draw {fi : FI} {ds : List D} {P : D → Prop} {f s c : Int} {k : Nat} {o : Objs} {Q : W → Objs → Prop} (hd : Draws fi ds P) (hn : ds.length + 1 = fi.n) (hm : fi.mt = true) (hk : o[k]? = some (br f s c))
    (q : ∀ d f' s' c', P d → Q (.v d) (o.set k (br f' s' c'))) : Out (callW fi (.o k :: ds.map W.v) o) Q := by
  obtain ⟨d, f', s', c', e, p⟩ := hd f s c
  rw [call_m hn hm hk e, out_ok]
  exact q d f' s' c' p
theorem out_draw0 {fi : FI} {P : D → Prop} {f s c : Int} {r : Objs} {Q : W → Objs → Prop} (hd : Draws fi [] P) (hn : fi.n = 1) (hm : fi.mt = true) (q : ∀ d f' s' c', P d → Q (.v d) (br f' s' c' :: r)) : Out (callW fi [.o 0] (br f s c :: r)) Q :=
  out_draw (ds := []) hd hn.symm hm rfl q
theorem out_draw1 {fi : FI} {a : D} {P : D → Prop} {f s c : Int} {r : Objs} {Q : W → Objs → Prop} (hd : Draws fi [a] P) (hn : fi.n = 2) (hm : fi.mt = true) (q : ∀ d f' s' c', P d → Q (.v d) (br f' s' c' :: r)) : Out (callW fi [.o 0, .v a] (br f s c :: r)) Q :=
  out_draw (ds := [a]) hd hn.symm hm rfl q
/-! calls of defs by their runs -/
section
variable {fi : FI} {n : Nat} {m : MS} {a b c d : D} {o : Objs} {xs : List D}
theorem cp1 (hf : fi.fm = runFn n false m) (hn : fi.n = 1) (hm : fi.mt = false) (h : Out (m (startD n [.v a]) []) fun fl _ => fl = .rt (.v d)) : callW fi [.v a] o = .ok (.v d) o := call_p1 hn hm (by rw [hf]; exact run_p h)
theorem cp2 (hf : fi.fm = runFn n false m) (hn : fi.n = 2) (hm : fi.mt = false) (h : Out (m (startD n [.v a, .v b]) []) fun fl _ => fl = .rt (.v d)) : callW fi [.v a, .v b] o = .ok (.v d) o := call_p2 hn hm (by rw [hf]; exact run_p h)
theorem cp3 (hf : fi.fm = runFn n false m) (hn : fi.n = 3) (hm : fi.mt = false) (h : Out (m (startD n [.v a, .v b, .v c]) []) fun fl _ => fl = .rt (.v d)) : callW fi [.v a, .v b, .v c] o = .ok (.v d) o := call_p3 hn hm (by rw [hf]; exact run_p h)
theorem cpn1 (hf : fi.fm = runFn n false m) (hn : fi.n = 1) (hm : fi.mt = false) (h : Out (m (startD n [.v a]) []) fun fl _ => ∃ σ, fl = .nx σ) : callW fi [.v a] o = .ok (.v .non) o := call_p1 hn hm (by rw [hf]; exact run_pn h)
theorem cpn2 (hf : fi.fm = runFn n false m) (hn : fi.n = 2) (hm : fi.mt = false) (h : Out (m (startD n [.v a, .v b]) []) fun fl _ => ∃ σ, fl = .nx σ) : callW fi [.v a, .v b] o = .ok (.v .non) o := call_p2 hn hm (by rw [hf]; exact run_pn h)
theorem cpo1 (hf : fi.fm = runFn n false m) (hn : fi.n = 1) (hm : fi.mt = false) (h : Out (m (startD n [.v a]) []) fun fl o => ∃ i b, fl = .rt (.o i) ∧ o[i]? = some ⟨b, .lst xs⟩) : callW fi [.v a] o = .ok (.v (.lst xs)) o := call_p1 hn hm (by rw [hf]; exact run_po h)
theorem cpo2 (hf : fi.fm = runFn n false m) (hn : fi.n = 2) (hm : fi.mt = false) (h : Out (m (startD n [.v a, .v b]) []) fun fl o => ∃ i b, fl = .rt (.o i) ∧ o[i]? = some ⟨b, .lst xs⟩) : callW fi [.v a, .v b] o = .ok (.v (.lst xs)) o := call_p2 hn hm (by rw [hf]; exact run_po h)
/-- a def that draws, by its run -/
def Drawn (P : D → Prop) (fl : Fl) (o : Objs) : Prop := ∃ d f' s' c' r, fl = .rt (.v d) ∧ o = br f' s' c' :: r ∧ P d
theorem Drawn.mk {P : D → Prop} {f s c : Int} {r : Objs} (h : P d) : Drawn P (.rt (.v d)) (br f s c :: r) := ⟨_, _, _, _, _, rfl, rfl, h⟩
theorem dr {ds : List D} {P : D → Prop} (hf : fi.fm = runFn n false m) (h : ∀ f s c, Out (m (startD n (.o 0 :: ds.map W.v)) [br f s c]) (Drawn P)) : Draws fi ds P := fun f s c => by
  rw [hf]; exact run_m (h f s c)
end
/-! ### equal data -/
theorem eq_t (xs : List D) {o : Objs} (h : SeqAt.shaped (py (.tup xs)) = true) : eqW (.v (.tup xs)) (.v (.tup xs)) o = .ok (.v (.bl true)) o := by
  simp [eqW, eqv2, pyW, h, SeqAt.eqv_refl _ (SeqAt.canLay_of_shaped h)]
theorem ne_t (xs : List D) {o : Objs} (h : SeqAt.shaped (py (.tup xs)) = true) : neW (.v (.tup xs)) (.v (.tup xs)) o = .ok (.v (.bl false)) o := by
  simp [neW, eqv2, pyW, h, SeqAt.eqv_refl _ (SeqAt.canLay_of_shaped h)]
theorem eq_l (xs : List D) {o : Objs} (h : SeqAt.shaped (py (.lst xs)) = true) : eqW (.v (.lst xs)) (.v (.lst xs)) o = .ok (.v (.bl true)) o := by
  simp [eqW, eqv2, pyW, h, SeqAt.eqv_refl _ (SeqAt.canLay_of_shaped h)]
theorem ne_l (xs : List D) {o : Objs} (h : SeqAt.shaped (py (.lst xs)) = true) : neW (.v (.lst xs)) (.v (.lst xs)) o = .ok (.v (.bl false)) o := by
  simp [neW, eqv2, pyW, h, SeqAt.eqv_refl _ (SeqAt.canLay_of_shaped h)]
theorem pys_ints (is : List Int) : PyData.canLayAll0 (pys (is.map D.int)) = true ∧ PyData.depthAll (pys (is.map D.int)) = 0 := by
  induction is with
  | nil => exact ⟨rfl, rfl⟩
  | cons i is ih => simp [pys, py, PyData.canLayAll0, PyData.canLay0, PyData.depthAll, PyData.depth, ih]
theorem sh_ti (is : List Int) : SeqAt.shaped (py (.tup (is.map D.int))) = true := by
  simp [SeqAt.shaped, py, PyData.canLay0, PyData.depth, pys_ints]
theorem sh_li (is : List Int) : SeqAt.shaped (py (.lst (is.map D.int))) = true := by
  simp [SeqAt.shaped, py, PyData.canLay0, PyData.depth, pys_ints]
end RR

set_option maxHeartbeats 4000000
namespace RR
open PySem PySem.Spec PyProof.Rows L2
/-! ### rows of signs, numbers, plainly -/
def nb : List Nat → Nat
  | [] => 0
  | d :: ds => d + 2 * nb ds
/-- a row of the signs a, b, .. -/
def rowS (ds : List Nat) : Str := ⟨(ds.map (97 + ·)).toArray⟩
def val (t : Nat) (ds : List Nat) : Nat := nb (ds.map fun d => d / 2 ^ t % 2)
def vals (n : Nat) (ds : List Nat) : List Nat := (List.range n).map fun t => val t ds
def dg (vs : List Nat) : Nat := nb (vs.map (· % 2))
def short : Nat → List Nat → List Nat
  | 0, _ => []
  | k + 1, vs => if vs.all (· == 0) then [] else dg vs :: short k (vs.map (· / 2))
def cutz : List Nat → List Nat
  | [] => []
  | d :: ds => if d = 0 ∧ cutz ds = [] then [] else d :: cutz ds
@[simp] theorem rowS_len (ds : List Nat) : (rowS ds).length = ds.length := by simp [rowS, Str.length]
@[simp] theorem rowS_app (a b : List Nat) : rowS a ++ rowS b = rowS (a ++ b) := by
  show Str.append _ _ = _
  simp [rowS, Str.append]
theorem rowS_nil : rowS [] = ("" : Str) := by decide +kernel
theorem rowS_inj {a b : List Nat} (h : rowS a = rowS b) : a = b := by
  simp only [rowS, Str.mk.injEq] at h
  have := congrArg Array.toList h
  simp only at this
  exact (List.map_inj_right (fun x y h => by omega)).mp this
@[simp] theorem rowS_list (ds : List Nat) : (rowS ds).cps.toList = ds.map (97 + ·) := by simp [rowS]
theorem rowS_a (n : Nat) : repS ("a" : Str) n = rowS (List.replicate n 0) := by
  have : ("a" : Str).cps.toList = [97] := by decide +kernel
  simp only [repS, this, rowS, Str.mk.injEq]
  congr 1
  induction n with
  | zero => rfl
  | succ n ih => simp only [List.replicate_succ, List.flatten_cons, ih]; simp
theorem val_nil (t : Nat) : val t [] = 0 := rfl
theorem val_cons (t d : Nat) (ds : List Nat) : val t (d :: ds) = d / 2 ^ t % 2 + 2 * val t ds := rfl
theorem val_zeros (t n : Nat) (ds : List Nat) : val t (ds ++ List.replicate n 0) = val t ds := by
  induction ds with
  | nil =>
    induction n with
    | zero => rfl
    | succ n ih => simp only [List.nil_append, List.replicate_succ, val_cons, val_nil] at ih ⊢; simp [ih]
  | cons d ds ih => simp only [List.cons_append, val_cons, ih]
theorem val_lt (t : Nat) (ds : List Nat) : val t ds < 2 ^ ds.length := by
  induction ds with
  | nil => simp [val_nil]
  | cons d ds ih =>
    simp only [val_cons, List.length_cons, Nat.pow_succ]
    have : d / 2 ^ t % 2 < 2 := Nat.mod_lt _ (by decide)
    omega
theorem val_cutz (t : Nat) (ds : List Nat) : val t (cutz ds) = val t ds := by
  induction ds with
  | nil => rfl
  | cons d ds ih =>
    simp only [cutz]
    split
    · rename_i h
      rw [h.2] at ih
      simp only [val_nil] at ih
      simp [val_cons, val_nil, ← ih, h.1]
    · simp only [val_cons, ih]
theorem cutz_len (ds : List Nat) : (cutz ds).length ≤ ds.length := by
  induction ds with
  | nil => simp [cutz]
  | cons d ds ih => simp only [cutz]; split <;> simp <;> omega
theorem cutz_mem {ds : List Nat} {d : Nat} (h : d ∈ cutz ds) : d ∈ ds := by
  induction ds with
  | nil => simp [cutz] at h
  | cons e ds ih =>
    simp only [cutz] at h
    split at h
    · simp at h
    · simp at h ⊢; rcases h with rfl | h
      · exact .inl rfl
      · exact .inr (ih h)
theorem bits_small {n d : Nat} (hn : n ≤ 3) (hd : d < 2 ^ n) : nb ((List.range n).map fun t => d / 2 ^ t % 2) = d := by
  match n, hn with
  | 0, _ => simp at hd; subst hd; rfl
  | 1, _ => simp [List.range_succ, nb] at hd ⊢; omega
  | 2, _ => simp [List.range_succ, nb] at hd ⊢; omega
  | 3, _ => simp [List.range_succ, nb] at hd ⊢; omega
theorem cutz_nil {ds : List Nat} (h : ∀ d ∈ ds, d = 0) : cutz ds = [] := by
  induction ds with
  | nil => rfl
  | cons d ds ih => simp only [cutz]; rw [if_pos ⟨h d (by simp), ih fun e he => h e (by simp [he])⟩]
theorem nb_zero (l : List Nat) : nb (l.map fun _ => 0) = 0 := by
  induction l with
  | nil => rfl
  | cons a l ih => simp [nb, ih]
theorem vals_zero {n : Nat} (hn : n ≤ 3) : ∀ {ds : List Nat}, (∀ d ∈ ds, d < 2 ^ n) → ((vals n ds).all (· == 0) = true ↔ cutz ds = [])
  | [], _ => by simp [cutz, vals, val_nil]
  | d :: ds, h => by
    have ih := vals_zero hn (ds := ds) (fun e he => h e (by simp [he]))
    have hd := h d (by simp)
    have hb := bits_small hn hd
    constructor
    · intro z
      have z' : ∀ t < n, val t (d :: ds) = 0 := by simpa [vals] using z
      have h1 : cutz ds = [] := ih.mp (by simp only [vals, List.all_map, List.all_eq_true, List.mem_range]; intro t ht; have := z' t ht; rw [val_cons] at this; simp; omega)
      have h2 : d = 0 := by
        rw [← hb]
        have : (List.range n).map (fun t => d / 2 ^ t % 2) = (List.range n).map (fun _ => 0) := List.map_congr_left fun t ht => by
          have := z' t (by simpa using ht); rw [val_cons] at this; omega
        rw [this, nb_zero]
      simp only [cutz, h1, h2, and_self, if_true]
    · intro z
      simp only [cutz] at z
      split at z
      · rename_i q
        have := ih.mpr q.2
        simp only [vals, List.all_map, List.all_eq_true, List.mem_range] at this ⊢
        intro t ht
        have := this t ht
        simp [val_cons, q.1] at this ⊢
        omega
      · simp at z
theorem vals_len (n : Nat) (ds : List Nat) : (vals n ds).length = n := by simp [vals]
theorem short_vals {n : Nat} (hn : n ≤ 3) : ∀ (k : Nat) {ds : List Nat}, (∀ d ∈ ds, d < 2 ^ n) → ds.length ≤ k → short k (vals n ds) = cutz ds
  | 0, [], _, _ => rfl
  | k + 1, [], h, _ => by
    simp only [short]; rw [if_pos ((vals_zero hn h).mpr rfl)]; rfl
  | k + 1, d :: ds, h, hl => by
    have h' : ∀ e ∈ ds, e < 2 ^ n := fun e he => h e (by simp [he])
    have ih := short_vals hn k h' (by simpa using hl)
    simp only [short]
    by_cases z : cutz (d :: ds) = []
    · rw [if_pos ((vals_zero hn h).mpr z), z]
    · rw [if_neg (fun q => z ((vals_zero hn h).mp q))]
      have e1 : dg (vals n (d :: ds)) = d := by
        rw [dg]
        conv => rhs; rw [← bits_small hn (h d (by simp))]
        congr 1
        simp only [vals, List.map_map]
        refine List.map_congr_left fun t _ => ?_
        simp only [Function.comp, val_cons]; omega
      have e2 : (vals n (d :: ds)).map (· / 2) = vals n ds := by
        simp only [vals, List.map_map]
        refine List.map_congr_left fun t _ => ?_
        simp only [Function.comp, val_cons]; omega
      rw [e1, e2, ih]
      simp only [cutz] at z ⊢
      split
      · rename_i q; simp [q] at z
      · rfl
theorem dg_lt : ∀ {vs : List Nat}, dg vs < 2 ^ vs.length
  | [] => by simp [dg, nb]
  | v :: vs => by
    have := dg_lt (vs := vs)
    simp only [dg, List.map_cons, nb, List.length_cons, Nat.pow_succ] at this ⊢
    omega
theorem dg_bit : ∀ {vs : List Nat} {t v : Nat}, vs[t]? = some v → dg vs / 2 ^ t % 2 = v % 2
  | [], _, _, h => by simp at h
  | a :: vs, 0, v, h => by simp at h; subst h; simp only [dg, List.map_cons, nb]; omega
  | a :: vs, t + 1, v, h => by
    have := dg_bit (vs := vs) (t := t) (v := v) (by simpa using h)
    simp only [dg, List.map_cons, nb] at this ⊢
    rw [Nat.pow_succ, Nat.mul_comm (2 ^ t) 2, ← Nat.div_div_eq_div_mul, show (a % 2 + 2 * nb (vs.map (· % 2))) / 2 = nb (vs.map (· % 2)) by omega, this]
theorem short_val : ∀ (k : Nat) {vs : List Nat} {t v : Nat}, (∀ v ∈ vs, v < 2 ^ k) → vs[t]? = some v → val t (short k vs) = v
  | 0, vs, t, v, h, e => by
    have := h v (List.mem_of_getElem? e)
    simp at this; subst this; rfl
  | k + 1, vs, t, v, h, e => by
    simp only [short]
    split
    · rename_i z
      simp only [List.all_eq_true] at z
      have := z v (List.mem_of_getElem? e)
      simp at this; subst this; rfl
    · rw [val_cons, dg_bit e, short_val k (vs := vs.map (· / 2)) (v := v / 2) (fun w hw => by
        obtain ⟨u, hu, rfl⟩ := List.mem_map.mp hw
        have := h u hu
        rw [Nat.pow_succ] at this; show u / 2 < 2 ^ k; omega) (by simp [e])]
      omega
theorem short_vals' {k : Nat} {vs : List Nat} (h : ∀ v ∈ vs, v < 2 ^ k) : vals vs.length (short k vs) = vs := by
  refine List.ext_getElem (by simp [vals]) fun t h1 h2 => ?_
  simp only [vals, List.getElem_map, List.getElem_range]
  exact short_val k h (List.getElem?_eq_getElem h2)
theorem short_lt : ∀ (k : Nat) {vs : List Nat}, ∀ d ∈ short k vs, d < 2 ^ vs.length
  | 0, vs, d, h => by simp [short] at h
  | k + 1, vs, d, h => by
    simp only [short] at h
    split at h
    · simp at h
    · simp only [List.mem_cons] at h
      rcases h with rfl | h
      · exact dg_lt
      · simpa using short_lt k d h
theorem short_len : ∀ (k : Nat) {vs : List Nat}, (short k vs).length ≤ k
  | 0, vs => by simp [short]
  | k + 1, vs => by
    simp only [short]
    split
    · simp
    · have := short_len k (vs := vs.map (· / 2)); simp; omega
theorem short_zero {k : Nat} {vs : List Nat} (h : ∀ v ∈ vs, v = 0) : short k vs = [] := by
  cases k with
  | zero => rfl
  | succ k => simp only [short]; rw [if_pos (by simpa using h)]
theorem short_nil : ∀ {k : Nat} {vs : List Nat}, (∀ v ∈ vs, v < 2 ^ k) → short k vs = [] → ∀ v ∈ vs, v = 0
  | 0, vs, h, _, v, hv => by simpa using h v hv
  | k + 1, vs, h, z, v, hv => by
    simp only [short] at z
    split at z
    · rename_i q; simpa using List.all_eq_true.mp q v hv
    · simp at z
theorem short_big {k j : Nat} {vs : List Nat} (h : ∀ v ∈ vs, v < 2 ^ k) (hj : k ≤ j) : short j vs = short k vs := by
  induction k generalizing j vs with
  | zero => rw [short_zero (k := j) (fun v hv => by simpa using h v hv)]; rfl
  | succ k ih =>
    obtain ⟨i, rfl⟩ : ∃ i, j = i + 1 := ⟨j - 1, by omega⟩
    simp only [short]
    split
    · rfl
    · rw [ih (fun w hw => by
        obtain ⟨u, hu, rfl⟩ := List.mem_map.mp hw
        have := h u hu
        rw [Nat.pow_succ] at this; show u / 2 < 2 ^ k; omega) (by omega)]
theorem short_last : ∀ {k : Nat} {vs : List Nat}, (∀ v ∈ vs, v < 2 ^ k) → (short k vs).getLast? ≠ some 0
  | 0, vs, h => by simp [short]
  | k + 1, vs, h => by
    simp only [short]
    split
    · simp
    · rename_i q
      have hb : ∀ w ∈ vs.map (· / 2), w < 2 ^ k := fun w hw => by
        obtain ⟨u, hu, rfl⟩ := List.mem_map.mp hw
        have := h u hu
        rw [Nat.pow_succ] at this; show u / 2 < 2 ^ k; omega
      have ih := short_last hb
      by_cases z : short k (vs.map (· / 2)) = []
      · rw [z]
        simp only [List.getLast?_singleton, ne_eq, Option.some.injEq]
        intro hd
        refine q (List.all_eq_true.mpr fun v hv => ?_)
        have h0 := short_nil hb z (v / 2) (List.mem_map.mpr ⟨v, hv, rfl⟩)
        obtain ⟨t, ht, rfl⟩ := List.mem_iff_getElem.mp hv
        have := dg_bit (vs := vs) (List.getElem?_eq_getElem ht)
        rw [hd] at this
        simp at this
        simp; omega
      · rw [List.getLast?_cons]
        cases hs : (short k (vs.map (· / 2))).getLast? with
        | none => simp [List.getLast?_eq_none_iff] at hs; exact absurd (by simpa using hs) z
        | some x => rw [hs] at ih; simpa using ih
theorem cutz_app (L : List Nat) : ∃ m, L = cutz L ++ List.replicate m 0 := by
  induction L with
  | nil => exact ⟨0, rfl⟩
  | cons d L ih =>
    obtain ⟨m, e⟩ := ih
    simp only [cutz]
    split
    · rename_i h
      refine ⟨m + 1, ?_⟩
      rw [h.2] at e
      rw [h.1, List.replicate_succ, ← List.nil_append (List.replicate m 0), ← e]; rfl
    · exact ⟨m, by rw [List.cons_append, ← e]⟩
theorem cutz_last (L : List Nat) : (cutz L).getLast? ≠ some 0 := by
  induction L with
  | nil => simp [cutz]
  | cons d L ih =>
    simp only [cutz]
    split
    · simp
    · rename_i h
      rw [List.getLast?_cons]
      cases hs : (cutz L).getLast? with
      | none =>
        rw [List.getLast?_eq_none_iff] at hs
        simp only [hs, and_true] at h
        simpa using h
      | some x => rw [hs] at ih; simpa using ih
theorem takeWhile_rep {p : Nat → Bool} {a : Nat} (hp : p a = true) : ∀ (m : Nat) {l : List Nat}, (∀ x, l.head? = some x → p x = false) → ((List.replicate m a ++ l).takeWhile p).length = m
  | 0, [], _ => rfl
  | 0, x :: l, h => by simp [h x rfl]
  | m + 1, l, h => by simp only [List.replicate_succ, List.cons_append, List.takeWhile_cons, hp, if_true, List.length_cons, takeWhile_rep hp m h]
theorem rstrip_a (L : List Nat) : Txt.rstripChars (rowS L) ("a" : Str) = rowS (cutz L) := by
  obtain ⟨m, e⟩ := cutz_app L
  have hl := cutz_last L
  generalize cutz L = S at e hl
  subst e
  have ha : ("a" : Str).cps = #[97] := by decide +kernel
  unfold Txt.rstripChars
  rw [PyProof.Rows.stripBy_eq]
  have h0 : PySem.stripLo ("a" : Str).cps.contains false (rowS (S ++ List.replicate m 0)) = 0 := rfl
  rw [h0]
  have hT : (((rowS (S ++ List.replicate m 0)).cps.toList.drop 0).reverse.takeWhile ("a" : Str).cps.contains).length = m := by
    simp only [List.drop_zero, rowS_list, List.map_append, List.map_replicate, List.reverse_append, List.reverse_replicate]
    refine takeWhile_rep (by rw [ha]; simp) m fun x hx => ?_
    rw [List.head?_reverse, List.getLast?_map] at hx
    cases hS : S.getLast? with
    | none => rw [hS] at hx; simp at hx
    | some y =>
      rw [hS] at hx hl
      simp at hx hl
      rw [ha]
      simp
      omega
  have h1 : PySem.stripHi ("a" : Str).cps.contains true (rowS (S ++ List.replicate m 0)) 0 = S.length := by
    simp only [PySem.stripHi, if_true, hT]
    simp
  rw [h1]
  simp only [Builtin.Str.strSub, rowS, Str.mk.injEq]
  simp
end RR

set_option maxHeartbeats 4000000
namespace RR
open PySem PySem.Spec PyProof.Rows L2
/-! ### more steps of runs -/
section
variable {σ : Sl} {o : Objs} {cl : List (Str × CI)} {kt : KT}
@[simp] theorem eqC_i (i : Int) (b : W) : eqC cl (.v (.int i)) b o = eqW (.v (.int i)) b o := id rfl
@[simp] theorem eqC_s (i : Str) (b : W) : eqC cl (.v (.str i)) b o = eqW (.v (.str i)) b o := id rfl
@[simp] theorem eqC_b (i : Bool) (b : W) : eqC cl (.v (.bl i)) b o = eqW (.v (.bl i)) b o := id rfl
@[simp] theorem eqC_n (b : W) : eqC cl (.v .non) b o = eqW (.v .non) b o := id rfl
@[simp] theorem eqC_t (i : List D) (b : W) : eqC cl (.v (.tup i)) b o = eqW (.v (.tup i)) b o := id rfl
@[simp] theorem eqC_l (i : List D) (b : W) : eqC cl (.v (.lst i)) b o = eqW (.v (.lst i)) b o := id rfl
@[simp] theorem neC_i (i : Int) (b : W) : neC cl (.v (.int i)) b o = neW (.v (.int i)) b o := id rfl
@[simp] theorem neC_s (i : Str) (b : W) : neC cl (.v (.str i)) b o = neW (.v (.str i)) b o := id rfl
@[simp] theorem neC_b (i : Bool) (b : W) : neC cl (.v (.bl i)) b o = neW (.v (.bl i)) b o := id rfl
@[simp] theorem neC_n (b : W) : neC cl (.v .non) b o = neW (.v .non) b o := id rfl
@[simp] theorem neC_t (i : List D) (b : W) : neC cl (.v (.tup i)) b o = neW (.v (.tup i)) b o := id rfl
@[simp] theorem neC_l (i : List D) (b : W) : neC cl (.v (.lst i)) b o = neW (.v (.lst i)) b o := id rfl
@[simp] theorem lenC_s (i : Str) : lenC cl (.v (.str i)) o = lenW (.v (.str i)) o := id rfl
@[simp] theorem lenC_t (i : List D) : lenC cl (.v (.tup i)) o = lenW (.v (.tup i)) o := id rfl
@[simp] theorem lenC_l (i : List D) : lenC cl (.v (.lst i)) o = lenW (.v (.lst i)) o := id rfl
@[simp] theorem lenC_c (i : List D) : lenC cl (.v (.scr i)) o = lenW (.v (.scr i)) o := id rfl
@[simp] theorem isiC_ty (a : W) (n : String) : isiC cl kt a (.v (.ty n)) o = isiW a (.v (.ty n)) o := id rfl
@[simp] theorem eq_bb (a b : Bool) : eqW (.v (.bl a)) (.v (.bl b)) o = .ok (.v (.bl (a == b))) o := by cases a <;> cases b <;> rfl
@[simp] theorem ne_bb (a b : Bool) : neW (.v (.bl a)) (.v (.bl b)) o = .ok (.v (.bl (!(a == b)))) o := by cases a <;> cases b <;> rfl
@[simp] theorem e_SetF (f : Str) (mv mo : ME) : mSetF cl f mv mo σ o = (mv σ o).bind fun w o => (mo σ o).bind fun u o => match w, u with
  | .v d, .o k => match o[k]? with
    | some ⟨true, .ins c ns ds⟩ => match cl.lookup c with
      | some ci => if ci.flds.contains f = true ∧ ns.contains f = false ∧ ns.length < 1000 then .ok (.nx σ) (o.set k ⟨true, .ins c (ns ++ [f]) (ds ++ [d])⟩) else .stuck
      | none => .stuck
    | _ => .stuck
  | _, _ => .stuck := id rfl
@[simp] theorem asB_bind {α : Type} (r : R α) (f : α → Objs → R W) : asB (r.bind f) = r.bind fun a o => asB (f a o) := by cases r <;> rfl
@[simp] theorem e_Unp (l : ML) (ms : List MG) : mUnp l ms σ o = (l σ o).bind fun ws o => if ws.length = ms.length ∧ ws.length ≤ 1000 then (mGs ms ws σ o).bind fun σ o => .ok (.nx σ) o else .stuck := id rfl
@[simp] theorem e_MakeK (c : Str) (fi : FI) (π : List Nat) (n : Nat) (l : ML) : mMakeK c fi π n l σ o = (l σ o).bind fun ws o => if ws.length = n then makeW c fi (permL π ws) o else .stuck := id rfl
def zipM (ws : List W) (o : Objs) : R (List D) := match ws with
  | [a, b] => match kdW o a with
    | some (_, xs, o1) => match kdW o1 b with
      | some (_, ys, o2) => .ok (zipD xs ys) o2
      | none => .stuck
    | none => .stuck
  | _ => .stuck
@[simp] theorem e_Zip (l : ML) : mZip l σ o = (l σ o).bind zipM := id rfl
@[simp] theorem zip_tt (xs ys : List D) : zipM [.v (.tup xs), .v (.tup ys)] o = .ok (zipD xs ys) o := id rfl
@[simp] theorem zip_tl (xs ys : List D) : zipM [.v (.tup xs), .v (.lst ys)] o = .ok (zipD xs ys) o := id rfl
@[simp] theorem zip_lt (xs ys : List D) : zipM [.v (.lst xs), .v (.tup ys)] o = .ok (zipD xs ys) o := id rfl
@[simp] theorem zip_ll (xs ys : List D) : zipM [.v (.lst xs), .v (.lst ys)] o = .ok (zipD xs ys) o := id rfl
@[simp] theorem lst_1t (a : D) : lstMk true [.v a] o = .ok (.o o.length) (o ++ [⟨true, .lst [a]⟩]) := id rfl
@[simp] theorem lst_2f (a b : D) : lstMk false [.v a, .v b] o = .ok (.v (.lst [a, b])) o := id rfl
@[simp] theorem lst_2t (a b : D) : lstMk true [.v a, .v b] o = .ok (.o o.length) (o ++ [⟨true, .lst [a, b]⟩]) := id rfl
@[simp] theorem tup_3 (a b c : D) : tupW [.v a, .v b, .v c] o = .ok (.v (.tup [a, b, c])) o := id rfl
@[simp] theorem lst_4t (a b c d : D) : lstMk true [.v a, .v b, .v c, .v d] o = .ok (.o o.length) (o ++ [⟨true, .lst [a, b, c, d]⟩]) := id rfl
@[simp] theorem tup_4 (a b c d : D) : tupW [.v a, .v b, .v c, .v d] o = .ok (.v (.tup [a, b, c, d])) o := id rfl
@[simp] theorem lst_5f (a b c d e : D) : lstMk false [.v a, .v b, .v c, .v d, .v e] o = .ok (.v (.lst [a, b, c, d, e])) o := id rfl
@[simp] theorem lst_5t (a b c d e : D) : lstMk true [.v a, .v b, .v c, .v d, .v e] o = .ok (.o o.length) (o ++ [⟨true, .lst [a, b, c, d, e]⟩]) := id rfl
@[simp] theorem tup_5 (a b c d e : D) : tupW [.v a, .v b, .v c, .v d, .v e] o = .ok (.v (.tup [a, b, c, d, e])) o := id rfl
@[simp] theorem lst_6f (a b c d e f : D) : lstMk false [.v a, .v b, .v c, .v d, .v e, .v f] o = .ok (.v (.lst [a, b, c, d, e, f])) o := id rfl
@[simp] theorem lst_6t (a b c d e f : D) : lstMk true [.v a, .v b, .v c, .v d, .v e, .v f] o = .ok (.o o.length) (o ++ [⟨true, .lst [a, b, c, d, e, f]⟩]) := id rfl
@[simp] theorem tup_6 (a b c d e f : D) : tupW [.v a, .v b, .v c, .v d, .v e, .v f] o = .ok (.v (.tup [a, b, c, d, e, f])) o := id rfl
@[simp] theorem lst_7t (a b c d e f g : D) : lstMk true [.v a, .v b, .v c, .v d, .v e, .v f, .v g] o = .ok (.o o.length) (o ++ [⟨true, .lst [a, b, c, d, e, f, g]⟩]) := id rfl
@[simp] theorem tup_7 (a b c d e f g : D) : tupW [.v a, .v b, .v c, .v d, .v e, .v f, .v g] o = .ok (.v (.tup [a, b, c, d, e, f, g])) o := id rfl
@[simp] theorem lst_8f (a b c d e f g h : D) : lstMk false [.v a, .v b, .v c, .v d, .v e, .v f, .v g, .v h] o = .ok (.v (.lst [a, b, c, d, e, f, g, h])) o := id rfl
@[simp] theorem lst_8t (a b c d e f g h : D) : lstMk true [.v a, .v b, .v c, .v d, .v e, .v f, .v g, .v h] o = .ok (.o o.length) (o ++ [⟨true, .lst [a, b, c, d, e, f, g, h]⟩]) := id rfl
@[simp] theorem tup_8 (a b c d e f g h : D) : tupW [.v a, .v b, .v c, .v d, .v e, .v f, .v g, .v h] o = .ok (.v (.tup [a, b, c, d, e, f, g, h])) o := id rfl
@[simp] theorem lst_9f (a b c d e f g h i : D) : lstMk false [.v a, .v b, .v c, .v d, .v e, .v f, .v g, .v h, .v i] o = .ok (.v (.lst [a, b, c, d, e, f, g, h, i])) o := id rfl
@[simp] theorem lst_9t (a b c d e f g h i : D) : lstMk true [.v a, .v b, .v c, .v d, .v e, .v f, .v g, .v h, .v i] o = .ok (.o o.length) (o ++ [⟨true, .lst [a, b, c, d, e, f, g, h, i]⟩]) := id rfl
@[simp] theorem tup_9 (a b c d e f g h i : D) : tupW [.v a, .v b, .v c, .v d, .v e, .v f, .v g, .v h, .v i] o = .ok (.v (.tup [a, b, c, d, e, f, g, h, i])) o := id rfl
@[simp] theorem lst_10f (a b c d e f g h i j : D) : lstMk false [.v a, .v b, .v c, .v d, .v e, .v f, .v g, .v h, .v i, .v j] o = .ok (.v (.lst [a, b, c, d, e, f, g, h, i, j])) o := id rfl
@[simp] theorem lst_10t (a b c d e f g h i j : D) : lstMk true [.v a, .v b, .v c, .v d, .v e, .v f, .v g, .v h, .v i, .v j] o = .ok (.o o.length) (o ++ [⟨true, .lst [a, b, c, d, e, f, g, h, i, j]⟩]) := id rfl
@[simp] theorem tup_10 (a b c d e f g h i j : D) : tupW [.v a, .v b, .v c, .v d, .v e, .v f, .v g, .v h, .v i, .v j] o = .ok (.v (.tup [a, b, c, d, e, f, g, h, i, j])) o := id rfl
@[simp] theorem tup_0 : tupW [] o = .ok (.v (.tup [])) o := id rfl
@[simp] theorem neg_i (i : Int) : negW (.v (.int i)) o = .ok (.v (.int (-i))) o := id rfl
@[simp] theorem tuple_t (xs : List D) : tupleW (.v (.tup xs)) o = .ok (.v (.tup xs)) o := id rfl
theorem tuple_o {k : Nat} {b : Bool} {xs : List D} (h : o[k]? = some ⟨b, .lst xs⟩) : tupleW (.o k) o = .ok (.v (.tup xs)) o := by simp [tupleW, lstW, h]
@[simp] theorem tuple_o0 (b : Bool) (xs : List D) (r : Objs) : tupleW (.o 0) (⟨b, .lst xs⟩ :: r) = .ok (.v (.tup xs)) (⟨b, .lst xs⟩ :: r) := tuple_o rfl
@[simp] theorem tuple_o1 (e : Ent) (b : Bool) (xs : List D) (r : Objs) : tupleW (.o 1) (e :: ⟨b, .lst xs⟩ :: r) = .ok (.v (.tup xs)) (e :: ⟨b, .lst xs⟩ :: r) := tuple_o rfl
theorem tup_vs (ds : List D) (h : ds.length ≤ sizeLine) : tupW (ds.map W.v) o = .ok (.v (.tup ds)) o := by simp [tupW, pulls_vs, h]
theorem list_l (xs : List D) (h : xs.length ≤ sizeLine) : listW false (.v (.lst xs)) o = .ok (.v (.lst xs)) o := by simp [listW, seqW, h]
theorem add_tt (x y : List D) (h : x.length + y.length ≤ sizeLine) : addW (.v (.tup x)) (.v (.tup y)) o = .ok (.v (.tup (x ++ y))) o := by simp [addW, h]
theorem eq_d {a b : D} (ha : SeqAt.shaped (py a) = true) (hb : SeqAt.shaped (py b) = true) (h1 : ∀ i j, ¬ (a = .int i ∧ b = .int j)) (h2 : ∀ i j, ¬ (a = .str i ∧ b = .str j)) : eqW (.v a) (.v b) o = .ok (.v (.bl (PyData.eqv (py a) (py b)))) o := by
  unfold eqW eqv2
  split
  · rename_i c hc
    split at hc
    · rename_i i j e1 e2; exact absurd ⟨W.v.inj e1, W.v.inj e2⟩ (h1 i j)
    · rename_i i j e1 e2; exact absurd ⟨W.v.inj e1, W.v.inj e2⟩ (h2 i j)
    · simp only [pyW, ha, hb, and_self, if_true, Option.some.injEq] at hc; rw [hc]
  · rename_i hc
    split at hc
    · cases hc
    · cases hc
    · simp only [pyW, ha, hb, and_self, if_true] at hc; cases hc
theorem ne_d {a b : D} (ha : SeqAt.shaped (py a) = true) (hb : SeqAt.shaped (py b) = true) (h1 : ∀ i j, ¬ (a = .int i ∧ b = .int j)) (h2 : ∀ i j, ¬ (a = .str i ∧ b = .str j)) : neW (.v a) (.v b) o = .ok (.v (.bl (!PyData.eqv (py a) (py b)))) o := by
  have := eq_d (o := o) ha hb h1 h2
  unfold eqW at this
  unfold neW
  split at this
  · simp only [R.ok.injEq, W.v.injEq, D.bl.injEq, and_true] at this; rw [this]
  · cases this
theorem eq_tt {a b : List D} (ha : SeqAt.shaped (py (.tup a)) = true) (hb : SeqAt.shaped (py (.tup b)) = true) : eqW (.v (.tup a)) (.v (.tup b)) o = .ok (.v (.bl (PyData.eqv (py (.tup a)) (py (.tup b))))) o := eq_d ha hb (fun _ _ h => by cases h.1) (fun _ _ h => by cases h.1)
theorem ne_tt {a b : List D} (ha : SeqAt.shaped (py (.tup a)) = true) (hb : SeqAt.shaped (py (.tup b)) = true) : neW (.v (.tup a)) (.v (.tup b)) o = .ok (.v (.bl (!PyData.eqv (py (.tup a)) (py (.tup b))))) o := ne_d ha hb (fun _ _ h => by cases h.1) (fun _ _ h => by cases h.1)
theorem eq_ll {a b : List D} (ha : SeqAt.shaped (py (.lst a)) = true) (hb : SeqAt.shaped (py (.lst b)) = true) : eqW (.v (.lst a)) (.v (.lst b)) o = .ok (.v (.bl (PyData.eqv (py (.lst a)) (py (.lst b))))) o := eq_d ha hb (fun _ _ h => by cases h.1) (fun _ _ h => by cases h.1)
theorem ne_ll {a b : List D} (ha : SeqAt.shaped (py (.lst a)) = true) (hb : SeqAt.shaped (py (.lst b)) = true) : neW (.v (.lst a)) (.v (.lst b)) o = .ok (.v (.bl (!PyData.eqv (py (.lst a)) (py (.lst b))))) o := ne_d ha hb (fun _ _ h => by cases h.1) (fun _ _ h => by cases h.1)
end
section
variable {cl : List (Str × CI)} {kt : KT} {o : Objs}
@[simp] theorem eqZ_i (i : Int) (b : W) : eqZ cl kt (.v (.int i)) b o = eqW (.v (.int i)) b o := id rfl
@[simp] theorem eqZ_s (i : Str) (b : W) : eqZ cl kt (.v (.str i)) b o = eqW (.v (.str i)) b o := id rfl
@[simp] theorem eqZ_b (i : Bool) (b : W) : eqZ cl kt (.v (.bl i)) b o = eqW (.v (.bl i)) b o := id rfl
@[simp] theorem eqZ_n (b : W) : eqZ cl kt (.v .non) b o = eqW (.v .non) b o := id rfl
@[simp] theorem eqZ_l (i : List D) (b : W) : eqZ cl kt (.v (.lst i)) b o = eqW (.v (.lst i)) b o := id rfl
@[simp] theorem eqZ_ti (x : Int) (i : List D) (b : W) : eqZ cl kt (.v (.tup (.int x :: i))) b o = eqW (.v (.tup (.int x :: i))) b o := id rfl
@[simp] theorem eqZ_tt (x : List D) (i : List D) (b : W) : eqZ cl kt (.v (.tup (.tup x :: i))) b o = eqW (.v (.tup (.tup x :: i))) b o := id rfl
@[simp] theorem neZ_i (i : Int) (b : W) : neZ cl kt (.v (.int i)) b o = neW (.v (.int i)) b o := id rfl
@[simp] theorem neZ_s (i : Str) (b : W) : neZ cl kt (.v (.str i)) b o = neW (.v (.str i)) b o := id rfl
@[simp] theorem neZ_b (i : Bool) (b : W) : neZ cl kt (.v (.bl i)) b o = neW (.v (.bl i)) b o := id rfl
@[simp] theorem neZ_n (b : W) : neZ cl kt (.v .non) b o = neW (.v .non) b o := id rfl
@[simp] theorem neZ_l (i : List D) (b : W) : neZ cl kt (.v (.lst i)) b o = neW (.v (.lst i)) b o := id rfl
@[simp] theorem neZ_t (i : List D) (b : W) : neZ cl kt (.v (.tup i)) b o = neW (.v (.tup i)) b o := id rfl
end
theorem out_draw2 {fi : FI} {a b : D} {P : D → Prop} {f s c : Int} {r : Objs} {Q : W → Objs → Prop} (hd : Draws fi [a, b] P) (hn : fi.n = 3) (hm : fi.mt = true) (q : ∀ d f' s' c', P d → Q (.v d) (br f' s' c' :: r)) : Out (callW fi [.o 0, .v a, .v b] (br f s c :: r)) Q :=
  out_draw (ds := [a, b]) hd hn.symm hm rfl q
theorem out_draw3 {fi : FI} {a b e : D} {P : D → Prop} {f s c : Int} {r : Objs} {Q : W → Objs → Prop} (hd : Draws fi [a, b, e] P) (hn : fi.n = 4) (hm : fi.mt = true) (q : ∀ d f' s' c', P d → Q (.v d) (br f' s' c' :: r)) : Out (callW fi [.o 0, .v a, .v b, .v e] (br f s c :: r)) Q :=
  out_draw (ds := [a, b, e]) hd hn.symm hm rfl q
/-- an instance, by its __init__ -/
theorem make_of {c : Str} {fi : FI} {ds vs : List D} {ns : List Str} {n : Nat} {m : MS} {o : Objs} (hf : fi.fm = runFn n false m) (hn : ds.length + 1 = fi.n) (h : Out (m (startD n (.o 0 :: ds.map W.v)) [⟨true, .ins c [] []⟩]) fun fl o => ∃ σ b r, fl = .nx σ ∧ o = ⟨b, .ins c ns vs⟩ :: r) :
    makeW c fi (ds.map W.v) o = .ok (.v (.ins c ns vs)) o := by
  obtain ⟨fl, o1, e, σ, b, r, rfl, rfl⟩ := out_inv h
  have : fi.fm (.o 0 :: ds.map W.v) [⟨true, .ins c [] []⟩] = .ok (.v .non) [⟨b, .ins c ns vs⟩] := by
    rw [hf]; simp only [runFn, e]; rfl
  simp only [makeW, List.length_map, hn, if_true, pulls_vs, this]
/-- things that are as told, numbered -/
theorem seq_of {β : Type} (F : β → D) (C : β → Prop) (x0 : β) (h0 : C x0) (rs : List D) (h : ∀ r ∈ rs, ∃ x, r = F x ∧ C x) : ∃ v : Nat → β, rs = (List.range rs.length).map (fun i => F (v i)) ∧ ∀ i, C (v i) := by
  have hh : ∀ i : Nat, ∃ x : β, C x ∧ ∀ r, rs[i]? = some r → r = F x := fun i => by
    cases e : rs[i]? with
    | none => exact ⟨x0, h0, fun r z => by cases z⟩
    | some r =>
      obtain ⟨x, e1, e2⟩ := h r (List.mem_of_getElem? e)
      exact ⟨x, e2, fun r' z => by cases z; exact e1⟩
  refine ⟨fun i => Classical.choose (hh i), ?_, fun i => (Classical.choose_spec (hh i)).1⟩
  apply List.ext_getElem (by simp)
  intro i h1 h2
  simp only [List.getElem_map, List.getElem_range]
  exact (Classical.choose_spec (hh i)).2 _ (List.getElem?_eq_getElem h1)
/-- a comprehension with a test, whose turns change nothing -/
theorem out_lcF {α : Type} {turn : D → Objs → R (Option W)} {o : Objs} {Q : List W → Objs → Prop} {g : α → D} {l : List α} (p : α → Bool) (f : α → D) (hl : l.length ≤ sizeLine)
    (h : ∀ a ∈ l, Out (turn (g a) o) fun r o' => r = (if p a = true then some (.v (f a)) else none) ∧ o' = o) (q : Q (((l.filter p).map f).map W.v) o) : Out (lcGo turn (l.map g) [] o) Q := by
  have key : ∀ (l : List α) (acc : List W), acc.length + l.length ≤ sizeLine → (∀ a ∈ l, Out (turn (g a) o) fun r o' => r = (if p a = true then some (.v (f a)) else none) ∧ o' = o) → lcGo turn (l.map g) acc o = .ok (acc ++ ((l.filter p).map f).map W.v) o := by
    intro l
    induction l with
    | nil => intro acc _ _; simp
    | cons a l ih =>
      intro acc hl h
      simp only [List.length_cons] at hl
      have hlt : acc.length < sizeLine := by omega
      have e := out_eq (h a (by simp))
      by_cases hp : p a = true
      · rw [if_pos hp] at e
        simp only [List.map_cons, lcGo, e, R.bind_ok, hlt, if_true]
        rw [ih (acc ++ [W.v (f a)]) (by simp; omega) (fun d hd => h d (by simp [hd]))]
        simp [hp]
      · rw [if_neg hp] at e
        simp only [List.map_cons, lcGo, e, R.bind_ok]
        rw [ih acc (by omega) (fun d hd => h d (by simp [hd]))]
        simp [hp]
  rw [key l [] (by simpa using hl) h]
  simpa using q
/-! ### sums -/
def lsum {α : Type} (l : List α) (f : α → Int) : Int := (l.map f).sum
section
variable {α β : Type}
@[simp] theorem lsum_nil (f : α → Int) : lsum [] f = 0 := id rfl
@[simp] theorem lsum_cons (a : α) (l : List α) (f : α → Int) : lsum (a :: l) f = f a + lsum l f := by simp [lsum]
theorem lsum_append (l m : List α) (f : α → Int) : lsum (l ++ m) f = lsum l f + lsum m f := by simp [lsum]
theorem lsum_map (l : List β) (g : β → α) (f : α → Int) : lsum (l.map g) f = lsum l fun b => f (g b) := by simp [lsum, Function.comp_def]
theorem lsum_congr {l : List α} {f g : α → Int} (h : ∀ a ∈ l, f a = g a) : lsum l f = lsum l g := by unfold lsum; rw [List.map_congr_left h]
theorem lsum_add (l : List α) (f g : α → Int) : lsum l (fun a => f a + g a) = lsum l f + lsum l g := by
  induction l with
  | nil => rfl
  | cons a l ih => simp only [lsum_cons, ih]; omega
theorem lsum_mulR (l : List α) (f : α → Int) (c : Int) : lsum l (fun a => f a * c) = lsum l f * c := by
  induction l with
  | nil => simp
  | cons a l ih => simp only [lsum_cons, ih, Int.add_mul]
theorem lsum_mulL (l : List α) (f : α → Int) (c : Int) : lsum l (fun a => c * f a) = c * lsum l f := by
  induction l with
  | nil => simp
  | cons a l ih => simp only [lsum_cons, ih, Int.mul_add]
theorem lsum_zero (l : List α) : lsum l (fun _ => 0) = 0 := by
  induction l with
  | nil => rfl
  | cons a l ih => simp [ih]
theorem lsum_comm (l : List α) (m : List β) (f : α → β → Int) : lsum l (fun a => lsum m (f a)) = lsum m fun b => lsum l fun a => f a b := by
  induction l with
  | nil => simp [lsum_zero]
  | cons a l ih => simp only [lsum_cons, ih, lsum_add]
theorem lsum_flatMap (l : List α) (g : α → List β) (f : β → Int) : lsum (l.flatMap g) f = lsum l fun a => lsum (g a) f := by
  induction l with
  | nil => rfl
  | cons a l ih => simp only [List.flatMap_cons, lsum_append, lsum_cons, ih]
theorem sum_ints {o : Objs} (l : List α) (f : α → Int) : sumW (.v (.lst (l.map fun a => D.int (f a)))) o = .ok (.v (.int (lsum l f))) o := by
  have : (l.map fun a => D.int (f a)) = (l.map f).map D.int := by simp
  rw [this, sum_l]; rfl
end
/-! ### plain data -/
structure Good (k b : Nat) (d : D) : Prop where
  lay : (py d).canLay0 = true
  dep : (py d).depth ≤ k
  sho : (py d).showable = true
  len : (py d).shown.length ≤ b
theorem Good.mono {k b k' b' : Nat} {d : D} (g : Good k b d) (h1 : k ≤ k') (h2 : b ≤ b') : Good k' b' d := ⟨g.lay, Nat.le_trans g.dep h1, g.sho, Nat.le_trans g.len h2⟩
theorem good_int {i : Int} (h : i.natAbs.log2 < 1920) : Good 0 1921 (.int i) :=
  ⟨rfl, Nat.le_refl _, by simp [py, PyData.showable, h], by
    have e := int_text_length_le (k := 1920) (by decide) h
    show (Str.ofString (toString i)).length ≤ _
    rw [PySem.ofString_length]; exact e⟩
theorem good_bl (b : Bool) : Good 0 1921 (.bl b) := ⟨rfl, Nat.le_refl _, rfl, by cases b <;> decide +kernel⟩
theorem good_non : Good 0 1921 .non := ⟨rfl, Nat.le_refl _, rfl, by decide +kernel⟩
section
variable {k b m : Nat} {ds : List D}
theorem good_all (h : ∀ d ∈ ds, Good k b d) : PyData.canLayAll0 (pys ds) = true ∧ PyData.depthAll (pys ds) ≤ k ∧ PyData.showableAll (pys ds) = true ∧ piled (PyData.shownAll (pys ds)) ≤ (b + 2) * ds.length ∧ (PyData.shownAll (pys ds)).length = ds.length := by
  induction ds with
  | nil => exact ⟨rfl, Nat.zero_le _, rfl, by simp [pys, PyData.shownAll, piled], rfl⟩
  | cons d ds ih =>
    obtain ⟨i1, i2, i3, i4, i5⟩ := ih fun e he => h e (by simp [he])
    have g := h d (by simp)
    refine ⟨by simp [pys, PyData.canLayAll0, g.lay, i1], by simp only [pys, PyData.depthAll]; exact Nat.max_le.mpr ⟨g.dep, i2⟩, by simp [pys, PyData.showableAll, g.sho, i3], ?_, by simp [pys, PyData.shownAll, i5]⟩
    simp only [pys, PyData.shownAll, piled_cons, List.length_cons, Nat.mul_add]
    have := g.len
    omega
theorem good_tup (h : ∀ d ∈ ds, Good k b d) (hm : ds.length ≤ m) : Good (k + 1) ((b + 2) * m + 3) (.tup ds) := by
  obtain ⟨i1, i2, i3, i4, i5⟩ := good_all h
  refine ⟨by simpa [py, PyData.canLay0] using i1, by simp only [py, PyData.depth]; omega, by simpa [py, PyData.showable] using i3, ?_⟩
  have hb : (b + 2) * ds.length ≤ (b + 2) * m := Nat.mul_le_mul_left _ hm
  simp only [py, PyData.shown, tupleText, strLen_append]
  have e1 : ((("(" : String) : Str)).length = 1 := by decide +kernel
  have e2 : ((if (PyData.shownAll (pys ds)).length == 1 then ",)" else ")" : String) : Str).length ≤ 2 := by split <;> decide +kernel
  have e3 : (Str.join ", " (PyData.shownAll (pys ds))).length ≤ piled (PyData.shownAll (pys ds)) := by
    cases hs : PyData.shownAll (pys ds) with
    | nil => decide +kernel
    | cons x l => have := join_length_add (x :: l) (by simp); omega
  omega
theorem good_lst (h : ∀ d ∈ ds, Good k b d) (hm : ds.length ≤ m) : Good (k + 1) ((b + 2) * m + 3) (.lst ds) := by
  obtain ⟨i1, i2, i3, i4, i5⟩ := good_all h
  refine ⟨by simpa [py, PyData.canLay0] using i1, by simp only [py, PyData.depth]; omega, by simpa [py, PyData.showable] using i3, ?_⟩
  have hb : (b + 2) * ds.length ≤ (b + 2) * m := Nat.mul_le_mul_left _ hm
  have gen : ∀ (ts : List Str) (q : Nat) (acc : Str), (textFrom q acc ts).length ≤ acc.length + piled ts := by
    intro ts
    induction ts with
    | nil => intro q acc; simp [textFrom, piled]
    | cons t ts ih =>
      intro q acc
      refine Nat.le_trans (ih _ _) ?_
      rw [strLen_append, strLen_append, piled_cons]
      have : ((if q > 0 then ", " else "" : String) : Str).length ≤ 2 := by split <;> decide +kernel
      omega
  have := gen (PyData.shownAll (pys ds)) 0 ("[" : Str)
  simp only [py, PyData.shown, listText, strLen_append]
  have e1 : ((("[" : String) : Str)).length = 1 := by decide +kernel
  have e2 : ((("]" : String) : Str)).length = 1 := by decide +kernel
  omega
theorem Good.shaped {d : D} (g : Good k b d) (h : k ≤ 64) : SeqAt.shaped (py d) = true := by simp [SeqAt.shaped, g.lay]; exact Nat.le_trans g.dep h
theorem Good.repr {d : D} {o : Objs} (g : Good k b d) (h : k < 60) (hb : b ≤ 16777216) : reprW (.v d) o = .ok (.v (.str (py d).shown)) o := by
  have h3 : (py d).depth < 60 := Nat.lt_of_le_of_lt g.dep h
  have h4 : (py d).shown.length ≤ sizeLine := by rw [sizeLine_eq]; exact Nat.le_trans g.len hb
  simp only [reprW, pyW, g.lay, g.sho, h3, h4, and_self, if_true]
end
end RR

set_option maxHeartbeats 4000000
namespace RR
open PySem PySem.Spec PyProof.Rows L2
def di (v : Nat) : D := .int (v : Int)
/-! ### the signs -/
theorem abc : ("abcdefgh" : Str) = rowS [0, 1, 2, 3, 4, 5, 6, 7] := by decide +kernel
theorem abc_len : ("abcdefgh" : Str).length ≤ sizeLine := by decide +kernel
theorem ix_abc {o : Objs} {d : Nat} (h : d < 8) : ixW (.v (.str "abcdefgh")) (.v (.int (d : Int))) o = .ok (.v (.str (rowS [d]))) o := by
  refine ix_s _ d (97 + d) abc_len ?_
  rw [abc, rowS_list]
  match d, h with
  | 0, _ => rfl
  | 1, _ => rfl
  | 2, _ => rfl
  | 3, _ => rfl
  | 4, _ => rfl
  | 5, _ => rfl
  | 6, _ => rfl
  | 7, _ => rfl
theorem occ_abc {d : Nat} (h : d < 8) : Builtin.Str.occurrences ("abcdefgh" : Str) (rowS [d]) 0 ("abcdefgh" : Str).length 1 = [d] := by
  match d, h with
  | 0, _ => decide +kernel
  | 1, _ => decide +kernel
  | 2, _ => decide +kernel
  | 3, _ => decide +kernel
  | 4, _ => decide +kernel
  | 5, _ => decide +kernel
  | 6, _ => decide +kernel
  | 7, _ => decide +kernel
theorem idx_abc {o : Objs} {d : Nat} (h : d < 8) : idxS (.v (.str "abcdefgh")) [.v (.str (rowS [d]))] o = .ok (.v (.int (d : Int))) o := by
  simp only [idxS, occ_abc h]
theorem row_signs (ds : List Nat) : (rowS ds).cps.toList.map (fun c => D.str ⟨#[c]⟩) = ds.map fun d => D.str (rowS [d]) := by
  simp [rowS_list, rowS]
@[simp] theorem iter_row {o : Objs} (ds : List Nat) : iterW o (.v (.str (rowS ds))) = .ok (ds.map fun d => D.str (rowS [d])) o := by
  rw [iter_s, row_signs]
@[simp] theorem mty_s {o : Objs} (x : Str) : mtyOk "str" o (.v (.str x)) = true := rfl
theorem mty_o {o : Objs} {i : Nat} {b : Bool} {xs : List D} (h : o[i]? = some ⟨b, .lst xs⟩) : mtyOk "list" o (.o i) = true := by simp [mtyOk, h]
theorem cut_abc {m : Nat} (h : m ≤ 8) : cutS ("abcdefgh" : Str) none (some (m : Int)) = rowS (List.range m) := by
  match m, h with
  | 0, _ => decide +kernel
  | 1, _ => decide +kernel
  | 2, _ => decide +kernel
  | 3, _ => decide +kernel
  | 4, _ => decide +kernel
  | 5, _ => decide +kernel
  | 6, _ => decide +kernel
  | 7, _ => decide +kernel
  | 8, _ => decide +kernel
theorem sl_abc {o : Objs} {m : Nat} (h : m ≤ 8) : slW false (.v (.str "abcdefgh")) none (some (m : Int)) o = .ok (.v (.str (rowS (List.range m)))) o := by
  simp only [slW, abc_len, if_true, cut_abc h]
theorem cut_ab3 {m : Nat} (h : m ≤ 3) : cutS ("abc" : Str) none (some (m : Int)) = rowS (List.range m) := by
  match m, h with
  | 0, _ => decide +kernel
  | 1, _ => decide +kernel
  | 2, _ => decide +kernel
  | 3, _ => decide +kernel
theorem sl_ab3 {o : Objs} {m : Nat} (h : m ≤ 3) : slW false (.v (.str "abc")) none (some (m : Int)) o = .ok (.v (.str (rowS (List.range m)))) o := by
  have : ("abc" : Str).length ≤ sizeLine := by decide +kernel
  simp only [slW, this, if_true, cut_ab3 h]
theorem in_row {o : Objs} {d m : Nat} : inW (.v (.str (rowS [d]))) (.v (.str (rowS (List.range m)))) o = .ok (.v (.bl (decide (d < m)))) o := by
  have h1 : (rowS [d]).cps.size = 1 := rfl
  have h2 : (rowS [d]).cps.toList.headD 0 = 97 + d := rfl
  simp only [inW, inOf, h1, if_true]
  rw [h2, rowS_list]
  congr 4
  refine propext ?_
  rw [List.mem_map]
  constructor
  · rintro ⟨a, ha, e⟩; simp at ha; omega
  · intro h; exact ⟨d, by simpa using h, rfl⟩
theorem row_size {ds : List Nat} (h : ds.length ≤ 200) : ds.length ≤ sizeLine := by unfold sizeLine; omega
theorem len_row {o : Objs} (ds : List Nat) (h : ds.length ≤ 200) : lenW (.v (.str (rowS ds))) o = .ok (.v (.int ds.length)) o := by
  rw [len_s _ (by rw [rowS_len]; exact row_size h), rowS_len]
theorem signs_of {rs : List D} {m : Nat} (h : ∀ r ∈ rs, ∃ x, x < m ∧ r = .str (rowS [x])) : ∃ ds : List Nat, rs = (ds.map fun d => rowS [d]).map D.str ∧ ∀ d ∈ ds, d < m := by
  induction rs with
  | nil => exact ⟨[], rfl, by simp⟩
  | cons r rs ih =>
    obtain ⟨ds, e, hd⟩ := ih fun r hr => h r (by simp [hr])
    obtain ⟨x, hx, rfl⟩ := h r (by simp)
    exact ⟨x :: ds, by simp [e], by simpa using ⟨hx, hd⟩⟩
theorem join_signs (ds : List Nat) : Txt.join ("" : Str) (ds.map fun d => rowS [d]) = rowS ds := by
  rw [TL.join_eq]
  induction ds with
  | nil => rfl
  | cons d ds ih =>
    cases ds with
    | nil => simp [Str.join]
    | cons e ds =>
      simp only [List.map_cons, Str.join] at ih ⊢
      rw [ih, ← rowS_nil]
      simp
theorem t_join (ds : List Nat) (hl : ds.length ≤ 200) {o : Objs} : joinS (.v (.str "")) [.v (.lst ((ds.map fun d => rowS [d]).map D.str))] o = .ok (.v (.str (rowS ds))) o := by
  have h0 : ("" : Str).length = 0 := by decide +kernel
  have hs : ((ds.map fun d => rowS [d]).map (·.length)).sum = ds.length := by
    clear hl
    induction ds with
    | nil => rfl
    | cons d ds ih => simp only [List.map_cons, List.sum_cons, ih, List.length_cons, rowS_len, List.length_nil]; omega
  have hb : ((ds.map fun d => rowS [d]).map (·.length)).sum + (ds.map fun d => rowS [d]).length * ("" : Str).length ≤ 16777216 := by
    rw [hs, h0]; omega
  simp only [joinS, seqW, strsD_map, hb, if_true, join_signs]
/-! ### the barrel -/
section
variable {f s c x : Int} {r : Objs}
@[simp] theorem br_0 : ixW (.o 0) (.v (.int 0)) (br f s c :: r) = .ok (.v (.int f)) (br f s c :: r) := id rfl
@[simp] theorem br_1 : ixW (.o 0) (.v (.int 1)) (br f s c :: r) = .ok (.v (.int s)) (br f s c :: r) := id rfl
@[simp] theorem br_2 : ixW (.o 0) (.v (.int 2)) (br f s c :: r) = .ok (.v (.int c)) (br f s c :: r) := id rfl
@[simp] theorem bi_0 : ixX (.o 0) (.v (.int 0)) (br f s c :: r) = .ok (.v (.int f)) (br f s c :: r) := id rfl
@[simp] theorem bi_1 : ixX (.o 0) (.v (.int 1)) (br f s c :: r) = .ok (.v (.int s)) (br f s c :: r) := id rfl
@[simp] theorem bi_2 : ixX (.o 0) (.v (.int 2)) (br f s c :: r) = .ok (.v (.int c)) (br f s c :: r) := id rfl
@[simp] theorem bx_0 : setX (.o 0) (.v (.int 0)) (.v (.int x)) (br f s c :: r) = .ok () (br x s c :: r) := id rfl
@[simp] theorem bx_1 : setX (.o 0) (.v (.int 1)) (.v (.int x)) (br f s c :: r) = .ok () (br f x c :: r) := id rfl
@[simp] theorem bx_2 : setX (.o 0) (.v (.int 2)) (.v (.int x)) (br f s c :: r) = .ok () (br f s x :: r) := id rfl
@[simp] theorem bs_0 : setW (.o 0) (.v (.int 0)) (.v (.int x)) (br f s c :: r) = .ok () (br x s c :: r) := id rfl
@[simp] theorem bs_1 : setW (.o 0) (.v (.int 1)) (.v (.int x)) (br f s c :: r) = .ok () (br f x c :: r) := id rfl
@[simp] theorem bs_2 : setW (.o 0) (.v (.int 2)) (.v (.int x)) (br f s c :: r) = .ok () (br f s x :: r) := id rfl
end
theorem mulL (k : Int) (h : -(2 ^ 64) < k ∧ k < 2 ^ 64) (j : Int) {o : Objs} : mulW (.v (.int k)) (.v (.int j)) o = .ok (.v (.int (k * j))) o := mul_ii k j (.inl h)
theorem mulR (k : Int) (h : -(2 ^ 64) < k ∧ k < 2 ^ 64) (j : Int) {o : Objs} : mulW (.v (.int j)) (.v (.int k)) o = .ok (.v (.int (j * k))) o := mul_ii j k (.inr h)
theorem modC (k : Int) (h : 0 < k) (j : Int) {o : Objs} : modW (.v (.int j)) (.v (.int k)) o = .ok (.v (.int (j % k))) o := mod_ii j k h
/-- a draw's end: a rest -/
theorem rest_is {top : Nat} (h : 0 < top) (z : Int) : ∃ r : Nat, D.int (z % (top : Int)) = di r ∧ r < top := ⟨(z % (top : Int)).toNat, by
  have := Int.emod_nonneg z (show (top : Int) ≠ 0 by omega)
  unfold di; congr 1; omega, by
  have := Int.emod_lt_of_pos z (show (0 : Int) < top by omega); have := Int.emod_nonneg z (show (top : Int) ≠ 0 by omega); omega⟩
theorem mod64 (k : Int) (h : 0 < k ∧ k < 2 ^ 64) (z : Int) : -(2 ^ 64) < z % k ∧ z % k < 2 ^ 64 := by
  have := Int.emod_nonneg z (show k ≠ 0 by omega); have := Int.emod_lt_of_pos z h.1; omega
theorem ix_c (xs : List D) (i : Nat) (d : D) (h : xs[i]? = some d) {o : Objs} : ixW (.v (.scr xs)) (.v (.int (i : Int))) o = .ok (.v d) o := by
  obtain ⟨h1, h2⟩ := List.getElem?_eq_some_iff.mp h
  have h3 : (i : Int) < xs.length := by omega
  simp [ixW, seqW, atI, ixN, h3, h]
theorem cutD_map (ns : List Int) (a b : Option Int) : ∃ ms : List Int, RR.cutD (ns.map D.int) a b = ms.map D.int ∧ ms.length ≤ ns.length := by
  refine ⟨(ns.drop (HT.sIx ns.length 0 a)).take (HT.sIx ns.length ns.length b - HT.sIx ns.length 0 a), ?_, ?_⟩
  · simp [RR.cutD, List.map_take, List.map_drop]
  · simp; omega
theorem range_snoc {α : Type} (f : Nat → α) (i : Nat) : (List.range (i + 1)).map f = (List.range i).map f ++ [f i] := by rw [List.range_succ]; simp
/-- the law's turns: how many -/
theorem turns (k lo hi : Nat) (h : lo ≤ hi) : ∃ q : Nat, lo ≤ q ∧ q ≤ hi ∧ ∃ z : Int, (∀ o : Objs, minW [.v (.int (k : Int)), .v (.int (hi : Int))] o = .ok (.v (.int z)) o) ∧ ∀ o : Objs, maxW [.v (.int (lo : Int)), .v (.int z)] o = .ok (.v (.int (q : Int))) o := by
  by_cases h5 : (hi : Int) < k
  · by_cases h2 : (lo : Int) < hi
    · exact ⟨hi, h, Nat.le_refl _, hi, fun o => by simp [minW, h5], fun o => by simp [maxW, h2]⟩
    · exact ⟨lo, Nat.le_refl _, h, hi, fun o => by simp [minW, h5], fun o => by simp [maxW, h2]⟩
  · by_cases h2 : (lo : Int) < k
    · exact ⟨k, by omega, by omega, k, fun o => by simp [minW, h5], fun o => by simp [maxW, h2]⟩
    · exact ⟨lo, Nat.le_refl _, h, k, fun o => by simp [minW, h5], fun o => by simp [maxW, h2]⟩
theorem all_true (rs : List D) (h : ∀ r ∈ rs, r = .bl true) {o : Objs} : allW (.v (.lst rs)) o = .ok (.v (.bl true)) o := by
  have hrs : rs = (rs.map fun _ => true).map D.bl := by
    rw [List.map_map]
    conv => lhs; rw [← List.map_id rs]
    exact List.map_congr_left fun r hr => by rw [h r hr]; rfl
  rw [hrs, all_l]; simp
end RR

set_option maxHeartbeats 4000000
namespace RR
open PySem PySem.Spec PyProof.Rows L2
/-! ### loops with break and return -/
theorem out_forB {f : D → MS} {xs : List D} {σ : Sl} {o : Objs} {Q : Fl → Objs → Prop} (I : Nat → Sl → Objs → Prop) (h0 : I 0 σ o)
    (hs : ∀ i d σ o, xs[i]? = some d → I i σ o → Out (f d σ o) fun fl o' => match fl with | .nx σ' => I (i + 1) σ' o' | .ct σ' => I (i + 1) σ' o' | .bk σ' => Q (.nx σ') o' | .rt w => Q (.rt w) o') (hq : ∀ σ o, I xs.length σ o → Q (.nx σ) o) : Out (forGo f xs σ o) Q := by
  have key : ∀ (ys : List D) (j : Nat) (σ : Sl) (o : Objs), (∀ i d, ys[i]? = some d → xs[j + i]? = some d) → j + ys.length = xs.length → I j σ o → Out (forGo f ys σ o) Q := by
    intro ys
    induction ys with
    | nil => intro j σ o _ hl hi; rw [e_forN, out_ok]; exact hq σ o (by simpa [← hl] using hi)
    | cons y ys ih =>
      intro j σ o hy hl hi
      obtain ⟨fl, o1, e1, c1⟩ := out_inv (hs j y σ o (by simpa using hy 0 y rfl) hi)
      have go : ∀ σ1, I (j + 1) σ1 o1 → Out (forGo f ys σ1 o1) Q := fun σ1 i1 => ih (j + 1) σ1 o1 (fun i d e => by have := hy (i + 1) d (by simpa using e); rw [show j + 1 + i = j + (i + 1) by omega]; exact this) (by simp at hl; omega) i1
      cases fl with
      | nx σ1 => simpa [forGo, e1] using go σ1 c1
      | ct σ1 => simpa [forGo, e1] using go σ1 c1
      | bk σ1 => simpa [forGo, e1] using c1
      | rt w => simpa [forGo, e1] using c1
  exact key xs 0 σ o (fun i d e => by simpa using e) (by simp) h0
theorem out_whileB {c : MB} {b : MS} {n : Nat} {σ : Sl} {o : Objs} {Q : Fl → Objs → Prop} (m : Nat) (I : Nat → Sl → Objs → Prop) (hn : m < n) (h0 : I m σ o)
    (hs : ∀ m σ o, I m σ o → Out (c σ o) fun k o => if k = true then 0 < m ∧ Out (b σ o) fun fl o => match fl with | .nx σ' => I (m - 1) σ' o | .ct σ' => I (m - 1) σ' o | .bk σ' => Q (.nx σ') o | .rt w => Q (.rt w) o else Q (.nx σ) o) : Out (whileGo c b n σ o) Q := by
  induction m generalizing n σ o with
  | zero =>
    cases n with
    | zero => omega
    | succ n =>
      obtain ⟨k, o1, e1, q⟩ := out_inv (hs 0 σ o h0)
      cases k with
      | false => simpa [whileGo, e1] using q
      | true => simp at q
  | succ m ih =>
    cases n with
    | zero => omega
    | succ n =>
      obtain ⟨k, o1, e1, q⟩ := out_inv (hs (m + 1) σ o h0)
      cases k with
      | false => simpa [whileGo, e1] using q
      | true =>
        simp only [if_true] at q
        obtain ⟨fl, o2, e2, q⟩ := out_inv q.2
        cases fl with
        | nx σ1 => simpa [whileGo, e1, e2] using ih (n := n) (by omega) q
        | ct σ1 => simpa [whileGo, e1, e2] using ih (n := n) (by omega) q
        | bk σ1 => simpa [whileGo, e1, e2] using q
        | rt w => simpa [whileGo, e1, e2] using q
/-- two clauses, whose turns change nothing -/
theorem out_lc2 {α β : Type} {turn : D → List W → Objs → R (List W)} {o : Objs} {Q : List W → Objs → Prop} {g : α → D} {l : List α} (f : α → List D) (h : ∀ a ∈ l, ∀ acc : List W, acc.length ≤ (l.map fun a => (f a).length).sum → Out (turn (g a) acc o) fun r o' => r = acc ++ (f a).map W.v ∧ o' = o)
    (q : Q ((l.flatMap f).map W.v) o) : Out (lcGo2 turn (l.map g) [] o) Q := by
  have key : ∀ (l' : List α) (acc : List W), (∀ a ∈ l', a ∈ l) → acc.length + (l'.map fun a => (f a).length).sum ≤ (l.map fun a => (f a).length).sum → lcGo2 turn (l'.map g) acc o = .ok (acc ++ (l'.flatMap f).map W.v) o := by
    intro l'
    induction l' with
    | nil => intro acc _ _; simp [lcGo2]
    | cons a l' ih =>
      intro acc hm hs
      simp only [List.map_cons, List.sum_cons] at hs
      have e := out_eq (h a (hm a (by simp)) acc (by omega))
      simp only [List.map_cons, lcGo2, e, R.bind_ok]
      rw [ih _ (fun b hb => hm b (by simp [hb])) (by simp; omega)]
      simp
  rw [key l [] (fun _ h => h) (by simp), out_ok]
  simpa using q
theorem lc_mapA {turn : D → Objs → R (Option W)} {o : Objs} {α : Type} {g : α → D} {l : List α} {acc : List W} {Q : List W → Objs → Prop} (f : α → D) (hl : acc.length + l.length ≤ sizeLine) (h : ∀ a ∈ l, Out (turn (g a) o) fun r o' => r = some (.v (f a)) ∧ o' = o) (q : Q (acc ++ (l.map f).map W.v) o) : Out (lcGo turn (l.map g) acc o) Q := by
  have key : ∀ (l : List α) (acc : List W), acc.length + l.length ≤ sizeLine → (∀ a ∈ l, Out (turn (g a) o) fun r o' => r = some (.v (f a)) ∧ o' = o) → lcGo turn (l.map g) acc o = .ok (acc ++ (l.map f).map W.v) o := by
    intro l
    induction l with
    | nil => intro acc _ _; simp
    | cons a l ih =>
      intro acc hl h
      simp only [List.length_cons] at hl
      have hlt : acc.length < sizeLine := by omega
      have e := out_eq (h a (by simp))
      simp only [List.map_cons, lcGo, e, R.bind_ok, hlt, if_true]
      rw [ih (acc ++ [W.v (f a)]) (by simp; omega) (fun d hd => h d (by simp [hd]))]
      simp
  rw [key l acc hl h, out_ok]
  exact q
section
variable {σ : Sl} {o : Objs}
@[simp] theorem e_Lc2 (mu : Bool) (mi : MI) (T : Tg) (own : List Nat) (c : MB) (mi1 : MI) (T1 : Tg) (own1 : List Nat) (c1 : MB) (e : ME) : mLc2 mu mi T own c mi1 T1 own1 c1 e σ o = (mi σ o).bind fun xs o => (lcGo2 (lc2Turn T own c mi1 T1 own1 c1 e σ) xs [] o).bind fun ws o => lstMk mu ws o := id rfl
@[simp] theorem e_lc2Turn (T : Tg) (own : List Nat) (c : MB) (mi1 : MI) (T1 : Tg) (own1 : List Nat) (c1 : MB) (e : ME) (d : D) (acc : List W) : lc2Turn T own c mi1 T1 own1 c1 e σ d acc o = (mTg T (.v d) (wipeD σ own) o).bind fun σ o => (c σ o).bind fun k o => if k = true then (mi1 σ o).bind fun ys o => lcGo (lcTurn T1 own1 c1 e σ) ys acc o else .ok acc o := id rfl
def enumM (ws : List W) (o : Objs) : R (List D) := match ws with
  | [a] => match kdW o a with
    | some (_, xs, o1) => .ok (enumD xs) o1
    | none => .stuck
  | _ => .stuck
@[simp] theorem e_Enum (l : ML) : mEnum l σ o = (l σ o).bind enumM := id rfl
@[simp] theorem enum_t (xs : List D) : enumM [.v (.tup xs)] o = .ok (enumD xs) o := id rfl
@[simp] theorem enum_l (xs : List D) : enumM [.v (.lst xs)] o = .ok (enumD xs) o := id rfl
theorem enum_map {α : Type} (f : Nat → D) (n : Nat) : enumD ((List.range n).map f) = (List.range n).map fun j => D.tup [di j, f j] := by
  apply List.ext_getElem (by simp [enumD])
  intro i h1 h2
  simp [enumD, di]
@[simp] theorem is_n : isW (.v .non) (.v .non) o = .ok (.v (.bl true)) o := id rfl
@[simp] theorem is_i (i : Int) : isW (.v (.int i)) (.v .non) o = .ok (.v (.bl false)) o := id rfl
@[simp] theorem is_s (i : Str) : isW (.v (.str i)) (.v .non) o = .ok (.v (.bl false)) o := id rfl
@[simp] theorem isn_n : isnW (.v .non) (.v .non) o = .ok (.v (.bl false)) o := id rfl
@[simp] theorem isn_i (i : Int) : isnW (.v (.int i)) (.v .non) o = .ok (.v (.bl true)) o := id rfl
@[simp] theorem isn_s (i : Str) : isnW (.v (.str i)) (.v .non) o = .ok (.v (.bl true)) o := id rfl
@[simp] theorem int_b (k : Bool) : intW (.v (.bl k)) o = .ok (.v (.int (if k then 1 else 0))) o := id rfl
end
/-! ### readers, plainly -/
abbrev Arr := Nat → Nat → Option Nat
def gD : Option Nat → D
  | none => .non
  | some k => di k
@[simp] theorem gD_n : gD none = .non := id rfl
@[simp] theorem gD_s (k : Nat) : gD (some k) = .int (k : Int) := id rfl
def arD (n w : Nat) (A : Arr) : D := .tup ((List.range n).map fun k => .tup ((List.range w).map fun j => gD (A k j)))
def enD (E : List Nat) : D := .tup (E.map di)
structure RdOk (w n : Nat) (A : Arr) (E : List Nat) : Prop where
  w1 : 1 ≤ w
  w8 : w ≤ 8
  n1 : 1 ≤ n
  n2 : n ≤ 200
  go : ∀ k j g, A k j = some g → g < n
  en : ∀ e ∈ E, e < n
  asc : E.Pairwise (· < ·)
def stepA (A : Arr) (s : Option Nat) (d : Nat) : Option Nat := s.bind fun k => A k d
def runA (A : Arr) (s : Option Nat) (ds : List Nat) : Option Nat := ds.foldl (stepA A) s
theorem runA_none (A : Arr) (ds : List Nat) : runA A none ds = none := by
  induction ds with
  | nil => rfl
  | cons d ds ih => exact ih
theorem runA_cons (A : Arr) (s : Nat) (d : Nat) (ds : List Nat) : runA A (some s) (d :: ds) = runA A (A s d) ds := rfl
theorem runA_snoc (A : Arr) (s : Option Nat) (ds : List Nat) (d : Nat) : runA A s (ds ++ [d]) = stepA A (runA A s ds) d := by simp [runA]
theorem runA_app (A : Arr) (s : Option Nat) (a b : List Nat) : runA A s (a ++ b) = runA A (runA A s a) b := by simp [runA]
theorem runA_lt {w n : Nat} {A : Arr} {E : List Nat} (h : RdOk w n A E) (ds : List Nat) (s : Option Nat) (hs : ∀ k, s = some k → k < n) : ∀ k, runA A s ds = some k → k < n := by
  induction ds generalizing s with
  | nil => exact hs
  | cons d ds ih =>
    refine ih _ fun k e => ?_
    cases s with
    | none => cases e
    | some q => exact h.go q d k e
/-- whether a row leads from a stand to an end -/
def yesA (A : Arr) (E : List Nat) (s : Option Nat) (ds : List Nat) : Bool := match runA A s ds with
  | some k => E.contains k
  | none => false
/-- all rows of a length, in their order -/
def lay (w : Nat) : Nat → List (List Nat)
  | 0 => [[]]
  | l + 1 => (lay w l).flatMap fun r => (List.range w).map fun d => r ++ [d]
def found (w : Nat) : Nat → List (List Nat)
  | 0 => [[]]
  | l + 1 => found w l ++ lay w (l + 1)
theorem lay_mem {s l : Nat} {r : List Nat} (h : r ∈ lay s l) : r.length = l ∧ ∀ d ∈ r, d < s := by
  induction l generalizing r with
  | zero => simp [lay] at h; subst h; simp
  | succ l ih =>
    simp only [lay, List.mem_flatMap, List.mem_map, List.mem_range] at h
    obtain ⟨r', h1, d, h2, rfl⟩ := h
    obtain ⟨i1, i2⟩ := ih h1
    refine ⟨by simp [i1], fun e he => ?_⟩
    rcases List.mem_append.mp he with he | he
    · exact i2 e he
    · simp at he; omega
theorem sum_const {α : Type} (l : List α) (s : Nat) : (l.map fun _ => s).sum = l.length * s := by
  induction l with
  | nil => simp
  | cons a l ih => simp only [List.map_cons, List.sum_cons, ih, List.length_cons, Nat.add_mul]; omega
theorem lay_len (s l : Nat) : (lay s l).length = s ^ l := by
  induction l with
  | zero => rfl
  | succ l ih =>
    simp only [lay, List.length_flatMap, List.length_map, List.length_range]
    rw [sum_const, ih, Nat.pow_succ]
theorem found_mem {s l : Nat} {r : List Nat} (h : r ∈ found s l) : r.length ≤ l ∧ ∀ d ∈ r, d < s := by
  induction l with
  | zero => simp [found] at h; subst h; simp
  | succ l ih =>
    rcases List.mem_append.mp h with h | h
    · exact ⟨by have := (ih h).1; omega, (ih h).2⟩
    · exact ⟨by have := (lay_mem h).1; omega, (lay_mem h).2⟩
theorem found_filter {s : Nat} (k l : Nat) : (found s k).filter (fun r => r.length == l) = if l ≤ k then lay s l else [] := by
  have hl : ∀ i : Nat, (lay s i).filter (fun r => r.length == l) = if i = l then lay s i else [] := fun i => by
    split
    · rename_i h
      rw [List.filter_eq_self]
      intro r hr
      rw [(lay_mem hr).1]; simpa using h
    · rename_i h
      rw [List.filter_eq_nil_iff]
      intro r hr
      rw [(lay_mem hr).1]; simpa using h
  induction k with
  | zero =>
    have e := hl 0
    simp only [lay] at e
    simp only [found, e]
    by_cases h : l = 0
    · subst h; simp [lay]
    · rw [if_neg (by omega), if_neg (by omega)]
  | succ k ih =>
    simp only [found, List.filter_append, ih, hl]
    by_cases h : l ≤ k
    · rw [if_pos h, if_neg (by omega), if_pos (by omega)]; simp
    · by_cases h2 : k + 1 = l
      · rw [if_neg h, if_pos h2, if_pos (by omega), ← h2]; simp
      · rw [if_neg h, if_neg h2, if_neg (by omega)]; simp
theorem lay_front (w l : Nat) : lay w (l + 1) = (List.range w).flatMap fun j => (lay w l).map (j :: ·) := by
  induction l with
  | zero =>
    simp only [lay, List.flatMap_cons, List.flatMap_nil, List.append_nil, List.nil_append, List.map_cons, List.map_nil]
    induction List.range w with
    | nil => rfl
    | cons a t ih => simp [ih]
  | succ l ih =>
    have e : lay w (l + 1 + 1) = (lay w (l + 1)).flatMap fun r => (List.range w).map fun d => r ++ [d] := rfl
    have e2 : lay w (l + 1) = (lay w l).flatMap fun r => (List.range w).map fun d => r ++ [d] := rfl
    rw [e, ih]
    simp only [List.flatMap_assoc, List.flatMap_map]
    congr 1; funext j
    rw [← ih, e2, List.map_flatMap]
    congr 1; funext r
    simp
/-- the yes rows of a length from a stand -/
def yl (w : Nat) (A : Arr) (E : List Nat) : Nat → Nat → List (List Nat)
  | 0, s => if E.contains s then [[]] else []
  | l + 1, s => (List.range w).flatMap fun j => match A s j with
    | some g => (yl w A E l g).map (j :: ·)
    | none => []
theorem yl_filter (w : Nat) (A : Arr) (E : List Nat) (l s : Nat) : (lay w l).filter (yesA A E (some s)) = yl w A E l s := by
  induction l generalizing s with
  | zero =>
    simp only [lay, yl, yesA, List.filter_cons, List.filter_nil, runA, List.foldl_nil]
    split <;> simp_all
  | succ l ih =>
    rw [lay_front, List.filter_flatMap, yl]
    congr 1; funext j
    rw [List.filter_map]
    cases h : A s j with
    | none =>
      have : (yesA A E (some s) ∘ (j :: ·)) = fun _ => false := by
        funext r
        simp [yesA, runA_cons, h, runA_none]
      rw [this]; simp
    | some g =>
      have : (yesA A E (some s) ∘ (j :: ·)) = yesA A E (some g) := by
        funext r
        simp [yesA, runA_cons, h]
      rw [this, ih]
/-- how many -/
def cnt (w : Nat) (A : Arr) (E : List Nat) : Nat → Nat → Nat
  | 0, s => if E.contains s then 1 else 0
  | l + 1, s => ((List.range w).map fun j => match A s j with | some g => cnt w A E l g | none => 0).sum
theorem yl_len (w : Nat) (A : Arr) (E : List Nat) (l s : Nat) : (yl w A E l s).length = cnt w A E l s := by
  induction l generalizing s with
  | zero => simp only [yl, cnt]; split <;> rfl
  | succ l ih =>
    rw [yl, cnt, List.length_flatMap]
    congr 2
    funext j
    cases A s j with
    | none => rfl
    | some g => simp [ih]
theorem cnt_le (w : Nat) (A : Arr) (E : List Nat) (l s : Nat) : cnt w A E l s ≤ w ^ l := by
  rw [← yl_len, ← yl_filter, ← lay_len]
  exact List.length_filter_le _ _
end RR

set_option maxHeartbeats 4000000
namespace RR
open PySem PySem.Spec PyProof.Rows L2
/-! ### dicts of numbers, all true: sets -/
def tru (ks : List Nat) : List D := ks.map fun _ => .bl true
def dD (ks : List Nat) : D := .dic (ks.map di) (tru ks)
def dOb (ks : List Nat) : Ent := ⟨true, .dic (ks.map di) (tru ks)⟩
/-- put into a set -/
def ins (ks : List Nat) (k : Nat) : List Nat := if k ∈ ks then ks else ks ++ [k]
theorem mem_ins {ks : List Nat} {k x : Nat} : x ∈ ins ks k ↔ x ∈ ks ∨ x = k := by
  unfold ins
  split
  · rename_i h
    exact ⟨.inl, fun z => z.elim id (fun e => e ▸ h)⟩
  · simp
theorem ins_nodup {ks : List Nat} {k : Nat} (h : ks.Nodup) : (ins ks k).Nodup := by
  unfold ins
  split
  · exact h
  · rename_i hk
    rw [List.nodup_append]
    refine ⟨h, by simp, fun a ha b hb => ?_⟩
    simp at hb; subst hb
    exact fun e => hk (e ▸ ha)
def insAll (ks : List Nat) (l : List Nat) : List Nat := l.foldl ins ks
theorem mem_insAll {l ks : List Nat} {x : Nat} : x ∈ insAll ks l ↔ x ∈ ks ∨ x ∈ l := by
  induction l generalizing ks with
  | nil => simp [insAll]
  | cons a l ih =>
    have : insAll ks (a :: l) = insAll (ins ks a) l := rfl
    rw [this, ih, mem_ins, List.mem_cons, or_assoc]
theorem insAll_nodup {l ks : List Nat} (h : ks.Nodup) : (insAll ks l).Nodup := by
  induction l generalizing ks with
  | nil => exact h
  | cons a l ih => exact ih (ins_nodup h)
theorem insAll_app (ks l m : List Nat) : insAll ks (l ++ m) = insAll (insAll ks l) m := by simp [insAll]
theorem insAll_len {l ks : List Nat} : (insAll ks l).length ≤ ks.length + l.length := by
  induction l generalizing ks with
  | nil => simp [insAll]
  | cons a l ih =>
    have e : insAll ks (a :: l) = insAll (ins ks a) l := rfl
    have := ih (ks := ins ks a)
    have h2 : (ins ks a).length ≤ ks.length + 1 := by unfold ins; split <;> simp
    rw [e]; simp; omega
theorem insAll_id : ∀ {l ks : List Nat}, (ks ++ l).Nodup → insAll ks l = ks ++ l
  | [], ks, _ => by simp [insAll]
  | a :: l, ks, h => by
    have e : insAll ks (a :: l) = insAll (ins ks a) l := rfl
    have ha : a ∉ ks := fun z => by
      rw [List.nodup_append] at h
      exact h.2.2 a z a (by simp) rfl
    have e2 : ins ks a = ks ++ [a] := by simp [ins, ha]
    rw [e, e2, insAll_id (by simpa using h)]
    simp
theorem nodup_sub : ∀ {l m : List Nat}, l.Nodup → (∀ x ∈ l, x ∈ m) → l.length ≤ m.length
  | [], m, _, _ => by simp
  | a :: l, m, h, hs => by
    rw [List.nodup_cons] at h
    have ha := hs a (by simp)
    have := nodup_sub (m := m.erase a) h.2 (fun x hx => by
      have := hs x (by simp [hx])
      exact (List.mem_erase_of_ne (fun (e : x = a) => h.1 (e ▸ hx))).mpr this)
    rw [List.length_erase_of_mem ha] at this
    have := List.length_pos_of_mem ha
    simp; omega
theorem nodup_lt {l : List Nat} {n : Nat} (h : l.Nodup) (hs : ∀ x ∈ l, x < n) : l.length ≤ n := by
  have := nodup_sub (m := List.range n) h (fun x hx => by simpa using hs x hx)
  simpa using this
theorem keq_di (a b : Nat) : keq (di a) (di b) = decide (a = b) := by
  have : keq (di a) (di b) = ((a : Int) == (b : Int)) := rfl
  rw [this]
  by_cases h : a = b
  · subst h; simp
  · have h2 : ¬ ((a : Int) = (b : Int)) := by omega
    rw [beq_eq_false_iff_ne.mpr h2]; simp [h]
theorem dval_d (ks : List Nat) (k : Nat) : (dval (ks.map di) (tru ks) (.int (k : Int))).isSome = decide (k ∈ ks) := by
  induction ks with
  | nil => rfl
  | cons a ks ih =>
    have e : dval ((a :: ks).map di) (tru (a :: ks)) (.int (k : Int)) = if keq (di a) (di k) = true then some (.bl true) else dval (ks.map di) (tru ks) (.int (k : Int)) := rfl
    rw [e, keq_di]
    by_cases h : a = k
    · subst h; simp
    · have h2 : ¬ k = a := fun z => h z.symm
      simp only [h, decide_false, Bool.false_eq_true, if_false, ih, List.mem_cons, h2, false_or]
theorem any_d (ks : List Nat) (k : Nat) : ((ks.map di).any fun q => keq q (.int (k : Int))) = decide (k ∈ ks) := by
  induction ks with
  | nil => rfl
  | cons a ks ih =>
    have e : (((a :: ks).map di).any fun q => keq q (.int (k : Int))) = (keq (di a) (di k) || ((ks.map di).any fun q => keq q (.int (k : Int)))) := rfl
    rw [e, keq_di, ih]
    by_cases h : a = k
    · subst h; simp
    · have h2 : ¬ k = a := fun z => h z.symm
      simp [h, h2]
theorem dset_d (ks : List Nat) (k : D) : dset (ks.map di) (tru ks) k (.bl true) = tru ks := by
  induction ks with
  | nil => rfl
  | cons a ks ih =>
    have e : dset ((a :: ks).map di) (tru (a :: ks)) k (.bl true) = (if keq (di a) k = true then .bl true else .bl true) :: dset (ks.map di) (tru ks) k (.bl true) := rfl
    rw [e, ih]
    split <;> rfl
theorem dput_d (ks : List Nat) (k : Nat) : dput (ks.map di) (tru ks) (.int (k : Int)) (.bl true) = ((ins ks k).map di, tru (ins ks k)) := by
  unfold dput ins
  rw [any_d]
  by_cases h : k ∈ ks
  · simp [h, dset_d]
  · simp [h, tru, di]
section
variable {o : Objs} {σ : Sl}
@[simp] theorem in_dk (k : Nat) (ks : List Nat) : inX (.v (.int (k : Int))) (.v (dD ks)) o = .ok (.v (.bl (decide (k ∈ ks)))) o := by
  have : inX (.v (.int (k : Int))) (.v (dD ks)) o = .ok (.v (.bl (dval (ks.map di) (tru ks) (.int (k : Int))).isSome)) o := rfl
  rw [this, dval_d]
@[simp] theorem in_dn (ks : List Nat) : inX (.v .non) (.v (dD ks)) o = .ok (.v (.bl false)) o := id rfl
theorem in_g (g : Option Nat) (ks : List Nat) : inX (.v (gD g)) (.v (dD ks)) o = .ok (.v (.bl (match g with | some k => decide (k ∈ ks) | none => false))) o := by
  cases g with
  | none => exact in_dn ks
  | some k => exact in_dk k ks
theorem nin_ok {k j : Nat} {ks : List Nat} (h : o[j]? = some (dOb ks)) : ninX (.v (.int (k : Int))) (.o j) o = .ok (.v (.bl (!decide (k ∈ ks)))) o := by
  have : ninX (.v (.int (k : Int))) (.o j) o = .ok (.v (.bl (!(dval (ks.map di) (tru ks) (.int (k : Int))).isSome))) o := by
    simp only [ninX, dicW, h, dOb]; rfl
  rw [this, dval_d]
theorem set_ok {k j : Nat} {ks : List Nat} (h : o[j]? = some (dOb ks)) (hz : ks.length < sizeLine) : setX (.o j) (.v (.int (k : Int))) (.v (.bl true)) o = .ok () (o.set j (dOb (ins ks k))) := by
  have : setX (.o j) (.v (.int (k : Int))) (.v (.bl true)) o = .ok () (o.set j ⟨true, .dic (dput (ks.map di) (tru ks) (.int (k : Int)) (.bl true)).1 (dput (ks.map di) (tru ks) (.int (k : Int)) (.bl true)).2⟩) := by
    simp only [setX, h, dOb, keyOf, List.length_map, hz, if_true]
  rw [this, dput_d]; rfl
theorem list_d (ks : List Nat) (h : ks.length ≤ sizeLine) : listX false (.v (dD ks)) o = .ok (.v (.lst (ks.map di))) o := by
  simp [listX, dicW, dD, h]
theorem list_dm (ks : List Nat) (h : ks.length ≤ sizeLine) : listX true (.v (dD ks)) o = .ok (.o o.length) (o ++ [⟨true, .lst (ks.map di)⟩]) := by
  simp [listX, dicW, dD, h]
theorem list_lm (xs : List D) (h : xs.length ≤ sizeLine) : listX true (.v (.lst xs)) o = .ok (.o o.length) (o ++ [⟨true, .lst xs⟩]) := by
  simp [listX, dicW, listW, seqW, h]
@[simp] theorem e_Dc (mu : Bool) (mi : MI) (T : Tg) (own : List Nat) (c : MB) (ek ev : ME) : mDc mu mi T own c ek ev σ o = (mi σ o).bind fun xs o => (dcGo (dcTurn T own c ek ev σ) xs ([], []) o).bind fun acc o => dicMk mu acc o := id rfl
@[simp] theorem e_Dc2 (mu : Bool) (mi : MI) (T : Tg) (own : List Nat) (c : MB) (mi1 : MI) (T1 : Tg) (own1 : List Nat) (c1 : MB) (ek ev : ME) : mDc2 mu mi T own c mi1 T1 own1 c1 ek ev σ o = (mi σ o).bind fun xs o => (dcGo2 (dc2Turn T own c mi1 T1 own1 c1 ek ev σ) xs ([], []) o).bind fun acc o => dicMk mu acc o := id rfl
@[simp] theorem e_dcTurn (T : Tg) (own : List Nat) (c : MB) (ek ev : ME) (d : D) : dcTurn T own c ek ev σ d o = (mTg T (.v d) (wipeD σ own) o).bind fun σ o => (c σ o).bind fun k o => if k = true then (ek σ o).bind fun wk o => (ev σ o).bind fun wv o => match wk, wv with
    | .v k, .v v => .ok (some (k, v)) o
    | _, _ => .stuck else .ok none o := id rfl
@[simp] theorem e_dc2Turn (T : Tg) (own : List Nat) (c : MB) (mi1 : MI) (T1 : Tg) (own1 : List Nat) (c1 : MB) (ek ev : ME) (d : D) (acc : DA) : dc2Turn T own c mi1 T1 own1 c1 ek ev σ d acc o = (mTg T (.v d) (wipeD σ own) o).bind fun σ o => (c σ o).bind fun k o => if k = true then (mi1 σ o).bind fun ys o => dcGo (dcTurn T1 own1 c1 ek ev σ) ys acc o else .ok acc o := id rfl
@[simp] theorem dicMk_f (acc : DA) : dicMk false acc o = .ok (.v (.dic acc.1 acc.2)) o := id rfl
@[simp] theorem dicMk_t (acc : DA) : dicMk true acc o = .ok (.o o.length) (o ++ [⟨true, .dic acc.1 acc.2⟩]) := id rfl
/-- a set, by turns that change nothing -/
theorem out_dcA {α : Type} {turn : D → Objs → R (Option (D × D))} {Q : DA → Objs → Prop} {g : α → D} {l : List α} {ks : List Nat} (f : α → Option Nat) (hl : ks.length + l.length ≤ sizeLine)
    (h : ∀ a ∈ l, Out (turn (g a) o) fun r o' => r = (f a).map (fun k => (di k, .bl true)) ∧ o' = o) (q : Q ((insAll ks (l.filterMap f)).map di, tru (insAll ks (l.filterMap f))) o) : Out (dcGo turn (l.map g) (ks.map di, tru ks) o) Q := by
  induction l generalizing ks with
  | nil => simpa [dcGo, insAll] using q
  | cons a l ih =>
    have e := out_eq (h a (by simp))
    simp only [List.length_cons] at hl
    simp only [List.map_cons, dcGo, e, R.bind_ok]
    cases hf : f a with
    | none =>
      simp only [Option.map_none]
      refine ih (by omega) (fun b hb => h b (by simp [hb])) ?_
      simpa [hf] using q
    | some k =>
      have hk : ks.length < sizeLine := by omega
      have hko : (keyOf (di k)).isSome = true := rfl
      simp only [Option.map_some, hko, List.length_map, hk, and_self, if_true]
      rw [show di k = D.int (k : Int) from rfl, dput_d]
      refine ih (ks := ins ks k) (by have : (ins ks k).length ≤ ks.length + 1 := by { unfold ins; split <;> simp }; omega) (fun b hb => h b (by simp [hb])) ?_
      simpa [hf, insAll] using q
theorem out_dc {α : Type} {turn : D → Objs → R (Option (D × D))} {Q : DA → Objs → Prop} {g : α → D} {l : List α} (f : α → Option Nat) (hl : l.length ≤ sizeLine)
    (h : ∀ a ∈ l, Out (turn (g a) o) fun r o' => r = (f a).map (fun k => (di k, .bl true)) ∧ o' = o) (q : Q ((insAll [] (l.filterMap f)).map di, tru (insAll [] (l.filterMap f))) o) : Out (dcGo turn (l.map g) ([], []) o) Q :=
  out_dcA (ks := []) f (by simpa using hl) h q
theorem out_dc2 {α : Type} {turn : D → DA → Objs → R DA} {Q : DA → Objs → Prop} {g : α → D} {l : List α} (f : α → List Nat)
    (h : ∀ a ∈ l, ∀ ks : List Nat, ks.length ≤ (l.map fun a => (f a).length).sum → Out (turn (g a) (ks.map di, tru ks) o) fun r o' => r = ((insAll ks (f a)).map di, tru (insAll ks (f a))) ∧ o' = o)
    (q : Q ((insAll [] (l.flatMap f)).map di, tru (insAll [] (l.flatMap f))) o) : Out (dcGo2 turn (l.map g) ([], []) o) Q := by
  have key : ∀ (l' : List α) (ks : List Nat), (∀ a ∈ l', a ∈ l) → ks.length + (l'.map fun a => (f a).length).sum ≤ (l.map fun a => (f a).length).sum → dcGo2 turn (l'.map g) (ks.map di, tru ks) o = .ok ((insAll ks (l'.flatMap f)).map di, tru (insAll ks (l'.flatMap f))) o := by
    intro l'
    induction l' with
    | nil => intro ks _ _; rfl
    | cons a l' ih =>
      intro ks hm hs
      simp only [List.map_cons, List.sum_cons] at hs
      have e := out_eq (h a (hm a (by simp)) ks (by omega))
      have := insAll_len (ks := ks) (l := f a)
      simp only [List.map_cons, dcGo2, e, R.bind_ok]
      rw [ih _ (fun b hb => hm b (by simp [hb])) (by omega), List.flatMap_cons, insAll_app]
  have := key l [] (fun _ h => h) (by simp)
  rw [show (([], []) : DA) = (([] : List Nat).map di, tru []) from rfl, this, out_ok]
  exact q
end
/-! ### what is reached -/
inductive Rch (row : Nat → List (Option Nat)) (S : List Nat) : Nat → Prop
  | base {k : Nat} : k ∈ S → Rch row S k
  | step {k g : Nat} : Rch row S k → some g ∈ row k → Rch row S g
theorem Rch.closed {row : Nat → List (Option Nat)} {S ks : List Nat} (h0 : ∀ k ∈ S, k ∈ ks) (h1 : ∀ k ∈ ks, ∀ g, some g ∈ row k → g ∈ ks) {k : Nat} (h : Rch row S k) : k ∈ ks := by
  induction h with
  | base h => exact h0 _ h
  | step _ hg ih => exact h1 _ ih _ hg
end RR

set_option maxHeartbeats 4000000
namespace RR
/-! ### ranks, plainly -/
section
variable {ι κ : Type}
def comb (c : Nat → Int) : List (ι → Int) → ι → Int
  | [], _ => 0
  | v :: vs, i => c 0 * v i + comb (fun k => c (k + 1)) vs i
def Indep (vs : List (ι → Int)) : Prop := ∀ c, (∀ i, comb c vs i = 0) → ∀ k, k < vs.length → c k = 0
def InSpan (v : ι → Int) (vs : List (ι → Int)) : Prop := ∃ m, m ≠ 0 ∧ ∃ c, ∀ i, m * v i = comb c vs i
theorem comb_lin (a b : Int) (c d : Nat → Int) (vs : List (ι → Int)) (i : ι) : comb (fun k => a * c k + b * d k) vs i = a * comb c vs i + b * comb d vs i := by
  induction vs generalizing c d with
  | nil => simp [comb]
  | cons v vs ih =>
    simp only [comb]
    rw [ih]
    grind
theorem comb_mul (a : Int) (c : Nat → Int) (vs : List (ι → Int)) (i : ι) : comb (fun k => a * c k) vs i = a * comb c vs i := by
  have := comb_lin a 0 c c vs i
  simpa using this
theorem comb_zero {c : Nat → Int} {vs : List (ι → Int)} (h : ∀ k, k < vs.length → c k = 0) (i : ι) : comb c vs i = 0 := by
  induction vs generalizing c with
  | nil => rfl
  | cons v vs ih =>
    simp only [comb]
    rw [h 0 (by simp), ih (fun k hk => h (k + 1) (by simpa using hk))]
    simp
theorem comb_congr {c d : Nat → Int} {vs : List (ι → Int)} (h : ∀ k, k < vs.length → c k = d k) (i : ι) : comb c vs i = comb d vs i := by
  induction vs generalizing c d with
  | nil => rfl
  | cons v vs ih =>
    simp only [comb]
    rw [h 0 (by simp), ih (fun k hk => h (k + 1) (by simpa using hk))]
theorem comb_snoc (c : Nat → Int) (vs : List (ι → Int)) (v : ι → Int) (i : ι) : comb c (vs ++ [v]) i = comb c vs i + c vs.length * v i := by
  induction vs generalizing c with
  | nil => simp [comb]
  | cons w vs ih =>
    simp only [List.cons_append, comb, ih, List.length_cons]
    grind
theorem comb_at {vs : List (ι → Int)} {v : ι → Int} (h : v ∈ vs) : ∃ c, ∀ i, comb c vs i = v i := by
  induction vs with
  | nil => simp at h
  | cons w vs ih =>
    rcases List.mem_cons.mp h with rfl | h
    · refine ⟨fun k => if k = 0 then 1 else 0, fun i => ?_⟩
      simp only [comb]
      rw [comb_zero (by simp)]
      simp
    · obtain ⟨c, hc⟩ := ih h
      refine ⟨fun k => if k = 0 then 0 else c (k - 1), fun i => ?_⟩
      simp only [comb]
      simp
      exact hc i
theorem InSpan.self {v : ι → Int} {vs : List (ι → Int)} (h : v ∈ vs) : InSpan v vs := by
  obtain ⟨c, hc⟩ := comb_at h
  exact ⟨1, by decide, c, fun i => by rw [hc]; simp⟩
theorem InSpan.zero {v : ι → Int} {vs : List (ι → Int)} (h : ∀ i, v i = 0) : InSpan v vs := ⟨1, by decide, fun _ => 0, fun i => by rw [h, comb_zero (by simp)]; rfl⟩
theorem comb_trans {ws vs : List (ι → Int)} (h : ∀ w ∈ ws, InSpan w vs) (c : Nat → Int) : ∃ m, m ≠ 0 ∧ ∃ d, ∀ i, m * comb c ws i = comb d vs i := by
  induction ws generalizing c with
  | nil => exact ⟨1, by decide, fun _ => 0, fun i => by rw [comb_zero (vs := vs) (by simp)]; rfl⟩
  | cons w ws ih =>
    obtain ⟨m1, h1, d1, e1⟩ := h w (by simp)
    obtain ⟨m2, h2, d2, e2⟩ := ih (fun x hx => h x (by simp [hx])) (fun k => c (k + 1))
    refine ⟨m1 * m2, Int.mul_ne_zero h1 h2, fun k => (m2 * c 0) * d1 k + m1 * d2 k, fun i => ?_⟩
    rw [comb_lin, ← e1, ← e2]
    simp only [comb]
    grind
theorem InSpan.trans {v : ι → Int} {ws vs : List (ι → Int)} (h1 : InSpan v ws) (h : ∀ w ∈ ws, InSpan w vs) : InSpan v vs := by
  obtain ⟨m, hm, c, e⟩ := h1
  obtain ⟨m2, h2, d, e2⟩ := comb_trans h c
  exact ⟨m2 * m, Int.mul_ne_zero h2 hm, d, fun i => by rw [← e2, ← e]; grind⟩
theorem InSpan.mono {v : ι → Int} {ws vs : List (ι → Int)} (h1 : InSpan v ws) (h : ∀ w ∈ ws, w ∈ vs) : InSpan v vs := h1.trans fun w hw => .self (h w hw)
theorem indep_nil : Indep ([] : List (ι → Int)) := fun c _ k hk => by simp at hk
theorem indep_snoc {vs : List (ι → Int)} {v : ι → Int} (h : Indep vs) (hn : ¬ InSpan v vs) : Indep (vs ++ [v]) := by
  intro c hc
  have e : c vs.length = 0 := by
    by_cases hz : c vs.length = 0
    · exact hz
    · refine absurd ⟨c vs.length, hz, fun k => (-1) * c k, fun i => ?_⟩ hn
      have := hc i
      rw [comb_snoc] at this
      rw [comb_mul]
      omega
  have h2 := h c fun i => by
    have := hc i
    rw [comb_snoc, e] at this
    simpa using this
  intro k hk
  simp at hk
  by_cases hk2 : k = vs.length
  · rw [hk2]; exact e
  · exact h2 k (by omega)
/-! ### more vectors than places -/
def NT (L : List (ι → Int)) (t : Nat → Int) : Prop := ∃ k, k < L.length ∧ t k ≠ 0
theorem perm_comb {L1 L2 : List (ι → Int)} (h : L1.Perm L2) : ∀ t, ∃ t', (∀ i, comb t' L2 i = comb t L1 i) ∧ (NT L1 t → NT L2 t') := by
  induction h with
  | nil => exact fun t => ⟨t, fun _ => rfl, id⟩
  | cons x _ ih =>
    intro t
    obtain ⟨t', h1, h2⟩ := ih (fun k => t (k + 1))
    refine ⟨fun k => if k = 0 then t 0 else t' (k - 1), fun i => ?_, ?_⟩
    · simp only [comb]; simp [h1]
    · rintro ⟨k, hk, hn⟩
      cases k with
      | zero => exact ⟨0, by simp, by simpa using hn⟩
      | succ k =>
        obtain ⟨q, hq, hq2⟩ := h2 ⟨k, by simpa using hk, hn⟩
        exact ⟨q + 1, by simpa using hq, by simpa using hq2⟩
  | swap x y l =>
    intro t
    refine ⟨fun k => if k = 0 then t 1 else if k = 1 then t 0 else t k, fun i => ?_, ?_⟩
    · simp only [comb]; simp; omega
    · rintro ⟨k, hk, hn⟩
      match k with
      | 0 => exact ⟨1, by simp, by simpa using hn⟩
      | 1 => exact ⟨0, by simp, by simpa using hn⟩
      | k + 2 => exact ⟨k + 2, by simpa using hk, by simpa using hn⟩
  | trans _ _ ih1 ih2 =>
    intro t
    obtain ⟨t1, h1, h2⟩ := ih1 t
    obtain ⟨t2, h3, h4⟩ := ih2 t1
    exact ⟨t2, fun i => by rw [h3, h1], fun z => h4 (h2 z)⟩
theorem comb_map (a : (ι → Int) → Int) (L : List (ι → Int)) (x : ι → Int) (m : Int) (t : Nat → Int) (z : ι) (hz : ∀ v ∈ L, a v = v z) (i : ι) : comb t (L.map fun v i => m * v i - a v * x i) i = m * comb t L i - comb t L z * x i := by
  induction L generalizing t with
  | nil => simp [comb]
  | cons v L ih =>
    simp only [List.map_cons, comb]
    rw [ih _ (fun w hw => hz w (by simp [hw])), hz v (by simp)]
    grind
theorem dep_of (m : Nat) : ∀ L : List (Nat → Int), m < L.length → ∃ t, NT L t ∧ ∀ j, j < m → comb t L j = 0 := by
  induction m with
  | zero => exact fun L hL => ⟨fun _ => 1, ⟨0, hL, by decide⟩, fun j hj => by omega⟩
  | succ m ih =>
    intro L hL
    by_cases hz : ∀ v ∈ L, v m = 0
    · obtain ⟨t, h1, h2⟩ := ih L (by omega)
      refine ⟨t, h1, fun j hj => ?_⟩
      by_cases e : j = m
      · subst e
        have off : ∀ (L : List (Nat → Int)) (t : Nat → Int), (∀ v ∈ L, v j = 0) → comb t L j = 0 := by
          intro L
          induction L with
          | nil => intro t _; rfl
          | cons v L ih2 =>
            intro t hz
            simp only [comb]
            rw [hz v (by simp), ih2 _ (fun w hw => hz w (by simp [hw]))]
            simp
        exact off L t hz
      · exact h2 j (by omega)
    · have : ∃ v0 ∈ L, v0 m ≠ 0 := by
        refine Classical.byContradiction fun hc => hz fun v hv => ?_
        exact Classical.byContradiction fun hn => hc ⟨v, hv, hn⟩
      obtain ⟨v0, hv, hn⟩ := this
      obtain ⟨A, B, e⟩ := List.append_of_mem hv
      have hp : L.Perm (v0 :: (A ++ B)) := e ▸ List.perm_middle
      have hl := hp.length_eq
      simp only [List.length_cons] at hl
      obtain ⟨t, ⟨k, hk, hkn⟩, h2⟩ := ih ((A ++ B).map fun v i => v0 m * v i - v m * v0 i) (by rw [List.length_map]; omega)
      rw [List.length_map] at hk
      have key : ∀ i, comb (fun k => if k = 0 then -comb t (A ++ B) m else v0 m * t (k - 1)) (v0 :: (A ++ B)) i = v0 m * comb t (A ++ B) i - comb t (A ++ B) m * v0 i := fun i => by
        simp only [comb]
        simp
        rw [comb_mul]
        grind
      obtain ⟨t', q1, q2⟩ := perm_comb hp.symm (fun k => if k = 0 then -comb t (A ++ B) m else v0 m * t (k - 1))
      refine ⟨t', q2 ⟨k + 1, by simpa using hk, by simpa using ⟨hn, hkn⟩⟩, fun j hj => ?_⟩
      rw [q1, key]
      by_cases e2 : j = m
      · subst e2; grind
      · have := h2 j (by omega)
        rw [comb_map (fun v => v m) _ _ _ _ m (fun _ _ => rfl)] at this
        exact this
theorem coefs {vs ws : List (ι → Int)} (h : ∀ v ∈ vs, InSpan v ws) : ∃ (C : List (Nat → Int)) (μ : Nat → Int), C.length = vs.length ∧ (∀ k, μ k ≠ 0) ∧ ∀ t i, comb (fun k => t k * μ k) vs i = comb (fun j => comb t C j) ws i := by
  induction vs with
  | nil =>
    refine ⟨[], fun _ => 1, rfl, fun _ => Int.one_ne_zero, fun t i => ?_⟩
    have : comb (fun j => comb t ([] : List (Nat → Int)) j) ws i = 0 := comb_zero (fun k _ => rfl) i
    rw [this]
    rfl
  | cons v vs ih =>
    obtain ⟨C, μ, h1, h2, h3⟩ := ih fun w hw => h w (by simp [hw])
    obtain ⟨m, hm, c, e⟩ := h v (by simp)
    refine ⟨c :: C, fun k => if k = 0 then m else μ (k - 1), by simp [h1], fun k => ?_, fun t i => ?_⟩
    · by_cases hk : k = 0
      · simp [hk, hm]
      · simp [hk, h2]
    · have e3 := h3 (fun k => t (k + 1)) i
      have e4 := comb_lin (t 0) 1 c (fun j => comb (fun k => t (k + 1)) C j) ws i
      simp only [comb]
      simp
      rw [e3]
      simp at e4
      rw [e4, ← e]
      grind
theorem steinitz {vs ws : List (ι → Int)} (hi : Indep vs) (h : ∀ v ∈ vs, InSpan v ws) : vs.length ≤ ws.length := by
  refine Classical.byContradiction fun hc => ?_
  obtain ⟨C, μ, h1, h2, h3⟩ := coefs h
  obtain ⟨t, ⟨k, hk, hn⟩, h4⟩ := dep_of ws.length C (by omega)
  have := hi (fun k => t k * μ k) (fun i => by
    rw [h3]
    exact comb_zero (fun j hj => h4 j hj) i) k (by omega)
  rcases Int.mul_eq_zero.mp this with z | z
  · exact hn z
  · exact h2 k z
/-! ### steps of vectors -/
def Echl : List (Nat × (Nat → Int)) → Prop
  | [] => True
  | x :: E => x.2 x.1 ≠ 0 ∧ (∀ y ∈ E, y.2 x.1 = 0) ∧ Echl E
theorem echl_snoc {E : List (Nat × (Nat → Int))} {x : Nat × (Nat → Int)} (h : Echl E) (h1 : x.2 x.1 ≠ 0) (h2 : ∀ y ∈ E, x.2 y.1 = 0) : Echl (E ++ [x]) := by
  induction E with
  | nil => exact ⟨h1, by simp, trivial⟩
  | cons y E ih =>
    obtain ⟨a, b, c⟩ := h
    refine ⟨a, fun z hz => ?_, ih c fun z hz => h2 z (by simp [hz])⟩
    rcases List.mem_append.mp hz with hz | hz
    · exact b z hz
    · simp at hz; subst hz; exact h2 y (by simp)
theorem comb_off {L : List (Nat → Int)} {p : Nat} (h : ∀ v ∈ L, v p = 0) (c : Nat → Int) : comb c L p = 0 := by
  induction L generalizing c with
  | nil => rfl
  | cons v L ih =>
    simp only [comb]
    rw [h v (by simp), ih fun w hw => h w (by simp [hw])]
    simp
theorem ech_zero {E : List (Nat × (Nat → Int))} (h : Echl E) {r : Nat → Int} (hr : ∀ x ∈ E, r x.1 = 0) {m : Int} (hm : m ≠ 0) {c : Nat → Int} (e : ∀ i, m * r i = comb c (E.map Prod.snd) i) : ∀ i, r i = 0 := by
  induction E generalizing c with
  | nil =>
    intro i
    have := e i
    simp only [List.map_nil, comb] at this
    exact (Int.mul_eq_zero.mp this).resolve_left hm
  | cons x E ih =>
    obtain ⟨h1, h2, h3⟩ := h
    have e0 := e x.1
    simp only [List.map_cons, comb] at e0
    rw [hr x (by simp), comb_off (fun v hv => by
      obtain ⟨y, hy, rfl⟩ := List.mem_map.mp hv
      exact h2 y hy)] at e0
    have c0 : c 0 = 0 := by
      have : c 0 * x.2 x.1 = 0 := by omega
      exact (Int.mul_eq_zero.mp this).resolve_right h1
    refine ih h3 (fun y hy => hr y (by simp [hy])) (c := fun k => c (k + 1)) fun i => ?_
    have := e i
    simp only [List.map_cons, comb, c0] at this
    simpa using this
structure Ech (E : List (Nat × (Nat → Int))) (vs : List (Nat → Int)) : Prop where
  ec : Echl E
  a : ∀ v ∈ vs, InSpan v (E.map Prod.snd)
  b : ∀ x ∈ E, InSpan x.2 vs
  d : Indep vs
  l : vs.length = E.length
theorem Ech.nil : Ech [] [] := ⟨trivial, by simp, by simp, indep_nil, rfl⟩
theorem Ech.old {E : List (Nat × (Nat → Int))} {vs : List (Nat → Int)} (h : Ech E vs) {R : Nat → Int} (hR : InSpan R (E.map Prod.snd)) : InSpan R vs := hR.trans fun w hw => by
  obtain ⟨x, hx, rfl⟩ := List.mem_map.mp hw
  exact h.b x hx
theorem Ech.new {E : List (Nat × (Nat → Int))} {vs : List (Nat → Int)} (h : Ech E vs) {R rest : Nat → Int} {q : Nat} {c d : Int} {k : Nat → Int} (hc : c ≠ 0) (hd : d ≠ 0) (e : ∀ i, c * R i = d * rest i + comb k (E.map Prod.snd) i) (hz : ∀ x ∈ E, rest x.1 = 0) (hq : rest q ≠ 0) : Ech (E ++ [(q, rest)]) (vs ++ [R]) := by
  have eE : (E ++ [(q, rest)]).map Prod.snd = E.map Prod.snd ++ [rest] := by simp
  refine ⟨echl_snoc h.ec hq hz, fun v hv => ?_, fun x hx => ?_, ?_, by simp [h.l]⟩
  · rw [eE]
    rcases List.mem_append.mp hv with hv | hv
    · exact (h.a v hv).mono fun w hw => List.mem_append_left _ hw
    · simp at hv; subst hv
      refine ⟨c, hc, fun j => if j < (E.map Prod.snd).length then k j else d, fun i => ?_⟩
      rw [comb_snoc, comb_congr (d := k) (fun j hj => by simp only [hj, if_true])]
      simp only [Nat.lt_irrefl, if_false]
      rw [e]; grind
  · rcases List.mem_append.mp hx with hx | hx
    · exact (h.b x hx).mono fun w hw => List.mem_append_left _ hw
    · simp at hx; subst hx
      have : InSpan rest (E.map Prod.snd ++ [R]) := by
        refine ⟨d, hd, fun j => if j < (E.map Prod.snd).length then (-1) * k j else c, fun i => ?_⟩
        rw [comb_snoc, comb_congr (d := fun j => (-1) * k j) (fun j hj => by simp only [hj, if_true]), comb_mul]
        simp only [Nat.lt_irrefl, if_false]
        rw [e]; grind
      refine this.trans fun w hw => ?_
      rcases List.mem_append.mp hw with hw | hw
      · obtain ⟨x, hx, rfl⟩ := List.mem_map.mp hw
        exact (h.b x hx).mono fun w hw => List.mem_append_left _ hw
      · simp at hw; subst hw
        exact .self (by simp)
  · refine indep_snoc h.d fun hs => ?_
    obtain ⟨m, hm, k', e'⟩ := hs.trans h.a
    refine hq (ech_zero h.ec hz (m := m * d) (Int.mul_ne_zero hm hd) (c := fun j => c * k' j + (-m) * k j) (fun i => ?_) q)
    rw [comb_lin, ← e']
    have := e i
    grind
/-- distinct places -/
theorem echl_nodup {E : List (Nat × (Nat → Int))} (h : Echl E) : (E.map Prod.fst).Nodup := by
  induction E with
  | nil => simp
  | cons x E ih =>
    obtain ⟨h1, h2, h3⟩ := h
    rw [List.map_cons, List.nodup_cons]
    refine ⟨fun hx => ?_, ih h3⟩
    obtain ⟨y, hy, e⟩ := List.mem_map.mp hx
    have hyy : y.2 y.1 ≠ 0 := by
      have : ∀ (E : List (Nat × (Nat → Int))), Echl E → ∀ y ∈ E, y.2 y.1 ≠ 0 := by
        intro E
        induction E with
        | nil => intro _ y hy; simp at hy
        | cons z E ih2 =>
          rintro ⟨a, _, c⟩ y hy
          rcases List.mem_cons.mp hy with rfl | hy
          · exact a
          · exact ih2 c y hy
      exact this E h3 y hy
    rw [e] at hyy
    exact hyy (h2 y hy)
end
/-! ### the rank of what a function tells -/
section
variable {α β : Type}
def Rk (h : α → β → Int) (r : Nat) : Prop := ∃ us : List α, us.length = r ∧ Indep (us.map h) ∧ ∀ u, InSpan (h u) (us.map h)
theorem Rk.uniq {h : α → β → Int} {r r' : Nat} (h1 : Rk h r) (h2 : Rk h r') : r = r' := by
  obtain ⟨us, l1, i1, s1⟩ := h1
  obtain ⟨us', l2, i2, s2⟩ := h2
  have a := steinitz i1 (ws := us'.map h) fun v hv => by
    obtain ⟨u, _, rfl⟩ := List.mem_map.mp hv
    exact s2 u
  have b := steinitz i2 (ws := us.map h) fun v hv => by
    obtain ⟨u, _, rfl⟩ := List.mem_map.mp hv
    exact s1 u
  simp at a b
  omega
def lin (c : Nat → Int) : List β → (β → Int) → Int
  | [], _ => 0
  | v :: vs, G => c 0 * G v + lin (fun k => c (k + 1)) vs G
theorem lin_sub (c : Nat → Int) (V : List β) (a b : Int) (G G' : β → Int) : lin c V (fun v => a * G v + b * G' v) = a * lin c V G + b * lin c V G' := by
  induction V generalizing c with
  | nil => simp [lin]
  | cons v V ih => simp only [lin, ih]; grind
theorem lin_zero {c : Nat → Int} {V : List β} {G : β → Int} (h : ∀ v ∈ V, G v = 0) : lin c V G = 0 := by
  induction V generalizing c with
  | nil => rfl
  | cons v V ih => simp only [lin]; rw [h v (by simp), ih fun w hw => h w (by simp [hw])]; simp
theorem lin_comb {h : α → β → Int} {v : β} {V : List β} {m : Int} {c' : Nat → Int} (e : ∀ u, m * h u v = lin c' V (h u)) (us : List α) (c : Nat → Int) : m * comb c (us.map h) v = lin c' V (fun v' => comb c (us.map h) v') := by
  induction us generalizing c with
  | nil =>
    simp only [List.map_nil, comb]
    rw [lin_zero (by simp)]; simp
  | cons u us ih =>
    simp only [List.map_cons, comb]
    have := lin_sub c' V (c 0) 1 (h u) (fun v' => comb (fun k => c (k + 1)) (us.map h) v')
    simp at this
    rw [this, ← e, ← ih]
    grind
/-- a square that tells all -/
structure Frame (h : α → β → Int) (U : List α) (V : List β) : Prop where
  rows : ∀ u, InSpan (h u) (U.map h)
  cols : ∀ v, ∃ m, m ≠ 0 ∧ ∃ c, ∀ u, m * h u v = lin c V (h u)
/-- a row of the square -/
def sq (h : α → β → Int) (V : List β) (u : α) : Nat → Int := fun j => match V[j]? with
  | some v => h u v
  | none => 0
theorem pick_all {R : α → Nat → Int} {U : List α} : ∀ {vs : List (Nat → Int)}, (∀ v ∈ vs, v ∈ U.map R) → ∃ us : List α, us.map R = vs ∧ ∀ u ∈ us, u ∈ U
  | [], _ => ⟨[], rfl, by simp⟩
  | v :: vs, h => by
    obtain ⟨us, e, hu⟩ := pick_all (vs := vs) fun w hw => h w (by simp [hw])
    obtain ⟨u, hu1, rfl⟩ := List.mem_map.mp (h v (by simp))
    exact ⟨u :: us, by simp [e], fun x hx => (List.mem_cons.mp hx).elim (fun z => z ▸ hu1) (hu x)⟩
theorem comb_sq {h : α → β → Int} {V : List β} {us : List α} {c : Nat → Int} {j : Nat} {v : β} (hv : V[j]? = some v) : comb c (us.map (sq h V)) j = comb c (us.map h) v := by
  induction us generalizing c with
  | nil => rfl
  | cons u us ih =>
    simp only [List.map_cons, comb, ih, sq, hv]
theorem Frame.rk {h : α → β → Int} {U : List α} {V : List β} (F : Frame h U V) {vs : List (Nat → Int)} (hv : ∀ v ∈ vs, v ∈ U.map (sq h V)) (hi : Indep vs) (hs : ∀ u ∈ U, InSpan (sq h V u) vs) : Rk h vs.length := by
  obtain ⟨us, rfl, hu⟩ := pick_all hv
  refine ⟨us, by simp, fun c hc k hk => ?_, fun u => (F.rows u).trans fun w hw => ?_⟩
  · refine hi c (fun j => ?_) k (by simpa using hk)
    cases hj : V[j]? with
    | some v => rw [comb_sq hj]; exact hc v
    | none =>
      refine comb_off (fun v hv => ?_) c
      obtain ⟨u, _, rfl⟩ := List.mem_map.mp hv
      simp only [sq, hj]
  · obtain ⟨u, hu, rfl⟩ := List.mem_map.mp hw
    obtain ⟨m, hm, c, e⟩ := hs u hu
    refine ⟨m, hm, c, fun v => ?_⟩
    obtain ⟨m', hm', c', e'⟩ := F.cols v
    have h1 := lin_comb e' us c
    have h2 := lin_sub c' V m (-1) (h u) (fun v' => comb c (us.map h) v')
    rw [lin_zero (by
      intro v' hv'
      obtain ⟨j, hj, e2⟩ := List.mem_iff_getElem.mp hv'
      have hj' : V[j]? = some v' := List.getElem?_eq_some_iff.mpr ⟨hj, e2⟩
      have := e j
      rw [comb_sq hj'] at this
      simp only [sq, hj'] at this
      rw [this]; omega), ← h1, ← e'] at h2
    have : m' * (m * h u v - comb c (us.map h) v) = 0 := by grind
    have := (Int.mul_eq_zero.mp this).resolve_left hm'
    omega
end
end RR

set_option maxHeartbeats 4000000
namespace Lk52
open PySem PySem.Spec PyProof.Rows L2 RR
/-! ### the text -/
def topS (i : Nat) : Stmt := PySem.Challenge.pw_rowreaders_k52_whole_orders_of_weighers.main.body.getD i (.Pass ⟨0, 0, 0, 0⟩)
def inS (i j : Nat) : Stmt := (clsBody (topS i)).getD j (.Pass ⟨0, 0, 0, 0⟩)
def cs : List (Str × D) := [("MOST_SIGNS", (.int 8)), ("MOST_SIZE", (.int 6)), ("MOST_WEIGHT", (.int 1000))]
def kt : KT := [(("Weigher", "Weigher"), true)]
def cl0 : List (Str × CI) := []
/-! ### _law_flask -/
abbrev s__law_flask : Stmt := topS 29
def N__law_flask : List Str := ["_law_script", "_law_k", "_law_own", "_law_mixed", "_law_entry_here"]
def m__law_flask : MS :=
  (mThen (mAsg (mIf (mAsB (mBin ltW (mVar 1) (mCall (on1 (lenC cl0)) (mCons (mVar 0) mNil)))) (mCall (on1 intW) (mCons (mBin ixX (mVar 0) (mVar 1)) mNil)) (mBin addW (mBin mulW (mConst (.int 71)) (mVar 1)) (mConst (.int 29)))) (gNm 2))
  (mThen (mAsg (mBin addW (mConst (.int 80021)) (mBin mulW (mConst (.int 5009)) (mVar 1))) (gNm 3))
  (mThen (mFor (mSeq (mSl false (mVar 0) none (some (mConst (.int 6))))) (mTg (.one 4))
  (mThen (mAsg (mBin modW (mCall (on1 intW) (mCons (mBin addW (mBin mulW (mVar 3) (mConst (.int 32009))) (mCall (on1 intW) (mCons (mVar 4) mNil))) mNil)) (mConst (.int 2147482811))) (gNm 3))
  mSkip))
  (mThen (mRet (mLst true (mCons (mBin modW (mCall (on1 intW) (mCons (mBin addW (mVar 3) (mBin mulW (mVar 2) (mConst (.int 7013)))) mNil)) (mConst (.int 2147482811))) (mCons (mConst (.int 0)) (mCons (mIf (mOr (mAsB (mBin ltW (mVar 2) (mConst (.int 0)))) (mAsB (mBin geW (mVar 2) (mBin powW (mConst (.int 10)) (mConst (.int 18)))))) (mCall (on1 absW) (mCons (mVar 2) mNil)) (mConst (.int 0))) mNil)))))
  mSkip))))
def fi__law_flask : FI := ⟨2, false, runFn 5 true m__law_flask, []⟩
def fs__law_flask : List (Str × FI) := []
def mu__law_flask : List (Nat × Nat) := [(131, 11)]
theorem sc__law_flask : FnScope N__law_flask ["_law_script", "_law_k"] (defScope s__law_flask) := ⟨rfl, rfl, rfl, by decide +kernel, rfl, by decide +kernel, by decide +kernel⟩
theorem c__law_flask : cSs 60 60 (ccOf N__law_flask (defScope s__law_flask) mu__law_flask fs__law_flask cs cl0 kt) (defBody s__law_flask) = some m__law_flask := by kernel_rfl
/-! ### shared -/
abbrev s_shared : Stmt := topS 12
def N_shared : List Str := ["one", "two"]
def m_shared : MS :=
  (mThen (mPar [0, 1] (mCons (mCall (on1 absW) (mCons (mVar 0) mNil)) (mCons (mCall (on1 absW) (mCons (mVar 1) mNil)) mNil)))
  (mThen (mWhile (mAsB (mBin (neZ cl0 kt) (mVar 1) (mConst (.int 0))))
  (mThen (mPar [0, 1] (mCons (mVar 1) (mCons (mBin modW (mVar 0) (mVar 1)) mNil)))
  mSkip))
  (mThen (mRet (mVar 0))
  mSkip)))
def fi_shared : FI := ⟨2, false, runFn 2 false m_shared, []⟩
def fs_shared : List (Str × FI) := ("_law_flask", fi__law_flask) :: fs__law_flask
def mu_shared : List (Nat × Nat) := []
theorem sc_shared : FnScope N_shared ["one", "two"] (defScope s_shared) := ⟨rfl, rfl, rfl, by decide +kernel, rfl, by decide +kernel, by decide +kernel⟩
theorem c_shared : cSs 60 60 (ccOf N_shared (defScope s_shared) mu_shared fs_shared cs cl0 kt) (defBody s_shared) = some m_shared := by kernel_rfl
/-! ### shared_by -/
abbrev s_shared_by : Stmt := topS 14
def N_shared_by : List Str := ["row", "found", "number"]
def m_shared_by : MS :=
  (mThen (mAsg (mConst (.int 0)) (gNm 1))
  (mThen (mFor (mSeq (mVar 0)) (mTg (.one 2))
  (mThen (mAsg (mIf (mOr (mAsB (mBin (neZ cl0 kt) (mVar 1) (mConst (.int 0)))) (mAsB (mBin (neZ cl0 kt) (mVar 2) (mConst (.int 0))))) (mCall (callW fi_shared) (mCons (mVar 1) (mCons (mVar 2) mNil))) (mConst (.int 0))) (gNm 1))
  mSkip))
  (mThen (mRet (mVar 1))
  mSkip)))
def fi_shared_by : FI := ⟨1, false, runFn 3 false m_shared_by, []⟩
def fs_shared_by : List (Str × FI) := ("shared", fi_shared) :: fs_shared
def mu_shared_by : List (Nat × Nat) := []
theorem sc_shared_by : FnScope N_shared_by ["row"] (defScope s_shared_by) := ⟨rfl, rfl, rfl, by decide +kernel, rfl, by decide +kernel, by decide +kernel⟩
theorem c_shared_by : cSs 60 60 (ccOf N_shared_by (defScope s_shared_by) mu_shared_by fs_shared_by cs cl0 kt) (defBody s_shared_by) = some m_shared_by := by kernel_rfl
/-! ### reduced -/
abbrev s_reduced : Stmt := topS 13
def N_reduced : List Str := ["row", "basis", "place", "other", "part", "less", "number"]
def m_reduced : MS :=
  (mThen (mFor (mSeq (mVar 1)) (mTg (.many [2, 3]))
  (mThen (mIfS (mAsB (mBin (neZ cl0 kt) (mBin ixX (mVar 0) (mVar 2)) (mConst (.int 0))))
  (mThen (mAsg (mLc false (mZip (mCons (mVar 0) (mCons (mVar 3) mNil))) (.many [4, 5]) [4, 5] mYes (mBin subW (mBin mulW (mVar 4) (mBin ixX (mVar 3) (mVar 2))) (mBin mulW (mVar 5) (mBin ixX (mVar 0) (mVar 2))))) (gNm 0))
  (mThen (mAsg (mCall (callW fi_shared_by) (mCons (mVar 0) mNil)) (gNm 4))
  (mThen (mAsg (mIf (mAsB (mBin gtW (mVar 4) (mConst (.int 1)))) (mLc false (mSeq (mVar 0)) (.one 6) [6] mYes (mBin fdivW (mVar 6) (mVar 4))) (mVar 0)) (gNm 0))
  mSkip)))
  mSkip)
  mSkip))
  (mThen (mRet (mVar 0))
  mSkip))
def fi_reduced : FI := ⟨2, false, runFn 7 false m_reduced, []⟩
def fs_reduced : List (Str × FI) := ("shared_by", fi_shared_by) :: fs_shared_by
def mu_reduced : List (Nat × Nat) := []
theorem sc_reduced : FnScope N_reduced ["row", "basis"] (defScope s_reduced) := ⟨rfl, rfl, rfl, by decide +kernel, rfl, by decide +kernel, by decide +kernel⟩
theorem c_reduced : cSs 60 60 (ccOf N_reduced (defScope s_reduced) mu_reduced fs_reduced cs cl0 kt) (defBody s_reduced) = some m_reduced := by kernel_rfl
/-! ### joined -/
abbrev s_joined : Stmt := topS 15
def N_joined : List Str := ["row", "basis", "rest", "places", "place", "number"]
def m_joined : MS :=
  (mThen (mAsg (mCall (callW fi_reduced) (mCons (mCall (on1 (listX false)) (mCons (mVar 0) mNil)) (mCons (mVar 1) mNil))) (gNm 2))
  (mThen (mAsg (mLc false (mEnum (mCons (mVar 2) mNil)) (.many [4, 5]) [4, 5] (mAsB (mBin (neZ cl0 kt) (mVar 5) (mConst (.int 0)))) (mVar 4)) (gNm 3))
  (mThen (mRet (mIf (mAsB (mBin (neZ cl0 kt) (mVar 3) (mLst false mNil))) (mTup (mCons (mLst false (mStar (mVar 1) (mCons (mTup (mCons (mBin ixX (mVar 3) (mConst (.int 0))) (mCons (mVar 2) mNil))) mNil))) (mCons (mConst (.bl true)) mNil))) (mTup (mCons (mVar 1) (mCons (mConst (.bl false)) mNil)))))
  mSkip)))
def fi_joined : FI := ⟨2, false, runFn 6 false m_joined, []⟩
def fs_joined : List (Str × FI) := ("reduced", fi_reduced) :: fs_reduced
def mu_joined : List (Nat × Nat) := []
theorem sc_joined : FnScope N_joined ["row", "basis"] (defScope s_joined) := ⟨rfl, rfl, rfl, by decide +kernel, rfl, by decide +kernel, by decide +kernel⟩
theorem c_joined : cSs 60 60 (ccOf N_joined (defScope s_joined) mu_joined fs_joined cs cl0 kt) (defBody s_joined) = some m_joined := by kernel_rfl
/-! ### rank_of -/
abbrev s_rank_of : Stmt := topS 16
def N_rank_of : List Str := ["rows", "basis", "row"]
def m_rank_of : MS :=
  (mThen (mAsg (mLst false mNil) (gNm 1))
  (mThen (mFor (mSeq (mVar 0)) (mTg (.one 2))
  (mThen (mAsg (mBin ixX (mCall (callW fi_joined) (mCons (mVar 2) (mCons (mVar 1) mNil))) (mConst (.int 0))) (gNm 1))
  mSkip))
  (mThen (mRet (mCall (on1 (lenC cl0)) (mCons (mVar 1) mNil)))
  mSkip)))
def fi_rank_of : FI := ⟨1, false, runFn 3 false m_rank_of, []⟩
def fs_rank_of : List (Str × FI) := ("joined", fi_joined) :: fs_joined
def mu_rank_of : List (Nat × Nat) := []
theorem sc_rank_of : FnScope N_rank_of ["rows"] (defScope s_rank_of) := ⟨rfl, rfl, rfl, by decide +kernel, rfl, by decide +kernel, by decide +kernel⟩
theorem c_rank_of : cSs 60 60 (ccOf N_rank_of (defScope s_rank_of) mu_rank_of fs_rank_of cs cl0 kt) (defBody s_rank_of) = some m_rank_of := by kernel_rfl
/-! ### is_number -/
abbrev s_is_number : Stmt := topS 8
def N_is_number : List Str := ["value", "low", "high"]
def m_is_number : MS :=
  (mThen (mRet (mAndV (mCall (on2 (isiC cl0 kt)) (mCons (mVar 0) (mCons (mConst (.ty "int")) mNil))) (mAndV (mNotV (mCall (on2 (isiC cl0 kt)) (mCons (mVar 0) (mCons (mConst (.ty "bool")) mNil)))) (mChain leW leW (mVar 1) (mVar 0) (mVar 2)))))
  mSkip)
def fi_is_number : FI := ⟨3, false, runFn 3 false m_is_number, []⟩
def fs_is_number : List (Str × FI) := ("rank_of", fi_rank_of) :: fs_rank_of
def mu_is_number : List (Nat × Nat) := []
theorem sc_is_number : FnScope N_is_number ["value", "low", "high"] (defScope s_is_number) := ⟨rfl, rfl, rfl, by decide +kernel, rfl, by decide +kernel, by decide +kernel⟩
theorem c_is_number : cSs 60 60 (ccOf N_is_number (defScope s_is_number) mu_is_number fs_is_number cs cl0 kt) (defBody s_is_number) = some m_is_number := by kernel_rfl
/-! ### is_signs -/
abbrev s_is_signs : Stmt := topS 9
def N_is_signs : List Str := ["value"]
def m_is_signs : MS :=
  (mThen (mRet (mCall (callW fi_is_number) (mCons (mVar 0) (mCons (mConst (.int 1)) (mCons (mConst (.int 8)) mNil)))))
  mSkip)
def fi_is_signs : FI := ⟨1, false, runFn 1 false m_is_signs, []⟩
def fs_is_signs : List (Str × FI) := ("is_number", fi_is_number) :: fs_is_number
def mu_is_signs : List (Nat × Nat) := []
theorem sc_is_signs : FnScope N_is_signs ["value"] (defScope s_is_signs) := ⟨rfl, rfl, rfl, by decide +kernel, rfl, by decide +kernel, by decide +kernel⟩
theorem c_is_signs : cSs 60 60 (ccOf N_is_signs (defScope s_is_signs) mu_is_signs fs_is_signs cs cl0 kt) (defBody s_is_signs) = some m_is_signs := by kernel_rfl
/-! ### check_signs -/
abbrev s_check_signs : Stmt := topS 10
def N_check_signs : List Str := ["signs"]
def m_check_signs : MS :=
  (mThen (mIfS (mNot (mTruC cl0 (mCall (callW fi_is_signs) (mCons (mVar 0) mNil))))
  (mThen mStuck
  mSkip)
  mSkip)
  mSkip)
def fi_check_signs : FI := ⟨1, false, runFn 1 false m_check_signs, []⟩
def fs_check_signs : List (Str × FI) := ("is_signs", fi_is_signs) :: fs_is_signs
def mu_check_signs : List (Nat × Nat) := []
theorem sc_check_signs : FnScope N_check_signs ["signs"] (defScope s_check_signs) := ⟨rfl, rfl, rfl, by decide +kernel, rfl, by decide +kernel, by decide +kernel⟩
theorem c_check_signs : cSs 60 60 (ccOf N_check_signs (defScope s_check_signs) mu_check_signs fs_check_signs cs cl0 kt) (defBody s_check_signs) = some m_check_signs := by kernel_rfl
/-! ### is_weights -/
abbrev s_is_weights : Stmt := topS 19
def N_is_weights : List Str := ["value", "size", "number"]
def m_is_weights : MS :=
  (mThen (mIfS (mOr (mNot (mTruC cl0 (mCall (on2 (isiC cl0 kt)) (mCons (mVar 0) (mCons (mConst (.ty "tuple")) mNil))))) (mAsB (mBin (neZ cl0 kt) (mCall (on1 (lenC cl0)) (mCons (mVar 0) mNil)) (mVar 1))))
  (mThen (mRet (mConst (.bl false)))
  mSkip)
  mSkip)
  (mThen (mRet (mCall (on1 allW) (mCons (mLc false (mSeq (mVar 0)) (.one 2) [2] mYes (mCall (callW fi_is_number) (mCons (mVar 2) (mCons (mUn negW (mConst (.int 1000))) (mCons (mConst (.int 1000)) mNil))))) mNil)))
  mSkip))
def fi_is_weights : FI := ⟨2, false, runFn 3 false m_is_weights, []⟩
def fs_is_weights : List (Str × FI) := ("check_signs", fi_check_signs) :: fs_check_signs
def mu_is_weights : List (Nat × Nat) := []
theorem sc_is_weights : FnScope N_is_weights ["value", "size"] (defScope s_is_weights) := ⟨rfl, rfl, rfl, by decide +kernel, rfl, by decide +kernel, by decide +kernel⟩
theorem c_is_weights : cSs 60 60 (ccOf N_is_weights (defScope s_is_weights) mu_is_weights fs_is_weights cs cl0 kt) (defBody s_is_weights) = some m_is_weights := by kernel_rfl
/-! ### is_weight_table -/
abbrev s_is_weight_table : Stmt := topS 20
def N_is_weight_table : List Str := ["value", "size", "row"]
def m_is_weight_table : MS :=
  (mThen (mRet (mAndV (mCall (on2 (isiC cl0 kt)) (mCons (mVar 0) (mCons (mConst (.ty "tuple")) mNil))) (mAndV (mBin (eqZ cl0 kt) (mCall (on1 (lenC cl0)) (mCons (mVar 0) mNil)) (mVar 1)) (mCall (on1 allW) (mCons (mLc false (mSeq (mVar 0)) (.one 2) [2] mYes (mCall (callW fi_is_weights) (mCons (mVar 2) (mCons (mVar 1) mNil)))) mNil)))))
  mSkip)
def fi_is_weight_table : FI := ⟨2, false, runFn 3 false m_is_weight_table, []⟩
def fs_is_weight_table : List (Str × FI) := ("is_weights", fi_is_weights) :: fs_is_weights
def mu_is_weight_table : List (Nat × Nat) := []
theorem sc_is_weight_table : FnScope N_is_weight_table ["value", "size"] (defScope s_is_weight_table) := ⟨rfl, rfl, rfl, by decide +kernel, rfl, by decide +kernel, by decide +kernel⟩
theorem c_is_weight_table : cSs 60 60 (ccOf N_is_weight_table (defScope s_is_weight_table) mu_is_weight_table fs_is_weight_table cs cl0 kt) (defBody s_is_weight_table) = some m_is_weight_table := by kernel_rfl
def ci_Weigher_0 : CI := ⟨["parts"], none, [], none, none, false, none⟩
def cl1 : List (Str × CI) := ("Weigher", ci_Weigher_0) :: cl0
/-! ### Weigher_init -/
abbrev s_Weigher_init : Stmt := inS 21 0
def N_Weigher_init : List Str := ["self", "signs", "begins", "tables", "goals", "table"]
def m_Weigher_init : MS :=
  (mThen (mExpr (mCall (callW fi_check_signs) (mCons (mVar 1) mNil)))
  (mThen (mIfS (mOr (mNot (mTruC cl1 (mCall (on2 (isiC cl1 kt)) (mCons (mVar 2) (mCons (mConst (.ty "tuple")) mNil))))) (mOr (mNot (mAsB (mChain leW leW (mConst (.int 1)) (mCall (on1 (lenC cl1)) (mCons (mVar 2) mNil)) (mConst (.int 6))))) (mNot (mTruC cl1 (mCall (callW fi_is_weights) (mCons (mVar 2) (mCons (mCall (on1 (lenC cl1)) (mCons (mVar 2) mNil)) mNil)))))))
  (mThen mStuck
  mSkip)
  mSkip)
  (mThen (mIfS (mOr (mNot (mTruC cl1 (mCall (on2 (isiC cl1 kt)) (mCons (mVar 3) (mCons (mConst (.ty "tuple")) mNil))))) (mAsB (mBin (neZ cl1 kt) (mCall (on1 (lenC cl1)) (mCons (mVar 3) mNil)) (mVar 1))))
  (mThen mStuck
  mSkip)
  mSkip)
  (mThen (mIfS (mNot (mTruC cl1 (mCall (on1 allW) (mCons (mLc false (mSeq (mVar 3)) (.one 5) [5] mYes (mCall (callW fi_is_weight_table) (mCons (mVar 5) (mCons (mCall (on1 (lenC cl1)) (mCons (mVar 2) mNil)) mNil)))) mNil))))
  (mThen mStuck
  mSkip)
  mSkip)
  (mThen (mIfS (mNot (mTruC cl1 (mCall (callW fi_is_weights) (mCons (mVar 4) (mCons (mCall (on1 (lenC cl1)) (mCons (mVar 2) mNil)) mNil)))))
  (mThen mStuck
  mSkip)
  mSkip)
  (mThen (mSetF cl1 "parts" (mTup (mCons (mVar 1) (mCons (mVar 2) (mCons (mVar 3) (mCons (mVar 4) mNil))))) (mVar 0))
  mSkip))))))
def fi_Weigher_init : FI := ⟨5, true, runFn 6 false m_Weigher_init, []⟩
def fs_Weigher_init : List (Str × FI) := ("is_weight_table", fi_is_weight_table) :: fs_is_weight_table
def mu_Weigher_init : List (Nat × Nat) := []
theorem sc_Weigher_init : FnScope N_Weigher_init ["self", "signs", "begins", "tables", "goals"] (defScope s_Weigher_init) := ⟨rfl, rfl, rfl, by decide +kernel, rfl, by decide +kernel, by decide +kernel⟩
theorem c_Weigher_init : cSs 60 60 (ccOf N_Weigher_init (defScope s_Weigher_init) mu_Weigher_init fs_Weigher_init cs cl1 kt) (defBody s_Weigher_init) = some m_Weigher_init := by kernel_rfl
/-! ### Weigher_signs -/
abbrev s_Weigher_signs : Stmt := inS 21 1
def N_Weigher_signs : List Str := ["self"]
def m_Weigher_signs : MS :=
  (mThen (mRet (mBin ixX (mUn (attrW cl1 "parts") (mVar 0)) (mConst (.int 0))))
  mSkip)
def fi_Weigher_signs : FI := ⟨1, false, runFn 1 false m_Weigher_signs, []⟩
def fs_Weigher_signs : List (Str × FI) := ("is_weight_table", fi_is_weight_table) :: fs_is_weight_table
def mu_Weigher_signs : List (Nat × Nat) := []
theorem sc_Weigher_signs : FnScope N_Weigher_signs ["self"] (defScope s_Weigher_signs) := ⟨rfl, rfl, rfl, by decide +kernel, rfl, by decide +kernel, by decide +kernel⟩
theorem c_Weigher_signs : cSs 60 60 (ccOf N_Weigher_signs (defScope s_Weigher_signs) mu_Weigher_signs fs_Weigher_signs cs cl1 kt) (defBody s_Weigher_signs) = some m_Weigher_signs := by kernel_rfl
/-! ### Weigher_size -/
abbrev s_Weigher_size : Stmt := inS 21 2
def N_Weigher_size : List Str := ["self"]
def m_Weigher_size : MS :=
  (mThen (mRet (mCall (on1 (lenC cl1)) (mCons (mBin ixX (mUn (attrW cl1 "parts") (mVar 0)) (mConst (.int 1))) mNil)))
  mSkip)
def fi_Weigher_size : FI := ⟨1, false, runFn 1 false m_Weigher_size, []⟩
def fs_Weigher_size : List (Str × FI) := ("is_weight_table", fi_is_weight_table) :: fs_is_weight_table
def mu_Weigher_size : List (Nat × Nat) := []
theorem sc_Weigher_size : FnScope N_Weigher_size ["self"] (defScope s_Weigher_size) := ⟨rfl, rfl, rfl, by decide +kernel, rfl, by decide +kernel, by decide +kernel⟩
theorem c_Weigher_size : cSs 60 60 (ccOf N_Weigher_size (defScope s_Weigher_size) mu_Weigher_size fs_Weigher_size cs cl1 kt) (defBody s_Weigher_size) = some m_Weigher_size := by kernel_rfl
/-! ### Weigher_begins -/
abbrev s_Weigher_begins : Stmt := inS 21 3
def N_Weigher_begins : List Str := ["self"]
def m_Weigher_begins : MS :=
  (mThen (mRet (mBin ixX (mUn (attrW cl1 "parts") (mVar 0)) (mConst (.int 1))))
  mSkip)
def fi_Weigher_begins : FI := ⟨1, false, runFn 1 false m_Weigher_begins, []⟩
def fs_Weigher_begins : List (Str × FI) := ("is_weight_table", fi_is_weight_table) :: fs_is_weight_table
def mu_Weigher_begins : List (Nat × Nat) := []
theorem sc_Weigher_begins : FnScope N_Weigher_begins ["self"] (defScope s_Weigher_begins) := ⟨rfl, rfl, rfl, by decide +kernel, rfl, by decide +kernel, by decide +kernel⟩
theorem c_Weigher_begins : cSs 60 60 (ccOf N_Weigher_begins (defScope s_Weigher_begins) mu_Weigher_begins fs_Weigher_begins cs cl1 kt) (defBody s_Weigher_begins) = some m_Weigher_begins := by kernel_rfl
/-! ### Weigher_tables -/
abbrev s_Weigher_tables : Stmt := inS 21 4
def N_Weigher_tables : List Str := ["self"]
def m_Weigher_tables : MS :=
  (mThen (mRet (mBin ixX (mUn (attrW cl1 "parts") (mVar 0)) (mConst (.int 2))))
  mSkip)
def fi_Weigher_tables : FI := ⟨1, false, runFn 1 false m_Weigher_tables, []⟩
def fs_Weigher_tables : List (Str × FI) := ("is_weight_table", fi_is_weight_table) :: fs_is_weight_table
def mu_Weigher_tables : List (Nat × Nat) := []
theorem sc_Weigher_tables : FnScope N_Weigher_tables ["self"] (defScope s_Weigher_tables) := ⟨rfl, rfl, rfl, by decide +kernel, rfl, by decide +kernel, by decide +kernel⟩
theorem c_Weigher_tables : cSs 60 60 (ccOf N_Weigher_tables (defScope s_Weigher_tables) mu_Weigher_tables fs_Weigher_tables cs cl1 kt) (defBody s_Weigher_tables) = some m_Weigher_tables := by kernel_rfl
/-! ### Weigher_goals -/
abbrev s_Weigher_goals : Stmt := inS 21 5
def N_Weigher_goals : List Str := ["self"]
def m_Weigher_goals : MS :=
  (mThen (mRet (mBin ixX (mUn (attrW cl1 "parts") (mVar 0)) (mConst (.int 3))))
  mSkip)
def fi_Weigher_goals : FI := ⟨1, false, runFn 1 false m_Weigher_goals, []⟩
def fs_Weigher_goals : List (Str × FI) := ("is_weight_table", fi_is_weight_table) :: fs_is_weight_table
def mu_Weigher_goals : List (Nat × Nat) := []
theorem sc_Weigher_goals : FnScope N_Weigher_goals ["self"] (defScope s_Weigher_goals) := ⟨rfl, rfl, rfl, by decide +kernel, rfl, by decide +kernel, by decide +kernel⟩
theorem c_Weigher_goals : cSs 60 60 (ccOf N_Weigher_goals (defScope s_Weigher_goals) mu_Weigher_goals fs_Weigher_goals cs cl1 kt) (defBody s_Weigher_goals) = some m_Weigher_goals := by kernel_rfl
def ci_Weigher_1 : CI := ⟨["parts"], some fi_Weigher_init, [("signs", fi_Weigher_signs), ("size", fi_Weigher_size), ("begins", fi_Weigher_begins), ("tables", fi_Weigher_tables), ("goals", fi_Weigher_goals)], none, none, true, none⟩
def cl2 : List (Str × CI) := ("Weigher", ci_Weigher_1) :: cl1
/-! ### Weigher_eq -/
abbrev s_Weigher_eq : Stmt := inS 21 6
def N_Weigher_eq : List Str := ["self", "other"]
def m_Weigher_eq : MS :=
  (mThen (mRet (mAndV (mCall (on2 (isiC cl2 kt)) (mCons (mVar 1) (mCons (mConst (.glo "Weigher")) mNil))) (mBin (eqZ cl2 kt) (mUn (attrW cl2 "parts") (mVar 0)) (mTup (mCons (mUn (attrW cl2 "signs") (mVar 1)) (mCons (mUn (attrW cl2 "begins") (mVar 1)) (mCons (mUn (attrW cl2 "tables") (mVar 1)) (mCons (mUn (attrW cl2 "goals") (mVar 1)) mNil))))))))
  mSkip)
def fi_Weigher_eq : FI := ⟨2, false, runFn 2 false m_Weigher_eq, []⟩
def fs_Weigher_eq : List (Str × FI) := ("is_weight_table", fi_is_weight_table) :: fs_is_weight_table
def mu_Weigher_eq : List (Nat × Nat) := []
theorem sc_Weigher_eq : FnScope N_Weigher_eq ["self", "other"] (defScope s_Weigher_eq) := ⟨rfl, rfl, rfl, by decide +kernel, rfl, by decide +kernel, by decide +kernel⟩
theorem c_Weigher_eq : cSs 60 60 (ccOf N_Weigher_eq (defScope s_Weigher_eq) mu_Weigher_eq fs_Weigher_eq cs cl2 kt) (defBody s_Weigher_eq) = some m_Weigher_eq := by kernel_rfl
def ci_Weigher_2 : CI := ⟨["parts"], some fi_Weigher_init, [("signs", fi_Weigher_signs), ("size", fi_Weigher_size), ("begins", fi_Weigher_begins), ("tables", fi_Weigher_tables), ("goals", fi_Weigher_goals)], some fi_Weigher_eq, none, true, none⟩
def cl3 : List (Str × CI) := ("Weigher", ci_Weigher_2) :: cl2
/-! ### check_weigher -/
abbrev s_check_weigher : Stmt := topS 22
def N_check_weigher : List Str := ["value"]
def m_check_weigher : MS :=
  (mThen (mIfS (mNot (mTruC cl3 (mCall (on2 (isiC cl3 kt)) (mCons (mVar 0) (mCons (mConst (.glo "Weigher")) mNil)))))
  (mThen mStuck
  mSkip)
  mSkip)
  mSkip)
def fi_check_weigher : FI := ⟨1, false, runFn 1 false m_check_weigher, []⟩
def fs_check_weigher : List (Str × FI) := ("is_weight_table", fi_is_weight_table) :: fs_is_weight_table
def mu_check_weigher : List (Nat × Nat) := []
theorem sc_check_weigher : FnScope N_check_weigher ["value"] (defScope s_check_weigher) := ⟨rfl, rfl, rfl, by decide +kernel, rfl, by decide +kernel, by decide +kernel⟩
theorem c_check_weigher : cSs 60 60 (ccOf N_check_weigher (defScope s_check_weigher) mu_check_weigher fs_check_weigher cs cl3 kt) (defBody s_check_weigher) = some m_check_weigher := by kernel_rfl
/-! ### weighed -/
abbrev s_weighed : Stmt := topS 24
def N_weighed : List Str := ["numbers", "goals", "number", "goal"]
def m_weighed : MS :=
  (mThen (mRet (mCall (on1 sumW) (mCons (mLc false (mZip (mCons (mVar 0) (mCons (mVar 1) mNil))) (.many [2, 3]) [2, 3] mYes (mBin mulW (mVar 2) (mVar 3))) mNil)))
  mSkip)
def fi_weighed : FI := ⟨2, false, runFn 4 false m_weighed, []⟩
def fs_weighed : List (Str × FI) := ("check_weigher", fi_check_weigher) :: fs_check_weigher
def mu_weighed : List (Nat × Nat) := []
theorem sc_weighed : FnScope N_weighed ["numbers", "goals"] (defScope s_weighed) := ⟨rfl, rfl, rfl, by decide +kernel, rfl, by decide +kernel, by decide +kernel⟩
theorem c_weighed : cSs 60 60 (ccOf N_weighed (defScope s_weighed) mu_weighed fs_weighed cs cl3 kt) (defBody s_weighed) = some m_weighed := by kernel_rfl
/-! ### moved -/
abbrev s_moved : Stmt := topS 23
def N_moved : List Str := ["numbers", "table", "place", "number", "row"]
def m_moved : MS :=
  (mThen (mRet (mLc false (mRng rng1 (mCons (mCall (on1 (lenC cl3)) (mCons (mVar 1) mNil)) mNil)) (.one 2) [2] mYes (mCall (on1 sumW) (mCons (mLc false (mZip (mCons (mVar 0) (mCons (mVar 1) mNil))) (.many [3, 4]) [3, 4] mYes (mBin mulW (mVar 3) (mBin ixX (mVar 4) (mVar 2)))) mNil))))
  mSkip)
def fi_moved : FI := ⟨2, false, runFn 5 false m_moved, []⟩
def fs_moved : List (Str × FI) := ("weighed", fi_weighed) :: fs_weighed
def mu_moved : List (Nat × Nat) := []
theorem sc_moved : FnScope N_moved ["numbers", "table"] (defScope s_moved) := ⟨rfl, rfl, rfl, by decide +kernel, rfl, by decide +kernel, by decide +kernel⟩
theorem c_moved : cSs 60 60 (ccOf N_moved (defScope s_moved) mu_moved fs_moved cs cl3 kt) (defBody s_moved) = some m_moved := by kernel_rfl
/-! ### spanned -/
abbrev s_spanned : Stmt := topS 25
def N_spanned : List Str := ["first", "tables", "basis", "found", "line", "at", "numbers", "is_new", "table"]
def m_spanned : MS :=
  (mThen (mPar [2, 3, 4] (mCons (mLst false mNil) (mCons (mLst true mNil) (mCons (mLst true (mCons (mCall (on1 (listX false)) (mCons (mVar 0) mNil)) mNil)) mNil))))
  (mThen (mAsg (mConst (.int 0)) (gNm 5))
  (mThen (mWhile (mAsB (mBin ltW (mVar 5) (mCall (on1 (lenC cl3)) (mCons (mVar 4) mNil))))
  (mThen (mAsg (mBin ixX (mVar 4) (mVar 5)) (gNm 6))
  (mThen (mAsg (mBin addW (mVar 5) (mConst (.int 1))) (gNm 5))
  (mThen (mAsg (mCall (callW fi_joined) (mCons (mVar 6) (mCons (mVar 2) mNil))) (gTupG [(gNm 2), (gNm 7)]))
  (mThen (mIfS (mTruC cl3 (mVar 7))
  (mThen (mExpr (mBM "list" appendL (mVar 3) (mCons (mVar 6) mNil)))
  (mThen (mExpr (mBM "list" extendL (mVar 4) (mCons (mLc false (mSeq (mVar 1)) (.one 8) [8] mYes (mCall (callW fi_moved) (mCons (mVar 6) (mCons (mVar 8) mNil)))) mNil)))
  mSkip))
  mSkip)
  mSkip)))))
  (mThen (mRet (mVar 3))
  mSkip))))
def fi_spanned : FI := ⟨2, false, runFn 9 false m_spanned, []⟩
def fs_spanned : List (Str × FI) := ("moved", fi_moved) :: fs_moved
def mu_spanned : List (Nat × Nat) := [(108, 30), (108, 34)]
theorem sc_spanned : FnScope N_spanned ["first", "tables"] (defScope s_spanned) := ⟨rfl, rfl, rfl, by decide +kernel, rfl, by decide +kernel, by decide +kernel⟩
theorem c_spanned : cSs 60 60 (ccOf N_spanned (defScope s_spanned) mu_spanned fs_spanned cs cl3 kt) (defBody s_spanned) = some m_spanned := by kernel_rfl
/-! ### crossed -/
abbrev s_crossed : Stmt := topS 26
def N_crossed : List Str := ["table", "place", "row"]
def m_crossed : MS :=
  (mThen (mRet (mLc false (mRng rng1 (mCons (mCall (on1 (lenC cl3)) (mCons (mVar 0) mNil)) mNil)) (.one 1) [1] mYes (mLc false (mSeq (mVar 0)) (.one 2) [2] mYes (mBin ixX (mVar 2) (mVar 1)))))
  mSkip)
def fi_crossed : FI := ⟨1, false, runFn 3 false m_crossed, []⟩
def fs_crossed : List (Str × FI) := ("spanned", fi_spanned) :: fs_spanned
def mu_crossed : List (Nat × Nat) := []
theorem sc_crossed : FnScope N_crossed ["table"] (defScope s_crossed) := ⟨rfl, rfl, rfl, by decide +kernel, rfl, by decide +kernel, by decide +kernel⟩
theorem c_crossed : cSs 60 60 (ccOf N_crossed (defScope s_crossed) mu_crossed fs_crossed cs cl3 kt) (defBody s_crossed) = some m_crossed := by kernel_rfl
/-! ### order_of -/
abbrev s_order_of : Stmt := topS 27
def N_order_of : List Str := ["weigher", "ahead", "behind", "table", "one", "two"]
def m_order_of : MS :=
  (mThen (mExpr (mCall (callW fi_check_weigher) (mCons (mVar 0) mNil)))
  (mThen (mAsg (mCall (callW fi_spanned) (mCons (mUn (attrW cl3 "begins") (mVar 0)) (mCons (mUn (attrW cl3 "tables") (mVar 0)) mNil))) (gNm 1))
  (mThen (mAsg (mCall (callW fi_spanned) (mCons (mUn (attrW cl3 "goals") (mVar 0)) (mCons (mLc false (mSeq (mUn (attrW cl3 "tables") (mVar 0))) (.one 3) [3] mYes (mCall (callW fi_crossed) (mCons (mVar 3) mNil))) mNil))) (gNm 2))
  (mThen (mRet (mCall (maxW) (mCons (mConst (.int 1)) (mCons (mCall (callW fi_rank_of) (mCons (mLc false (mSeq (mVar 1)) (.one 4) [4] mYes (mLc false (mSeq (mVar 2)) (.one 5) [5] mYes (mCall (callW fi_weighed) (mCons (mVar 4) (mCons (mVar 5) mNil))))) mNil)) mNil))))
  mSkip))))
def fi_order_of : FI := ⟨1, false, runFn 6 false m_order_of, [(["weigher"], [0])]⟩
def fs_order_of : List (Str × FI) := ("crossed", fi_crossed) :: fs_crossed
def mu_order_of : List (Nat × Nat) := []
theorem sc_order_of : FnScope N_order_of ["weigher"] (defScope s_order_of) := ⟨rfl, rfl, rfl, by decide +kernel, rfl, by decide +kernel, by decide +kernel⟩
theorem c_order_of : cSs 60 60 (ccOf N_order_of (defScope s_order_of) mu_order_of fs_order_of cs cl3 kt) (defBody s_order_of) = some m_order_of := by kernel_rfl
/-! ### _law_pour -/
abbrev s__law_pour : Stmt := topS 30
def N__law_pour : List Str := ["_law_flask_here", "_law_top", "_law_digit", "_law_level_here", "_law_factor"]
def m__law_pour : MS :=
  (mThen (mAsg (mBin addW (mBin ixX (mVar 0) (mConst (.int 1))) (mConst (.int 1))) (gSx (mVar 0) (mConst (.int 1))))
  (mThen (mIfS (mAsB (mBin gtW (mBin ixX (mVar 0) (mConst (.int 2))) (mConst (.int 0))))
  (mThen (mAsg (mCall (on2 divmodW) (mCons (mCall (on1 intW) (mCons (mBin ixX (mVar 0) (mConst (.int 2))) mNil)) (mCons (mVar 1) mNil))) (gTupG [(gSx (mVar 0) (mConst (.int 2))), (gNm 2)]))
  (mThen (mRet (mVar 2))
  mSkip))
  mSkip)
  (mThen (mAsg (mCall (on1 intW) (mCons (mBin ixX (mVar 0) (mConst (.int 0))) mNil)) (gNm 3))
  (mThen (mAsg (mBin addW (mBin modW (mCall (on1 intW) (mCons (mVar 3) mNil)) (mConst (.int 17011))) (mConst (.int 61001))) (gNm 4))
  (mThen (mAsg (mBin modW (mCall (on1 intW) (mCons (mBin addW (mBin addW (mBin mulW (mVar 3) (mVar 4)) (mBin mulW (mConst (.int 70001)) (mBin ixX (mVar 0) (mConst (.int 1))))) (mConst (.int 17))) mNil)) (mConst (.int 2147482811))) (gSx (mVar 0) (mConst (.int 0))))
  (mThen (mRet (mBin modW (mCall (on1 intW) (mCons (mBin fdivW (mBin ixX (mVar 0) (mConst (.int 0))) (mConst (.int 4099))) mNil)) (mVar 1)))
  mSkip))))))
def fi__law_pour : FI := ⟨2, true, runFn 5 false m__law_pour, []⟩
def fs__law_pour : List (Str × FI) := ("order_of", fi_order_of) :: fs_order_of
def mu__law_pour : List (Nat × Nat) := []
theorem sc__law_pour : FnScope N__law_pour ["_law_flask_here", "_law_top"] (defScope s__law_pour) := ⟨rfl, rfl, rfl, by decide +kernel, rfl, by decide +kernel, by decide +kernel⟩
theorem c__law_pour : cSs 60 60 (ccOf N__law_pour (defScope s__law_pour) mu__law_pour fs__law_pour cs cl3 kt) (defBody s__law_pour) = some m__law_pour := by kernel_rfl
/-! ### _law_pick -/
abbrev s__law_pick : Stmt := topS 31
def N__law_pick : List Str := ["_law_flask_here", "_law_some"]
def m__law_pick : MS :=
  (mThen (mRet (mBin ixX (mVar 1) (mCall (callW fi__law_pour) (mCons (mVar 0) (mCons (mCall (on1 (lenC cl3)) (mCons (mVar 1) mNil)) mNil)))))
  mSkip)
def fi__law_pick : FI := ⟨2, true, runFn 2 false m__law_pick, []⟩
def fs__law_pick : List (Str × FI) := ("_law_pour", fi__law_pour) :: fs__law_pour
def mu__law_pick : List (Nat × Nat) := []
theorem sc__law_pick : FnScope N__law_pick ["_law_flask_here", "_law_some"] (defScope s__law_pick) := ⟨rfl, rfl, rfl, by decide +kernel, rfl, by decide +kernel, by decide +kernel⟩
theorem c__law_pick : cSs 60 60 (ccOf N__law_pick (defScope s__law_pick) mu__law_pick fs__law_pick cs cl3 kt) (defBody s__law_pick) = some m__law_pick := by kernel_rfl
/-! ### _law_parts -/
abbrev s__law_parts : Stmt := topS 32
def N__law_parts : List Str := ["_law_flask_here", "_law_signs", "_law_most", "_law_size", "_law_menu", "_law_tables_here", "_law_sign", "_law_begins_here", "_law_j", "_law_k"]
def m__law_parts : MS :=
  (mThen (mUnp (mCons (mBin addW (mConst (.int 1)) (mCall (callW fi__law_pour) (mCons (mVar 0) (mCons (mVar 2) mNil)))) (mCons (mLst false (mCons (mConst (.int 0)) (mCons (mConst (.int 0)) (mCons (mConst (.int 0)) (mCons (mConst (.int 1)) (mCons (mConst (.int 1)) (mCons (mUn negW (mConst (.int 1))) (mCons (mConst (.int 2)) (mCons (mUn negW (mConst (.int 3))) mNil))))))))) mNil)) [(gNm 3), (gNm 4)])
  (mThen (mAsg (mLst true mNil) (gNm 5))
  (mThen (mFor (mRng rng1 (mCons (mVar 1) mNil)) (mTg (.one 6))
  (mThen (mExpr (mBM "list" appendL (mVar 5) (mCons (mCall (on1 tupleW) (mCons (mLc false (mRng rng1 (mCons (mVar 3) mNil)) (.one 8) [8] mYes (mCall (on1 tupleW) (mCons (mLc false (mRng rng1 (mCons (mVar 3) mNil)) (.one 9) [9] mYes (mCall (callW fi__law_pick) (mCons (mVar 0) (mCons (mVar 4) mNil)))) mNil))) mNil)) mNil)))
  mSkip))
  (mThen (mAsg (mCall (on1 tupleW) (mCons (mLc false (mRng rng1 (mCons (mVar 3) mNil)) (.one 9) [9] mYes (mCall (callW fi__law_pick) (mCons (mVar 0) (mCons (mVar 4) mNil)))) mNil)) (gNm 7))
  (mThen (mRet (mTup (mCons (mVar 7) (mCons (mCall (on1 tupleW) (mCons (mVar 5) mNil)) (mCons (mCall (on1 tupleW) (mCons (mLc false (mRng rng1 (mCons (mVar 3) mNil)) (.one 9) [9] mYes (mCall (callW fi__law_pick) (mCons (mVar 0) (mCons (mBin addW (mVar 4) (mLst false (mCons (mConst (.int 1000)) mNil))) mNil)))) mNil)) mNil)))))
  mSkip)))))
def fi__law_parts : FI := ⟨3, true, runFn 10 false m__law_parts, []⟩
def fs__law_parts : List (Str × FI) := ("_law_pick", fi__law_pick) :: fs__law_pick
def mu__law_parts : List (Nat × Nat) := [(145, 23)]
theorem sc__law_parts : FnScope N__law_parts ["_law_flask_here", "_law_signs", "_law_most"] (defScope s__law_parts) := ⟨rfl, rfl, rfl, by decide +kernel, rfl, by decide +kernel, by decide +kernel⟩
theorem c__law_parts : cSs 60 60 (ccOf N__law_parts (defScope s__law_parts) mu__law_parts fs__law_parts cs cl3 kt) (defBody s__law_parts) = some m__law_parts := by kernel_rfl
/-! ### _law_made -/
abbrev s__law_made : Stmt := topS 34
def N__law_made : List Str := ["_law_signs", "_law_parts_here"]
def m__law_made : MS :=
  (mThen (mRet (mCall (makeW "Weigher" fi_Weigher_init) (mCons (mVar 0) (mCons (mBin ixX (mVar 1) (mConst (.int 0))) (mCons (mBin ixX (mVar 1) (mConst (.int 1))) (mCons (mBin ixX (mVar 1) (mConst (.int 2))) mNil))))))
  mSkip)
def fi__law_made : FI := ⟨2, false, runFn 2 false m__law_made, []⟩
def fs__law_made : List (Str × FI) := ("_law_parts", fi__law_parts) :: fs__law_parts
def mu__law_made : List (Nat × Nat) := []
theorem sc__law_made : FnScope N__law_made ["_law_signs", "_law_parts_here"] (defScope s__law_made) := ⟨rfl, rfl, rfl, by decide +kernel, rfl, by decide +kernel, by decide +kernel⟩
theorem c__law_made : cSs 60 60 (ccOf N__law_made (defScope s__law_made) mu__law_made fs__law_made cs cl3 kt) (defBody s__law_made) = some m__law_made := by kernel_rfl
/-! ### _law_wider -/
abbrev s__law_wider : Stmt := topS 37
def N__law_wider : List Str := ["_law_flask_here", "_law_parts_here", "_law_begins_here", "_law_tables_here", "_law_goals_here", "_law_size", "_law_found", "_law_is_shut", "_law_table_here", "_law_rows_here", "_law_last", "_law_row", "_law_k"]
def m__law_wider : MS :=
  (mThen (mAsg (mVar 1) (gTupG [(gNm 2), (gNm 3), (gNm 4)]))
  (mThen (mPar [5, 6] (mCons (mCall (on1 (lenC cl3)) (mCons (mVar 2) mNil)) (mCons (mLst true mNil) mNil)))
  (mThen (mAsg (mBin (eqZ cl3 kt) (mCall (callW fi__law_pour) (mCons (mVar 0) (mCons (mConst (.int 2)) mNil))) (mConst (.int 0))) (gNm 7))
  (mThen (mFor (mSeq (mVar 3)) (mTg (.one 8))
  (mThen (mAsg (mLc false (mSeq (mVar 8)) (.one 11) [11] mYes (mBin addW (mVar 11) (mTup (mCons (mIf (mTruC cl3 (mVar 7)) (mConst (.int 0)) (mCall (callW fi__law_pour) (mCons (mVar 0) (mCons (mConst (.int 3)) mNil)))) mNil)))) (gNm 9))
  (mThen (mAsg (mBin addW (mLc false (mRng rng1 (mCons (mVar 5) mNil)) (.one 12) [12] mYes (mIf (mTruC cl3 (mVar 7)) (mCall (callW fi__law_pour) (mCons (mVar 0) (mCons (mConst (.int 3)) mNil))) (mConst (.int 0)))) (mLst false (mCons (mCall (callW fi__law_pour) (mCons (mVar 0) (mCons (mConst (.int 3)) mNil))) mNil))) (gNm 10))
  (mThen (mExpr (mBM "list" appendL (mVar 6) (mCons (mBin addW (mCall (on1 tupleW) (mCons (mVar 9) mNil)) (mTup (mCons (mCall (on1 tupleW) (mCons (mVar 10) mNil)) mNil))) mNil)))
  mSkip))))
  (mThen (mAsg (mBin addW (mVar 2) (mTup (mCons (mIf (mTruC cl3 (mVar 7)) (mConst (.int 0)) (mConst (.int 2))) mNil))) (gNm 2))
  (mThen (mRet (mTup (mCons (mVar 2) (mCons (mCall (on1 tupleW) (mCons (mVar 6) mNil)) (mCons (mBin addW (mVar 4) (mTup (mCons (mIf (mTruC cl3 (mVar 7)) (mConst (.int 3)) (mConst (.int 0))) mNil))) mNil)))))
  mSkip))))))
def fi__law_wider : FI := ⟨2, true, runFn 13 false m__law_wider, []⟩
def fs__law_wider : List (Str × FI) := ("_law_made", fi__law_made) :: fs__law_made
def mu__law_wider : List (Nat × Nat) := [(179, 52)]
theorem sc__law_wider : FnScope N__law_wider ["_law_flask_here", "_law_parts_here"] (defScope s__law_wider) := ⟨rfl, rfl, rfl, by decide +kernel, rfl, by decide +kernel, by decide +kernel⟩
theorem c__law_wider : cSs 60 60 (ccOf N__law_wider (defScope s__law_wider) mu__law_wider fs__law_wider cs cl3 kt) (defBody s__law_wider) = some m__law_wider := by kernel_rfl
/-! ### _law_value -/
abbrev s__law_value : Stmt := topS 33
def N__law_value : List Str := ["_law_parts_here", "_law_row", "_law_line", "_law_letter", "_law_table_here", "_law_k", "_law_j"]
def m__law_value : MS :=
  (mThen (mAsg (mCall (on1 (listX false)) (mCons (mBin ixX (mVar 0) (mConst (.int 0))) mNil)) (gNm 2))
  (mThen (mFor (mSeq (mVar 1)) (mTg (.one 3))
  (mThen (mAsg (mBin ixX (mBin ixX (mVar 0) (mConst (.int 1))) (mBM "str" idxS (mConst (.str "abcdefgh")) (mCons (mVar 3) mNil))) (gNm 4))
  (mThen (mAsg (mLc false (mRng rng1 (mCons (mCall (on1 (lenC cl3)) (mCons (mVar 2) mNil)) mNil)) (.one 5) [5] mYes (mCall (on1 sumW) (mCons (mLc false (mRng rng1 (mCons (mCall (on1 (lenC cl3)) (mCons (mVar 2) mNil)) mNil)) (.one 6) [6] mYes (mBin mulW (mBin ixX (mVar 2) (mVar 6)) (mBin ixX (mBin ixX (mVar 4) (mVar 6)) (mVar 5)))) mNil))) (gNm 2))
  mSkip)))
  (mThen (mRet (mCall (on1 sumW) (mCons (mLc false (mRng rng1 (mCons (mCall (on1 (lenC cl3)) (mCons (mVar 2) mNil)) mNil)) (.one 5) [5] mYes (mBin mulW (mBin ixX (mVar 2) (mVar 5)) (mBin ixX (mBin ixX (mVar 0) (mConst (.int 2))) (mVar 5)))) mNil)))
  mSkip)))
def fi__law_value : FI := ⟨2, false, runFn 7 false m__law_value, []⟩
def fs__law_value : List (Str × FI) := ("_law_wider", fi__law_wider) :: fs__law_wider
def mu__law_value : List (Nat × Nat) := []
theorem sc__law_value : FnScope N__law_value ["_law_parts_here", "_law_row"] (defScope s__law_value) := ⟨rfl, rfl, rfl, by decide +kernel, rfl, by decide +kernel, by decide +kernel⟩
theorem c__law_value : cSs 60 60 (ccOf N__law_value (defScope s__law_value) mu__law_value fs__law_value cs cl3 kt) (defBody s__law_value) = some m__law_value := by kernel_rfl
/-! ### _law_words -/
abbrev s__law_words : Stmt := topS 35
def N__law_words : List Str := ["_law_signs", "_law_most", "_law_found", "_law_layer", "_law_turn", "_law_longer", "_law_row", "_law_letter"]
def m__law_words : MS :=
  (mThen (mPar [2, 3] (mCons (mLst false (mCons (mConst (.str "")) mNil)) (mCons (mLst false (mCons (mConst (.str "")) mNil)) mNil)))
  (mThen (mFor (mRng rng1 (mCons (mVar 1) mNil)) (mTg (.one 4))
  (mThen (mAsg (mLst false mNil) (gNm 5))
  (mThen (mFor (mSeq (mVar 3)) (mTg (.one 6))
  (mThen (mAsg (mBin addW (mVar 5) (mLc false (mSeq (mSl false (mConst (.str "abcdefgh")) none (some (mVar 0)))) (.one 7) [7] mYes (mBin addW (mVar 6) (mVar 7)))) (gNm 5))
  mSkip))
  (mThen (mPar [2, 3] (mCons (mBin addW (mVar 2) (mVar 5)) (mCons (mVar 5) mNil)))
  mSkip))))
  (mThen (mRet (mVar 2))
  mSkip)))
def fi__law_words : FI := ⟨2, false, runFn 8 false m__law_words, []⟩
def fs__law_words : List (Str × FI) := ("_law_value", fi__law_value) :: fs__law_value
def mu__law_words : List (Nat × Nat) := []
theorem sc__law_words : FnScope N__law_words ["_law_signs", "_law_most"] (defScope s__law_words) := ⟨rfl, rfl, rfl, by decide +kernel, rfl, by decide +kernel, by decide +kernel⟩
theorem c__law_words : cSs 60 60 (ccOf N__law_words (defScope s__law_words) mu__law_words fs__law_words cs cl3 kt) (defBody s__law_words) = some m__law_words := by kernel_rfl
/-! ### _law_rank -/
abbrev s__law_rank : Stmt := topS 36
def N__law_rank : List Str := ["_law_rows_here", "_law_left", "_law_found", "_law_spot", "_law_some", "_law_rest", "_law_lead", "_law_row", "_law_k"]
def m__law_rank : MS :=
  (mThen (mPar [1, 2] (mCons (mLc false (mSeq (mVar 0)) (.one 7) [7] mYes (mCall (on1 (listX false)) (mCons (mVar 7) mNil))) (mCons (mConst (.int 0)) mNil)))
  (mThen (mFor (mRng rng1 (mCons (mCall (on1 (lenC cl3)) (mCons (mBin ixX (mVar 1) (mConst (.int 0))) mNil)) mNil)) (mTg (.one 3))
  (mThen (mAsg (mLc false (mSeq (mVar 1)) (.one 7) [7] (mAsB (mBin (neZ cl3 kt) (mBin ixX (mVar 7) (mVar 3)) (mConst (.int 0)))) (mVar 7)) (gNm 4))
  (mThen (mAsg (mLc true (mSeq (mVar 1)) (.one 7) [7] (mAsB (mBin (eqZ cl3 kt) (mBin ixX (mVar 7) (mVar 3)) (mConst (.int 0)))) (mVar 7)) (gNm 5))
  (mThen (mIfS (mAsB (mBin (neZ cl3 kt) (mVar 4) (mLst false mNil)))
  (mThen (mUnp (mCons (mBin ixX (mVar 4) (mConst (.int 0))) (mCons (mBin addW (mVar 2) (mConst (.int 1))) mNil)) [(gNm 6), (gNm 2)])
  (mThen (mFor (mSeq (mSl false (mVar 4) (some (mConst (.int 1))) none)) (mTg (.one 7))
  (mThen (mExpr (mBM "list" appendL (mVar 5) (mCons (mLc false (mRng rng1 (mCons (mCall (on1 (lenC cl3)) (mCons (mVar 7) mNil)) mNil)) (.one 8) [8] mYes (mBin subW (mBin mulW (mBin ixX (mVar 7) (mVar 8)) (mBin ixX (mVar 6) (mVar 3))) (mBin mulW (mBin ixX (mVar 6) (mVar 8)) (mBin ixX (mVar 7) (mVar 3))))) mNil)))
  mSkip))
  (mThen (mAsg (mVar 5) (gNm 1))
  mSkip)))
  mSkip)
  mSkip))))
  (mThen (mRet (mVar 2))
  mSkip)))
def fi__law_rank : FI := ⟨1, false, runFn 9 false m__law_rank, []⟩
def fs__law_rank : List (Str × FI) := ("_law_words", fi__law_words) :: fs__law_words
def mu__law_rank : List (Nat × Nat) := [(170, 20)]
theorem sc__law_rank : FnScope N__law_rank ["_law_rows_here"] (defScope s__law_rank) := ⟨rfl, rfl, rfl, by decide +kernel, rfl, by decide +kernel, by decide +kernel⟩
theorem c__law_rank : cSs 60 60 (ccOf N__law_rank (defScope s__law_rank) mu__law_rank fs__law_rank cs cl3 kt) (defBody s__law_rank) = some m__law_rank := by kernel_rfl
/-! ### _law_due -/
abbrev s__law_due : Stmt := topS 38
def N__law_due : List Str := ["_law_signs", "_law_parts_here", "_law_rows_here", "_law_square", "_law_ahead", "_law_behind"]
def m__law_due : MS :=
  (mThen (mAsg (mCall (callW fi__law_words) (mCons (mVar 0) (mCons (mConst (.int 2)) mNil))) (gNm 2))
  (mThen (mAsg (mLc false (mSeq (mVar 2)) (.one 4) [4] mYes (mLc false (mSeq (mVar 2)) (.one 5) [5] mYes (mCall (callW fi__law_value) (mCons (mVar 1) (mCons (mBin addW (mVar 4) (mVar 5)) mNil))))) (gNm 3))
  (mThen (mRet (mCall (maxW) (mCons (mConst (.int 1)) (mCons (mCall (callW fi__law_rank) (mCons (mVar 3) mNil)) mNil))))
  mSkip)))
def fi__law_due : FI := ⟨2, false, runFn 6 false m__law_due, []⟩
def fs__law_due : List (Str × FI) := ("_law_rank", fi__law_rank) :: fs__law_rank
def mu__law_due : List (Nat × Nat) := []
theorem sc__law_due : FnScope N__law_due ["_law_signs", "_law_parts_here"] (defScope s__law_due) := ⟨rfl, rfl, rfl, by decide +kernel, rfl, by decide +kernel, by decide +kernel⟩
theorem c__law_due : cSs 60 60 (ccOf N__law_due (defScope s__law_due) mu__law_due fs__law_due cs cl3 kt) (defBody s__law_due) = some m__law_due := by kernel_rfl
/-! ### _law_right -/
abbrev s__law_right : Stmt := topS 39
def N__law_right : List Str := ["_law_flask_here", "_law_turn", "_law_signs", "_law_parts_here", "_law_due_here"]
def m__law_right : MS :=
  (mThen (mFor (mRng rng1 (mCons (mConst (.int 3)) mNil)) (mTg (.one 1))
  (mThen (mAsg (mCall (callW fi__law_pick) (mCons (mVar 0) (mCons (mLst false (mCons (mConst (.int 2)) (mCons (mConst (.int 2)) (mCons (mConst (.int 1)) (mCons (mConst (.int 3)) mNil))))) mNil))) (gNm 2))
  (mThen (mAsg (mCall (callW fi__law_parts) (mCons (mVar 0) (mCons (mVar 2) (mCons (mConst (.int 3)) mNil)))) (gNm 3))
  (mThen (mAsg (mCall (callW fi__law_due) (mCons (mVar 2) (mCons (mVar 3) mNil))) (gNm 4))
  (mThen (mIfS (mAsB (mBin (neZ cl3 kt) (mCall (callW fi_order_of) (mCons (mCall (callW fi__law_made) (mCons (mVar 2) (mCons (mVar 3) mNil))) mNil)) (mVar 4)))
  (mThen (mRet (mConst (.bl false)))
  mSkip)
  mSkip)
  (mThen (mIfS (mAsB (mBin (neZ cl3 kt) (mCallK fi_order_of [0] 1 (mCons (mCall (callW fi__law_made) (mCons (mVar 2) (mCons (mCall (callW fi__law_wider) (mCons (mVar 0) (mCons (mVar 3) mNil))) mNil))) mNil)) (mVar 4)))
  (mThen (mRet (mConst (.bl false)))
  mSkip)
  mSkip)
  mSkip))))))
  (mThen (mRet (mConst (.bl true)))
  mSkip))
def fi__law_right : FI := ⟨1, true, runFn 5 false m__law_right, []⟩
def fs__law_right : List (Str × FI) := ("_law_due", fi__law_due) :: fs__law_due
def mu__law_right : List (Nat × Nat) := []
theorem sc__law_right : FnScope N__law_right ["_law_flask_here"] (defScope s__law_right) := ⟨rfl, rfl, rfl, by decide +kernel, rfl, by decide +kernel, by decide +kernel⟩
theorem c__law_right : cSs 60 60 (ccOf N__law_right (defScope s__law_right) mu__law_right fs__law_right cs cl3 kt) (defBody s__law_right) = some m__law_right := by kernel_rfl
/-! ### law -/
abbrev s_law : Stmt := topS 40
def N_law : List Str := ["_law_script", "_law_k"]
def m_law : MS :=
  (mThen (mRet (mCall (on1 allW) (mCons (mLc false (mRng rng1 (mCons (mCall (maxW) (mCons (mConst (.int 2)) (mCons (mCall (minW) (mCons (mCall (on1 (lenC cl3)) (mCons (mVar 0) mNil)) (mCons (mConst (.int 3)) mNil))) mNil))) mNil)) (.one 1) [1] mYes (mCall (callW fi__law_right) (mCons (mCall (callW fi__law_flask) (mCons (mVar 0) (mCons (mVar 1) mNil))) mNil))) mNil)))
  mSkip)
def fi_law : FI := ⟨1, false, runFn 2 false m_law, []⟩
def fs_law : List (Str × FI) := ("_law_right", fi__law_right) :: fs__law_right
def mu_law : List (Nat × Nat) := []
theorem sc_law : FnScope N_law ["_law_script"] (defScope s_law) := ⟨rfl, rfl, rfl, by decide +kernel, rfl, by decide +kernel, by decide +kernel⟩
theorem c_law : cSs 60 60 (ccOf N_law (defScope s_law) mu_law fs_law cs cl3 kt) (defBody s_law) = some m_law := by kernel_rfl
end Lk52

set_option maxHeartbeats 4000000
namespace Lk52
open PySem PySem.Spec PyProof.Rows L2 RR
theorem t_pour (top : Nat) (h0 : 0 < top) (h1 : top < 1073741824) : Draws fi__law_pour [di top] fun d => ∃ r : Nat, d = di r ∧ r < top := by
  refine dr rfl fun f s c => ?_
  have hq : CDiv c (top : Int) := ⟨by omega, by omega⟩
  have hp : (0 : Int) < (top : Int) := by omega
  by_cases hf : 0 < c
  · simp [m__law_pour, di, hf, divmodW, hq]
    exact .mk (rest_is h0 c)
  · simp [m__law_pour, di, hf, mulL 70001 (by decide), modC 2147482811 (by decide), modC 17011 (by decide), fdiv_ii _ 4099 (by decide), mod_ii _ (top : Int) hp]
    rw [mulR _ (by have := mod64 17011 (by decide) f; have := Int.emod_nonneg f (show (17011 : Int) ≠ 0 by omega); have := Int.emod_lt_of_pos f (show (0 : Int) < 17011 by omega); omega)]
    simp [mulL 70001 (by decide), modC 2147482811 (by decide), modC 17011 (by decide), fdiv_ii _ 4099 (by decide), mod_ii _ (top : Int) hp]
    exact .mk (rest_is h0 _)
theorem t_pick (xs : List D) (h0 : xs ≠ []) (h1 : xs.length < 1073741824) : Draws fi__law_pick [.lst xs] fun d => d ∈ xs := by
  refine dr rfl fun f s c => ?_
  simp [m__law_pick]
  refine out_draw1 (t_pour xs.length (List.length_pos_iff.mpr h0) h1) rfl rfl ?_
  rintro d f' s' c' ⟨r, rfl, hr⟩
  simp [di]
  rw [ix_l xs r xs[r] (List.getElem?_eq_getElem hr)]
  simp
  exact .mk (List.getElem_mem hr)
theorem t_flask (ns : List Int) (h : ns.length ≤ 63) (k : Nat) (hk : k < 8) {o : Objs} : ∃ f s c, callW fi__law_flask [.v (.scr (ns.map D.int)), .v (.int (k : Int))] o = .ok (.o o.length) (o ++ [br f s c]) := by
  have key : ∃ f s c, fi__law_flask.fm ([D.scr (ns.map D.int), D.int (k : Int)].map W.v) [] = .ok (.o 0) [br f s c] := by
    have hf : fi__law_flask.fm = runFn 5 true m__law_flask := rfl
    rw [hf]
    suffices hs : Out (m__law_flask (startD 5 [.v (.scr (ns.map D.int)), .v (.int (k : Int))]) []) fun fl o => ∃ f s c, fl = .rt (.o 0) ∧ o = [br f s c] by
      obtain ⟨fl, o1, e, f, s, c, rfl, rfl⟩ := out_inv hs
      refine ⟨f, s, c, ?_⟩
      simp only [runFn, List.map_cons, List.map_nil, e]
      rfl
    have hpw : ∀ o : Objs, powW (.v (.int 10)) (.v (.int 18)) o = .ok (.v (.int 1000000000000000000)) o := fun o => by
      have : CPow 10 18 := by unfold CPow; decide
      simp only [powW, this, if_true]; rfl
    obtain ⟨own, hown⟩ : ∃ own : Int, mIf (mAsB (mBin ltW (mVar 1) (mCall (on1 (lenC cl0)) (mCons (mVar 0) mNil)))) (mCall (on1 intW) (mCons (mBin ixX (mVar 0) (mVar 1)) mNil)) (mBin addW (mBin mulW (mConst (.int 71)) (mVar 1)) (mConst (.int 29))) [some (.v (.scr (ns.map D.int))), some (.v (.int (k : Int))), none, none, none] [] = .ok (.v (.int own)) [] := by
      by_cases hkl : k < ns.length
      · have hkl' : (k : Int) < ns.length := by omega
        have hix : ∀ o : Objs, ixW (.v (.scr (ns.map D.int))) (.v (.int (k : Int))) o = .ok (.v (.int ns[k])) o := fun o => ix_c _ k _ (by simp [hkl])
        exact ⟨ns[k], by simp [hkl', hix]⟩
      · have hkl' : ¬ (k : Int) < ns.length := by omega
        exact ⟨71 * (k : Int) + 29, by simp [hkl', mulL 71 (by decide)]⟩
    obtain ⟨ms, e, hl⟩ := cutD_map ns none (some 6)
    have hsl : ∀ o : Objs, slW false (.v (.scr (ns.map D.int))) none (some 6) o = .ok (.v (.lst (ms.map D.int))) o := fun o => by simp only [slW, lsqW, e]; rfl
    have hst : startD 5 [.v (.scr (ns.map D.int)), .v (.int (k : Int))] = [some (.v (.scr (ns.map D.int))), some (.v (.int (k : Int))), none, none, none] := rfl
    rw [m__law_flask, e_Then, e_Asg, hst, hown]
    simp [mulL 5009 (by decide), hsl]
    refine out_for (fun i σ o' => o' = [] ∧ ∃ (x : Option W) (y : Int), σ = [some (.v (.scr (ns.map D.int))), some (.v (.int (k : Int))), some (.v (.int own)), some (.v (.int y)), x]) ⟨rfl, none, _, rfl⟩ ?_ ?_
    · rintro i d σ o' hd ⟨rfl, x, y, rfl⟩
      rw [List.getElem?_map] at hd
      cases hv : ms[i]? with
      | none => rw [hv] at hd; simp at hd
      | some v =>
        rw [hv] at hd; simp at hd; subst hd
        simp [mulR 32009 (by decide), modC 2147482811 (by decide)]
    · rintro σ o' ⟨rfl, x, y, rfl⟩
      by_cases h0 : own < 0
      · simp [h0, mulR 7013 (by decide), modC 2147482811 (by decide)]
        exact ⟨_, _, _, rfl⟩
      · by_cases h1 : (1000000000000000000 : Int) ≤ own
        · simp [h0, hpw, h1, mulR 7013 (by decide), modC 2147482811 (by decide)]
          exact ⟨_, _, _, rfl⟩
        · simp [h0, hpw, h1, mulR 7013 (by decide), modC 2147482811 (by decide)]
          exact ⟨_, _, _, rfl⟩
  obtain ⟨f, s, c, e⟩ := key
  exact ⟨f, s, c, call_f (ds := [D.scr (ns.map D.int), D.int (k : Int)]) rfl rfl e⟩
end Lk52

set_option maxRecDepth 1000000
set_option maxHeartbeats 4000000
namespace Lk52
open PySem PySem.Spec PyProof.Rows L2 RR
/-! ### what is drawn -/
def vD (n : Nat) (v : Nat → Int) : List D := (List.range n).map fun i => D.int (v i)
@[simp] theorem vD_len (n : Nat) (v : Nat → Int) : (vD n v).length = n := by simp [vD]
def tbl (n : Nat) (T : Nat → Nat → Int) : D := .tup ((List.range n).map fun j => .tup (vD n (T j)))
def tbls (s n : Nat) (T : Nat → Nat → Nat → Int) : D := .tup ((List.range s).map fun q => tbl n (T q))
def parts (s n : Nat) (b : Nat → Int) (T : Nat → Nat → Nat → Int) (g : Nat → Int) : D := .tup [.tup (vD n b), tbls s n T, .tup (vD n g)]
/-- numbers that are drawn -/
def Sm (lo hi : Int) (v : Nat → Int) : Prop := ∀ i, lo ≤ v i ∧ v i ≤ hi
theorem sm0 {hi : Int} (h : 0 ≤ hi) : Sm (-3) hi (fun _ => 0) := fun _ => ⟨by show (-3 : Int) ≤ 0; decide, h⟩
def menu : List D := [.int 0, .int 0, .int 0, .int 1, .int 1, .int (-1), .int 2, .int (-3)]
theorem menu_sm {d : D} (h : d ∈ menu) : ∃ x : Int, d = .int x ∧ (-3 ≤ x ∧ x ≤ 2) := by
  simp only [menu, List.mem_cons, List.not_mem_nil, or_false] at h
  rcases h with h | h | h | h | h | h | h | h <;> exact ⟨_, h, by decide, by decide⟩
theorem menu_sm2 {d : D} (h : d ∈ menu ++ [.int 1000]) : ∃ x : Int, d = .int x ∧ (-3 ≤ x ∧ x ≤ 1000) := by
  rcases List.mem_append.mp h with h | h
  · obtain ⟨x, e, h1, h2⟩ := menu_sm h
    exact ⟨x, e, h1, by omega⟩
  · simp at h; exact ⟨_, h, by decide, by decide⟩
/-- a row of numbers, drawn -/
theorem row_drawn {n : Nat} (hn : n ≤ 3) {σ : Sl} {f s c : Int} {r : Objs} {Q : List W → Objs → Prop} {E : ME} {xs : List D} {hi : Int} (h0 : 0 ≤ hi) (hx : ∀ d ∈ xs, ∃ x : Int, d = .int x ∧ (-3 ≤ x ∧ x ≤ hi)) (ne : xs ≠ []) (hl : xs.length < 100)
    (hE : ∀ w o, E ((σ.set 9 none).set 9 w) o = .ok (.v (.lst xs)) o) (hσ : ∀ w, ((σ.set 9 none).set 9 w)[0]? = some (some (.o 0)))
    (q : ∀ v f s c, Sm (-3) hi v → Q ((vD n v).map W.v) (br f s c :: r)) : Out (lcGo (lcTurn (.one 9) [9] mYes (mCall (callW fi__law_pick) (mCons (mVar 0) (mCons E mNil))) σ) ((List.range n).map fun (i : Nat) => D.int (i : Int)) [] (br f s c :: r)) Q := by
  refine out_lcI (fun o => ∃ f s c, o = br f s c :: r) (fun d => ∃ x : Int, d = .int x ∧ (-3 ≤ x ∧ x ≤ hi)) (by simp; unfold sizeLine; omega) ⟨_, _, _, rfl⟩ ?_ ?_
  · rintro d _ o ⟨f, s, c, rfl⟩
    simp only [e_lcTurn, e_TgOne, e_wipeN, e_wipeC, R.bind_ok, e_Yes, if_true, e_Call, e_Cons, e_Var, hE, hσ, e_Nil]
    simp only [out_bind]
    refine out_draw1 (t_pick xs ne (by omega)) rfl rfl ?_
    intro d f s c hd
    simp
    exact ⟨hx d hd, f, s, c, rfl⟩
  · rintro rs o hl hr ⟨f, s, c, rfl⟩
    obtain ⟨v, e, hv⟩ := seq_of D.int (fun x => -3 ≤ x ∧ x ≤ hi) 0 ⟨by omega, h0⟩ rs hr
    rw [e, hl]
    have := q v f s c hv
    simpa [vD] using this
theorem t_parts (s : Nat) (hs : s ≤ 3) : Draws fi__law_parts [di s, .int 3] fun d => ∃ n b T g, 1 ≤ n ∧ n ≤ 3 ∧ d = parts s n b T g ∧ Sm (-3) 2 b ∧ (∀ q j, Sm (-3) 2 (T q j)) ∧ Sm (-3) 1000 g := by
  refine dr rfl fun f s' c => ?_
  simp [m__law_parts]
  refine out_draw1 (a := .int 3) (t_pour 3 (by decide) (by decide)) rfl rfl ?_
  rintro d f s' c ⟨m, rfl, hm⟩
  have en : (1 : Int) + (m : Int) = ((m + 1 : Nat) : Int) := by omega
  have hn : m + 1 ≤ 3 := by omega
  simp [di, en, -Int.natCast_add, rng_s s (by omega), rng_eq]
  refine out_for (fun i σ o => ∃ x f s' c ts, σ = [some (W.o 0), some (W.v (D.int s)), some (W.v (D.int 3)), some (W.v (D.int (m + 1 : Nat))), some (W.v (D.lst menu)), some (W.o 1), x, none, none, none] ∧ o = [br f s' c, ⟨true, .lst ts⟩] ∧ ts.length = i ∧ ∀ t ∈ ts, ∃ T, t = tbl (m + 1) T ∧ ∀ j, Sm (-3) 2 (T j)) ?_ ?_ ?_
  · exact ⟨none, f, s', c, [], rfl, rfl, rfl, fun t ht => by simp at ht⟩
  · rintro i d σ o hd ⟨x, f, s', c, ts, rfl, rfl, hl, ht⟩
    have hi : i < s := by have := (List.getElem?_eq_some_iff.mp hd).1; simpa using this
    simp [mtyOk, -Int.natCast_add, rng_s (m + 1) (by omega), rng_eq]
    refine out_lcI (fun o => ∃ f s' c, o = [br f s' c, ⟨true, .lst ts⟩]) (fun d => ∃ v, d = .tup (vD (m + 1) v) ∧ Sm (-3) 2 v) (by simp; unfold sizeLine; omega) ⟨_, _, _, rfl⟩ ?_ ?_
    · rintro d _ o ⟨f, s', c, rfl⟩
      simp [-Int.natCast_add, rng_s (m + 1) (by omega), rng_eq]
      refine row_drawn hn (by decide) (fun d hd => menu_sm hd) (by simp [menu]) (by simp [menu]) (fun w o => by simp) (fun w => by simp) ?_
      intro v f s' c hv
      rw [lst_vs _ (by simp; unfold sizeLine; omega)]
      simp
      exact ⟨⟨v, rfl, hv⟩, f, s', c, rfl⟩
    · rintro rs o hl' hr ⟨f, s', c, rfl⟩
      obtain ⟨T, e, hT⟩ := seq_of (fun v => D.tup (vD (m + 1) v)) (Sm (-3) 2) (fun _ => 0) (sm0 (by decide)) rs hr
      have hrl : rs.length = m + 1 := by rw [hl']; simp
      rw [lst_vs _ (by rw [hrl]; unfold sizeLine; omega)]
      have h1 : ts.length < sizeLine := by unfold sizeLine; omega
      simp [appendL, h1]
      refine ⟨f, s', c, ts ++ [.tup rs], ⟨rfl, rfl⟩, by simp [hl], fun t h => ?_⟩
      rcases List.mem_append.mp h with h | h
      · exact ht t h
      · refine ⟨T, ?_, hT⟩
        rw [List.mem_singleton.mp h, e, hrl]; rfl
  · rintro σ o ⟨x, f, s', c, ts, rfl, rfl, hl, ht⟩
    simp [-Int.natCast_add, rng_s (m + 1) (by omega), rng_eq]
    refine row_drawn hn (by decide) (fun d hd => menu_sm hd) (by simp [menu]) (by simp [menu]) (fun w o => by simp) (fun w => by simp) ?_
    intro b f s' c hb
    rw [lst_vs _ (by simp; unfold sizeLine; omega)]
    simp [-Int.natCast_add, rng_s (m + 1) (by omega), rng_eq]
    refine row_drawn (xs := menu ++ [.int 1000]) hn (by decide) (fun d hd => menu_sm2 hd) (by simp [menu]) (by simp [menu]) (fun w o => by simp [add_ll menu [.int 1000] (by decide +kernel)]) (fun w => by simp) ?_
    intro g f s' c hg
    rw [lst_vs _ (by simp; unfold sizeLine; omega)]
    simp
    obtain ⟨T, e, hT⟩ := seq_of (fun T => tbl (m + 1) T) (fun T => ∀ j, Sm (-3) 2 (T j)) (fun _ _ => 0) (fun _ => sm0 (by decide)) ts ht
    refine .mk ⟨m + 1, by omega, hn, b, T, g, ?_, hb, hT, hg⟩
    rw [e, hl]
    simp [parts, tbls]
theorem t_is_number (v a b : Int) {o : Objs} : callW fi_is_number [.v (.int v), .v (.int a), .v (.int b)] o = .ok (.v (.bl (decide (a ≤ v) && decide (v ≤ b)))) o := by
  refine cp3 rfl rfl rfl ?_
  simp [m_is_number]
  by_cases h : a ≤ v <;> simp [h]
theorem t_is_signs (s : Nat) (h : 1 ≤ s ∧ s ≤ 8) {o : Objs} : callW fi_is_signs [.v (.int (s : Int))] o = .ok (.v (.bl true)) o := by
  refine cp1 rfl rfl rfl ?_
  have h1 : (1 : Int) ≤ s := by omega
  have h2 : (s : Int) ≤ 8 := by omega
  simp [m_is_signs, t_is_number, h1, h2]
theorem t_check_signs (s : Nat) (h : 1 ≤ s ∧ s ≤ 8) {o : Objs} : callW fi_check_signs [.v (.int (s : Int))] o = .ok (.v .non) o := by
  refine cpn1 rfl rfl rfl ?_
  simp [m_check_signs, t_is_signs s h]
theorem t_is_weights (n : Nat) (v : Nat → Int) (hn : n ≤ 6) (hv : Sm (-1000) 1000 v) {o : Objs} : callW fi_is_weights [.v (.tup (vD n v)), .v (.int (n : Int))] o = .ok (.v (.bl true)) o := by
  refine cp2 rfl rfl rfl ?_
  simp [m_is_weights]
  rw [vD]
  refine out_lc (fun i => D.bl true) (by simp; unfold sizeLine; omega) (fun i hi => by simp [t_is_number]; exact hv i) ?_
  rw [lst_vs _ (by simp; unfold sizeLine; omega)]
  simp
  rw [all_true _ (by simp)]
  simp
theorem t_is_weight_table (n : Nat) (T : Nat → Nat → Int) (hn : n ≤ 6) (hv : ∀ j, Sm (-1000) 1000 (T j)) {o : Objs} : callW fi_is_weight_table [.v (tbl n T), .v (.int (n : Int))] o = .ok (.v (.bl true)) o := by
  refine cp2 rfl rfl rfl ?_
  simp [m_is_weight_table, tbl]
  refine out_lc (fun i => D.bl true) (by simp; unfold sizeLine; omega) (fun i hi => by simp [t_is_weights n (T i) hn (hv i)]) ?_
  rw [lst_vs _ (by simp; unfold sizeLine; omega)]
  simp
  rw [all_true _ (by simp)]
  simp
def wg (s n : Nat) (b : Nat → Int) (T : Nat → Nat → Nat → Int) (g : Nat → Int) : D := .ins "Weigher" ["parts"] [.tup [.int (s : Int), .tup (vD n b), tbls s n T, .tup (vD n g)]]
section
variable {s n : Nat} {b : Nat → Int} {T : Nat → Nat → Nat → Int} {g : Nat → Int} {o : Objs}
theorem lk1 : cl1.lookup ("Weigher" : Str) = some ci_Weigher_0 := by kernel_rfl
theorem fl1 : ("parts" : Str) ∈ ci_Weigher_0.flds := List.Mem.head _
theorem a1_parts : attrW cl1 "parts" (.v (wg s n b T g)) o = .ok (.v (.tup [.int (s : Int), .tup (vD n b), tbls s n T, .tup (vD n g)])) o := by kernel_rfl
theorem a2_parts : attrW cl2 "parts" (.v (wg s n b T g)) o = .ok (.v (.tup [.int (s : Int), .tup (vD n b), tbls s n T, .tup (vD n g)])) o := by kernel_rfl
theorem t_make (hs : 1 ≤ s ∧ s ≤ 3) (hn : 1 ≤ n ∧ n ≤ 4) (hb : Sm (-1000) 1000 b) (hT : ∀ q j, Sm (-1000) 1000 (T q j)) (hg : Sm (-1000) 1000 g) :
    makeW "Weigher" fi_Weigher_init [.v (.int (s : Int)), .v (.tup (vD n b)), .v (tbls s n T), .v (.tup (vD n g))] o = .ok (.v (wg s n b T g)) o := by
  refine make_of (ds := [.int (s : Int), .tup (vD n b), tbls s n T, .tup (vD n g)]) rfl rfl ?_
  have h1 : (1 : Int) ≤ n := by omega
  have h2 : (n : Int) ≤ 6 := by omega
  simp [m_Weigher_init, t_check_signs s (by omega), h1, h2, t_is_weights n b (by omega) hb, tbls]
  refine out_lc (fun i => D.bl true) (by simp; unfold sizeLine; omega) (fun i hi => by simp [t_is_weight_table n (T i) (by omega) (hT i)]) ?_
  rw [lst_vs _ (by simp; unfold sizeLine; omega)]
  simp
  rw [all_true _ (by simp)]
  simp [t_is_weights n g (by omega) hg, lk1, fl1]
theorem ix0 {a : D} {l : List D} {o : Objs} : ixW (.v (.tup (a :: l))) (.v (.int 0)) o = .ok (.v a) o := ix_t _ 0 _ rfl
theorem ix1 {a b : D} {l : List D} {o : Objs} : ixW (.v (.tup (a :: b :: l))) (.v (.int 1)) o = .ok (.v b) o := ix_t _ 1 _ rfl
theorem ix2 {a b c : D} {l : List D} {o : Objs} : ixW (.v (.tup (a :: b :: c :: l))) (.v (.int 2)) o = .ok (.v c) o := ix_t _ 2 _ rfl
theorem ix3 {a b c d : D} {l : List D} {o : Objs} : ixW (.v (.tup (a :: b :: c :: d :: l))) (.v (.int 3)) o = .ok (.v d) o := ix_t _ 3 _ rfl
theorem g_signs : callW fi_Weigher_signs [.v (wg s n b T g)] o = .ok (.v (.int s)) o := by
  refine cp1 rfl rfl rfl ?_
  simp [m_Weigher_signs, a1_parts, ix0]
theorem g_size : callW fi_Weigher_size [.v (wg s n b T g)] o = .ok (.v (.int n)) o := by
  refine cp1 rfl rfl rfl ?_
  simp [m_Weigher_size, a1_parts, ix1]
theorem g_begins : callW fi_Weigher_begins [.v (wg s n b T g)] o = .ok (.v (.tup (vD n b))) o := by
  refine cp1 rfl rfl rfl ?_
  simp [m_Weigher_begins, a1_parts, ix1]
theorem g_tables : callW fi_Weigher_tables [.v (wg s n b T g)] o = .ok (.v (tbls s n T)) o := by
  refine cp1 rfl rfl rfl ?_
  simp [m_Weigher_tables, a1_parts, ix2]
theorem g_goals : callW fi_Weigher_goals [.v (wg s n b T g)] o = .ok (.v (.tup (vD n g))) o := by
  refine cp1 rfl rfl rfl ?_
  simp [m_Weigher_goals, a1_parts, ix3]
/-- a property is its getter's call -/
theorem at_prop {cl : List (Str × CI)} {ci : CI} {fi : FI} {f : Str} (h1 : cl.lookup ("Weigher" : Str) = some ci) (h2 : ci.props.lookup f = some fi) : attrW cl f (.v (wg s n b T g)) o = callW fi [.v (wg s n b T g)] o := by
  simp only [attrW, wg, h1, h2]
theorem lk2 : cl2.lookup ("Weigher" : Str) = some ci_Weigher_1 := by kernel_rfl
theorem lk3 : cl3.lookup ("Weigher" : Str) = some ci_Weigher_2 := by kernel_rfl
@[simp] theorem a2_signs : attrW cl2 "signs" (.v (wg s n b T g)) o = .ok (.v (.int s)) o := (at_prop lk2 (fi := fi_Weigher_signs) (by kernel_rfl)).trans g_signs
@[simp] theorem a2_begins : attrW cl2 "begins" (.v (wg s n b T g)) o = .ok (.v (.tup (vD n b))) o := (at_prop lk2 (fi := fi_Weigher_begins) (by kernel_rfl)).trans g_begins
@[simp] theorem a2_tables : attrW cl2 "tables" (.v (wg s n b T g)) o = .ok (.v (tbls s n T)) o := (at_prop lk2 (fi := fi_Weigher_tables) (by kernel_rfl)).trans g_tables
@[simp] theorem a2_goals : attrW cl2 "goals" (.v (wg s n b T g)) o = .ok (.v (.tup (vD n g))) o := (at_prop lk2 (fi := fi_Weigher_goals) (by kernel_rfl)).trans g_goals
@[simp] theorem a3_signs : attrW cl3 "signs" (.v (wg s n b T g)) o = .ok (.v (.int s)) o := (at_prop lk3 (fi := fi_Weigher_signs) (by kernel_rfl)).trans g_signs
@[simp] theorem a3_size : attrW cl3 "size" (.v (wg s n b T g)) o = .ok (.v (.int n)) o := (at_prop lk3 (fi := fi_Weigher_size) (by kernel_rfl)).trans g_size
@[simp] theorem a3_begins : attrW cl3 "begins" (.v (wg s n b T g)) o = .ok (.v (.tup (vD n b))) o := (at_prop lk3 (fi := fi_Weigher_begins) (by kernel_rfl)).trans g_begins
@[simp] theorem a3_tables : attrW cl3 "tables" (.v (wg s n b T g)) o = .ok (.v (tbls s n T)) o := (at_prop lk3 (fi := fi_Weigher_tables) (by kernel_rfl)).trans g_tables
@[simp] theorem a3_goals : attrW cl3 "goals" (.v (wg s n b T g)) o = .ok (.v (.tup (vD n g))) o := (at_prop lk3 (fi := fi_Weigher_goals) (by kernel_rfl)).trans g_goals
@[simp] theorem i2_w : isiC cl2 kt (.v (wg s n b T g)) (.v (.glo "Weigher")) o = .ok (.v (.bl true)) o := by kernel_rfl
@[simp] theorem i3_w : isiC cl3 kt (.v (wg s n b T g)) (.v (.glo "Weigher")) o = .ok (.v (.bl true)) o := by kernel_rfl
@[simp] theorem i2_t (xs : List D) : isiC cl2 kt (.v (.tup xs)) (.v (.glo "Weigher")) o = .ok (.v (.bl false)) o := by kernel_rfl
theorem t_check_weigher : callW fi_check_weigher [.v (wg s n b T g)] o = .ok (.v .non) o := by
  refine cpn1 rfl rfl rfl ?_
  simp [m_check_weigher]
end
end Lk52

set_option maxHeartbeats 4000000
namespace Lk52
open PySem PySem.Spec PyProof.Rows L2 RR
def rD (r : List Nat) : D := .str (rowS r)
theorem sz2 {n : Nat} (h : n ≤ 100000) : n ≤ sizeLine := by unfold sizeLine; omega
def stp (n : Nat) (T : Nat → Nat → Int) (v : Nat → Int) : Nat → Int := fun p => lsum (List.range n) fun j => v j * T j p
def dot (n : Nat) (v g : Nat → Int) : Int := lsum (List.range n) fun j => v j * g j
theorem zip_range {n : Nat} (f g : Nat → D) : zipD ((List.range n).map f) ((List.range n).map g) = (List.range n).map fun j => .tup [f j, g j] := by
  apply List.ext_getElem (by simp [zipD])
  intro i h1 h2
  simp [zipD]
theorem small64 {x : Int} (h : -1000 ≤ x ∧ x ≤ 1000) : -(2 ^ 64) < x ∧ x < 2 ^ 64 := by omega
theorem sz {n : Nat} (hn : n ≤ 4) : n ≤ sizeLine := by unfold sizeLine; omega
/-- a table, of tuples or of lists -/
def sqk (k : Bool) (l : List D) : D := if k then .tup l else .lst l
def tbk (k : Bool) (n : Nat) (T : Nat → Nat → Int) : D := sqk k ((List.range n).map fun j => sqk k (vD n (T j)))
section
variable {n s : Nat} {o : Objs}
theorem list_tX (xs : List D) (h : xs.length ≤ sizeLine) : listX false (.v (.tup xs)) o = .ok (.v (.lst xs)) o := by simp [listX, dicW, listW, seqW, h]
theorem list_lX (xs : List D) (h : xs.length ≤ sizeLine) : listX false (.v (.lst xs)) o = .ok (.v (.lst xs)) o := by simp [listX, dicW, listW, seqW, h]
theorem ix_sqk (k : Bool) (l : List D) (i : Nat) (d : D) (h : l[i]? = some d) : ixX (.v (sqk k l)) (.v (.int (i : Int))) o = .ok (.v d) o := by
  cases k
  · exact ix_l l i d h
  · exact ix_t l i d h
theorem t_moved (k : Bool) (v : Nat → Int) (T : Nat → Nat → Int) (hn : n ≤ 4) (hT : ∀ j, Sm (-1000) 1000 (T j)) : callW fi_moved [.v (.lst (vD n v)), .v (tbk k n T)] o = .ok (.v (.lst (vD n (stp n T v)))) o := by
  refine cp2 rfl rfl rfl ?_
  have ln : ∀ o : Objs, lenC cl3 (.v (tbk k n T)) o = .ok (.v (.int (n : Int))) o := fun o => by
    cases k <;> simp [tbk, sqk]
  have zp : ∀ o : Objs, zipM [.v (.lst (vD n v)), .v (tbk k n T)] o = .ok ((List.range n).map fun j => D.tup [.int (v j), sqk k (vD n (T j))]) o := fun o => by
    rw [← zip_range (fun j => D.int (v j)) (fun j => sqk k (vD n (T j)))]
    cases k <;> rfl
  simp [m_moved, ln, rng_s n (by omega), rng_eq]
  refine out_lc (fun p => D.int (stp n T v p)) (by simp; exact sz hn) (fun p hp => ?_) ?_
  · have hp' : p < n := by simpa using hp
    simp [zp]
    refine out_lc (fun j => D.int (v j * T j p)) (by simp; exact sz hn) (fun j hj => ?_) ?_
    · simp [ix_sqk k (vD n (T j)) p (D.int (T j p)) (by simp [vD, hp']), mulR _ (small64 (hT j p))]
    · rw [lst_vs _ (by simp; exact sz hn)]
      simp only [out_ok, sum_ints]
      simp [stp]
  · rw [lst_vs _ (by simp; exact sz hn)]
    simp [vD]
theorem t_weighed (v g : Nat → Int) (hn : n ≤ 4) (hg : ∀ i, -(2 ^ 64) < g i ∧ g i < 2 ^ 64) : callW fi_weighed [.v (.lst (vD n v)), .v (.lst (vD n g))] o = .ok (.v (.int (dot n v g))) o := by
  refine cp2 rfl rfl rfl ?_
  have e : zipD (vD n v) (vD n g) = (List.range n).map fun j => D.tup [.int (v j), .int (g j)] := zip_range _ _
  simp [m_weighed, e]
  refine out_lc (fun j => D.int (v j * g j)) (by simp; exact sz hn) (fun j hj => by simp [mulR _ (hg j)]) ?_
  rw [lst_vs _ (by simp; exact sz hn)]
  simp only [out_ok, sum_ints]
  simp [dot]
theorem t_crossed (T : Nat → Nat → Int) (hn : n ≤ 4) : callW fi_crossed [.v (tbl n T)] o = .ok (.v (tbk false n fun j k => T k j)) o := by
  refine cp1 rfl rfl rfl ?_
  simp [m_crossed, tbl, rng_s n (by omega), rng_eq]
  refine out_lc (fun p => D.lst (vD n fun k => T k p)) (by simp; exact sz hn) (fun p hp => ?_) ?_
  · have hp' : p < n := by simpa using hp
    simp
    refine out_lc (fun j => D.int (T j p)) (by simp; exact sz hn) (fun j hj => ?_) ?_
    · simp
      rw [ix_t _ p (D.int (T j p)) (by simp [vD, hp'])]
      simp
    · rw [lst_vs _ (by simp; exact sz hn)]
      simp [vD]
  · rw [lst_vs _ (by simp; exact sz hn)]
    simp [tbk, sqk]
def fold (n : Nat) (T : Nat → Nat → Nat → Int) (b : Nat → Int) (ds : List Nat) : Nat → Int := ds.foldl (fun v d => stp n (T d) v) b
theorem fold_snoc (n : Nat) (T : Nat → Nat → Nat → Int) (b : Nat → Int) (ds : List Nat) (d : Nat) : fold n T b (ds ++ [d]) = stp n (T d) (fold n T b ds) := by simp [fold]
variable {b : Nat → Int} {T : Nat → Nat → Nat → Int} {g : Nat → Int}
theorem t_made (hs : 1 ≤ s ∧ s ≤ 3) (hn : 1 ≤ n ∧ n ≤ 4) (hb : Sm (-1000) 1000 b) (hT : ∀ q j, Sm (-1000) 1000 (T q j)) (hg : Sm (-1000) 1000 g) : callW fi__law_made [.v (.int (s : Int)), .v (parts s n b T g)] o = .ok (.v (wg s n b T g)) o := by
  refine cp2 rfl rfl rfl ?_
  simp [m__law_made, parts, ix0, ix1, ix2, t_make hs hn hb hT hg]
theorem t_law_value (hs : s ≤ 3) (hn : n ≤ 4) (hT : ∀ q j, Sm (-1000) 1000 (T q j)) (hg : Sm (-1000) 1000 g) (ds : List Nat) (hd : ∀ d ∈ ds, d < s) (hl : ds.length ≤ 200) : callW fi__law_value [.v (parts s n b T g), .v (.str (rowS ds))] o = .ok (.v (.int (dot n (fold n T b ds) g))) o := by
  refine cp2 rfl rfl rfl ?_
  simp [m__law_value, parts, ix0, ix1, ix2, list_tX (vD n b) (by simp; exact sz hn)]
  refine out_for (fun i σ o => ∃ x y, σ = [some (.v (parts s n b T g)), some (.v (.str (rowS ds))), some (.v (.lst (vD n (fold n T b (ds.take i))))), x, y, none, none]) ⟨none, none, by simp [fold, parts]⟩ ?_ ?_
  · rintro i d σ o he ⟨x, y, rfl⟩
    rw [List.getElem?_map] at he
    cases hv : ds[i]? with
    | none => rw [hv] at he; simp at he
    | some v =>
      rw [hv] at he; simp at he; subst he
      have hvs := hd v (List.mem_of_getElem? hv)
      simp [idx_abc (show v < 8 by omega), parts, ix1, tbls]
      rw [ix_t _ v (tbl n (T v)) (by simp [hvs])]
      simp [rng_s n (by omega), rng_eq]
      refine out_lc (fun p => D.int (stp n (T v) (fold n T b (ds.take i)) p)) (by simp; exact sz hn) (fun p hp => ?_) ?_
      · have hp' : p < n := by simpa using hp
        simp [rng_s n (by omega), rng_eq]
        refine out_lc (fun j => D.int (fold n T b (ds.take i) j * T v j p)) (by simp; exact sz hn) (fun j hj => ?_) ?_
        · have hj' : j < n := by simpa using hj
          simp
          rw [ix_l _ j (D.int (fold n T b (ds.take i) j)) (by simp [vD, hj'])]
          simp [tbl]
          rw [ix_t _ j (D.tup (vD n (T v j))) (by simp [hj'])]
          simp
          rw [ix_t _ p (D.int (T v j p)) (by simp [vD, hp'])]
          simp [mulR _ (small64 (hT v j p))]
        · rw [lst_vs _ (by simp; exact sz hn)]
          simp only [out_ok, sum_ints]
          simp [stp]
      · rw [lst_vs _ (by simp; exact sz hn)]
        simp [List.take_add_one, hv, fold_snoc, vD]
  · rintro σ o ⟨x, y, rfl⟩
    simp [rng_s n (by omega), rng_eq]
    refine out_lc (fun j => D.int (fold n T b ds j * g j)) (by simp; exact sz hn) (fun j hj => ?_) ?_
    · have hj' : j < n := by simpa using hj
      simp
      rw [ix_l _ j (D.int (fold n T b ds j)) (by simp [vD, hj'])]
      simp [parts, ix2]
      rw [ix_t _ j (D.int (g j)) (by simp [vD, hj'])]
      simp [mulR _ (small64 (hg j))]
    · rw [lst_vs _ (by simp; exact sz hn)]
      simp only [out_ok, sum_ints]
      simp [dot]
theorem found_len {s l : Nat} (hs : s ≤ 3) : (found s l).length ≤ (l + 1) * 3 ^ l := by
  induction l with
  | zero => simp [found]
  | succ l ih =>
    have h1 : s ^ (l + 1) ≤ 3 ^ (l + 1) := Nat.pow_le_pow_left hs _
    simp only [found, List.length_append, lay_len]
    have h2 : (l + 1) * 3 ^ l ≤ (l + 1) * 3 ^ (l + 1) := Nat.mul_le_mul_left _ (by rw [Nat.pow_succ]; omega)
    rw [show (l + 1 + 1) * 3 ^ (l + 1) = (l + 1) * 3 ^ (l + 1) + 3 ^ (l + 1) by rw [Nat.add_mul, Nat.one_mul]]
    omega
theorem t_words {s dp : Nat} (hs : s ≤ 3) (hdp : dp ≤ 3) : callW fi__law_words [.v (.int (s : Int)), .v (.int (dp : Int))] o = .ok (.v (.lst ((found s dp).map rD))) o := by
  refine cp2 rfl rfl rfl ?_
  simp [m__law_words, rng_s dp (by omega)]
  refine out_for (fun i σ o => ∃ x y z, σ = [some (.v (.int (s : Int))), some (.v (.int (dp : Int))), some (.v (.lst ((found s i).map rD))), some (.v (.lst ((lay s i).map rD))), x, y, z, none]) ⟨none, none, none, by simp [found, lay, rD, rowS_nil]⟩ ?_ ?_
  · rintro i d σ o he ⟨x, y, z, rfl⟩
    have hi : i < dp := by have := (List.getElem?_eq_some_iff.mp he).1; simpa [rng_eq] using this
    have p1 : s ^ i ≤ 9 := Nat.le_trans (Nat.pow_le_pow_left hs i) (Nat.le_trans (Nat.pow_le_pow_right (by decide) (show i ≤ 2 by omega)) (by decide))
    have p2 : (found s i).length ≤ 100 := by
      refine Nat.le_trans (found_len hs) ?_
      have : i = 0 ∨ i = 1 ∨ i = 2 := by omega
      rcases this with rfl | rfl | rfl <;> decide
    simp
    refine out_for (fun j σ o => ∃ z, σ = [some (.v (.int (s : Int))), some (.v (.int (dp : Int))), some (.v (.lst ((found s i).map rD))), some (.v (.lst ((lay s i).map rD))), some (.v d), some (.v (.lst ((((lay s i).take j).flatMap fun r => (List.range s).map fun d => r ++ [d]).map rD))), z, none]) ⟨z, by simp⟩ ?_ ?_
    · rintro j e σ o he ⟨z, rfl⟩
      rw [List.getElem?_map] at he
      cases hv : (lay s i)[j]? with
      | none => rw [hv] at he; simp at he
      | some r =>
        rw [hv] at he; simp at he; subst he
        have hr := lay_mem (List.mem_of_getElem? hv)
        have hj : j < s ^ i := by rw [← lay_len]; exact (List.getElem?_eq_some_iff.mp hv).1
        simp [sl_abc (show s ≤ 8 by omega)]
        refine out_lc (fun d => rD (r ++ [d])) (by simp; exact sz2 (by omega)) (fun d hd => ?_) ?_
        · simp [rD]
          rw [add_ss (rowS r) (rowS [d]) (by simp; unfold sizeLine; omega)]
          simp
        · rw [lst_vs _ (by simp; exact sz2 (by omega))]
          simp only [out_ok]
          rw [add_ll _ _ (by
            simp only [List.length_map, List.length_flatMap, List.length_range]
            have : (((lay s i).take j).map fun _ => s).sum ≤ 9 * 3 := by
              have e : (((lay s i).take j).map fun _ => s).sum = ((lay s i).take j).length * s := sum_const _ _
              rw [e]
              refine Nat.mul_le_mul ?_ hs
              rw [List.length_take, lay_len]; omega
            unfold sizeLine; omega)]
          simp [List.take_add_one, hv]
    · rintro σ o ⟨z, rfl⟩
      simp
      rw [add_ll _ _ (by
        have := lay_len s (i + 1)
        simp only [lay] at this
        have h3 : s ^ (i + 1) ≤ 27 := Nat.le_trans (Nat.pow_le_pow_left hs _) (Nat.le_trans (Nat.pow_le_pow_right (by decide) (show i + 1 ≤ 3 by omega)) (by decide))
        simp only [List.length_map, this]
        unfold sizeLine; omega)]
      simp [found, lay]
  · rintro σ o ⟨x, y, z, rfl⟩
    simp [rng_eq]

end
end Lk52

set_option maxHeartbeats 4000000
namespace Lk52
open PySem PySem.Spec PyProof.Rows L2 RR
/-! ### how great numbers get -/
def ex : Nat → Nat
  | 0 => 64
  | k + 1 => 2 * ex k + 1
theorem ex_mono {i j : Nat} (h : i ≤ j) : ex i ≤ ex j := by
  induction j with
  | zero => have : i = 0 := by omega
            subst this; exact Nat.le_refl _
  | succ j ih =>
    by_cases e : i = j + 1
    · subst e; exact Nat.le_refl _
    · have := ih (by omega)
      simp only [ex]; omega
theorem ex13 : ex 13 = 532479 := by decide
def Bd (a : Nat) (r : Nat → Int) : Prop := ∀ i, (r i).natAbs < 2 ^ a
def Off (n : Nat) (r : Nat → Int) : Prop := ∀ i, n ≤ i → r i = 0
theorem Bd.mono {a b : Nat} {r : Nat → Int} (h : Bd a r) (hab : a ≤ b) : Bd b r := fun i => Nat.lt_of_lt_of_le (h i) (Nat.pow_le_pow_right (by decide) hab)
theorem bits_le {x : Int} {a : Nat} (h : x.natAbs < 2 ^ a) : Builtin.Int.intBits x ≤ a := by
  unfold Builtin.Int.intBits
  split
  · omega
  · rename_i h0
    have h0 : x ≠ 0 := by simpa using h0
    have := (Nat.log2_lt (show x.natAbs ≠ 0 by omega)).mpr h
    omega
theorem mulB {x y : Int} {a : Nat} (hx : x.natAbs < 2 ^ a) (hy : y.natAbs < 2 ^ a) (ha : a ≤ 600000) {o : Objs} : mulW (.v (.int x)) (.v (.int y)) o = .ok (.v (.int (x * y))) o := by
  have h1 := bits_le hx
  have h2 := bits_le hy
  have : CMulX x y := by unfold CMulX; omega
  simp only [mulW, this, or_true, if_true]
theorem pow2_add (a b : Nat) : 2 ^ (a + b) = 2 ^ a * 2 ^ b := Nat.pow_add 2 a b
theorem cross_bd {x y z u : Int} {a : Nat} (hx : x.natAbs < 2 ^ a) (hy : y.natAbs < 2 ^ a) (hz : z.natAbs < 2 ^ a) (hu : u.natAbs < 2 ^ a) : (x * y - z * u).natAbs < 2 ^ (2 * a + 1) := by
  have h1 : (x * y).natAbs < 2 ^ a * 2 ^ a := by rw [Int.natAbs_mul]; exact Nat.mul_lt_mul_of_lt_of_lt hx hy
  have h2 : (z * u).natAbs < 2 ^ a * 2 ^ a := by rw [Int.natAbs_mul]; exact Nat.mul_lt_mul_of_lt_of_lt hz hu
  have e : 2 ^ (2 * a + 1) = 2 * (2 ^ a * 2 ^ a) := by rw [show 2 * a + 1 = a + a + 1 by omega, Nat.pow_succ, pow2_add]; omega
  rw [e]
  omega
/-! ### what is shared -/
section
variable {o : Objs} {n : Nat}
theorem abs_nat (x : Int) : (if x < 0 then -x else x) = (x.natAbs : Int) := by split <;> omega
theorem half {a b : Nat} (hb : b ≠ 0) (hab : b ≤ a) : 2 * (a % b) ≤ a := by
  have h1 := Nat.mod_lt a (show 0 < b by omega)
  have h2 := Nat.mod_add_div a b
  have h3 : 1 ≤ a / b := Nat.div_pos hab (by omega)
  have h4 : b * 1 ≤ b * (a / b) := Nat.mul_le_mul_left b h3
  omega
theorem t_shared (x y : Int) (K : Nat) (hK : K ≤ 3000000) (h : x.natAbs * y.natAbs < 2 ^ K) : callW fi_shared [.v (.int x), .v (.int y)] o = .ok (.v (.int (Nat.gcd x.natAbs y.natAbs : Nat))) o := by
  refine cp2 rfl rfl rfl ?_
  simp [m_shared, abs_nat]
  refine out_whileB (K + 1) (fun m σ o => ∃ a b : Nat, σ = [some (.v (.int (a : Int))), some (.v (.int (b : Int)))] ∧ Nat.gcd a b = Nat.gcd x.natAbs y.natAbs ∧ ((b ≤ a ∧ a * b < 2 ^ m) ∨ (0 < m ∧ a < b ∧ a * b < 2 ^ (m - 1)))) (by omega) ?_ ?_
  · refine ⟨x.natAbs, y.natAbs, rfl, rfl, ?_⟩
    by_cases hc : y.natAbs ≤ x.natAbs
    · exact .inl ⟨hc, Nat.lt_of_lt_of_le h (Nat.pow_le_pow_right (by decide) (by omega))⟩
    · exact .inr ⟨by omega, by omega, by simpa using h⟩
  · rintro m σ o ⟨a, b, rfl, hg, hc⟩
    by_cases hb : b = 0
    · subst hb
      simp at hg
      simp [hg]
    · have hb' : ¬ ((b : Int) = 0) := by omega
      have hmd : ∀ o : Objs, modW (.v (.int (a : Int))) (.v (.int (b : Int))) o = .ok (.v (.int ((a % b : Nat) : Int))) o := fun o => by
        rw [mod_ii _ _ (by omega)]; rfl
      have hm : 0 < m := by
        rcases hc with ⟨h1, h2⟩ | ⟨h1, _⟩
        · refine Nat.pos_of_ne_zero fun e => ?_
          subst e
          have := Nat.mul_pos (show 0 < a by omega) (show 0 < b by omega)
          simp at h2; omega
        · exact h1
      simp [hb, hmd]
      refine ⟨hm, b, a % b, by simp, ?_, ?_⟩
      · rw [← hg, Nat.gcd_comm b (a % b), ← Nat.gcd_rec b a, Nat.gcd_comm]
      · left
        refine ⟨Nat.le_of_lt (Nat.mod_lt _ (by omega)), ?_⟩
        rcases hc with ⟨h1, h2⟩ | ⟨h1, h2, h3⟩
        · have h4 := half hb h1
          have h5 : b * (2 * (a % b)) ≤ b * a := Nat.mul_le_mul_left b h4
          have e : 2 ^ m = 2 * 2 ^ (m - 1) := by
            rw [show m = m - 1 + 1 by omega, Nat.pow_succ]; simp; omega
          rw [e] at h2
          rw [Nat.mul_left_comm] at h5
          rw [Nat.mul_comm b a] at h5
          omega
        · rw [Nat.mod_eq_of_lt h2, Nat.mul_comm]; exact h3
def gcdR (n : Nat) (r : Nat → Int) : Nat := (List.range n).foldl (fun g i => Nat.gcd g (r i).natAbs) 0
theorem gcd_fold (r : Nat → Int) : ∀ (l : List Nat) (g : Nat), (l.foldl (fun g i => Nat.gcd g (r i).natAbs) g) ∣ g ∧ ∀ i ∈ l, (l.foldl (fun g i => Nat.gcd g (r i).natAbs) g) ∣ (r i).natAbs
  | [], g => ⟨Nat.dvd_refl _, by simp⟩
  | a :: l, g => by
    obtain ⟨h1, h2⟩ := gcd_fold r l (Nat.gcd g (r a).natAbs)
    refine ⟨Nat.dvd_trans h1 (Nat.gcd_dvd_left _ _), fun i hi => ?_⟩
    rcases List.mem_cons.mp hi with rfl | hi
    · exact Nat.dvd_trans h1 (Nat.gcd_dvd_right _ _)
    · exact h2 i hi
theorem gcdR_dvd {r : Nat → Int} {i : Nat} (hi : i < n) : gcdR n r ∣ (r i).natAbs := (gcd_fold r (List.range n) 0).2 i (by simpa using hi)
theorem gcd_lt {r : Nat → Int} {a : Nat} (hr : Bd a r) : ∀ (l : List Nat) (g : Nat), g < 2 ^ a → (l.foldl (fun g i => Nat.gcd g (r i).natAbs) g) < 2 ^ a
  | [], g, h => h
  | i :: l, g, h => gcd_lt hr l _ (by
      show Nat.gcd g (r i).natAbs < 2 ^ a
      by_cases h0 : (r i).natAbs = 0
      · rw [h0, Nat.gcd_zero_right]; exact h
      · exact Nat.lt_of_le_of_lt (Nat.gcd_le_right _ (by omega)) (hr i))
theorem t_shared_by (r : Nat → Int) (a : Nat) (ha : a ≤ 600000) (hr : Bd a r) (hn : n ≤ 1000) : callW fi_shared_by [.v (.lst (vD n r))] o = .ok (.v (.int (gcdR n r : Nat))) o := by
  refine cp1 rfl rfl rfl ?_
  simp [m_shared_by, vD]
  refine out_for (fun i σ o => ∃ x, σ = [some (.v (.lst ((List.range n).map fun i => D.int (r i)))), some (.v (.int (((List.range n).take i).foldl (fun g i => Nat.gcd g (r i).natAbs) 0 : Nat))), x]) ⟨none, by simp⟩ ?_ ?_
  · rintro i d σ o hd ⟨x, rfl⟩
    rw [List.getElem?_map] at hd
    cases hv : (List.range n)[i]? with
    | none => rw [hv] at hd; simp at hd
    | some v =>
      rw [hv] at hd; simp at hd; subst hd
      have hg := gcd_lt hr ((List.range n).take i) 0 (Nat.two_pow_pos a)
      rw [List.take_add_one, hv]
      simp only [Option.toList_some, List.foldl_append, List.foldl_cons, List.foldl_nil]
      generalize ((List.range n).take i).foldl (fun g i => Nat.gcd g (r i).natAbs) 0 = g at *
      have hs := fun o => t_shared (o := o) (g : Int) (r v) (2 * a) (by omega) (by
        rw [Int.natAbs_natCast, show 2 * a = a + a by omega, pow2_add]
        exact Nat.mul_lt_mul_of_lt_of_lt hg (hr v))
      rw [Int.natAbs_natCast] at hs
      by_cases h0 : g = 0
      · by_cases h1 : r v = 0
        · simp [h0, h1]
        · subst h0
          simp at hs
          simp [h1, hs]
      · simp [h0, hs]
  · rintro σ o ⟨x, rfl⟩
    simp [gcdR, List.take_of_length_le]
end
/-! ### one row made less by another -/
def cross (r : Nat → Int) (x : Nat × (Nat → Int)) : Nat → Int := fun i => r i * x.2 x.1 - x.2 i * r x.1
def red1 (n : Nat) (r : Nat → Int) (x : Nat × (Nat → Int)) : Nat → Int := if r x.1 = 0 then r else if 1 < gcdR n (cross r x) then fun i => cross r x i / (gcdR n (cross r x) : Nat) else cross r x
def redE (n : Nat) (E : List (Nat × (Nat → Int))) (r : Nat → Int) : Nat → Int := E.foldl (red1 n) r
section
variable {n : Nat} {r : Nat → Int} {x : Nat × (Nat → Int)} {E : List (Nat × (Nat → Int))}
theorem cross_off (hr : Off n r) (hx : Off n x.2) : Off n (cross r x) := fun i hi => by simp [cross, hr i hi, hx i hi]
theorem div_at (hr : Off n r) (hx : Off n x.2) (i : Nat) : ((gcdR n (cross r x) : Nat) : Int) * (cross r x i / (gcdR n (cross r x) : Nat)) = cross r x i := by
  by_cases hi : i < n
  · have h := gcdR_dvd (r := cross r x) hi
    rw [Int.mul_comm]
    exact Int.ediv_mul_cancel (Int.ofNat_dvd_left.mpr h)
  · rw [cross_off hr hx i (by omega)]; simp
theorem red1_off (hr : Off n r) (hx : Off n x.2) : Off n (red1 n r x) := fun i hi => by
  unfold red1
  split
  · exact hr i hi
  · split
    · show cross r x i / _ = 0
      rw [cross_off hr hx i hi]; simp
    · exact cross_off hr hx i hi
theorem red1_eq (hr : Off n r) (hx : Off n x.2) (h0 : x.2 x.1 ≠ 0) : ∃ c d k, c ≠ 0 ∧ d ≠ 0 ∧ ∀ i, c * r i = d * red1 n r x i + k * x.2 i := by
  unfold red1
  split
  · exact ⟨1, 1, 0, by decide, by decide, fun i => by simp⟩
  · split
    · rename_i h1 h2
      refine ⟨x.2 x.1, (gcdR n (cross r x) : Nat), r x.1, h0, by omega, fun i => ?_⟩
      rw [div_at hr hx]
      unfold cross; grind
    · exact ⟨x.2 x.1, 1, r x.1, h0, by decide, fun i => by unfold cross; grind⟩
theorem red1_zero : red1 n r x x.1 = 0 := by
  unfold red1
  split
  · assumption
  · have : cross r x x.1 = 0 := by unfold cross; grind
    split
    · show cross r x x.1 / _ = 0
      rw [this]; simp
    · exact this
theorem red1_keep {p : Nat} (hp : r p = 0) (hx : x.2 p = 0) : red1 n r x p = 0 := by
  unfold red1
  split
  · exact hp
  · have : cross r x p = 0 := by unfold cross; rw [hp, hx]; simp
    split
    · show cross r x p / _ = 0
      rw [this]; simp
    · exact this
theorem redE_keep {p : Nat} (hE : ∀ x ∈ E, x.2 p = 0) : ∀ {r : Nat → Int}, r p = 0 → redE n E r p = 0 := by
  induction E with
  | nil => intro r h; exact h
  | cons x E ih => intro r h; exact ih (fun y hy => hE y (by simp [hy])) (red1_keep h (hE x (by simp)))
theorem redE_off (hE : ∀ x ∈ E, Off n x.2) : ∀ {r : Nat → Int}, Off n r → Off n (redE n E r) := by
  induction E with
  | nil => intro r h; exact h
  | cons x E ih => intro r h; exact ih (fun y hy => hE y (by simp [hy])) (red1_off h (hE x (by simp)))
theorem redE_eq (hc : Echl E) (hE : ∀ x ∈ E, Off n x.2) : ∀ {r : Nat → Int}, Off n r → (∃ c d k, c ≠ 0 ∧ d ≠ 0 ∧ ∀ i, c * r i = d * redE n E r i + comb k (E.map Prod.snd) i) ∧ ∀ x ∈ E, redE n E r x.1 = 0 := by
  induction E with
  | nil => intro r h; exact ⟨⟨1, 1, fun _ => 0, by decide, by decide, fun i => by simp [redE, comb]⟩, by simp⟩
  | cons x E ih =>
    intro r h
    obtain ⟨h1, h2, h3⟩ := hc
    have hx := hE x (by simp)
    obtain ⟨c1, d1, k1, a1, a2, a3⟩ := red1_eq h hx h1
    obtain ⟨⟨c2, d2, k2, b1, b2, b3⟩, b4⟩ := ih h3 (fun y hy => hE y (by simp [hy])) (red1_off h hx)
    refine ⟨⟨c1 * c2, d1 * d2, fun j => if j = 0 then c2 * k1 else d1 * k2 (j - 1), Int.mul_ne_zero a1 b1, Int.mul_ne_zero a2 b2, fun i => ?_⟩, fun y hy => ?_⟩
    · have e : redE n (x :: E) r = redE n E (red1 n r x) := rfl
      rw [e]
      simp only [List.map_cons, comb]
      simp
      rw [comb_mul]
      have := a3 i
      have := b3 i
      grind
    · rcases List.mem_cons.mp hy with rfl | hy
      · exact redE_keep h2 red1_zero
      · exact b4 y hy
theorem red1_bd {a : Nat} (hr : Bd a r) (hx : Bd a x.2) : Bd (2 * a + 1) (red1 n r x) := fun i => by
  have hc : Bd (2 * a + 1) (cross r x) := fun i => cross_bd (hr i) (hx x.1) (hx i) (hr x.1)
  unfold red1
  split
  · exact hr.mono (by omega) i
  · split
    · show (cross r x i / _).natAbs < _
      exact Nat.lt_of_le_of_lt (Int.natAbs_ediv_le_natAbs _ _) (hc i)
    · exact hc i
end
end Lk52

set_option maxHeartbeats 4000000
namespace Lk52
open PySem PySem.Spec PyProof.Rows L2 RR
def lD (n : Nat) (r : Nat → Int) : D := .lst (vD n r)
def xD (n : Nat) (x : Nat × (Nat → Int)) : D := .tup [.int (x.1 : Int), lD n x.2]
def bD (n : Nat) (E : List (Nat × (Nat → Int))) : D := .lst (E.map (xD n))
structure BI (n : Nat) (E : List (Nat × (Nat → Int))) : Prop where
  pl : ∀ x ∈ E, x.1 < n
  of : ∀ x ∈ E, Off n x.2
  bd : ∀ (k : Nat) (x : Nat × (Nat → Int)), E[k]? = some x → Bd (ex k) x.2
section
variable {n : Nat} {r : Nat → Int} {E : List (Nat × (Nat → Int))} {o : Objs}
theorem BI.nil : BI n [] := ⟨by simp, by simp, by simp⟩
theorem BI.snoc {p : Nat} {e : Nat → Int} (h : BI n E) (hp : p < n) (he : Off n e) (hb : Bd (ex E.length) e) : BI n (E ++ [(p, e)]) := by
  refine ⟨fun x hx => ?_, fun x hx => ?_, fun k x hx => ?_⟩
  · rcases List.mem_append.mp hx with z | z
    · exact h.pl x z
    · simp at z; subst z; exact hp
  · rcases List.mem_append.mp hx with z | z
    · exact h.of x z
    · simp at z; subst z; exact he
  · rw [List.getElem?_append] at hx
    split at hx
    · exact h.bd k x hx
    · have h1 := (List.getElem?_eq_some_iff.mp hx).1
      simp at h1
      have : k = E.length := by omega
      subst this
      simp at hx; subst hx
      exact hb
theorem ix_v (p : Nat) (hp : p < n) : ixX (.v (lD n r)) (.v (.int (p : Int))) o = .ok (.v (.int (r p))) o := by
  rw [lD, ixX_l]
  exact ix_l _ p _ (by simp [vD, hp])
theorem fdivB {x : Int} {j a : Nat} (h0 : 0 < j) (hj : j < 2 ^ a) (ha : a ≤ 9000) : fdivW (.v (.int x)) (.v (.int (j : Int))) o = .ok (.v (.int (x / (j : Int)))) o := by
  have : CDivW x (j : Int) := by
    refine ⟨by omega, ?_⟩
    rw [Int.natAbs_natCast]
    have := (Nat.log2_lt (show j ≠ 0 by omega)).mpr hj
    omega
  simp only [fdivW, this, or_true, if_true]
theorem zip_v (u v : Nat → Int) : zipM [.v (lD n u), .v (lD n v)] o = .ok ((List.range n).map fun j => D.tup [.int (u j), .int (v j)]) o := by
  rw [← zip_range (fun j => D.int (u j)) (fun j => D.int (v j))]
  rfl
theorem it_v (u : Nat → Int) : iterW o (.v (lD n u)) = .ok ((List.range n).map fun j => D.int (u j)) o := id rfl
theorem lst_v (u : Nat → Int) (hn : n ≤ 1000) : lstMk false (((List.range n).map fun j => D.int (u j)).map W.v) o = .ok (.v (lD n u)) o := by
  rw [lst_vs _ (by simp; exact sz2 (by omega))]
  rfl
theorem t_reduced (h : BI n E) (hl : E.length ≤ 5) (hr : Bd 64 r) (hn : n ≤ 1000) : (∀ o : Objs, callW fi_reduced [.v (lD n r), .v (bD n E)] o = .ok (.v (lD n (redE n E r))) o) ∧ Bd (ex E.length) (redE n E r) := by
  have bnd : ∀ i, i ≤ E.length → Bd (ex i) (redE n (E.take i) r) := by
    intro i
    induction i with
    | zero => intro _; simpa [redE, ex] using hr
    | succ i ih =>
      intro hi
      have hx : E[i]? = some E[i] := List.getElem?_eq_getElem (by omega)
      rw [List.take_add_one, hx]
      simp only [Option.toList_some, redE, List.foldl_append, List.foldl_cons, List.foldl_nil]
      exact red1_bd (ih (by omega)) (h.bd i _ hx)
  refine ⟨fun o => cp2 rfl rfl rfl ?_, by simpa using bnd E.length (Nat.le_refl _)⟩
  simp [m_reduced, bD]
  refine out_for (fun i σ o => ∃ x2 x3 x4 x5 x6, σ = [some (.v (lD n (redE n (E.take i) r))), some (.v (.lst (E.map (xD n)))), x2, x3, x4, x5, x6]) ⟨none, none, none, none, none, by simp [redE]⟩ ?_ ?_
  · rintro i d σ o hd ⟨x2, x3, x4, x5, x6, rfl⟩
    rw [List.getElem?_map] at hd
    cases hv : E[i]? with
    | none => rw [hv] at hd; simp at hd
    | some x =>
      rw [hv] at hd; simp at hd; subst hd
      have hi := (List.getElem?_eq_some_iff.mp hv).1
      have hxE := List.mem_of_getElem? hv
      have hp := h.pl x hxE
      have hb1 := bnd i (by omega)
      have hb2 := h.bd i x hv
      have he4 : ex i ≤ 1039 := Nat.le_trans (ex_mono (show i ≤ 4 by omega)) (by decide)
      rw [List.take_add_one, hv]
      simp only [Option.toList_some, redE, List.foldl_append, List.foldl_cons, List.foldl_nil]
      change Bd (ex i) ((E.take i).foldl (red1 n) r) at hb1
      generalize (E.take i).foldl (red1 n) r = ρ at *
      have ixr := fun o => ix_v (o := o) (r := ρ) x.1 hp
      have ixe := fun o => ix_v (o := o) (r := x.2) x.1 hp
      by_cases h0 : ρ x.1 = 0
      · have e1 : red1 n ρ x = ρ := by unfold red1; rw [if_pos h0]
        simp [xD, ixr, h0, e1]
      · simp [xD, ixr, h0, zip_v]
        have hcb : Bd (2 * ex i + 1) (cross ρ x) := fun j => cross_bd (hb1 j) (hb2 x.1) (hb2 j) (hb1 x.1)
        refine out_lc (fun j => D.int (cross ρ x j)) (by simp; exact sz2 (by omega)) (fun j hj => ?_) ?_
        · simp [ixr, ixe, mulB (hb1 j) (hb2 x.1) (by omega), mulB (hb2 j) (hb1 x.1) (by omega), cross]
        · rw [lst_v _ hn]
          have sb := fun o => t_shared_by (o := o) (cross ρ x) (2 * ex i + 1) (by omega) hcb hn
          have sb : ∀ o : Objs, callW fi_shared_by [.v (lD n (cross ρ x))] o = .ok (.v (.int (gcdR n (cross ρ x) : Nat))) o := sb
          have hgl : gcdR n (cross ρ x) < 2 ^ (2 * ex i + 1) := gcd_lt hcb _ 0 (Nat.two_pow_pos _)
          by_cases h1 : 1 < gcdR n (cross ρ x)
          · have h1' : (1 : Int) < (gcdR n (cross ρ x) : Int) := by omega
            have e1 : red1 n ρ x = fun i => cross ρ x i / (gcdR n (cross ρ x) : Nat) := by unfold red1; rw [if_neg h0, if_pos h1]
            simp [sb, h1', it_v]
            refine out_lc (fun j => D.int (cross ρ x j / (gcdR n (cross ρ x) : Nat))) (by simp; exact sz2 (by omega)) (fun j hj => ?_) ?_
            · simp [fdivB (x := cross ρ x j) (show 0 < gcdR n (cross ρ x) by omega) hgl (by omega)]
            · rw [lst_v _ hn]
              simp [e1]
          · have h1' : ¬ (1 : Int) < (gcdR n (cross ρ x) : Int) := by omega
            have e1 : red1 n ρ x = cross ρ x := by unfold red1; rw [if_neg h0, if_neg h1]
            simp [sb, h1', e1]
  · rintro σ o ⟨x2, x3, x4, x5, x6, rfl⟩
    simp
/-! ### joined -/
theorem sh_ps (ps : List Nat) : SeqAt.shaped (py (.lst (ps.map di))) = true := by
  have h1 : PyData.canLayAll0 (pys (ps.map di)) = true := by
    induction ps with
    | nil => rfl
    | cons p ps ih => simp only [List.map_cons, pys, PyData.canLayAll0, ih]; rfl
  have h2 : PyData.depthAll (pys (ps.map di)) ≤ 0 := by
    induction ps with
    | nil => exact Nat.le_refl _
    | cons p ps ih =>
      simp only [List.map_cons, pys, PyData.canLayAll0] at h1
      simp only [List.map_cons, pys, PyData.depthAll]
      have := ih (by simp only [Bool.and_eq_true] at h1; exact h1.2)
      have e : (py (di p)).depth = 0 := rfl
      rw [e]; omega
  simp only [SeqAt.shaped, py, PyData.canLay0, PyData.depth, h1, Bool.true_and, decide_eq_true_eq]
  omega
theorem t_joined {vs : List (Nat → Int)} (hn : n ≤ 5) (h : BI n E) (hE : Ech E vs) (hr : Bd 64 r) (ho : Off n r) :
    (∃ E', (∀ o : Objs, callW fi_joined [.v (lD n r), .v (bD n E)] o = .ok (.v (.tup [bD n E', .bl true])) o) ∧ Ech E' (vs ++ [r]) ∧ BI n E') ∨ ((∀ o : Objs, callW fi_joined [.v (lD n r), .v (bD n E)] o = .ok (.v (.tup [bD n E, .bl false])) o) ∧ InSpan r vs) := by
  have hl : E.length ≤ n := by
    have := nodup_lt (echl_nodup hE.ec) (n := n) fun p hp => by
      obtain ⟨x, hx, rfl⟩ := List.mem_map.mp hp
      exact h.pl x hx
    simpa using this
  obtain ⟨tr, tb⟩ := t_reduced h (show E.length ≤ 5 by omega) hr (by omega)
  obtain ⟨⟨c, d, k, hc, hd, e⟩, hz⟩ := redE_eq hE.ec h.of ho
  have hoff := redE_off h.of ho
  generalize redE n E r = q at *
  obtain ⟨ps, hps⟩ : ∃ ps, ps = (List.range n).filter fun i => !decide (q i = 0) := ⟨_, rfl⟩
  have lx : ∀ o : Objs, listX false (.v (lD n r)) o = .ok (.v (lD n r)) o := fun o => list_lX _ (by simp; exact sz2 (by omega))
  have en : enumD (vD n q) = (List.range n).map fun j => D.tup [di j, .int (q j)] := enum_map (α := Nat) _ _
  have hpl : ps.length ≤ n := by rw [hps]; exact Nat.le_trans (List.length_filter_le _ _) (by simp)
  have key : ∀ {Q : Fl → Objs → Prop}, Q (.rt (.v (if ps = [] then .tup [bD n E, .bl false] else .tup [bD n (E ++ [(ps.headD 0, q)]), .bl true]))) [] → Out (m_joined (startD 6 [.v (lD n r), .v (bD n E)]) []) Q := by
    intro Q hQ
    simp [m_joined, lx, tr]
    simp [lD, en]
    refine out_lcF (fun i => !decide (q i = 0)) di (by simp; exact sz2 (by omega)) (fun i hi => ?_) ?_
    · by_cases h0 : q i = 0 <;> simp [h0, di]
    · rw [← hps, lst_vs _ (by simp; exact sz2 (by omega))]
      have l0 : ∀ o : Objs, lstMk false [] o = .ok (.v (.lst [])) o := fun o => rfl
      have nz : ∀ o : Objs, neW (.v (.lst (ps.map di))) (.v (.lst [])) o = .ok (.v (.bl (!ps.isEmpty))) o := fun o => by
        have s0 : SeqAt.shaped (py (.lst [])) = true := sh_ps []
        rw [ne_ll (sh_ps ps) s0]
        cases ps <;> rfl
      cases ps with
      | nil =>
        simp at hQ
        simp only [List.map_nil] at nz
        simp [l0, nz]
        exact hQ
      | cons p ps =>
        simp at hQ
        have i0 : ∀ o : Objs, ixW (.v (.lst (di p :: ps.map di))) (.v (.int 0)) o = .ok (.v (.int (p : Int))) o := fun o => ix_l _ 0 _ rfl
        have sw : ∀ o : Objs, seqW o (.v (bD n E)) = some (E.map (xD n)) := fun o => rfl
        have tp : ∀ o : Objs, tupW [W.v (D.int (p : Int)), W.v (D.lst (vD n q))] o = .ok (.v (xD n (p, q))) o := fun o => rfl
        have lm : ∀ o : Objs, lstMk false ((E.map (xD n)).map W.v ++ [W.v (xD n (p, q))]) o = .ok (.v (bD n (E ++ [(p, q)]))) o := fun o => by
          have := lst_vs (o := o) (E.map (xD n) ++ [xD n (p, q)]) (by simp; exact sz2 (by omega))
          rw [List.map_append] at this
          rw [show [W.v (xD n (p, q))] = [xD n (p, q)].map W.v from rfl, this]
          simp [bD]
        have t2 : ∀ o : Objs, tupW [W.v (bD n (E ++ [(p, q)])), W.v (D.bl true)] o = .ok (.v (.tup [bD n (E ++ [(p, q)]), .bl true])) o := fun o => rfl
        simp only [List.map_cons] at nz
        simp only [List.map_map] at lm
        simp [l0, nz, i0, sw, tp, lm, t2]
        exact hQ
  by_cases hp : ps = []
  · refine .inr ⟨fun o => cp2 rfl rfl rfl (key ?_), hE.old ⟨c, hc, k, fun i => ?_⟩⟩
    · rw [if_pos hp]
    · have : q i = 0 := by
        by_cases hi : i < n
        · rw [hp] at hps
          have := List.filter_eq_nil_iff.mp hps.symm i (by simpa using hi)
          simpa using this
        · exact hoff i (by omega)
      rw [e, this]; simp
  · obtain ⟨p, ps', rfl⟩ := List.exists_cons_of_ne_nil hp
    have hmem : p ∈ (List.range n).filter fun i => !decide (q i = 0) := by rw [← hps]; simp
    have hp1 : p < n := by have := (List.mem_filter.mp hmem).1; simpa using this
    have hp2 : q p ≠ 0 := by have := (List.mem_filter.mp hmem).2; simpa using this
    refine .inl ⟨E ++ [(p, q)], fun o => cp2 rfl rfl rfl (key ?_), hE.new hc hd e hz hp2, h.snoc hp1 hoff tb⟩
    rw [if_neg hp]; rfl
theorem t_rank_of (Rs : List (Nat → Int)) (hn : n ≤ 5) (hb : ∀ R ∈ Rs, Bd 64 R) (ho : ∀ R ∈ Rs, Off n R) : ∃ vs : List (Nat → Int), (∀ o : Objs, callW fi_rank_of [.v (.lst (Rs.map (lD n)))] o = .ok (.v (.int (vs.length : Nat))) o) ∧ (∀ v ∈ vs, v ∈ Rs) ∧ Indep vs ∧ ∀ R ∈ Rs, InSpan R vs := by
  have key : Out (m_rank_of (startD 3 [.v (.lst (Rs.map (lD n)))]) []) fun fl _ => ∃ vs : List (Nat → Int), fl = .rt (.v (.int (vs.length : Nat))) ∧ (∀ v ∈ vs, v ∈ Rs) ∧ Indep vs ∧ ∀ R ∈ Rs, InSpan R vs := by
    have l0 : ∀ o : Objs, lstMk false [] o = .ok (.v (.lst [])) o := fun o => rfl
    simp [m_rank_of, l0]
    refine out_for (fun i σ o => ∃ E vs x, σ = [some (.v (.lst (Rs.map (lD n)))), some (.v (bD n E)), x] ∧ BI n E ∧ Ech E vs ∧ (∀ v ∈ vs, v ∈ Rs) ∧ ∀ R ∈ Rs.take i, InSpan R vs) ⟨[], [], none, rfl, .nil, .nil, by simp, by simp⟩ ?_ ?_
    · rintro i d σ o hd ⟨E, vs, x, rfl, hB, hE, hv, hs⟩
      rw [List.getElem?_map] at hd
      cases hR : Rs[i]? with
      | none => rw [hR] at hd; simp at hd
      | some R =>
        rw [hR] at hd; simp at hd; subst hd
        have hRm := List.mem_of_getElem? hR
        rw [List.take_add_one, hR]
        rcases t_joined hn hB hE (hb R hRm) (ho R hRm) with ⟨E', e, h1, h2⟩ | ⟨e, h1⟩
        · have i0 : ∀ o : Objs, ixW (.v (.tup [bD n E', .bl true])) (.v (.int 0)) o = .ok (.v (bD n E')) o := fun o => ix0
          simp [e, i0]
          refine ⟨E', rfl, h2, vs ++ [R], h1, fun v hv' => ?_, fun q hq => ?_⟩
          · rcases List.mem_append.mp hv' with z | z
            · exact hv v z
            · simp at z; subst z; exact hRm
          · rcases hq with z | z
            · exact (hs q z).mono fun w hw => List.mem_append_left _ hw
            · subst z; exact .self (by simp)
        · have i0 : ∀ o : Objs, ixW (.v (.tup [bD n E, .bl false])) (.v (.int 0)) o = .ok (.v (bD n E)) o := fun o => ix0
          simp [e, i0]
          refine ⟨E, rfl, hB, vs, hE, hv, fun q hq => ?_⟩
          rcases hq with z | z
          · exact hs q z
          · subst z; exact h1
    · rintro σ o ⟨E, vs, x, rfl, hB, hE, hv, hs⟩
      rw [show (Rs.map (lD n)).length = Rs.length by simp, List.take_length] at hs
      have hlen : ∀ o : Objs, lenC cl0 (.v (bD n E)) o = .ok (.v (.int (vs.length : Nat))) o := fun o => by
        simp [bD, hE.l]
      simp [hlen]
      exact ⟨vs, rfl, hv, hE.d, hs⟩
  obtain ⟨fl, o1, e, vs, rfl, h⟩ := out_inv key
  exact ⟨vs, fun o => cp1 rfl rfl rfl (out_of e rfl), h⟩
end
end Lk52

set_option maxHeartbeats 4000000
namespace Lk52
open PySem PySem.Spec PyProof.Rows L2 RR
/-! ### the vectors of words -/
def cutv (n : Nat) (v : Nat → Int) : Nat → Int := fun i => if i < n then v i else 0
def wv (n : Nat) (T : Nat → Nat → Nat → Int) (b : Nat → Int) (u : List Nat) : Nat → Int := cutv n (fold n T b u)
section
variable {w n : Nat} {b : Nat → Int} {T : Nat → Nat → Nat → Int} {o : Objs}
theorem cut_off (v : Nat → Int) : Off n (cutv n v) := fun i hi => by simp [cutv, show ¬ i < n by omega]
theorem vD_cut (v : Nat → Int) : vD n (cutv n v) = vD n v := by
  unfold vD
  refine List.map_congr_left fun i hi => ?_
  simp [cutv, List.mem_range.mp hi]
theorem lD_cut (v : Nat → Int) : lD n (cutv n v) = lD n v := by simp only [lD, vD_cut]
theorem stp_cut (t : Nat → Nat → Int) (v : Nat → Int) : stp n t (cutv n v) = stp n t v := by
  funext p
  refine lsum_congr fun j hj => ?_
  simp [cutv, List.mem_range.mp hj]
theorem wv_snoc (u : List Nat) (s : Nat) : wv n T b (u ++ [s]) = cutv n (stp n (T s) (wv n T b u)) := by
  unfold wv
  rw [fold_snoc, stp_cut]
theorem lsum_abs {l : List Nat} {f : Nat → Int} {C : Nat} (h : ∀ j ∈ l, (f j).natAbs ≤ C) : (lsum l f).natAbs ≤ l.length * C := by
  induction l with
  | nil => simp
  | cons a l ih =>
    have h1 := h a (by simp)
    have h2 := ih fun j hj => h j (by simp [hj])
    simp only [lsum_cons, List.length_cons]
    have h3 := Int.natAbs_add_le (f a) (lsum l f)
    rw [Nat.add_mul, Nat.one_mul]
    omega
def T3 (T : Nat → Nat → Nat → Int) : Prop := ∀ q j k, (T q j k).natAbs ≤ 3
theorem fold_abs (hT : T3 T) (hn : n ≤ 4) (hb : ∀ i, (b i).natAbs ≤ 1000) (u : List Nat) (p : Nat) : (fold n T b u p).natAbs ≤ 1000 * 12 ^ u.length := by
  have key : ∀ (u : List Nat) (v : Nat → Int) (C : Nat), (∀ i, (v i).natAbs ≤ C) → ∀ p, (fold n T v u p).natAbs ≤ C * 12 ^ u.length := by
    intro u
    induction u with
    | nil => intro v C h p; simpa [fold] using h p
    | cons s u ih =>
      intro v C h p
      have e : fold n T v (s :: u) = fold n T (stp n (T s) v) u := rfl
      rw [e]
      have := ih (stp n (T s) v) (12 * C) (fun i => by
        have h1 : (stp n (T s) v i).natAbs ≤ (List.range n).length * (C * 3) := lsum_abs fun j _ => by
          rw [Int.natAbs_mul]
          exact Nat.mul_le_mul (h j) (hT s j i)
        rw [List.length_range] at h1
        have h2 : n * (C * 3) ≤ 4 * (C * 3) := Nat.mul_le_mul_right _ hn
        omega) p
      have e2 : 12 * C * 12 ^ u.length = C * 12 ^ (s :: u).length := by
        rw [List.length_cons, Nat.pow_succ]
        rw [Nat.mul_comm 12 C, Nat.mul_assoc, Nat.mul_comm 12]
      omega
  exact key u b 1000 hb p
theorem wv_bd (hT : T3 T) (hn : n ≤ 4) (hb : ∀ i, (b i).natAbs ≤ 1000) {u : List Nat} (hu : u.length ≤ 4) : Bd 25 (wv n T b u) := fun i => by
  have h1 := fold_abs hT hn hb u i
  have h2 : 12 ^ u.length ≤ 12 ^ 4 := Nat.pow_le_pow_right (by decide) hu
  have h3 : 1000 * 12 ^ u.length ≤ 1000 * 12 ^ 4 := Nat.mul_le_mul_left _ h2
  have e : (1000 * 12 ^ 4 : Nat) < 2 ^ 25 := by decide
  unfold wv cutv
  split
  · omega
  · simp
/-! ### spanned -/
structure Sp (w n : Nat) (T : Nat → Nat → Nat → Int) (b : Nat → Int) (us : List (List Nat)) : Prop where
  len : us.length ≤ n
  dep : ∀ (i : Nat) (u : List Nat), us[i]? = some u → u.length ≤ i
  lt : ∀ u ∈ us, ∀ d ∈ u, d < w
  nil : InSpan (wv n T b []) (us.map (wv n T b))
  st : ∀ u ∈ us, ∀ s, s < w → InSpan (wv n T b (u ++ [s])) (us.map (wv n T b))
def nx (w : Nat) (u : List Nat) : List (List Nat) := (List.range w).map fun s => u ++ [s]
def lns (w : Nat) (us : List (List Nat)) : List (List Nat) := [] :: us.flatMap (nx w)
theorem lns_snoc (us : List (List Nat)) (u : List Nat) : lns w (us ++ [u]) = lns w us ++ nx w u := by simp [lns]
theorem lns_len (us : List (List Nat)) : (lns w us).length = 1 + us.length * w := by
  induction us with
  | nil => simp [lns]
  | cons u us ih =>
    simp only [lns, List.flatMap_cons, List.length_cons, List.length_append] at ih ⊢
    have : (nx w u).length = w := by simp [nx]
    rw [this, Nat.add_mul]
    omega
theorem lns_mem {us : List (List Nat)} {u : List Nat} (h : u ∈ lns w us) : u = [] ∨ ∃ v ∈ us, ∃ s, s < w ∧ u = v ++ [s] := by
  simp only [lns, List.mem_cons, List.mem_flatMap, nx, List.mem_map, List.mem_range] at h
  rcases h with h | ⟨v, hv, s, hs, rfl⟩
  · exact .inl h
  · exact .inr ⟨v, hv, s, hs, rfl⟩
def sOb (n : Nat) (T : Nat → Nat → Nat → Int) (b : Nat → Int) (us ls : List (List Nat)) : Objs := [⟨true, .lst (us.map fun u => lD n (wv n T b u))⟩, ⟨true, .lst (ls.map fun u => lD n (wv n T b u))⟩]
theorem len_s {us ls : List (List Nat)} : lenC cl3 (.o 1) (sOb n T b us ls) = .ok (.v (.int (ls.length : Nat))) (sOb n T b us ls) := by
  have : lenC cl3 (.o 1) (sOb n T b us ls) = .ok (.v (.int ((ls.map fun u => lD n (wv n T b u)).length : Nat))) (sOb n T b us ls) := by kernel_rfl
  rw [this]; simp
theorem ix_s' {us ls : List (List Nat)} {i : Nat} {u : List Nat} (h : ls[i]? = some u) : ixX (.o 1) (.v (.int (i : Int))) (sOb n T b us ls) = .ok (.v (lD n (wv n T b u))) (sOb n T b us ls) := by
  have e : (sOb n T b us ls)[1]? = some ⟨true, .lst (ls.map fun u => lD n (wv n T b u))⟩ := rfl
  rw [ixX_o e]
  have e2 : ixW (.o 1) (.v (.int (i : Int))) (sOb n T b us ls) = ixW (.v (.lst (ls.map fun u => lD n (wv n T b u)))) (.v (.int (i : Int))) (sOb n T b us ls) := rfl
  rw [e2, ix_l _ i (lD n (wv n T b u)) (by simp [h])]
theorem app_s {us ls : List (List Nat)} {u : List Nat} (h : us.length < sizeLine) : appendL (.o 0) [.v (lD n (wv n T b u))] (sOb n T b us ls) = .ok (.v .non) (sOb n T b (us ++ [u]) ls) := by
  have e : (sOb n T b us ls)[0]? = some ⟨true, .lst (us.map fun u => lD n (wv n T b u))⟩ := rfl
  have h' : (us.map fun u => lD n (wv n T b u)).length < sizeLine := by simpa using h
  simp only [appendL, e, h', if_true]
  simp [sOb]
theorem ext_s {us ls ms : List (List Nat)} (h : ls.length + ms.length ≤ sizeLine) : extendL (.o 1) [.v (.lst (ms.map fun u => lD n (wv n T b u)))] (sOb n T b us ls) = .ok (.v .non) (sOb n T b us (ls ++ ms)) := by
  have e : (sOb n T b us ls)[1]? = some ⟨true, .lst (ls.map fun u => lD n (wv n T b u))⟩ := rfl
  have e2 : lstW (sOb n T b us ls) (.v (.lst (ms.map fun u => lD n (wv n T b u)))) = some (ms.map fun u => lD n (wv n T b u)) := rfl
  have h' : (ls.map fun u => lD n (wv n T b u)).length + (ms.map fun u => lD n (wv n T b u)).length ≤ sizeLine := by simpa using h
  simp only [extendL, e, e2, h', if_true]
  simp [sOb]
theorem it_sqk (k : Bool) (l : List D) : iterW o (.v (sqk k l)) = .ok l o := by cases k <;> rfl
theorem t_spanned (kk k : Bool) (hw : w ≤ 3) (hn : n ≤ 4) (hT : T3 T) (hb : ∀ i, (b i).natAbs ≤ 1000) : ∃ us, (∀ o : Objs, callW fi_spanned [.v (.tup (vD n b)), .v (sqk kk ((List.range w).map fun q => tbk k n (T q)))] o = .ok (.v (.lst (us.map fun u => lD n (wv n T b u)))) o) ∧ Sp w n T b us := by
  have hTs : ∀ q j, Sm (-1000) 1000 (T q j) := fun q j i => by have := hT q j i; omega
  have key : Out (m_spanned (startD 9 [.v (.tup (vD n b)), .v (sqk kk ((List.range w).map fun q => tbk k n (T q)))]) []) fun fl o => ∃ us, (fl = .rt (.o 0) ∧ o[0]? = some ⟨true, .lst (us.map fun u => lD n (wv n T b u))⟩) ∧ Sp w n T b us := by
    have l0 : ∀ o : Objs, lstMk false [] o = .ok (.v (.lst [])) o := fun o => rfl
    have lb : ∀ o : Objs, listX false (.v (.tup (vD n b))) o = .ok (.v (lD n (wv n T b []))) o := fun o => by
      rw [list_tX _ (by simp; exact sz hn), wv, lD_cut]; rfl
    simp [m_spanned, l0, lb]
    refine out_whileB (1 + n * w) (fun m σ o => ∃ (i : Nat) (E : List (Nat × (Nat → Int))) (us : List (List Nat)) (x6 x7 x8 : Option W), σ = [some (.v (.tup (vD n b))), some (.v (sqk kk ((List.range w).map fun q => tbk k n (T q)))), some (.v (bD n E)), some (.o 0), some (.o 1), some (.v (.int (i : Int))), x6, x7, x8] ∧ o = sOb n T b us (lns w us) ∧ m = 1 + n * w - i ∧ BI n E ∧ Ech E (us.map (wv n T b)) ∧ (∀ (i : Nat) (u : List Nat), us[i]? = some u → u.length ≤ i) ∧ (∀ u ∈ us, ∀ d ∈ u, d < w) ∧ ∀ u ∈ (lns w us).take i, InSpan (wv n T b u) (us.map (wv n T b))) ?_ ?_ ?_
    · have : n * w ≤ 4 * 3 := Nat.mul_le_mul hn hw
      omega
    · exact ⟨0, [], [], none, none, none, rfl, rfl, rfl, .nil, .nil, by simp, by simp, by simp⟩
    · rintro m σ o ⟨i, E, us, x6, x7, x8, rfl, rfl, rfl, hB, hE, hd, hlt, hsp⟩
      have hEl : E.length ≤ n := by
        have := nodup_lt (echl_nodup hE.ec) (n := n) fun p hp => by
          obtain ⟨x, hx, rfl⟩ := List.mem_map.mp hp
          exact hB.pl x hx
        simpa using this
      have hul : us.length ≤ n := by have := hE.l; simp at this; omega
      have hll := lns_len (w := w) us
      have hlw : us.length * w ≤ n * w := Nat.mul_le_mul_right w hul
      have hnw : n * w ≤ 4 * 3 := Nat.mul_le_mul hn hw
      by_cases hi : i < (lns w us).length
      · have hu : (lns w us)[i]? = some (lns w us)[i] := List.getElem?_eq_getElem hi
        generalize (lns w us)[i] = u at hu
        have hum := List.mem_of_getElem? hu
        have hulen : u.length ≤ us.length ∧ ∀ d ∈ u, d < w := by
          rcases lns_mem hum with rfl | ⟨v, hv, s, hs, rfl⟩
          · exact ⟨Nat.zero_le _, by simp⟩
          · obtain ⟨j, hj, e⟩ := List.mem_iff_getElem.mp hv
            have := hd j v (List.getElem?_eq_some_iff.mpr ⟨hj, e⟩)
            refine ⟨by simp; omega, fun d hdd => ?_⟩
            rcases List.mem_append.mp hdd with z | z
            · exact hlt v hv d z
            · simp at z; omega
        have hbd : Bd 64 (wv n T b u) := (wv_bd hT hn hb (show u.length ≤ 4 by omega)).mono (by omega)
        have hi' : (i : Int) < ((lns w us).length : Int) := by omega
        simp [len_s, hi, ix_s' hu]
        refine ⟨by omega, ?_⟩
        rcases t_joined (show n ≤ 5 by omega) hB hE hbd (cut_off _) with ⟨E', e, h1, h2⟩ | ⟨e, h1⟩
        · simp [e, mtyOk]
          have m1 : mtyOk "list" (sOb n T b us (lns w us)) (.o 0) = true := rfl
          have m2 : mtyOk "list" (sOb n T b (us ++ [u]) (lns w us)) (.o 1) = true := rfl
          have ap := app_s (n := n) (T := T) (b := b) (us := us) (ls := lns w us) (u := u) (by unfold sizeLine; omega)
          simp only [mtyOk] at m1 m2
          simp [m1, m2, ap, it_sqk]
          refine out_lc (fun q => lD n (wv n T b (u ++ [q]))) (by simp; exact sz2 (by omega)) (fun q hq => ?_) ?_
          · have tm := fun o => t_moved (n := n) (o := o) k (wv n T b u) (T q) hn (hTs q)
            simp only [lD]
            simp [tm, wv_snoc, vD_cut]
          · rw [lst_vs _ (by simp; exact sz2 (by omega))]
            have ex' := ext_s (n := n) (T := T) (b := b) (us := us ++ [u]) (ls := lns w us) (ms := nx w u) (by simp [nx, hll]; exact sz2 (by omega))
            rw [← lns_snoc] at ex'
            have e5 : ((nx w u).map fun u => lD n (wv n T b u)) = (List.range w).map fun q => lD n (wv n T b (u ++ [q])) := by simp [nx]
            rw [e5] at ex'
            simp [ex']
            refine ⟨i + 1, E', ⟨rfl, by simp⟩, us ++ [u], rfl, by omega, h2, by simpa using h1, fun j v hj => ?_, fun v hv => ?_, fun v hv => ?_⟩
            · rw [List.getElem?_append] at hj
              split at hj
              · exact hd j v hj
              · have h3 := (List.getElem?_eq_some_iff.mp hj).1
                simp at h3
                have : j = us.length := by omega
                subst this
                simp at hj; subst hj
                exact hulen.1
            · rcases List.mem_append.mp hv with z | z
              · exact hlt v z
              · simp at z; subst z; exact hulen.2
            · rw [lns_snoc, List.take_append_of_le_length (by omega), List.take_add_one, hu] at hv
              rw [List.map_append]
              rcases List.mem_append.mp hv with z | z
              · exact (hsp v z).mono fun x hx => List.mem_append_left _ hx
              · simp at z; subst z; exact .self (by simp)
        · simp [e]
          refine ⟨i + 1, E, ⟨rfl, by simp⟩, us, rfl, by omega, hB, hE, hd, hlt, fun v hv => ?_⟩
          rw [List.take_add_one, hu] at hv
          rcases List.mem_append.mp hv with z | z
          · exact hsp v z
          · simp at z; subst z; exact h1
      · have hi' : ¬ (i : Int) < ((lns w us).length : Int) := by omega
        rw [List.take_of_length_le (by omega)] at hsp
        simp [len_s, hi]
        refine ⟨us, rfl, hul, hd, hlt, hsp [] (by simp [lns]), fun u hu s hs => hsp _ ?_⟩
        simp only [lns, List.mem_cons, List.mem_flatMap, nx, List.mem_map, List.mem_range]
        exact .inr ⟨u, hu, s, hs, rfl⟩
  obtain ⟨fl, o1, e, us, ⟨rfl, ho⟩, hS⟩ := out_inv key
  refine ⟨us, fun o => call_p2 rfl rfl ?_, hS⟩
  have hf : fi_spanned.fm = runFn 9 false m_spanned := rfl
  rw [hf]
  exact run_po (out_of e ⟨0, true, rfl, ho⟩)
end
end Lk52

set_option maxHeartbeats 4000000
namespace Lk52
open PySem PySem.Spec PyProof.Rows L2 RR
/-! ### the law's rank, plainly -/
def Rel (E : List (Nat × (Nat → Int))) (R ρ : (Nat → Int)) : Prop := ∃ c, c ≠ 0 ∧ ∃ k, ∀ i, c * R i = ρ i + comb k (E.map Prod.snd) i
def less (s : Nat) (lead ρ : (Nat → Int)) : (Nat → Int) := fun i => ρ i * lead s - lead i * ρ s
structure LI (m : Nat) (Rs : List (Nat → Int)) (s : Nat) (left : List (Nat → Int)) (E : List (Nat × (Nat → Int))) (vs : List (Nat → Int)) : Prop where
  ec : Ech E vs
  sub : ∀ v ∈ vs, v ∈ Rs
  sp : ∀ x ∈ E, x.1 < s
  zr : ∀ ρ ∈ left, ∀ j, j < s → ρ j = 0
  of : ∀ ρ ∈ left, Off m ρ
  bd : ∀ ρ ∈ left, Bd (ex s) ρ
  tg : ∀ ρ ∈ left, ∃ R ∈ Rs, Rel E R ρ
  cv : ∀ R ∈ Rs, InSpan R vs ∨ ∃ ρ ∈ left, Rel E R ρ
section
variable {m s : Nat} {Rs left : List (Nat → Int)} {E : List (Nat × (Nat → Int))} {vs : List (Nat → Int)}
theorem LI.none (h : LI m Rs s left E vs) (h0 : left.filter (fun ρ => !decide (ρ s = 0)) = []) : LI m Rs (s + 1) left E vs := by
  refine ⟨h.ec, h.sub, fun x hx => by have := h.sp x hx; omega, fun ρ hρ j hj => ?_, h.of, fun ρ hρ => (h.bd ρ hρ).mono (ex_mono (by omega)), h.tg, h.cv⟩
  by_cases e : j = s
  · subst e
    have := List.filter_eq_nil_iff.mp h0 ρ hρ
    simpa using this
  · exact h.zr ρ hρ j (by omega)
theorem rel_up {x : Nat × (Nat → Int)} {R ρ : (Nat → Int)} (h : Rel E R ρ) : Rel (E ++ [x]) R ρ := by
  obtain ⟨c, hc, k, e⟩ := h
  refine ⟨c, hc, fun j => if j < (E.map Prod.snd).length then k j else 0, fun i => ?_⟩
  have e2 : (E ++ [x]).map Prod.snd = E.map Prod.snd ++ [x.2] := by simp
  rw [e2, comb_snoc, comb_congr (d := k) (fun j hj => by simp only [hj, if_true])]
  simp only [Nat.lt_irrefl, if_false]
  rw [e]; simp
theorem rel_less {lead R ρ : (Nat → Int)} (h0 : lead s ≠ 0) (h : Rel E R ρ) : Rel (E ++ [(s, lead)]) R (less s lead ρ) := by
  obtain ⟨c, hc, k, e⟩ := h
  refine ⟨lead s * c, Int.mul_ne_zero h0 hc, fun j => if j < (E.map Prod.snd).length then lead s * k j else ρ s, fun i => ?_⟩
  have e2 : (E ++ [(s, lead)]).map Prod.snd = E.map Prod.snd ++ [lead] := by simp
  rw [e2, comb_snoc, comb_congr (d := fun j => lead s * k j) (fun j hj => by simp only [hj, if_true]), comb_mul]
  simp only [Nat.lt_irrefl, if_false]
  have := e i
  unfold less; grind
theorem LI.some (h : LI m Rs s left E vs) {lead : (Nat → Int)} {more : List (Nat → Int)} (h0 : left.filter (fun ρ => !decide (ρ s = 0)) = lead :: more) :
    ∃ R, LI m Rs (s + 1) (left.filter (fun ρ => decide (ρ s = 0)) ++ more.map (less s lead)) (E ++ [(s, lead)]) (vs ++ [R]) := by
  have hlm : lead ∈ left.filter (fun ρ => !decide (ρ s = 0)) := by rw [h0]; simp
  have hl : lead ∈ left := (List.mem_filter.mp hlm).1
  have hl0 : lead s ≠ 0 := by have := (List.mem_filter.mp hlm).2; simpa using this
  have hmore : ∀ ρ ∈ more, ρ ∈ left := fun ρ hρ => by
    have : ρ ∈ left.filter (fun ρ => !decide (ρ s = 0)) := by rw [h0]; simp [hρ]
    exact (List.mem_filter.mp this).1
  obtain ⟨R, hR, c, hc, k, e⟩ := h.tg lead hl
  refine ⟨R, h.ec.new hc (d := 1) (by decide) (k := k) (fun i => by rw [e]; simp) (fun x hx => h.zr lead hl x.1 (h.sp x hx)) hl0, fun v hv => ?_, fun x hx => ?_, fun ρ hρ j hj => ?_, fun ρ hρ => ?_, fun ρ hρ => ?_, fun ρ hρ => ?_, fun Q hQ => ?_⟩
  · rcases List.mem_append.mp hv with z | z
    · exact h.sub v z
    · simp at z; subst z; exact hR
  · rcases List.mem_append.mp hx with z | z
    · have := h.sp x z; omega
    · simp at z; subst z; show s < s + 1; omega
  · rcases List.mem_append.mp hρ with z | z
    · obtain ⟨z1, z2⟩ := List.mem_filter.mp z
      by_cases ej : j = s
      · subst ej; simpa using z2
      · exact h.zr ρ z1 j (by omega)
    · obtain ⟨q, hq, rfl⟩ := List.mem_map.mp z
      by_cases ej : j = s
      · subst ej; unfold less; grind
      · unfold less
        rw [h.zr q (hmore q hq) j (by omega), h.zr lead hl j (by omega)]; simp
  · rcases List.mem_append.mp hρ with z | z
    · exact h.of ρ (List.mem_filter.mp z).1
    · obtain ⟨q, hq, rfl⟩ := List.mem_map.mp z
      intro i hi
      unfold less
      rw [h.of q (hmore q hq) i hi, h.of lead hl i hi]; simp
  · rcases List.mem_append.mp hρ with z | z
    · exact (h.bd ρ (List.mem_filter.mp z).1).mono (ex_mono (by omega))
    · obtain ⟨q, hq, rfl⟩ := List.mem_map.mp z
      have b1 := h.bd q (hmore q hq)
      have b2 := h.bd lead hl
      exact fun i => cross_bd (b1 i) (b2 s) (b2 i) (b1 s)
  · rcases List.mem_append.mp hρ with z | z
    · obtain ⟨Q, h1, h2⟩ := h.tg ρ (List.mem_filter.mp z).1
      exact ⟨Q, h1, rel_up h2⟩
    · obtain ⟨q, hq, rfl⟩ := List.mem_map.mp z
      obtain ⟨Q, h1, h2⟩ := h.tg q (hmore q hq)
      exact ⟨Q, h1, rel_less hl0 h2⟩
  · have up : ∀ {v : (Nat → Int)}, InSpan v vs → InSpan v (vs ++ [R]) := fun h => h.mono fun w hw => List.mem_append_left _ hw
    rcases h.cv Q hQ with z | ⟨ρ, hρ, hr⟩
    · exact .inl (up z)
    · by_cases e0 : ρ s = 0
      · exact .inr ⟨ρ, List.mem_append_left _ (List.mem_filter.mpr ⟨hρ, by simpa using e0⟩), rel_up hr⟩
      · have : ρ ∈ lead :: more := by rw [← h0]; exact List.mem_filter.mpr ⟨hρ, by simpa using e0⟩
        rcases List.mem_cons.mp this with rfl | hm
        · left
          have h1 := h.ec.new hc (d := 1) (by decide) (k := k) (q := s) (R := R) (rest := ρ) (fun i => by rw [e]; simp) (fun x hx => h.zr ρ hl x.1 (h.sp x hx)) hl0
          refine h1.old ?_
          obtain ⟨c2, hc2, k2, e2⟩ := hr
          refine ⟨c2, hc2, fun j => if j < (E.map Prod.snd).length then k2 j else 1, fun i => ?_⟩
          have e3 : (E ++ [(s, ρ)]).map Prod.snd = E.map Prod.snd ++ [ρ] := by simp
          rw [e3, comb_snoc, comb_congr (d := k2) (fun j hj => by simp only [hj, if_true])]
          simp only [Nat.lt_irrefl, if_false]
          rw [e2]; grind
        · exact .inr ⟨less s lead ρ, List.mem_append_right _ (List.mem_map.mpr ⟨ρ, hm, rfl⟩), rel_less hl0 hr⟩
theorem LI.begin (hb : ∀ R ∈ Rs, Bd 64 R) (ho : ∀ R ∈ Rs, Off m R) : LI m Rs 0 Rs [] [] :=
  ⟨.nil, by simp, by simp, fun _ _ j hj => by omega, ho, hb, fun ρ hρ => ⟨ρ, hρ, 1, by decide, fun _ => 0, fun i => by simp [comb]⟩, fun R hR => .inr ⟨R, hR, 1, by decide, fun _ => 0, fun i => by simp [comb]⟩⟩
theorem LI.fin (h : LI m Rs m left E vs) : ∀ R ∈ Rs, InSpan R vs := fun R hR => by
  rcases h.cv R hR with z | ⟨ρ, hρ, c, hc, k, e⟩
  · exact z
  · refine h.ec.old ⟨c, hc, k, fun i => ?_⟩
    have : ρ i = 0 := by
      by_cases hi : i < m
      · exact h.zr ρ hρ i hi
      · exact h.of ρ hρ i (by omega)
    rw [e, this]; simp
end
/-! ### .. walked -/
def IsL (o : Objs) (w : W) (l : List D) : Prop := w = .v (.lst l) ∨ ∃ j b, w = .o j ∧ o[j]? = some ⟨b, .lst l⟩
section
variable {o : Objs} {w : W} {l : List D}
theorem it_L (h : IsL o w l) : ∃ o', iterW o w = .ok l o' ∧ IsL o' w l := by
  rcases h with rfl | ⟨j, b, rfl, hj⟩
  · exact ⟨o, rfl, .inl rfl⟩
  · have hlt := (List.getElem?_eq_some_iff.mp hj).1
    refine ⟨o.set j ⟨false, .lst l⟩, by simp only [iterW, hj], .inr ⟨j, false, rfl, by simp [hlt]⟩⟩
theorem IsL.app {e : Objs} (h : IsL o w l) : IsL (o ++ e) w l := by
  rcases h with rfl | ⟨j, b, rfl, hj⟩
  · exact .inl rfl
  · exact .inr ⟨j, b, rfl, by rw [List.getElem?_append_left (List.getElem?_eq_some_iff.mp hj).1]; exact hj⟩
theorem lst_vsT (ds : List D) (h : ds.length ≤ sizeLine) : lstMk true (ds.map W.v) o = .ok (.o o.length) (o ++ [⟨true, .lst ds⟩]) := by
  cases ds with
  | nil => rfl
  | cons d ds =>
    have h' : ds.length + 1 ≤ sizeLine := by simpa using h
    have hp := pulls_vs (d :: ds) (o := o)
    simp only [List.map_cons] at hp
    have ha : allO (W.v d :: ds.map W.v) = none := rfl
    simp only [List.map_cons, lstMk, ha, hp, List.length_cons, h', if_true]
theorem mty_last {xs : List D} : mtyOk "list" (o ++ [⟨true, .lst xs⟩]) (.o o.length) = true := by simp [mtyOk]
theorem app_last {xs : List D} {d : D} (h : xs.length < sizeLine) : appendL (.o o.length) [.v d] (o ++ [⟨true, .lst xs⟩]) = .ok (.v .non) (o ++ [⟨true, .lst (xs ++ [d])⟩]) := by
  simp [appendL, h]
theorem cut_drop {xs : List D} {i : Nat} (h : i ≤ xs.length) : RR.cutD xs (some (i : Int)) none = xs.drop i := by
  unfold RR.cutD
  rw [HT.sIx_nat, HT.sIx_none, Nat.min_eq_left h, List.take_of_length_le (by simp)]
theorem sh_rows (m : Nat) (l : List (Nat → Int)) : SeqAt.shaped (py (.lst (l.map (lD m)))) = true := by
  have hv : ∀ (q : List Nat) (r : (Nat → Int)), PyData.canLayAll0 (pys (q.map fun i => D.int (r i))) = true ∧ PyData.depthAll (pys (q.map fun i => D.int (r i))) ≤ 0 := by
    intro q r
    induction q with
    | nil => exact ⟨rfl, Nat.le_refl _⟩
    | cons a q ih =>
      simp only [List.map_cons, pys, PyData.canLayAll0, PyData.depthAll, ih.1, Bool.and_true]
      refine ⟨rfl, ?_⟩
      have e : (py (D.int (r a))).depth = 0 := rfl
      rw [e]; have := ih.2; omega
  have hl : PyData.canLayAll0 (pys (l.map (lD m))) = true ∧ PyData.depthAll (pys (l.map (lD m))) ≤ 1 := by
    induction l with
    | nil => exact ⟨rfl, by simp [pys, PyData.depthAll]⟩
    | cons r l ih =>
      have := hv (List.range m) r
      have e1 : (py (lD m r)).canLay0 = true := by simpa [lD, vD, py, PyData.canLay0] using this.1
      have e2 : (py (lD m r)).depth ≤ 1 := by
        simp only [lD, py, PyData.depth]
        have := this.2
        unfold vD; omega
      simp only [List.map_cons, pys, PyData.canLayAll0, PyData.depthAll, ih.1, e1]
      refine ⟨rfl, ?_⟩
      have := ih.2; omega
  simp only [SeqAt.shaped, py, PyData.canLay0, PyData.depth, hl.1, Bool.true_and, decide_eq_true_eq]
  have := hl.2; omega
theorem t_law_rank (m : Nat) (Rs : List (Nat → Int)) (h0 : Rs ≠ []) (hm : m ≤ 13) (hlen : Rs.length ≤ 13) (hb : ∀ R ∈ Rs, Bd 64 R) (ho : ∀ R ∈ Rs, Off m R) : ∃ vs : List (Nat → Int), (∀ o : Objs, callW fi__law_rank [.v (.lst (Rs.map (lD m)))] o = .ok (.v (.int (vs.length : Nat))) o) ∧ (∀ v ∈ vs, v ∈ Rs) ∧ Indep vs ∧ ∀ R ∈ Rs, InSpan R vs := by
  have key : Out (m__law_rank (startD 9 [.v (.lst (Rs.map (lD m)))]) []) fun fl _ => ∃ vs : List (Nat → Int), fl = .rt (.v (.int (vs.length : Nat))) ∧ (∀ v ∈ vs, v ∈ Rs) ∧ Indep vs ∧ ∀ R ∈ Rs, InSpan R vs := by
    simp [m__law_rank]
    refine out_lc (lD m) (sz2 (by omega)) (fun R hR => ?_) ?_
    · have : ∀ o : Objs, listX false (.v (lD m R)) o = .ok (.v (lD m R)) o := fun o => list_lX _ (by simp; exact sz2 (by omega))
      simp [this]
    · rw [lst_vs _ (by simp; exact sz2 (by omega))]
      obtain ⟨R0, Rs', hRs⟩ := List.exists_cons_of_ne_nil h0
      have i0 : ∀ o : Objs, ixW (.v (.lst (Rs.map (lD m)))) (.v (.int 0)) o = .ok (.v (lD m R0)) o := fun o => ix_l _ 0 _ (by rw [hRs]; rfl)
      have ln : ∀ (ρ : (Nat → Int)) (o : Objs), lenC cl3 (.v (lD m ρ)) o = .ok (.v (.int (m : Int))) o := fun ρ o => by simp [lD]
      simp [i0, ln, rng_s m (show m ≤ 1000000 by omega), rng_eq]
      refine out_for (fun s σ o => ∃ (left : List (Nat → Int)) (E : List (Nat × (Nat → Int))) (vs : List (Nat → Int)) (Lw : W) (x3 x4 x5 x6 x7 x8 : Option W), σ = [some (.v (.lst (Rs.map (lD m)))), some Lw, some (.v (.int (vs.length : Nat))), x3, x4, x5, x6, x7, x8] ∧ IsL o Lw (left.map (lD m)) ∧ left.length ≤ 13 ∧ LI m Rs s left E vs) ?_ ?_ ?_
      · exact ⟨Rs, [], [], _, none, none, none, none, none, none, rfl, .inl rfl, hlen, .begin hb ho⟩
      · rintro s d σ o hd ⟨left, E, vs, Lw, x3, x4, x5, x6, x7, x8, rfl, hL, hll, hI⟩
        obtain ⟨hs, rfl⟩ : s < m ∧ d = di s := by
          rw [List.getElem?_map] at hd
          cases hv : (List.range m)[s]? with
          | none => rw [hv] at hd; simp at hd
          | some v =>
            rw [hv] at hd
            obtain ⟨z1, z2⟩ := List.getElem?_eq_some_iff.mp hv
            simp at z1 z2 hd
            exact ⟨z1, by rw [← hd, z2]; rfl⟩
        obtain ⟨o1, e1, hL1⟩ := it_L hL
        obtain ⟨o2, e2, hL2⟩ := it_L hL1
        have ixs := fun (ρ : (Nat → Int)) (o : Objs) => ix_v (o := o) (n := m) (r := ρ) s hs
        simp [di, e1]
        refine out_lcF (fun ρ => !decide (ρ s = 0)) (lD m) (sz2 (by omega)) (fun ρ hρ => ?_) ?_
        · by_cases h0 : ρ s = 0 <;> simp [ixs, h0]
        · have hsl : (left.filter fun ρ => !decide (ρ s = 0)).length ≤ 13 := Nat.le_trans (List.length_filter_le _ _) hll
          have hrl : (left.filter fun ρ => decide (ρ s = 0)).length ≤ 13 := Nat.le_trans (List.length_filter_le _ _) hll
          have hsum : (left.filter fun ρ => !decide (ρ s = 0)).length + (left.filter fun ρ => decide (ρ s = 0)).length ≤ 13 := by
            have : ∀ l : List (Nat → Int), (l.filter fun ρ => !decide (ρ s = 0)).length + (l.filter fun ρ => decide (ρ s = 0)).length = l.length := by
              intro l
              induction l with
              | nil => rfl
              | cons a l ih =>
                by_cases h0 : a s = 0
                · simp [h0]; omega
                · simp [h0]; omega
            have := this left
            omega
          rw [lst_vs _ (by simp only [List.length_map]; exact sz2 (by omega))]
          simp [e2]
          refine out_lcF (fun ρ => decide (ρ s = 0)) (lD m) (sz2 (by omega)) (fun ρ hρ => ?_) ?_
          · by_cases h0 : ρ s = 0 <;> simp [ixs, h0]
          · rw [lst_vsT _ (by simp only [List.length_map]; exact sz2 (by omega))]
            have l0 : ∀ o : Objs, lstMk false [] o = .ok (.v (.lst [])) o := fun o => rfl
            have hne := fun o => ne_ll (o := o) (sh_rows m (left.filter fun ρ => !decide (ρ s = 0))) (sh_rows m [])
            have hne : ∀ o : Objs, neW (.v (.lst ((left.filter fun ρ => !decide (ρ s = 0)).map (lD m)))) (.v (.lst [])) o = .ok (.v (.bl (!(left.filter fun ρ => !decide (ρ s = 0)).isEmpty))) o := fun o => by
              have := hne o
              simp only [List.map_nil] at this
              rw [this]
              cases (left.filter fun ρ => !decide (ρ s = 0)) <;> rfl
            cases hsome : left.filter (fun ρ => !decide (ρ s = 0)) with
            | nil =>
              rw [hsome] at hne
              simp only [List.map_nil] at hne ⊢
              simp [l0, hne]
              exact ⟨left, E, vs, Lw, ⟨rfl, rfl⟩, hL2.app, hll, hI.none hsome⟩
            | cons lead more =>
              rw [hsome] at hne hsum
              obtain ⟨R, hI'⟩ := hI.some hsome
              have hmore : ∀ ρ ∈ lead :: more, ρ ∈ left := fun ρ hρ => by
                rw [← hsome] at hρ
                exact (List.mem_filter.mp hρ).1
              have ix0' : ∀ o : Objs, ixW (.v (.lst ((lead :: more).map (lD m)))) (.v (.int 0)) o = .ok (.v (lD m lead)) o := fun o => ix_l _ 0 _ rfl
              have hsl2 : ∀ o : Objs, slW false (.v (.lst ((lead :: more).map (lD m)))) (some 1) none o = .ok (.v (.lst (more.map (lD m)))) o := fun o => by
                have := cut_drop (xs := (lead :: more).map (lD m)) (i := 1) (by simp)
                rw [show ((1 : Nat) : Int) = 1 from rfl] at this
                simp only [slW, lsqW, this, Bool.false_eq_true, if_false]
                simp
              simp only [List.map_cons] at hne ix0' hsl2 ⊢
              simp [l0, hne, ix0', hsl2]
              refine out_for (fun i σ o => ∃ x7 x8, σ = [some (.v (.lst (Rs.map (lD m)))), some Lw, some (.v (.int ((vs.length : Int) + 1))), some (.v (.int (s : Int))), some (.v (.lst (lD m lead :: more.map (lD m)))), some (.o o2.length), some (.v (lD m lead)), x7, x8] ∧ o = o2 ++ [⟨true, .lst ((left.filter (fun ρ => decide (ρ s = 0)) ++ (more.take i).map (less s lead)).map (lD m))⟩]) ⟨_, _, rfl, by simp⟩ ?_ ?_
              · rintro i d σ o' hd ⟨x7, x8, rfl, rfl⟩
                rw [List.getElem?_map] at hd
                cases hv : more[i]? with
                | none => rw [hv] at hd; simp at hd
                | some ρ =>
                  rw [hv] at hd; simp at hd; subst hd
                  have hi := (List.getElem?_eq_some_iff.mp hv).1
                  have hρm := List.mem_of_getElem? hv
                  have b1 := hI.bd ρ (hmore ρ (by simp [hρm]))
                  have b2 := hI.bd lead (hmore lead (by simp))
                  have hex : ex s ≤ 600000 := Nat.le_trans (ex_mono (show s ≤ 13 by omega)) (by rw [ex13]; omega)
                  have ml := mty_last (o := o2) (xs := (left.filter (fun ρ => decide (ρ s = 0)) ++ (more.take i).map (less s lead)).map (lD m))
                  have al := app_last (o := o2) (xs := (left.filter (fun ρ => decide (ρ s = 0)) ++ (more.take i).map (less s lead)).map (lD m)) (d := lD m (less s lead ρ)) (by
                    simp only [List.length_map, List.length_append, List.length_take]
                    simp only [List.length_cons] at hsum
                    exact Nat.lt_of_lt_of_le (show _ < 100 by omega) (sz2 (by omega)))
                  rw [List.take_add_one, hv]
                  generalize hX : (left.filter (fun ρ => decide (ρ s = 0)) ++ (more.take i).map (less s lead)).map (lD m) = X at *
                  simp [ml, ln, rng_s m (show m ≤ 1000000 by omega), rng_eq]
                  refine out_lc (fun j => D.int (less s lead ρ j)) (by simp; exact sz2 (by omega)) (fun j hj => ?_) ?_
                  · have hj' : j < m := by simpa using hj
                    have ixj := fun (q : (Nat → Int)) (o : Objs) => ix_v (o := o) (n := m) (r := q) j hj'
                    simp [ixj, ixs, mulB (b1 j) (b2 s) hex, mulB (b2 j) (b1 s) hex, less]
                  · rw [lst_v _ (by omega)]
                    simp [al]
                    rw [← hX]
                    simp
              · rintro σ o' ⟨x7, x8, rfl, rfl⟩
                rw [show (more.map (lD m)).length = more.length by simp, List.take_length]
                simp
                refine ⟨_, _, vs ++ [R], ⟨_, ⟨rfl, by simp⟩, .inr ⟨o2.length, true, rfl, ?_⟩, ?_, hI'⟩⟩
                · simp
                · simp only [List.length_append, List.length_map]
                  simp only [List.length_cons] at hsum
                  omega
      · rintro σ o ⟨left, E, vs, Lw, x3, x4, x5, x6, x7, x8, rfl, hL, hll, hI⟩
        simp at hI
        simp
        exact ⟨vs, rfl, hI.sub, hI.ec.d, hI.fin⟩
  obtain ⟨fl, o1, e, vs, rfl, h⟩ := out_inv key
  exact ⟨vs, fun o => cp1 rfl rfl rfl (out_of e rfl), h⟩
end
end Lk52

set_option maxHeartbeats 4000000
namespace Lk52
open PySem PySem.Spec PyProof.Rows L2 RR
/-! ### what does not bend -/
def LinM {ι : Type} (L : (Nat → Int) → ι → Int) : Prop := ∀ (a d : Int) (x y : Nat → Int) (i : ι), L (fun j => a * x j + d * y j) i = a * L x i + d * L y i
section
variable {ι : Type} {L : (Nat → Int) → ι → Int}
theorem LinM.zero (h : LinM L) (i : ι) : L (fun _ => 0) i = 0 := by
  have := h 0 0 (fun _ => 0) (fun _ => 0) i
  simpa using this
theorem LinM.comb (h : LinM L) (c : Nat → Int) (xs : List (Nat → Int)) (i : ι) : L (RR.comb c xs) i = RR.comb c (xs.map L) i := by
  induction xs generalizing c with
  | nil => exact h.zero i
  | cons x xs ih =>
    have e : RR.comb c (x :: xs) = fun j => c 0 * x j + 1 * RR.comb (fun k => c (k + 1)) xs j := by
      funext j; simp [RR.comb]
    rw [e, h, ih]
    simp [RR.comb]
theorem LinM.span (h : LinM L) {x : Nat → Int} {xs : List (Nat → Int)} (hs : InSpan x xs) : InSpan (L x) (xs.map L) := by
  obtain ⟨m, hm, c, e⟩ := hs
  refine ⟨m, hm, c, fun i => ?_⟩
  rw [← h.comb]
  have e2 : RR.comb c xs = fun j => m * x j + 0 * x j := by
    funext j; rw [← e]; simp
  rw [e2, h]
  simp
end
section
variable {w n : Nat} {b g : Nat → Int} {T : Nat → Nat → Nat → Int}
theorem stp_lin (t : Nat → Nat → Int) : LinM (stp n t) := fun a d x y i => by
  unfold stp
  rw [← lsum_mulL, ← lsum_mulL, ← lsum_add]
  exact lsum_congr fun j _ => by grind
theorem cut_lin (t : Nat → Nat → Int) : LinM fun x => cutv n (stp n t x) := fun a d x y i => by
  have := stp_lin (n := n) t a d x y i
  show cutv n (stp n t _) i = a * cutv n (stp n t x) i + d * cutv n (stp n t y) i
  unfold cutv
  by_cases hi : i < n
  · simp only [hi, if_true]; exact this
  · simp [hi]
theorem dot_lin : LinM fun (x : Nat → Int) (_ : Unit) => dot n x g := fun a d x y i => by
  show dot n _ g = a * dot n x g + d * dot n y g
  unfold dot
  rw [← lsum_mulL, ← lsum_mulL, ← lsum_add]
  exact lsum_congr fun j _ => by grind
theorem dot_linR : LinM fun (x : Nat → Int) (_ : Unit) => dot n g x := fun a d x y i => by
  show dot n g _ = a * dot n g x + d * dot n g y
  unfold dot
  rw [← lsum_mulL, ← lsum_mulL, ← lsum_add]
  exact lsum_congr fun j _ => by grind
/-- a vector, led on by a word -/
def phi (n : Nat) (T : Nat → Nat → Nat → Int) (g : Nat → Int) (x : Nat → Int) (v : List Nat) : Int := dot n (fold n T x v) g
theorem phi_lin : LinM (phi n T g) := fun a d x y v => by
  induction v generalizing x y with
  | nil => exact dot_lin a d x y ()
  | cons s v ih =>
    have e : ∀ z, phi n T g z (s :: v) = phi n T g (stp n (T s) z) v := fun z => rfl
    rw [e, e, e, ← ih]
    congr 1
    funext i
    exact stp_lin (T s) a d x y i
theorem dot_cut (x : Nat → Int) : dot n (cutv n x) g = dot n x g := lsum_congr fun j hj => by simp [cutv, List.mem_range.mp hj]
theorem phi_cut (x : Nat → Int) (v : List Nat) : phi n T g (cutv n x) v = phi n T g x v := by
  cases v with
  | nil => exact dot_cut x
  | cons s v =>
    have e : ∀ z, phi n T g z (s :: v) = phi n T g (stp n (T s) z) v := fun z => rfl
    rw [e, e, stp_cut]
/-- the values of all words -/
def hf (n : Nat) (T : Nat → Nat → Nat → Int) (b g : Nat → Int) (u v : List Nat) : Int := dot n (fold n T b (u ++ v)) g
theorem hf_phi (u : List Nat) : hf n T b g u = phi n T g (wv n T b u) := by
  funext v
  rw [wv, phi_cut]
  simp [hf, phi, fold]
theorem sp_all (hz : ∀ q, w ≤ q → ∀ j k, T q j k = 0) {us : List (List Nat)} (h : Sp w n T b us) : ∀ u, InSpan (wv n T b u) (us.map (wv n T b)) := by
  have key : ∀ (l : Nat) (u : List Nat), u.length = l → InSpan (wv n T b u) (us.map (wv n T b)) := by
    intro l
    induction l with
    | zero =>
      intro u hu
      have : u = [] := List.length_eq_zero_iff.mp hu
      subst this; exact h.nil
    | succ l ih =>
      intro u hu
      rcases List.eq_nil_or_concat u with rfl | ⟨v, s, rfl⟩
      · simp at hu
      · rw [List.concat_eq_append] at *
        have hi := ih v (by simpa using hu)
        rw [wv_snoc]
        by_cases hs : s < w
        · refine ((cut_lin (n := n) (T s)).span hi).trans fun x hx => ?_
          simp only [List.map_map, List.mem_map, Function.comp_apply] at hx
          obtain ⟨q, hq, rfl⟩ := hx
          rw [← wv_snoc]
          exact h.st q hq s hs
        · refine .zero fun i => ?_
          unfold cutv
          split
          · unfold stp
            rw [lsum_congr (g := fun _ => 0) fun j _ => by rw [hz s (by omega)]; simp, lsum_zero]
          · rfl
  exact fun u => key _ u rfl
def tr (T : Nat → Nat → Nat → Int) : Nat → Nat → Nat → Int := fun q j k => T q k j
theorem dot_tr (t : Nat → Nat → Int) (x y : Nat → Int) : dot n x (stp n (fun j k => t k j) y) = dot n (stp n t x) y := by
  unfold dot stp
  have e1 : (lsum (List.range n) fun j => x j * lsum (List.range n) fun i => y i * t j i) = lsum (List.range n) fun j => lsum (List.range n) fun i => x j * (y i * t j i) := lsum_congr fun j _ => (lsum_mulL _ _ _).symm
  have e2 : (lsum (List.range n) fun j => (lsum (List.range n) fun i => x i * t i j) * y j) = lsum (List.range n) fun j => lsum (List.range n) fun i => x i * t i j * y j := lsum_congr fun j _ => (lsum_mulR _ _ _).symm
  rw [e1, e2, lsum_comm]
  exact lsum_congr fun j _ => lsum_congr fun i _ => by grind
theorem pair (r : List Nat) : ∀ x, dot n x (fold n (tr T) g r.reverse) = dot n (fold n T x r) g := by
  induction r with
  | nil => intro x; rfl
  | cons s r ih =>
    intro x
    rw [List.reverse_cons, fold_snoc]
    have : dot n x (stp n (tr T s) (fold n (tr T) g r.reverse)) = dot n (stp n (T s) x) (fold n (tr T) g r.reverse) := dot_tr (T s) x _
    rw [this, ih]; rfl
theorem dot_cutR (x y : Nat → Int) : dot n x (cutv n y) = dot n x y := lsum_congr fun j hj => by simp [cutv, List.mem_range.mp hj]
theorem hf_pair (u v : List Nat) : dot n (wv n T b u) (wv n (tr T) g v) = hf n T b g u v.reverse := by
  have := pair (n := n) (T := T) (g := g) v.reverse (fold n T b u)
  rw [List.reverse_reverse] at this
  unfold wv
  rw [dot_cutR, dot_cut, this]
  simp [hf, fold]
theorem comb_lin' {α ι : Type} (F : α → ι → Int) (c : Nat → Int) (xs : List α) (i : ι) : comb c (xs.map F) i = lin c xs fun x => F x i := by
  induction xs generalizing c with
  | nil => rfl
  | cons x xs ih => simp only [List.map_cons, comb, lin, ih]
theorem lin_map {α β : Type} (f : α → β) (c : Nat → Int) (xs : List α) (G : β → Int) : lin c (xs.map f) G = lin c xs fun x => G (f x) := by
  induction xs generalizing c with
  | nil => rfl
  | cons x xs ih => simp only [List.map_cons, lin, ih]
theorem frame (hz : ∀ q, w ≤ q → ∀ j k, T q j k = 0) {us vs : List (List Nat)} (hu : Sp w n T b us) (hv : Sp w n (tr T) g vs) : Frame (hf n T b g) us (vs.map List.reverse) := by
  refine ⟨fun u => ?_, fun v => ?_⟩
  · rw [hf_phi]
    have := (phi_lin (n := n) (T := T) (g := g)).span (sp_all hz hu u)
    rw [List.map_map] at this
    have e : us.map (hf n T b g) = us.map (phi n T g ∘ wv n T b) := List.map_congr_left fun x _ => hf_phi x
    rw [e]; exact this
  · obtain ⟨m, hm, c, e⟩ := sp_all (T := tr T) (b := g) (fun q hq j k => hz q hq k j) hv v.reverse
    refine ⟨m, hm, c, fun u => ?_⟩
    have h1 := hf_pair (n := n) (b := b) (g := g) (T := T) u v.reverse
    rw [List.reverse_reverse] at h1
    rw [← h1, lin_map]
    have h2 := (dot_linR (n := n) (g := wv n T b u)).comb c (vs.map (wv n (tr T) g)) ()
    have e2 : comb c (vs.map (wv n (tr T) g)) = fun j => m * wv n (tr T) g v.reverse j + 0 * wv n (tr T) g v.reverse j := by
      funext j; rw [← e]; simp
    rw [e2] at h2
    have h3 := dot_linR (n := n) (g := wv n T b u) m 0 (wv n (tr T) g v.reverse) (wv n (tr T) g v.reverse) ()
    simp only [List.map_map] at h2
    rw [comb_lin'] at h2
    rw [Int.zero_mul, Int.add_zero] at h3
    have h3 : (dot n (wv n T b u) fun j => m * wv n (tr T) g v.reverse j + 0 * wv n (tr T) g v.reverse j) = m * dot n (wv n T b u) (wv n (tr T) g v.reverse) := h3
    rw [← h3, h2]
    congr 1
    funext x
    simp only [Function.comp_apply]
    exact hf_pair u x
/-! ### a greater square -/
theorem lin_at {β : Type} {V : List β} {v : β} (h : v ∈ V) : ∃ c, ∀ G, lin c V G = G v := by
  induction V with
  | nil => simp at h
  | cons a V ih =>
    rcases List.mem_cons.mp h with rfl | h
    · refine ⟨fun k => if k = 0 then 1 else 0, fun G => ?_⟩
      simp only [lin]
      have : ∀ (V : List β), lin (fun _ => 0) V G = 0 := by
        intro V
        induction V with
        | nil => rfl
        | cons a V ih => simp only [lin, ih]; simp
      simp [this]
    · obtain ⟨c, hc⟩ := ih h
      exact ⟨fun k => if k = 0 then 0 else c (k - 1), fun G => by simp only [lin]; simp; exact hc G⟩
theorem lin_add {β : Type} (V : List β) (a d : Int) (c e : Nat → Int) (G : β → Int) : lin (fun k => a * c k + d * e k) V G = a * lin c V G + d * lin e V G := by
  induction V generalizing c e with
  | nil => simp [lin]
  | cons v V ih => simp only [lin]; rw [ih]; grind
theorem lin_mono {β : Type} {V V' : List β} (h : ∀ v ∈ V, v ∈ V') (c : Nat → Int) : ∃ c', ∀ G, lin c V G = lin c' V' G := by
  induction V generalizing c with
  | nil =>
    refine ⟨fun _ => 0, fun G => ?_⟩
    have := lin_add V' 0 0 (fun _ => 0) (fun _ => 0) G
    simp at this
    rw [this]; rfl
  | cons v V ih =>
    obtain ⟨c1, h1⟩ := ih (fun x hx => h x (by simp [hx])) (fun k => c (k + 1))
    obtain ⟨c2, h2⟩ := lin_at (h v (by simp))
    refine ⟨fun k => c 0 * c2 k + 1 * c1 k, fun G => ?_⟩
    rw [lin_add, h2, ← h1]
    simp [lin]
theorem Frame.mono {α β : Type} {h : α → β → Int} {U U' : List α} {V V' : List β} (F : Frame h U V) (hU : ∀ u ∈ U, u ∈ U') (hV : ∀ v ∈ V, v ∈ V') : Frame h U' V' := by
  refine ⟨fun u => (F.rows u).mono fun x hx => ?_, fun v => ?_⟩
  · obtain ⟨q, hq, rfl⟩ := List.mem_map.mp hx
    exact List.mem_map.mpr ⟨q, hU q hq, rfl⟩
  · obtain ⟨m, hm, c, e⟩ := F.cols v
    obtain ⟨c', e'⟩ := lin_mono hV c
    exact ⟨m, hm, c', fun u => by rw [e, e']⟩
theorem mem_lay {w : Nat} : ∀ (l : Nat) (u : List Nat), u.length = l → (∀ d ∈ u, d < w) → u ∈ lay w l
  | 0, u, hu, _ => by
    have : u = [] := List.length_eq_zero_iff.mp hu
    subst this; simp [lay]
  | l + 1, u, hu, hd => by
    rcases List.eq_nil_or_concat u with rfl | ⟨v, s, rfl⟩
    · simp at hu
    · rw [List.concat_eq_append] at *
      have := mem_lay l v (by simpa using hu) fun d h => hd d (by simp [h])
      simp only [lay, List.mem_flatMap, List.mem_map, List.mem_range]
      exact ⟨v, this, s, hd s (by simp), rfl⟩
theorem lay_found {w l k : Nat} (h : l ≤ k) {u : List Nat} (hu : u ∈ lay w l) : u ∈ found w k := by
  induction k with
  | zero =>
    have : l = 0 := by omega
    subst this; simpa [found, lay] using hu
  | succ k ih =>
    simp only [found, List.mem_append]
    by_cases e : l = k + 1
    · subst e; exact .inr hu
    · exact .inl (ih (by omega))
theorem sp_found {us : List (List Nat)} (h : Sp w n T b us) (hn : n ≤ 3) : ∀ u ∈ us, u ∈ found w 2 := fun u hu => by
  obtain ⟨i, hi, e⟩ := List.mem_iff_getElem.mp hu
  have := h.dep i u (List.getElem?_eq_some_iff.mpr ⟨hi, e⟩)
  have := h.len
  exact lay_found (show u.length ≤ 2 by omega) (mem_lay _ u rfl (h.lt u hu))
end
end Lk52

set_option maxHeartbeats 4000000
namespace Lk52
open PySem PySem.Spec PyProof.Rows L2 RR
def mx (r : Nat) : Int := if (r : Int) > 1 then (r : Int) else 1
section
variable {w n : Nat} {b g : Nat → Int} {T : Nat → Nat → Nat → Int} {o : Objs}
theorem max_1 (r : Nat) : maxW [.v (.int 1), .v (.int (r : Int))] o = .ok (.v (.int (mx r))) o := id rfl
theorem row_sq {α β : Type} (h : α → β → Int) (V : List β) (u : α) : D.lst (V.map fun v => D.int (h u v)) = lD V.length (sq h V u) := by
  unfold lD vD
  congr 1
  apply List.ext_getElem (by simp)
  intro i h1 h2
  simp at h1
  simp [sq, h1]
theorem sp_len {us : List (List Nat)} (h : Sp w n T b us) {u : List Nat} (hu : u ∈ us) : u.length < n := by
  obtain ⟨i, hi, e⟩ := List.mem_iff_getElem.mp hu
  have := h.dep i u (List.getElem?_eq_some_iff.mpr ⟨hi, e⟩)
  have := h.len
  omega
theorem dot_bd {x y : Nat → Int} (hn : n ≤ 4) (hx : Bd 25 x) (hy : Bd 25 y) : (dot n x y).natAbs < 2 ^ 64 := by
  have h1 : (dot n x y).natAbs ≤ (List.range n).length * (2 ^ 25 * 2 ^ 25) := lsum_abs fun j _ => by
    rw [Int.natAbs_mul]
    exact Nat.mul_le_mul (Nat.le_of_lt (hx j)) (Nat.le_of_lt (hy j))
  rw [List.length_range] at h1
  have h2 : n * (2 ^ 25 * 2 ^ 25) ≤ 4 * (2 ^ 25 * 2 ^ 25) := Nat.mul_le_mul_right _ hn
  have h3 : (4 * (2 ^ 25 * 2 ^ 25) : Nat) < 2 ^ 64 := by decide
  omega
theorem T3.tr (h : T3 T) : T3 (Lk52.tr T) := fun q j k => h q k j
theorem t_order (hw : w ≤ 3) (hn : n ≤ 4) (hT : T3 T) (hz : ∀ q, w ≤ q → ∀ j k, T q j k = 0) (hb : ∀ i, (b i).natAbs ≤ 1000) (hg : ∀ i, (g i).natAbs ≤ 1000) : ∃ r, (∀ o : Objs, callW fi_order_of [.v (wg w n b T g)] o = .ok (.v (.int (mx r))) o) ∧ Rk (hf n T b g) r := by
  obtain ⟨us, eu, hu⟩ := t_spanned (w := w) (n := n) (T := T) (b := b) true true hw hn hT hb
  obtain ⟨vs, ev, hv⟩ := t_spanned (w := w) (n := n) (T := tr T) (b := g) false false hw hn hT.tr hg
  have F := frame hz hu hv
  have hul := hu.len
  have hvl := hv.len
  have bu : ∀ u ∈ us, Bd 25 (wv n T b u) := fun u h => wv_bd hT hn hb (by have := sp_len hu h; omega)
  have bv : ∀ v ∈ vs, Bd 25 (wv n (tr T) g v) := fun v h => wv_bd hT.tr hn hg (by have := sp_len hv h; omega)
  have hsq : ∀ u ∈ us, Bd 64 (sq (hf n T b g) (vs.map List.reverse) u) ∧ Off vs.length (sq (hf n T b g) (vs.map List.reverse) u) := fun u h => by
    refine ⟨fun j => ?_, fun j hj => ?_⟩
    · unfold sq
      split
      · rename_i v hvj
        rw [List.getElem?_map] at hvj
        cases hq : vs[j]? with
        | none => rw [hq] at hvj; simp at hvj
        | some q =>
          rw [hq] at hvj; simp at hvj; subst hvj
          rw [← hf_pair]
          exact dot_bd hn (bu u h) (bv q (List.mem_of_getElem? hq))
      · exact Nat.two_pow_pos 64
    · unfold sq
      rw [List.getElem?_eq_none (by simpa using hj)]
  obtain ⟨rs, er, h1, h2, h3⟩ := t_rank_of (n := vs.length) (us.map (sq (hf n T b g) (vs.map List.reverse))) (by omega) (fun R hR => by
    obtain ⟨u, h, rfl⟩ := List.mem_map.mp hR
    exact (hsq u h).1) (fun R hR => by
    obtain ⟨u, h, rfl⟩ := List.mem_map.mp hR
    exact (hsq u h).2)
  refine ⟨rs.length, fun o => cp1 rfl rfl rfl ?_, F.rk h1 h2 fun u h => h3 _ (List.mem_map.mpr ⟨u, h, rfl⟩)⟩
  have eu : ∀ o : Objs, callW fi_spanned [.v (.tup (vD n b)), .v (tbls w n T)] o = .ok (.v (.lst (us.map fun u => lD n (wv n T b u)))) o := eu
  have ev : ∀ o : Objs, callW fi_spanned [.v (.tup (vD n g)), .v (.lst ((List.range w).map fun q => tbk false n (tr T q)))] o = .ok (.v (.lst (vs.map fun v => lD n (wv n (tr T) g v)))) o := ev
  have it : ∀ o : Objs, iterW o (.v (tbls w n T)) = .ok ((List.range w).map fun q => tbl n (T q)) o := fun o => rfl
  simp [m_order_of, t_check_weigher, eu, it]
  refine out_lc (fun q => tbk false n (tr T q)) (by simp; exact sz2 (by omega)) (fun q hq => ?_) ?_
  · have : ∀ o : Objs, callW fi_crossed [.v (tbl n (T q))] o = .ok (.v (tbk false n (tr T q))) o := fun o => t_crossed (T q) hn
    simp [this]
  · rw [lst_vs _ (by simp; exact sz2 (by omega))]
    simp [ev]
    refine out_lc (fun u => lD vs.length (sq (hf n T b g) (vs.map List.reverse) u)) (sz2 (by omega)) (fun u huu => ?_) ?_
    · simp
      refine out_lc (fun v => D.int (hf n T b g u v.reverse)) (sz2 (by omega)) (fun v hvv => ?_) ?_
      · have tw := fun o => t_weighed (n := n) (o := o) (wv n T b u) (wv n (tr T) g v) hn (fun i => by have := bv v hvv i; omega)
        have tw : ∀ o : Objs, callW fi_weighed [.v (lD n (wv n T b u)), .v (lD n (wv n (tr T) g v))] o = .ok (.v (.int (dot n (wv n T b u) (wv n (tr T) g v)))) o := tw
        rw [hf_pair] at tw
        simp [tw]
      · rw [lst_vs _ (by simp; exact sz2 (by omega))]
        have := row_sq (hf n T b g) (vs.map List.reverse) u
        simp only [List.map_map, List.length_map] at this
        have e2 : (vs.map fun v => D.int (hf n T b g u v.reverse)) = vs.map ((fun v => D.int (hf n T b g u v)) ∘ List.reverse) := rfl
        rw [e2, this]
        simp
    · rw [lst_vs _ (by simp; exact sz2 (by omega))]
      have er : ∀ o : Objs, callW fi_rank_of [.v (.lst (us.map fun u => lD vs.length (sq (hf n T b g) (vs.map List.reverse) u)))] o = .ok (.v (.int (rs.length : Nat))) o := fun o => by
        have := er o
        rw [List.map_map] at this
        exact this
      simp [er, max_1]
theorem found2_len (hw : w ≤ 3) : (found w 2).length ≤ 13 := by
  have e : (found w 2).length = 1 + w ^ 1 + w ^ 2 := by simp [found, lay_len]; omega
  rw [e]
  have : w = 0 ∨ w = 1 ∨ w = 2 ∨ w = 3 := by omega
  rcases this with rfl | rfl | rfl | rfl <;> decide
theorem found_nil (w k : Nat) : [] ∈ found w k := lay_found (Nat.zero_le k) (by simp [lay])
theorem t_due (hw : w ≤ 3) (hn : n ≤ 3) (hT : T3 T) (hz : ∀ q, w ≤ q → ∀ j k, T q j k = 0) (hb : ∀ i, (b i).natAbs ≤ 1000) (hg : ∀ i, (g i).natAbs ≤ 1000) : ∃ r, (∀ o : Objs, callW fi__law_due [.v (.int (w : Int)), .v (parts w n b T g)] o = .ok (.v (.int (mx r))) o) ∧ Rk (hf n T b g) r := by
  obtain ⟨us, _, hu⟩ := t_spanned (w := w) (n := n) (T := T) (b := b) true true hw (by omega) hT hb
  obtain ⟨vs, _, hv⟩ := t_spanned (w := w) (n := n) (T := tr T) (b := g) false false hw (by omega) hT.tr hg
  have F := Frame.mono (frame hz hu hv) (sp_found hu hn) (V' := found w 2) (fun v h => by
    obtain ⟨q, hq, rfl⟩ := List.mem_map.mp h
    obtain ⟨h1, h2⟩ := found_mem (sp_found hv hn q hq)
    exact lay_found (show q.reverse.length ≤ 2 by simpa using h1) (mem_lay _ _ rfl fun d hd => h2 d (by simpa using hd)))
  have hfl := found2_len hw
  have hTs : ∀ q j, Sm (-1000) 1000 (T q j) := fun q j i => by have := hT q j i; omega
  have hgs : Sm (-1000) 1000 g := fun i => by have := hg i; omega
  have hbd : ∀ u ∈ found w 2, ∀ v ∈ found w 2, (hf n T b g u v).natAbs < 2 ^ 64 := fun u h1 v h2 => by
    have l1 := (found_mem h1).1
    have l2 := (found_mem h2).1
    have f1 : Bd 25 (fold n T b (u ++ v)) := fun i => by
      have h1 := fold_abs hT (show n ≤ 4 by omega) hb (u ++ v) i
      have h2 : 12 ^ (u ++ v).length ≤ 12 ^ 4 := Nat.pow_le_pow_right (by decide) (by simp; omega)
      have h3 : 1000 * 12 ^ (u ++ v).length ≤ 1000 * 12 ^ 4 := Nat.mul_le_mul_left _ h2
      have e : (1000 * 12 ^ 4 : Nat) < 2 ^ 25 := by decide
      omega
    exact dot_bd (by omega) f1 fun i => by have := hg i; omega
  have hsq : ∀ u ∈ found w 2, Bd 64 (sq (hf n T b g) (found w 2) u) ∧ Off (found w 2).length (sq (hf n T b g) (found w 2) u) := fun u h => by
    refine ⟨fun j => ?_, fun j hj => ?_⟩
    · unfold sq
      split
      · rename_i v hvj
        exact hbd u h v (List.mem_of_getElem? hvj)
      · exact Nat.two_pow_pos 64
    · unfold sq
      rw [List.getElem?_eq_none hj]
  obtain ⟨rs, er, h1, h2, h3⟩ := t_law_rank (found w 2).length ((found w 2).map (sq (hf n T b g) (found w 2))) (fun e => by
    have := found_nil w 2
    rw [List.map_eq_nil_iff.mp e] at this
    simp at this) hfl (by simpa using hfl) (fun R hR => by
    obtain ⟨u, h, rfl⟩ := List.mem_map.mp hR
    exact (hsq u h).1) (fun R hR => by
    obtain ⟨u, h, rfl⟩ := List.mem_map.mp hR
    exact (hsq u h).2)
  refine ⟨rs.length, fun o => cp2 rfl rfl rfl ?_, F.rk h1 h2 fun u h => h3 _ (List.mem_map.mpr ⟨u, h, rfl⟩)⟩
  have tw : ∀ o : Objs, callW fi__law_words [.v (.int (w : Int)), .v (.int 2)] o = .ok (.v (.lst ((found w 2).map rD))) o := fun o => t_words hw (show 2 ≤ 3 by omega)
  simp [m__law_due, tw]
  refine out_lc (fun u => lD (found w 2).length (sq (hf n T b g) (found w 2) u)) (sz2 (by omega)) (fun u hu => ?_) ?_
  · simp
    refine out_lc (fun v => D.int (hf n T b g u v)) (sz2 (by omega)) (fun v hv => ?_) ?_
    · obtain ⟨a1, a2⟩ := found_mem hu
      obtain ⟨c1, c2⟩ := found_mem hv
      have tv := fun o => t_law_value (o := o) (b := b) hw (show n ≤ 4 by omega) hTs hgs (u ++ v) (fun d hd => (List.mem_append.mp hd).elim (a2 d) (c2 d)) (by simp; omega)
      have ad : ∀ o : Objs, addW (.v (.str (rowS u))) (.v (.str (rowS v))) o = .ok (.v (.str (rowS (u ++ v)))) o := fun o => by
        rw [add_ss _ _ (by simp; exact sz2 (by omega))]; simp
      simp [rD, ad, tv, hf]
    · rw [lst_vs _ (by simp; exact sz2 (by omega)), row_sq]
      simp
  · rw [lst_vs _ (by simp; exact sz2 (by omega))]
    have er : ∀ o : Objs, callW fi__law_rank [.v (.lst ((found w 2).map fun u => lD (found w 2).length (sq (hf n T b g) (found w 2) u)))] o = .ok (.v (.int (rs.length : Nat))) o := fun o => by
      have := er o
      rw [List.map_map] at this
      exact this
    simp [er, max_1]
end
end Lk52

set_option maxHeartbeats 4000000
namespace Lk52
open PySem PySem.Spec PyProof.Rows L2 RR
/-! ### one number more -/
structure Wd (k : Bool) (n : Nat) (t t' : Nat → Nat → Int) : Prop where
  ins : ∀ j i, j < n → i < n → t' j i = t j i
  col : k = true → ∀ j, j < n → t' j n = 0
  row : k = false → ∀ i, i < n → t' n i = 0
  bd : ∀ j i, (t' j i).natAbs ≤ 3
def wide (n : Nat) (t : Nat → Nat → Int) (x y : Nat → Int) (z : Int) : Nat → Nat → Int := fun j i => if j < n then (if i < n then t j i else x j) else (if i < n then y i else z)
theorem vD_snoc (n : Nat) (v : Nat → Int) (x : Int) : vD n v ++ [.int x] = vD (n + 1) fun i => if i < n then v i else x := by
  unfold vD
  rw [List.range_succ, List.map_append]
  congr 1
  · exact List.map_congr_left fun i hi => by simp [List.mem_range.mp hi]
  · simp
theorem vD_cg {n : Nat} {u v : Nat → Int} (h : ∀ i, i < n → u i = v i) : vD n u = vD n v := List.map_congr_left fun i hi => by rw [h i (List.mem_range.mp hi)]
theorem tbl_wide (n : Nat) (t : Nat → Nat → Int) (x y : Nat → Int) (z : Int) : D.tup (((List.range n).map fun j => D.tup (vD (n + 1) fun i => if i < n then t j i else x j)) ++ [D.tup (vD n y ++ [.int z])]) = tbl (n + 1) (wide n t x y z) := by
  unfold tbl
  rw [List.range_succ, List.map_append, vD_snoc]
  congr 2
  · exact List.map_congr_left fun j hj => by
      have hj' := List.mem_range.mp hj
      congr 1
      exact vD_cg fun i _ => by simp [wide, hj']
  · simp
    exact vD_cg fun i _ => by simp [wide]
theorem wide_ok {k : Bool} {n : Nat} {t : Nat → Nat → Int} {x y : Nat → Int} {z : Int} (ht : ∀ j i, (t j i).natAbs ≤ 3) (hx : ∀ j, (0 ≤ x j ∧ x j ≤ 2) ∧ (k = true → x j = 0)) (hy : ∀ j, (0 ≤ y j ∧ y j ≤ 2) ∧ (k = false → y j = 0)) (hz : 0 ≤ z ∧ z ≤ 2) : Wd k n t (wide n t x y z) := by
  refine ⟨fun j i hj hi => by simp [wide, hj, hi], fun hk j hj => by simp [wide, hj, (hx j).2 hk], fun hk i hi => by simp [wide, hi, (hy i).2 hk], fun j i => ?_⟩
  unfold wide
  have := (hx j).1
  have := (hy i).1
  split
  · split
    · exact ht j i
    · omega
  · split
    · omega
    · omega
section
variable {k : Bool} {n : Nat} {T T' : Nat → Nat → Nat → Int} {b g b' g' : Nat → Int}
theorem lsum_succ (n : Nat) (f : Nat → Int) : lsum (List.range (n + 1)) f = lsum (List.range n) f + f n := by
  rw [List.range_succ, lsum_append]; simp
theorem fold_wide (hT : ∀ q, Wd k n (T q) (T' q)) : ∀ (u : List Nat) (x x' : Nat → Int), (∀ i, i < n → x' i = x i) → (k = true → x' n = 0) → (∀ i, i < n → fold (n + 1) T' x' u i = fold n T x u i) ∧ (k = true → fold (n + 1) T' x' u n = 0)
  | [], x, x', h1, h2 => ⟨h1, h2⟩
  | s :: u, x, x', h1, h2 => by
    have e1 : fold (n + 1) T' x' (s :: u) = fold (n + 1) T' (stp (n + 1) (T' s) x') u := rfl
    have e2 : fold n T x (s :: u) = fold n T (stp n (T s) x) u := rfl
    rw [e1, e2]
    refine fold_wide hT u _ _ (fun i hi => ?_) fun hk => ?_
    · unfold stp
      rw [lsum_succ]
      have : x' n * T' s n i = 0 := by
        cases k with
        | true => rw [h2 rfl]; simp
        | false => rw [(hT s).row rfl i hi]; simp
      rw [this, Int.add_zero]
      refine lsum_congr fun j hj => ?_
      have hj' := List.mem_range.mp hj
      rw [h1 j hj', (hT s).ins j i hj' hi]
    · unfold stp
      rw [lsum_succ, h2 hk, Int.zero_mul, Int.add_zero, lsum_congr (g := fun _ => 0) fun j hj => by rw [(hT s).col hk j (List.mem_range.mp hj)]; simp, lsum_zero]
theorem hf_wide (hT : ∀ q, Wd k n (T q) (T' q)) (hb : ∀ i, i < n → b' i = b i) (hb2 : k = true → b' n = 0) (hg : ∀ i, i < n → g' i = g i) (hg2 : k = false → g' n = 0) : hf (n + 1) T' b' g' = hf n T b g := by
  funext u v
  obtain ⟨h1, h2⟩ := fold_wide hT (u ++ v) b b' hb hb2
  unfold hf dot
  rw [lsum_succ]
  have : fold (n + 1) T' b' (u ++ v) n * g' n = 0 := by
    cases k with
    | true => rw [h2 rfl]; simp
    | false => rw [hg2 rfl]; simp
  rw [this, Int.add_zero]
  refine lsum_congr fun j hj => ?_
  have hj' := List.mem_range.mp hj
  rw [h1 j hj', hg j hj']
end
/-! ### turns that draw, each by its own -/
theorem out_lcJ {α : Type} {turn : D → Objs → R (Option W)} {o : Objs} {Q : List W → Objs → Prop} {g : α → D} {l : List α} (I : Objs → Prop) (P : α → D → Prop) (hl : l.length ≤ sizeLine) (h0 : I o)
    (h : ∀ a ∈ l, ∀ o, I o → Out (turn (g a) o) fun r o' => ∃ d, r = some (.v d) ∧ P a d ∧ I o') (q : ∀ (F : List D) (o' : Objs), F.length = l.length → (∀ (i : Nat) (a : α) (d : D), l[i]? = some a → F[i]? = some d → P a d) → I o' → Q (F.map W.v) o') : Out (lcGo turn (l.map g) [] o) Q := by
  have key : ∀ (l : List α) (acc : List W) (o : Objs), acc.length + l.length ≤ sizeLine → I o → (∀ a ∈ l, ∀ o, I o → Out (turn (g a) o) fun r o' => ∃ d, r = some (.v d) ∧ P a d ∧ I o') → ∃ (F : List D) (o' : Objs), lcGo turn (l.map g) acc o = .ok (acc ++ F.map W.v) o' ∧ F.length = l.length ∧ (∀ (i : Nat) (a : α) (d : D), l[i]? = some a → F[i]? = some d → P a d) ∧ I o' := by
    intro l
    induction l with
    | nil => intro acc o _ hi _; exact ⟨[], o, by simp, rfl, by simp, hi⟩
    | cons a l ih =>
      intro acc o hl hi h
      simp only [List.length_cons] at hl
      have hlt : acc.length < sizeLine := by omega
      obtain ⟨r, o1, e1, d, rfl, hp, i1⟩ := out_inv (h a (by simp) o hi)
      obtain ⟨F, o', e2, l2, p2, i2⟩ := ih (acc ++ [W.v d]) o1 (by simp; omega) i1 (fun b hb => h b (by simp [hb]))
      refine ⟨d :: F, o', ?_, by simp [l2], fun i a' d' ha hd => ?_, i2⟩
      · simp only [List.map_cons, lcGo, e1, R.bind_ok, hlt, if_true, e2]
        simp
      · cases i with
        | zero => simp at ha hd; subst ha hd; exact hp
        | succ i => exact p2 i a' d' (by simpa using ha) (by simpa using hd)
  obtain ⟨F, o', e, l2, p, i⟩ := key l [] o (by simpa using hl) h0 h
  rw [e, out_ok]
  simpa using q F o' l2 p i
theorem seq_ofJ {β : Type} {n : Nat} (φ : Nat → β → D) (C : Nat → β → Prop) (x0 : β) (h0 : ∀ j, n ≤ j → C j x0) (F : List D) (hl : F.length = n) (h : ∀ (j : Nat) (d : D), F[j]? = some d → ∃ x, d = φ j x ∧ C j x) : ∃ x : Nat → β, F = ((List.range n).map fun j => φ j (x j)) ∧ ∀ j, C j (x j) := by
  have ch : ∀ j, ∃ x, C j x ∧ ∀ d, F[j]? = some d → d = φ j x := fun j => by
    cases hj : F[j]? with
    | none =>
      refine ⟨x0, h0 j ?_, fun d hd => by cases hd⟩
      have := List.getElem?_eq_none_iff.mp hj
      omega
    | some d =>
      obtain ⟨x, e, hc⟩ := h j d hj
      exact ⟨x, hc, fun d' hd => by cases hd; exact e⟩
  refine ⟨fun j => Classical.choose (ch j), ?_, fun j => (Classical.choose_spec (ch j)).1⟩
  apply List.ext_getElem (by simp [hl])
  intro i h1 h2
  rw [(Classical.choose_spec (ch i)).2 F[i] (List.getElem?_eq_getElem h1)]
  simp
/-! ### the law's wider one -/
section
variable {w n : Nat} {b g : Nat → Int} {T : Nat → Nat → Nat → Int}
theorem t_wider (hw : w ≤ 3) (hn : n ≤ 3) (hT : T3 T) (hz : ∀ q, w ≤ q → ∀ j k, T q j k = 0) (hb : ∀ i, (b i).natAbs ≤ 1000) (hg : ∀ i, (g i).natAbs ≤ 1000) : Draws fi__law_wider [parts w n b T g] fun d => ∃ b' T' g', d = parts w (n + 1) b' T' g' ∧ T3 T' ∧ (∀ q, w ≤ q → ∀ j k, T' q j k = 0) ∧ (∀ i, (b' i).natAbs ≤ 1000) ∧ (∀ i, (g' i).natAbs ≤ 1000) ∧ hf (n + 1) T' b' g' = hf n T b g := by
  refine dr rfl fun f s c => ?_
  simp [m__law_wider, parts]
  refine out_draw1 (a := .int 2) (t_pour 2 (by decide) (by decide)) rfl rfl ?_
  rintro d f s c ⟨r, rfl, hr⟩
  obtain ⟨k, hk⟩ : ∃ k : Bool, k = decide (r = 0) := ⟨_, rfl⟩
  have e0 : ∀ o : Objs, eqW (.v (di r)) (.v (.int 0)) o = .ok (.v (.bl k)) o := fun o => by
    rw [hk, di, eq_ii]
    congr 3
    exact decide_eq_decide.mpr (by omega)
  have e0' : ∀ o : Objs, eqZ cl3 kt (.v (di r)) (.v (.int 0)) o = .ok (.v (.bl k)) o := fun o => e0 o
  have it : ∀ o : Objs, iterW o (.v (tbls w n T)) = .ok ((List.range w).map fun q => tbl n (T q)) o := fun o => rfl
  simp [e0', it]
  refine out_for (fun i σ o => ∃ x8 x9 x10 f s c ts, σ = [some (W.o 0), some (W.v (parts w n b T g)), some (W.v (.tup (vD n b))), some (W.v (tbls w n T)), some (W.v (.tup (vD n g))), some (W.v (.int (n : Int))), some (W.o 1), some (W.v (.bl k)), x8, x9, x10, none, none] ∧ o = [br f s c, ⟨true, .lst ts⟩] ∧ ts.length = i ∧ ∀ (q : Nat) (d : D), ts[q]? = some d → ∃ t', d = tbl (n + 1) t' ∧ Wd k n (T q) t') ?_ ?_ ?_
  · exact ⟨none, none, none, f, s, c, [], rfl, rfl, rfl, by simp⟩
  · rintro i d σ o hd ⟨x8, x9, x10, f, s, c, ts, rfl, rfl, hl, hts⟩
    obtain ⟨hi, rfl⟩ : i < w ∧ d = tbl n (T i) := by
      rw [List.getElem?_map] at hd
      cases hv : (List.range w)[i]? with
      | none => rw [hv] at hd; simp at hd
      | some v =>
        rw [hv] at hd
        obtain ⟨z1, z2⟩ := List.getElem?_eq_some_iff.mp hv
        simp at z1 z2 hd
        exact ⟨z1, by rw [← hd, z2]⟩
    have it2 : ∀ o : Objs, iterW o (.v (tbl n (T i))) = .ok ((List.range n).map fun j => D.tup (vD n (T i j))) o := fun o => rfl
    simp [it2]
    refine out_lcJ (fun o => ∃ f s c, o = [br f s c, ⟨true, .lst ts⟩]) (fun j d => ∃ x : Int, d = .tup (vD (n + 1) fun i' => if i' < n then T i j i' else x) ∧ ((0 ≤ x ∧ x ≤ 2) ∧ (k = true → x = 0))) (by simp; exact sz2 (by omega)) ⟨f, s, c, rfl⟩ ?_ ?_
    · rintro j hj o ⟨f, s, c, rfl⟩
      have ad : ∀ (x : Int) (o : Objs), addW (.v (.tup (vD n (T i j)))) (.v (.tup [.int x])) o = .ok (.v (.tup (vD (n + 1) fun i' => if i' < n then T i j i' else x))) o := fun x o => by
        rw [add_tt _ _ (by simp; exact sz2 (by omega)), vD_snoc]
      have t1 : ∀ (x : Int) (o : Objs), tupW [W.v (.int x)] o = .ok (.v (.tup [.int x])) o := fun x o => rfl
      cases k with
      | true =>
        simp [t1, ad]
        exact ⟨f, s, c, rfl⟩
      | false =>
        simp
        refine out_draw1 (a := .int 3) (t_pour 3 (by decide) (by decide)) rfl rfl ?_
        rintro d f s c ⟨a, rfl, ha⟩
        simp [di, t1, ad]
        exact ⟨⟨(a : Int), rfl, by omega⟩, f, s, c, rfl⟩
    · rintro F o hFl hF ⟨f, s, c, rfl⟩
      obtain ⟨x, eF, hx⟩ := seq_ofJ (n := n) (fun j x => D.tup (vD (n + 1) fun i' => if i' < n then T i j i' else x)) (fun j x => (0 ≤ x ∧ x ≤ 2) ∧ (k = true → x = 0)) 0 (fun j _ => ⟨by decide, fun _ => rfl⟩) F (by simpa using hFl) (fun j d hd => by
        have hjl : j < n := by have := (List.getElem?_eq_some_iff.mp hd).1; rw [hFl] at this; simpa using this
        exact hF j j d (by simp [hjl]) hd)
      have hFn : F.length = n := by simpa using hFl
      rw [lst_vs _ (by rw [hFn]; exact sz2 (by omega))]
      simp [rng_s n (by omega), rng_eq]
      refine out_lcI (fun o => ∃ f s c, o = [br f s c, ⟨true, .lst ts⟩]) (fun d => ∃ y : Int, d = .int y ∧ ((0 ≤ y ∧ y ≤ 2) ∧ (k = false → y = 0))) (by simp; exact sz2 (by omega)) ⟨f, s, c, rfl⟩ ?_ ?_
      · rintro d _ o ⟨f, s, c, rfl⟩
        cases k with
        | true =>
          simp
          refine out_draw1 (a := .int 3) (t_pour 3 (by decide) (by decide)) rfl rfl ?_
          rintro d f s c ⟨a, rfl, ha⟩
          simp [di]
          exact ⟨by omega, f, s, c, rfl⟩
        | false =>
          simp
          exact ⟨f, s, c, rfl⟩
      · rintro rs o hrl hr ⟨f, s, c, rfl⟩
        obtain ⟨y, ey, hy⟩ := seq_of D.int (fun y => (0 ≤ y ∧ y ≤ 2) ∧ (k = false → y = 0)) 0 ⟨by decide, fun _ => rfl⟩ rs hr
        have hrn : rs.length = n := by simpa using hrl
        rw [hrn] at ey
        have ey : rs = vD n y := ey
        rw [lst_vs _ (by rw [hrn]; exact sz2 (by omega))]
        simp
        refine out_draw1 (a := .int 3) (t_pour 3 (by decide) (by decide)) rfl rfl ?_
        rintro d f s c ⟨z, rfl, hz3⟩
        have l1 : ∀ o : Objs, lstMk false [W.v (di z)] o = .ok (.v (.lst [.int (z : Int)])) o := fun o => rfl
        have a1 : ∀ o : Objs, addW (.v (.lst rs)) (.v (.lst [.int (z : Int)])) o = .ok (.v (.lst (rs ++ [.int (z : Int)]))) o := fun o => add_ll _ _ (by simp [hrn]; exact sz2 (by omega))
        have t1 : ∀ (d : D) (o : Objs), tupW [W.v d] o = .ok (.v (.tup [d])) o := fun d o => rfl
        have a2 : ∀ o : Objs, addW (.v (.tup F)) (.v (.tup [.tup (rs ++ [.int (z : Int)])])) o = .ok (.v (tbl (n + 1) (wide n (T i) x y (z : Int)))) o := fun o => by
          rw [add_tt _ _ (by simp [hFn]; exact sz2 (by omega)), ← tbl_wide, ← eF, ← ey]
        have hlt : ts.length < sizeLine := Nat.lt_of_lt_of_le (show ts.length < 100 by omega) (sz2 (by omega))
        simp [l1, a1, mtyOk, t1, a2, appendL, hlt]
        refine ⟨f, s, c, ts ++ [tbl (n + 1) (wide n (T i) x y (z : Int))], ⟨rfl, rfl⟩, by simp [hl], fun q d hd => ?_⟩
        rw [List.getElem?_append] at hd
        split at hd
        · exact hts q d hd
        · have h1 := (List.getElem?_eq_some_iff.mp hd).1
          simp at h1
          have : q = i := by omega
          subst this
          rw [hl] at hd
          simp at hd
          exact ⟨_, hd.symm, wide_ok (hT q) hx hy (by omega)⟩
  · rintro σ o ⟨x8, x9, x10, f, s, c, ts, rfl, rfl, hl, hts⟩
    have hl : ts.length = w := by simpa using hl
    obtain ⟨T', eT, hT'⟩ := seq_ofJ (n := w) (fun _ t' => tbl (n + 1) t') (fun q t' => Wd k n (T q) t' ∧ (w ≤ q → ∀ j k, t' j k = 0)) (fun _ _ => 0) (fun q hq => ⟨⟨fun j i _ _ => (hz q hq j i).symm, fun _ _ _ => rfl, fun _ _ _ => rfl, fun _ _ => by decide⟩, fun _ _ _ => rfl⟩) ts hl (fun q d hd => by
      obtain ⟨t', e, h⟩ := hts q d hd
      have : q < w := by have := (List.getElem?_eq_some_iff.mp hd).1; omega
      exact ⟨t', e, h, fun hq => by omega⟩)
    have t1 : ∀ (d : D) (o : Objs), tupW [W.v d] o = .ok (.v (.tup [d])) o := fun d o => rfl
    have ab : ∀ (v : Nat → Int) (x : Int) (o : Objs), addW (.v (.tup (vD n v))) (.v (.tup [.int x])) o = .ok (.v (.tup (vD (n + 1) fun i => if i < n then v i else x))) o := fun v x o => by
      rw [add_tt _ _ (by simp; exact sz2 (by omega)), vD_snoc]
    have ets : D.tup ts = tbls w (n + 1) T' := by rw [eT]; rfl
    have bd : ∀ (v : Nat → Int) (x : Int), (∀ i, (v i).natAbs ≤ 1000) → x.natAbs ≤ 1000 → ∀ i, ((fun i => if i < n then v i else x) i).natAbs ≤ 1000 := fun v x h1 h2 i => by
      show (if i < n then v i else x).natAbs ≤ 1000
      split
      · exact h1 i
      · exact h2
    cases k with
    | true =>
      simp [t1, ab]
      refine .mk ⟨fun i => if i < n then b i else 0, T', fun i => if i < n then g i else 3, ?_, fun q => (hT' q).1.bd, fun q hq => (hT' q).2 hq, bd b 0 hb (by decide), bd g 3 hg (by decide), hf_wide (fun q => (hT' q).1) (fun i hi => by simp [hi]) (fun _ => by simp) (fun i hi => by simp [hi]) (fun h => by cases h)⟩
      rw [ets]
    | false =>
      simp [t1, ab]
      refine .mk ⟨fun i => if i < n then b i else 2, T', fun i => if i < n then g i else 0, ?_, fun q => (hT' q).1.bd, fun q hq => (hT' q).2 hq, bd b 2 hb (by decide), bd g 0 hg (by decide), hf_wide (fun q => (hT' q).1) (fun i hi => by simp [hi]) (fun h => by cases h) (fun i hi => by simp [hi]) (fun _ => by simp)⟩
      rw [ets]
end
end Lk52

set_option maxHeartbeats 4000000
namespace Lk52
open PySem PySem.Spec PyProof.Rows L2 RR
theorem t_right : Draws fi__law_right [] fun d => d = .bl true := by
  refine dr rfl fun f s c => ?_
  simp [m__law_right]
  rw [show rng1 [W.v (D.int 3)] [br f s c] = _ from rng_s 3 (by decide)]
  simp only [out_ok]
  refine out_for (fun i σ o => ∃ x y z u f s c, σ = [some (.o 0), x, y, z, u] ∧ o = [br f s c]) ⟨none, none, none, none, f, s, c, rfl, rfl⟩ ?_ ?_
  · rintro i d σ o _ ⟨x, y, z, u, f, s, c, rfl, rfl⟩
    try simp
    refine out_draw1 (t_pick [.int 2, .int 2, .int 1, .int 3] (by simp) (by decide)) rfl rfl ?_
    intro d1 f s c hd
    obtain ⟨w, hw, rfl⟩ : ∃ k : Nat, (1 ≤ k ∧ k ≤ 3) ∧ d1 = .int (k : Int) := by
      simp only [List.mem_cons, List.not_mem_nil, or_false] at hd
      rcases hd with rfl | rfl | rfl | rfl
      · exact ⟨2, by decide, rfl⟩
      · exact ⟨2, by decide, rfl⟩
      · exact ⟨1, by decide, rfl⟩
      · exact ⟨3, by decide, rfl⟩
    try simp
    refine out_draw2 (t_parts w hw.2) rfl rfl ?_
    rintro d f s c ⟨n, b, T0, g, n1, n3, rfl, hb0, hT0, hg0⟩
    obtain ⟨T, hTd⟩ : ∃ T : Nat → Nat → Nat → Int, T = fun q => if q < w then T0 q else fun _ _ => 0 := ⟨_, rfl⟩
    have eP : parts w n b T0 g = parts w n b T g := by
      unfold parts tbls
      congr 3
      rw [hTd]
      congr 1
      exact List.map_congr_left fun q hq => by simp [List.mem_range.mp hq]
    have hT : T3 T := fun q j k => by
      rw [hTd]
      show ((if q < w then T0 q else fun _ _ => 0) j k).natAbs ≤ 3
      split
      · have := hT0 q j k; omega
      · exact Nat.zero_le 3
    have hz : ∀ q, w ≤ q → ∀ j k, T q j k = 0 := fun q hq j k => by
      rw [hTd]
      show (if q < w then T0 q else fun _ _ => 0) j k = 0
      rw [if_neg (by omega)]
    have hb : ∀ i, (b i).natAbs ≤ 1000 := fun i => by have := hb0 i; omega
    have hg : ∀ i, (g i).natAbs ≤ 1000 := fun i => by have := hg0 i; omega
    rw [eP]
    have sm : ∀ {v : Nat → Int}, (∀ i, (v i).natAbs ≤ 1000) → Sm (-1000) 1000 v := fun h i => by have := h i; omega
    have smT : ∀ {T : Nat → Nat → Nat → Int}, T3 T → ∀ q j, Sm (-1000) 1000 (T q j) := fun h q j i => by have := h q j i; omega
    obtain ⟨r, e1, k1⟩ := t_due hw.2 n3 hT hz hb hg
    obtain ⟨r2, e2, k2⟩ := t_order hw.2 (show n ≤ 4 by omega) hT hz hb hg
    have er := k1.uniq k2
    subst er
    have md := fun o => t_made (o := o) hw (show 1 ≤ n ∧ n ≤ 4 by omega) (sm hb) (smT hT) (sm hg)
    simp [e1, md, e2]
    refine out_draw1 (t_wider hw.2 n3 hT hz hb hg) rfl rfl ?_
    rintro d f s c ⟨b', T', g', rfl, hT', hz', hb', hg', eh⟩
    obtain ⟨r3, e3, k3⟩ := t_order hw.2 (show n + 1 ≤ 4 by omega) hT' hz' hb' hg'
    rw [eh] at k3
    have er := k1.uniq k3
    subst er
    have md' := fun o => t_made (o := o) hw (show 1 ≤ n + 1 ∧ n + 1 ≤ 4 by omega) (sm hb') (smT hT') (sm hg')
    simp [md', permL, e3]
    exact ⟨_, _, _, rfl⟩
  · rintro σ o ⟨x, y, z, u, f, s, c, rfl, rfl⟩
    simp
    exact .mk rfl
theorem law_true (ns : List Int) (h : ns.length ≤ 63) : fi_law.fm [.v (.scr (ns.map D.int))] [] = .ok (.v (.bl true)) [] := by
  have hf : fi_law.fm = runFn 2 false m_law := rfl
  rw [hf]
  refine run_p ?_
  obtain ⟨q, _, hq, z, hz1, hz2⟩ := turns ns.length 2 3 (by decide)
  have hz1 : ∀ o : Objs, minW [.v (.int (ns.length : Int)), .v (.int 3)] o = .ok (.v (.int z)) o := hz1
  have hz2 : ∀ o : Objs, maxW [.v (.int 2), .v (.int z)] o = .ok (.v (.int (q : Int))) o := hz2
  simp [m_law, hz1, hz2, rng_s q (by omega), rng_eq]
  refine out_lcI (fun _ => True) (fun d => d = .bl true) (by simp; unfold sizeLine; omega) trivial ?_ ?_
  · intro d hd o _
    obtain ⟨k, hk, rfl⟩ := List.mem_map.mp hd
    have hk5 : k < 8 := by simp at hk; omega
    obtain ⟨f, s, c, eb⟩ := t_flask ns h k hk5 (o := o)
    simp [eb]
    have := out_draw (fi := fi__law_right) (ds := []) (k := o.length) (o := o ++ [br f s c]) (Q := fun a o => a = W.v (D.bl true)) t_right rfl rfl (f := f) (s := s) (c := c) (by simp) (fun d f' s' c' hd => by rw [hd])
    simpa using this
  · intro rs o hl hr _
    rw [lst_vs _ (by rw [hl]; simp; unfold sizeLine; omega)]
    simp only [out_ok, e_on1, all_true rs hr]
end Lk52

set_option maxHeartbeats 0
namespace Lk52
open PySem PySem.Spec PyProof.Rows L2 RR
def fn : List DefX := [⟨.glo "_law_flask", "_law_flask", "_law_flask", s__law_flask⟩, ⟨.glo "shared", "shared", "shared", s_shared⟩, ⟨.glo "shared_by", "shared_by", "shared_by", s_shared_by⟩, ⟨.glo "reduced", "reduced", "reduced", s_reduced⟩, ⟨.glo "joined", "joined", "joined", s_joined⟩, ⟨.glo "rank_of", "rank_of", "rank_of", s_rank_of⟩, ⟨.glo "is_number", "is_number", "is_number", s_is_number⟩, ⟨.glo "is_signs", "is_signs", "is_signs", s_is_signs⟩, ⟨.glo "check_signs", "check_signs", "check_signs", s_check_signs⟩, ⟨.glo "is_weights", "is_weights", "is_weights", s_is_weights⟩, ⟨.glo "is_weight_table", "is_weight_table", "is_weight_table", s_is_weight_table⟩, ⟨.meth "Weigher" "__init__", "__init__", "Weigher.__init__", s_Weigher_init⟩, ⟨.get "Weigher" "signs", "signs", "Weigher.signs", s_Weigher_signs⟩, ⟨.get "Weigher" "size", "size", "Weigher.size", s_Weigher_size⟩, ⟨.get "Weigher" "begins", "begins", "Weigher.begins", s_Weigher_begins⟩, ⟨.get "Weigher" "tables", "tables", "Weigher.tables", s_Weigher_tables⟩, ⟨.get "Weigher" "goals", "goals", "Weigher.goals", s_Weigher_goals⟩, ⟨.meth "Weigher" "__eq__", "__eq__", "Weigher.__eq__", s_Weigher_eq⟩, ⟨.glo "check_weigher", "check_weigher", "check_weigher", s_check_weigher⟩, ⟨.glo "weighed", "weighed", "weighed", s_weighed⟩, ⟨.glo "moved", "moved", "moved", s_moved⟩, ⟨.glo "spanned", "spanned", "spanned", s_spanned⟩, ⟨.glo "crossed", "crossed", "crossed", s_crossed⟩, ⟨.glo "order_of", "order_of", "order_of", s_order_of⟩, ⟨.glo "_law_pour", "_law_pour", "_law_pour", s__law_pour⟩] ++ ([⟨.glo "_law_pick", "_law_pick", "_law_pick", s__law_pick⟩, ⟨.glo "_law_parts", "_law_parts", "_law_parts", s__law_parts⟩, ⟨.glo "_law_made", "_law_made", "_law_made", s__law_made⟩, ⟨.glo "_law_wider", "_law_wider", "_law_wider", s__law_wider⟩, ⟨.glo "_law_value", "_law_value", "_law_value", s__law_value⟩, ⟨.glo "_law_words", "_law_words", "_law_words", s__law_words⟩, ⟨.glo "_law_rank", "_law_rank", "_law_rank", s__law_rank⟩, ⟨.glo "_law_due", "_law_due", "_law_due", s__law_due⟩, ⟨.glo "_law_right", "_law_right", "_law_right", s__law_right⟩, ⟨.glo "law", "law", "law", s_law⟩])
def fa : List He.Fa := [.glo "_law_flask", .glo "shared", .glo "shared_by", .glo "reduced", .glo "joined", .glo "rank_of", .glo "is_number", .glo "is_signs", .glo "check_signs", .glo "is_weights", .glo "is_weight_table", .glo "check_weigher", .glo "weighed", .glo "moved", .glo "spanned", .glo "crossed", .glo "order_of", .glo "_law_pour", .glo "_law_pick", .glo "_law_parts", .glo "_law_made", .glo "_law_wider", .glo "_law_value", .glo "_law_words", .glo "_law_rank"] ++ ([.glo "_law_due", .glo "_law_right", .glo "law", .free "len", .free "int", .free "isinstance", .free "tuple", .free "all", .free "list", .free "any", .free "sum", .free "max", .free "min", .free "divmod", .free "abs", .free "range", .free "bool", .free "str", .free "dict", .free "enumerate", .free "zip", .free "repr", .free "sorted", .free "set", .int "MOST_SIGNS" 8] ++ ([.int "MOST_SIZE" 6, .int "MOST_WEIGHT" 1000, .glo "Weigher", .noat "Weigher" "parts", .mkr "Weigher"]))
def xs : List (PySem.W.Frag → Bool) := [clsB "Weigher", ktB "Weigher" "Weigher" true, propB "Weigher" "signs", propB "Weigher" "size", propB "Weigher" "begins", propB "Weigher" "tables", propB "Weigher" "goals", truB "Weigher", ownB "Weigher" "__eq__"]
abbrev R : PySem.W.OpenRow := PySem.W.OpenLaw.row PySem.Challenge.rw_rowreaders_k52_whole_orders_of_weighers
abbrev hk : PySem.W.Hook := hookX 6 fa xs fn
def ob (s : PySem.W.SharedT) : AlX := obsXG 6 fa xs fn (HandSHeadRun.getT s)
theorem ob_eq (s : PySem.W.SharedT) : ob s = hk.obs s.abs := obsXG_eq (HandSHeadRun.getT_eq s)
def loose : List Str := (["WrongValue", "InvalidSigns", "InvalidWeights", "NotAWeigher", "MOST_SIGNS", "MOST_SIZE", "is_number", "is_signs", "check_signs", "shared", "reduced", "shared_by", "joined", "rank_of", "MOST_WEIGHT", "is_weights", "is_weight_table", "Weigher", "check_weigher", "moved", "weighed", "spanned", "crossed", "order_of", "_law_flask"] : List Str) ++ ((["_law_pour", "_law_pick", "_law_parts", "_law_value", "_law_made", "_law_words", "_law_rank", "_law_wider", "_law_due", "_law_right"] : List Str))
theorem run (w : World) : HandSHeadRun.RunEq R (PySem.W.view R.prog [40]) hk ob 20000 loose w := by
  intro os
  kernel_rfl
/-- what the head tells, as the defs want it -/
theorem facts {P : Program} {w : World} {K : PySem.W.Frag} {h : Heap} {mg : Str → Option Value} {f : Addr} (X : K.In h) (G : h.Ns mainGlobals mg) (hfa : mg ("law" : Str) = some (.ref f)) (c : SaysX fa xs fn K) :
    ∃ fd : FuncData, (∀ (s : Shared) (v : Value), BindsTo s fd ⟨[v], []⟩ [("_law_script", v)]) ∧ ∀ base : Heap, K.In base → base.Ns mainGlobals mg → FnG P w K mg base CX0 33 f fd ["_law_script"] (spOf ⟨K, mg⟩ 1 fi_law.fm) := by
  have C : ConS K mg cs kt := by
    refine ⟨fun q z hm => ?_, fun x d hm => ?_, fun x hx => ?_⟩
    · simp only [kt, List.mem_cons, List.not_mem_nil, or_false, Prod.mk.injEq] at hm
      rcases hm with ⟨rfl, rfl⟩
      · exact ⟨_, _, He.glo_ok X G (c.fact 52 (f := .glo "Weigher") rfl), He.glo_ok X G (c.fact 52 (f := .glo "Weigher") rfl), of_decide_eq_true (c.more 1 (x := ktB "Weigher" "Weigher" true) rfl)⟩
    · simp only [cs, List.mem_cons, List.not_mem_nil, or_false, Prod.mk.injEq] at hm
      rcases hm with ⟨rfl, rfl⟩ | ⟨rfl, rfl⟩ | ⟨rfl, rfl⟩
      · obtain ⟨t, e⟩ := He.int_ok X G (c.fact 49 (f := .int "MOST_SIGNS" 8) rfl)
        exact ⟨⟨_, .int 8, e, ⟨t, rfl⟩, fun _ _ => by simp only [RV]⟩, by decide +kernel⟩
      · obtain ⟨t, e⟩ := He.int_ok X G (c.fact 50 (f := .int "MOST_SIZE" 6) rfl)
        exact ⟨⟨_, .int 6, e, ⟨t, rfl⟩, fun _ _ => by simp only [RV]⟩, by decide +kernel⟩
      · obtain ⟨t, e⟩ := He.int_ok X G (c.fact 51 (f := .int "MOST_WEIGHT" 1000) rfl)
        exact ⟨⟨_, .int 1000, e, ⟨t, rfl⟩, fun _ _ => by simp only [RV]⟩, by decide +kernel⟩
    · simp only [bltNames, List.mem_cons, List.not_mem_nil, or_false] at hx
      rcases hx with rfl | rfl | rfl | rfl | rfl | rfl | rfl | rfl | rfl | rfl | rfl | rfl | rfl | rfl | rfl | rfl | rfl | rfl | rfl | rfl | rfl
      · exact He.free_ok X G (c.fact 28 (f := .free "len") rfl)
      · exact He.free_ok X G (c.fact 29 (f := .free "int") rfl)
      · exact He.free_ok X G (c.fact 30 (f := .free "isinstance") rfl)
      · exact He.free_ok X G (c.fact 31 (f := .free "tuple") rfl)
      · exact He.free_ok X G (c.fact 32 (f := .free "all") rfl)
      · exact He.free_ok X G (c.fact 33 (f := .free "list") rfl)
      · exact He.free_ok X G (c.fact 34 (f := .free "any") rfl)
      · exact He.free_ok X G (c.fact 35 (f := .free "sum") rfl)
      · exact He.free_ok X G (c.fact 36 (f := .free "max") rfl)
      · exact He.free_ok X G (c.fact 37 (f := .free "min") rfl)
      · exact He.free_ok X G (c.fact 38 (f := .free "divmod") rfl)
      · exact He.free_ok X G (c.fact 39 (f := .free "abs") rfl)
      · exact He.free_ok X G (c.fact 40 (f := .free "range") rfl)
      · exact He.free_ok X G (c.fact 41 (f := .free "bool") rfl)
      · exact He.free_ok X G (c.fact 42 (f := .free "str") rfl)
      · exact He.free_ok X G (c.fact 43 (f := .free "dict") rfl)
      · exact He.free_ok X G (c.fact 44 (f := .free "enumerate") rfl)
      · exact He.free_ok X G (c.fact 45 (f := .free "zip") rfl)
      · exact He.free_ok X G (c.fact 46 (f := .free "repr") rfl)
      · exact He.free_ok X G (c.fact 47 (f := .free "sorted") rfl)
      · exact He.free_ok X G (c.fact 48 (f := .free "set") rfl)
  have g_Weigher := He.glo_ok X G (c.fact 52 (f := .glo "Weigher") rfl)
  obtain ⟨fd__law_flask, F__law_flask⟩ := c.def_ 0 (d := ⟨.glo "_law_flask", "_law_flask", "_law_flask", s__law_flask⟩) rfl
  have b__law_flask := FunD.bindsN (ps := ["_law_script", "_law_k"]) F__law_flask fun _ _ _ _ _ _ us hl => match us, hl with | [_, _], _ => rfl
  have k__law_flask : ∀ p ∈ fi__law_flask.kws, KwB fd__law_flask ["_law_script", "_law_k"] p := by
    intro p hp
    simp only [fi__law_flask, List.mem_cons, List.not_mem_nil, or_false] at hp
  have g__law_flask := He.glo_ok X G (c.fact 0 (f := .glo "_law_flask") rfl)
  obtain ⟨fd_shared, F_shared⟩ := c.def_ 1 (d := ⟨.glo "shared", "shared", "shared", s_shared⟩) rfl
  have b_shared := FunD.bindsN (ps := ["one", "two"]) F_shared fun _ _ _ _ _ _ us hl => match us, hl with | [_, _], _ => rfl
  have k_shared : ∀ p ∈ fi_shared.kws, KwB fd_shared ["one", "two"] p := by
    intro p hp
    simp only [fi_shared, List.mem_cons, List.not_mem_nil, or_false] at hp
  have g_shared := He.glo_ok X G (c.fact 1 (f := .glo "shared") rfl)
  obtain ⟨fd_shared_by, F_shared_by⟩ := c.def_ 2 (d := ⟨.glo "shared_by", "shared_by", "shared_by", s_shared_by⟩) rfl
  have b_shared_by := FunD.bindsN (ps := ["row"]) F_shared_by fun _ _ _ _ _ _ us hl => match us, hl with | [_], _ => rfl
  have k_shared_by : ∀ p ∈ fi_shared_by.kws, KwB fd_shared_by ["row"] p := by
    intro p hp
    simp only [fi_shared_by, List.mem_cons, List.not_mem_nil, or_false] at hp
  have g_shared_by := He.glo_ok X G (c.fact 2 (f := .glo "shared_by") rfl)
  obtain ⟨fd_reduced, F_reduced⟩ := c.def_ 3 (d := ⟨.glo "reduced", "reduced", "reduced", s_reduced⟩) rfl
  have b_reduced := FunD.bindsN (ps := ["row", "basis"]) F_reduced fun _ _ _ _ _ _ us hl => match us, hl with | [_, _], _ => rfl
  have k_reduced : ∀ p ∈ fi_reduced.kws, KwB fd_reduced ["row", "basis"] p := by
    intro p hp
    simp only [fi_reduced, List.mem_cons, List.not_mem_nil, or_false] at hp
  have g_reduced := He.glo_ok X G (c.fact 3 (f := .glo "reduced") rfl)
  obtain ⟨fd_joined, F_joined⟩ := c.def_ 4 (d := ⟨.glo "joined", "joined", "joined", s_joined⟩) rfl
  have b_joined := FunD.bindsN (ps := ["row", "basis"]) F_joined fun _ _ _ _ _ _ us hl => match us, hl with | [_, _], _ => rfl
  have k_joined : ∀ p ∈ fi_joined.kws, KwB fd_joined ["row", "basis"] p := by
    intro p hp
    simp only [fi_joined, List.mem_cons, List.not_mem_nil, or_false] at hp
  have g_joined := He.glo_ok X G (c.fact 4 (f := .glo "joined") rfl)
  obtain ⟨fd_rank_of, F_rank_of⟩ := c.def_ 5 (d := ⟨.glo "rank_of", "rank_of", "rank_of", s_rank_of⟩) rfl
  have b_rank_of := FunD.bindsN (ps := ["rows"]) F_rank_of fun _ _ _ _ _ _ us hl => match us, hl with | [_], _ => rfl
  have k_rank_of : ∀ p ∈ fi_rank_of.kws, KwB fd_rank_of ["rows"] p := by
    intro p hp
    simp only [fi_rank_of, List.mem_cons, List.not_mem_nil, or_false] at hp
  have g_rank_of := He.glo_ok X G (c.fact 5 (f := .glo "rank_of") rfl)
  obtain ⟨fd_is_number, F_is_number⟩ := c.def_ 6 (d := ⟨.glo "is_number", "is_number", "is_number", s_is_number⟩) rfl
  have b_is_number := FunD.bindsN (ps := ["value", "low", "high"]) F_is_number fun _ _ _ _ _ _ us hl => match us, hl with | [_, _, _], _ => rfl
  have k_is_number : ∀ p ∈ fi_is_number.kws, KwB fd_is_number ["value", "low", "high"] p := by
    intro p hp
    simp only [fi_is_number, List.mem_cons, List.not_mem_nil, or_false] at hp
  have g_is_number := He.glo_ok X G (c.fact 6 (f := .glo "is_number") rfl)
  obtain ⟨fd_is_signs, F_is_signs⟩ := c.def_ 7 (d := ⟨.glo "is_signs", "is_signs", "is_signs", s_is_signs⟩) rfl
  have b_is_signs := FunD.bindsN (ps := ["value"]) F_is_signs fun _ _ _ _ _ _ us hl => match us, hl with | [_], _ => rfl
  have k_is_signs : ∀ p ∈ fi_is_signs.kws, KwB fd_is_signs ["value"] p := by
    intro p hp
    simp only [fi_is_signs, List.mem_cons, List.not_mem_nil, or_false] at hp
  have g_is_signs := He.glo_ok X G (c.fact 7 (f := .glo "is_signs") rfl)
  obtain ⟨fd_check_signs, F_check_signs⟩ := c.def_ 8 (d := ⟨.glo "check_signs", "check_signs", "check_signs", s_check_signs⟩) rfl
  have b_check_signs := FunD.bindsN (ps := ["signs"]) F_check_signs fun _ _ _ _ _ _ us hl => match us, hl with | [_], _ => rfl
  have k_check_signs : ∀ p ∈ fi_check_signs.kws, KwB fd_check_signs ["signs"] p := by
    intro p hp
    simp only [fi_check_signs, List.mem_cons, List.not_mem_nil, or_false] at hp
  have g_check_signs := He.glo_ok X G (c.fact 8 (f := .glo "check_signs") rfl)
  obtain ⟨fd_is_weights, F_is_weights⟩ := c.def_ 9 (d := ⟨.glo "is_weights", "is_weights", "is_weights", s_is_weights⟩) rfl
  have b_is_weights := FunD.bindsN (ps := ["value", "size"]) F_is_weights fun _ _ _ _ _ _ us hl => match us, hl with | [_, _], _ => rfl
  have k_is_weights : ∀ p ∈ fi_is_weights.kws, KwB fd_is_weights ["value", "size"] p := by
    intro p hp
    simp only [fi_is_weights, List.mem_cons, List.not_mem_nil, or_false] at hp
  have g_is_weights := He.glo_ok X G (c.fact 9 (f := .glo "is_weights") rfl)
  obtain ⟨fd_is_weight_table, F_is_weight_table⟩ := c.def_ 10 (d := ⟨.glo "is_weight_table", "is_weight_table", "is_weight_table", s_is_weight_table⟩) rfl
  have b_is_weight_table := FunD.bindsN (ps := ["value", "size"]) F_is_weight_table fun _ _ _ _ _ _ us hl => match us, hl with | [_, _], _ => rfl
  have k_is_weight_table : ∀ p ∈ fi_is_weight_table.kws, KwB fd_is_weight_table ["value", "size"] p := by
    intro p hp
    simp only [fi_is_weight_table, List.mem_cons, List.not_mem_nil, or_false] at hp
  have g_is_weight_table := He.glo_ok X G (c.fact 10 (f := .glo "is_weight_table") rfl)
  obtain ⟨fd_Weigher_init, F_Weigher_init⟩ := c.def_ 11 (d := ⟨.meth "Weigher" "__init__", "__init__", "Weigher.__init__", s_Weigher_init⟩) rfl
  have b_Weigher_init := FunD.bindsN (ps := ["self", "signs", "begins", "tables", "goals"]) F_Weigher_init fun _ _ _ _ _ _ us hl => match us, hl with | [_, _, _, _, _], _ => rfl
  have k_Weigher_init : ∀ q ∈ fi_Weigher_init.kws, ∀ (s : Shared) (u0 : Value) (us : List Value), us.length = q.1.length → BindsTo s fd_Weigher_init ⟨[u0], q.1.zip us⟩ ((["self", "signs", "begins", "tables", "goals"] : List Str).zip (u0 :: permL q.2 us)) := by
    intro p hp
    simp only [fi_Weigher_init, List.mem_cons, List.not_mem_nil, or_false] at hp
  obtain ⟨fd_Weigher_signs, F_Weigher_signs⟩ := c.def_ 12 (d := ⟨.get "Weigher" "signs", "signs", "Weigher.signs", s_Weigher_signs⟩) rfl
  have b_Weigher_signs := FunD.bindsN (ps := ["self"]) F_Weigher_signs fun _ _ _ _ _ _ us hl => match us, hl with | [_], _ => rfl
  have k_Weigher_signs : ∀ q ∈ fi_Weigher_signs.kws, ∀ (s : Shared) (u0 : Value) (us : List Value), us.length = q.1.length → BindsTo s fd_Weigher_signs ⟨[u0], q.1.zip us⟩ ((["self"] : List Str).zip (u0 :: permL q.2 us)) := by
    intro p hp
    simp only [fi_Weigher_signs, List.mem_cons, List.not_mem_nil, or_false] at hp
  obtain ⟨fd_Weigher_size, F_Weigher_size⟩ := c.def_ 13 (d := ⟨.get "Weigher" "size", "size", "Weigher.size", s_Weigher_size⟩) rfl
  have b_Weigher_size := FunD.bindsN (ps := ["self"]) F_Weigher_size fun _ _ _ _ _ _ us hl => match us, hl with | [_], _ => rfl
  have k_Weigher_size : ∀ q ∈ fi_Weigher_size.kws, ∀ (s : Shared) (u0 : Value) (us : List Value), us.length = q.1.length → BindsTo s fd_Weigher_size ⟨[u0], q.1.zip us⟩ ((["self"] : List Str).zip (u0 :: permL q.2 us)) := by
    intro p hp
    simp only [fi_Weigher_size, List.mem_cons, List.not_mem_nil, or_false] at hp
  obtain ⟨fd_Weigher_begins, F_Weigher_begins⟩ := c.def_ 14 (d := ⟨.get "Weigher" "begins", "begins", "Weigher.begins", s_Weigher_begins⟩) rfl
  have b_Weigher_begins := FunD.bindsN (ps := ["self"]) F_Weigher_begins fun _ _ _ _ _ _ us hl => match us, hl with | [_], _ => rfl
  have k_Weigher_begins : ∀ q ∈ fi_Weigher_begins.kws, ∀ (s : Shared) (u0 : Value) (us : List Value), us.length = q.1.length → BindsTo s fd_Weigher_begins ⟨[u0], q.1.zip us⟩ ((["self"] : List Str).zip (u0 :: permL q.2 us)) := by
    intro p hp
    simp only [fi_Weigher_begins, List.mem_cons, List.not_mem_nil, or_false] at hp
  obtain ⟨fd_Weigher_tables, F_Weigher_tables⟩ := c.def_ 15 (d := ⟨.get "Weigher" "tables", "tables", "Weigher.tables", s_Weigher_tables⟩) rfl
  have b_Weigher_tables := FunD.bindsN (ps := ["self"]) F_Weigher_tables fun _ _ _ _ _ _ us hl => match us, hl with | [_], _ => rfl
  have k_Weigher_tables : ∀ q ∈ fi_Weigher_tables.kws, ∀ (s : Shared) (u0 : Value) (us : List Value), us.length = q.1.length → BindsTo s fd_Weigher_tables ⟨[u0], q.1.zip us⟩ ((["self"] : List Str).zip (u0 :: permL q.2 us)) := by
    intro p hp
    simp only [fi_Weigher_tables, List.mem_cons, List.not_mem_nil, or_false] at hp
  obtain ⟨fd_Weigher_goals, F_Weigher_goals⟩ := c.def_ 16 (d := ⟨.get "Weigher" "goals", "goals", "Weigher.goals", s_Weigher_goals⟩) rfl
  have b_Weigher_goals := FunD.bindsN (ps := ["self"]) F_Weigher_goals fun _ _ _ _ _ _ us hl => match us, hl with | [_], _ => rfl
  have k_Weigher_goals : ∀ q ∈ fi_Weigher_goals.kws, ∀ (s : Shared) (u0 : Value) (us : List Value), us.length = q.1.length → BindsTo s fd_Weigher_goals ⟨[u0], q.1.zip us⟩ ((["self"] : List Str).zip (u0 :: permL q.2 us)) := by
    intro p hp
    simp only [fi_Weigher_goals, List.mem_cons, List.not_mem_nil, or_false] at hp
  obtain ⟨fd_Weigher_eq, F_Weigher_eq⟩ := c.def_ 17 (d := ⟨.meth "Weigher" "__eq__", "__eq__", "Weigher.__eq__", s_Weigher_eq⟩) rfl
  have b_Weigher_eq := FunD.bindsN (ps := ["self", "other"]) F_Weigher_eq fun _ _ _ _ _ _ us hl => match us, hl with | [_, _], _ => rfl
  have k_Weigher_eq : ∀ q ∈ fi_Weigher_eq.kws, ∀ (s : Shared) (u0 : Value) (us : List Value), us.length = q.1.length → BindsTo s fd_Weigher_eq ⟨[u0], q.1.zip us⟩ ((["self", "other"] : List Str).zip (u0 :: permL q.2 us)) := by
    intro p hp
    simp only [fi_Weigher_eq, List.mem_cons, List.not_mem_nil, or_false] at hp
  obtain ⟨fd_check_weigher, F_check_weigher⟩ := c.def_ 18 (d := ⟨.glo "check_weigher", "check_weigher", "check_weigher", s_check_weigher⟩) rfl
  have b_check_weigher := FunD.bindsN (ps := ["value"]) F_check_weigher fun _ _ _ _ _ _ us hl => match us, hl with | [_], _ => rfl
  have k_check_weigher : ∀ p ∈ fi_check_weigher.kws, KwB fd_check_weigher ["value"] p := by
    intro p hp
    simp only [fi_check_weigher, List.mem_cons, List.not_mem_nil, or_false] at hp
  have g_check_weigher := He.glo_ok X G (c.fact 11 (f := .glo "check_weigher") rfl)
  obtain ⟨fd_weighed, F_weighed⟩ := c.def_ 19 (d := ⟨.glo "weighed", "weighed", "weighed", s_weighed⟩) rfl
  have b_weighed := FunD.bindsN (ps := ["numbers", "goals"]) F_weighed fun _ _ _ _ _ _ us hl => match us, hl with | [_, _], _ => rfl
  have k_weighed : ∀ p ∈ fi_weighed.kws, KwB fd_weighed ["numbers", "goals"] p := by
    intro p hp
    simp only [fi_weighed, List.mem_cons, List.not_mem_nil, or_false] at hp
  have g_weighed := He.glo_ok X G (c.fact 12 (f := .glo "weighed") rfl)
  obtain ⟨fd_moved, F_moved⟩ := c.def_ 20 (d := ⟨.glo "moved", "moved", "moved", s_moved⟩) rfl
  have b_moved := FunD.bindsN (ps := ["numbers", "table"]) F_moved fun _ _ _ _ _ _ us hl => match us, hl with | [_, _], _ => rfl
  have k_moved : ∀ p ∈ fi_moved.kws, KwB fd_moved ["numbers", "table"] p := by
    intro p hp
    simp only [fi_moved, List.mem_cons, List.not_mem_nil, or_false] at hp
  have g_moved := He.glo_ok X G (c.fact 13 (f := .glo "moved") rfl)
  obtain ⟨fd_spanned, F_spanned⟩ := c.def_ 21 (d := ⟨.glo "spanned", "spanned", "spanned", s_spanned⟩) rfl
  have b_spanned := FunD.bindsN (ps := ["first", "tables"]) F_spanned fun _ _ _ _ _ _ us hl => match us, hl with | [_, _], _ => rfl
  have k_spanned : ∀ p ∈ fi_spanned.kws, KwB fd_spanned ["first", "tables"] p := by
    intro p hp
    simp only [fi_spanned, List.mem_cons, List.not_mem_nil, or_false] at hp
  have g_spanned := He.glo_ok X G (c.fact 14 (f := .glo "spanned") rfl)
  obtain ⟨fd_crossed, F_crossed⟩ := c.def_ 22 (d := ⟨.glo "crossed", "crossed", "crossed", s_crossed⟩) rfl
  have b_crossed := FunD.bindsN (ps := ["table"]) F_crossed fun _ _ _ _ _ _ us hl => match us, hl with | [_], _ => rfl
  have k_crossed : ∀ p ∈ fi_crossed.kws, KwB fd_crossed ["table"] p := by
    intro p hp
    simp only [fi_crossed, List.mem_cons, List.not_mem_nil, or_false] at hp
  have g_crossed := He.glo_ok X G (c.fact 15 (f := .glo "crossed") rfl)
  obtain ⟨fd_order_of, F_order_of⟩ := c.def_ 23 (d := ⟨.glo "order_of", "order_of", "order_of", s_order_of⟩) rfl
  have b_order_of := FunD.bindsN (ps := ["weigher"]) F_order_of fun _ _ _ _ _ _ us hl => match us, hl with | [_], _ => rfl
  have k_order_of : ∀ p ∈ fi_order_of.kws, KwB fd_order_of ["weigher"] p := by
    intro p hp
    simp only [fi_order_of, List.mem_cons, List.not_mem_nil, or_false] at hp
    rcases hp with rfl
    · exact kw_bind F_order_of fun _ _ _ _ _ _ us hl => match us, hl with | [_], _ => rfl
  have g_order_of := He.glo_ok X G (c.fact 16 (f := .glo "order_of") rfl)
  obtain ⟨fd__law_pour, F__law_pour⟩ := c.def_ 24 (d := ⟨.glo "_law_pour", "_law_pour", "_law_pour", s__law_pour⟩) rfl
  have b__law_pour := FunD.bindsN (ps := ["_law_flask_here", "_law_top"]) F__law_pour fun _ _ _ _ _ _ us hl => match us, hl with | [_, _], _ => rfl
  have k__law_pour : ∀ p ∈ fi__law_pour.kws, KwB fd__law_pour ["_law_flask_here", "_law_top"] p := by
    intro p hp
    simp only [fi__law_pour, List.mem_cons, List.not_mem_nil, or_false] at hp
  have g__law_pour := He.glo_ok X G (c.fact 17 (f := .glo "_law_pour") rfl)
  obtain ⟨fd__law_pick, F__law_pick⟩ := c.def_ 25 (d := ⟨.glo "_law_pick", "_law_pick", "_law_pick", s__law_pick⟩) rfl
  have b__law_pick := FunD.bindsN (ps := ["_law_flask_here", "_law_some"]) F__law_pick fun _ _ _ _ _ _ us hl => match us, hl with | [_, _], _ => rfl
  have k__law_pick : ∀ p ∈ fi__law_pick.kws, KwB fd__law_pick ["_law_flask_here", "_law_some"] p := by
    intro p hp
    simp only [fi__law_pick, List.mem_cons, List.not_mem_nil, or_false] at hp
  have g__law_pick := He.glo_ok X G (c.fact 18 (f := .glo "_law_pick") rfl)
  obtain ⟨fd__law_parts, F__law_parts⟩ := c.def_ 26 (d := ⟨.glo "_law_parts", "_law_parts", "_law_parts", s__law_parts⟩) rfl
  have b__law_parts := FunD.bindsN (ps := ["_law_flask_here", "_law_signs", "_law_most"]) F__law_parts fun _ _ _ _ _ _ us hl => match us, hl with | [_, _, _], _ => rfl
  have k__law_parts : ∀ p ∈ fi__law_parts.kws, KwB fd__law_parts ["_law_flask_here", "_law_signs", "_law_most"] p := by
    intro p hp
    simp only [fi__law_parts, List.mem_cons, List.not_mem_nil, or_false] at hp
  have g__law_parts := He.glo_ok X G (c.fact 19 (f := .glo "_law_parts") rfl)
  obtain ⟨fd__law_made, F__law_made⟩ := c.def_ 27 (d := ⟨.glo "_law_made", "_law_made", "_law_made", s__law_made⟩) rfl
  have b__law_made := FunD.bindsN (ps := ["_law_signs", "_law_parts_here"]) F__law_made fun _ _ _ _ _ _ us hl => match us, hl with | [_, _], _ => rfl
  have k__law_made : ∀ p ∈ fi__law_made.kws, KwB fd__law_made ["_law_signs", "_law_parts_here"] p := by
    intro p hp
    simp only [fi__law_made, List.mem_cons, List.not_mem_nil, or_false] at hp
  have g__law_made := He.glo_ok X G (c.fact 20 (f := .glo "_law_made") rfl)
  obtain ⟨fd__law_wider, F__law_wider⟩ := c.def_ 28 (d := ⟨.glo "_law_wider", "_law_wider", "_law_wider", s__law_wider⟩) rfl
  have b__law_wider := FunD.bindsN (ps := ["_law_flask_here", "_law_parts_here"]) F__law_wider fun _ _ _ _ _ _ us hl => match us, hl with | [_, _], _ => rfl
  have k__law_wider : ∀ p ∈ fi__law_wider.kws, KwB fd__law_wider ["_law_flask_here", "_law_parts_here"] p := by
    intro p hp
    simp only [fi__law_wider, List.mem_cons, List.not_mem_nil, or_false] at hp
  have g__law_wider := He.glo_ok X G (c.fact 21 (f := .glo "_law_wider") rfl)
  obtain ⟨fd__law_value, F__law_value⟩ := c.def_ 29 (d := ⟨.glo "_law_value", "_law_value", "_law_value", s__law_value⟩) rfl
  have b__law_value := FunD.bindsN (ps := ["_law_parts_here", "_law_row"]) F__law_value fun _ _ _ _ _ _ us hl => match us, hl with | [_, _], _ => rfl
  have k__law_value : ∀ p ∈ fi__law_value.kws, KwB fd__law_value ["_law_parts_here", "_law_row"] p := by
    intro p hp
    simp only [fi__law_value, List.mem_cons, List.not_mem_nil, or_false] at hp
  have g__law_value := He.glo_ok X G (c.fact 22 (f := .glo "_law_value") rfl)
  obtain ⟨fd__law_words, F__law_words⟩ := c.def_ 30 (d := ⟨.glo "_law_words", "_law_words", "_law_words", s__law_words⟩) rfl
  have b__law_words := FunD.bindsN (ps := ["_law_signs", "_law_most"]) F__law_words fun _ _ _ _ _ _ us hl => match us, hl with | [_, _], _ => rfl
  have k__law_words : ∀ p ∈ fi__law_words.kws, KwB fd__law_words ["_law_signs", "_law_most"] p := by
    intro p hp
    simp only [fi__law_words, List.mem_cons, List.not_mem_nil, or_false] at hp
  have g__law_words := He.glo_ok X G (c.fact 23 (f := .glo "_law_words") rfl)
  obtain ⟨fd__law_rank, F__law_rank⟩ := c.def_ 31 (d := ⟨.glo "_law_rank", "_law_rank", "_law_rank", s__law_rank⟩) rfl
  have b__law_rank := FunD.bindsN (ps := ["_law_rows_here"]) F__law_rank fun _ _ _ _ _ _ us hl => match us, hl with | [_], _ => rfl
  have k__law_rank : ∀ p ∈ fi__law_rank.kws, KwB fd__law_rank ["_law_rows_here"] p := by
    intro p hp
    simp only [fi__law_rank, List.mem_cons, List.not_mem_nil, or_false] at hp
  have g__law_rank := He.glo_ok X G (c.fact 24 (f := .glo "_law_rank") rfl)
  obtain ⟨fd__law_due, F__law_due⟩ := c.def_ 32 (d := ⟨.glo "_law_due", "_law_due", "_law_due", s__law_due⟩) rfl
  have b__law_due := FunD.bindsN (ps := ["_law_signs", "_law_parts_here"]) F__law_due fun _ _ _ _ _ _ us hl => match us, hl with | [_, _], _ => rfl
  have k__law_due : ∀ p ∈ fi__law_due.kws, KwB fd__law_due ["_law_signs", "_law_parts_here"] p := by
    intro p hp
    simp only [fi__law_due, List.mem_cons, List.not_mem_nil, or_false] at hp
  have g__law_due := He.glo_ok X G (c.fact 25 (f := .glo "_law_due") rfl)
  obtain ⟨fd__law_right, F__law_right⟩ := c.def_ 33 (d := ⟨.glo "_law_right", "_law_right", "_law_right", s__law_right⟩) rfl
  have b__law_right := FunD.bindsN (ps := ["_law_flask_here"]) F__law_right fun _ _ _ _ _ _ us hl => match us, hl with | [_], _ => rfl
  have k__law_right : ∀ p ∈ fi__law_right.kws, KwB fd__law_right ["_law_flask_here"] p := by
    intro p hp
    simp only [fi__law_right, List.mem_cons, List.not_mem_nil, or_false] at hp
  have g__law_right := He.glo_ok X G (c.fact 26 (f := .glo "_law_right") rfl)
  obtain ⟨fd_law, F_law⟩ := c.def_ 34 (d := ⟨.glo "law", "law", "law", s_law⟩) rfl
  have b_law := FunD.bindsN (ps := ["_law_script"]) F_law fun _ _ _ _ _ _ us hl => match us, hl with | [_], _ => rfl
  have k_law : ∀ p ∈ fi_law.kws, KwB fd_law ["_law_script"] p := by
    intro p hp
    simp only [fi_law, List.mem_cons, List.not_mem_nil, or_false] at hp
  have g_law := He.glo_ok X G (c.fact 27 (f := .glo "law") rfl)
  have e := hfa.symm.trans g_law
  cases e
  refine ⟨fd_law, fun s v => FunD.bindsA (ps := ["_law_script"]) F_law (fun _ _ _ _ _ _ us hl => match us, hl with | [_], _ => rfl) s [v] rfl, fun base hb hg => ?_⟩
  have E0 : EnvS P w K mg base 0 [] cl0 := EnvS.nil
  have E1 : EnvS P w K mg base 1 (("_law_flask", fi__law_flask) :: fs__law_flask) cl0 := EnvS.add (mt := false) (fr := true) E0 C F__law_flask g__law_flask sc__law_flask b__law_flask k__law_flask (by decide +kernel) (by decide +kernel) c__law_flask 2 rfl 5 rfl
  have E2 : EnvS P w K mg base 2 (("shared", fi_shared) :: fs_shared) cl0 := EnvS.add (mt := false) (fr := false) E1 C F_shared g_shared sc_shared b_shared k_shared (by decide +kernel) (by decide +kernel) c_shared 2 rfl 2 rfl
  have E3 : EnvS P w K mg base 3 (("shared_by", fi_shared_by) :: fs_shared_by) cl0 := EnvS.add (mt := false) (fr := false) E2 C F_shared_by g_shared_by sc_shared_by b_shared_by k_shared_by (by decide +kernel) (by decide +kernel) c_shared_by 1 rfl 3 rfl
  have E4 : EnvS P w K mg base 4 (("reduced", fi_reduced) :: fs_reduced) cl0 := EnvS.add (mt := false) (fr := false) E3 C F_reduced g_reduced sc_reduced b_reduced k_reduced (by decide +kernel) (by decide +kernel) c_reduced 2 rfl 7 rfl
  have E5 : EnvS P w K mg base 5 (("joined", fi_joined) :: fs_joined) cl0 := EnvS.add (mt := false) (fr := false) E4 C F_joined g_joined sc_joined b_joined k_joined (by decide +kernel) (by decide +kernel) c_joined 2 rfl 6 rfl
  have E6 : EnvS P w K mg base 6 (("rank_of", fi_rank_of) :: fs_rank_of) cl0 := EnvS.add (mt := false) (fr := false) E5 C F_rank_of g_rank_of sc_rank_of b_rank_of k_rank_of (by decide +kernel) (by decide +kernel) c_rank_of 1 rfl 3 rfl
  have E7 : EnvS P w K mg base 7 (("is_number", fi_is_number) :: fs_is_number) cl0 := EnvS.add (mt := false) (fr := false) E6 C F_is_number g_is_number sc_is_number b_is_number k_is_number (by decide +kernel) (by decide +kernel) c_is_number 3 rfl 3 rfl
  have E8 : EnvS P w K mg base 8 (("is_signs", fi_is_signs) :: fs_is_signs) cl0 := EnvS.add (mt := false) (fr := false) E7 C F_is_signs g_is_signs sc_is_signs b_is_signs k_is_signs (by decide +kernel) (by decide +kernel) c_is_signs 1 rfl 1 rfl
  have E9 : EnvS P w K mg base 9 (("check_signs", fi_check_signs) :: fs_check_signs) cl0 := EnvS.add (mt := false) (fr := false) E8 C F_check_signs g_check_signs sc_check_signs b_check_signs k_check_signs (by decide +kernel) (by decide +kernel) c_check_signs 1 rfl 1 rfl
  have E10 : EnvS P w K mg base 10 (("is_weights", fi_is_weights) :: fs_is_weights) cl0 := EnvS.add (mt := false) (fr := false) E9 C F_is_weights g_is_weights sc_is_weights b_is_weights k_is_weights (by decide +kernel) (by decide +kernel) c_is_weights 2 rfl 3 rfl
  have E11 : EnvS P w K mg base 11 (("is_weight_table", fi_is_weight_table) :: fs_is_weight_table) cl0 := EnvS.add (mt := false) (fr := false) E10 C F_is_weight_table g_is_weight_table sc_is_weight_table b_is_weight_table k_is_weight_table (by decide +kernel) (by decide +kernel) c_is_weight_table 2 rfl 3 rfl
  have S_Weigher_0 : ClsS P w K mg base 11 "Weigher" ci_Weigher_0 := by
    refine ClsS.of (c.more 0 (x := clsB "Weigher") rfl) g_Weigher ?f11 ?i11 ?p11 ?e11 ?l11 ?t11 ?b11
    case f11 =>
      intro f hf
      simp only [ci_Weigher_0, List.mem_cons, List.not_mem_nil, or_false] at hf
      rcases hf with rfl
      · exact c.fact 53 (f := .noat "Weigher" "parts") rfl
    case i11 =>
      intro fi e
      cases e
    case e11 =>
      intro fi e
      cases e
    case l11 =>
      intro fi e
      cases e
    case b11 =>
      intro fi e
      cases e
    case p11 =>
      intro q hq
      simp only [ci_Weigher_0, List.mem_cons, List.not_mem_nil, or_false] at hq
    case t11 =>
      intro e
      cases e
  have E12 : EnvS P w K mg base 11 (("is_weight_table", fi_is_weight_table) :: fs_is_weight_table) cl1 := EnvS.cls E11 S_Weigher_0 (by omega) (by decide +kernel)
  have Fn_Weigher_init : FnG P w K mg base CX0 13 (AdX.ad K (.meth "Weigher" "__init__")) fd_Weigher_init ["self", "signs", "begins", "tables", "goals"] (spOf ⟨K, mg⟩ fi_Weigher_init.n fi_Weigher_init.fm) := E12.fn (fr := false) C F_Weigher_init sc_Weigher_init (by decide +kernel) c_Weigher_init
  have Fn_Weigher_signs : FnG P w K mg base CX0 13 (AdX.ad K (.get "Weigher" "signs")) fd_Weigher_signs ["self"] (spOf ⟨K, mg⟩ fi_Weigher_signs.n fi_Weigher_signs.fm) := E12.fn (fr := false) C F_Weigher_signs sc_Weigher_signs (by decide +kernel) c_Weigher_signs
  have Fn_Weigher_size : FnG P w K mg base CX0 13 (AdX.ad K (.get "Weigher" "size")) fd_Weigher_size ["self"] (spOf ⟨K, mg⟩ fi_Weigher_size.n fi_Weigher_size.fm) := E12.fn (fr := false) C F_Weigher_size sc_Weigher_size (by decide +kernel) c_Weigher_size
  have Fn_Weigher_begins : FnG P w K mg base CX0 13 (AdX.ad K (.get "Weigher" "begins")) fd_Weigher_begins ["self"] (spOf ⟨K, mg⟩ fi_Weigher_begins.n fi_Weigher_begins.fm) := E12.fn (fr := false) C F_Weigher_begins sc_Weigher_begins (by decide +kernel) c_Weigher_begins
  have Fn_Weigher_tables : FnG P w K mg base CX0 13 (AdX.ad K (.get "Weigher" "tables")) fd_Weigher_tables ["self"] (spOf ⟨K, mg⟩ fi_Weigher_tables.n fi_Weigher_tables.fm) := E12.fn (fr := false) C F_Weigher_tables sc_Weigher_tables (by decide +kernel) c_Weigher_tables
  have Fn_Weigher_goals : FnG P w K mg base CX0 13 (AdX.ad K (.get "Weigher" "goals")) fd_Weigher_goals ["self"] (spOf ⟨K, mg⟩ fi_Weigher_goals.n fi_Weigher_goals.fm) := E12.fn (fr := false) C F_Weigher_goals sc_Weigher_goals (by decide +kernel) c_Weigher_goals
  have S_Weigher_1 : ClsS P w K mg base 13 "Weigher" ci_Weigher_1 := by
    refine ClsS.of (c.more 0 (x := clsB "Weigher") rfl) g_Weigher ?f12 ?i12 ?p12 ?e12 ?l12 ?t12 ?b12
    case f12 =>
      intro f hf
      simp only [ci_Weigher_1, List.mem_cons, List.not_mem_nil, or_false] at hf
      rcases hf with rfl
      · exact c.fact 53 (f := .noat "Weigher" "parts") rfl
    case i12 =>
      intro fi e
      cases e
      exact ⟨c.fact 54 (f := .mkr "Weigher") rfl, _, _, Fn_Weigher_init.mono (by omega), b_Weigher_init, k_Weigher_init⟩
    case e12 =>
      intro fi e
      cases e
    case l12 =>
      intro fi e
      cases e
    case b12 =>
      intro fi e
      cases e
    case p12 =>
      intro q hq
      simp only [ci_Weigher_1, List.mem_cons, List.not_mem_nil, or_false] at hq
      rcases hq with rfl | rfl | rfl | rfl | rfl
      · exact ⟨c.more 2 (x := propB "Weigher" "signs") rfl, _, _, Fn_Weigher_signs.mono (by omega), b_Weigher_signs⟩
      · exact ⟨c.more 3 (x := propB "Weigher" "size") rfl, _, _, Fn_Weigher_size.mono (by omega), b_Weigher_size⟩
      · exact ⟨c.more 4 (x := propB "Weigher" "begins") rfl, _, _, Fn_Weigher_begins.mono (by omega), b_Weigher_begins⟩
      · exact ⟨c.more 5 (x := propB "Weigher" "tables") rfl, _, _, Fn_Weigher_tables.mono (by omega), b_Weigher_tables⟩
      · exact ⟨c.more 6 (x := propB "Weigher" "goals") rfl, _, _, Fn_Weigher_goals.mono (by omega), b_Weigher_goals⟩
    case t12 =>
      intro e
      exact c.more 7 (x := truB "Weigher") rfl
  have E13 : EnvS P w K mg base 13 (("is_weight_table", fi_is_weight_table) :: fs_is_weight_table) cl2 := EnvS.cls E12 S_Weigher_1 (by omega) (by decide +kernel)
  have Fn_Weigher_eq : FnG P w K mg base CX0 15 (AdX.ad K (.meth "Weigher" "__eq__")) fd_Weigher_eq ["self", "other"] (spOf ⟨K, mg⟩ fi_Weigher_eq.n fi_Weigher_eq.fm) := E13.fn (fr := false) C F_Weigher_eq sc_Weigher_eq (by decide +kernel) c_Weigher_eq
  have S_Weigher_2 : ClsS P w K mg base 15 "Weigher" ci_Weigher_2 := by
    refine ClsS.of (c.more 0 (x := clsB "Weigher") rfl) g_Weigher ?f13 ?i13 ?p13 ?e13 ?l13 ?t13 ?b13
    case f13 =>
      intro f hf
      simp only [ci_Weigher_2, List.mem_cons, List.not_mem_nil, or_false] at hf
      rcases hf with rfl
      · exact c.fact 53 (f := .noat "Weigher" "parts") rfl
    case i13 =>
      intro fi e
      cases e
      exact ⟨c.fact 54 (f := .mkr "Weigher") rfl, _, _, Fn_Weigher_init.mono (by omega), b_Weigher_init, k_Weigher_init⟩
    case e13 =>
      intro fi e
      cases e
      exact ⟨c.more 8 (x := ownB "Weigher" "__eq__") rfl, _, _, Fn_Weigher_eq.mono (by omega), b_Weigher_eq⟩
    case l13 =>
      intro fi e
      cases e
    case b13 =>
      intro fi e
      cases e
    case p13 =>
      intro q hq
      simp only [ci_Weigher_2, List.mem_cons, List.not_mem_nil, or_false] at hq
      rcases hq with rfl | rfl | rfl | rfl | rfl
      · exact ⟨c.more 2 (x := propB "Weigher" "signs") rfl, _, _, Fn_Weigher_signs.mono (by omega), b_Weigher_signs⟩
      · exact ⟨c.more 3 (x := propB "Weigher" "size") rfl, _, _, Fn_Weigher_size.mono (by omega), b_Weigher_size⟩
      · exact ⟨c.more 4 (x := propB "Weigher" "begins") rfl, _, _, Fn_Weigher_begins.mono (by omega), b_Weigher_begins⟩
      · exact ⟨c.more 5 (x := propB "Weigher" "tables") rfl, _, _, Fn_Weigher_tables.mono (by omega), b_Weigher_tables⟩
      · exact ⟨c.more 6 (x := propB "Weigher" "goals") rfl, _, _, Fn_Weigher_goals.mono (by omega), b_Weigher_goals⟩
    case t13 =>
      intro e
      exact c.more 7 (x := truB "Weigher") rfl
  have E14 : EnvS P w K mg base 15 (("is_weight_table", fi_is_weight_table) :: fs_is_weight_table) cl3 := EnvS.cls E13 S_Weigher_2 (by omega) (by decide +kernel)
  have E15 : EnvS P w K mg base 16 (("check_weigher", fi_check_weigher) :: fs_check_weigher) cl3 := EnvS.add (mt := false) (fr := false) E14 C F_check_weigher g_check_weigher sc_check_weigher b_check_weigher k_check_weigher (by decide +kernel) (by decide +kernel) c_check_weigher 1 rfl 1 rfl
  have E16 : EnvS P w K mg base 17 (("weighed", fi_weighed) :: fs_weighed) cl3 := EnvS.add (mt := false) (fr := false) E15 C F_weighed g_weighed sc_weighed b_weighed k_weighed (by decide +kernel) (by decide +kernel) c_weighed 2 rfl 4 rfl
  have E17 : EnvS P w K mg base 18 (("moved", fi_moved) :: fs_moved) cl3 := EnvS.add (mt := false) (fr := false) E16 C F_moved g_moved sc_moved b_moved k_moved (by decide +kernel) (by decide +kernel) c_moved 2 rfl 5 rfl
  have E18 : EnvS P w K mg base 19 (("spanned", fi_spanned) :: fs_spanned) cl3 := EnvS.add (mt := false) (fr := false) E17 C F_spanned g_spanned sc_spanned b_spanned k_spanned (by decide +kernel) (by decide +kernel) c_spanned 2 rfl 9 rfl
  have E19 : EnvS P w K mg base 20 (("crossed", fi_crossed) :: fs_crossed) cl3 := EnvS.add (mt := false) (fr := false) E18 C F_crossed g_crossed sc_crossed b_crossed k_crossed (by decide +kernel) (by decide +kernel) c_crossed 1 rfl 3 rfl
  have E20 : EnvS P w K mg base 21 (("order_of", fi_order_of) :: fs_order_of) cl3 := EnvS.add (mt := false) (fr := false) E19 C F_order_of g_order_of sc_order_of b_order_of k_order_of (by decide +kernel) (by decide +kernel) c_order_of 1 rfl 6 rfl
  have E21 : EnvS P w K mg base 22 (("_law_pour", fi__law_pour) :: fs__law_pour) cl3 := EnvS.add (mt := true) (fr := false) E20 C F__law_pour g__law_pour sc__law_pour b__law_pour k__law_pour (by decide +kernel) (by decide +kernel) c__law_pour 2 rfl 5 rfl
  have E22 : EnvS P w K mg base 23 (("_law_pick", fi__law_pick) :: fs__law_pick) cl3 := EnvS.add (mt := true) (fr := false) E21 C F__law_pick g__law_pick sc__law_pick b__law_pick k__law_pick (by decide +kernel) (by decide +kernel) c__law_pick 2 rfl 2 rfl
  have E23 : EnvS P w K mg base 24 (("_law_parts", fi__law_parts) :: fs__law_parts) cl3 := EnvS.add (mt := true) (fr := false) E22 C F__law_parts g__law_parts sc__law_parts b__law_parts k__law_parts (by decide +kernel) (by decide +kernel) c__law_parts 3 rfl 10 rfl
  have E24 : EnvS P w K mg base 25 (("_law_made", fi__law_made) :: fs__law_made) cl3 := EnvS.add (mt := false) (fr := false) E23 C F__law_made g__law_made sc__law_made b__law_made k__law_made (by decide +kernel) (by decide +kernel) c__law_made 2 rfl 2 rfl
  have E25 : EnvS P w K mg base 26 (("_law_wider", fi__law_wider) :: fs__law_wider) cl3 := EnvS.add (mt := true) (fr := false) E24 C F__law_wider g__law_wider sc__law_wider b__law_wider k__law_wider (by decide +kernel) (by decide +kernel) c__law_wider 2 rfl 13 rfl
  have E26 : EnvS P w K mg base 27 (("_law_value", fi__law_value) :: fs__law_value) cl3 := EnvS.add (mt := false) (fr := false) E25 C F__law_value g__law_value sc__law_value b__law_value k__law_value (by decide +kernel) (by decide +kernel) c__law_value 2 rfl 7 rfl
  have E27 : EnvS P w K mg base 28 (("_law_words", fi__law_words) :: fs__law_words) cl3 := EnvS.add (mt := false) (fr := false) E26 C F__law_words g__law_words sc__law_words b__law_words k__law_words (by decide +kernel) (by decide +kernel) c__law_words 2 rfl 8 rfl
  have E28 : EnvS P w K mg base 29 (("_law_rank", fi__law_rank) :: fs__law_rank) cl3 := EnvS.add (mt := false) (fr := false) E27 C F__law_rank g__law_rank sc__law_rank b__law_rank k__law_rank (by decide +kernel) (by decide +kernel) c__law_rank 1 rfl 9 rfl
  have E29 : EnvS P w K mg base 30 (("_law_due", fi__law_due) :: fs__law_due) cl3 := EnvS.add (mt := false) (fr := false) E28 C F__law_due g__law_due sc__law_due b__law_due k__law_due (by decide +kernel) (by decide +kernel) c__law_due 2 rfl 6 rfl
  have E30 : EnvS P w K mg base 31 (("_law_right", fi__law_right) :: fs__law_right) cl3 := EnvS.add (mt := true) (fr := false) E29 C F__law_right g__law_right sc__law_right b__law_right k__law_right (by decide +kernel) (by decide +kernel) c__law_right 1 rfl 5 rfl
  exact E30.fn (fr := false) C F_law sc_law (by decide +kernel) c_law
end Lk52

set_option maxHeartbeats 0
open PySem PySem.W PySem.Calls PyProof.Rows
theorem PySem.Challenge.cw_rowreaders_k52_whole_orders_of_weighers_holds : PySem.Challenge.rw_rowreaders_k52_whole_orders_of_weighers.Holds := by
  w_on; o_law
  refine HandSHeadRun.head_any (r := OpenLaw.row PySem.Challenge.rw_rowreaders_k52_whole_orders_of_weighers) (q := view (OpenLaw.row PySem.Challenge.rw_rowreaders_k52_whole_orders_of_weighers).prog [40]) (H := Lk52.hk) (ob := Lk52.ob) (M := 20000) (loose := Lk52.loose) (d := HandSHeadRun.topDef (OpenLaw.row PySem.Challenge.rw_rowreaders_k52_whole_orders_of_weighers).prog 40) (kwd := []) Lk52.ob_eq
    (by kernel_rfl) (fun s => by kernel_rfl) Lk52.run (by kernel_rfl) (by kernel_rfl) (by kernel_rfl) (by rfl) (by first | assumption | decide +kernel) (by decide +kernel) ⟨rfl, rfl, rfl, rfl, rfl, by decide +kernel⟩ ?hw ?hc
  case hw => w_witness2
  case hc =>
    refine RR.walkG (l := PySem.Challenge.rw_rowreaders_k52_whole_orders_of_weighers) (n := 63) (k := 33) (x := "_law_script") (CX := L2.CX0) rfl (by decide) (by kernel_rfl) ⟨⟨rfl, by decide, by decide⟩, rfl⟩ ?F (fun _ _ _ _ z => z)
    intro w mg fa h Y G hmg0
    obtain ⟨K, KX, c⟩ := Y
    have hmg : mg ("law" : PySem.Str) = some (.ref fa) := by
      have e : (HandSHeadRun.topDef (OpenLaw.row PySem.Challenge.rw_rowreaders_k52_whole_orders_of_weighers).prog 40).name = ("law" : PySem.Str) := by kernel_rfl
      rw [← e]
      exact hmg0
    obtain ⟨fd, hb, hF⟩ := Lk52.facts (P := (PySem.Challenge.rw_rowreaders_k52_whole_orders_of_weighers).prog) (w := w) KX G hmg c
    exact ⟨K, fd, RR.spOf ⟨K, mg⟩ 1 Lk52.fi_law.fm, KX, hb, fun H a ns hl _ hS => RR.law_sp (Lk52.law_true ns hl) hS, hF⟩
