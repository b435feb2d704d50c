import PyProof.Rows.All
import HandS.ForMost
import HandS.IsInst
import HandS.StrMore
import HandS.TupAny
import HandS.TupMul
import HandS.Style
import HandS.Wide
import HandS.WideBits
import HandS.Deep
import HandS.Replace
import HandS.Defaults
import HandS.Head0
import HandS.Head1
import HandS.Head2
import HandS.HeadEnd
import HandS.HeadHook1
import HandS.HeadHook2
import KE.KStateDown
import PySem.Challenge.RW_rowreaders_k62_numbers_and_their_rows
set_option Elab.async false
set_option linter.all false
set_option maxRecDepth 100000
set_option maxHeartbeats 4000000
namespace RR
open PySem PySem.Spec PyProof.Rows L2

/-! ### pure values, the store of things that are changed -/
inductive D where
  | non | bl (b : Bool) | int (i : Int) | str (x : Str)
  | tup (xs : List D) | lst (xs : List D) | scr (xs : List D)
  | dic (ks vs : List D)
  | ins (c : Str) (ns : List Str) (vs : List D)
  | ty (n : String) | glo (x : Str)
  deriving Inhabited
inductive W where
  | v (d : D) | o (i : Nat)
  deriving Inhabited
inductive MO where
  | lst (xs : List D) | lol (is : List Nat) | dic (ks vs : List D) | ins (c : Str) (ns : List Str) (vs : List D)
  deriving Inhabited
structure Ent where
  live : Bool
  ob : MO
  deriving Inhabited
abbrev Objs := List Ent

/-- an outcome -/
inductive R (α : Type) where
  | ok (a : α) (o : Objs) | exc (e : D) (o : Objs) | stuck
def R.bind {α β : Type} (r : R α) (f : α → Objs → R β) : R β :=
  match r with
  | .ok a o => f a o
  | .exc e o => .exc e o
  | .stuck => .stuck
@[simp] theorem R.bind_ok {α β : Type} (a : α) (o : Objs) (f : α → Objs → R β) : (R.ok a o).bind f = f a o := id rfl
@[simp] theorem R.bind_exc {α β : Type} (e : D) (o : Objs) (f : α → Objs → R β) : (R.exc e o : R α).bind f = .exc e o := id rfl
@[simp] theorem R.bind_stuck {α β : Type} (f : α → Objs → R β) : (R.stuck : R α).bind f = .stuck := id rfl

structure GE where
  K : PySem.W.Frag
  mg : Str → Option Value

def keyD : Key → D
  | .inl i => .int i
  | .inr x => .str x

/-- a list of the written part -/
def WrL (K : PySem.W.Frag) (a : Addr) (xs : List V) : Prop := ∃ o its n, K.lookup a = some o ∧ o.cls = .type "list" ∧ o.dict = none ∧ o.data = .seq its n ∧ its.size ≤ sizeLine ∧ Vals xs its.toList
mutual
/-- A: the addresses of what may still be changed -/
def RV (g : GE) (A : Addr → Prop) (H : Hp) : D → V → Prop
  | .non, v => v = .non
  | .bl b, v => v = .bl b
  | .int i, v => v = .int i
  | .str x, v => v = .str x
  | .ty n, v => v = .ty n
  | .glo x, v => ∃ a, g.mg x = some (.ref a) ∧ v = .ref a
  | .tup xs, v => ∃ a vs, v = .ref a ∧ ¬ A a ∧ H a = some (.tup vs) ∧ RVs g A H xs vs
  | .lst xs, v => ∃ a vs, v = .ref a ∧ ¬ A a ∧ H a = some (.lst vs) ∧ RVs g A H xs vs
  | .scr xs, v => ∃ a vs, v = .ref a ∧ ((¬ A a ∧ Rd H a (.lst vs)) ∨ WrL g.K a vs) ∧ RVs g A H xs vs
  | .dic ks ds, v => ∃ a kvs, v = .ref a ∧ ¬ A a ∧ H a = some (.dK kvs) ∧ ks = kvs.map (fun p => keyD p.1) ∧ RVs g A H ds (kvs.map (·.2))
  | .ins c ns ds, v => ∃ a C dx vs, v = .ref a ∧ ¬ A a ∧ g.mg c = some (.ref C) ∧ H a = some (.ins C dx (ns.zip vs)) ∧ ns.length = ds.length ∧ RVs g A H ds vs
def RVs (g : GE) (A : Addr → Prop) (H : Hp) : List D → List V → Prop
  | [], vs => vs = []
  | d :: ds, vs => ∃ v r, vs = v :: r ∧ RV g A H d v ∧ RVs g A H ds r
end

def RAt (ι : List Addr) (i : Nat) (v : V) : Prop := ∃ a, ι[i]? = some a ∧ v = .ref a
def RW (g : GE) (ι : List Addr) (A : Addr → Prop) (H : Hp) : W → V → Prop
  | .v d, v => RV g A H d v
  | .o i, v => RAt ι i v
def RO (g : GE) (ι : List Addr) (A : Addr → Prop) (H : Hp) : MO → Addr → Prop
  | .lst xs, a => ∃ vs, H a = some (.lst vs) ∧ RVs g A H xs vs
  | .lol is, a => ∃ vs, H a = some (.lst vs) ∧ Paired (RAt ι) is vs
  | .dic ks ds, a => ∃ kvs, H a = some (.dK kvs) ∧ ks = kvs.map (fun p => keyD p.1) ∧ RVs g A H ds (kvs.map (·.2))
  | .ins c ns ds, a => ∃ C dx vs, g.mg c = some (.ref C) ∧ H a = some (.ins C dx (ns.zip vs)) ∧ ns.length = ds.length ∧ RVs g A H ds vs

def Live (ι : List Addr) (objs : Objs) (a : Addr) : Prop := ∃ (i : Nat) (o : MO), ι[i]? = some a ∧ objs[i]? = some (Ent.mk true o)
abbrev Al (F : Addr → Prop) (ι : List Addr) (objs : Objs) : Addr → Prop := fun a => F a ∨ Live ι objs a

structure Rel (g : GE) (F : Addr → Prop) (ι : List Addr) (H : Hp) (objs : Objs) : Prop where
  nd : ι.Nodup
  len : ι.length = objs.length
  at_ : ∀ (i : Nat) (a : Addr) (o : Ent), ι[i]? = some a → objs[i]? = some o → RO g ι (Al F ι objs) H o.ob a
  out : ∀ a, F a → (∃ o, H a = some o) ∧ a ∉ ι

structure Ext (ι : List Addr) (objs : Objs) (H : Hp) (ι' : List Addr) (objs' : Objs) (H' : Hp) : Prop where
  pre : ι <+: ι'
  keep : ∀ b o, H b = some o → ¬ Live ι objs b → H' b = some o
  new : ∀ a, Live ι' objs' a → ¬ Live ι objs a → H a = none

section
variable {g : GE} {F : Addr → Prop} {ι ι' ι1 ι2 : List Addr} {H H' H1 H2 : Hp} {objs objs' objs1 objs2 : Objs} {A A' : Addr → Prop}
theorem Ext.refl : Ext ι objs H ι objs H := ⟨List.prefix_rfl, fun _ _ e _ => e, fun _ h n => absurd h n⟩
theorem Ext.trans (a : Ext ι objs H ι1 objs1 H1) (b : Ext ι1 objs1 H1 ι2 objs2 H2) : Ext ι objs H ι2 objs2 H2 where
  pre := a.pre.trans b.pre
  keep := fun c o e n => b.keep c o (a.keep c o e n) fun h => by rw [a.new c h n] at e; cases e
  new := fun c h n => by
    by_cases h1 : Live ι1 objs1 c
    · exact a.new c h1 n
    · have := b.new c h h1
      cases e : H c with
      | none => rfl
      | some o => rw [a.keep c o e n] at this; cases this
theorem Ext.get (e : Ext ι objs H ι1 objs1 H1) {i : Nat} {a : Addr} (h : ι[i]? = some a) : ι1[i]? = some a := by
  obtain ⟨t, rfl⟩ := e.pre
  rw [List.getElem?_append_left (List.getElem?_eq_some_iff.mp h).1]
  exact h
theorem Ext.off (e : Ext ι objs H ι1 objs1 H1) {a : Addr} {o : HO} (h : H a = some o) (n : ¬ Al F ι objs a) : ¬ Al F ι1 objs1 a := fun z => by
  rcases z with z | z
  · exact n (.inl z)
  · rw [e.new a z fun q => n (.inr q)] at h; cases h
theorem Ext.kp (e : Ext ι objs H ι1 objs1 H1) {a : Addr} {o : HO} (h : H a = some o) (n : ¬ Al F ι objs a) : H1 a = some o := e.keep _ _ h fun q => n (.inr q)

/-- what carries values from one heap to the next -/
structure Carry (A : Addr → Prop) (H : Hp) (A' : Addr → Prop) (H' : Hp) : Prop where
  kp : ∀ a o, H a = some o → ¬ A a → H' a = some o ∧ ¬ A' a
theorem Ext.carry (e : Ext ι objs H ι1 objs1 H1) : Carry (Al F ι objs) H (Al F ι1 objs1) H1 := ⟨fun _ _ h n => ⟨e.kp h n, e.off h n⟩⟩
mutual
theorem RV.car (e : Carry A H A' H') : ∀ (d : D) (v : V), RV g A H d v → RV g A' H' d v
  | .non, _, h => h
  | .bl _, _, h => h
  | .int _, _, h => h
  | .str _, _, h => h
  | .ty _, _, h => h
  | .glo _, _, h => h
  | .tup xs, v, h => by
    simp only [RV] at h ⊢
    obtain ⟨a, vs, h1, h2, h3, h4⟩ := h
    exact ⟨a, vs, h1, (e.kp _ _ h3 h2).2, (e.kp _ _ h3 h2).1, RVs.car e xs vs h4⟩
  | .lst xs, v, h => by
    simp only [RV] at h ⊢
    obtain ⟨a, vs, h1, h2, h3, h4⟩ := h
    exact ⟨a, vs, h1, (e.kp _ _ h3 h2).2, (e.kp _ _ h3 h2).1, RVs.car e xs vs h4⟩
  | .scr xs, v, h => by
    simp only [RV] at h ⊢
    obtain ⟨a, vs, h1, h2, h4⟩ := h
    refine ⟨a, vs, h1, ?_, RVs.car e xs vs h4⟩
    rcases h2 with ⟨h2, h3 | ⟨u, h3⟩⟩ | h2
    · exact .inl ⟨(e.kp _ _ h3 h2).2, .inl (e.kp _ _ h3 h2).1⟩
    · exact .inl ⟨(e.kp _ _ h3 h2).2, .inr ⟨u, (e.kp _ _ h3 h2).1⟩⟩
    · exact .inr h2
  | .dic ks ds, v, h => by
    simp only [RV] at h ⊢
    obtain ⟨a, kvs, h1, h2, h3, h4, h5⟩ := h
    exact ⟨a, kvs, h1, (e.kp _ _ h3 h2).2, (e.kp _ _ h3 h2).1, h4, RVs.car e ds _ h5⟩
  | .ins c ns ds, v, h => by
    simp only [RV] at h ⊢
    obtain ⟨a, C, dx, vs, h1, h2, h3, h4, h5, h6⟩ := h
    exact ⟨a, C, dx, vs, h1, (e.kp _ _ h4 h2).2, h3, (e.kp _ _ h4 h2).1, h5, RVs.car e ds vs h6⟩
theorem RVs.car (e : Carry A H A' H') : ∀ (ds : List D) (vs : List V), RVs g A H ds vs → RVs g A' H' ds vs
  | [], vs, h => by simpa only [RVs] using h
  | d :: ds, vs, h => by
    simp only [RVs] at h ⊢
    obtain ⟨v, r, h1, h2, h3⟩ := h
    exact ⟨v, r, h1, RV.car e d v h2, RVs.car e ds r h3⟩
end
theorem RV.ext {d : D} {v : V} (h : RV g (Al F ι objs) H d v) (e : Ext ι objs H ι1 objs1 H1) : RV g (Al F ι1 objs1) H1 d v := RV.car e.carry d v h
theorem RVs.ext {d : List D} {v : List V} (h : RVs g (Al F ι objs) H d v) (e : Ext ι objs H ι1 objs1 H1) : RVs g (Al F ι1 objs1) H1 d v := RVs.car e.carry d v h
theorem RAt.ext {i : Nat} {v : V} (h : RAt ι i v) (e : Ext ι objs H ι1 objs1 H1) : RAt ι1 i v := let ⟨a, x, y⟩ := h; ⟨a, e.get x, y⟩
theorem RW.ext {d : W} {v : V} (h : RW g ι (Al F ι objs) H d v) (e : Ext ι objs H ι1 objs1 H1) : RW g ι1 (Al F ι1 objs1) H1 d v := by
  cases d with
  | v d => exact RV.ext h e
  | o i => exact RAt.ext h e
theorem RVs.length : ∀ {ds : List D} {vs : List V}, RVs g A H ds vs → ds.length = vs.length
  | [], vs, h => by simp only [RVs] at h; simp [h]
  | d :: ds, vs, h => by
    simp only [RVs] at h
    obtain ⟨v, r, rfl, _, h3⟩ := h
    simp [RVs.length h3]
theorem RVs.get : ∀ {ds : List D} {vs : List V} {i : Nat} {d : D}, RVs g A H ds vs → ds[i]? = some d → ∃ v, vs[i]? = some v ∧ RV g A H d v
  | [], vs, i, d, h, e => by simp at e
  | d' :: ds, vs, 0, d, h, e => by
    simp only [RVs] at h
    obtain ⟨v, r, rfl, h2, h3⟩ := h
    simp at e; subst e
    exact ⟨v, by simp, h2⟩
  | d' :: ds, vs, i + 1, d, h, e => by
    simp only [RVs] at h
    obtain ⟨v, r, rfl, h2, h3⟩ := h
    obtain ⟨w, e1, e2⟩ := RVs.get (i := i) h3 (by simpa using e)
    exact ⟨w, by simpa using e1, e2⟩
theorem RVs.getV : ∀ {ds : List D} {vs : List V} {i : Nat} {v : V}, RVs g A H ds vs → vs[i]? = some v → ∃ d, ds[i]? = some d ∧ RV g A H d v
  | [], vs, i, d, h, e => by simp only [RVs] at h; subst h; simp at e
  | d' :: ds, vs, 0, d, h, e => by
    simp only [RVs] at h
    obtain ⟨v, r, rfl, h2, h3⟩ := h
    simp at e; subst e
    exact ⟨d', by simp, h2⟩
  | d' :: ds, vs, i + 1, d, h, e => by
    simp only [RVs] at h
    obtain ⟨v, r, rfl, h2, h3⟩ := h
    obtain ⟨w, e1, e2⟩ := RVs.getV (i := i) h3 (by simpa using e)
    exact ⟨w, by simpa using e1, e2⟩
theorem RVs.append : ∀ {ds es : List D} {vs us : List V}, RVs g A H ds vs → RVs g A H es us → RVs g A H (ds ++ es) (vs ++ us)
  | [], es, vs, us, h, k => by simp only [RVs] at h; subst h; simpa using k
  | d :: ds, es, vs, us, h, k => by
    simp only [RVs] at h
    obtain ⟨v, r, rfl, h2, h3⟩ := h
    simp only [List.cons_append, RVs]
    exact ⟨v, r ++ us, rfl, h2, RVs.append h3 k⟩
theorem RVs.take : ∀ {ds : List D} {vs : List V} (n : Nat), RVs g A H ds vs → RVs g A H (ds.take n) (vs.take n)
  | _, _, 0, _ => by simp [RVs]
  | [], vs, n + 1, h => by simp only [RVs] at h; subst h; simp [RVs]
  | d :: ds, vs, n + 1, h => by
    simp only [RVs] at h
    obtain ⟨v, r, rfl, h2, h3⟩ := h
    simp only [List.take_succ_cons, RVs]
    exact ⟨v, _, rfl, h2, RVs.take n h3⟩
theorem RVs.drop : ∀ {ds : List D} {vs : List V} (n : Nat), RVs g A H ds vs → RVs g A H (ds.drop n) (vs.drop n)
  | _, _, 0, h => by simpa using h
  | [], vs, n + 1, h => by simp only [RVs] at h; subst h; simp [RVs]
  | d :: ds, vs, n + 1, h => by
    simp only [RVs] at h
    obtain ⟨v, r, rfl, h2, h3⟩ := h
    simpa using RVs.drop n h3
theorem RVs.reverse : ∀ {ds : List D} {vs : List V}, RVs g A H ds vs → RVs g A H ds.reverse vs.reverse
  | [], vs, h => by simp only [RVs] at h; subst h; simp [RVs]
  | d :: ds, vs, h => by
    simp only [RVs] at h
    obtain ⟨v, r, rfl, h2, h3⟩ := h
    simp only [List.reverse_cons]
    exact (RVs.reverse h3).append (by simp only [RVs]; exact ⟨v, [], rfl, h2, rfl⟩)
theorem RVs.set : ∀ {ds : List D} {vs : List V} {i : Nat} {d : D} {v : V}, RVs g A H ds vs → RV g A H d v → RVs g A H (ds.set i d) (vs.set i v)
  | [], vs, i, d, v, h, k => by simp only [RVs] at h; subst h; simp [RVs]
  | d' :: ds, vs, 0, d, v, h, k => by
    simp only [RVs] at h
    obtain ⟨w, r, rfl, h2, h3⟩ := h
    simp only [List.set_cons_zero, RVs]
    exact ⟨v, r, rfl, k, h3⟩
  | d' :: ds, vs, i + 1, d, v, h, k => by
    simp only [RVs] at h
    obtain ⟨w, r, rfl, h2, h3⟩ := h
    simp only [List.set_cons_succ, RVs]
    exact ⟨w, _, rfl, h2, RVs.set h3 k⟩
theorem RVs.one {d : D} {v : V} (h : RV g A H d v) : RVs g A H [d] [v] := by simp only [RVs]; exact ⟨v, [], rfl, h, rfl⟩
theorem RVs.rep {ds : List D} {vs : List V} (h : RVs g A H ds vs) : ∀ n : Nat, RVs g A H (List.replicate n ds).flatten (List.replicate n vs).flatten
  | 0 => by simp [RVs]
  | n + 1 => by simp only [List.replicate_succ, List.flatten_cons]; exact h.append (RVs.rep h n)
theorem RO.ext (e : Ext ι objs H ι1 objs1 H1) {o : MO} {a : Addr} (n : ∀ u, H a = some u → H1 a = some u) (h : RO g ι (Al F ι objs) H o a) : RO g ι1 (Al F ι1 objs1) H1 o a := by
  cases o with
  | lst xs => exact let ⟨vs, h, r⟩ := h; ⟨vs, n _ h, r.ext e⟩
  | lol is => exact let ⟨vs, h, r⟩ := h; ⟨vs, n _ h, Paired.mapP r fun _ _ q => q.ext e⟩
  | dic ks ds => exact let ⟨kvs, h, k, r⟩ := h; ⟨kvs, n _ h, k, r.ext e⟩
  | ins c ns ds => exact let ⟨C, dx, vs, c1, h, k, r⟩ := h; ⟨C, dx, vs, c1, n _ h, k, r.ext e⟩
theorem RO.some {o : MO} {a : Addr} (h : RO g ι A H o a) : ∃ u, H a = Option.some u := by
  cases o with
  | lst xs => exact let ⟨vs, h, _⟩ := h; ⟨_, h⟩
  | lol xs => exact let ⟨vs, h, _⟩ := h; ⟨_, h⟩
  | dic ks ds => exact let ⟨_, h, _⟩ := h; ⟨_, h⟩
  | ins c ns ds => exact let ⟨_, _, _, _, h, _⟩ := h; ⟨_, h⟩
theorem Rel.has (r : Rel g F ι H objs) {a : Addr} (h : a ∈ ι) : ∃ u, H a = some u := by
  obtain ⟨i, hi, e⟩ := List.getElem_of_mem h
  have : i < objs.length := by rw [← r.len]; exact hi
  exact (r.at_ i a objs[i] (by rw [List.getElem?_eq_getElem hi, e]) (List.getElem?_eq_getElem this)).some
theorem Rel.fresh (r : Rel g F ι H objs) {p : Addr} (h : H p = none) : p ∉ ι := fun z => by
  obtain ⟨u, e⟩ := r.has z
  rw [h] at e; cases e
theorem Rel.freshF (r : Rel g F ι H objs) {p : Addr} (h : H p = none) : ¬ F p := fun z => by
  obtain ⟨⟨u, e⟩, _⟩ := r.out p z
  rw [h] at e; cases e
theorem Live.mem {a : Addr} (h : Live ι objs a) : a ∈ ι := let ⟨_, _, e, _⟩ := h; List.mem_of_getElem? e
theorem Rel.off (r : Rel g F ι H objs) {p : Addr} (h : H p = none) : ¬ Al F ι objs p := fun z => z.elim (r.freshF h) fun z => r.fresh h z.mem
theorem Rel.idx (r : Rel g F ι H objs) {i j : Nat} {a : Addr} (h : ι[i]? = some a) (k : ι[j]? = some a) : i = j := by
  have h1 := (List.getElem?_eq_some_iff.mp h)
  have h2 := (List.getElem?_eq_some_iff.mp k)
  exact (List.getElem_inj r.nd).mp (h1.2.trans h2.2.symm)
/-- a new thing that is not of the store -/
theorem Ext.upd_new {p : Addr} {o : HO} (h : H p = none) : Ext ι objs H ι objs (upd H p o) :=
  ⟨List.prefix_rfl, fun b u e _ => by rw [upd_ne (ne_of_none e h)]; exact e, fun _ z n => absurd z n⟩
theorem Rel.upd_new (r : Rel g F ι H objs) {p : Addr} {o : HO} (h : H p = none) : Rel g F ι (upd H p o) objs where
  nd := r.nd
  len := r.len
  at_ := fun i a ob e1 e2 => (r.at_ i a ob e1 e2).ext (Ext.upd_new h) fun u e => by rw [upd_ne (ne_of_none e h)]; exact e
  out := fun a z => by
    obtain ⟨⟨u, e⟩, n⟩ := r.out a z
    exact ⟨⟨u, by rw [upd_ne (ne_of_none e h)]; exact e⟩, n⟩
/-- a new thing of the store -/
theorem Ext.alloc (r : Rel g F ι H objs) {p : Addr} {o : HO} {m : MO} (h : H p = none) : Ext ι objs H (ι ++ [p]) (objs ++ [⟨true, m⟩]) (upd H p o) :=
  ⟨List.prefix_append _ _, fun b u e _ => by rw [upd_ne (ne_of_none e h)]; exact e, fun a z n => by
    obtain ⟨i, u, e1, e2⟩ := z
    by_cases hi : i < ι.length
    · rw [List.getElem?_append_left hi] at e1
      rw [List.getElem?_append_left (by rw [← r.len]; exact hi)] at e2
      exact absurd ⟨i, u, e1, e2⟩ n
    · have e : i = ι.length := by
        have := (List.getElem?_eq_some_iff.mp e1).1
        simp at this; omega
      subst e
      simp at e1
      rw [← e1]; exact h⟩
theorem Rel.alloc (r : Rel g F ι H objs) {p : Addr} {o : HO} {m : MO} (h : H p = none) (q : RO g (ι ++ [p]) (Al F (ι ++ [p]) (objs ++ [⟨true, m⟩])) (upd H p o) m p) : Rel g F (ι ++ [p]) (upd H p o) (objs ++ [⟨true, m⟩]) where
  nd := by
    rw [List.nodup_append]
    refine ⟨r.nd, by simp, fun a ha b hb e => ?_⟩
    rw [List.mem_singleton.mp hb] at e
    exact r.fresh h (e ▸ ha)
  len := by simp [r.len]
  at_ := fun i a ob e1 e2 => by
    by_cases hi : i < ι.length
    · rw [List.getElem?_append_left hi] at e1
      rw [List.getElem?_append_left (by rw [← r.len]; exact hi)] at e2
      exact (r.at_ i a ob e1 e2).ext (Ext.alloc r h) fun u e => by rw [upd_ne (ne_of_none e h)]; exact e
    · have e : i = ι.length := by
        have := (List.getElem?_eq_some_iff.mp e1).1
        simp at this; omega
      subst e
      simp at e1
      rw [r.len] at e2
      simp at e2
      subst e1 e2
      exact q
  out := fun a z => by
    obtain ⟨⟨u, e⟩, n⟩ := r.out a z
    refine ⟨⟨u, by rw [upd_ne (ne_of_none e h)]; exact e⟩, fun k => ?_⟩
    rcases List.mem_append.mp k with k | k
    · exact n k
    · rw [List.mem_singleton.mp k, h] at e; cases e
theorem set_get {i j : Nat} {m u : Ent} (h : (objs.set i m)[j]? = some u) : (j = i ∧ u = m) ∨ (j ≠ i ∧ objs[j]? = some u) := by
  by_cases hj : j = i
  · subst hj
    have : j < objs.length := by
      have := (List.getElem?_eq_some_iff.mp h).1
      simpa using this
    rw [List.getElem?_set_self this] at h
    exact .inl ⟨rfl, (Option.some.inj h).symm⟩
  · rw [List.getElem?_set_ne (Ne.symm hj)] at h
    exact .inr ⟨hj, h⟩
/-- a thing of the store changed -/
theorem Ext.set {i : Nat} {a : Addr} {o : HO} {m m' : MO} (r : Rel g F ι H objs) (hi : ι[i]? = some a) (ho : objs[i]? = some ⟨true, m⟩) : Ext ι objs H ι (objs.set i ⟨true, m'⟩) (upd H a o) :=
  ⟨List.prefix_rfl, fun b u e n => by rw [upd_ne (show b ≠ a from fun z => n (by rw [z]; exact ⟨i, m, hi, ho⟩))]; exact e, fun b z n => by
    obtain ⟨j, u, e1, e2⟩ := z
    rcases set_get e2 with ⟨rfl, _⟩ | ⟨hj, e2⟩
    · exact absurd ⟨j, m, e1, ho⟩ n
    · exact absurd ⟨j, u, e1, e2⟩ n⟩
theorem Rel.set (r : Rel g F ι H objs) {i : Nat} {a : Addr} {o : HO} {m m' : MO} (hi : ι[i]? = some a) (ho : objs[i]? = some ⟨true, m⟩) (q : RO g ι (Al F ι (objs.set i ⟨true, m'⟩)) (upd H a o) m' a) : Rel g F ι (upd H a o) (objs.set i ⟨true, m'⟩) where
  nd := r.nd
  len := by simp [r.len]
  at_ := fun j b ob e1 e2 => by
    rcases set_get e2 with ⟨rfl, rfl⟩ | ⟨hj, e2⟩
    · rw [hi] at e1; cases e1
      exact q
    · refine (r.at_ j b ob e1 e2).ext (Ext.set r hi ho) fun u e => ?_
      rw [upd_ne (show b ≠ a from fun z => hj (r.idx (z ▸ e1) hi))]
      exact e
  out := fun b z => by
    obtain ⟨⟨u, e⟩, n⟩ := r.out b z
    exact ⟨⟨u, by rw [upd_ne (show b ≠ a from fun k => n (k ▸ List.mem_of_getElem? hi))]; exact e⟩, n⟩
/-- a thing of the store that is not changed any more -/
theorem Ext.freeze {i : Nat} {e : Ent} (ho : objs[i]? = some e) : Ext ι objs H ι (objs.set i ⟨false, e.ob⟩) H :=
  ⟨List.prefix_rfl, fun b u e n => e, fun b z n => by
    obtain ⟨j, u, e1, e2⟩ := z
    rcases set_get e2 with ⟨rfl, k⟩ | ⟨hj, e2⟩
    · cases k
    · exact absurd ⟨j, u, e1, e2⟩ n⟩
theorem Rel.freeze (r : Rel g F ι H objs) {i : Nat} {e : Ent} (ho : objs[i]? = some e) : Rel g F ι H (objs.set i ⟨false, e.ob⟩) where
  nd := r.nd
  len := by simp [r.len]
  at_ := fun j b ob e1 e2 => by
    rcases set_get e2 with ⟨rfl, rfl⟩ | ⟨hj, e2⟩
    · exact (r.at_ j b e e1 ho).ext (Ext.freeze ho) fun u e => e
    · exact (r.at_ j b ob e1 e2).ext (Ext.freeze ho) fun u e => e
  out := r.out
theorem Rel.dead (r : Rel g F ι H objs) {i : Nat} {a : Addr} {m : MO} (hi : ι[i]? = some a) (ho : objs[i]? = some ⟨false, m⟩) : ¬ Al F ι objs a := fun z => by
  rcases z with z | ⟨j, u, e1, e2⟩
  · exact (r.out a z).2 (List.mem_of_getElem? hi)
  · have := r.idx hi e1
    subst this
    rw [ho] at e2; cases e2
end
end RR

set_option maxHeartbeats 4000000
namespace RR
open PySem PySem.Spec PyProof.Rows L2

/-! ### what is wanted behind an evaluation -/
def Post (g : GE) (F : Addr → Prop) (ι : List Addr) (objs : Objs) (H : Hp) (r : R W) (Q : VK) : Prop :=
  match r with
  | .ok w objs' => ∀ v ι' H', Rel g F ι' H' objs' → Ext ι objs H ι' objs' H' → RW g ι' (Al F ι' objs') H' w v → Q v H'
  | .exc _ _ => False
  | .stuck => False
/-- the same of lists of things -/
def RWs (g : GE) (ι : List Addr) (A : Addr → Prop) (H : Hp) : List W → List V → Prop := Paired (RW g ι A H)
def PostL (g : GE) (F : Addr → Prop) (ι : List Addr) (objs : Objs) (H : Hp) (r : R (List W)) (Q : List V → Hp → Prop) : Prop :=
  match r with
  | .ok w objs' => ∀ v ι' H', Rel g F ι' H' objs' → Ext ι objs H ι' objs' H' → RWs g ι' (Al F ι' objs') H' w v → Q v H'
  | .exc _ _ => False
  | .stuck => False
section
variable {g : GE} {F : Addr → Prop} {ι ι' ι1 ι2 : List Addr} {H H' H1 H2 : Hp} {objs objs' objs1 objs2 : Objs} {A A' : Addr → Prop}
theorem Post.at {r : R W} {Q : VK} (p : Post g F ι objs H r Q) (e : Ext ι objs H ι1 objs1 H1) : Post g F ι1 objs1 H1 r Q := by
  cases r with
  | ok w o => exact fun v ι' H' rl ex rw => p v ι' H' rl (e.trans ex) rw
  | exc _ _ => exact p
  | stuck => exact p
theorem PostL.at {r : R (List W)} {Q : List V → Hp → Prop} (p : PostL g F ι objs H r Q) (e : Ext ι objs H ι1 objs1 H1) : PostL g F ι1 objs1 H1 r Q := by
  cases r with
  | ok w o => exact fun v ι' H' rl ex rw => p v ι' H' rl (e.trans ex) rw
  | exc _ _ => exact p
  | stuck => exact p
theorem Post.bind {α : Type} {r : R α} {f : α → Objs → R W} {Q : VK} (p : Post g F ι objs H (r.bind f) Q) : ∃ a o, r = .ok a o ∧ Post g F ι objs H (f a o) Q := by
  cases r with
  | ok w o => exact ⟨w, o, rfl, p⟩
  | exc _ _ => exact p.elim
  | stuck => exact p.elim
theorem PostL.bind {α : Type} {r : R α} {f : α → Objs → R (List W)} {Q : List V → Hp → Prop} (p : PostL g F ι objs H (r.bind f) Q) : ∃ a o, r = .ok a o ∧ PostL g F ι objs H (f a o) Q := by
  cases r with
  | ok w o => exact ⟨w, o, rfl, p⟩
  | exc _ _ => exact p.elim
  | stuck => exact p.elim
theorem Post.ok {w : W} {Q : VK} {v : V} (p : Post g F ι objs H (.ok w objs) Q) (r : Rel g F ι H objs) (h : RW g ι (Al F ι objs) H w v) : Q v H := p v ι H r .refl h
/-- a value that is no thing of the heap -/
theorem Post.flat {d : D} {Q : VK} {v : V} (p : Post g F ι objs H (.ok (.v d) objs) Q) (r : Rel g F ι H objs) (h : RV g (Al F ι objs) H d v) : Q v H := p v ι H r .refl h
/-- a new thing of the heap -/
theorem Post.fresh {d : D} {Q : VK} {p : Addr} {o : HO} (q : Post g F ι objs H (.ok (.v d) objs) Q) (r : Rel g F ι H objs) (h : H p = none) (k : RV g (Al F ι objs) (upd H p o) d (.ref p)) : Q (.ref p) (upd H p o) :=
  q _ ι _ (r.upd_new h) (Ext.upd_new h) k
theorem RVs.up {p : Addr} {o : HO} {ds : List D} {vs : List V} (h : RVs g (Al F ι objs) H ds vs) (n : H p = none) : RVs g (Al F ι objs) (upd H p o) ds vs := h.ext (Ext.upd_new n)
theorem Post.freshT {ds : List D} {vs : List V} {Q : VK} {p : Addr} (q : Post g F ι objs H (.ok (.v (.tup ds)) objs) Q) (r : Rel g F ι H objs) (h : H p = none) (k : RVs g (Al F ι objs) H ds vs) : Q (.ref p) (upd H p (.tup vs)) :=
  q.fresh r h (by simp only [RV]; exact ⟨p, vs, rfl, r.off h, upd_same, k.up h⟩)
theorem Post.freshL {ds : List D} {vs : List V} {Q : VK} {p : Addr} (q : Post g F ι objs H (.ok (.v (.lst ds)) objs) Q) (r : Rel g F ι H objs) (h : H p = none) (k : RVs g (Al F ι objs) H ds vs) : Q (.ref p) (upd H p (.lst vs)) :=
  q.fresh r h (by simp only [RV]; exact ⟨p, vs, rfl, r.off h, upd_same, k.up h⟩)
/-- a new list of the store -/
theorem Post.freshM {ds : List D} {vs : List V} {Q : VK} {p : Addr} (q : Post g F ι objs H (.ok (.o objs.length) (objs ++ [⟨true, .lst ds⟩])) Q) (r : Rel g F ι H objs) (h : H p = none) (k : RVs g (Al F ι objs) H ds vs) : Q (.ref p) (upd H p (.lst vs)) := by
  refine q _ (ι ++ [p]) _ (r.alloc h ⟨vs, upd_same, k.ext (Ext.alloc r h)⟩) (Ext.alloc r h) ⟨p, ?_, rfl⟩
  rw [← r.len]; simp
end

/-! ### reading sequences -/
/-- the items of a list or tuple, of a list of the store with plain items -/
def seqW (objs : Objs) : W → Option (List D)
  | .v (.tup xs) => some xs
  | .v (.lst xs) => some xs
  | .v (.scr xs) => some xs
  | .o i => match objs[i]? with
    | some ⟨_, .lst xs⟩ => some xs
    | _ => none
  | _ => none
/-- .. a tracked list -/
def lstW (objs : Objs) : W → Option (List D)
  | .v (.lst xs) => some xs
  | .o i => match objs[i]? with
    | some ⟨_, .lst xs⟩ => some xs
    | _ => none
  | _ => none
section
variable {g : GE} {F : Addr → Prop} {ι ι' ι1 ι2 : List Addr} {H H' H1 H2 : Hp} {objs objs' objs1 objs2 : Objs} {A A' : Addr → Prop}
theorem lstW_ok {w : W} {v : V} {xs : List D} (r : Rel g F ι H objs) (h : RW g ι (Al F ι objs) H w v) (e : lstW objs w = some xs) : ∃ a vs, v = .ref a ∧ H a = some (.lst vs) ∧ RVs g (Al F ι objs) H xs vs := by
  cases w with
  | v d =>
    cases d <;> simp only [lstW, Option.some.injEq, reduceCtorEq] at e
    subst e
    simp only [RW, RV] at h
    obtain ⟨a, vs, h1, h2, h3, h4⟩ := h
    exact ⟨a, vs, h1, h3, h4⟩
  | o i =>
    obtain ⟨a, h1, h2⟩ := h
    simp only [lstW] at e
    split at e
    · rename_i b ys hs
      cases e
      obtain ⟨vs, h3, h4⟩ := r.at_ i a _ h1 hs
      exact ⟨a, vs, h2, h3, h4⟩
    · cases e
theorem seqW_ok {w : W} {v : V} {xs : List D} (r : Rel g F ι H objs) (h : RW g ι (Al F ι objs) H w v) (e : seqW objs w = some xs) : ∃ a vs, v = .ref a ∧ (SqL g.K H a vs ∨ SqT g.K H a vs) ∧ RVs g (Al F ι objs) H xs vs := by
  cases w with
  | v d =>
    cases d <;> simp only [seqW, Option.some.injEq, reduceCtorEq] at e
    · subst e
      simp only [RW, RV] at h
      obtain ⟨a, vs, h1, h2, h3, h4⟩ := h
      exact ⟨a, vs, h1, .inr (SqT.of h3), h4⟩
    · subst e
      simp only [RW, RV] at h
      obtain ⟨a, vs, h1, h2, h3, h4⟩ := h
      exact ⟨a, vs, h1, .inl (SqL.of h3), h4⟩
    · subst e
      simp only [RW, RV] at h
      obtain ⟨a, vs, h1, h2, h4⟩ := h
      refine ⟨a, vs, h1, .inl ?_, h4⟩
      rcases h2 with ⟨_, h2⟩ | h2
      · exact .inl h2
      · exact .inr h2
  | o i =>
    have e' : lstW objs (.o i) = some xs := e
    obtain ⟨a, vs, h1, h2, h3⟩ := lstW_ok r h e'
    exact ⟨a, vs, h1, .inl (SqL.of h2), h3⟩
end

/-! ### data that are compared as a whole -/
mutual
def py : D → PyData
  | .non => .none
  | .bl b => .bool b
  | .int i => .int i
  | .str x => .str x
  | .tup xs => .tuple (pys xs)
  | .lst xs => .list (pys xs)
  | .scr xs => .list (pys xs)
  | .dic _ _ => .dict []
  | .ins _ _ _ => .dict []
  | .ty _ => .dict []
  | .glo _ => .dict []
def pys : List D → List PyData
  | [] => []
  | d :: ds => py d :: pys ds
end
/-- a thing as data -/
def pyW (objs : Objs) : W → PyData
  | .v d => py d
  | .o i => match objs[i]? with
    | some ⟨_, .lst xs⟩ => .list (pys xs)
    | _ => .dict []
section
variable {g : GE} {F : Addr → Prop} {ι ι' ι1 ι2 : List Addr} {H H' H1 H2 : Hp} {objs objs' objs1 objs2 : Objs} {A A' : Addr → Prop}
mutual
theorem RV.dp : ∀ (d : D) (v : V), RV g A H d v → (py d).canLay0 = true → Dp g.K H v (py d)
  | .non, v, h, c => by simp only [RV] at h; subst h; exact .non
  | .bl b, v, h, c => by simp only [RV] at h; subst h; exact .bl b
  | .int i, v, h, c => by simp only [RV] at h; subst h; exact .int i
  | .str x, v, h, c => by simp only [RV] at h; subst h; exact .str x
  | .tup xs, v, h, c => by
    simp only [RV] at h
    obtain ⟨a, vs, h1, h2, h3, h4⟩ := h
    subst h1
    simp only [py] at c ⊢
    exact .tup (SqT.of h3) (RVs.dp xs vs h4 (by simpa [PyData.canLay0] using c))
  | .lst xs, v, h, c => by
    simp only [RV] at h
    obtain ⟨a, vs, h1, h2, h3, h4⟩ := h
    subst h1
    simp only [py] at c ⊢
    exact .lst (SqL.of h3) (RVs.dp xs vs h4 (by simpa [PyData.canLay0] using c))
  | .scr xs, v, h, c => by
    simp only [RV] at h
    obtain ⟨a, vs, h1, h2, h4⟩ := h
    subst h1
    simp only [py] at c ⊢
    refine .lst ?_ (RVs.dp xs vs h4 (by simpa [PyData.canLay0] using c))
    rcases h2 with ⟨_, h2⟩ | h2
    · exact .inl h2
    · exact .inr h2
  | .dic _ _, v, h, c => by simp [py, PyData.canLay0] at c
  | .ins _ _ _, v, h, c => by simp [py, PyData.canLay0] at c
  | .ty _, v, h, c => by simp [py, PyData.canLay0] at c
  | .glo _, v, h, c => by simp [py, PyData.canLay0] at c
theorem RVs.dp : ∀ (ds : List D) (vs : List V), RVs g A H ds vs → PyData.canLayAll0 (pys ds) = true → DpAll g.K H vs (pys ds)
  | [], vs, h, c => by simp only [RVs] at h; subst h; exact .nil
  | d :: ds, vs, h, c => by
    simp only [RVs] at h
    obtain ⟨v, r, rfl, h2, h3⟩ := h
    simp only [pys, PyData.canLayAll0, Bool.and_eq_true] at c ⊢
    exact .cons (RV.dp d v h2 c.1) (RVs.dp ds r h3 c.2)
end
theorem RW.dp {w : W} {v : V} (r : Rel g F ι H objs) (h : RW g ι (Al F ι objs) H w v) (c : (pyW objs w).canLay0 = true) : Dp g.K H v (pyW objs w) := by
  cases w with
  | v d => exact RV.dp d v h c
  | o i =>
    obtain ⟨a, h1, rfl⟩ := h
    simp only [pyW] at c ⊢
    split at c
    · rename_i b xs hs
      obtain ⟨vs, h3, h4⟩ := r.at_ i a _ h1 hs
      exact .lst (SqL.of h3) (RVs.dp xs vs h4 (by simpa [PyData.canLay0] using c))
    · simp [PyData.canLay0] at c
end
end RR

set_option maxHeartbeats 4000000
namespace RR
open PySem PySem.Spec PyProof.Rows L2
abbrev gX (X : Cx) : GE := ⟨X.K, X.mg⟩
def rW2 (g : GE) (f : W → W → Objs → R W) : R2 := fun x y H Q => ∃ F ι objs w1 w2, Rel g F ι H objs ∧ RW g ι (Al F ι objs) H w1 x ∧ RW g ι (Al F ι objs) H w2 y ∧ Post g F ι objs H (f w1 w2 objs) Q
def rW1 (g : GE) (f : W → Objs → R W) : V → Hp → VK → Prop := fun x H Q => ∃ F ι objs w1, Rel g F ι H objs ∧ RW g ι (Al F ι objs) H w1 x ∧ Post g F ι objs H (f w1 objs) Q

/-! ### + -/
def addW (a b : W) (o : Objs) : R W :=
  match a, b with
  | .v (.int i), .v (.int j) => .ok (.v (.int (i + j))) o
  | .v (.str x), .v (.str y) => if x.length + y.length ≤ sizeLine then .ok (.v (.str (x ++ y))) o else .stuck
  | .v (.tup xs), .v (.tup ys) => if xs.length + ys.length ≤ sizeLine then .ok (.v (.tup (xs ++ ys))) o else .stuck
  | a, b => match lstW o a, lstW o b with
    | some xs, some ys => if xs.length + ys.length ≤ sizeLine then .ok (.v (.lst (xs ++ ys))) o else .stuck
    | _, _ => .stuck
section
variable {X : Cx}
theorem Post.not_stuck {g : GE} {F : Addr → Prop} {ι : List Addr} {objs : Objs} {H : Hp} {Q : VK} (p : Post g F ι objs H .stuck Q) : False := p
theorem or_add : OpR X (binaryOp .Add) (rW2 (gX X) addW) := by
  intro pins s σ H x y v u Q I rx ry ⟨F, ι, objs, w1, w2, rel, h1, h2, p⟩
  unfold addW at p
  split at p
  · simp only [RW, RV] at h1 h2
    subst h1 h2
    exact op_add pins s σ H _ _ v u Q I rx ry ⟨_, _, rfl, rfl, p.flat rel rfl⟩
  · split at p
    · rename_i hz
      simp only [RW, RV] at h1 h2
      subst h1 h2
      exact op_add_str pins s σ H _ _ v u Q I rx ry ⟨_, _, rfl, rfl, hz, p.flat rel rfl⟩
    · exact p.elim
  · split at p
    · rename_i hz
      simp only [RW, RV] at h1 h2
      obtain ⟨a, vs, rfl, n1, e1, k1⟩ := h1
      obtain ⟨b, us, rfl, n2, e2, k2⟩ := h2
      refine op_catA pins s σ H _ _ v u Q I rx ry ⟨a, b, vs, us, rfl, rfl, SqT.of e1, SqT.of e2, ?_, fun e => ?_, fun _ e => ?_, fun _ _ q hq => ?_⟩
      · rw [← k1.length, ← k2.length]; exact hz
      · subst e
        have := k1.length
        rw [List.length_nil, List.length_eq_zero_iff] at this
        subst this
        refine p.flat rel ?_
        simp only [List.nil_append, RV]
        exact ⟨b, us, rfl, n2, e2, k2⟩
      · subst e
        have := k2.length
        rw [List.length_nil, List.length_eq_zero_iff] at this
        subst this
        refine p.flat rel ?_
        simp only [List.append_nil, RV]
        exact ⟨a, vs, rfl, n1, e1, k1⟩
      · exact p.freshT rel hq (k1.append k2)
    · exact p.elim
  · split at p
    · rename_i l1 l2
      split at p
      · rename_i hz
        obtain ⟨a, vs, rfl, e1, k1⟩ := lstW_ok rel h1 l1
        obtain ⟨b, us, rfl, e2, k2⟩ := lstW_ok rel h2 l2
        exact op_cat pins s σ H _ _ v u Q I rx ry ⟨a, b, vs, us, rfl, rfl, e1, e2, by rw [← k1.length, ← k2.length]; exact hz, fun q hq => p.freshL rel hq (k1.append k2)⟩
      · exact p.elim
    · exact p.elim

/-! ### - * // % ** -/
def subW (a b : W) (o : Objs) : R W :=
  match a, b with
  | .v (.int i), .v (.int j) => .ok (.v (.int (i - j))) o
  | _, _ => .stuck
theorem or_sub : OpR X (binaryOp .Sub) (rW2 (gX X) subW) := by
  intro pins s σ H x y v u Q I rx ry ⟨F, ι, objs, w1, w2, rel, h1, h2, p⟩
  unfold subW at p
  split at p
  · simp only [RW, RV] at h1 h2
    subst h1 h2
    exact op_sub pins s σ H _ _ v u Q I rx ry ⟨_, _, rfl, rfl, p.flat rel rfl⟩
  · exact p.elim
instance (i j : Int) : Decidable (CMul i j) := by unfold CMul; infer_instance
instance (i j : Int) : Decidable (CMulX i j) := by unfold CMulX; infer_instance
instance (i j : Int) : Decidable (CDiv i j) := by unfold CDiv; infer_instance
instance (i j : Int) : Decidable (CDivW i j) := by unfold CDivW; infer_instance
instance (i j : Int) : Decidable (CPow i j) := by unfold CPow; infer_instance
def repS (x : Str) (n : Nat) : Str := ⟨(List.replicate n x.cps.toList).flatten.toArray⟩
def mulW (a b : W) (o : Objs) : R W :=
  match a, b with
  | .v (.int i), .v (.int j) => if CMul i j ∨ CMulX i j then .ok (.v (.int (i * j))) o else .stuck
  | .v (.str x), .v (.int k) => if 0 ≤ k ∧ k ≤ 1000000 ∧ x.length * k.toNat ≤ sizeLine then .ok (.v (.str (repS x k.toNat))) o else .stuck
  | .v (.tup xs), .v (.int k) => if xs ≠ [] ∧ 1 ≤ k ∧ k ≤ 1000 ∧ xs.length ≤ 1000 then .ok (.v (.tup (List.replicate k.toNat xs).flatten)) o else .stuck
  | a, .v (.int k) => match lstW o a with
    | some xs => if -(2 ^ 63) ≤ k ∧ k < 2 ^ 63 ∧ xs.length * k.toNat ≤ sizeLine then .ok (.v (.lst (List.replicate k.toNat xs).flatten)) o else .stuck
    | _ => .stuck
  | _, _ => .stuck
theorem repS_length (x : Str) (n : Nat) : (repS x n).length = x.length * n := by
  unfold repS Str.length
  induction n with
  | zero => simp
  | succ n ih =>
    simp only [List.size_toArray] at ih ⊢
    rw [List.replicate_succ, List.flatten_cons, List.length_append, ih, Nat.mul_succ]
    simp only [Array.length_toList]
    omega
theorem foldl_app : ∀ (n : Nat) (x acc : Array Nat), (List.replicate n x).foldl (· ++ ·) acc = acc ++ (List.replicate n x.toList).flatten.toArray
  | 0, x, acc => by simp
  | n + 1, x, acc => by
    rw [List.replicate_succ, List.foldl_cons, foldl_app n x, List.replicate_succ, List.flatten_cons]
    apply Array.ext'
    simp
theorem tuple_mul1 (l : Addr) (items : Array Value) (n : Nat) (dd : Option Addr) (sl : Array (Option Value)) (u : Tok) :
    Meets (Builtin.«tuple.__mul__» ⟨[.ref l, .int 1 u], []⟩) (fun _ R s => s.heap.get? l = some { cls := .type "tuple", dict := dd, data := .seq items n, slots := sl } ∧ R (.ok (.ret (Value.ref l))) s) :=
  .of_wp fun prog w A R s h => by
    obtain ⟨hp, g, d, tk, os⟩ := s
    obtain ⟨hl, h⟩ := h
    have f1 := AutoSeq1.idx_int
    wp_walk using wpAny_loadPart' hl
    exact ⟨_, rfl, h⟩
theorem op_repT1 : OpR X (binaryOp .Mult) (fun x y H Q => ∃ l xs, x = .ref l ∧ y = .int 1 ∧ SqT X.K H l xs ∧ Q (.ref l) H) := by
  intro pins s σ H x y v u Q I rx ry h
  obtain ⟨l, xs, rfl, rfl, hT, q⟩ := h
  cases rx
  obtain ⟨t, rfl⟩ := ry
  obtain ⟨its, r, ⟨⟨cls, dd, data, sl⟩, ho, hc, n, hd⟩, hs⟩ := I.tuple hT
  simp only at hc hd
  subst hc hd
  refine wpAny_binaryOp_repeat_ref (T := "tuple") (U := "int") (by decide) ⟨_, ho, rfl⟩ (fun s' => typeIs_int s' 1 t) noFill_tuple_mul F.fills_int_mul F.slot_int_rmul repeat_tuple F.slot_int_index.lookup
    (call_meets F.slot_int_rmul (typeIs_int s 1 t) F.entry_int_rmul (F.args_int_rmul_2 _ _) (int_rmul_tuple 1 t l its.toArray n dd sl)
      ⟨ho, rfl, ⟨_, ho, rfl⟩, call_meets F.slot_tuple_mul ⟨_, ho, rfl⟩ F.entry_tuple_mul (F.args_tuple_mul_2 _ _) (tuple_mul1 l its.toArray n dd sl t) ⟨ho, ?_⟩⟩)
  exact ⟨.ref l, H, I, rfl, q⟩
theorem op_mul_str : OpR X (binaryOp .Mult) (fun x y H Q => ∃ z k, x = .str z ∧ y = .int k ∧ (0 ≤ k ∧ k ≤ 1000000 ∧ z.length * k.toNat ≤ sizeLine) ∧ Q (.str (repS z k.toNat)) H) := by
  intro pins s σ H x y v u Q I rx ry h
  obtain ⟨z, k, rfl, rfl, ⟨h0, h1, h2⟩, q⟩ := h
  obtain ⟨t, rfl⟩ := rx
  obtain ⟨t', rfl⟩ := ry
  refine P.mul_str ?_ (fun h3 h4 => ?_) (fun h3 h4 => ?_) ?_
  · rw [decide_eq_false (by omega), decide_eq_false (by omega)]; rfl
  · have : ((2 ^ 63 - 1) / k : Int) ≥ 1000000000 := by
      rw [ge_iff_le, Int.le_ediv_iff_mul_le (by omega)]
      have : 1000000000 * k ≤ 1000000000 * 1000000 := Int.mul_le_mul_of_nonneg_left h1 (by decide)
      omega
    have h5 : z.length ≤ sizeLine := by
      refine Nat.le_trans ?_ h2
      exact Nat.le_mul_of_pos_right _ (by omega)
    rw [sizeLine_eq] at h5
    omega
  · unfold Builtin.Str.tooLong
    rw [decide_eq_false]
    omega
  · by_cases h3 : k < 1
    · rw [if_pos h3]
      have : k = 0 := by omega
      subst this
      exact ⟨by decide, .str _, H, I.tok _, ⟨_, rfl⟩, q⟩
    · rw [if_neg h3]
      by_cases h4 : (k == 1 || z.length == 0) = true
      · rw [if_pos h4]
        have e : repS z k.toNat = z := by
          unfold repS
          have : k = 1 ∨ z.length = 0 := by simpa using h4
          rcases this with rfl | h5
          · simp
          · have : z.cps.toList = [] := by
              apply List.eq_nil_of_length_eq_zero
              simpa [Str.length] using h5
            have e2 : z.cps = #[] := by simpa using this
            cases z with | mk c => simp at e2; subst e2; simp
        rw [e] at q
        exact ⟨.str _, H, I, ⟨_, rfl⟩, q⟩
      · rw [if_neg h4]
        have e : (⟨(List.replicate k.toNat z.cps).foldl (· ++ ·) #[]⟩ : Str) = repS z k.toNat := by
          rw [foldl_app]; unfold repS; simp
        rw [e]
        refine ⟨?_, .str _, H, I.tok _, ⟨_, rfl⟩, q⟩
        rw [repS_length]; exact h2
theorem or_mul : OpR X (binaryOp .Mult) (rW2 (gX X) mulW) := by
  intro pins s σ H x y v u Q I rx ry ⟨F, ι, objs, w1, w2, rel, h1, h2, p⟩
  unfold mulW at p
  split at p
  · split at p
    · rename_i hc
      simp only [RW, RV] at h1 h2
      subst h1 h2
      rcases hc with hc | hc
      · exact op_mul pins s σ H _ _ v u Q I rx ry ⟨_, _, rfl, rfl, hc, p.flat rel rfl⟩
      · exact op_mulX pins s σ H _ _ v u Q I rx ry ⟨_, _, rfl, rfl, hc, p.flat rel rfl⟩
    · exact p.elim
  · split at p
    · rename_i hc
      simp only [RW, RV] at h1 h2
      subst h1 h2
      exact op_mul_str pins s σ H _ _ v u Q I rx ry ⟨_, _, rfl, rfl, hc, p.flat rel rfl⟩
    · exact p.elim
  · split at p
    · rename_i hc
      obtain ⟨c1, c2, c3, c4⟩ := hc
      simp only [RW, RV] at h1 h2
      subst h2
      obtain ⟨a, vs, rfl, n1, e1, k1⟩ := h1
      rename_i xs k
      by_cases hk : k = 1
      · subst hk
        refine op_repT1 pins s σ H _ _ v u Q I rx ry ⟨a, vs, rfl, rfl, SqT.of e1, p.flat rel ?_⟩
        simp only [Int.toNat_one, List.replicate_one, List.flatten_singleton, RV]
        exact ⟨a, vs, rfl, n1, e1, k1⟩
      · refine op_repT pins s σ H _ _ v u Q I rx ry ⟨a, k, vs, rfl, rfl, SqT.of e1, ?_, by omega, c3, by rw [← k1.length]; exact c4, fun q hq => p.freshT rel hq (k1.rep _)⟩
        rintro rfl
        have := k1.length
        rw [List.length_nil, List.length_eq_zero_iff] at this
        exact c1 this
    · exact p.elim
  · split at p
    · rename_i l1
      split at p
      · rename_i hc
        simp only [RW, RV] at h2
        subst h2
        obtain ⟨a, vs, rfl, e1, k1⟩ := lstW_ok rel h1 l1
        exact op_rep pins s σ H _ _ v u Q I rx ry ⟨a, _, vs, rfl, rfl, e1, hc.1, hc.2.1, by rw [← k1.length]; exact hc.2.2, fun q hq => p.freshL rel hq (k1.rep _)⟩
      · exact p.elim
    · exact p.elim
  · exact p.elim
def fdivW (a b : W) (o : Objs) : R W :=
  match a, b with
  | .v (.int i), .v (.int j) => if CDiv i j ∨ CDivW i j then .ok (.v (.int (i / j))) o else .stuck
  | _, _ => .stuck
theorem or_fdiv : OpR X (binaryOp .FloorDiv) (rW2 (gX X) fdivW) := by
  intro pins s σ H x y v u Q I rx ry ⟨F, ι, objs, w1, w2, rel, h1, h2, p⟩
  unfold fdivW at p
  split at p
  · split at p
    · rename_i hc
      simp only [RW, RV] at h1 h2
      subst h1 h2
      rcases hc with hc | hc
      · exact op_fdiv pins s σ H _ _ v u Q I rx ry ⟨_, _, rfl, rfl, hc, p.flat rel rfl⟩
      · exact op_fdivW pins s σ H _ _ v u Q I rx ry ⟨_, _, rfl, rfl, hc, p.flat rel rfl⟩
    · exact p.elim
  · exact p.elim
def modW (a b : W) (o : Objs) : R W :=
  match a, b with
  | .v (.int i), .v (.int j) => if 0 < j then .ok (.v (.int (i % j))) o else .stuck
  | _, _ => .stuck
theorem or_mod : OpR X (binaryOp .Mod) (rW2 (gX X) modW) := by
  intro pins s σ H x y v u Q I rx ry ⟨F, ι, objs, w1, w2, rel, h1, h2, p⟩
  unfold modW at p
  split at p
  · split at p
    · rename_i hc
      simp only [RW, RV] at h1 h2
      subst h1 h2
      exact op_mod pins s σ H _ _ v u Q I rx ry ⟨_, _, rfl, rfl, hc, p.flat rel rfl⟩
    · exact p.elim
  · exact p.elim
def powW (a b : W) (o : Objs) : R W :=
  match a, b with
  | .v (.int i), .v (.int j) => if CPow i j then .ok (.v (.int (i ^ j.toNat))) o else .stuck
  | _, _ => .stuck
theorem or_pow : OpR X (binaryOp .Pow) (rW2 (gX X) powW) := by
  intro pins s σ H x y v u Q I rx ry ⟨F, ι, objs, w1, w2, rel, h1, h2, p⟩
  unfold powW at p
  split at p
  · split at p
    · rename_i hc
      simp only [RW, RV] at h1 h2
      subst h1 h2
      exact op_pow pins s σ H _ _ v u Q I rx ry ⟨_, _, rfl, rfl, hc, p.flat rel rfl⟩
    · exact p.elim
  · exact p.elim

/-! ### comparisons -/
def eqv2 (a b : W) (o : Objs) : Option Bool :=
  match a, b with
  | .v (.int i), .v (.int j) => some (decide (i = j))
  | .v (.str x), .v (.str y) => some (decide (x = y))
  | a, b => if SeqAt.shaped (pyW o a) = true ∧ SeqAt.shaped (pyW o b) = true then some (PyData.eqv (pyW o a) (pyW o b)) else none
def eqW (a b : W) (o : Objs) : R W := match eqv2 a b o with | some c => .ok (.v (.bl c)) o | none => .stuck
def neW (a b : W) (o : Objs) : R W := match eqv2 a b o with | some c => .ok (.v (.bl (!c))) o | none => .stuck
theorem canLay_sh {d : PyData} (h : SeqAt.shaped d = true) : d.canLay0 = true := SeqAt.canLay_of_shaped h
theorem or_eq (hu : X.A.units + 64 < cLine) : OpR X (compareOp .Eq) (rW2 (gX X) eqW) := by
  intro pins s σ H x y v u Q I rx ry ⟨F, ι, objs, w1, w2, rel, h1, h2, p⟩
  unfold eqW at p
  split at p
  · rename_i c hc
    unfold eqv2 at hc
    split at hc
    · simp only [RW, RV] at h1 h2
      subst h1 h2
      refine op_eq pins s σ H _ _ v u Q I rx ry ⟨rfl, p.flat rel ?_⟩
      simp only [RV]; cases hc; rw [dec_int]; rw [Bool.beq_eq_decide_eq]
    · simp only [RW, RV] at h1 h2
      subst h1 h2
      refine op_eq pins s σ H _ _ v u Q I rx ry ⟨rfl, p.flat rel ?_⟩
      simp only [RV]; cases hc; rw [dec_str]; rw [Bool.beq_eq_decide_eq]
    · split at hc
      · rename_i hs
        cases hc
        exact op_eqD hu pins s σ H _ _ v u Q I rx ry ⟨_, _, h1.dp rel (canLay_sh hs.1), h2.dp rel (canLay_sh hs.2), hs.1, hs.2, p.flat rel rfl⟩
      · cases hc
  · exact p.elim
theorem or_ne (hu : X.A.units + 64 < cLine) : OpR X (compareOp .NotEq) (rW2 (gX X) neW) := by
  intro pins s σ H x y v u Q I rx ry ⟨F, ι, objs, w1, w2, rel, h1, h2, p⟩
  unfold neW at p
  split at p
  · rename_i c hc
    unfold eqv2 at hc
    split at hc
    · simp only [RW, RV] at h1 h2
      subst h1 h2
      refine op_ne pins s σ H _ _ v u Q I rx ry ⟨rfl, p.flat rel ?_⟩
      simp only [RV]; cases hc; rw [dec_int]; rw [Bool.beq_eq_decide_eq]
    · simp only [RW, RV] at h1 h2
      subst h1 h2
      refine op_ne pins s σ H _ _ v u Q I rx ry ⟨rfl, p.flat rel ?_⟩
      simp only [RV]; cases hc; rw [dec_str]; rw [Bool.beq_eq_decide_eq]
    · split at hc
      · rename_i hs
        cases hc
        exact op_neD hu pins s σ H _ _ v u Q I rx ry ⟨_, _, h1.dp rel (canLay_sh hs.1), h2.dp rel (canLay_sh hs.2), hs.1, hs.2, p.flat rel rfl⟩
      · cases hc
  · exact p.elim
def ltW (a b : W) (o : Objs) : R W :=
  match a, b with
  | .v (.int i), .v (.int j) => .ok (.v (.bl (decide (i < j)))) o
  | .v (.str x), .v (.str y) => .ok (.v (.bl (decide (x.cps.toList < y.cps.toList)))) o
  | _, _ => .stuck
def leW (a b : W) (o : Objs) : R W :=
  match a, b with
  | .v (.int i), .v (.int j) => .ok (.v (.bl (decide (i ≤ j)))) o
  | _, _ => .stuck
def gtW (a b : W) (o : Objs) : R W :=
  match a, b with
  | .v (.int i), .v (.int j) => .ok (.v (.bl (decide (j < i)))) o
  | _, _ => .stuck
def geW (a b : W) (o : Objs) : R W :=
  match a, b with
  | .v (.int i), .v (.int j) => .ok (.v (.bl (decide (j ≤ i)))) o
  | _, _ => .stuck
theorem or_lt : OpR X (compareOp .Lt) (rW2 (gX X) ltW) := by
  intro pins s σ H x y v u Q I rx ry ⟨F, ι, objs, w1, w2, rel, h1, h2, p⟩
  unfold ltW at p
  split at p
  · simp only [RW, RV] at h1 h2
    subst h1 h2
    exact op_lt pins s σ H _ _ v u Q I rx ry ⟨_, _, rfl, rfl, p.flat rel rfl⟩
  · simp only [RW, RV] at h1 h2
    subst h1 h2
    exact op_lt_str pins s σ H _ _ v u Q I rx ry ⟨_, _, rfl, rfl, p.flat rel rfl⟩
  · exact p.elim
theorem or_le : OpR X (compareOp .LtE) (rW2 (gX X) leW) := by
  intro pins s σ H x y v u Q I rx ry ⟨F, ι, objs, w1, w2, rel, h1, h2, p⟩
  unfold leW at p
  split at p
  · simp only [RW, RV] at h1 h2
    subst h1 h2
    exact op_le pins s σ H _ _ v u Q I rx ry ⟨_, _, rfl, rfl, p.flat rel rfl⟩
  · exact p.elim
theorem or_gt : OpR X (compareOp .Gt) (rW2 (gX X) gtW) := by
  intro pins s σ H x y v u Q I rx ry ⟨F, ι, objs, w1, w2, rel, h1, h2, p⟩
  unfold gtW at p
  split at p
  · simp only [RW, RV] at h1 h2
    subst h1 h2
    exact op_gt pins s σ H _ _ v u Q I rx ry ⟨_, _, rfl, rfl, p.flat rel rfl⟩
  · exact p.elim
theorem or_ge : OpR X (compareOp .GtE) (rW2 (gX X) geW) := by
  intro pins s σ H x y v u Q I rx ry ⟨F, ι, objs, w1, w2, rel, h1, h2, p⟩
  unfold geW at p
  split at p
  · simp only [RW, RV] at h1 h2
    subst h1 h2
    exact op_ge pins s σ H _ _ v u Q I rx ry ⟨_, _, rfl, rfl, p.flat rel rfl⟩
  · exact p.elim
/-! ### is None, in -/
def isW (a b : W) (o : Objs) : R W :=
  match a, b with
  | .v .non, .v .non => .ok (.v (.bl true)) o
  | _, .v .non => .ok (.v (.bl false)) o
  | _, _ => .stuck
def isnW (a b : W) (o : Objs) : R W :=
  match a, b with
  | .v .non, .v .non => .ok (.v (.bl false)) o
  | _, .v .non => .ok (.v (.bl true)) o
  | _, _ => .stuck
theorem RW.not_non {g : GE} {ι : List Addr} {A : Addr → Prop} {H : Hp} {w : W} {v : V} (h : RW g ι A H w v) (n : w ≠ .v .non) : v ≠ .non := by
  rintro rfl
  cases w with
  | v d =>
    cases d <;> simp only [RW, RV] at h
    all_goals first
      | exact absurd rfl n
      | (obtain ⟨a, h⟩ := h; simp at h)
      | cases h
  | o i => obtain ⟨a, _, e⟩ := h; cases e
theorem or_is : OpR X (compareOp .Is) (rW2 (gX X) isW) := by
  intro pins s σ H x y v u Q I rx ry ⟨F, ι, objs, w1, w2, rel, h1, h2, p⟩
  unfold isW at p
  split at p
  · simp only [RW, RV] at h1 h2
    subst h1 h2
    exact op_isN pins s σ H _ _ v u Q I rx ry ⟨rfl, p.flat rel rfl⟩
  · rename_i hn
    simp only [RW, RV] at h2
    subst h2
    refine op_isN pins s σ H _ _ v u Q I rx ry ⟨rfl, p.flat rel ?_⟩
    have : x ≠ .non := h1.not_non fun e => hn e
    simp [RV, this]
  · exact p.elim
theorem or_isn : OpR X (compareOp .IsNot) (rW2 (gX X) isnW) := by
  intro pins s σ H x y v u Q I rx ry ⟨F, ι, objs, w1, w2, rel, h1, h2, p⟩
  unfold isnW at p
  split at p
  · simp only [RW, RV] at h1 h2
    subst h1 h2
    exact op_notN pins s σ H _ _ v u Q I rx ry ⟨rfl, p.flat rel rfl⟩
  · rename_i hn
    simp only [RW, RV] at h2
    subst h2
    refine op_notN pins s σ H _ _ v u Q I rx ry ⟨rfl, p.flat rel ?_⟩
    have : x ≠ .non := h1.not_non fun e => hn e
    simp [RV, this]
  · exact p.elim
/-- flat things -/
def flD : D → Bool
  | .non => true
  | .bl _ => true
  | .int _ => true
  | .str _ => true
  | _ => false
def toV : D → V
  | .non => .non
  | .bl b => .bl b
  | .int i => .int i
  | .str x => .str x
  | _ => .non
def eqF : D → D → Bool
  | .non, .non => true
  | .bl a, .bl b => a == b
  | .bl a, .int b => (if a then 1 else 0) == b
  | .int a, .bl b => a == (if b then 1 else 0)
  | .int a, .int b => a == b
  | .str a, .str b => a == b
  | _, _ => false
theorem RV.fl {g : GE} {A : Addr → Prop} {H : Hp} {d : D} {v : V} (h : RV g A H d v) (f : flD d = true) : v = toV d ∧ flatV v = true := by
  cases d <;> simp only [flD, RV, reduceCtorEq] at f h <;> subst h <;> exact ⟨rfl, rfl⟩
theorem eqF_V {d e : D} (f : flD d = true) (k : flD e = true) : eqV (toV d) (toV e) = eqF d e := by
  cases d <;> simp only [flD, reduceCtorEq] at f <;> cases e <;> simp only [flD, reduceCtorEq] at k <;> rfl
theorem RVs.fl {g : GE} {A : Addr → Prop} {H : Hp} : ∀ {ds : List D} {vs : List V}, RVs g A H ds vs → ds.all flD = true → vs = ds.map toV ∧ vs.all flatV = true
  | [], vs, h, f => by simp only [RVs] at h; subst h; exact ⟨rfl, rfl⟩
  | d :: ds, vs, h, f => by
    simp only [RVs] at h
    obtain ⟨v, r, rfl, h2, h3⟩ := h
    simp only [List.all_cons, Bool.and_eq_true] at f
    obtain ⟨rfl, e2⟩ := h2.fl f.1
    obtain ⟨rfl, e4⟩ := RVs.fl h3 f.2
    exact ⟨rfl, by simp only [List.all_cons, e2, e4, Bool.and_self]⟩
def inF (x : D) (xs : List D) : Bool := xs.any fun y => eqF y x
theorem inF_V {x : D} (f : flD x = true) : ∀ {xs : List D}, xs.all flD = true → inV (toV x) (xs.map toV) = inF x xs
  | [], _ => rfl
  | y :: ys, k => by
    simp only [List.all_cons, Bool.and_eq_true] at k
    simp only [inV, inF, List.map_cons, List.any_cons]
    rw [eqF_V k.1 f]
    have := inF_V f k.2
    simp only [inV, inF] at this
    rw [this]
def inOf (a b : W) (o : Objs) : Option Bool :=
  match a, b with
  | .v (.str x), .v (.str y) => if x.cps.size = 1 then some (decide (x.cps.toList.headD 0 ∈ y.cps.toList)) else none
  | .v d, b => match seqW o b with
    | some xs => if flD d = true ∧ xs.all flD = true then some (inF d xs) else none
    | none => none
  | _, _ => none
def inW (a b : W) (o : Objs) : R W := match inOf a b o with | some c => .ok (.v (.bl c)) o | none => .stuck
def ninW (a b : W) (o : Objs) : R W := match inOf a b o with | some c => .ok (.v (.bl (!c))) o | none => .stuck
theorem str1 {x : Str} (h : x.cps.size = 1) : x = ⟨#[x.cps.toList.headD 0]⟩ := by
  cases x with | mk c =>
  cases c with | mk l =>
  match l, h with
  | [a], _ => rfl
theorem or_in : OpR X (compareOp .In) (rW2 (gX X) inW) := by
  intro pins s σ H x y v u Q I rx ry ⟨F, ι, objs, w1, w2, rel, h1, h2, p⟩
  unfold inW at p
  split at p
  · rename_i c hc
    unfold inOf at hc
    split at hc
    · split at hc
      · rename_i hz
        cases hc
        simp only [RW, RV] at h1 h2
        subst h1 h2
        exact op_in_sign pins s σ H _ _ v u Q I rx ry ⟨_, _, by rw [← str1 hz], rfl, p.flat rel rfl⟩
      · cases hc
    · split at hc
      · rename_i hs
        split at hc
        · rename_i hf
          cases hc
          obtain ⟨a, vs, rfl, q, k⟩ := seqW_ok rel h2 hs
          obtain ⟨rfl, f1⟩ := RV.fl h1 hf.1
          obtain ⟨rfl, f2⟩ := k.fl hf.2
          refine op_in_seq pins s σ H _ _ v u Q I rx ry ⟨a, _, rfl, q, f1, f2, p.flat rel ?_⟩
          simp only [RV]; rw [inF_V hf.1 hf.2]; rfl
        · cases hc
      · cases hc
    · cases hc
  · exact p.elim
theorem or_nin : OpR X (compareOp .NotIn) (rW2 (gX X) ninW) := by
  intro pins s σ H x y v u Q I rx ry ⟨F, ι, objs, w1, w2, rel, h1, h2, p⟩
  unfold ninW at p
  split at p
  · rename_i c hc
    unfold inOf at hc
    split at hc
    · split at hc
      · rename_i hz
        cases hc
        simp only [RW, RV] at h1 h2
        subst h1 h2
        exact op_notIn_sign pins s σ H _ _ v u Q I rx ry ⟨_, _, by rw [← str1 hz], rfl, p.flat rel rfl⟩
      · cases hc
    · split at hc
      · rename_i hs
        split at hc
        · rename_i hf
          cases hc
          obtain ⟨a, vs, rfl, q, k⟩ := seqW_ok rel h2 hs
          obtain ⟨rfl, f1⟩ := RV.fl h1 hf.1
          obtain ⟨rfl, f2⟩ := k.fl hf.2
          refine op_notIn_seq pins s σ H _ _ v u Q I rx ry ⟨a, _, rfl, q, f1, f2, p.flat rel ?_⟩
          simp only [RV]; rw [inF_V hf.1 hf.2]; rfl
        · cases hc
      · cases hc
    · cases hc
  · exact p.elim
/-! ### one place -/
def negW (a : W) (o : Objs) : R W :=
  match a with
  | .v (.int i) => .ok (.v (.int (-i))) o
  | _ => .stuck
theorem ur_neg : UnR X (unaryOp .USub) (rW1 (gX X) negW) := by
  intro pins s σ H x v Q I rx ⟨F, ι, objs, w1, rel, h1, p⟩
  unfold negW at p
  split at p
  · simp only [RW, RV] at h1
    subst h1
    exact un_neg pins s σ H _ v Q I rx ⟨_, rfl, p.flat rel rfl⟩
  · exact p.elim
/-- truth -/
def truW (o : Objs) : W → Option Bool
  | .v .non => some false
  | .v (.bl b) => some b
  | .v (.int i) => some (decide (i ≠ 0))
  | .v (.str x) => if x.length ≤ sizeLine then some (decide (x.length ≠ 0)) else none
  | w => match seqW o w with
    | some xs => some (!xs.isEmpty)
    | none => none
end
end RR

set_option maxHeartbeats 4000000
namespace RR
open PySem PySem.Spec PyProof.Rows L2

abbrev Sl := List (Option W)
def SRel (g : GE) (ι : List Addr) (A : Addr → Prop) (H : Hp) (σd : Sl) (σ : L2.St) : Prop := σ.length = σd.length ∧ ∀ (i : Nat) (w : W), σd[i]? = some (some w) → ∃ v, σ[i]? = some (some v) ∧ RW g ι A H w v
abbrev ME := Sl → Objs → R W
abbrev MB := Sl → Objs → R Bool
abbrev ML := Sl → Objs → R (List W)
def PostB (g : GE) (F : Addr → Prop) (ι : List Addr) (objs : Objs) (H : Hp) (r : R Bool) (Q : Bool → Hp → Prop) : Prop :=
  match r with
  | .ok b objs' => ∀ ι' H', Rel g F ι' H' objs' → Ext ι objs H ι' objs' H' → Q b H'
  | .exc _ _ => False
  | .stuck => False
def tev (g : GE) (m : ME) : TE := fun σ H Q => ∃ F ι objs σd, Rel g F ι H objs ∧ SRel g ι (Al F ι objs) H σd σ ∧ Post g F ι objs H (m σd objs) Q
def teb (g : GE) (m : MB) : TT := fun σ H Q => ∃ F ι objs σd, Rel g F ι H objs ∧ SRel g ι (Al F ι objs) H σd σ ∧ PostB g F ι objs H (m σd objs) Q
def tea (g : GE) (m : ML) : TA := fun σ H Q => ∃ F ι objs σd, Rel g F ι H objs ∧ SRel g ι (Al F ι objs) H σd σ ∧ PostL g F ι objs H (m σd objs) Q
section
variable {g : GE} {F : Addr → Prop} {ι ι' ι1 ι2 : List Addr} {H H' H1 H2 : Hp} {objs objs' objs1 objs2 : Objs} {A A' : Addr → Prop}
theorem SRel.ext {σd : Sl} {σ : L2.St} (h : SRel g ι (Al F ι objs) H σd σ) (e : Ext ι objs H ι1 objs1 H1) : SRel g ι1 (Al F ι1 objs1) H1 σd σ :=
  ⟨h.1, fun i w k => let ⟨v, a, b⟩ := h.2 i w k; ⟨v, a, b.ext e⟩⟩
theorem SRel.set {σd : Sl} {σ : L2.St} {w : W} {v : V} (h : SRel g ι A H σd σ) (i : Nat) (r : RW g ι A H w v) : SRel g ι A H (σd.set i (some w)) (σ.set i (some v)) := by
  refine ⟨by simp [h.1], fun j u k => ?_⟩
  by_cases hj : j = i
  · subst hj
    have hl : j < σd.length := by
      have := (List.getElem?_eq_some_iff.mp k).1
      simpa using this
    rw [List.getElem?_set_self hl] at k
    cases k
    exact ⟨v, List.getElem?_set_self (by rw [h.1]; exact hl), r⟩
  · rw [List.getElem?_set_ne (Ne.symm hj)] at k ⊢
    exact h.2 j u k
theorem PostB.at {r : R Bool} {Q : Bool → Hp → Prop} (p : PostB g F ι objs H r Q) (e : Ext ι objs H ι1 objs1 H1) : PostB g F ι1 objs1 H1 r Q := by
  cases r with
  | ok w o => exact fun ι' H' rl ex => p ι' H' rl (e.trans ex)
  | exc _ _ => exact p
  | stuck => exact p
theorem PostB.bind {α : Type} {r : R α} {f : α → Objs → R Bool} {Q : Bool → Hp → Prop} (p : PostB g F ι objs H (r.bind f) Q) : ∃ a o, r = .ok a o ∧ PostB g F ι objs H (f a o) Q := by
  cases r with
  | ok w o => exact ⟨w, o, rfl, p⟩
  | exc _ _ => exact p.elim
  | stuck => exact p.elim
end
theorem _root_.L2.PE.weak {X : Cx} {e : Expr} {t t' : TE} (h : PE X e t) (w : ∀ σ H Q, t' σ H Q → t σ H Q) : PE X e t' := ⟨fun pins s σ H Q I q => h.run pins s σ H Q I (w σ H Q q)⟩
theorem _root_.L2.PT.weak {X : Cx} {e : Expr} {t t' : TT} (h : PT X e t) (w : ∀ σ H Q, t' σ H Q → t σ H Q) : PT X e t' := ⟨fun pins s σ H Q I q => h.run pins s σ H Q I (w σ H Q q)⟩
theorem _root_.L2.PW.weak {X : Cx} {e : Expr} {t t' : TT} (h : PW X e t) (w : ∀ σ H Q, t' σ H Q → t σ H Q) : PW X e t' := ⟨fun wh pins s σ H Q I q => h.run wh pins s σ H Q I (w σ H Q q)⟩
theorem _root_.L2.PA.weak {X : Cx} {e : List Expr} {t t' : TA} (h : PA X e t) (w : ∀ σ H Q, t' σ H Q → t σ H Q) : PA X e t' := ⟨fun pos pins s σ H Q I q => h.run pos pins s σ H Q I (w σ H Q q)⟩
theorem _root_.L2.PS.weak {X : Cx} {e : Stmt} {t t' : TS} (h : PS X e t) (w : ∀ D σ H, t' D σ H → t D σ H) : PS X e t' := ⟨fun pins s σ H D I q => h.run pins s σ H D I (w D σ H q)⟩
theorem _root_.L2.PSs.weak {X : Cx} {e : List Stmt} {t t' : TS} (h : PSs X e t) (w : ∀ D σ H, t' D σ H → t D σ H) : PSs X e t' := ⟨fun pins s σ H D I q => h.run pins s σ H D I (w D σ H q)⟩
theorem _root_.L2.PE.or {X : Cx} {e : Expr} {t t' : TE} (h : PE X e t) (h' : PE X e t') : PE X e (fun σ H Q => t σ H Q ∨ t' σ H Q) := ⟨fun pins s σ H Q I q => q.elim (h.run pins s σ H Q I) (h'.run pins s σ H Q I)⟩

/-! ### the forms of expressions -/
def mConst (d : D) : ME := fun _ o => .ok (.v d) o
def mVar (i : Nat) : ME := fun σ o => match σ[i]? with | some (some w) => .ok w o | _ => .stuck
def mBin (f : W → W → Objs → R W) (a b : ME) : ME := fun σ o => (a σ o).bind fun x o => (b σ o).bind fun y o => f x y o
def mUn (f : W → Objs → R W) (a : ME) : ME := fun σ o => (a σ o).bind fun x o => f x o
def mNil : ML := fun _ o => .ok [] o
def mCons (a : ME) (b : ML) : ML := fun σ o => (a σ o).bind fun x o => (b σ o).bind fun xs o => .ok (x :: xs) o
section
variable {X : Cx} {a b c e : Expr} {es : List Expr} {pos : Pos} {ma mb mc : ME}
abbrev SE (X : Cx) (e : Expr) (m : ME) : Prop := PE X e (tev (gX X) m)
abbrev ST (X : Cx) (e : Expr) (m : MB) : Prop := PT X e (teb (gX X) m)
abbrev SW (X : Cx) (e : Expr) (m : MB) : Prop := PW X e (teb (gX X) m)
abbrev SA (X : Cx) (e : List Expr) (m : ML) : Prop := PA X e (tea (gX X) m)
theorem se_const {d : D} {v : V} (h : PE X e (tC v)) (r : ∀ A H, RV (gX X) A H d v) : SE X e (mConst d) :=
  h.weak fun σ H Q ⟨F, ι, objs, σd, rel, sr, p⟩ => p.flat rel (r _ _)
theorem se_int {i : Int} {j : Nat} : SE X (.Constant (.int i) j pos) (mConst (.int i)) := se_const pe_int fun _ _ => by simp only [RV]
theorem se_str {i : Str} {j : Nat} : SE X (.Constant (.str i) j pos) (mConst (.str i)) := se_const pe_str fun _ _ => by simp only [RV]
theorem se_bl {i : Bool} {j : Nat} : SE X (.Constant (.bool i) j pos) (mConst (.bl i)) := se_const pe_bl fun _ _ => by simp only [RV]
theorem se_non {j : Nat} : SE X (.Constant .none j pos) (mConst .non) := se_const pe_non fun _ _ => by simp only [RV]
theorem se_var {i : Nat} {x : Str} (hN : X.N[i]? = some x) (hv : Vis X.env.scope x) (hd : (x == ("__debug__" : Str)) = false) (hcd : (x == ("__classdict__" : Str)) = false) : SE X (.Name x pos) (mVar i) := by
  refine (pe_var hN hv hd hcd).weak fun σ H Q ⟨F, ι, objs, σd, rel, sr, p⟩ => ?_
  unfold mVar at p
  split at p
  · rename_i w hw
    obtain ⟨v, e1, e2⟩ := sr.2 i w hw
    exact ⟨v, e1, p.ok rel e2⟩
  · exact p.elim
theorem se_bin {op : Operator} {f : W → W → Objs → R W} (ho : OpR X (binaryOp op) (rW2 (gX X) f)) (ha : SE X a ma) (hb : SE X b mb) : SE X (.BinOp a op b pos) (mBin f ma mb) := by
  refine (pe_op ho ha hb).weak fun σ H Q ⟨F, ι, objs, σd, rel, sr, p⟩ => ?_
  obtain ⟨x, o1, e1, p⟩ := p.bind
  refine ⟨F, ι, objs, σd, rel, sr, ?_⟩
  rw [e1]
  intro v ι1 H1 rel1 ex1 r1
  obtain ⟨y, o2, e2, p⟩ := (p.at ex1).bind
  refine ⟨F, ι1, o1, σd, rel1, sr.ext ex1, ?_⟩
  rw [e2]
  intro v2 ι2 H2 rel2 ex2 r2
  exact ⟨F, ι2, o2, x, y, rel2, r1.ext ex2, r2, p.at ex2⟩
theorem se_cmp {op : CmpOp} {f : W → W → Objs → R W} (ho : OpR X (compareOp op) (rW2 (gX X) f)) (ha : SE X a ma) (hb : SE X b mb) (hm : behindInMarks op b = false) : SE X (.Compare a [op] [b] pos) (mBin f ma mb) := by
  refine (pe_cmpR ho ha hb hm).weak fun σ H Q ⟨F, ι, objs, σd, rel, sr, p⟩ => ?_
  obtain ⟨x, o1, e1, p⟩ := p.bind
  refine ⟨F, ι, objs, σd, rel, sr, ?_⟩
  rw [e1]
  intro v ι1 H1 rel1 ex1 r1
  obtain ⟨y, o2, e2, p⟩ := (p.at ex1).bind
  refine ⟨F, ι1, o1, σd, rel1, sr.ext ex1, ?_⟩
  rw [e2]
  intro v2 ι2 H2 rel2 ex2 r2
  exact ⟨F, ι2, o2, x, y, rel2, r1.ext ex2, r2, p.at ex2⟩
/-- a value that must be a bool -/
def asB (r : R W) : R Bool := r.bind fun x o => match x with | .v (.bl b) => .ok b o | _ => .stuck
theorem st_cmp {op : CmpOp} {f : W → W → Objs → R W} (ho : OpR X (compareOp op) (rW2 (gX X) f)) (ha : SE X a ma) (hb : SE X b mb) (hm : behindInMarks op b = false) : ST X (.Compare a [op] [b] pos) (fun σ o => asB (mBin f ma mb σ o)) := by
  refine (pt_cmpR ho ha hb hm).weak fun σ H Q ⟨F, ι, objs, σd, rel, sr, p⟩ => ?_
  obtain ⟨z, oz, ez, p⟩ := p.bind
  cases e1 : ma σd objs with
  | exc e o => rw [mBin, e1] at ez; cases ez
  | stuck => rw [mBin, e1] at ez; cases ez
  | ok x o1 =>
    rw [mBin, e1, R.bind_ok] at ez
    refine ⟨F, ι, objs, σd, rel, sr, ?_⟩
    rw [e1]
    intro v ι1 H1 rel1 ex1 r1
    cases e2 : mb σd o1 with
    | exc e o => rw [e2] at ez; cases ez
    | stuck => rw [e2] at ez; cases ez
    | ok y o2 =>
      rw [e2, R.bind_ok] at ez
      refine ⟨F, ι1, o1, σd, rel1, sr.ext ex1, ?_⟩
      rw [e2]
      intro v2 ι2 H2 rel2 ex2 r2
      refine ⟨F, ι2, o2, x, y, rel2, r1.ext ex2, r2, ?_⟩
      rw [ez]
      intro v3 ι3 H3 rel3 ex3 r3
      split at p
      · simp only [RW, RV] at r3
        subst r3
        exact ⟨_, rfl, p ι3 H3 rel3 ((ex1.trans ex2).trans ex3)⟩
      · exact p.elim
def mChain (f f' : W → W → Objs → R W) (a b c : ME) : ME := fun σ o => (a σ o).bind fun x o => (b σ o).bind fun y o => (asB (f x y o)).bind fun k o => if k = true then (c σ o).bind fun z o => f' y z o else .ok (.v (.bl false)) o
theorem se_chain {op op' : CmpOp} {f f' : W → W → Objs → R W} (ho : OpR X (compareOp op) (rW2 (gX X) f)) (ho' : OpR X (compareOp op') (rW2 (gX X) f')) (ha : SE X a ma) (hb : SE X b mb) (hc : SE X c mc) (hm : lastMarks [op, op'] [b, c] = false) :
    SE X (.Compare a [op, op'] [b, c] pos) (mChain f f' ma mb mc) := by
  refine (pe_chain ho ho' ha hb hc hm).weak fun σ H Q ⟨F, ι, objs, σd, rel, sr, p⟩ => ?_
  obtain ⟨x, o1, e1, p⟩ := p.bind
  refine ⟨F, ι, objs, σd, rel, sr, ?_⟩
  rw [e1]
  intro v ι1 H1 rel1 ex1 r1
  obtain ⟨y, o2, e2, p⟩ := (p.at ex1).bind
  refine ⟨F, ι1, o1, σd, rel1, sr.ext ex1, ?_⟩
  rw [e2]
  intro v2 ι2 H2 rel2 ex2 r2
  obtain ⟨k, o3, e3, p⟩ := (p.at ex2).bind
  refine ⟨F, ι2, o2, x, y, rel2, r1.ext ex2, r2, ?_⟩
  unfold asB at e3
  cases e4 : f x y o2 with
  | exc e o => rw [e4] at e3; cases e3
  | stuck => rw [e4] at e3; cases e3
  | ok z o4 =>
    rw [e4, R.bind_ok] at e3
    split at e3
    · cases e3
      intro v3 ι3 H3 rel3 ex3 r3
      simp only [RW, RV] at r3
      subst r3
      refine ⟨k, rfl, ?_⟩
      have p3 := p.at ex3
      cases k with
      | false =>
        simp only [Bool.false_eq_true, if_false] at p3 ⊢
        exact p3.flat rel3 (by simp only [RV])
      | true =>
        simp only [if_true] at p3 ⊢
        obtain ⟨w, o5, e5, p⟩ := p3.bind
        refine ⟨F, ι3, o3, σd, rel3, ((sr.ext ex1).ext ex2).ext ex3, ?_⟩
        rw [e5]
        intro v4 ι4 H4 rel4 ex4 r4
        exact ⟨F, ι4, o5, y, w, rel4, (r2.ext ex3).ext ex4, r4, p.at ex4⟩
    · cases e3
theorem se_un {op : UnaryOp} {f : W → Objs → R W} (ho : UnR X (unaryOp op) (rW1 (gX X) f)) (ha : SE X a ma) : SE X (.UnaryOp op a pos) (mUn f ma) := by
  refine (pe_un ho ha).weak fun σ H Q ⟨F, ι, objs, σd, rel, sr, p⟩ => ?_
  obtain ⟨x, o1, e1, p⟩ := p.bind
  refine ⟨F, ι, objs, σd, rel, sr, ?_⟩
  rw [e1]
  intro v ι1 H1 rel1 ex1 r1
  exact ⟨F, ι1, o1, x, rel1, r1, p.at ex1⟩

/-! ### truth -/
theorem tr_ok : TruR X (fun x H Q => ∃ F ι objs w, Rel (gX X) F ι H objs ∧ RW (gX X) ι (Al F ι objs) H w x ∧ ∃ k, truW objs w = some k ∧ Q k H) := by
  intro pins s σ H x v Q I rx ⟨F, ι, objs, w, rel, h, k, e, q⟩
  refine tru_ok pins s σ H x v Q I rx ⟨k, ?_, q⟩
  unfold truW at e
  split at e
  · simp only [RW, RV] at h; subst h; cases e; rfl
  · simp only [RW, RV] at h; subst h; cases e; rfl
  · simp only [RW, RV] at h; subst h; cases e
    show decide _ = _
    rename_i i
    by_cases hi : i = 0 <;> simp [hi]
  · split at e
    · rename_i hz
      simp only [RW, RV] at h; subst h; cases e
      refine ⟨hz, ?_⟩
      rename_i x
      by_cases hi : x.length = 0 <;> simp [hi]
    · cases e
  · split at e
    · rename_i xs hs
      cases e
      obtain ⟨a, vs, rfl, q, k⟩ := seqW_ok rel h hs
      have e2 : (!xs.isEmpty) = !vs.isEmpty := by
        have := k.length
        cases xs <;> cases vs <;> simp at this ⊢
      rcases q with q | q
      · exact .inl ⟨vs, q, e2⟩
      · exact .inr (.inl ⟨vs, q, e2⟩)
    · cases e
def mTru (m : ME) : MB := fun σ o => (m σ o).bind fun x o => match truW o x with | some k => .ok k o | none => .stuck
/-- an expression of any kind as a test (no comparison, and, or, not) -/
theorem st_val (ha : SE X a ma) (he : ∀ whole, isTrue a X.env whole = (do let v ← whole; standAt a.pos; holding [v] (truthy v))) : ST X a (mTru ma) := by
  refine ⟨fun pins s σ H Q I ⟨F, ι, objs, σd, rel, sr, p⟩ => ?_⟩
  obtain ⟨x, o1, e1, p⟩ := p.bind
  have h : tev (gX X) ma σ H (fun v H1 => ∃ F ι objs w, Rel (gX X) F ι H1 objs ∧ RW (gX X) ι (Al F ι objs) H1 w v ∧ ∃ k, truW objs w = some k ∧ Q k H1) := by
    refine ⟨F, ι, objs, σd, rel, sr, ?_⟩
    rw [e1]
    intro v ι1 H1 rel1 ex1 r1
    refine ⟨F, ι1, o1, x, rel1, r1, ?_⟩
    split at p
    · rename_i k hk
      exact ⟨k, hk, p ι1 H1 rel1 ex1⟩
    · exact p.elim
  exact isTrue_plain (thn (ha.run pins s σ H _ I h) fun v s1 ⟨x, H1, I1, r1, q1⟩ => tr_ok pins s1 σ H1 x v Q I1 r1 q1) (he _)
def mAnd (a b : MB) : MB := fun σ o => (a σ o).bind fun k o => if k = true then b σ o else .ok false o
def mOr (a b : MB) : MB := fun σ o => (a σ o).bind fun k o => if k = true then .ok true o else b σ o
def mNot (a : MB) : MB := fun σ o => (a σ o).bind fun k o => .ok (!k) o
variable {na nb : MB} {rest : List Expr}
theorem sw_and1 (ha : ST X a na) : SW X (.BoolOp .And [a] pos) na := pw_and1 ha
theorem sw_or1 (ha : ST X a na) : SW X (.BoolOp .Or [a] pos) na := pw_or1 ha
theorem sw_and (ha : ST X a na) (hb : SW X (.BoolOp .And (b :: rest) pos) nb) : SW X (.BoolOp .And (a :: b :: rest) pos) (mAnd na nb) := by
  refine (pw_and ha hb).weak fun σ H Q ⟨F, ι, objs, σd, rel, sr, p⟩ => ?_
  obtain ⟨x, o1, e1, p⟩ := p.bind
  refine ⟨F, ι, objs, σd, rel, sr, ?_⟩
  rw [e1]
  intro ι1 H1 rel1 ex1
  have p1 := p.at ex1
  cases x with
  | false =>
    simp only [Bool.false_eq_true, if_false] at p1 ⊢
    exact p1 ι1 H1 rel1 .refl
  | true =>
    simp only [if_true] at p1 ⊢
    exact ⟨F, ι1, o1, σd, rel1, sr.ext ex1, p1⟩
theorem sw_or (ha : ST X a na) (hb : SW X (.BoolOp .Or (b :: rest) pos) nb) : SW X (.BoolOp .Or (a :: b :: rest) pos) (mOr na nb) := by
  refine (pw_or ha hb).weak fun σ H Q ⟨F, ι, objs, σd, rel, sr, p⟩ => ?_
  obtain ⟨x, o1, e1, p⟩ := p.bind
  refine ⟨F, ι, objs, σd, rel, sr, ?_⟩
  rw [e1]
  intro ι1 H1 rel1 ex1
  have p1 := p.at ex1
  cases x with
  | false =>
    simp only [Bool.false_eq_true, if_false] at p1 ⊢
    exact ⟨F, ι1, o1, σd, rel1, sr.ext ex1, p1⟩
  | true =>
    simp only [if_true] at p1 ⊢
    exact p1 ι1 H1 rel1 .refl
theorem st_not (ha : ST X a na) : ST X (.UnaryOp .Not a pos) (mNot na) := by
  refine (pt_not ha).weak fun σ H Q ⟨F, ι, objs, σd, rel, sr, p⟩ => ?_
  obtain ⟨x, o1, e1, p⟩ := p.bind
  refine ⟨F, ι, objs, σd, rel, sr, ?_⟩
  rw [e1]
  intro ι1 H1 rel1 ex1
  exact p ι1 H1 rel1 ex1
/-- .. as values: bools -/
def mAndV (a b : ME) : ME := fun σ o => (asB (a σ o)).bind fun k o => if k = true then b σ o else .ok (.v (.bl false)) o
def mOrV (a b : ME) : ME := fun σ o => (asB (a σ o)).bind fun k o => if k = true then .ok (.v (.bl true)) o else b σ o
def mNotV (a : ME) : ME := fun σ o => (asB (a σ o)).bind fun k o => .ok (.v (.bl (!k))) o
def mIf (c : MB) (a b : ME) : ME := fun σ o => (c σ o).bind fun k o => if k = true then a σ o else b σ o
theorem asB_inv {r : R W} {k : Bool} {o : Objs} (h : asB r = .ok k o) : r = .ok (.v (.bl k)) o := by
  unfold asB at h
  cases r with
  | exc _ _ => cases h
  | stuck => cases h
  | ok x o1 =>
    rw [R.bind_ok] at h
    split at h
    · cases h; rfl
    · cases h
theorem se_one {op : BoolOp} (h : SE X a ma) : SE X (.BoolOp op [a] pos) ma := pe_one h
theorem se_and (ha : SE X a ma) (hb : SE X (.BoolOp .And (b :: rest) pos) mb) : SE X (.BoolOp .And (a :: b :: rest) pos) (mAndV ma mb) := by
  refine (pe_and ha hb).weak fun σ H Q ⟨F, ι, objs, σd, rel, sr, p⟩ => ?_
  obtain ⟨k, o1, e1, p⟩ := p.bind
  refine ⟨F, ι, objs, σd, rel, sr, ?_⟩
  rw [asB_inv e1]
  intro v ι1 H1 rel1 ex1 r1
  simp only [RW, RV] at r1
  subst r1
  refine ⟨k, rfl, ?_⟩
  have p1 := p.at ex1
  cases k with
  | false =>
    simp only [Bool.false_eq_true, if_false] at p1 ⊢
    exact p1.flat rel1 (by simp only [RV])
  | true =>
    simp only [if_true] at p1 ⊢
    exact ⟨F, ι1, o1, σd, rel1, sr.ext ex1, p1⟩
theorem se_or (ha : SE X a ma) (hb : SE X (.BoolOp .Or (b :: rest) pos) mb) : SE X (.BoolOp .Or (a :: b :: rest) pos) (mOrV ma mb) := by
  refine (pe_or ha hb).weak fun σ H Q ⟨F, ι, objs, σd, rel, sr, p⟩ => ?_
  obtain ⟨k, o1, e1, p⟩ := p.bind
  refine ⟨F, ι, objs, σd, rel, sr, ?_⟩
  rw [asB_inv e1]
  intro v ι1 H1 rel1 ex1 r1
  simp only [RW, RV] at r1
  subst r1
  refine ⟨k, rfl, ?_⟩
  have p1 := p.at ex1
  cases k with
  | false =>
    simp only [Bool.false_eq_true, if_false] at p1 ⊢
    exact ⟨F, ι1, o1, σd, rel1, sr.ext ex1, p1⟩
  | true =>
    simp only [if_true] at p1 ⊢
    exact p1.flat rel1 (by simp only [RV])
theorem se_not (ha : SE X a ma) : SE X (.UnaryOp .Not a pos) (mNotV ma) := by
  refine (pe_not ha).weak fun σ H Q ⟨F, ι, objs, σd, rel, sr, p⟩ => ?_
  obtain ⟨k, o1, e1, p⟩ := p.bind
  refine ⟨F, ι, objs, σd, rel, sr, ?_⟩
  rw [asB_inv e1]
  intro v ι1 H1 rel1 ex1 r1
  simp only [RW, RV] at r1
  subst r1
  exact ⟨k, rfl, (p.at ex1).flat rel1 (by simp only [RV])⟩
theorem se_if (hc : ST X c na) (ha : SE X a ma) (hb : SE X b mb) : SE X (.IfExp c a b pos) (mIf na ma mb) := by
  refine (pe_ifExp hc ha hb).weak fun σ H Q ⟨F, ι, objs, σd, rel, sr, p⟩ => ?_
  obtain ⟨k, o1, e1, p⟩ := p.bind
  refine ⟨F, ι, objs, σd, rel, sr, ?_⟩
  rw [e1]
  intro ι1 H1 rel1 ex1
  have p1 := p.at ex1
  cases k with
  | false =>
    simp only [Bool.false_eq_true, if_false] at p1 ⊢
    exact ⟨F, ι1, o1, σd, rel1, sr.ext ex1, p1⟩
  | true =>
    simp only [if_true] at p1 ⊢
    exact ⟨F, ι1, o1, σd, rel1, sr.ext ex1, p1⟩

/-! ### argument lists, displays -/
def isStar : Expr → Bool
  | .Starred .. => true
  | _ => false
theorem star_cons (h : isStar e = false) (env : Env) : starEach (e :: es) env = (false, eval e env) :: starEach es env := by
  cases e <;> first | rfl | (simp [isStar] at h)
theorem star_none {env : Env} : ∀ {es : List Expr}, es.all (fun e => !isStar e) = true → (backTo pos (starEach es env)).any (·.1) = false
  | [], _ => rfl
  | e :: es, h => by
    simp only [List.all_cons, Bool.and_eq_true, Bool.not_eq_true'] at h
    rw [star_cons h.1]
    simp only [backTo, List.map_cons, List.any_cons, Bool.false_or]
    have := star_none (env := env) h.2
    simpa [backTo] using this
theorem sa_nil : SA X [] mNil := pa_nil.weak fun σ H Q ⟨F, ι, objs, σd, rel, sr, p⟩ => p [] ι H rel .refl .nil
theorem RWs.ext {g : GE} {F : Addr → Prop} {ι ι1 : List Addr} {objs objs1 : Objs} {H H1 : Hp} {ws : List W} {vs : List V} (h : RWs g ι (Al F ι objs) H ws vs) (e : Ext ι objs H ι1 objs1 H1) : RWs g ι1 (Al F ι1 objs1) H1 ws vs := Paired.mapP h fun _ _ q => q.ext e
theorem sa_cons {ml : ML} (ha : SE X e ma) (hr : SA X es ml) (hs : isStar e = false) : SA X (e :: es) (mCons ma ml) := by
  refine (pa_cons ha hr (star_cons hs _)).weak fun σ H Q ⟨F, ι, objs, σd, rel, sr, p⟩ => ?_
  obtain ⟨x, o1, e1, p⟩ := p.bind
  refine ⟨F, ι, objs, σd, rel, sr, ?_⟩
  rw [e1]
  intro v ι1 H1 rel1 ex1 r1
  obtain ⟨xs, o2, e2, p⟩ := (p.at ex1).bind
  refine ⟨F, ι1, o1, σd, rel1, sr.ext ex1, ?_⟩
  rw [e2]
  intro v2 ι2 H2 rel2 ex2 r2
  exact (p.at ex2) (v :: v2) ι2 H2 rel2 .refl (.cons (r1.ext ex2) r2)
end
end RR

set_option maxHeartbeats 4000000
namespace RR
open PySem PySem.Spec PyProof.Rows L2

/-! ### from things to plain values: what is read so is not changed any more -/
def pullL (f : Objs → Nat → Option (D × Objs)) : Objs → List Nat → Option (List D × Objs)
  | o, [] => some ([], o)
  | o, i :: is => match f o i with
    | none => none
    | some (d, o1) => match pullL f o1 is with
      | none => none
      | some (ds, o2) => some (d :: ds, o2)
def pullAt : Nat → Objs → Nat → Option (D × Objs)
  | 0, _, _ => none
  | n + 1, o, i => match o[i]? with
    | none => none
    | some e => match e.ob with
      | .lst xs => some (.lst xs, o.set i ⟨false, e.ob⟩)
      | .dic ks vs => some (.dic ks vs, o.set i ⟨false, e.ob⟩)
      | .ins c ns vs => some (.ins c ns vs, o.set i ⟨false, e.ob⟩)
      | .lol is => match pullL (pullAt n) (o.set i ⟨false, e.ob⟩) is with
        | none => none
        | some (ds, o1) => some (.lst ds, o1)
def pull (o : Objs) : W → Option (D × Objs)
  | .v d => some (d, o)
  | .o i => pullAt 4 o i
def pulls : Objs → List W → Option (List D × Objs)
  | o, [] => some ([], o)
  | o, w :: ws => match pull o w with
    | none => none
    | some (d, o1) => match pulls o1 ws with
      | none => none
      | some (ds, o2) => some (d :: ds, o2)
@[simp] theorem pull_v (o : Objs) (d : D) : pull o (.v d) = some (d, o) := id rfl
@[simp] theorem pulls_nil (o : Objs) : pulls o [] = some ([], o) := id rfl
@[simp] theorem pulls_v (o : Objs) (d : D) (ws : List W) : pulls o (.v d :: ws) = match pulls o ws with | none => none | some (ds, o2) => some (d :: ds, o2) := id rfl
theorem pulls_vs (o : Objs) : ∀ ds : List D, pulls o (ds.map W.v) = some (ds, o)
  | [] => rfl
  | d :: ds => by rw [List.map_cons, pulls_v, pulls_vs o ds]
section
variable {g : GE} {F : Addr → Prop} {ι ι' ι1 ι2 : List Addr} {H H' H1 H2 : Hp} {objs objs' objs1 objs2 : Objs} {A A' : Addr → Prop}
theorem froze {i : Nat} {a : Addr} {e : Ent} (r : Rel g F ι H objs) (h : ι[i]? = some a) (ho : objs[i]? = some e) : ¬ Al F ι (objs.set i ⟨false, e.ob⟩) a := by
  refine (r.freeze ho).dead h (m := e.ob) ?_
  rw [List.getElem?_set_self (List.getElem?_eq_some_iff.mp ho).1]
theorem pullL_ok {f : Objs → Nat → Option (D × Objs)}
    (hf : ∀ (o : Objs) (i : Nat) (d : D) (o' : Objs) (v : V), f o i = some (d, o') → Rel g F ι H o → RAt ι i v → Rel g F ι H o' ∧ Ext ι o H ι o' H ∧ RV g (Al F ι o') H d v) :
    ∀ (is : List Nat) (o : Objs) (ds : List D) (o' : Objs) (vs : List V), pullL f o is = some (ds, o') → Rel g F ι H o → Paired (RAt ι) is vs → Rel g F ι H o' ∧ Ext ι o H ι o' H ∧ RVs g (Al F ι o') H ds vs
  | [], o, ds, o', vs, h, r, p => by
    cases h; cases p
    exact ⟨r, .refl, by simp only [RVs]⟩
  | i :: is, o, ds, o', vs, h, r, p => by
    cases p with
    | cons p ps =>
      simp only [pullL] at h
      split at h
      · cases h
      · rename_i d o1 h1
        split at h
        · cases h
        · rename_i es o2 h2
          cases h
          obtain ⟨r1, x1, k1⟩ := hf o i d o1 _ h1 r p
          obtain ⟨r2, x2, k2⟩ := pullL_ok hf is o1 es o' _ h2 r1 ps
          exact ⟨r2, x1.trans x2, by simp only [RVs]; exact ⟨_, _, rfl, k1.ext x2, k2⟩⟩
theorem pullAt_ok : ∀ (n : Nat) (o : Objs) (i : Nat) (d : D) (o' : Objs) (v : V), pullAt n o i = some (d, o') → Rel g F ι H o → RAt ι i v → Rel g F ι H o' ∧ Ext ι o H ι o' H ∧ RV g (Al F ι o') H d v
  | 0, o, i, d, o', v, h, _, _ => by cases h
  | n + 1, o, i, d, o', v, h, r, ⟨a, ha, hv⟩ => by
    subst hv
    simp only [pullAt] at h
    split at h
    · cases h
    · rename_i e he
      have fz := froze r ha he
      have rf := r.freeze he
      have xf : Ext ι o H ι (o.set i ⟨false, e.ob⟩) H := Ext.freeze he
      have q := (r.at_ i a e ha he).ext xf fun u k => k
      split at h
      · rename_i xs hx
        cases h
        rw [hx] at q fz rf xf ⊢
        obtain ⟨vs, q1, q2⟩ := q
        exact ⟨rf, xf, by simp only [RV]; exact ⟨a, vs, rfl, fz, q1, q2⟩⟩
      · rename_i ks ds hx
        cases h
        rw [hx] at q fz rf xf ⊢
        obtain ⟨vs, q1, q2, q3⟩ := q
        exact ⟨rf, xf, by simp only [RV]; exact ⟨a, vs, rfl, fz, q1, q2, q3⟩⟩
      · rename_i c ns ds hx
        cases h
        rw [hx] at q fz rf xf ⊢
        obtain ⟨C, dx, vs, q1, q2, q3, q4⟩ := q
        exact ⟨rf, xf, by simp only [RV]; exact ⟨a, C, dx, vs, rfl, fz, q1, q2, q3, q4⟩⟩
      · rename_i is hx
        split at h
        · cases h
        · rename_i ds o1 h1
          cases h
          have q0 := q
          rw [hx] at q0
          obtain ⟨vs, q1, q2⟩ := q0
          obtain ⟨r2, x2, k2⟩ := pullL_ok (pullAt_ok n) is _ ds o' vs h1 rf q2
          exact ⟨r2, xf.trans x2, by simp only [RV]; exact ⟨a, vs, rfl, x2.off q1 fz, q1, k2⟩⟩
theorem pull_ok {o o' : Objs} {w : W} {d : D} {v : V} (h : pull o w = some (d, o')) (r : Rel g F ι H o) (k : RW g ι (Al F ι o) H w v) : Rel g F ι H o' ∧ Ext ι o H ι o' H ∧ RV g (Al F ι o') H d v := by
  cases w with
  | v d' => cases h; exact ⟨r, .refl, k⟩
  | o i => exact pullAt_ok 4 o i d o' v h r k
theorem pulls_ok : ∀ {ws : List W} {o o' : Objs} {ds : List D} {vs : List V}, pulls o ws = some (ds, o') → Rel g F ι H o → RWs g ι (Al F ι o) H ws vs → Rel g F ι H o' ∧ Ext ι o H ι o' H ∧ RVs g (Al F ι o') H ds vs
  | [], o, o', ds, vs, h, r, p => by
    cases h; cases p
    exact ⟨r, .refl, by simp only [RVs]⟩
  | w :: ws, o, o', ds, vs, h, r, p => by
    cases p with
    | cons p ps =>
      simp only [pulls] at h
      split at h
      · cases h
      · rename_i d o1 h1
        split at h
        · cases h
        · rename_i es o2 h2
          cases h
          obtain ⟨r1, x1, k1⟩ := pull_ok h1 r p
          obtain ⟨r2, x2, k2⟩ := pulls_ok (ws := ws) h2 r1 (RWs.ext ps x1)
          exact ⟨r2, x1.trans x2, by simp only [RVs]; exact ⟨_, _, rfl, k1.ext x2, k2⟩⟩
end
/-- all things of the store -/
def allO : List W → Option (List Nat)
  | [] => some []
  | .o i :: ws => match allO ws with
    | some is => some (i :: is)
    | none => none
  | .v _ :: _ => none
theorem allO_ok {g : GE} {ι : List Addr} {A : Addr → Prop} {H : Hp} : ∀ {ws : List W} {is : List Nat} {vs : List V}, allO ws = some is → RWs g ι A H ws vs → Paired (RAt ι) is vs
  | [], is, vs, h, p => by cases h; cases p; exact .nil
  | .o i :: ws, is, vs, h, p => by
    cases p with
    | cons p ps =>
      simp only [allO] at h
      split at h
      · rename_i js hj
        cases h
        exact .cons p (allO_ok hj ps)
      · cases h
  | .v _ :: _, is, vs, h, p => by cases h
/-- a tuple; a list, plain or of the store -/
def tupW (ws : List W) (o : Objs) : R W := match pulls o ws with
  | some (ds, o) => if ds.length ≤ sizeLine then .ok (.v (.tup ds)) o else .stuck
  | none => .stuck
def lstMk (mu : Bool) (ws : List W) (o : Objs) : R W :=
  match mu, allO ws with
  | true, some (i :: is) => if ws.length ≤ sizeLine then .ok (.o o.length) (o ++ [⟨true, .lol (i :: is)⟩]) else .stuck
  | true, _ => match pulls o ws with
    | some (ds, o) => if ds.length ≤ sizeLine then .ok (.o o.length) (o ++ [⟨true, .lst ds⟩]) else .stuck
    | none => .stuck
  | false, _ => match pulls o ws with
    | some (ds, o) => if ds.length ≤ sizeLine then .ok (.v (.lst ds)) o else .stuck
    | none => .stuck
section
variable {g : GE} {F : Addr → Prop} {ι ι' ι1 ι2 : List Addr} {H H' H1 H2 : Hp} {objs objs' objs1 objs2 : Objs}
theorem RWs.length {A : Addr → Prop} {ws : List W} {vs : List V} (h : RWs g ι A H ws vs) : ws.length = vs.length := Paired.length h
theorem lstMk_ok {mu : Bool} {ws : List W} {vs : List V} {Q : VK} (r : Rel g F ι H objs) (k : RWs g ι (Al F ι objs) H ws vs) (p : Post g F ι objs H (lstMk mu ws objs) Q) : vs.length ≤ sizeLine ∧ ∀ p, H p = none → Q (.ref p) (upd H p (.lst vs)) := by
  unfold lstMk at p
  split at p
  · rename_i i is ha
    split at p
    · rename_i hz
      refine ⟨by rw [← k.length]; exact hz, fun q hq => ?_⟩
      refine p _ (ι ++ [q]) _ (r.alloc hq ⟨vs, upd_same, Paired.mapP (allO_ok ha k) fun _ _ z => z.ext (Ext.alloc (o := .lst vs) (m := .lol (i :: is)) r hq)⟩) (Ext.alloc r hq) ⟨q, ?_, rfl⟩
      rw [← r.len]; simp
    · exact p.elim
  · split at p
    · rename_i ds o1 hp
      obtain ⟨r1, x1, k1⟩ := pulls_ok hp r k
      split at p
      · rename_i hz
        exact ⟨by rw [← k1.length]; exact hz, fun q hq => (p.at x1).freshM r1 hq k1⟩
      · exact p.elim
    · exact p.elim
  · split at p
    · rename_i ds o1 hp
      obtain ⟨r1, x1, k1⟩ := pulls_ok hp r k
      split at p
      · rename_i hz
        exact ⟨by rw [← k1.length]; exact hz, fun q hq => (p.at x1).freshL r1 hq k1⟩
      · exact p.elim
    · exact p.elim
end
section
variable {X : Cx} {a b c e : Expr} {es : List Expr} {pos : Pos} {ma mb mc : ME} {ml : ML}
def mTup (l : ML) : ME := fun σ o => (l σ o).bind tupW
def mLst (mu : Bool) (l : ML) : ME := fun σ o => (l σ o).bind (lstMk mu)
theorem se_tup {k : Nat} (h : SA X es ml) : SE X (.Tuple es k pos) (mTup ml) := by
  refine (pe_tup h).weak fun σ H Q ⟨F, ι, objs, σd, rel, sr, p⟩ => ?_
  obtain ⟨ws, o1, e1, p⟩ := p.bind
  refine ⟨F, ι, objs, σd, rel, sr, ?_⟩
  rw [e1]
  intro vs ι1 H1 rel1 ex1 r1
  have p := p.at ex1
  unfold tupW at p
  split at p
  · rename_i ds o2 hp
    obtain ⟨r2, x2, k2⟩ := pulls_ok hp rel1 r1
    split at p
    · rename_i hz
      exact ⟨by rw [← k2.length]; exact hz, fun q hq => (p.at x2).freshT r2 hq k2⟩
    · exact p.elim
  · exact p.elim
theorem se_lst {mu : Bool} (h : SA X es ml) : SE X (.List es pos) (mLst mu ml) := by
  refine (pe_lst h).weak fun σ H Q ⟨F, ι, objs, σd, rel, sr, p⟩ => ?_
  obtain ⟨ws, o1, e1, p⟩ := p.bind
  refine ⟨F, ι, objs, σd, rel, sr, ?_⟩
  rw [e1]
  intro vs ι1 H1 rel1 ex1 r1
  exact lstMk_ok rel1 r1 (p.at ex1)

/-! ### xs[i] -/
def nthD (xs : List D) (i : Int) : Option D := atI xs i
def ixW (a b : W) (o : Objs) : R W :=
  match b with
  | .v (.int i) => match a with
    | .v (.str x) => match atI x.cps.toList i with
      | some c => if x.length ≤ sizeLine then .ok (.v (.str ⟨#[c]⟩)) o else .stuck
      | none => .stuck
    | a => match seqW o a with
      | some xs => match atI xs i with
        | some d => .ok (.v d) o
        | none => .stuck
      | none => match a with
        | .o k => match o[k]? with
          | some ⟨_, .lol is⟩ => match atI is i with
            | some j => .ok (.o j) o
            | none => .stuck
          | _ => .stuck
        | _ => .stuck
  | _ => .stuck
theorem atI_rel {α β : Type} {xs : List α} {ys : List β} {i : Int} {x : α} (hl : xs.length = ys.length) (h : atI xs i = some x) : ∃ (j : Nat) (y : β), xs[j]? = some x ∧ ys[j]? = some y ∧ atI ys i = some y := by
  unfold atI at h
  cases hj : ixN xs.length i with
  | none => rw [hj] at h; cases h
  | some j =>
    rw [hj] at h
    have h' : xs[j]? = some x := h
    have hlt := (List.getElem?_eq_some_iff.mp h').1
    have hlt' : j < ys.length := by omega
    refine ⟨j, ys[j], h', List.getElem?_eq_getElem hlt', ?_⟩
    unfold atI
    rw [← hl, hj]
    exact List.getElem?_eq_getElem hlt'
theorem ir_ix : IxR X (rW2 (gX X) ixW) := by
  intro value slice pins s σ H x y v u Q I rx ry ⟨F, ι, objs, w1, w2, rel, h1, h2, p⟩ hs
  unfold ixW at p
  split at p
  · rename_i i
    simp only [RW, RV] at h2
    subst h2
    split at p
    · split at p
      · rename_i c hc
        split at p
        · rename_i hz
          simp only [RW, RV] at h1
          subst h1
          exact ix_str value slice pins s σ H _ _ v u Q I rx ry ⟨_, _, c, rfl, rfl, hz, hc, p.flat rel (by simp only [RV])⟩ hs
        · exact p.elim
      · exact p.elim
    · split at p
      · rename_i xs hx
        split at p
        · rename_i d hd
          obtain ⟨a, vs, rfl, q, k⟩ := seqW_ok rel h1 hx
          obtain ⟨j, z, e1, e2, e3⟩ := atI_rel k.length hd
          obtain ⟨z', e4, e5⟩ := k.get e1
          rw [e2] at e4; cases e4
          rcases q with q | q
          · exact ix_list value slice pins s σ H _ _ v u Q I rx ry ⟨a, vs, i, z, rfl, rfl, q, e3, p.flat rel e5⟩ hs
          · exact ix_tup value slice pins s σ H _ _ v u Q I rx ry ⟨a, vs, i, z, rfl, rfl, q, e3, p.flat rel e5⟩ hs
        · exact p.elim
      · split at p
        · split at p
          · rename_i b is hs2
            split at p
            · rename_i j hj
              obtain ⟨a, ha, rfl⟩ := h1
              obtain ⟨vs, q1, q2⟩ := rel.at_ _ a _ ha hs2
              obtain ⟨m, z, e1, e2, e3⟩ := atI_rel (Paired.length q2) hj
              have e5 : RAt ι j z := by
                have gen : ∀ {is : List Nat} {vs : List V} {m : Nat}, Paired (RAt ι) is vs → is[m]? = some j → vs[m]? = some z → RAt ι j z := by
                  intro is vs m pr
                  induction pr generalizing m with
                  | nil => intro h; simp at h
                  | cons r _ ih =>
                    intro h h'
                    cases m with
                    | zero => simp at h h'; subst h h'; exact r
                    | succ m => exact ih (by simpa using h) (by simpa using h')
                exact gen q2 e1 e2
              exact ix_list value slice pins s σ H _ _ v u Q I rx ry ⟨a, vs, i, z, rfl, rfl, SqL.of q1, e3, p.ok rel e5⟩ hs
            · exact p.elim
          · exact p.elim
        · exact p.elim
  · exact p.elim
theorem se_ix (ha : SE X a ma) (hb : SE X b mb) (hs : PlainIx b) : SE X (.Subscript a b pos) (mBin ixW ma mb) := by
  refine (pe_ix ir_ix ha hb hs).weak fun σ H Q ⟨F, ι, objs, σd, rel, sr, p⟩ => ?_
  obtain ⟨x, o1, e1, p⟩ := p.bind
  refine ⟨F, ι, objs, σd, rel, sr, ?_⟩
  rw [e1]
  intro v ι1 H1 rel1 ex1 r1
  obtain ⟨y, o2, e2, p⟩ := (p.at ex1).bind
  refine ⟨F, ι1, o1, σd, rel1, sr.ext ex1, ?_⟩
  rw [e2]
  intro v2 ι2 H2 rel2 ex2 r2
  exact ⟨F, ι2, o2, x, y, rel2, r1.ext ex2, r2, p.at ex2⟩
end
end RR

set_option maxHeartbeats 4000000
namespace RR
open PySem PySem.Spec PyProof.Rows L2
def rWc (g : GE) (f : List W → Objs → R W) : List V → Hp → VK → Prop := fun xs H Q => ∃ F ι objs ws, Rel g F ι H objs ∧ RWs g ι (Al F ι objs) H ws xs ∧ Post g F ι objs H (f ws objs) Q
/-- a function of one thing; of two -/
def on1 (f : W → Objs → R W) (ws : List W) (o : Objs) : R W := match ws with | [a] => f a o | _ => .stuck
def on2 (f : W → W → Objs → R W) (ws : List W) (o : Objs) : R W := match ws with | [a, b] => f a b o | _ => .stuck
section
variable {X : Cx} {a b c e : Expr} {es : List Expr} {pos p : Pos} {ma mb mc : ME} {ml : ML} {x : Str} {bid : String}
theorem cr_on1 {cal : Value} {f : W → Objs → R W} (h : ∀ (pins : List (Addr × Obj)) (s : Shared) (σ : L2.St) (H : Hp) (x : V) (us : List Value) (Q : VK) (F : Addr → Prop) (ι : List Addr) (objs : Objs) (w : W), L2.Inv X pins σ H s → Vals [x] us → Rel (gX X) F ι H objs → RW (gX X) ι (Al F ι objs) H w x → Post (gX X) F ι objs H (f w objs) Q →
    wpAny (model X.prog X.w) X.A (call cal us) (EP X pins σ Q) X.xe s) : CallR X cal (rWc (gX X) (on1 f)) := by
  intro pins s σ H xs us Q I r ⟨F, ι, objs, ws, rel, k, p⟩
  cases k with
  | nil => exact p.elim
  | cons k1 ks =>
    cases ks with
    | nil => exact h pins s σ H _ us Q F ι objs _ I r rel k1 p
    | cons _ _ => exact p.elim
theorem cr_on2 {cal : Value} {f : W → W → Objs → R W} (h : ∀ (pins : List (Addr × Obj)) (s : Shared) (σ : L2.St) (H : Hp) (x y : V) (us : List Value) (Q : VK) (F : Addr → Prop) (ι : List Addr) (objs : Objs) (w z : W), L2.Inv X pins σ H s → Vals [x, y] us → Rel (gX X) F ι H objs → RW (gX X) ι (Al F ι objs) H w x → RW (gX X) ι (Al F ι objs) H z y → Post (gX X) F ι objs H (f w z objs) Q →
    wpAny (model X.prog X.w) X.A (call cal us) (EP X pins σ Q) X.xe s) : CallR X cal (rWc (gX X) (on2 f)) := by
  intro pins s σ H xs us Q I r ⟨F, ι, objs, ws, rel, k, p⟩
  cases k with
  | nil => exact p.elim
  | cons k1 ks =>
    cases ks with
    | nil => exact p.elim
    | cons k2 ks =>
      cases ks with
      | nil => exact h pins s σ H _ _ us Q F ι objs _ _ I r rel k1 k2 p
      | cons _ _ => exact p.elim
def mCall (f : List W → Objs → R W) (l : ML) : ME := fun σ o => (l σ o).bind f
theorem se_callB {f : List W → Objs → R W} (hc : CallR X (.builtin bid) (rWc (gX X) f)) (hg : Gl X x) (hm : X.mg x = none) (hv : bootBuiltins x = some (.builtin bid)) (ha : SA X (e :: es) ml) (hn : x ≠ "__name__") (hdb : (x == ("__debug__" : Str)) = false)
    (hst : (e :: es).all (fun e => !isStar e) = true) : SE X (.Call (.Name x p) (e :: es) [] pos) (mCall f ml) := by
  have h1 : isStar e = false := by simp only [List.all_cons, Bool.and_eq_true, Bool.not_eq_true'] at hst; exact hst.1
  have h2 : es.all (fun e => !isStar e) = true := by simp only [List.all_cons, Bool.and_eq_true] at hst; exact hst.2
  refine (pe_callB hc hg hm hv ha hn hdb (star_cons h1 _) (star_none h2)).weak fun σ H Q ⟨F, ι, objs, σd, rel, sr, p⟩ => ?_
  obtain ⟨ws, o1, e1, p⟩ := p.bind
  refine ⟨F, ι, objs, σd, rel, sr, ?_⟩
  rw [e1]
  intro vs ι1 H1 rel1 ex1 r1
  exact ⟨F, ι1, o1, ws, rel1, r1, p.at ex1⟩
theorem se_callTy {f : List W → Objs → R W} {T : String} (hc : CallR X (.type T) (rWc (gX X) f)) (hg : Gl X x) (hm : X.mg x = none) (hv : bootBuiltins x = some (.type T)) (ha : SA X (e :: es) ml) (hn : x ≠ "__name__") (hdb : (x == ("__debug__" : Str)) = false)
    (hst : (e :: es).all (fun e => !isStar e) = true) : SE X (.Call (.Name x p) (e :: es) [] pos) (mCall f ml) := by
  have h1 : isStar e = false := by simp only [List.all_cons, Bool.and_eq_true, Bool.not_eq_true'] at hst; exact hst.1
  have h2 : es.all (fun e => !isStar e) = true := by simp only [List.all_cons, Bool.and_eq_true] at hst; exact hst.2
  refine (pe_callTy hc hg hm hv ha hn hdb (star_cons h1 _) (star_none h2)).weak fun σ H Q ⟨F, ι, objs, σd, rel, sr, p⟩ => ?_
  obtain ⟨ws, o1, e1, p⟩ := p.bind
  refine ⟨F, ι, objs, σd, rel, sr, ?_⟩
  rw [e1]
  intro vs ι1 H1 rel1 ex1 r1
  exact ⟨F, ι1, o1, ws, rel1, r1, p.at ex1⟩

/-! ### the built-in functions -/
def lenW (a : W) (o : Objs) : R W :=
  match a with
  | .v (.str x) => if x.length ≤ sizeLine then .ok (.v (.int x.length)) o else .stuck
  | .v (.dic ks _) => .ok (.v (.int ks.length)) o
  | a => match seqW o a with
    | some xs => .ok (.v (.int xs.length)) o
    | none => match a with
      | .o k => match o[k]? with
        | some ⟨_, .lol is⟩ => .ok (.v (.int is.length)) o
        | some ⟨_, .dic ks _⟩ => .ok (.v (.int ks.length)) o
        | _ => .stuck
      | _ => .stuck
theorem cb_len : CallR X (.builtin "len") (rWc (gX X) (on1 lenW)) := by
  refine cr_on1 fun pins s σ H x us Q F ι objs w I r rel k p => ?_
  unfold lenW at p
  split at p
  · split at p
    · rename_i hz
      simp only [RW, RV] at k; subst k
      exact call_len pins s σ H _ us Q I r ⟨_, _, rfl, ⟨hz, rfl⟩, p.flat rel (by simp only [RV])⟩
    · exact p.elim
  · simp only [RW, RV] at k
    obtain ⟨a, kvs, rfl, h1, h2, h3, h4⟩ := k
    refine call_lenD pins s σ H _ us Q I r ⟨a, kvs, rfl, h2, p.flat rel ?_⟩
    simp only [RV, h3, List.length_map]
  · split at p
    · rename_i xs hx
      obtain ⟨a, vs, rfl, q, k2⟩ := seqW_ok rel k hx
      refine call_len pins s σ H _ us Q I r ⟨_, vs.length, rfl, q.elim (fun q => .inl ⟨vs, q, rfl⟩) (fun q => .inr ⟨vs, q, rfl⟩), p.flat rel ?_⟩
      simp only [RV, k2.length]
    · split at p
      · split at p
        · rename_i is hs
          obtain ⟨a, ha, rfl⟩ := k
          obtain ⟨vs, q1, q2⟩ := rel.at_ _ a _ ha hs
          refine call_len pins s σ H _ us Q I r ⟨_, vs.length, rfl, .inl ⟨vs, SqL.of q1, rfl⟩, p.flat rel ?_⟩
          simp only [RV]; rw [Paired.length q2]
        · rename_i ks ds hs
          obtain ⟨a, ha, rfl⟩ := k
          obtain ⟨kvs, q1, q2, q3⟩ := rel.at_ _ a _ ha hs
          refine call_lenD pins s σ H _ us Q I r ⟨a, kvs, rfl, q1, p.flat rel ?_⟩
          simp only [RV, q2, List.length_map]
        · exact p.elim
      · exact p.elim
def absW (a : W) (o : Objs) : R W := match a with | .v (.int i) => .ok (.v (.int (if i < 0 then -i else i))) o | _ => .stuck
theorem cb_abs : CallR X (.builtin "abs") (rWc (gX X) (on1 absW)) := by
  refine cr_on1 fun pins s σ H x us Q F ι objs w I r rel k p => ?_
  unfold absW at p
  split at p
  · simp only [RW, RV] at k; subst k
    exact call_abs pins s σ H _ us Q I r ⟨_, rfl, p.flat rel (by simp only [RV])⟩
  · exact p.elim
def intW (a : W) (o : Objs) : R W := match a with | .v (.int i) => .ok (.v (.int i)) o | .v (.bl k) => .ok (.v (.int (if k then 1 else 0))) o | _ => .stuck
theorem ct_int : CallR X (.type "int") (rWc (gX X) (on1 intW)) := by
  refine cr_on1 fun pins s σ H x us Q F ι objs w I r rel k p => ?_
  unfold intW at p
  split at p
  · simp only [RW, RV] at k; subst k
    exact call_int1 pins s σ H _ us Q I r (.inl ⟨_, rfl, p.flat rel (by simp only [RV])⟩)
  · simp only [RW, RV] at k; subst k
    exact call_int1 pins s σ H _ us Q I r (.inr ⟨_, rfl, p.flat rel (by simp only [RV])⟩)
  · exact p.elim
def divmodW (a b : W) (o : Objs) : R W := match a, b with | .v (.int i), .v (.int j) => if CDiv i j then .ok (.v (.tup [.int (i / j), .int (i % j)])) o else .stuck | _, _ => .stuck
theorem cb_divmod : CallR X (.builtin "divmod") (rWc (gX X) (on2 divmodW)) := by
  refine cr_on2 fun pins s σ H x y us Q F ι objs w z I r rel k k2 p => ?_
  unfold divmodW at p
  split at p
  · split at p
    · rename_i hc
      simp only [RW, RV] at k k2; subst k k2
      exact call_divmod pins s σ H _ us Q I r ⟨_, _, rfl, hc, fun q hq => p.freshT rel hq (by simp [RVs, RV])⟩
    · exact p.elim
  · exact p.elim
/-- lists of ints, of bools, of texts -/
def intsD : List D → Option (List Int)
  | [] => some []
  | .int i :: ds => match intsD ds with | some is => some (i :: is) | none => none
  | _ :: _ => none
def boolsD : List D → Option (List Bool)
  | [] => some []
  | .bl i :: ds => match boolsD ds with | some is => some (i :: is) | none => none
  | _ :: _ => none
def strsD : List D → Option (List Str)
  | [] => some []
  | .str i :: ds => match strsD ds with | some is => some (i :: is) | none => none
  | _ :: _ => none
theorem intsD_map : ∀ is : List Int, intsD (is.map D.int) = some is
  | [] => rfl
  | i :: is => by simp only [List.map_cons, intsD, intsD_map is]
theorem boolsD_map : ∀ is : List Bool, boolsD (is.map D.bl) = some is
  | [] => rfl
  | i :: is => by simp only [List.map_cons, boolsD, boolsD_map is]
theorem strsD_map : ∀ is : List Str, strsD (is.map D.str) = some is
  | [] => rfl
  | i :: is => by simp only [List.map_cons, strsD, strsD_map is]
theorem intsD_ok {g : GE} {A : Addr → Prop} {H : Hp} : ∀ {ds : List D} {is : List Int} {vs : List V}, intsD ds = some is → RVs g A H ds vs → vs = is.map V.int
  | [], is, vs, h, k => by cases h; simpa [RVs] using k
  | d :: ds, is, vs, h, k => by
    simp only [RVs] at k
    obtain ⟨v, r, rfl, k1, k2⟩ := k
    cases d <;> simp only [intsD, reduceCtorEq] at h
    split at h
    · rename_i js hj
      cases h
      simp only [RV] at k1
      rw [intsD_ok hj k2, k1]; rfl
    · cases h
theorem boolsD_ok {g : GE} {A : Addr → Prop} {H : Hp} : ∀ {ds : List D} {is : List Bool} {vs : List V}, boolsD ds = some is → RVs g A H ds vs → vs = is.map V.bl
  | [], is, vs, h, k => by cases h; simpa [RVs] using k
  | d :: ds, is, vs, h, k => by
    simp only [RVs] at k
    obtain ⟨v, r, rfl, k1, k2⟩ := k
    cases d <;> simp only [boolsD, reduceCtorEq] at h
    split at h
    · rename_i js hj
      cases h
      simp only [RV] at k1
      rw [boolsD_ok hj k2, k1]; rfl
    · cases h
theorem strsD_ok {g : GE} {A : Addr → Prop} {H : Hp} : ∀ {ds : List D} {is : List Str} {vs : List V}, strsD ds = some is → RVs g A H ds vs → vs = is.map V.str
  | [], is, vs, h, k => by cases h; simpa [RVs] using k
  | d :: ds, is, vs, h, k => by
    simp only [RVs] at k
    obtain ⟨v, r, rfl, k1, k2⟩ := k
    cases d <;> simp only [strsD, reduceCtorEq] at h
    split at h
    · rename_i js hj
      cases h
      simp only [RV] at k1
      rw [strsD_ok hj k2, k1]; rfl
    · cases h
def sumW (a : W) (o : Objs) : R W := match lstW o a with | some xs => (match intsD xs with | some is => .ok (.v (.int is.sum)) o | none => .stuck) | none => .stuck
theorem cb_sum (hc : X.calm = true) : CallR X (.builtin "sum") (rWc (gX X) (on1 sumW)) := by
  refine cr_on1 fun pins s σ H x us Q F ι objs w I r rel k p => ?_
  unfold sumW at p
  split at p
  · rename_i xs hx
    split at p
    · rename_i is hi
      obtain ⟨a, vs, rfl, q, k2⟩ := lstW_ok rel k hx
      rw [intsD_ok hi k2] at q
      exact cr_sum hc pins s σ H _ us Q I r ⟨a, is, rfl, SqL.of q, p.flat rel (by simp only [RV])⟩
    · exact p.elim
  · exact p.elim
def maxI : List Int → Int
  | [] => 0
  | [i] => i
  | i :: is => max i (maxI is)
def minI : List Int → Int
  | [] => 0
  | [i] => i
  | i :: is => min i (minI is)
theorem maxI_mem : ∀ {is : List Int}, 0 < is.length → maxI is ∈ is ∧ ∀ y ∈ is, y ≤ maxI is
  | [], h => by simp at h
  | [i], _ => by simp [maxI]
  | i :: j :: is, _ => by
    obtain ⟨h1, h2⟩ := maxI_mem (is := j :: is) (by simp)
    simp only [maxI]
    refine ⟨?_, fun y hy => ?_⟩
    · rcases Int.le_total i (maxI (j :: is)) with h | h
      · rw [Int.max_eq_right h]; exact List.mem_cons_of_mem _ h1
      · rw [Int.max_eq_left h]; simp
    · rcases List.mem_cons.mp hy with rfl | hy
      · exact Int.le_max_left _ _
      · exact Int.le_trans (h2 y hy) (Int.le_max_right _ _)
theorem minI_mem : ∀ {is : List Int}, 0 < is.length → minI is ∈ is ∧ ∀ y ∈ is, minI is ≤ y
  | [], h => by simp at h
  | [i], _ => by simp [minI]
  | i :: j :: is, _ => by
    obtain ⟨h1, h2⟩ := minI_mem (is := j :: is) (by simp)
    simp only [minI]
    refine ⟨?_, fun y hy => ?_⟩
    · rcases Int.le_total i (minI (j :: is)) with h | h
      · rw [Int.min_eq_left h]; simp
      · rw [Int.min_eq_right h]; exact List.mem_cons_of_mem _ h1
    · rcases List.mem_cons.mp hy with rfl | hy
      · exact Int.min_le_left _ _
      · exact Int.le_trans (Int.min_le_right _ _) (h2 y hy)
def maxW (ws : List W) (o : Objs) : R W := match ws with
  | [.v (.int i), .v (.int j)] => .ok (.v (.int (if j > i then j else i))) o
  | [a] => (match lstW o a with | some xs => (match intsD xs with | some is => if 0 < is.length then .ok (.v (.int (maxI is))) o else .stuck | none => .stuck) | none => .stuck)
  | _ => .stuck
def minW (ws : List W) (o : Objs) : R W := match ws with
  | [.v (.int i), .v (.int j)] => .ok (.v (.int (if j < i then j else i))) o
  | [a] => (match lstW o a with | some xs => (match intsD xs with | some is => if 0 < is.length then .ok (.v (.int (minI is))) o else .stuck | none => .stuck) | none => .stuck)
  | _ => .stuck
theorem paired1 {α β : Type} {P : α → β → Prop} {a : α} {ys : List β} (h : Paired P [a] ys) : ∃ y, ys = [y] ∧ P a y := by
  cases h with | cons h t => cases t; exact ⟨_, rfl, h⟩
theorem paired2 {α β : Type} {P : α → β → Prop} {a b : α} {ys : List β} (h : Paired P [a, b] ys) : ∃ y z, ys = [y, z] ∧ P a y ∧ P b z := by
  cases h with | cons h t => cases t with | cons h2 t => cases t; exact ⟨_, _, rfl, h, h2⟩
theorem cb_max (hc : X.calm = true) : CallR X (.builtin "max") (rWc (gX X) maxW) := by
  intro pins s σ H xs us Q I r ⟨F, ι, objs, ws, rel, k, p⟩
  unfold maxW at p
  split at p
  · obtain ⟨y, z, rfl, k1, k2⟩ := paired2 k
    simp only [RW, RV] at k1 k2; subst k1 k2
    exact call_max2 hc pins s σ H _ us Q I r ⟨_, _, rfl, p.flat rel (by simp only [RV])⟩
  · obtain ⟨y, rfl, k1⟩ := paired1 k
    split at p
    · rename_i xs hx
      split at p
      · rename_i is hi
        split at p
        · rename_i hl
          obtain ⟨a, vs, rfl, q, k2⟩ := lstW_ok rel k1 hx
          rw [intsD_ok hi k2] at q
          refine cr_max hc pins s σ H _ us Q I r ⟨a, is, rfl, SqL.of q, hl, fun m hm hy => ?_⟩
          have := maxI_mem hl
          have e : m = maxI is := Int.le_antisymm (this.2 m hm) (hy _ this.1)
          subst e
          exact p.flat rel (by simp only [RV])
        · exact p.elim
      · exact p.elim
    · exact p.elim
  · exact p.elim
theorem cb_min (hc : X.calm = true) : CallR X (.builtin "min") (rWc (gX X) minW) := by
  intro pins s σ H xs us Q I r ⟨F, ι, objs, ws, rel, k, p⟩
  unfold minW at p
  split at p
  · obtain ⟨y, z, rfl, k1, k2⟩ := paired2 k
    simp only [RW, RV] at k1 k2; subst k1 k2
    exact call_min2 hc pins s σ H _ us Q I r ⟨_, _, rfl, p.flat rel (by simp only [RV])⟩
  · obtain ⟨y, rfl, k1⟩ := paired1 k
    split at p
    · rename_i xs hx
      split at p
      · rename_i is hi
        split at p
        · rename_i hl
          obtain ⟨a, vs, rfl, q, k2⟩ := lstW_ok rel k1 hx
          rw [intsD_ok hi k2] at q
          refine cr_min hc pins s σ H _ us Q I r ⟨a, is, rfl, SqL.of q, hl, fun m hm hy => ?_⟩
          have := minI_mem hl
          have e : m = minI is := Int.le_antisymm (hy _ this.1) (this.2 m hm)
          subst e
          exact p.flat rel (by simp only [RV])
        · exact p.elim
      · exact p.elim
    · exact p.elim
  · exact p.elim
def anyW (a : W) (o : Objs) : R W := match lstW o a with | some xs => (match boolsD xs with | some is => .ok (.v (.bl (is.any id))) o | none => .stuck) | none => .stuck
def allW (a : W) (o : Objs) : R W := match lstW o a with | some xs => (match boolsD xs with | some is => .ok (.v (.bl (is.all id))) o | none => .stuck) | none => .stuck
theorem cb_any (hc : X.calm = true) : CallR X (.builtin "any") (rWc (gX X) (on1 anyW)) := by
  refine cr_on1 fun pins s σ H x us Q F ι objs w I r rel k p => ?_
  unfold anyW at p
  split at p
  · rename_i xs hx
    split at p
    · rename_i is hi
      obtain ⟨a, vs, rfl, q, k2⟩ := lstW_ok rel k hx
      rw [boolsD_ok hi k2] at q
      exact cr_any hc pins s σ H _ us Q I r ⟨a, is, rfl, SqL.of q, p.flat rel (by simp only [RV])⟩
    · exact p.elim
  · exact p.elim
theorem cb_all (hc : X.calm = true) : CallR X (.builtin "all") (rWc (gX X) (on1 allW)) := by
  refine cr_on1 fun pins s σ H x us Q F ι objs w I r rel k p => ?_
  unfold allW at p
  split at p
  · rename_i xs hx
    split at p
    · rename_i is hi
      obtain ⟨a, vs, rfl, q, k2⟩ := lstW_ok rel k hx
      rw [boolsD_ok hi k2] at q
      exact cr_all hc pins s σ H _ us Q I r ⟨a, is, rfl, SqL.of q, p.flat rel (by simp only [RV])⟩
    · exact p.elim
  · exact p.elim
/-- list(xs), tuple(xs) -/
def listW (mu : Bool) (a : W) (o : Objs) : R W := match seqW o a with | some xs => if xs.length ≤ sizeLine then (if mu then .ok (.o o.length) (o ++ [⟨true, .lst xs⟩]) else .ok (.v (.lst xs)) o) else .stuck | none => .stuck
theorem ct_list {mu : Bool} : CallR X (.type "list") (rWc (gX X) (on1 (listW mu))) := by
  refine cr_on1 fun pins s σ H x us Q F ι objs w I r rel k p => ?_
  unfold listW at p
  split at p
  · rename_i xs hx
    obtain ⟨a, vs, rfl, q, k2⟩ := seqW_ok rel k hx
    split at p
    · split at p
      · exact call_list_of pins s σ H _ us Q I r ⟨a, vs, rfl, q, fun l hl => p.freshM rel hl k2⟩
      · exact call_list_of pins s σ H _ us Q I r ⟨a, vs, rfl, q, fun l hl => p.freshL rel hl k2⟩
    · exact p.elim
  · exact p.elim
def tupleW (a : W) (o : Objs) : R W := match a with
  | .v (.tup xs) => .ok (.v (.tup xs)) o
  | a => match lstW o a with
    | some xs => .ok (.v (.tup xs)) o
    | none => .stuck
theorem ct_tuple : CallR X (.type "tuple") (rWc (gX X) (on1 tupleW)) := by
  refine cr_on1 fun pins s σ H x us Q F ι objs w I r rel k p => ?_
  unfold tupleW at p
  split at p
  · have k0 := k
    simp only [RW, RV] at k
    obtain ⟨a, vs, rfl, h1, h2, h3⟩ := k
    exact call_tuple_of pins s σ H _ us Q I r ⟨a, vs, rfl, .inr ⟨SqT.of h2, p.ok rel k0⟩⟩
  · split at p
    · rename_i xs hx
      obtain ⟨a, vs, rfl, q, k2⟩ := lstW_ok rel k hx
      exact call_tuple_of pins s σ H _ us Q I r ⟨a, vs, rfl, .inl ⟨SqL.of q, fun l hl => p.freshT rel hl k2⟩⟩
    · exact p.elim
/-! ### isinstance with a built-in class -/
def tyD : D → Option String
  | .non => some "NoneType"
  | .bl _ => some "bool"
  | .int _ => some "int"
  | .str _ => some "str"
  | .tup _ => some "tuple"
  | .lst _ => some "list"
  | .dic _ _ => some "dict"
  | _ => none
def tyW (o : Objs) : W → Option String
  | .v d => tyD d
  | .o i => match o[i]? with
    | some ⟨_, .lst _⟩ => some "list"
    | some ⟨_, .lol _⟩ => some "list"
    | some ⟨_, .dic _ _⟩ => some "dict"
    | _ => none
theorem tyW_ok {g : GE} {F : Addr → Prop} {ι : List Addr} {H : Hp} {o : Objs} {w : W} {v : V} {n : String} (rel : Rel g F ι H o) (h : RW g ι (Al F ι o) H w v) (e : tyW o w = some n) : TyX g.K H v (.type n) := by
  cases w with
  | v d =>
    cases d <;> simp only [tyW, tyD, Option.some.injEq, reduceCtorEq] at e <;> subst e <;> simp only [RW, RV] at h
    · subst h; exact .base .non
    · subst h; exact .base (.bl _)
    · subst h; exact .base (.int _)
    · subst h; exact .base (.str _)
    · obtain ⟨a, vs, rfl, h1, h2, h3⟩ := h; exact .base (.tup h2)
    · obtain ⟨a, vs, rfl, h1, h2, h3⟩ := h; exact .base (.lst h2)
    · obtain ⟨a, vs, rfl, h1, h2, h3⟩ := h; exact .base (.dK h2)
  | o i =>
    obtain ⟨a, ha, rfl⟩ := h
    simp only [tyW] at e
    split at e
    · rename_i hs; cases e
      obtain ⟨vs, q1, q2⟩ := rel.at_ _ a _ ha hs
      exact .base (.lst q1)
    · rename_i hs; cases e
      obtain ⟨vs, q1, q2⟩ := rel.at_ _ a _ ha hs
      exact .base (.lst q1)
    · rename_i hs; cases e
      obtain ⟨vs, q1, q2⟩ := rel.at_ _ a _ ha hs
      exact .base (.dK q1)
    · cases e
def isiW (a b : W) (o : Objs) : R W := match b with
  | .v (.ty n) => match tyW o a with
    | some m => match kitB m n with
      | some k => .ok (.v (.bl k)) o
      | none => .stuck
    | none => .stuck
  | _ => .stuck
theorem cb_isi : CallR X (.builtin "isinstance") (rWc (gX X) (on2 isiW)) := by
  refine cr_on2 fun pins s σ H x y us Q F ι objs w z I r rel k k2 p => ?_
  unfold isiW at p
  split at p
  · split at p
    · rename_i m hm
      split at p
      · rename_i b hb
        simp only [RW, RV] at k2; subst k2
        exact call_isi pins s σ H _ us Q I r ⟨_, _, _, _, b, rfl, .ty _, tyW_ok rel k hm, kit_ty hb, p.flat rel (by simp only [RV])⟩
      · exact p.elim
    · exact p.elim
  · exact p.elim
end
end RR

set_option maxHeartbeats 4000000
namespace RR
open PySem PySem.Spec PyProof.Rows L2
/-! ### slices -/
def cutD (xs : List D) (lo hi : Option Int) : List D := (xs.drop (HT.sIx xs.length 0 lo)).take (HT.sIx xs.length xs.length hi - HT.sIx xs.length 0 lo)
/-- the items of a list, the script's too -/
def lsqW (objs : Objs) : W → Option (List D)
  | .v (.lst xs) => some xs
  | .v (.scr xs) => some xs
  | .o i => match objs[i]? with
    | some ⟨_, .lst xs⟩ => some xs
    | _ => none
  | _ => none
theorem lsqW_ok {g : GE} {F : Addr → Prop} {ι : List Addr} {H : Hp} {objs : Objs} {w : W} {v : V} {xs : List D} (r : Rel g F ι H objs) (h : RW g ι (Al F ι objs) H w v) (e : lsqW objs w = some xs) : ∃ a vs, v = .ref a ∧ SqL g.K H a vs ∧ RVs g (Al F ι objs) H xs vs := by
  cases w with
  | v d =>
    cases d <;> simp only [lsqW, Option.some.injEq, reduceCtorEq] at e
    · subst e
      simp only [RW, RV] at h
      obtain ⟨a, vs, h1, h2, h3, h4⟩ := h
      exact ⟨a, vs, h1, SqL.of h3, h4⟩
    · subst e
      simp only [RW, RV] at h
      obtain ⟨a, vs, h1, h2, h4⟩ := h
      refine ⟨a, vs, h1, ?_, h4⟩
      rcases h2 with ⟨_, h2⟩ | h2
      · exact .inl h2
      · exact .inr h2
  | o i =>
    have e' : lstW objs (.o i) = some xs := e
    obtain ⟨a, vs, h1, h2, h3⟩ := lstW_ok r h e'
    exact ⟨a, vs, h1, SqL.of h2, h3⟩
def slW (mu : Bool) (a : W) (lo hi : Option Int) (o : Objs) : R W :=
  match a with
  | .v (.str x) => if x.length ≤ sizeLine then .ok (.v (.str (cutS x lo hi))) o else .stuck
  | .v (.tup xs) => .ok (.v (.tup (cutD xs lo hi))) o
  | a => match lsqW o a with
    | some xs => if mu then .ok (.o o.length) (o ++ [⟨true, .lst (cutD xs lo hi)⟩]) else .ok (.v (.lst (cutD xs lo hi))) o
    | none => .stuck
/-- an end of a slice -/
abbrev MO' := Sl → Objs → R (Option Int)
def mPart : Option ME → MO'
  | none => fun _ o => .ok none o
  | some m => fun σ o => (m σ o).bind fun x o => match x with | .v (.int i) => .ok (some i) o | _ => .stuck
def mSl (mu : Bool) (a : ME) (lo hi : Option ME) : ME := fun σ o => (a σ o).bind fun x o => (mPart lo σ o).bind fun l o => (mPart hi σ o).bind fun h o => slW mu x l h o
theorem cutD_ok {g : GE} {A : Addr → Prop} {H : Hp} {ds : List D} {vs : List V} (lo hi : Option Int) (h : RVs g A H ds vs) : RVs g A H (cutD ds lo hi) (cutV vs lo hi) := by
  unfold cutD cutV
  rw [h.length]
  exact (h.drop _).take _
def notSuper : Expr → Bool
  | .Call (.Name _ _) [] [] _ => false
  | _ => true
theorem attr_base {o : Expr} (h : notSuper o = true) (attr : Str) (env : Env) (whole : Sem Value) : attributeBase o attr env whole = whole := by
  unfold attributeBase
  split
  · simp [notSuper] at h
  · rfl
section
variable {X : Cx} {a b c e o : Expr} {es : List Expr} {pos p : Pos} {ma mb mc : ME} {ml : ML}
theorem sr_sl {mu : Bool} : SlR X (fun x lo hi H Q => ∃ F ι objs w, Rel (gX X) F ι H objs ∧ RW (gX X) ι (Al F ι objs) H w x ∧ Post (gX X) F ι objs H (slW mu w lo hi objs) Q) := by
  intro pins s σ H x v vl vu lo hi sl Q I rx hs pl pu ⟨F, ι, objs, w, rel, k, p⟩
  unfold slW at p
  split at p
  · split at p
    · rename_i hz
      simp only [RW, RV] at k; subst k
      exact sl_str pins s σ H _ v vl vu lo hi sl Q I rx hs pl pu ⟨_, rfl, hz, p.flat rel (by simp only [RV])⟩
    · exact p.elim
  · have k0 := k
    simp only [RW, RV] at k
    obtain ⟨a, vs, rfl, h1, h2, h3⟩ := k
    refine sl_tupA pins s σ H _ v vl vu lo hi sl Q I rx hs pl pu ⟨a, vs, rfl, SqT.of h2, fun e => ?_, fun _ q hq => p.freshT rel hq (cutD_ok lo hi h3)⟩
    refine p.flat rel ?_
    rename_i xs
    have : cutD xs lo hi = xs := by
      unfold cutD
      rw [h3.length, e.1, e.2]
      simp only [Nat.sub_zero, List.drop_zero]
      rw [← h3.length, List.take_length]
    rw [this]
    exact k0
  · split at p
    · rename_i xs hx
      obtain ⟨a, vs, rfl, q, k2⟩ := lsqW_ok rel k hx
      split at p
      · exact sl_list pins s σ H _ v vl vu lo hi sl Q I rx hs pl pu ⟨a, vs, rfl, q, fun q hq => p.freshM rel hq (cutD_ok lo hi k2)⟩
      · exact sl_list pins s σ H _ v vl vu lo hi sl Q I rx hs pl pu ⟨a, vs, rfl, q, fun q hq => p.freshL rel hq (cutD_ok lo hi k2)⟩
    · exact p.elim
/-- the part of a slice -/
def PostO (g : GE) (F : Addr → Prop) (ι : List Addr) (objs : Objs) (H : Hp) (r : R (Option Int)) (Q : Option Int → Hp → Prop) : Prop :=
  match r with
  | .ok b objs' => ∀ ι' H', Rel g F ι' H' objs' → Ext ι objs H ι' objs' H' → Q b H'
  | .exc _ _ => False
  | .stuck => False
abbrev SO (X : Cx) (e : Option Expr) (m : MO') : Prop := PO X e (fun σ H Q => ∃ F ι objs σd, Rel (gX X) F ι H objs ∧ SRel (gX X) ι (Al F ι objs) H σd σ ∧ PostO (gX X) F ι objs H (m σd objs) Q)
theorem so_none : SO X none (mPart none) := ⟨fun pins s σ H Q I ⟨F, ι, objs, σd, rel, sr, p⟩ => po_none.run pins s σ H Q I (p ι H rel .refl)⟩
theorem so_some (h : SE X e ma) : SO X (some e) (mPart (some ma)) := ⟨fun pins s σ H Q I ⟨F, ι, objs, σd, rel, sr, p⟩ => (po_some h).run pins s σ H Q I (by
  simp only [mPart] at p
  refine ⟨F, ι, objs, σd, rel, sr, ?_⟩
  cases e1 : ma σd objs with
  | exc _ _ => rw [e1] at p; exact p.elim
  | stuck => rw [e1] at p; exact p.elim
  | ok x o1 =>
    rw [e1, R.bind_ok] at p
    split at p
    · intro v ι1 H1 rel1 ex1 r1
      simp only [RW, RV] at r1; subst r1
      exact ⟨_, rfl, p ι1 H1 rel1 ex1⟩
    · exact p.elim)⟩
theorem se_slice {mu : Bool} {lo hi : Option Expr} {nl nh : Option ME} {p2 : Pos} (he : SE X e ma) (hl : SO X lo (mPart nl)) (hu : SO X hi (mPart nh)) : SE X (.Subscript e (.Slice lo hi none p2) pos) (mSl mu ma nl nh) := by
  refine (pe_slice (sr_sl (mu := mu)) he hl hu).weak fun σ H Q ⟨F, ι, objs, σd, rel, sr, p⟩ => ?_
  obtain ⟨x, o1, e1, p⟩ := p.bind
  refine ⟨F, ι, objs, σd, rel, sr, ?_⟩
  rw [e1]
  intro v ι1 H1 rel1 ex1 r1
  obtain ⟨l, o2, e2, p⟩ := (p.at ex1).bind
  refine ⟨F, ι1, o1, σd, rel1, sr.ext ex1, ?_⟩
  rw [e2]
  intro ι2 H2 rel2 ex2
  obtain ⟨u, o3, e3, p⟩ := (p.at ex2).bind
  refine ⟨F, ι2, o2, σd, rel2, (sr.ext ex1).ext ex2, ?_⟩
  rw [e3]
  intro ι3 H3 rel3 ex3
  exact ⟨F, ι3, o3, x, rel3, (r1.ext ex2).ext ex3, p.at ex3⟩
def revW (a : W) (o : Objs) : R W := match lsqW o a with | some xs => .ok (.v (.lst xs.reverse)) o | none => .stuck
theorem se_rev {k : Nat} {p1 p2 p3 : Pos} (he : SE X e ma) : SE X (.Subscript e (.Slice none none (some (.UnaryOp .USub (.Constant (.int 1) k p1) p2)) p3) pos) (mUn revW ma) := by
  refine (pe_revL he).weak fun σ H Q ⟨F, ι, objs, σd, rel, sr, p⟩ => ?_
  obtain ⟨x, o1, e1, p⟩ := p.bind
  refine ⟨F, ι, objs, σd, rel, sr, ?_⟩
  rw [e1]
  intro v ι1 H1 rel1 ex1 r1
  have p := p.at ex1
  unfold revW at p
  split at p
  · rename_i xs hx
    obtain ⟨a, vs, rfl, q, k2⟩ := lsqW_ok rel1 r1 hx
    exact ⟨a, vs, rfl, q, fun q hq => p.freshL rel1 hq k2.reverse⟩
  · exact p.elim

/-! ### methods of built-in types -/
def rWm (g : GE) (f : W → List W → Objs → R W) : V → List V → Hp → VK → Prop := fun x xs H Q => ∃ F ι objs w ws, Rel g F ι H objs ∧ RW g ι (Al F ι objs) H w x ∧ RWs g ι (Al F ι objs) H ws xs ∧ Post g F ι objs H (f w ws objs) Q
def mtyOk (T : String) (o : Objs) (w : W) : Bool := match T, w with
  | "str", .v (.str _) => true
  | "list", w => match w with
    | .v (.lst _) => true
    | .o i => match o[i]? with
      | some ⟨_, .lst _⟩ => true
      | some ⟨_, .lol _⟩ => true
      | _ => false
    | _ => false
  | "dict", w => match w with
    | .v (.dic _ _) => true
    | .o i => match o[i]? with
      | some ⟨_, .dic _ _⟩ => true
      | _ => false
    | _ => false
  | _, _ => false
theorem mty_ok {T : String} {F : Addr → Prop} {ι : List Addr} {H : Hp} {objs : Objs} {w : W} {v : V} (rel : Rel (gX X) F ι H objs) (k : RW (gX X) ι (Al F ι objs) H w v) (h : mtyOk T objs w = true) : tyV X.K T v H := by
  unfold mtyOk at h
  split at h
  · simp only [RW, RV] at k; subst k; rfl
  · split at h
    · simp only [RW, RV] at k
      obtain ⟨a, vs, rfl, h1, h2, h3⟩ := k
      exact .inl ⟨rfl, vs, SqL.of h2⟩
    · obtain ⟨a, ha, rfl⟩ := k
      split at h
      · rename_i hs
        obtain ⟨vs, q1, q2⟩ := rel.at_ _ a _ ha hs
        exact .inl ⟨rfl, vs, SqL.of q1⟩
      · rename_i hs
        obtain ⟨vs, q1, q2⟩ := rel.at_ _ a _ ha hs
        exact .inl ⟨rfl, vs, SqL.of q1⟩
      · cases h
    · cases h
  · split at h
    · simp only [RW, RV] at k
      obtain ⟨a, vs, rfl, h1, h2, h3⟩ := k
      exact .inr (.inr (.inl ⟨rfl, .inl ⟨vs, h2⟩⟩))
    · obtain ⟨a, ha, rfl⟩ := k
      split at h
      · rename_i hs
        obtain ⟨vs, q1, q2⟩ := rel.at_ _ a _ ha hs
        exact .inr (.inr (.inl ⟨rfl, .inl ⟨vs, q1⟩⟩))
      · cases h
    · cases h
  · cases h
def mBM (T : String) (f : W → List W → Objs → R W) (a : ME) (l : ML) : ME := fun σ o => (a σ o).bind fun x o => if mtyOk T o x = true then (l σ o).bind fun ws o => f x ws o else .stuck
theorem star_all {env : Env} {cpos : Pos} : ∀ {es : List Expr}, es.all (fun e => !isStar e) = true → (backTo cpos (starEach es env)).all (fun x => !x.1) = true
  | [], _ => rfl
  | e :: es, h => by
    simp only [List.all_cons, Bool.and_eq_true, Bool.not_eq_true'] at h
    rw [star_cons h.1]
    have := star_all (env := env) (cpos := cpos) h.2
    simp only [backTo, List.map_cons, List.all_cons, Bool.not_false, Bool.true_and] at this ⊢
    exact this
theorem se_bm {T mid : String} {name : Str} {apos cpos : Pos} {f : W → List W → Objs → R W} (pa : PlainAttrs T) (slot : Slot T name mid) (hty : typeOf (.builtin mid) = pure (.type "method_descriptor")) (hm : MtR X mid (rWm (gX X) f)) (ho : SE X o ma) (ha : SA X (e :: es) ml)
    (hb : notSuper o = true) (hline : (apos.endLine == cpos.line) = true) (hst : (e :: es).all (fun e => !isStar e) = true) (hlen : es.length < 28) : SE X (.Call (.Attribute o name apos) (e :: es) [] cpos) (mBM T f ma ml) := by
  have h1 : isStar e = false := by simp only [List.all_cons, Bool.and_eq_true, Bool.not_eq_true'] at hst; exact hst.1
  have h2 : es.all (fun e => !isStar e) = true := by simp only [List.all_cons, Bool.and_eq_true] at hst; exact hst.2
  refine (pe_bm pa slot hty hm ho ha (attr_base hb _ _ _) ?_ hline (star_cons h1 _) (star_none h2)).weak fun σ H Q ⟨F, ι, objs, σd, rel, sr, p⟩ => ?_
  · rw [star_all hst]
    simp only [keywordEach, backToKw, List.map_nil, List.all_nil, Bool.true_and, List.length_cons, List.length_nil, List.isEmpty_nil, if_true, decide_eq_true_eq]
    omega
  · obtain ⟨x, o1, e1, p⟩ := p.bind
    refine ⟨F, ι, objs, σd, rel, sr, ?_⟩
    rw [e1]
    intro v ι1 H1 rel1 ex1 r1
    have p := p.at ex1
    split at p
    · rename_i ht
      refine ⟨mty_ok rel1 r1 ht, ?_⟩
      obtain ⟨ws, o2, e2, p⟩ := p.bind
      refine ⟨F, ι1, o1, σd, rel1, sr.ext ex1, ?_⟩
      rw [e2]
      intro vs ι2 H2 rel2 ex2 r2
      exact ⟨F, ι2, o2, x, ws, rel2, r1.ext ex2, r2, p.at ex2⟩
    · exact p.elim
theorem se_bm0 {T mid : String} {name : Str} {apos cpos : Pos} {f : W → List W → Objs → R W} (pa : PlainAttrs T) (slot : Slot T name mid) (hty : typeOf (.builtin mid) = pure (.type "method_descriptor")) (hm : MtR X mid (rWm (gX X) f)) (ho : SE X o ma)
    (hb : notSuper o = true) (hline : (apos.endLine == cpos.line) = true) : SE X (.Call (.Attribute o name apos) [] [] cpos) (mBM T f ma mNil) := by
  refine (pe_bm0 pa slot hty hm ho (attr_base hb _ _ _) hline).weak fun σ H Q ⟨F, ι, objs, σd, rel, sr, p⟩ => ?_
  obtain ⟨x, o1, e1, p⟩ := p.bind
  refine ⟨F, ι, objs, σd, rel, sr, ?_⟩
  rw [e1]
  intro v ι1 H1 rel1 ex1 r1
  have p := p.at ex1
  split at p
  · rename_i ht
    exact ⟨mty_ok rel1 r1 ht, F, ι1, o1, x, [], rel1, r1, .nil, p⟩
  · exact p.elim
def idxS (a : W) (ws : List W) (o : Objs) : R W := match a, ws with
  | .v (.str x), [.v (.str y)] => match Builtin.Str.occurrences x y 0 x.length 1 with
    | i :: _ => .ok (.v (.int (i : Nat))) o
    | [] => .stuck
  | _, _ => .stuck
theorem mr_idx : MtR X "str.index" (rWm (gX X) idxS) := by
  intro pins s σ H x xs v us Q I rx rs ⟨F, ι, objs, w, ws, rel, k, k2, p⟩
  unfold idxS at p
  split at p
  · split at p
    · rename_i hq
      obtain ⟨y, rfl, kk⟩ := paired1 k2
      simp only [RW, RV] at k kk; subst k kk
      exact mt_sindex pins s σ H _ _ v us Q I rx rs ⟨_, _, _, _, rfl, rfl, hq, p.flat rel (by simp only [RV])⟩
    · exact p.elim
  · exact p.elim
def rstripS (a : W) (ws : List W) (o : Objs) : R W := match a, ws with
  | .v (.str x), [.v (.str y)] => if x.length ≤ sizeLine then .ok (.v (.str (Txt.rstripChars x y))) o else .stuck
  | _, _ => .stuck
theorem mr_rstrip : MtR X "str.rstrip" (rWm (gX X) rstripS) := by
  intro pins s σ H x xs v us Q I rx rs ⟨F, ι, objs, w, ws, rel, k, k2, p⟩
  unfold rstripS at p
  split at p
  · split at p
    · rename_i hq
      obtain ⟨y, rfl, kk⟩ := paired1 k2
      simp only [RW, RV] at k kk; subst k kk
      exact mt_rstripChars pins s σ H _ _ v us Q I rx rs ⟨_, _, rfl, rfl, hq, p.flat rel (by simp only [RV])⟩
    · exact p.elim
  · exact p.elim
def joinS (a : W) (ws : List W) (o : Objs) : R W := match a, ws with
  | .v (.str x), [w] => match seqW o w with
    | some ds => match strsD ds with
      | some ys => if (ys.map (·.length)).sum + ys.length * x.length ≤ 16777216 then .ok (.v (.str (Txt.join x ys))) o else .stuck
      | none => .stuck
    | none => .stuck
  | _, _ => .stuck
theorem mr_join : MtR X "str.join" (rWm (gX X) joinS) := by
  intro pins s σ H x xs v us Q I rx rs ⟨F, ι, objs, w, ws, rel, k, k2, p⟩
  unfold joinS at p
  split at p
  · split at p
    · rename_i ds hd
      split at p
      · rename_i ys hy
        split at p
        · rename_i hz
          obtain ⟨y, rfl, kk⟩ := paired1 k2
          simp only [RW, RV] at k; subst k
          obtain ⟨a, vs, rfl, q, k3⟩ := seqW_ok rel kk hd
          rw [strsD_ok hy k3] at q
          exact mt_join pins s σ H _ _ v us Q I rx rs ⟨_, a, ys, rfl, rfl, q, hz, p.flat rel (by simp only [RV])⟩
        · exact p.elim
      · exact p.elim
    · exact p.elim
  · exact p.elim
/-- xs.append(e), xs.extend(ys), xs.pop() of a list of the store -/
def appendL (a : W) (ws : List W) (o : Objs) : R W := match a, ws with
  | .o i, [.v d] => match o[i]? with
    | some ⟨true, .lst xs⟩ => if xs.length < sizeLine then .ok (.v .non) (o.set i ⟨true, .lst (xs ++ [d])⟩) else .stuck
    | _ => .stuck
  | .o i, [.o j] => match o[i]? with
    | some ⟨true, .lol is⟩ => if is.length < sizeLine then .ok (.v .non) (o.set i ⟨true, .lol (is ++ [j])⟩) else .stuck
    | some ⟨true, .lst []⟩ => .ok (.v .non) (o.set i ⟨true, .lol [j]⟩)
    | _ => .stuck
  | _, _ => .stuck
theorem pairedApp {α β : Type} {P : α → β → Prop} : ∀ {xs xs' : List α} {ys ys' : List β}, Paired P xs ys → Paired P xs' ys' → Paired P (xs ++ xs') (ys ++ ys')
  | _, _, _, _, .nil, h => h
  | _, _, _, _, .cons h t, h' => .cons h (pairedApp t h')
theorem Post.setM {g : GE} {F : Addr → Prop} {ι : List Addr} {objs : Objs} {H : Hp} {Q : VK} {i : Nat} {a : Addr} {m m' : MO} {u : HO} {d : D} {v : V} (q : Post g F ι objs H (.ok (.v d) (objs.set i ⟨true, m'⟩)) Q) (r : Rel g F ι H objs) (hi : ι[i]? = some a) (ho : objs[i]? = some ⟨true, m⟩)
    (k : RO g ι (Al F ι (objs.set i ⟨true, m'⟩)) (upd H a u) m' a) (kv : RV g (Al F ι (objs.set i ⟨true, m'⟩)) (upd H a u) d v) : Q v (upd H a u) :=
  q v ι _ (r.set hi ho k) (Ext.set r hi ho) kv
theorem mr_append : MtR X "list.append" (rWm (gX X) appendL) := by
  intro pins s σ H x xs v us Q I rx rs ⟨F, ι, objs, w, ws, rel, k, k2, p⟩
  unfold appendL at p
  split at p
  · split at p
    · rename_i xs hx
      split at p
      · rename_i hz
        obtain ⟨y, rfl, kk⟩ := paired1 k2
        obtain ⟨a, ha, rfl⟩ := k
        obtain ⟨vs, q1, q2⟩ := rel.at_ _ a _ ha hx
        refine mt_append pins s σ H _ _ v us Q I rx rs ⟨a, vs, y, rfl, rfl, q1, by rw [← q2.length]; exact hz, ?_⟩
        refine p.setM rel ha hx ⟨_, upd_same, ?_⟩ (by simp only [RV])
        exact (q2.ext (Ext.set rel ha hx)).append (RVs.one (RV.ext kk (Ext.set rel ha hx)))
      · exact p.elim
    · exact p.elim
  · split at p
    · rename_i is hx
      split at p
      · rename_i hz
        obtain ⟨y, rfl, kk⟩ := paired1 k2
        obtain ⟨a, ha, rfl⟩ := k
        obtain ⟨vs, q1, q2⟩ := rel.at_ _ a _ ha hx
        refine mt_append pins s σ H _ _ v us Q I rx rs ⟨a, vs, y, rfl, rfl, q1, by rw [← Paired.length q2]; exact hz, ?_⟩
        exact p.setM rel ha hx ⟨_, upd_same, pairedApp q2 (.cons kk .nil)⟩ (by simp only [RV])
      · exact p.elim
    · rename_i hx
      obtain ⟨y, rfl, kk⟩ := paired1 k2
      obtain ⟨a, ha, rfl⟩ := k
      obtain ⟨vs, q1, q2⟩ := rel.at_ _ a _ ha hx
      simp only [RVs] at q2
      subst q2
      refine mt_append pins s σ H _ _ v us Q I rx rs ⟨a, [], y, rfl, rfl, q1, by simp [sizeLine_eq], ?_⟩
      exact p.setM rel ha hx ⟨_, upd_same, .cons kk .nil⟩ (by simp only [RV])
    · exact p.elim
  · exact p.elim
def extendL (a : W) (ws : List W) (o : Objs) : R W := match a, ws with
  | .o i, [b] => match o[i]? with
    | some ⟨true, .lst xs⟩ => match lstW o b with
      | some ys => if xs.length + ys.length ≤ sizeLine then .ok (.v .non) (o.set i ⟨true, .lst (xs ++ ys)⟩) else .stuck
      | none => .stuck
    | _ => .stuck
  | _, _ => .stuck
theorem mr_extend : MtR X "list.extend" (rWm (gX X) extendL) := by
  intro pins s σ H x xs v us Q I rx rs ⟨F, ι, objs, w, ws, rel, k, k2, p⟩
  unfold extendL at p
  split at p
  · split at p
    · rename_i xs hx
      split at p
      · rename_i ys hy
        split at p
        · rename_i hz
          obtain ⟨y, rfl, kk⟩ := paired1 k2
          obtain ⟨a, ha, rfl⟩ := k
          obtain ⟨vs, q1, q2⟩ := rel.at_ _ a _ ha hx
          obtain ⟨b, zs, rfl, q3, q4⟩ := lstW_ok rel kk hy
          refine mt_extend pins s σ H _ _ v us Q I rx rs ⟨a, b, vs, zs, rfl, rfl, q1, q3, by rw [← q2.length, ← q4.length]; exact hz, ?_⟩
          refine p.setM rel ha hx ⟨_, upd_same, ?_⟩ (by simp only [RV])
          exact (q2.ext (Ext.set rel ha hx)).append (q4.ext (Ext.set rel ha hx))
        · exact p.elim
      · exact p.elim
    · exact p.elim
  · exact p.elim
def popL (a : W) (ws : List W) (o : Objs) : R W := match a, ws with
  | .o i, [] => match o[i]? with
    | some ⟨true, .lst xs⟩ => match xs[xs.length - 1]? with
      | some d => .ok (.v d) (o.set i ⟨true, .lst xs.dropLast⟩)
      | none => .stuck
    | _ => .stuck
  | _, _ => .stuck
theorem RVs.dropLast {g : GE} {A : Addr → Prop} {H : Hp} {ds : List D} {vs : List V} (h : RVs g A H ds vs) : RVs g A H ds.dropLast vs.dropLast := by
  rw [List.dropLast_eq_take, List.dropLast_eq_take, h.length]
  exact h.take _
theorem mr_pop : MtR X "list.pop" (rWm (gX X) popL) := by
  intro pins s σ H x xs v us Q I rx rs ⟨F, ι, objs, w, ws, rel, k, k2, p⟩
  unfold popL at p
  split at p
  · split at p
    · rename_i xs hx
      split at p
      · rename_i d hd
        cases k2
        obtain ⟨a, ha, rfl⟩ := k
        obtain ⟨vs, q1, q2⟩ := rel.at_ _ a _ ha hx
        obtain ⟨y, e1, e2⟩ := q2.get hd
        refine mt_pop pins s σ H _ _ v us Q I rx rs ⟨a, vs, y, rfl, rfl, q1, by rw [← q2.length]; exact e1, ?_⟩
        refine p.setM rel ha hx ⟨_, upd_same, ?_⟩ (e2.ext (Ext.set rel ha hx))
        exact (q2.ext (Ext.set rel ha hx)).dropLast
      · exact p.elim
    · exact p.elim
  · exact p.elim
end
end RR

set_option maxHeartbeats 4000000
namespace RR
open PySem PySem.Spec PyProof.Rows L2
/-! ### what is walked -/
def Yields (g : GE) (F : Addr → Prop) (J : It) (xs : List D) (ι0 : List Addr) (objs0 : Objs) (H0 : Hp) : Prop :=
  ∀ (i : Nat) (F' : Addr → Prop) (ι : List Addr) (objs : Objs) (H : Hp), Ext ι0 objs0 H0 ι objs H → (∀ a, F' a → F a ∨ H0 a = none) → Rel g F' ι H objs →
    (∀ d, xs[i]? = some d → J.go i H ∧ ∀ x H', J.yld i H x H' → Rel g F' ι H' objs ∧ Ext ι objs H ι objs H' ∧ RV g (Al F' ι objs) H' d x) ∧ (xs.length ≤ i → J.stop i H)
abbrev MI := Sl → Objs → R (List D)
abbrev SI (X : Cx) (tg e : Expr) (m : MI) : Prop := PI X tg e (fun σ H R => ∃ F ι objs σd, Rel (gX X) F ι H objs ∧ SRel (gX X) ι (Al F ι objs) H σd σ ∧
  match m σd objs with
  | .ok xs objs' => ∀ J ι' H', Rel (gX X) F ι' H' objs' → Ext ι objs H ι' objs' H' → Yields (gX X) F J xs ι' objs' H' → R J H'
  | .exc _ _ => False
  | .stuck => False)
theorem _root_.L2.PI.weak {X : Cx} {tg e : Expr} {t t' : TI} (h : PI X tg e t) (w : ∀ σ H R, t' σ H R → t σ H R) : PI X tg e t' := ⟨fun pins s σ H Q I q => h.run pins s σ H Q I (w σ H Q q)⟩
theorem _root_.L2.PI.or {X : Cx} {tg e : Expr} {t t' : TI} (h : PI X tg e t) (h' : PI X tg e t') : PI X tg e (fun σ H R => t σ H R ∨ t' σ H R) := ⟨fun pins s σ H Q I q => q.elim (h.run pins s σ H Q I) (h'.run pins s σ H Q I)⟩
section
variable {g : GE} {F F' : Addr → Prop} {ι ι' ι1 ι2 : List Addr} {H H' H1 H2 : Hp} {objs objs' objs1 objs2 : Objs}
theorem carryF (e : Ext ι objs H ι1 objs1 H1) (hF : ∀ a, F' a → F a ∨ H a = none) : Carry (Al F ι objs) H (Al F' ι1 objs1) H1 := ⟨fun a o h n => ⟨e.kp h n, fun z => by
  rcases z with z | z
  · rcases hF a z with z | z
    · exact n (.inl z)
    · rw [h] at z; cases z
  · exact e.off h n (.inr z)⟩⟩
theorem yields_list {K : PySem.W.Frag} {a : Addr} {xs : List D} {vs : List V} (hq : ∀ ι1 objs1 H1, Ext ι objs H ι1 objs1 H1 → SqL K H1 a vs) (k : RVs g (Al F ι objs) H xs vs) : Yields g F (Itl K a) xs ι objs H := by
  intro i F' ι1 o1 H1 ex hF rel
  have q := hq _ _ _ ex
  refine ⟨fun d hd => ?_, fun hl => ⟨vs, q, by rw [← k.length]; exact hl⟩⟩
  obtain ⟨v, e1, e2⟩ := k.get hd
  refine ⟨⟨vs, v, q, e1⟩, fun x H' hy => ?_⟩
  obtain ⟨rfl, hy⟩ := hy
  have := hy vs q
  rw [e1] at this
  cases this
  exact ⟨rel, .refl, RV.car (carryF ex hF) _ _ e2⟩
theorem yields_tup {K : PySem.W.Frag} {a : Addr} {xs : List D} {vs : List V} (hq : ∀ ι1 objs1 H1, Ext ι objs H ι1 objs1 H1 → SqT K H1 a vs) (k : RVs g (Al F ι objs) H xs vs) : Yields g F (Itt K a) xs ι objs H := by
  intro i F' ι1 o1 H1 ex hF rel
  have q := hq _ _ _ ex
  refine ⟨fun d hd => ?_, fun hl => ⟨vs, q, by rw [← k.length]; exact hl⟩⟩
  obtain ⟨v, e1, e2⟩ := k.get hd
  refine ⟨⟨vs, v, q, e1⟩, fun x H' hy => ?_⟩
  obtain ⟨rfl, hy⟩ := hy
  have := hy vs q
  rw [e1] at this
  cases this
  exact ⟨rel, .refl, RV.car (carryF ex hF) _ _ e2⟩
end
/-- the items of what is walked: a list of the store is not changed any more from then on -/
def iterW (o : Objs) : W → R (List D)
  | .v (.str x) => .ok (x.cps.toList.map fun c => D.str ⟨#[c]⟩) o
  | .v (.tup xs) => .ok xs o
  | .v (.lst xs) => .ok xs o
  | .v (.scr xs) => .ok xs o
  | .o i => match o[i]? with
    | some ⟨b, .lst xs⟩ => .ok xs (o.set i ⟨false, .lst xs⟩)
    | _ => .stuck
  | _ => .stuck
def mSeq (a : ME) : MI := fun σ o => (a σ o).bind fun x o => iterW o x
section
variable {X : Cx} {a b c e tg : Expr} {es : List Expr} {pos p : Pos} {ma mb mc : ME} {ml : ML}
theorem si_seq (ha : SE X e ma) : SI X tg e (mSeq ma) := by
  refine ((pi_list ha).or ((pi_tup ha).or (pi_str ha))).weak fun σ H Rk ⟨F, ι, objs, σd, rel, sr, p⟩ => ?_
  unfold mSeq at p
  cases e1 : ma σd objs with
  | exc _ _ => rw [e1] at p; exact p.elim
  | stuck => rw [e1] at p; exact p.elim
  | ok x o1 =>
    rw [e1, R.bind_ok] at p
    cases x with
    | v d =>
      cases d <;> simp only [iterW] at p
      all_goals try exact p.elim
      · -- a text
        refine .inr (.inr ⟨F, ι, objs, σd, rel, sr, ?_⟩)
        rw [e1]
        intro v ι1 H1 rel1 ex1 r1
        simp only [RW, RV] at r1
        subst r1
        rename_i x
        refine ⟨x, rfl, p _ ι1 H1 rel1 ex1 ?_⟩
        intro i F' ι2 o2 H2 ex hF rel2
        refine ⟨fun d hd => ?_, fun hl => ?_⟩
        · rw [List.getElem?_map] at hd
          cases hc : x.cps.toList[i]? with
          | none => rw [hc] at hd; cases hd
          | some c =>
            rw [hc] at hd
            cases hd
            refine ⟨by have := (List.getElem?_eq_some_iff.mp hc).1; simpa [Its, Str.length] using this, fun z H' hy => ?_⟩
            obtain ⟨rfl, c', hc', rfl⟩ := hy
            refine ⟨rel2, .refl, ?_⟩
            simp only [RV]
            rw [Array.getElem?_toList, hc'] at hc
            cases hc
            rfl
        · simpa [Its] using hl
      · refine .inr (.inl ⟨F, ι, objs, σd, rel, sr, ?_⟩)
        rw [e1]
        intro v ι1 H1 rel1 ex1 r1
        simp only [RW, RV] at r1
        obtain ⟨a, vs, rfl, h1, h2, h3⟩ := r1
        exact ⟨a, rfl, ⟨vs, SqT.of h2⟩, p _ ι1 H1 rel1 ex1 (yields_tup (fun ι2 o2 H2 ex => SqT.of (ex.kp h2 h1)) h3)⟩
      · refine .inl ⟨F, ι, objs, σd, rel, sr, ?_⟩
        rw [e1]
        intro v ι1 H1 rel1 ex1 r1
        simp only [RW, RV] at r1
        obtain ⟨a, vs, rfl, h1, h2, h3⟩ := r1
        exact ⟨a, rfl, ⟨vs, SqL.of h2⟩, p _ ι1 H1 rel1 ex1 (yields_list (fun ι2 o2 H2 ex => SqL.of (ex.kp h2 h1)) h3)⟩
      · refine .inl ⟨F, ι, objs, σd, rel, sr, ?_⟩
        rw [e1]
        intro v ι1 H1 rel1 ex1 r1
        simp only [RW, RV] at r1
        obtain ⟨a, vs, rfl, h1, h3⟩ := r1
        have all : ∀ ι2 o2 H2, Ext ι1 o1 H1 ι2 o2 H2 → SqL X.K H2 a vs := fun ι2 o2 H2 ex => by
          rcases h1 with ⟨h1, h2 | ⟨u, h2⟩⟩ | h1
          · exact .inl (.inl (ex.kp h2 h1))
          · exact .inl (.inr ⟨u, ex.kp h2 h1⟩)
          · exact .inr h1
        exact ⟨a, rfl, ⟨vs, all _ _ _ .refl⟩, p _ ι1 H1 rel1 ex1 (yields_list all h3)⟩
    | o i =>
      cases hx : o1[i]? with
      | none => simp only [iterW, hx] at p
      | some en =>
        obtain ⟨b, m⟩ := en
        cases m with
        | lst xs =>
          simp only [iterW, hx] at p
          refine .inl ⟨F, ι, objs, σd, rel, sr, ?_⟩
          rw [e1]
          intro v ι1 H1 rel1 ex1 r1
          obtain ⟨a, ha, rfl⟩ := r1
          obtain ⟨vs, q1, q2⟩ := rel1.at_ _ a _ ha hx
          have fz := froze rel1 ha hx
          have xf : Ext ι1 o1 H1 ι1 (o1.set i ⟨false, .lst xs⟩) H1 := Ext.freeze hx
          exact ⟨a, rfl, ⟨vs, SqL.of q1⟩, p _ ι1 H1 (rel1.freeze hx) (ex1.trans xf) (yields_list (fun ι2 o2 H2 ex => SqL.of (ex.kp q1 fz)) (q2.ext xf))⟩
        | lol is => simp only [iterW, hx] at p
        | dic ks ds => simp only [iterW, hx] at p
        | ins c ns ds => simp only [iterW, hx] at p
/-- range(n), range(a, b) -/
def rng (lo : Int) (n : Nat) : List D := (List.range n).map fun (i : Nat) => D.int (lo + i)
def rng1 (ws : List W) (o : Objs) : R (List D) := match ws with
  | [.v (.int j)] => if -(2 ^ 62) ≤ j ∧ j < 2 ^ 62 then .ok (rng 0 j.toNat) o else .stuck
  | _ => .stuck
def rng2 (ws : List W) (o : Objs) : R (List D) := match ws with
  | [.v (.int i), .v (.int j)] => if -(2 ^ 62) ≤ i ∧ i < 2 ^ 62 ∧ -(2 ^ 62) ≤ j ∧ j < 2 ^ 62 then .ok (rng i (j - i).toNat) o else .stuck
  | _ => .stuck
def mRng (f : List W → Objs → R (List D)) (l : ML) : MI := fun σ o => (l σ o).bind f
theorem yields_rng {g : GE} {F : Addr → Prop} {ι : List Addr} {H : Hp} {objs : Objs} (lo : Int) (n : Nat) : Yields g F (Itr lo n) (rng lo n) ι objs H := by
  intro i F' ι1 o1 H1 ex hF rel
  refine ⟨fun d hd => ?_, fun hl => by show n ≤ i; simpa [rng] using hl⟩
  unfold rng at hd
  rw [List.getElem?_map] at hd
  cases hc : (List.range n)[i]? with
  | none => rw [hc] at hd; cases hd
  | some c =>
    rw [hc] at hd
    cases hd
    have h1 := (List.getElem?_eq_some_iff.mp hc)
    obtain ⟨h1, h2⟩ := h1
    simp at h1 h2
    subst h2
    refine ⟨h1, fun z H' hy => ?_⟩
    obtain ⟨rfl, rfl⟩ := hy
    exact ⟨rel, .refl, by simp only [RV]⟩
theorem si_rng1 {p pos : Pos} (hg : Gl X "range") (hm : X.mg "range" = none) (ha : SA X [a] ml) (hs : isStar a = false) : SI X tg (.Call (.Name "range" p) [a] [] pos) (mRng rng1 ml) := by
  refine (pi_range1 hg hm ha (star_cons hs _)).weak fun σ H Rk ⟨F, ι, objs, σd, rel, sr, p⟩ => ?_
  unfold mRng at p
  cases e1 : ml σd objs with
  | exc _ _ => rw [e1] at p; exact p.elim
  | stuck => rw [e1] at p; exact p.elim
  | ok ws o1 =>
    rw [e1, R.bind_ok] at p
    refine ⟨F, ι, objs, σd, rel, sr, ?_⟩
    rw [e1]
    intro vs ι1 H1 rel1 ex1 r1
    unfold rng1 at p
    split at p
    · rename_i heq
      split at heq
      · split at heq
        · rename_i hb
          cases heq
          obtain ⟨y, rfl, k⟩ := paired1 r1
          simp only [RW, RV] at k; subst k
          exact ⟨_, rfl, hb.1, hb.2, p _ ι1 H1 rel1 ex1 (yields_rng _ _)⟩
        · cases heq
      · cases heq
    · exact p.elim
    · exact p.elim
theorem si_rng2 {p pos : Pos} (hg : Gl X "range") (hm : X.mg "range" = none) (ha : SA X [a, b] ml) (hs : isStar a = false) (hs2 : isStar b = false) : SI X tg (.Call (.Name "range" p) [a, b] [] pos) (mRng rng2 ml) := by
  refine (pi_range2 hg hm ha (by rw [star_cons hs, star_cons hs2]; rfl) (star_cons hs2 _)).weak fun σ H Rk ⟨F, ι, objs, σd, rel, sr, p⟩ => ?_
  unfold mRng at p
  cases e1 : ml σd objs with
  | exc _ _ => rw [e1] at p; exact p.elim
  | stuck => rw [e1] at p; exact p.elim
  | ok ws o1 =>
    rw [e1, R.bind_ok] at p
    refine ⟨F, ι, objs, σd, rel, sr, ?_⟩
    rw [e1]
    intro vs ι1 H1 rel1 ex1 r1
    unfold rng2 at p
    split at p
    · rename_i heq
      split at heq
      · split at heq
        · rename_i hb
          cases heq
          obtain ⟨y, z, rfl, k, k2⟩ := paired2 r1
          simp only [RW, RV] at k k2; subst k k2
          exact ⟨_, _, rfl, hb, p _ ι1 H1 rel1 ex1 (yields_rng _ _)⟩
        · cases heq
      · cases heq
    · exact p.elim
    · exact p.elim

/-! ### targets -/
abbrev MG := W → Sl → Objs → R Sl
def PostT (g : GE) (F : Addr → Prop) (ι : List Addr) (objs : Objs) (H : Hp) (r : R Sl) (Q : L2.St → Hp → Prop) : Prop :=
  match r with
  | .ok σd' objs' => ∀ ι' H' σ', Rel g F ι' H' objs' → Ext ι objs H ι' objs' H' → SRel g ι' (Al F ι' objs') H' σd' σ' → Q σ' H'
  | .exc _ _ => False
  | .stuck => False
abbrev SG (X : Cx) (tg : Expr) (m : MG) : Prop := PG X tg (fun v σ H Q => ∃ F ι objs σd w, Rel (gX X) F ι H objs ∧ SRel (gX X) ι (Al F ι objs) H σd σ ∧ RW (gX X) ι (Al F ι objs) H w v ∧ PostT (gX X) F ι objs H (m w σd objs) Q)
theorem _root_.L2.PG.weak {X : Cx} {e : Expr} {t t' : TG} (h : PG X e t) (w : ∀ v σ H Q, t' v σ H Q → t v σ H Q) : PG X e t' := ⟨fun pins s σ H v u Q I r q => h.run pins s σ H v u Q I r (w v σ H Q q)⟩
def gNm (i : Nat) : MG := fun w σ o => .ok (σ.set i (some w)) o
theorem sg_name {i : Nat} {x : Str} {pos : Pos} (hN : X.N.Nodup) (hi : X.N[i]? = some x) (hx : Loc X.env.scope x) (hf : X.fn x = true ∨ X.env.scope.names.lookup x = some .local) : SG X (.Name x pos) (gNm i) :=
  (pg_name hN hi hx hf).weak fun v σ H Q ⟨F, ι, objs, σd, w, rel, sr, k, p⟩ => p ι H _ rel .refl (sr.set i k)
end
end RR

set_option maxHeartbeats 4000000
namespace RR
open PySem PySem.Spec PyProof.Rows L2
/-! ### statements -/
inductive Fl where
  | nx (σ : Sl) | bk (σ : Sl) | ct (σ : Sl) | rt (w : W)
abbrev MS := Sl → Objs → R Fl
def PostS (g : GE) (F : Addr → Prop) (ι : List Addr) (objs : Objs) (H : Hp) (r : R Fl) (D : Ends) : Prop :=
  match r with
  | .ok (.nx σd) o => ∀ ι' H' σ', Rel g F ι' H' o → Ext ι objs H ι' o H' → SRel g ι' (Al F ι' o) H' σd σ' → D.nx σ' H'
  | .ok (.bk σd) o => ∀ ι' H' σ', Rel g F ι' H' o → Ext ι objs H ι' o H' → SRel g ι' (Al F ι' o) H' σd σ' → D.bk σ' H'
  | .ok (.ct σd) o => ∀ ι' H' σ', Rel g F ι' H' o → Ext ι objs H ι' o H' → SRel g ι' (Al F ι' o) H' σd σ' → D.ct σ' H'
  | .ok (.rt w) o => ∀ v ι' H', Rel g F ι' H' o → Ext ι objs H ι' o H' → RW g ι' (Al F ι' o) H' w v → D.rt v H'
  | .exc _ _ => False
  | .stuck => False
abbrev SS (X : Cx) (st : Stmt) (m : MS) : Prop := PS X st (fun D σ H => ∃ F ι objs σd, Rel (gX X) F ι H objs ∧ SRel (gX X) ι (Al F ι objs) H σd σ ∧ PostS (gX X) F ι objs H (m σd objs) D)
abbrev SSs (X : Cx) (st : List Stmt) (m : MS) : Prop := PSs X st (fun D σ H => ∃ F ι objs σd, Rel (gX X) F ι H objs ∧ SRel (gX X) ι (Al F ι objs) H σd σ ∧ PostS (gX X) F ι objs H (m σd objs) D)
section
variable {g : GE} {F F' : Addr → Prop} {ι ι' ι1 ι2 : List Addr} {H H' H1 H2 : Hp} {objs objs' objs1 objs2 : Objs}
theorem PostS.at {r : R Fl} {D : Ends} (p : PostS g F ι objs H r D) (e : Ext ι objs H ι1 objs1 H1) : PostS g F ι1 objs1 H1 r D := by
  cases r with
  | ok fl o =>
    cases fl with
    | nx σ => exact fun ι' H' σ' rl ex sr => p ι' H' σ' rl (e.trans ex) sr
    | bk σ => exact fun ι' H' σ' rl ex sr => p ι' H' σ' rl (e.trans ex) sr
    | ct σ => exact fun ι' H' σ' rl ex sr => p ι' H' σ' rl (e.trans ex) sr
    | rt w => exact fun v ι' H' rl ex sr => p v ι' H' rl (e.trans ex) sr
  | exc _ _ => exact p
  | stuck => exact p
theorem PostS.bind {α : Type} {r : R α} {f : α → Objs → R Fl} {D : Ends} (p : PostS g F ι objs H (r.bind f) D) : ∃ a o, r = .ok a o ∧ PostS g F ι objs H (f a o) D := by
  cases r with
  | ok w o => exact ⟨w, o, rfl, p⟩
  | exc _ _ => exact p.elim
  | stuck => exact p.elim
end
def mThen (a b : MS) : MS := fun σ o => (a σ o).bind fun fl o => match fl with | .nx σ => b σ o | fl => .ok fl o
def mSkip : MS := fun σ o => .ok (.nx σ) o
def mExpr (a : ME) : MS := fun σ o => (a σ o).bind fun _ o => .ok (.nx σ) o
def mRet (a : ME) : MS := fun σ o => (a σ o).bind fun w o => .ok (.rt w) o
def mRetN : MS := fun _ o => .ok (.rt (.v .non)) o
def mIfS (c : MB) (a b : MS) : MS := fun σ o => (c σ o).bind fun k o => if k = true then a σ o else b σ o
def mAsg (a : ME) (gm : MG) : MS := fun σ o => (a σ o).bind fun w o => (gm w σ o).bind fun σ o => .ok (.nx σ) o
def mBrk : MS := fun σ o => .ok (.bk σ) o
def mCnt : MS := fun σ o => .ok (.ct σ) o
def forGo (f : D → MS) : List D → MS
  | [], σ, o => .ok (.nx σ) o
  | d :: ds, σ, o => (f d σ o).bind fun fl o => match fl with
    | .nx σ => forGo f ds σ o
    | .ct σ => forGo f ds σ o
    | .bk σ => .ok (.nx σ) o
    | .rt w => .ok (.rt w) o
def mFor (mi : MI) (gm : MG) (b : MS) : MS := fun σ o => (mi σ o).bind fun xs o => forGo (fun d σ o => (gm (.v d) σ o).bind fun σ o => b σ o) xs σ o
def whileGo (c : MB) (b : MS) : Nat → MS
  | 0, _, _ => .stuck
  | n + 1, σ, o => (c σ o).bind fun k o => if k = true then (b σ o).bind fun fl o => match fl with
      | .nx σ => whileGo c b n σ o
      | .ct σ => whileGo c b n σ o
      | .bk σ => .ok (.nx σ) o
      | .rt w => .ok (.rt w) o
    else .ok (.nx σ) o
def mWhile (c : MB) (b : MS) : MS := whileGo c b 1000000000000
section
variable {X : Cx} {a b c e tg iter : Expr} {st : Stmt} {sts sts' : List Stmt} {es : List Expr} {pos p : Pos} {ma mb mc : ME} {ml : ML} {ms ms' : MS} {nc : MB} {gm : MG} {mi : MI}
theorem ss_nil : SSs X [] mSkip := pss_nil.weak fun D σ H ⟨F, ι, objs, σd, rel, sr, p⟩ => p ι H σ rel .refl sr
theorem ss_cons (h1 : SS X st ms) (h2 : SSs X sts ms') : SSs X (st :: sts) (mThen ms ms') := by
  refine (pss_cons h1 h2).weak fun D σ H ⟨F, ι, objs, σd, rel, sr, p⟩ => ?_
  obtain ⟨fl, o1, e1, p⟩ := p.bind
  refine ⟨F, ι, objs, σd, rel, sr, ?_⟩
  rw [e1]
  cases fl with
  | nx σ1 => exact fun ι1 H1 σ' rel1 ex1 sr1 => ⟨F, ι1, o1, σ1, rel1, sr1, p.at ex1⟩
  | bk σ1 => exact p
  | ct σ1 => exact p
  | rt w => exact p
theorem ss_pass : SS X (.Pass pos) mSkip := ps_pass.weak fun D σ H ⟨F, ι, objs, σd, rel, sr, p⟩ => p ι H σ rel .refl sr
theorem ss_break : SS X (.Break pos) mBrk := ps_break.weak fun D σ H ⟨F, ι, objs, σd, rel, sr, p⟩ => p ι H σ rel .refl sr
theorem ss_continue : SS X (.Continue pos) mCnt := ps_continue.weak fun D σ H ⟨F, ι, objs, σd, rel, sr, p⟩ => p ι H σ rel .refl sr
theorem ss_expr (h : SE X e ma) (hs : swapsWith e none pos.line X.env = pure false) : SS X (.Expr e pos) (mExpr ma) := by
  refine (ps_expr h hs).weak fun D σ H ⟨F, ι, objs, σd, rel, sr, p⟩ => ?_
  obtain ⟨w, o1, e1, p⟩ := p.bind
  refine ⟨F, ι, objs, σd, rel, sr, ?_⟩
  rw [e1]
  exact fun v ι1 H1 rel1 ex1 r1 => p ι1 H1 σ rel1 ex1 (sr.ext ex1)
theorem ss_ret (h : SE X e ma) : SS X (.Return (some e) pos) (mRet ma) := by
  refine (ps_ret h).weak fun D σ H ⟨F, ι, objs, σd, rel, sr, p⟩ => ?_
  obtain ⟨w, o1, e1, p⟩ := p.bind
  refine ⟨F, ι, objs, σd, rel, sr, ?_⟩
  rw [e1]
  exact fun v ι1 H1 rel1 ex1 r1 => p v ι1 H1 rel1 ex1 r1
theorem ss_retN : SS X (.Return none pos) mRetN := ps_retN.weak fun D σ H ⟨F, ι, objs, σd, rel, sr, p⟩ => p .non ι H rel .refl (by simp only [RW, RV])
theorem ss_if (hc : ST X c nc) (ha : SSs X sts ms) (hb : SSs X sts' ms') : SS X (.If c sts sts' pos) (mIfS nc ms ms') := by
  refine (ps_if hc ha hb).weak fun D σ H ⟨F, ι, objs, σd, rel, sr, p⟩ => ?_
  obtain ⟨k, o1, e1, p⟩ := p.bind
  refine ⟨F, ι, objs, σd, rel, sr, ?_⟩
  rw [e1]
  intro ι1 H1 rel1 ex1
  have p1 := p.at ex1
  cases k with
  | false =>
    simp only [Bool.false_eq_true, if_false] at p1 ⊢
    exact ⟨F, ι1, o1, σd, rel1, sr.ext ex1, p1⟩
  | true =>
    simp only [if_true] at p1 ⊢
    exact ⟨F, ι1, o1, σd, rel1, sr.ext ex1, p1⟩
theorem asg_each {env : Env} (h : isStar e = false) : assignEach (e :: es) env = (false, assign e env) :: assignEach es env := by
  cases e <;> first | rfl | (simp [isStar] at h)
theorem ss_asg (he : SE X e ma) (hg : SG X tg gm) (hs : swapsWithSole [tg] e pos.line X.env = pure false) (hw : swappedStores [tg] e X.env = pure none) (ht : isStar tg = false) : SS X (.Assign [tg] e pos) (mAsg ma gm) := by
  refine (ps_asg he hg hs hw (by rw [asg_each ht]; rfl)).weak fun D σ H ⟨F, ι, objs, σd, rel, sr, p⟩ => ?_
  obtain ⟨w, o1, e1, p⟩ := p.bind
  refine ⟨F, ι, objs, σd, rel, sr, ?_⟩
  rw [e1]
  intro v ι1 H1 rel1 ex1 r1
  refine ⟨F, ι1, o1, σd, w, rel1, sr.ext ex1, r1, ?_⟩
  obtain ⟨σ2, o2, e2, p⟩ := (p.at ex1).bind
  rw [e2]
  exact fun ι2 H2 σ' rel2 ex2 sr2 => p ι2 H2 σ' rel2 ex2 sr2
theorem ss_for (hp : PassesOwn (model X.prog X.w) X.A X.env X.xe) (hc : X.calm = true) (hi : SI X tg iter mi) (hg : SG X tg gm) (hb : SSs X sts ms) (hs : ∀ x, foldedSetIterable iter X.env x = pure x) : SS X (.For tg iter sts [] pos) (mFor mi gm ms) := by
  refine (ps_for hp hc hi hg hb hs).weak fun D σ H ⟨F, ι, objs, σd, rel, sr, p⟩ => ?_
  obtain ⟨xs, o1, e1, p⟩ := p.bind
  refine ⟨F, ι, objs, σd, rel, sr, ?_⟩
  rw [e1]
  intro J ι1 H1 rel1 ex1 yl
  generalize hf : (fun d σ o => (gm (.v d) σ o).bind fun σ o => ms σ o) = f at p
  refine ⟨fun i m σ' H' => m = xs.length - i ∧ i ≤ xs.length ∧ ∃ ι' objs' σd', Rel (gX X) F ι' H' objs' ∧ SRel (gX X) ι' (Al F ι' objs') H' σd' σ' ∧ Ext ι1 o1 H1 ι' objs' H' ∧ PostS (gX X) F ι' objs' H' (forGo f (xs.drop i) σd' objs') D,
    ⟨xs.length, by simp, Nat.zero_le _, ι1, o1, σd, rel1, sr.ext ex1, .refl, by rw [List.drop_zero]; exact p.at ex1⟩, ?_⟩
  rintro i m σ' H' ⟨rfl, hi', ι', objs', σd', rel', sr', ex', p'⟩
  obtain ⟨y1, y2⟩ := yl i F ι' objs' H' ex' (fun a h => .inl h) rel'
  by_cases hlt : i < xs.length
  · obtain ⟨go, y⟩ := y1 xs[i] (List.getElem?_eq_getElem hlt)
    refine .inr ⟨go, fun σ2 H2 => i + 1 ≤ xs.length ∧ ∃ ι2 objs2 σd2, Rel (gX X) F ι2 H2 objs2 ∧ SRel (gX X) ι2 (Al F ι2 objs2) H2 σd2 σ2 ∧ Ext ι1 o1 H1 ι2 objs2 H2 ∧ PostS (gX X) F ι2 objs2 H2 (forGo f (xs.drop (i + 1)) σd2 objs2) D,
      fun σ2 H2 hN => ⟨xs.length - (i + 1), by omega, rfl, hN⟩, fun x H2 hy => ?_⟩
    obtain ⟨rel2, ex2, rv2⟩ := y x H2 hy
    rw [List.drop_eq_getElem_cons hlt] at p'
    unfold forGo at p'
    obtain ⟨fl, o3, e3, p3⟩ := p'.bind
    rw [← hf] at e3
    dsimp only at e3
    cases e4 : gm (.v xs[i]) σd' objs' with
    | exc _ _ => rw [e4] at e3; cases e3
    | stuck => rw [e4] at e3; cases e3
    | ok σ4 o4 =>
      rw [e4, R.bind_ok] at e3
      refine ⟨F, ι', objs', σd', .v xs[i], rel2, sr'.ext ex2, rv2, ?_⟩
      rw [e4]
      intro ι5 H5 σ5 rel5 ex5 sr5
      refine ⟨F, ι5, o4, σ4, rel5, sr5, ?_⟩
      rw [e3]
      have p6 := (p3.at ex2).at ex5
      have exx := (ex'.trans ex2).trans ex5
      cases fl with
      | nx σ6 => exact fun ι7 H7 σ7 rel7 ex7 sr7 => ⟨hlt, ι7, o3, σ6, rel7, sr7, exx.trans ex7, p6.at ex7⟩
      | ct σ6 => exact fun ι7 H7 σ7 rel7 ex7 sr7 => ⟨hlt, ι7, o3, σ6, rel7, sr7, exx.trans ex7, p6.at ex7⟩
      | bk σ6 => exact fun ι7 H7 σ7 rel7 ex7 sr7 => p6 ι7 H7 σ7 rel7 ex7 sr7
      | rt w => exact fun v ι7 H7 rel7 ex7 sr7 => p6 v ι7 H7 rel7 ex7 sr7
  · have hi2 : i = xs.length := by omega
    subst hi2
    refine .inl ⟨y2 (Nat.le_refl _), ?_⟩
    rw [List.drop_length] at p'
    exact p' ι' H' σ' rel' .refl sr'
theorem ss_while (hp : PassesOwn (model X.prog X.w) X.A X.env X.xe) (hc : ST X c nc) (hb : SSs X sts ms) : SS X (.While c sts [] pos) (mWhile nc ms) := by
  refine (ps_while hp hc hb).weak fun D σ H ⟨F, ι, objs, σd, rel, sr, p⟩ => ?_
  refine ⟨fun m σ' H' => ∃ ι' objs' σd', Rel (gX X) F ι' H' objs' ∧ SRel (gX X) ι' (Al F ι' objs') H' σd' σ' ∧ PostS (gX X) F ι' objs' H' (whileGo nc ms m σd' objs') D, ⟨_, ι, objs, σd, rel, sr, p⟩, ?_⟩
  rintro m σ' H' ⟨ι', objs', σd', rel', sr', p'⟩
  cases m with
  | zero => exact p'.elim
  | succ m =>
    unfold whileGo at p'
    obtain ⟨k, o1, e1, p1⟩ := p'.bind
    refine ⟨F, ι', objs', σd', rel', sr', ?_⟩
    rw [e1]
    intro ι1 H1 rel1 ex1
    have p1 := p1.at ex1
    cases k with
    | false =>
      simp only [Bool.false_eq_true, if_false] at p1 ⊢
      exact p1 ι1 H1 σ' rel1 .refl (sr'.ext ex1)
    | true =>
      simp only [if_true] at p1 ⊢
      obtain ⟨fl, o2, e2, p2⟩ := p1.bind
      refine ⟨fun σ2 H2 => ∃ ι2 objs2 σd2, Rel (gX X) F ι2 H2 objs2 ∧ SRel (gX X) ι2 (Al F ι2 objs2) H2 σd2 σ2 ∧ PostS (gX X) F ι2 objs2 H2 (whileGo nc ms m σd2 objs2) D, fun σ2 H2 hN => ⟨m, Nat.lt_succ_self m, hN⟩, F, ι1, o1, σd', rel1, sr'.ext ex1, ?_⟩
      rw [e2]
      cases fl with
      | nx σ6 => exact fun ι7 H7 σ7 rel7 ex7 sr7 => ⟨ι7, o2, σ6, rel7, sr7, p2.at ex7⟩
      | ct σ6 => exact fun ι7 H7 σ7 rel7 ex7 sr7 => ⟨ι7, o2, σ6, rel7, sr7, p2.at ex7⟩
      | bk σ6 => exact fun ι7 H7 σ7 rel7 ex7 sr7 => p2 ι7 H7 σ7 rel7 ex7 sr7
      | rt w => exact fun v ι7 H7 rel7 ex7 sr7 => p2 v ι7 H7 rel7 ex7 sr7
end
end RR

set_option maxHeartbeats 4000000
namespace RR
open PySem PySem.Spec PyProof.Rows L2
/-! ### names as targets: one, or a tuple of them -/
def setAll {α : Type} : List (Option α) → List Nat → List α → List (Option α)
  | σ, i :: is, v :: vs => setAll (σ.set i (some v)) is vs
  | σ, _, _ => σ
inductive Tg where
  | one (i : Nat) | many (is : List Nat)
def Tg.slots : Tg → List Nat
  | .one i => [i]
  | .many is => is
def mTg : Tg → W → Sl → Objs → R Sl
  | .one i, w, σ, o => .ok (σ.set i (some w)) o
  | .many is, w, σ, o => match w with
    | .v (.tup ds) => if ds.length = is.length then .ok (setAll σ is (ds.map W.v)) o else .stuck
    | _ => .stuck
/-- what HandS reads of them -/
def hTg (K : PySem.W.Frag) : Tg → TG
  | .one i => gName i
  | .many is => fun v σ H Q => ∃ a xs, v = .ref a ∧ SqT K H a xs ∧ xs.length = is.length ∧ Q (setAll σ is xs) H
section
variable {g : GE} {F F' : Addr → Prop} {ι ι' ι1 ι2 : List Addr} {H H' H1 H2 : Hp} {objs objs' objs1 objs2 : Objs} {A : Addr → Prop}
theorem SRel.setAll : ∀ {is : List Nat} {ds : List D} {vs : List V} {σd : Sl} {σ : L2.St}, SRel g ι A H σd σ → RVs g A H ds vs → SRel g ι A H (setAll σd is (ds.map W.v)) (setAll σ is vs)
  | [], ds, vs, σd, σ, h, k => by
    cases ds <;> cases vs <;> exact h
  | i :: is, [], vs, σd, σ, h, k => by
    simp only [RVs] at k; subst k; exact h
  | i :: is, d :: ds, vs, σd, σ, h, k => by
    simp only [RVs] at k
    obtain ⟨v, r, rfl, k1, k2⟩ := k
    exact SRel.setAll (is := is) (h.set i k1) k2
theorem wipe_set {σ : L2.St} {i : Nat} {x : Option V} : ∀ {vs : List Nat}, i ∈ vs → wipe (σ.set i x) vs = wipe σ vs
  | v :: vs, h => by
    unfold wipe
    by_cases hv : i = v
    · subst hv
      by_cases h2 : i ∈ vs
      · rw [wipe_set h2]
      · -- the slot is set last
        have gen : ∀ (vs : List Nat) (σ : L2.St), i ∉ vs → (wipe (σ.set i x) vs) = (wipe σ vs).set i x := by
          intro vs
          induction vs with
          | nil => intro σ _; rfl
          | cons u us ih =>
            intro σ hn
            have h1 : i ≠ u := fun e => hn (e ▸ List.mem_cons_self)
            have h3 : i ∉ us := fun e => hn (List.mem_cons_of_mem _ e)
            unfold wipe
            rw [ih σ h3, List.set_comm _ _ h1]
        rw [gen vs σ h2, List.set_set]
    · rcases List.mem_cons.mp h with h | h
      · exact absurd h hv
      · rw [wipe_set h]
theorem wipe_setAll : ∀ {is : List Nat} {xs : List V} {σ : L2.St} {vs : List Nat}, (∀ i ∈ is, i ∈ vs) → wipe (setAll σ is xs) vs = wipe σ vs
  | [], xs, σ, vs, h => by cases xs <;> rfl
  | i :: is, [], σ, vs, h => rfl
  | i :: is, x :: xs, σ, vs, h => by
    unfold setAll
    rw [wipe_setAll (fun j hj => h j (List.mem_cons_of_mem _ hj)), wipe_set (h i List.mem_cons_self)]
/-- the slots of a block's own names forgotten -/
def wipeD (σ : Sl) : List Nat → Sl
  | [] => σ
  | v :: vs => (wipeD σ vs).set v none
theorem SRel.wipe {σd : Sl} {σ : L2.St} (h : SRel g ι A H σd σ) : ∀ vs : List Nat, SRel g ι A H (wipeD σd vs) (L2.wipe σ vs)
  | [] => h
  | v :: vs => by
    have := SRel.wipe h vs
    refine ⟨by simp only [wipeD, L2.wipe, List.length_set]; exact this.1, fun i w k => ?_⟩
    unfold wipeD at k
    unfold L2.wipe
    by_cases hi : i = v
    · subst hi
      by_cases hl : i < (wipeD σd vs).length
      · rw [List.getElem?_set_self hl] at k; cases k
      · rw [List.getElem?_eq_none (by simpa using hl)] at k; cases k
    · rw [List.getElem?_set_ne (Ne.symm hi)] at k ⊢
      exact this.2 i w k
end
section
variable {X : Cx} {a b c e tg iter : Expr} {st : Stmt} {sts sts' : List Stmt} {es : List Expr} {pos p : Pos} {ma mb mc : ME} {ml : ML} {ms ms' : MS} {nc : MB} {gm : MG} {mi : MI}
/-- the slots of written names -/
def nameIx (N : List Str) : List Expr → Option (List Nat)
  | [] => some []
  | .Name x _ :: es => match N.findIdx? (· == x), nameIx N es with
    | some i, some is => some (i :: is)
    | _, _ => none
  | _ :: _ => none
theorem findIdx_get {N : List Str} {x : Str} {i : Nat} (h : N.findIdx? (· == x) = some i) : N[i]? = some x := by
  obtain ⟨h1, h2, _⟩ := List.findIdx?_eq_some_iff_getElem.mp h
  rw [List.getElem?_eq_getElem h1]
  exact congrArg some (by simpa using h2)
def storable (X : Cx) (x : Str) : Prop := Loc X.env.scope x ∧ (X.fn x = true ∨ X.env.scope.names.lookup x = some .local)
theorem pgs_names (hN : X.N.Nodup) : ∀ {es : List Expr} {is : List Nat}, nameIx X.N es = some is → (∀ x p, Expr.Name x p ∈ es → storable X x) →
    PGs X es (fun vs σ H Q => vs.length = is.length ∧ Q (setAll σ is vs) H) ∧ (assignEach es X.env).length = is.length ∧ List.findIdx? (fun x => x.1) (assignEach es X.env) = none
  | [], is, h, hs => by
    cases h
    refine ⟨⟨fun pins s σ H vs us Q I r ⟨h1, h2⟩ => ?_⟩, rfl, rfl⟩
    have e : vs = [] := List.eq_nil_of_length_eq_zero h1
    subst e
    exact pgs_nil.run pins s σ H [] us Q I r ⟨rfl, h2⟩
  | .Name x p :: es, is, h, hs => by
    simp only [nameIx] at h
    split at h
    · rename_i i js hi hj
      cases h
      obtain ⟨ih, h2, h3⟩ := pgs_names hN hj fun y q hy => hs y q (List.mem_cons_of_mem _ hy)
      obtain ⟨hl, hf⟩ := hs x p List.mem_cons_self
      refine ⟨⟨fun pins s σ H vs us Q I r ⟨h1, hq⟩ => ?_⟩, ?_, ?_⟩
      · cases vs with
        | nil => simp at h1
        | cons v vs =>
          exact (pgs_cons (pg_name hN (findIdx_get hi) hl hf) ih (by rw [asg_each rfl]; rfl)).run pins s σ H (v :: vs) us Q I r ⟨v, vs, rfl, by simpa using h1, hq⟩
      · rw [asg_each rfl, List.length_cons, h2]; rfl
      · rw [asg_each rfl, List.findIdx?_cons, h3]; rfl
    · cases h
theorem hg_one {i : Nat} {x : Str} (hN : X.N.Nodup) (hi : X.N[i]? = some x) (hx : storable X x) : PG X (.Name x pos) (hTg X.K (.one i)) := pg_name hN hi hx.1 hx.2
theorem hg_many {k : Nat} {is : List Nat} (hc : X.calm = true) (hN : X.N.Nodup) (h : nameIx X.N es = some is) (hs : ∀ x p, Expr.Name x p ∈ es → storable X x) : PG X (.Tuple es k pos) (hTg X.K (.many is)) := by
  obtain ⟨h1, h2, h3⟩ := pgs_names hN h hs
  refine (pg_tup hc h1 h2 h3).weak fun v σ H Q ⟨a, xs, e1, e2, e3, q⟩ => ⟨a, xs, e1, e2, e3, e3, q⟩
theorem sg_tg {T : Tg} (h : PG X tg (hTg X.K T)) : SG X tg (mTg T) := by
  refine h.weak fun v σ H Q ⟨F, ι, objs, σd, w, rel, sr, k, p⟩ => ?_
  cases T with
  | one i => exact p ι H _ rel .refl (sr.set i k)
  | many is =>
    cases w with
    | o i => exact p.elim
    | v d =>
      cases d <;> simp only [mTg] at p
      all_goals try exact p.elim
      rename_i ds
      split at p
      · rename_i hl
        have k0 := k
        simp only [RW, RV] at k
        obtain ⟨a, vs, rfl, h1, h2, h3⟩ := k
        exact ⟨a, vs, rfl, SqT.of h2, by rw [← h3.length]; exact hl, p ι H _ rel .refl (sr.setAll h3)⟩
      · exact p.elim
/-! ### xs[i] = e -/
def setW (a i x : W) (o : Objs) : R Unit := match a, i with
  | .o k, .v (.int j) => match o[k]? with
    | some ⟨true, .lst xs⟩ => match x with
      | .v d => match ixN xs.length j with
        | some m => .ok () (o.set k ⟨true, .lst (xs.set m d)⟩)
        | none => .stuck
      | .o _ => .stuck
    | _ => .stuck
  | _, _ => .stuck
def gSb (a b : ME) : MG := fun x σ o => (a σ o).bind fun u o => (b σ o).bind fun i o => (setW u i x o).bind fun _ o => .ok σ o
def notSlice : Expr → Bool
  | .Slice _ _ _ _ => false
  | _ => true
theorem sg_sub (ha : SE X a ma) (hb : SE X b mb) (hs : notSlice b = true) : SG X (.Subscript a b pos) (gSb ma mb) := by
  refine (pg_sub ha hb set_list (fun v => by cases b <;> first | rfl | (simp [notSlice] at hs))).weak fun v σ H Q ⟨F, ι, objs, σd, w, rel, sr, k, p⟩ => ?_
  unfold gSb at p
  cases e1 : ma σd objs with
  | exc _ _ => rw [e1] at p; exact p.elim
  | stuck => rw [e1] at p; exact p.elim
  | ok u o1 =>
    rw [e1, R.bind_ok] at p
    refine ⟨F, ι, objs, σd, rel, sr, ?_⟩
    rw [e1]
    intro v1 ι1 H1 rel1 ex1 r1
    cases e2 : mb σd o1 with
    | exc _ _ => rw [e2] at p; exact p.elim
    | stuck => rw [e2] at p; exact p.elim
    | ok i o2 =>
      rw [e2, R.bind_ok] at p
      refine ⟨F, ι1, o1, σd, rel1, sr.ext ex1, ?_⟩
      rw [e2]
      intro v2 ι2 H2 rel2 ex2 r2
      have r1 := r1.ext ex2
      have k := (k.ext ex1).ext ex2
      cases e3 : setW u i w o2 with
      | exc _ _ => rw [e3] at p; exact p.elim
      | stuck => rw [e3] at p; exact p.elim
      | ok un o3 =>
        rw [e3, R.bind_ok] at p
        cases w with
        | o j =>
          unfold setW at e3
          split at e3
          · split at e3 <;> cases e3
          · cases e3
        | v d =>
          unfold setW at e3
          split at e3
          · split at e3
            · rename_i xs hx
              simp only at e3
              split at e3
              · rename_i m hm
                cases e3
                obtain ⟨a, ha, rfl⟩ := r1
                simp only [RW, RV] at r2
                subst r2
                obtain ⟨vs, q1, q2⟩ := rel2.at_ _ a _ ha hx
                refine ⟨a, vs, _, m, rfl, rfl, q1, by rw [← q2.length]; exact hm, ?_⟩
                have exs := Ext.set (o := .lst (vs.set m v)) (m' := .lst (xs.set m d)) rel2 ha hx
                refine p ι2 _ σ (rel2.set ha hx ⟨_, upd_same, ?_⟩) ((ex1.trans ex2).trans exs) (((sr.ext ex1).ext ex2).ext exs)
                exact (q2.ext exs).set (RV.ext k exs)
              · cases e3
            · cases e3
          · cases e3
end
end RR

set_option maxHeartbeats 4000000
namespace RR
open PySem PySem.Spec PyProof.Rows L2
/-! ### list comprehensions -/
def lcGo (turn : D → Objs → R (Option W)) : List D → List W → Objs → R (List W)
  | [], acc, o => .ok acc o
  | d :: ds, acc, o => (turn d o).bind fun r o => match r with
    | none => lcGo turn ds acc o
    | some w => if acc.length < sizeLine then lcGo turn ds (acc ++ [w]) o else .stuck
def lcTurn (T : Tg) (own : List Nat) (c : MB) (e : ME) (σ : Sl) (d : D) (o : Objs) : R (Option W) :=
  (mTg T (.v d) (wipeD σ own) o).bind fun σ o => (c σ o).bind fun k o => if k = true then (e σ o).bind fun w o => .ok (some w) o else .ok none o
def mYes : MB := fun _ o => .ok true o
def mLc (mu : Bool) (mi : MI) (T : Tg) (own : List Nat) (c : MB) (e : ME) : ME := fun σ o => (mi σ o).bind fun xs o => (lcGo (lcTurn T own c e σ) xs [] o).bind fun ws o => lstMk mu ws o
section
variable {g : GE} {F F' : Addr → Prop} {ι ι' ι1 ι2 : List Addr} {H H' H1 H2 : Hp} {objs objs' objs1 objs2 : Objs} {A A' : Addr → Prop}
theorem RWs.app {ws zs : List W} {vs us : List V} (h : RWs g ι A H ws vs) (k : RWs g ι A H zs us) : RWs g ι A H (ws ++ zs) (vs ++ us) := pairedApp h k
theorem RW.anti {w : W} {v : V} (h : RW g ι A H w v) (s : ∀ a, A' a → A a) : RW g ι A' H w v := by
  cases w with
  | v d => exact RV.car ⟨fun a o e n => ⟨e, fun z => n (s a z)⟩⟩ d v h
  | o i => exact h
theorem RWs.anti {ws : List W} {vs : List V} (h : RWs g ι A H ws vs) (s : ∀ a, A' a → A a) : RWs g ι A' H ws vs := Paired.mapP h fun _ _ q => q.anti s
theorem RVs.anti {ds : List D} {vs : List V} (h : RVs g A H ds vs) (s : ∀ a, A' a → A a) : RVs g A' H ds vs := RVs.car ⟨fun a o e n => ⟨e, fun z => n (s a z)⟩⟩ ds vs h
theorem RO.anti {m : MO} {a : Addr} (h : RO g ι A H m a) (s : ∀ a, A' a → A a) : RO g ι A' H m a := by
  cases m with
  | lst xs => exact let ⟨vs, h, r⟩ := h; ⟨vs, h, r.anti s⟩
  | lol is => exact h
  | dic ks ds => exact let ⟨kvs, h, k, r⟩ := h; ⟨kvs, h, k, r.anti s⟩
  | ins c ns ds => exact let ⟨C, dx, vs, c1, h, k, r⟩ := h; ⟨C, dx, vs, c1, h, k, r.anti s⟩
theorem Rel.relax (r : Rel g F' ι H objs) (s : ∀ a, F a → F' a) : Rel g F ι H objs :=
  ⟨r.nd, r.len, fun i a o e1 e2 => (r.at_ i a o e1 e2).anti fun b z => z.elim (fun z => .inl (s b z)) .inr, fun a z => r.out a (s a z)⟩
/-- the new list D is F's until it is done -/
def FD (F : Addr → Prop) (Dd : Addr) : Addr → Prop := fun a => F a ∨ a = Dd
/-- the list at D, made, as a result -/
theorem lc_done {mu : Bool} {ws : List W} {acc : List V} {Dd : Addr} {Q : VK} (h0 : H1 Dd = none) (r : Rel g (FD F Dd) ι H objs) (ex : Ext ι1 objs1 H1 ι objs H) (hD : H Dd = some (.lst acc)) (k : RWs g ι (Al (FD F Dd) ι objs) H ws acc) (r1 : Rel g F ι1 H1 objs1)
    (p : Post g F ι1 objs1 H1 (lstMk mu ws objs) Q) : Q (.ref Dd) H := by
  have nD : Dd ∉ ι := (r.out Dd (.inr rfl)).2
  have nF : ¬ F Dd := r1.freshF h0
  have aF : ∀ a, Al F ι objs a → Al (FD F Dd) ι objs a := fun a z => z.elim (fun z => .inl (.inl z)) .inr
  -- as a thing of the store
  have store : ∀ (o' : Objs) (m : MO), Ext ι objs H ι o' H → Rel g (FD F Dd) ι H o' → RO g (ι ++ [Dd]) (Al (FD F Dd) ι o') H m Dd → Post g F ι1 objs1 H1 (.ok (.o o'.length) (o' ++ [⟨true, m⟩])) Q → Q (.ref Dd) H := by
    intro o' m ex' r' ho p
    have hl : ι.length = o'.length := r'.len
    have same : ∀ a, Al F (ι ++ [Dd]) (o' ++ [⟨true, m⟩]) a ↔ Al (FD F Dd) ι o' a := by
      intro a
      constructor
      · rintro (z | ⟨i, u, e1, e2⟩)
        · exact .inl (.inl z)
        · by_cases hi : i < ι.length
          · rw [List.getElem?_append_left hi] at e1
            rw [List.getElem?_append_left (by omega)] at e2
            exact .inr ⟨i, u, e1, e2⟩
          · have e : i = ι.length := by
              have := (List.getElem?_eq_some_iff.mp e1).1
              simp at this; omega
            subst e
            simp at e1
            exact .inl (.inr e1.symm)
      · rintro ((z | z) | ⟨i, u, e1, e2⟩)
        · exact .inl z
        · subst z
          refine .inr ⟨ι.length, m, by simp, by rw [hl]; simp⟩
        · refine .inr ⟨i, u, ?_, ?_⟩
          · rw [List.getElem?_append_left (List.getElem?_eq_some_iff.mp e1).1]; exact e1
          · rw [List.getElem?_append_left (List.getElem?_eq_some_iff.mp e2).1]; exact e2
    have exI : ∀ {b : MO} {a : Addr}, RO g ι (Al (FD F Dd) ι o') H b a → RO g (ι ++ [Dd]) (Al (FD F Dd) ι o') H b a := by
      intro b a h
      cases b with
      | lst xs => exact h
      | lol is => exact let ⟨vs, h, q⟩ := h; ⟨vs, h, Paired.mapP q fun i v ⟨c, e, z⟩ => ⟨c, by rw [List.getElem?_append_left (List.getElem?_eq_some_iff.mp e).1]; exact e, z⟩⟩
      | dic ks ds => exact h
      | ins c ns ds => exact h
    have rel2 : Rel g F (ι ++ [Dd]) H (o' ++ [⟨true, m⟩]) := by
      refine ⟨?_, by simp [hl], fun i a ob e1 e2 => ?_, fun a z => ⟨(r'.out a (.inl z)).1, fun q => ?_⟩⟩
      · rw [List.nodup_append]
        refine ⟨r'.nd, by simp, fun a ha b hb e => ?_⟩
        rw [List.mem_singleton.mp hb] at e
        exact nD (e ▸ ha)
      · by_cases hi : i < ι.length
        · rw [List.getElem?_append_left hi] at e1
          rw [List.getElem?_append_left (by omega)] at e2
          exact (exI (r'.at_ i a ob e1 e2)).anti fun b z => (same b).mp z
        · have e : i = ι.length := by
            have := (List.getElem?_eq_some_iff.mp e1).1
            simp at this; omega
          subst e
          simp at e1
          rw [hl] at e2
          simp at e2
          subst e1 e2
          exact ho.anti fun b z => (same b).mp z
      · rcases List.mem_append.mp q with q | q
        · exact (r'.out a (.inl z)).2 q
        · rw [List.mem_singleton.mp q] at z; exact nF z
    have exx : Ext ι1 objs1 H1 (ι ++ [Dd]) (o' ++ [⟨true, m⟩]) H := by
      have e2 := ex.trans ex'
      refine ⟨e2.pre.trans (List.prefix_append _ _), e2.keep, fun a z n => ?_⟩
      rcases (same a).mp (.inr z) with (z | z) | z
      · -- a thing of F that is live: not so
        exfalso
        have : a ∈ ι ++ [Dd] := by
          obtain ⟨i, u, e1, _⟩ := (show Live (ι ++ [Dd]) (o' ++ [⟨true, m⟩]) a by assumption)
          exact List.mem_of_getElem? e1
        exact (rel2.out a z).2 this
      · rw [z]; exact h0
      · exact e2.new a z n
    exact p _ _ _ rel2 exx ⟨Dd, by rw [← hl]; simp, rfl⟩
  unfold lstMk at p
  split at p
  · rename_i i is ha
    split at p
    · refine store objs (.lol (i :: is)) .refl r ⟨acc, hD, ?_⟩ p
      exact Paired.mapP (allO_ok ha k) fun i v ⟨c, e, z⟩ => ⟨c, by rw [List.getElem?_append_left (List.getElem?_eq_some_iff.mp e).1]; exact e, z⟩
    · exact p.elim
  · split at p
    · rename_i ds o1 hp
      obtain ⟨r2, x2, k2⟩ := pulls_ok hp r k
      split at p
      · exact store o1 (.lst ds) x2 r2 ⟨acc, hD, k2⟩ p
      · exact p.elim
    · exact p.elim
  · split at p
    · rename_i ds o1 hp
      obtain ⟨r2, x2, k2⟩ := pulls_ok hp r k
      split at p
      · refine p (.ref Dd) ι H (r2.relax fun a z => .inl z) (ex.trans x2) ?_
        simp only [RW, RV]
        refine ⟨Dd, acc, rfl, fun z => ?_, hD, k2.anti fun a z => z.elim (fun z => .inl (.inl z)) .inr⟩
        rcases z with z | z
        · exact nF z
        · exact nD z.mem
      · exact p.elim
    · exact p.elim
end
section
variable {X : Cx} {a b c e tg iter elt : Expr} {st : Stmt} {sts sts' : List Stmt} {es : List Expr} {pos p : Pos} {ma mb mc me : ME} {ml : ML} {ms ms' : MS} {nc : MB} {gm : MG} {mi : MI}
theorem se_lcCore {T : Tg} {own : List Nat} {mu : Bool} (hT : ∀ i ∈ T.slots, i ∈ own) {σ : L2.St} {H : Hp} {Q : VK}
    (h : tev (gX X) (mLc mu mi T own nc me) σ H Q) :
    tLc (fun σ H R => ∃ F ι objs σd, Rel (gX X) F ι H objs ∧ SRel (gX X) ι (Al F ι objs) H σd σ ∧
      match mi σd objs with
      | .ok xs objs' => ∀ J ι' H', Rel (gX X) F ι' H' objs' → Ext ι objs H ι' objs' H' → Yields (gX X) F J xs ι' objs' H' → R J H'
      | .exc _ _ => False
      | .stuck => False) (hTg X.K T) (teb (gX X) nc) (tev (gX X) me) own σ H Q := by
  obtain ⟨F, ι, objs, σd, rel, sr, p⟩ := h
  obtain ⟨xs, o1, e1, p⟩ := p.bind
  refine ⟨F, ι, objs, σd, rel, sr, ?_⟩
  rw [e1]
  intro J ι1 H1 rel1 ex1 yl Dd hDd
  have p := p.at ex1
  generalize hf : lcTurn T own nc me σd = f at p
  have nA : Dd ∉ ι1 := rel1.fresh hDd
  have hFD : ∀ a, FD F Dd a → F a ∨ H1 a = none := fun a z => z.elim .inl fun z => .inr (by rw [z]; exact hDd)
  have relD : Rel (gX X) (FD F Dd) ι1 (upd H1 Dd (.lst [])) o1 := by
    have r := rel1.upd_new (o := .lst []) hDd
    refine ⟨r.nd, r.len, fun i a ob q1 q2 => ?_, fun a z => ?_⟩
    · have h1 := rel1.at_ i a ob q1 q2
      have hc : Carry (Al F ι1 o1) H1 (Al (FD F Dd) ι1 o1) (upd H1 Dd (.lst [])) := ⟨fun b u q n => ⟨by rw [upd_ne (ne_of_none q hDd)]; exact q, fun z => by
        rcases z with (z | z) | z
        · exact n (.inl z)
        · rw [z, hDd] at q; cases q
        · exact n (.inr z)⟩⟩
      have ne : a ≠ Dd := fun z => nA (z ▸ List.mem_of_getElem? q1)
      cases hm : ob.ob with
      | lst ys => rw [hm] at h1; exact let ⟨vs, h, k⟩ := h1; ⟨vs, by rw [upd_ne ne]; exact h, RVs.car hc _ _ k⟩
      | lol is => rw [hm] at h1; exact let ⟨vs, h, k⟩ := h1; ⟨vs, by rw [upd_ne ne]; exact h, k⟩
      | dic ks ds => rw [hm] at h1; exact let ⟨kvs, h, k, q⟩ := h1; ⟨kvs, by rw [upd_ne ne]; exact h, k, RVs.car hc _ _ q⟩
      | ins c ns ds => rw [hm] at h1; exact let ⟨C, dx, vs, c1, h, k, q⟩ := h1; ⟨C, dx, vs, c1, by rw [upd_ne ne]; exact h, k, RVs.car hc _ _ q⟩
    · rcases z with z | z
      · exact r.out a z
      · subst z
        exact ⟨⟨_, upd_same⟩, nA⟩
  refine ⟨fun i m H' => m = xs.length - i ∧ i ≤ xs.length ∧ ∃ ι' objs' ws acc, Rel (gX X) (FD F Dd) ι' H' objs' ∧ Ext ι1 o1 H1 ι' objs' H' ∧ H' Dd = some (.lst acc) ∧ RWs (gX X) ι' (Al (FD F Dd) ι' objs') H' ws acc ∧
      Post (gX X) F ι1 o1 H1 ((lcGo f (xs.drop i) ws objs').bind fun ws o => lstMk mu ws o) Q,
    ⟨xs.length, by simp, Nat.zero_le _, ι1, o1, [], [], relD, Ext.upd_new hDd, upd_same, .nil, by rw [List.drop_zero]; exact p⟩, ?_⟩
  rintro i m H' ⟨rfl, hi', ι', objs', ws, acc, rel', ex', hD', k', p'⟩
  obtain ⟨y1, y2⟩ := yl i (FD F Dd) ι' objs' H' ex' hFD rel'
  by_cases hlt : i < xs.length
  · obtain ⟨go, y⟩ := y1 xs[i] (List.getElem?_eq_getElem hlt)
    refine .inr ⟨go, fun H2 => i + 1 ≤ xs.length ∧ ∃ ι2 objs2 ws2 acc2, Rel (gX X) (FD F Dd) ι2 H2 objs2 ∧ Ext ι1 o1 H1 ι2 objs2 H2 ∧ H2 Dd = some (.lst acc2) ∧ RWs (gX X) ι2 (Al (FD F Dd) ι2 objs2) H2 ws2 acc2 ∧
      Post (gX X) F ι1 o1 H1 ((lcGo f (xs.drop (i + 1)) ws2 objs2).bind fun ws o => lstMk mu ws o) Q,
      fun H2 hN => ⟨xs.length - (i + 1), by omega, rfl, hN⟩, fun x H2 hy => ?_⟩
    obtain ⟨rel2, ex2, rv2⟩ := y x H2 hy
    rw [List.drop_eq_getElem_cons hlt] at p'
    unfold lcGo at p'
    -- the slots of this turn
    have srT : ∃ σ2, mTg T (.v xs[i]) (wipeD σd own) objs' = .ok σ2 objs' ∧ ∀ K' : L2.St → Hp → Prop, (∀ σ3, SRel (gX X) ι' (Al (FD F Dd) ι' objs') H2 σ2 σ3 → wipe σ3 own = wipe σ own → K' σ3 H2) → hTg X.K T x (wipe σ own) H2 K' := by
      have srw : SRel (gX X) ι' (Al (FD F Dd) ι' objs') H2 (wipeD σd own) (wipe σ own) := by
        have s0 : SRel (gX X) ι' (Al (FD F Dd) ι' objs') H2 σd σ := by
          have s1 := sr.ext ex1
          refine ⟨s1.1, fun j w hj => ?_⟩
          obtain ⟨v, e, q⟩ := s1.2 j w hj
          refine ⟨v, e, ?_⟩
          cases w with
          | v d => exact RV.car (carryF (ex'.trans ex2) hFD) d v q
          | o n => exact RAt.ext q (ex'.trans ex2)
        exact s0.wipe own
      have ww : wipe (wipe σ own) own = wipe σ own := by
        have gen : ∀ (l : List Nat) (s : L2.St), (∀ j ∈ l, j ∈ own) → (∀ j ∈ own, j < s.length → s[j]? = some none) → wipe s l = s := by
          intro l
          induction l with
          | nil => intro s _ _; rfl
          | cons v vs ih =>
            intro s hl hs
            unfold wipe
            rw [ih s (fun j hj => hl j (List.mem_cons_of_mem _ hj)) hs]
            by_cases hv : v < s.length
            · have := hs v (hl v List.mem_cons_self) hv
              apply List.ext_getElem?
              intro n
              by_cases hn : n = v
              · subst hn; rw [List.getElem?_set_self hv, this]
              · rw [List.getElem?_set_ne (Ne.symm hn)]
            · rw [List.set_eq_of_length_le (by omega)]
        refine gen own _ (fun _ h => h) fun j hj hl => ?_
        cases hq : (wipe σ own)[j]? with
        | none => rw [List.getElem?_eq_none_iff] at hq; omega
        | some ov =>
          cases ov with
          | none => rfl
          | some v => exact absurd hj (wipe_some hq).2
      cases T with
      | one j =>
        refine ⟨_, rfl, fun K' hk => ?_⟩
        exact hk _ (srw.set j rv2) (by rw [wipe_set (hT j (by simp [Tg.slots])), ww])
      | many js =>
        cases e4 : mTg (.many js) (.v xs[i]) (wipeD σd own) objs' with
        | exc _ _ => rw [← hf] at p'; simp only [lcTurn, e4] at p'; exact p'.elim
        | stuck => rw [← hf] at p'; simp only [lcTurn, e4] at p'; exact p'.elim
        | ok σ4 o4 =>
          cases hd : xs[i] <;> rw [hd] at e4 rv2 <;> simp only [mTg] at e4
          all_goals try cases e4
          rename_i ds
          split at e4
          · rename_i hl
            cases e4
            refine ⟨_, rfl, fun K' hk => ?_⟩
            simp only [RV] at rv2
            obtain ⟨a, vs, rfl, h1, h2, h3⟩ := rv2
            exact ⟨a, vs, rfl, SqT.of h2, by rw [← h3.length]; exact hl, hk _ (srw.setAll h3) (by rw [wipe_setAll (is := js) (show ∀ i ∈ js, i ∈ own from hT), ww])⟩
          · cases e4
    obtain ⟨σ2, e4, hT2⟩ := srT
    refine hT2 _ fun σ3 sr3 hw => ⟨hw, ?_⟩
    rw [← hf] at p'
    simp only [lcTurn, e4, R.bind_ok] at p'
    cases e5 : nc σ2 objs' with
    | exc _ _ => rw [e5] at p'; exact p'.elim
    | stuck => rw [e5] at p'; exact p'.elim
    | ok kk o5 =>
      rw [e5, R.bind_ok] at p'
      refine ⟨FD F Dd, ι', objs', σ2, rel2, sr3, ?_⟩
      rw [e5]
      intro ι6 H6 rel6 ex6
      have exx := (ex'.trans ex2).trans ex6
      have kx := (RWs.ext k' ex2).ext ex6
      have nDl : ∀ {ι objs H}, Rel (gX X) (FD F Dd) ι H objs → ¬ Live ι objs Dd := fun r z => (r.out Dd (.inr rfl)).2 z.mem
      have hD6 : H6 Dd = some (.lst acc) := ex6.keep _ _ (ex2.keep _ _ hD' (nDl rel')) (nDl rel2)
      cases kk with
      | false =>
        simp only [Bool.false_eq_true, if_false, R.bind_ok] at p' ⊢
        exact ⟨hlt, ι6, o5, ws, acc, rel6, exx, hD6, kx, by rw [← hf]; exact p'⟩
      | true =>
        simp only [if_true] at p' ⊢
        cases e7 : me σ2 o5 with
        | exc _ _ => rw [e7] at p'; exact p'.elim
        | stuck => rw [e7] at p'; exact p'.elim
        | ok w o7 =>
          rw [e7, R.bind_ok, R.bind_ok] at p'
          simp only at p'
          split at p'
          · rename_i hz
            refine ⟨FD F Dd, ι6, o5, σ2, rel6, sr3.ext ex6, ?_⟩
            rw [e7]
            intro v8 ι8 H8 rel8 ex8 r8
            have hD8 : H8 Dd = some (.lst acc) := ex8.keep _ _ hD6 (nDl rel6)
            refine ⟨acc, hD8, by rw [← RWs.length kx]; exact hz, ?_⟩
            -- the list at D grows
            have nA8 : Dd ∉ ι8 := (rel8.out Dd (.inr rfl)).2
            have hc : Carry (Al (FD F Dd) ι8 o7) H8 (Al (FD F Dd) ι8 o7) (upd H8 Dd (.lst (acc ++ [v8]))) := ⟨fun b u q n => ⟨by rw [upd_ne (show b ≠ Dd from fun z => n (by rw [z]; exact .inl (.inr rfl)))]; exact q, n⟩⟩
            have carW : ∀ {w v}, RW (gX X) ι8 (Al (FD F Dd) ι8 o7) H8 w v → RW (gX X) ι8 (Al (FD F Dd) ι8 o7) (upd H8 Dd (.lst (acc ++ [v8]))) w v := by
              intro w v q
              cases w with
              | v d => exact RV.car hc d v q
              | o n => exact q
            refine ⟨hlt, ι8, o7, ws ++ [w], acc ++ [v8], ⟨rel8.nd, rel8.len, fun j a ob q1 q2 => ?_, fun a z => ?_⟩, ?_, upd_same, RWs.app (Paired.mapP (RWs.ext kx ex8) fun _ _ q => carW q) (.cons (carW r8) .nil), by rw [← hf]; exact p'⟩
            · have h1 := rel8.at_ j a ob q1 q2
              have ne : a ≠ Dd := fun z => nA8 (z ▸ List.mem_of_getElem? q1)
              cases hm : ob.ob with
              | lst ys => rw [hm] at h1; exact let ⟨vs, h, k⟩ := h1; ⟨vs, by rw [upd_ne ne]; exact h, RVs.car hc _ _ k⟩
              | lol is => rw [hm] at h1; exact let ⟨vs, h, k⟩ := h1; ⟨vs, by rw [upd_ne ne]; exact h, k⟩
              | dic ks ds => rw [hm] at h1; exact let ⟨kvs, h, k, q⟩ := h1; ⟨kvs, by rw [upd_ne ne]; exact h, k, RVs.car hc _ _ q⟩
              | ins c ns ds => rw [hm] at h1; exact let ⟨C, dx, vs, c1, h, k, q⟩ := h1; ⟨C, dx, vs, c1, by rw [upd_ne ne]; exact h, k, RVs.car hc _ _ q⟩
            · obtain ⟨⟨u, q⟩, n⟩ := rel8.out a z
              refine ⟨?_, n⟩
              by_cases ha : a = Dd
              · rw [ha]; exact ⟨_, upd_same⟩
              · exact ⟨u, by rw [upd_ne ha]; exact q⟩
            · have e8 := exx.trans ex8
              exact ⟨e8.pre, fun b u q n => by rw [upd_ne (ne_of_none q hDd)]; exact e8.keep b u q n, e8.new⟩
          · exact p'.elim
  · have hi2 : i = xs.length := by omega
    subst hi2
    refine .inl ⟨y2 (Nat.le_refl _), ?_⟩
    rw [List.drop_length] at p'
    simp only [lcGo, R.bind_ok] at p'
    exact lc_done hDd rel' ex' hD' k' rel1 p'
/-- [elt for target in iter if ..] -/
theorem se_lc {ifs : List Expr} {scope : Scope} {own : List (Str × Nat)} {T : Tg} {mu : Bool} (hc : X.calm = true) (hN : X.N.Nodup) (hi : SI X tg iter mi) (ok : BlkOk X.N X.env.scope scope own)
    (hT : ∀ i ∈ T.slots, i ∈ own.map (·.2))
    (hg : ∀ (s : Shared) (H : Hp) (C : Addr) (cl : List (Str × Addr)) (fp : List Addr), PG (X.blk s H scope (compEnvC scope cl C X.env) fp) tg (hTg X.K T))
    (ht : ∀ (s : Shared) (H : Hp) (C : Addr) (cl : List (Str × Addr)) (fp : List Addr), PTs (X.blk s H scope (compEnvC scope cl C X.env) fp) ifs (teb (gX X) nc))
    (he : ∀ (s : Shared) (H : Hp) (C : Addr) (cl : List (Str × Addr)) (fp : List Addr), SE (X.blk s H scope (compEnvC scope cl C X.env) fp) elt me)
    (hs : ∀ x, foldedSetIterable iter X.env x = pure x) : SE X (.ListComp elt [⟨tg, iter, ifs, 0⟩] scope pos) (mLc mu mi T (own.map (·.2)) nc me) :=
  (pe_lc hc hN hi ok hg ht he hs).weak fun σ H Q h => se_lcCore hT h
/-- name = [..] -/
theorem ss_setLc {i : Nat} {y : Str} {py spos : Pos} {ifs : List Expr} {scope : Scope} {own : List (Str × Nat)} {T : Tg} {mu : Bool} (hc : X.calm = true) (hN : X.N.Nodup) (hy : X.N[i]? = some y) (hyl : X.env.scope.names.lookup y = some .local)
    (hsw : swapsWith (.ListComp elt [⟨tg, iter, ifs, 0⟩] scope pos) (some (.Name y py)) spos.line X.env = pure true) (hi : SI X tg iter mi) (ok : BlkOk X.N X.env.scope scope own)
    (hT : ∀ i ∈ T.slots, i ∈ own.map (·.2))
    (hg : ∀ (s : Shared) (H : Hp) (C : Addr) (cl : List (Str × Addr)) (fp : List Addr), PG (X.blk s H scope (compEnvC scope cl C X.env) fp) tg (hTg X.K T))
    (ht : ∀ (s : Shared) (H : Hp) (C : Addr) (cl : List (Str × Addr)) (fp : List Addr), PTs (X.blk s H scope (compEnvC scope cl C X.env) fp) ifs (teb (gX X) nc))
    (he : ∀ (s : Shared) (H : Hp) (C : Addr) (cl : List (Str × Addr)) (fp : List Addr), SE (X.blk s H scope (compEnvC scope cl C X.env) fp) elt me)
    (hs : ∀ x, foldedSetIterable iter X.env x = pure x) : SS X (.Assign [.Name y py] (.ListComp elt [⟨tg, iter, ifs, 0⟩] scope pos) spos) (mAsg (mLc mu mi T (own.map (·.2)) nc me) (gNm i)) := by
  refine (ps_setLc (te := tev (gX X) me) hc hN hy hyl hsw hi ok hg ht he hs).weak fun D σ H ⟨F, ι, objs, σd, rel, sr, p⟩ => ?_
  obtain ⟨w, o1, e1, p⟩ := p.bind
  refine se_lcCore (mu := mu) hT ⟨F, ι, objs, σd, rel, sr, ?_⟩
  rw [e1]
  intro v ι1 H1 rel1 ex1 r1
  exact p ι1 H1 _ rel1 ex1 ((sr.ext ex1).set i r1)
theorem sts_nil : PTs X [] (teb (gX X) mYes) := ⟨fun pins s σ H Q I ⟨F, ι, objs, σd, rel, sr, p⟩ => pts_nil.run pins s σ H Q I (p ι H rel .refl)⟩
theorem sts_one (h : ST X c nc) : PTs X [c] (teb (gX X) nc) := pts_one h
end
end RR

set_option maxHeartbeats 4000000
namespace RR
open PySem PySem.Spec PyProof.Rows L2
/-! ### defs: what they do, how they are called -/
/-- a def: fm runs it on its arguments and the things among them that it may change -/
structure FI where
  n : Nat
  /-- the first argument is a thing that the def may change -/
  mt : Bool
  fm : List W → Objs → R W
  /-- calls by names alone: the names, and where each parameter's value stands among them -/
  kws : List (List Str × List Nat) := []
def spOf (g : GE) (n : Nat) (fm : List W → Objs → R W) : Sp := fun vs H Q _ => vs.length = n ∧ ∃ F ι objs ws, Rel g F ι H objs ∧ RWs g ι (Al F ι objs) H ws vs ∧ Post g F ι objs H (fm ws objs) Q
def flatO : MO → Bool
  | .lol _ => false
  | _ => true
def freshL (o2 : Objs) : Option (List D) := match o2 with
  | [e] => match e with
    | ⟨true, .lst ds⟩ => some ds
    | _ => none
  | _ => none
theorem freshL_inv {o2 : Objs} {ds : List D} (h : freshL o2 = some ds) : o2 = [⟨true, .lst ds⟩] := by
  unfold freshL at h
  split at h
  · split at h
    · cases h; rfl
    · cases h
  · cases h
/-- behind a call: the thing changed at k, the result -/
def backC (k : Option Nat) (o : Objs) (r : R W) : R W := match r with
  | .ok (.v d) o2 => match k, o2 with
    | none, [] => .ok (.v d) o
    | some k, [e] => if flatO e.ob = true then .ok (.v d) (o.set k e) else .stuck
    | _, _ => .stuck
  | .ok (.o j) o2 => match k, j with
    | none, 0 => match freshL o2 with
      | some ds => .ok (.o o.length) (o ++ [⟨true, .lst ds⟩])
      | none => .stuck
    | _, _ => .stuck
  | .exc _ _ => .stuck
  | .stuck => .stuck
def callW (fi : FI) (ws : List W) (o : Objs) : R W :=
  if ws.length = fi.n then
    match fi.mt, ws with
    | false, ws => match pulls o ws with
      | some (ds, o1) => backC none o1 (fi.fm (ds.map W.v) [])
      | none => .stuck
    | true, .o k :: ws => match pulls o ws with
      | some (ds, o1) => match o1[k]? with
        | some ⟨true, m⟩ => if flatO m then backC (some k) o1 (fi.fm (.o 0 :: ds.map W.v) [⟨true, m⟩]) else .stuck
        | _ => .stuck
      | none => .stuck
    | true, _ => .stuck
  else .stuck
section
variable {g : GE} {F F' : Addr → Prop} {ι ι' ι1 ι2 : List Addr} {H H' H1 H2 : Hp} {objs objs' objs1 objs2 : Objs} {A A' : Addr → Prop}
theorem RVs.ws {ds : List D} {vs : List V} (h : RVs g A H ds vs) : RWs g ι A H (ds.map W.v) vs := by
  induction ds generalizing vs with
  | nil => simp only [RVs] at h; subst h; exact .nil
  | cons d ds ih =>
    simp only [RVs] at h
    obtain ⟨v, r, rfl, h1, h2⟩ := h
    exact .cons h1 (ih h2)
theorem Rel.nil (h : ∀ a, F a → ∃ o, H a = some o) : Rel g F [] H [] := ⟨by simp, rfl, fun i a o e => by simp at e, fun a z => ⟨h a z, by simp⟩⟩
theorem Rel.tracked (r : Rel g F ι H objs) {a : Addr} (h : Al F ι objs a) : ∃ o, H a = some o := by
  rcases h with h | h
  · exact (r.out a h).1
  · exact r.has h.mem
theorem Live.none {a : Addr} (h : Live [] [] a) : False := by obtain ⟨i, o, e, _⟩ := h; simp at e
/-- a heap in which nothing changed but what was new -/
theorem Rel.grown (r : Rel g F ι H objs) (k : ∀ b o, H b = some o → H' b = some o) : Rel g F ι H' objs ∧ Ext ι objs H ι objs H' := by
  have ex : Ext ι objs H ι objs H' := ⟨List.prefix_rfl, fun b o e _ => k b o e, fun _ z n => absurd z n⟩
  exact ⟨⟨r.nd, r.len, fun i a o e1 e2 => (r.at_ i a o e1 e2).ext ex fun u => k a u, fun a z => ⟨let ⟨o, e⟩ := (r.out a z).1; ⟨o, k a o e⟩, (r.out a z).2⟩⟩, ex⟩
theorem len1 {α : Type} {l : List α} (h : l.length = 1) : ∃ a, l = [a] := by
  match l, h with
  | [a], _ => exact ⟨a, rfl⟩
theorem call_pure {fm : List W → Objs → R W} {ds : List D} {vs : List V} {Q : VK} (r : Rel g F ι H objs) (k : RVs g (Al F ι objs) H ds vs) (p : Post g F ι objs H (backC none objs (fm (ds.map W.v) [])) Q) :
    ∃ F ι objs ws, Rel g F ι H objs ∧ RWs g ι (Al F ι objs) H ws vs ∧ Post g F ι objs H (fm ws objs) Q := by
  refine ⟨Al F ι objs, [], [], ds.map W.v, Rel.nil fun a z => r.tracked z, RVs.ws (k.anti fun a z => z.elim id fun z => z.none.elim), ?_⟩
  cases hfm : fm (ds.map W.v) [] with
  | exc _ _ => rw [hfm] at p; exact p.elim
  | stuck => rw [hfm] at p; exact p.elim
  | ok w o2 =>
    rw [hfm] at p
    cases w with
    | v d =>
      cases o2 with
      | cons _ _ => exact p.elim
      | nil =>
        have p : Post g F ι objs H (.ok (.v d) objs) Q := p
        intro v ι' H' r' ex' k'
        have e0 : ι' = [] := List.eq_nil_of_length_eq_zero r'.len
        subst e0
        obtain ⟨r2, x2⟩ := r.grown fun b o e => ex'.keep b o e fun z => z.none
        exact p v ι H' r2 x2 (RW.anti k' fun a z => .inl z)
    | o j =>
      cases j with
      | succ j => exact p.elim
      | zero =>
      cases hfr : freshL o2 with
      | none => simp only [backC, hfr] at p; exact p.elim
      | some zs =>
        simp only [backC, hfr] at p
        have hfr := freshL_inv hfr
        subst hfr
        have p : Post g F ι objs H (.ok (.o objs.length) (objs ++ [⟨true, .lst zs⟩])) Q := p
        intro v ι' H' r' ex' k'
        obtain ⟨a, rfl⟩ := len1 r'.len
        obtain ⟨b, hb, rfl⟩ := k'
        simp at hb
        subst hb
        obtain ⟨vs', q1, q2⟩ := r'.at_ 0 a _ rfl rfl
        have hn : H a = none := ex'.new a ⟨0, _, rfl, rfl⟩ fun z => z.none
        obtain ⟨r2, x2⟩ := r.grown fun b o e => ex'.keep b o e fun z => z.none
        have na : a ∉ ι := r.fresh hn
        have nF : ¬ F a := r.freshF hn
        have same : ∀ b, Al F (ι ++ [a]) (objs ++ [⟨true, .lst zs⟩]) b ↔ (Al F ι objs b ∨ b = a) := by
          intro b
          constructor
          · rintro (z | ⟨i, u, e1, e2⟩)
            · exact .inl (.inl z)
            · by_cases hi : i < ι.length
              · rw [List.getElem?_append_left hi] at e1
                rw [List.getElem?_append_left (by rw [← r.len]; exact hi)] at e2
                exact .inl (.inr ⟨i, u, e1, e2⟩)
              · have e : i = ι.length := by
                  have := (List.getElem?_eq_some_iff.mp e1).1
                  simp at this; omega
                subst e
                simp at e1
                exact .inr e1.symm
          · rintro ((z | ⟨i, u, e1, e2⟩) | z)
            · exact .inl z
            · refine .inr ⟨i, u, ?_, ?_⟩
              · rw [List.getElem?_append_left (List.getElem?_eq_some_iff.mp e1).1]; exact e1
              · rw [List.getElem?_append_left (List.getElem?_eq_some_iff.mp e2).1]; exact e2
            · subst z
              exact .inr ⟨ι.length, .lst zs, by simp, by rw [r.len]; simp⟩
        have exx : Ext ι objs H' (ι ++ [a]) (objs ++ [⟨true, .lst zs⟩]) H' → False ∨ True := fun _ => .inr trivial
        refine p _ (ι ++ [a]) H' ⟨?_, by simp [r.len], fun i b ob e1 e2 => ?_, fun b z => ⟨(r2.out b z).1, fun q => ?_⟩⟩ ⟨List.prefix_append _ _, x2.keep, fun b z n => ?_⟩ ⟨a, by rw [← r.len]; simp, rfl⟩
        · rw [List.nodup_append]
          refine ⟨r.nd, by simp, fun b hb c hc e => ?_⟩
          rw [List.mem_singleton.mp hc] at e
          exact na (e ▸ hb)
        · by_cases hi : i < ι.length
          · rw [List.getElem?_append_left hi] at e1
            rw [List.getElem?_append_left (by rw [← r.len]; exact hi)] at e2
            have h1 := r.at_ i b ob e1 e2
            have hc : Carry (Al F ι objs) H (Al F (ι ++ [a]) (objs ++ [⟨true, .lst zs⟩])) H' := ⟨fun c u q n => ⟨x2.kp q n, fun z => by
              rcases (same c).mp z with z | z
              · exact n z
              · rw [z, hn] at q; cases q⟩⟩
            have kp : ∀ u, H b = some u → H' b = some u := fun u q => ex'.keep b u q fun z => z.none
            cases hm : ob.ob with
            | lst ys => rw [hm] at h1; exact let ⟨vs, h, k⟩ := h1; ⟨vs, kp _ h, RVs.car hc _ _ k⟩
            | lol is => rw [hm] at h1; exact let ⟨vs, h, k⟩ := h1; ⟨vs, kp _ h, Paired.mapP k fun i v ⟨c, e, z⟩ => ⟨c, by rw [List.getElem?_append_left (List.getElem?_eq_some_iff.mp e).1]; exact e, z⟩⟩
            | dic ks ds => rw [hm] at h1; exact let ⟨kvs, h, k, q⟩ := h1; ⟨kvs, kp _ h, k, RVs.car hc _ _ q⟩
            | ins c ns ds => rw [hm] at h1; exact let ⟨C, dx, vs, c1, h, k, q⟩ := h1; ⟨C, dx, vs, c1, kp _ h, k, RVs.car hc _ _ q⟩
          · have e : i = ι.length := by
              have := (List.getElem?_eq_some_iff.mp e1).1
              simp at this; omega
            subst e
            simp at e1
            rw [r.len] at e2
            simp at e2
            subst e1 e2
            refine ⟨vs', q1, q2.anti fun c z => ?_⟩
            rcases (same c).mp z with z | z
            · exact .inl z
            · subst z; exact .inr ⟨0, _, rfl, rfl⟩
        · rcases List.mem_append.mp q with q | q
          · exact (r.out b z).2 q
          · rw [List.mem_singleton.mp q] at z; exact nF z
        · rcases (same b).mp (.inr z) with z' | z'
          · rcases z' with z' | z'
            · exact absurd z.mem (fun q => by
                rcases List.mem_append.mp q with q | q
                · exact (r.out b z').2 q
                · rw [List.mem_singleton.mp q] at z'; exact nF z')
            · exact absurd z' n
          · rw [z']; exact hn
theorem call_mut {fm : List W → Objs → R W} {ds : List D} {vs : List V} {v0 : V} {k : Nat} {m : MO} {Q : VK} (r : Rel g F ι H objs) (hk : RAt ι k v0) (ho : objs[k]? = some ⟨true, m⟩) (hm : flatO m = true) (kd : RVs g (Al F ι objs) H ds vs) (p : Post g F ι objs H (backC (some k) objs (fm (.o 0 :: ds.map W.v) [⟨true, m⟩])) Q) :
    ∃ F ι objs ws, Rel g F ι H objs ∧ RWs g ι (Al F ι objs) H ws (v0 :: vs) ∧ Post g F ι objs H (fm ws objs) Q := by
  obtain ⟨a, ha, rfl⟩ := hk
  have lv : Live ι objs a := ⟨k, m, ha, ho⟩
  -- what is live beside a
  have same : ∀ b, Al (fun b => Al F ι objs b ∧ b ≠ a) [a] [⟨true, m⟩] b ↔ Al F ι objs b := by
    intro b
    constructor
    · rintro (z | ⟨i, u, e1, e2⟩)
      · exact z.1
      · match i, e1 with
        | 0, e1 => simp at e1; subst e1; exact .inr lv
    · intro z
      by_cases hb : b = a
      · subst hb; exact .inr ⟨0, m, rfl, rfl⟩
      · exact .inl ⟨z, hb⟩
  have relC : Rel g (fun b => Al F ι objs b ∧ b ≠ a) [a] H [⟨true, m⟩] := by
    refine ⟨by simp, rfl, fun i b ob e1 e2 => ?_, fun b z => ⟨r.tracked z.1, by simpa using z.2⟩⟩
    match i, e1, e2 with
    | 0, e1, e2 =>
      simp at e1 e2
      subst e1 e2
      have h1 := (r.at_ k _ _ ha ho).anti fun b z => (same b).mp z
      cases m with
      | lst ys => exact h1
      | lol is => cases hm
      | dic ks ds => exact h1
      | ins c ns ds => exact h1
  refine ⟨_, [a], [⟨true, m⟩], .o 0 :: ds.map W.v, relC, .cons ⟨a, rfl, rfl⟩ (RVs.ws (kd.anti fun b z => (same b).mp z)), ?_⟩
  cases hfm : fm (.o 0 :: ds.map W.v) [⟨true, m⟩] with
  | exc _ _ => rw [hfm] at p; exact p.elim
  | stuck => rw [hfm] at p; exact p.elim
  | ok w o2 =>
    rw [hfm] at p
    cases w with
    | o j => exact p.elim
    | v d =>
      match o2, p with
      | [], p => exact p.elim
      | _ :: _ :: _, p => exact p.elim
      | [e], p =>
        simp only [backC] at p
        split at p
        case isFalse => exact p.elim
        rename_i hfe
        have p : Post g F ι objs H (.ok (.v d) (objs.set k e)) Q := p
        intro v ι' H' r' ex' k'
        have e0 : ι' = [a] := by
          obtain ⟨t, rfl⟩ := ex'.pre
          have := r'.len
          simp at this
          subst this
          rfl
        subst e0
        have hkl : k < objs.length := (List.getElem?_eq_some_iff.mp ho).1
        have kp : ∀ b u, H b = some u → b ≠ a → H' b = some u := fun b u q n => ex'.keep b u q fun z => by
          obtain ⟨i, u, e1, _⟩ := z
          match i, e1 with
          | 0, e1 => simp at e1; exact n e1.symm
        -- live behind the call
        have lv2 : ∀ b, Live ι (objs.set k e) b → Live ι objs b := by
          rintro b ⟨i, u, e1, e2⟩
          rcases set_get e2 with ⟨rfl, _⟩ | ⟨hi, e2⟩
          · rw [ha] at e1; cases e1; exact lv
          · exact ⟨i, u, e1, e2⟩
        have sub2 : ∀ b, Al F ι (objs.set k e) b → Al (fun b => Al F ι objs b ∧ b ≠ a) [a] [e] b := by
          rintro b (z | ⟨i, u, e1, e2⟩)
          · refine .inl ⟨.inl z, fun q => ?_⟩
            subst q
            exact (r.out _ z).2 (List.mem_of_getElem? ha)
          · rcases set_get e2 with ⟨rfl, q⟩ | ⟨hi, e2⟩
            · rw [ha] at e1; cases e1
              exact .inr ⟨0, u, rfl, by rw [← q]; rfl⟩
            · refine .inl ⟨.inr ⟨i, u, e1, e2⟩, fun q => ?_⟩
              subst q
              exact hi (r.idx e1 ha)
        have ex2 : Ext ι objs H ι (objs.set k e) H' := ⟨List.prefix_rfl, fun b u q n => kp b u q fun z => n (by rw [z]; exact lv), fun b z n => absurd (lv2 b z) n⟩
        refine p v ι H' ⟨r.nd, by simp [r.len], fun i b ob e1 e2 => ?_, fun b z => ⟨?_, (r.out b z).2⟩⟩ ex2 (RW.anti k' sub2)
        · rcases set_get e2 with ⟨rfl, rfl⟩ | ⟨hi, e2⟩
          · rw [ha] at e1; cases e1
            have h1 := (r'.at_ 0 _ _ rfl rfl).anti sub2
            cases hm2 : ob.ob with
            | lst ys => rw [hm2] at h1; exact h1
            | lol is => rw [hm2] at hfe; cases hfe
            | dic ks ds => rw [hm2] at h1; exact h1
            | ins c ns ds => rw [hm2] at h1; exact h1
          · refine (r.at_ i b ob e1 e2).ext ex2 fun u q => kp b u q fun z => ?_
            subst z
            exact hi (r.idx e1 ha)
        · obtain ⟨u, q⟩ := (r.out b z).1
          exact ⟨u, kp b u q fun y => (r.out b z).2 (by rw [y]; exact List.mem_of_getElem? ha)⟩
end
end RR

set_option maxHeartbeats 4000000
namespace RR
open PySem PySem.Spec PyProof.Rows L2
section
variable {g : GE} {F F' : Addr → Prop} {ι ι' ι1 ι2 : List Addr} {H H' H1 H2 : Hp} {objs objs' objs1 objs2 : Objs} {A A' : Addr → Prop}
theorem call_ok {fi : FI} {ws : List W} {vs : List V} {Q : VK} {E : XK} (r : Rel g F ι H objs) (k : RWs g ι (Al F ι objs) H ws vs) (p : Post g F ι objs H (callW fi ws objs) Q) : spOf g fi.n fi.fm vs H Q E := by
  unfold callW at p
  split at p
  · rename_i hl
    refine ⟨by rw [← k.length]; exact hl, ?_⟩
    split at p
    · split at p
      · rename_i ds o1 hp
        obtain ⟨r1, x1, k1⟩ := pulls_ok hp r k
        exact call_pure r1 k1 (p.at x1)
      · exact p.elim
    · cases k with
      | cons kk ks =>
        split at p
        · rename_i ds o1 hp
          obtain ⟨r1, x1, k1⟩ := pulls_ok hp r ks
          split at p
          · rename_i m hm
            split at p
            · rename_i hf
              exact call_mut r1 kk hm hf k1 (p.at x1)
            · exact p.elim
          · exact p.elim
        · exact p.elim
    · exact p.elim
  · exact p.elim
/-! ### a def's body -/
def startD (n : Nat) (ws : List W) : Sl := ws.map some ++ List.replicate (n - ws.length) none
def finC (k : Nat) (fr : Bool) (r : R Fl) : R W := match r with
  | .ok (.nx _) o => if (o.take k).all (fun e => flatO e.ob) = true then .ok (.v .non) (o.take k) else .stuck
  | .ok (.rt w) o => match fr with
    | true => match k, w with
      | 0, .o j => match o[j]? with
        | some ⟨true, .lst ds⟩ => .ok (.o 0) [⟨true, .lst ds⟩]
        | _ => .stuck
      | _, _ => .stuck
    | false => match pull o w with
      | some (d, o) => if (o.take k).all (fun e => flatO e.ob) = true then .ok (.v d) (o.take k) else .stuck
      | none => .stuck
  | .ok (.bk _) _ => .stuck
  | .ok (.ct _) _ => .stuck
  | .exc _ _ => .stuck
  | .stuck => .stuck
def runFn (n : Nat) (fr : Bool) (ms : MS) (ws : List W) (o : Objs) : R W := finC o.length fr (ms (startD n ws) o)
theorem Rel.trunc (r : Rel g F ι' H' objs') (ex : Ext ι objs H ι' objs' H') (hk : ι.length = k) (hf : (objs'.take k).all (fun e => flatO e.ob) = true) : Rel g F ι H' (objs'.take k) ∧ Ext ι objs H ι (objs'.take k) H' ∧ ∀ a, Al F ι (objs'.take k) a → Al F ι' objs' a := by
  obtain ⟨t, rfl⟩ := ex.pre
  have hl : k ≤ objs'.length := by
    have := r.len
    simp at this
    omega
  have sub : ∀ a, Live ι (objs'.take k) a → Live (ι ++ t) objs' a := by
    rintro a ⟨i, u, e1, e2⟩
    have hi := (List.getElem?_eq_some_iff.mp e1).1
    refine ⟨i, u, by rw [List.getElem?_append_left hi]; exact e1, ?_⟩
    rw [List.getElem?_take] at e2
    split at e2
    · exact e2
    · cases e2
  have sub2 : ∀ a, Al F ι (objs'.take k) a → Al F (ι ++ t) objs' a := fun a z => z.elim .inl fun z => .inr (sub a z)
  refine ⟨⟨(List.nodup_append.mp r.nd).1, by rw [List.length_take]; omega, fun i a ob e1 e2 => ?_, fun a z => ⟨(r.out a z).1, fun q => (r.out a z).2 (List.mem_append_left _ q)⟩⟩, ⟨List.prefix_rfl, ex.keep, fun a z n => ex.new a (sub a z) n⟩, sub2⟩
  have hi := (List.getElem?_eq_some_iff.mp e1).1
  have e3 : objs'[i]? = some ob := by
    rw [List.getElem?_take] at e2
    split at e2
    · exact e2
    · cases e2
  have h1 := (r.at_ i a ob (by rw [List.getElem?_append_left hi]; exact e1) e3).anti sub2
  have hfl : flatO ob.ob = true := by
    have := List.all_eq_true.mp hf ob (List.mem_of_getElem? e2)
    exact this
  cases hm : ob.ob with
  | lst ys => rw [hm] at h1; exact h1
  | lol is => rw [hm] at hfl; cases hfl
  | dic ks ds => rw [hm] at h1; exact h1
  | ins c ns ds => rw [hm] at h1; exact h1
theorem fin_ok {fr : Bool} {r : R Fl} {Q : VK} (rel : Rel g F ι H objs) (p : Post g F ι objs H (finC objs.length fr r) Q) : PostS g F ι objs H r { nx := fun _ H' => Q .non H', rt := Q } := by
  cases r with
  | exc _ _ => exact p
  | stuck => exact p
  | ok fl o =>
    cases fl with
    | bk _ => exact p.elim
    | ct _ => exact p.elim
    | nx σ =>
      intro ι' H' σ' r' ex' sr'
      simp only [finC] at p
      split at p
      · rename_i hf
        obtain ⟨r2, x2, s2⟩ := r'.trunc ex' rel.len hf
        exact p .non ι H' r2 x2 (by simp only [RW, RV])
      · exact p.elim
    | rt w =>
      intro v ι' H' r' ex' k'
      cases fr with
      | false =>
        simp only [finC] at p
        split at p
        · rename_i d o2 hp
          obtain ⟨r1, x1, k1⟩ := pull_ok hp r' k'
          split at p
          · rename_i hf
            obtain ⟨r2, x2, s2⟩ := r1.trunc (ex'.trans x1) rel.len hf
            exact p v ι H' r2 x2 (RW.anti (w := .v d) k1 s2)
          · exact p.elim
        · exact p.elim
      | true =>
        cases w with
        | v d =>
          cases objs <;> exact p.elim
        | o j =>
          cases objs with
          | cons _ _ => exact p.elim
          | nil =>
            have e0 : ι = [] := List.eq_nil_of_length_eq_zero rel.len
            subst e0
            simp only [finC, List.length_nil] at p
            split at p
            · rename_i ds hj
              obtain ⟨a, ha, rfl⟩ := k'
              obtain ⟨vs, q1, q2⟩ := r'.at_ j a _ ha hj
              have lv : Live ι' o a := ⟨j, _, ha, hj⟩
              have sub : ∀ b, Al F [a] [⟨true, .lst ds⟩] b → Al F ι' o b := by
                rintro b (z | ⟨i, u, e1, e2⟩)
                · exact .inl z
                · match i, e1 with
                  | 0, e1 => simp at e1; subst e1; exact .inr lv
              refine p _ [a] H' ⟨by simp, rfl, fun i b ob e1 e2 => ?_, fun b z => ⟨(r'.out b z).1, fun q => ?_⟩⟩ ⟨List.nil_prefix, ex'.keep, fun b z n => ?_⟩ ⟨a, rfl, rfl⟩
              · match i, e1, e2 with
                | 0, e1, e2 =>
                  simp at e1 e2
                  subst e1 e2
                  exact ⟨vs, q1, q2.anti sub⟩
              · rw [List.mem_singleton.mp q] at z
                exact (r'.out a z).2 (List.mem_of_getElem? ha)
              · obtain ⟨i, u, e1, e2⟩ := z
                match i, e1 with
                | 0, e1 => simp at e1; subst e1; exact ex'.new _ lv n
            · exact p.elim
theorem start_ok {n : Nat} {ws : List W} {vs : List V} (k : RWs g ι A H ws vs) (N : List Str) (hn : N.length = n) : SRel g ι A H (startD n ws) (L2.start N vs) := by
  unfold startD L2.start
  refine ⟨by simp [k.length, hn], fun i w h => ?_⟩
  have hl : ws.length = vs.length := k.length
  by_cases hi : i < ws.length
  · rw [List.getElem?_append_left (by simpa using hi)] at h
    rw [List.getElem?_append_left (by simp; omega)]
    rw [List.getElem?_map] at h ⊢
    cases hw : ws[i]? with
    | none => rw [hw] at h; cases h
    | some u =>
      rw [hw] at h
      cases h
      have gen : ∀ {ws : List W} {vs : List V} {i : Nat}, RWs g ι A H ws vs → ws[i]? = some w → ∃ v, vs[i]? = some v ∧ RW g ι A H w v := by
        intro ws vs i pr
        induction pr generalizing i with
        | nil => intro h; simp at h
        | cons r _ ih =>
          intro h
          cases i with
          | zero => simp at h; subst h; exact ⟨_, rfl, r⟩
          | succ i => exact ih (by simpa using h)
      obtain ⟨v, e1, e2⟩ := gen k hw
      exact ⟨v, by rw [e1]; rfl, e2⟩
  · rw [List.getElem?_append_right (by simpa using hi)] at h
    rw [List.getElem?_replicate] at h
    split at h
    · cases h
    · cases h
end
/-! ### the call, the def -/
/-- the values in the parameters' order -/
def permL {α : Type} (π : List Nat) (ws : List α) : List α := π.filterMap fun (i : Nat) => ws[i]?
def KwB (fd : FuncData) (ps : List Str) (p : List Str × List Nat) : Prop := ∀ (s : Shared) (us : List Value), us.length = p.1.length → BindsTo s fd ⟨[], p.1.zip us⟩ (ps.zip (permL p.2 us))
/-- what is known of a def of the module: at x, called with n arguments -/
structure FnS (P : Program) (w : World) (K : PySem.W.Frag) (mg : Str → Option Value) (base : Heap) (k : Nat) (x : Str) (fi : FI) : Prop where
  ex : ∃ f fd ps, FnOk P w K mg base CX0 k f fd ps (spOf ⟨K, mg⟩ fi.n fi.fm) ∧ mg x = some (.ref f) ∧ PySem.W.keepIn K (.ref f) = true ∧ Binds K fd ps [] ∧ ∀ p ∈ fi.kws, KwB fd ps p
theorem FnS.mono {P : Program} {w : World} {K : PySem.W.Frag} {mg : Str → Option Value} {base : Heap} {j k : Nat} {x : Str} {fi : FI} (h : FnS P w K mg base j x fi) (hj : j ≤ k) : FnS P w K mg base k x fi :=
  let ⟨f, fd, ps, a, b⟩ := h.ex; ⟨f, fd, ps, a.mono hj, b⟩
theorem permL_rel {α β : Type} {P : α → β → Prop} {xs : List α} {ys : List β} (h : Paired P xs ys) : ∀ π : List Nat, Paired P (permL π xs) (permL π ys)
  | [] => .nil
  | i :: π => by
    have ih := permL_rel h π
    unfold permL at ih ⊢
    rw [List.filterMap_cons, List.filterMap_cons]
    have gen : ∀ {xs : List α} {ys : List β} {i : Nat}, Paired P xs ys → (xs[i]? = none ∧ ys[i]? = none) ∨ ∃ a b, xs[i]? = some a ∧ ys[i]? = some b ∧ P a b := by
      intro xs ys i pr
      induction pr generalizing i with
      | nil => exact .inl ⟨by simp, by simp⟩
      | cons r _ ih =>
        cases i with
        | zero => exact .inr ⟨_, _, rfl, rfl, r⟩
        | succ i => simpa using ih (i := i)
    rcases gen (i := i) h with ⟨e1, e2⟩ | ⟨a, b, e1, e2, r⟩
    · rw [e1, e2]; exact ih
    · rw [e1, e2]; exact .cons r ih
section
variable {X : Cx} {a b c e tg iter elt : Expr} {st : Stmt} {sts sts' : List Stmt} {es : List Expr} {pos p : Pos} {ma mb mc me : ME} {ml : ML} {ms ms' : MS} {nc : MB} {gm : MG} {mi : MI}
theorem se_call {k : Nat} {x : Str} {fi : FI} (h : FnS X.prog X.w X.K X.mg X.base k x fi) (hr : Room k X.A) (hg : Gl X x) (ha : SA X (e :: es) ml) (hdb : (x == ("__debug__" : Str)) = false) (hst : (e :: es).all (fun e => !isStar e) = true) :
    SE X (.Call (.Name x p) (e :: es) [] pos) (mCall (callW fi) ml) := by
  obtain ⟨f, fd, ps, F, hm, hk, hb, _⟩ := h.ex
  have h1 : isStar e = false := by simp only [List.all_cons, Bool.and_eq_true, Bool.not_eq_true'] at hst; exact hst.1
  have h2 : es.all (fun e => !isStar e) = true := by simp only [List.all_cons, Bool.and_eq_true] at hst; exact hst.2
  refine (pe_call (E := E0) F hr hg hm hk hb .nil pass0 ha hdb (star_cons h1 _) (star_none h2)).weak fun σ H Q ⟨F, ι, objs, σd, rel, sr, p⟩ => ?_
  obtain ⟨ws, o1, e1, p⟩ := p.bind
  refine ⟨F, ι, objs, σd, rel, sr, ?_⟩
  rw [e1]
  intro vs ι1 H1 rel1 ex1 r1
  rw [List.append_nil]
  exact call_ok rel1 r1 (p.at ex1)
/-- f(k = v, ..): by names alone -/
abbrev SK (X : Cx) (kws : List Keyword) (m : ML) : Prop := PK X kws (tea (gX X) m)
theorem sk_nil : SK X [] mNil := ⟨fun pos pins s σ H Q I ⟨F, ι, objs, σd, rel, sr, p⟩ => pk_nil.run pos pins s σ H Q I (p [] ι H rel .refl .nil)⟩
theorem sk_cons {nm : Option Str} {kpos : Pos} {kws : List Keyword} (ha : SE X e ma) (hr : SK X kws ml) : SK X (⟨nm, e, kpos⟩ :: kws) (mCons ma ml) := ⟨fun pos pins s σ H Q I ⟨F, ι, objs, σd, rel, sr, p⟩ => (pk_cons ha hr).run pos pins s σ H Q I (by
  obtain ⟨x, o1, e1, p⟩ := p.bind
  refine ⟨F, ι, objs, σd, rel, sr, ?_⟩
  rw [e1]
  intro v ι1 H1 rel1 ex1 r1
  obtain ⟨xs, o2, e2, p⟩ := (p.at ex1).bind
  refine ⟨F, ι1, o1, σd, rel1, sr.ext ex1, ?_⟩
  rw [e2]
  intro v2 ι2 H2 rel2 ex2 r2
  exact (p.at ex2) (v :: v2) ι2 H2 rel2 .refl (.cons (r1.ext ex2) r2))⟩
theorem run_kw {CX : CXT} {k : Nat} {f : Addr} {fd : FuncData} {ps ks : List Str} {sp : Sp} {E : XK} {pins : List (Addr × Obj)} {σ : L2.St} {H : Hp} {s : Shared} {Q : VK} {us us' : List Value} {vs' : List V} (F : FnOk X.prog X.w X.K X.mg X.base CX k f fd ps sp) (hr : Room k X.A) (hb : BindsTo s fd ⟨[], ks.zip us⟩ (ps.zip us')) (hx : Passes CX X E)
    (I : L2.Inv X pins σ H s) (r : Vals vs' us') (h : sp vs' H Q E) : wpAny (model X.prog X.w) X.A (call (.ref f) [] (ks.zip us)) (EP X pins σ Q) X.xe s := by
  refine wpAny_call (codeAny_mono (F.run X.A X.stack s H ⟨[], ks.zip us⟩ us' vs' Q E hr I.env0 hb r h) fun r s' hq => ?_)
  cases r with
  | error e => exact hx pins σ H s e s' I hq
  | ok fl =>
    cases fl with
    | ret u => exact I.after hq
    | next => exact False.elim hq
    | brk => exact False.elim hq
    | cont => exact False.elim hq
def kwNames (kws : List Keyword) : Option (List Str) := match kws with
  | [] => some []
  | ⟨some n, _, _⟩ :: r => (kwNames r).map fun l => n :: l
  | ⟨none, _, _⟩ :: _ => none
theorem kw_facts {env : Env} : ∀ {kws : List Keyword} {ks : List Str}, kwNames kws = some ks → (backToKw pos (keywordEach kws env)).all (·.1.isSome) = true ∧ (backToKw pos (keywordEach kws env)).filterMap (·.1) = ks ∧ (backToKw pos (keywordEach kws env)).any (·.1.isNone) = false ∧ kws.length = ks.length
  | [], ks, h => by cases h; exact ⟨rfl, rfl, rfl, rfl⟩
  | ⟨none, _, _⟩ :: _, ks, h => by cases h
  | ⟨some n, v, kp⟩ :: r, ks, h => by
    simp only [kwNames] at h
    obtain ⟨l, h1, rfl⟩ := Option.map_eq_some_iff.mp h
    obtain ⟨a1, a2, a3, a4⟩ := kw_facts (env := env) h1
    simp only [keywordEach, backToKw, List.map_cons] at a1 a2 a3 ⊢
    refine ⟨?_, ?_, ?_, by simp [a4]⟩
    · rw [List.all_cons, a1]; rfl
    · rw [List.filterMap_cons]; simp only; rw [a2]
    · rw [List.any_cons, a3]; rfl
def mCallK (fi : FI) (π : List Nat) (n : Nat) (l : ML) : ME := fun σ o => (l σ o).bind fun ws o => if ws.length = n then callW fi (permL π ws) o else .stuck
theorem se_callK {k : Nat} {x : Str} {fi : FI} {kws : List Keyword} {ks : List Str} {π : List Nat} (h : FnS X.prog X.w X.K X.mg X.base k x fi) (hr : Room k X.A) (hg : Gl X x) (hk1 : kwNames kws = some ks) (hk2 : (ks, π) ∈ fi.kws) (ha : SK X kws ml) (hdb : (x == ("__debug__" : Str)) = false) :
    SE X (.Call (.Name x p) [] kws pos) (mCallK fi π ks.length ml) := by
  obtain ⟨f, fd, ps, Fn, hm, hk, hb, hkw⟩ := h.ex
  obtain ⟨a1, a2, a3, a4⟩ := kw_facts (pos := pos) (env := X.env) hk1
  refine ⟨fun pins s σ H Q I ⟨F, ι, objs, σd, rel, sr, pp⟩ => ?_⟩
  refine wpAny_Call_Name_kw (ld_glob I hg hm ?_ hdb)
  refine PySem.W.callWith_KW0 (h₀ := X.base) I.ok.mod.kin hk a1 ?_ (by rw [a3]; rfl)
  obtain ⟨ws, o1, e1, pp⟩ := pp.bind
  have hq : tea (gX X) ml σ H (fun zs H2 => zs.length = ks.length ∧ spOf ⟨X.K, X.mg⟩ fi.n fi.fm (permL π zs) H2 Q E0) := by
    refine ⟨F, ι, objs, σd, rel, sr, ?_⟩
    rw [e1]
    intro vs ι1 H1 rel1 ex1 r1
    have pp := pp.at ex1
    split at pp
    · rename_i hl
      exact ⟨by rw [← RWs.length r1]; exact hl, call_ok rel1 (permL_rel r1 π) pp⟩
    · exact pp.elim
  refine thn (ha.run pos pins s σ H _ I hq) fun us s2 ⟨zs, H2, I2, rz, hl, q2⟩ => ⟨I2.kIn, ?_⟩
  rw [a2]
  exact run_kw Fn hr (hkw _ hk2 s2 us (by rw [← rz.length]; exact hl)) pass0 I2 (permL_rel rz π) q2
end
/-- THE DEF: its body's run is what a call gives -/
theorem fn_ok {P : Program} {w : World} {K : PySem.W.Frag} {mg : Str → Option Value} {base : Heap} {x qual : Str} {params : Arguments} {body : List Stmt} {scope : Scope} {dvs : List V} {kws : List (Str × V)} {f : Addr} {fd : FuncData} {N ps : List Str} {k : Nat} {fr : Bool} {ms : MS} (Fu : FunD K x qual params body scope dvs kws f fd) (S : FnScope N ps scope)
    (hb : ∀ (X : Cx), X.prog = P → X.w = w → X.K = K → X.mg = mg → X.base = base → X.N = N → X.env.scope = scope → X.calm = true → X.fn = (fun _ => true) → X.xe = (fun _ _ => False) → Room k X.A → SSs X body ms) :
    FnOk P w K mg base CX0 (k + 1) f fd ps (spOf ⟨K, mg⟩ ps.length (runFn N.length fr ms)) := by
  refine Fu.ok S (fun vs H Q E h => h.1) fun cdv A outer s H vs Q E hr h => ?_
  obtain ⟨hl, F, ι, objs, ws, rel, kw, p⟩ := h
  exact ⟨_, PSs.nox (hb _ rfl rfl rfl rfl rfl rfl rfl rfl rfl rfl hr), F, ι, objs, startD N.length ws, rel, start_ok kw N rfl, fin_ok rel p⟩
end RR

set_option maxHeartbeats 4000000
namespace RR
open PySem PySem.Spec PyProof.Rows L2
/-! ### tuples of targets of any form -/
def mGs : List MG → List W → Sl → Objs → R Sl
  | [], [], σ, o => .ok σ o
  | m :: ms, w :: ws, σ, o => (m w σ o).bind fun σ o => mGs ms ws σ o
  | _, _, _, _ => .stuck
abbrev SGs (X : Cx) (ts : List Expr) (m : List MG) : Prop := PGs X ts (fun vs σ H Q => ∃ F ι objs σd ws, Rel (gX X) F ι H objs ∧ SRel (gX X) ι (Al F ι objs) H σd σ ∧ RWs (gX X) ι (Al F ι objs) H ws vs ∧ PostT (gX X) F ι objs H (mGs m ws σd objs) Q)
theorem PostT.at {g : GE} {F : Addr → Prop} {ι ι1 : List Addr} {objs objs1 : Objs} {H H1 : Hp} {r : R Sl} {Q : L2.St → Hp → Prop} (p : PostT g F ι objs H r Q) (e : Ext ι objs H ι1 objs1 H1) : PostT g F ι1 objs1 H1 r Q := by
  cases r with
  | ok w o => exact fun ι' H' σ' rl ex sr => p ι' H' σ' rl (e.trans ex) sr
  | exc _ _ => exact p
  | stuck => exact p
theorem PostT.bind {α : Type} {g : GE} {F : Addr → Prop} {ι : List Addr} {objs : Objs} {H : Hp} {r : R α} {f : α → Objs → R Sl} {Q : L2.St → Hp → Prop} (p : PostT g F ι objs H (r.bind f) Q) : ∃ a o, r = .ok a o ∧ PostT g F ι objs H (f a o) Q := by
  cases r with
  | ok w o => exact ⟨w, o, rfl, p⟩
  | exc _ _ => exact p.elim
  | stuck => exact p.elim
def gTupG (ms : List MG) : MG := fun w σ o => match w with
  | .v (.tup ds) => if ds.length = ms.length then mGs ms (ds.map W.v) σ o else .stuck
  | _ => .stuck
section
variable {X : Cx} {a b c e tg iter elt : Expr} {st : Stmt} {sts sts' : List Stmt} {es ts : List Expr} {pos p : Pos} {ma mb mc me : ME} {ml : ML} {ms ms' : MS} {nc : MB} {gm : MG} {gms : List MG} {mi : MI}
theorem sgs_nil : SGs X [] [] := ⟨fun pins s σ H vs us Q I r ⟨F, ι, objs, σd, ws, rel, sr, k, p⟩ => by
  cases k with
  | nil => exact pgs_nil.run pins s σ H [] us Q I r ⟨rfl, p ι H σ rel .refl sr⟩
  | cons _ _ => exact p.elim⟩
theorem sgs_cons (h1 : SG X e gm) (h2 : SGs X es gms) (hs : isStar e = false) : SGs X (e :: es) (gm :: gms) := ⟨fun pins s σ H vs us Q I r ⟨F, ι, objs, σd, ws, rel, sr, k, p⟩ => by
  cases k with
  | nil => exact p.elim
  | cons k ks =>
    refine (pgs_cons h1 h2 (by rw [asg_each hs]; rfl)).run pins s σ H _ us Q I r ⟨_, _, rfl, F, ι, objs, σd, _, rel, sr, k, ?_⟩
    obtain ⟨σ1, o1, e1, p⟩ := p.bind
    rw [e1]
    intro ι1 H1 σ' rel1 ex1 sr1
    exact ⟨F, ι1, o1, σ1, _, rel1, sr1, RWs.ext ks ex1, p.at ex1⟩⟩
theorem each_len {env : Env} : ∀ {es : List Expr}, es.all (fun e => !isStar e) = true → (assignEach es env).length = es.length ∧ List.findIdx? (fun x => x.1) (assignEach es env) = none
  | [], _ => ⟨rfl, rfl⟩
  | e :: es, h => by
    simp only [List.all_cons, Bool.and_eq_true, Bool.not_eq_true'] at h
    obtain ⟨h1, h2⟩ := each_len (env := env) h.2
    rw [asg_each h.1]
    exact ⟨by rw [List.length_cons, h1, List.length_cons], by rw [List.findIdx?_cons, h2]; rfl⟩
theorem sg_tupG {k : Nat} (hc : X.calm = true) (h : SGs X ts gms) (hs : ts.all (fun e => !isStar e) = true) (hl : gms.length = ts.length) : SG X (.Tuple ts k pos) (gTupG gms) := by
  obtain ⟨h1, h2⟩ := each_len (env := X.env) hs
  refine (pg_tup hc h h1 h2).weak fun v σ H Q ⟨F, ι, objs, σd, w, rel, sr, k, p⟩ => ?_
  unfold gTupG at p
  split at p
  · split at p
    · rename_i hd
      have k0 := k
      simp only [RW, RV] at k
      obtain ⟨a, vs, rfl, q1, q2, q3⟩ := k
      exact ⟨a, vs, rfl, SqT.of q2, by rw [← q3.length, hd, hl], F, ι, objs, σd, _, rel, sr, RVs.ws q3, p⟩
    · exact p.elim
  · exact p.elim
/-! ### x, y = a, b at once -/
def mPar (is : List Nat) (l : ML) : MS := fun σ o => (l σ o).bind fun ws o => if ws.length = is.length then .ok (.nx (setAll σ is ws)) o else .stuck
theorem ss_par {i j : Nat} {x y : Str} {px py pt pt2 : Pos} {kt k2 : Nat} (hc : X.calm = true) (hN : X.N.Nodup) (hi : X.N[i]? = some x) (hj : X.N[j]? = some y) (hij : i ≠ j) (hx : X.env.scope.names.lookup x = some .local) (hy : X.env.scope.names.lookup y = some .local)
    (h : SA X [a, b] ml) (hsw : swappedStores [.Tuple [.Name x px, .Name y py] kt pt] (.Tuple [a, b] k2 pt2) X.env = pure (some [x, y])) (hs : swapsWithSole [.Tuple [.Name x px, .Name y py] kt pt] (.Tuple [a, b] k2 pt2) pos.line X.env = pure false) :
    SS X (.Assign [.Tuple [.Name x px, .Name y py] kt pt] (.Tuple [a, b] k2 pt2) pos) (mPar [i, j] ml) := by
  refine (ps_par hc hN hi hj hij hx hy h hsw hs).weak fun D σ H ⟨F, ι, objs, σd, rel, sr, p⟩ => ?_
  obtain ⟨ws, o1, e1, p⟩ := p.bind
  refine ⟨F, ι, objs, σd, rel, sr, ?_⟩
  rw [e1]
  intro vs ι1 H1 rel1 ex1 r1
  have p := p.at ex1
  split at p
  · rename_i hl
    match ws, hl with
    | [w1, w2], _ =>
      obtain ⟨v1, v2, rfl, k1, k2⟩ := paired2 r1
      exact ⟨v1, v2, rfl, p ι1 H1 _ rel1 .refl (((sr.ext ex1).set i k1).set j k2)⟩
  · exact p.elim
theorem blk_fn {env : Env} (h : env.scope.kind = .function) : env.blockKind = .function := by
  unfold Env.blockKind; rw [h]; rfl
theorem any2 {a b : Expr} (f : Expr → Bool) (hf : ∀ e, f e = isStar e) : List.any [a, b] f = (isStar a || isStar b) := by
  simp only [List.any_cons, List.any_nil, Bool.or_false, hf]
/-- what is stored at once, of two names -/
def swap2 (sc : Scope) (x y : Str) (px py : Pos) (a b : Expr) : Option Bool :=
  if isStar a || isStar b then some false
  else if sc.names.lookup x == some .local && sc.names.lookup y == some .local && py.line == px.line && x != y then
    (if foldedForSure 8 a && foldedForSure 8 b then some false else if constantsAlone 8 a && constantsAlone 8 b then none else some true)
  else some false
theorem dups2 {x y : Str} (h : (x == y) = false) : [x, y].eraseDups.length = 2 := by
  have h2 : (y == x) = false := by simpa using fun e => (by simpa using h : ¬ x = y) e.symm
  rw [List.eraseDups_cons]
  simp only [List.filter_cons, h2, Bool.not_false, if_true, List.filter_nil]
  rw [List.eraseDups_cons]
  rfl
theorem swapped2 {sc : Scope} {x y : Str} {px py pt pt2 : Pos} {kt k2 : Nat} {a b : Expr} {env : Env} {r : Bool} (hs : env.scope = sc) (hk : sc.kind = .function) (h : swap2 sc x y px py a b = some r) :
    swappedStores [.Tuple [.Name x px, .Name y py] kt pt] (.Tuple [a, b] k2 pt2) env = pure (if r then some [x, y] else none) := by
  subst hs
  have hb : env.blockKind = .function := blk_fn hk
  have hx : env.kindOf x = env.scope.names.lookup x := rfl
  have hy : env.kindOf y = env.scope.names.lookup y := rfl
  unfold swap2 at h
  unfold swappedStores
  simp only [List.length_cons, List.length_nil, hb, hx, hy, List.head?_cons, Option.map_some, Option.getD_some, Expr.pos, List.filterMap_cons, List.filterMap_nil, List.all_cons, List.all_nil, Bool.and_true]
  rw [any2 (a := a) (b := b)]
  · by_cases hst : (isStar a || isStar b) = true
    · rw [if_pos hst] at h
      cases h
      simp [hst]
    · rw [if_neg hst] at h
      simp only [Bool.not_eq_true] at hst
      by_cases hl : (env.scope.names.lookup x == some .local && env.scope.names.lookup y == some .local && py.line == px.line && x != y) = true
      · rw [if_pos hl] at h
        simp only [Bool.and_eq_true] at hl
        obtain ⟨⟨⟨h1, h2⟩, h3⟩, h4⟩ := hl
        have h4' : (x == y) = false := by simpa using h4
        simp only [hst, h1, h2, h3, beq_self_eq_true, Bool.and_self, if_true, List.length_cons, List.length_nil, dups2 h4']
        by_cases hf : (foldedForSure 8 a && foldedForSure 8 b) = true
        · rw [if_pos hf] at h
          cases h
          simp [hf]
        · rw [if_neg hf] at h
          simp only [Bool.not_eq_true] at hf
          by_cases hcn : (constantsAlone 8 a && constantsAlone 8 b) = true
          · rw [if_pos hcn] at h; cases h
          · rw [if_neg hcn] at h
            cases h
            simp only [Bool.not_eq_true] at hcn
            simp [hf, hcn]
      · rw [if_neg hl] at h
        cases h
        simp only [hst]
        by_cases h1 : (env.scope.names.lookup x == some NameKind.local) = true
        · by_cases h2 : (env.scope.names.lookup y == some NameKind.local) = true
          · by_cases h3 : (py.line == px.line) = true
            · have h4 : x = y := by
                simp only [h1, h2, h3, Bool.true_and, Bool.not_eq_true] at hl
                simpa using hl
              subst h4
              have : [x, x].eraseDups.length = 1 := by rw [List.eraseDups_cons]; simp
              simp [h1, h3, this]
            · simp [h1, h2, h3]
          · simp [h1, h2]
        · by_cases h2 : (env.scope.names.lookup y == some NameKind.local && py.line == px.line) = true
          · simp only [h1, h2]
            simp
          · simp only [h1, h2]
            simp
  · intro e; cases e <;> rfl
end
end RR

set_option maxHeartbeats 4000000
namespace RR
open PySem PySem.Spec PyProof.Rows L2
/-! ### from the text to its run -/
structure CC where
  N : List Str
  sc : Scope
  sto : List (Str × NameKind)
  mu : List (Nat × Nat)
  fs : List (Str × FI)
  cs : List (Str × D)
def isMu (cc : CC) (p : Pos) : Bool := cc.mu.contains (p.line, p.col)
inductive BF where
  | len | abs | int | divmod | sum | max | min | any | all | list | tuple | isinstance
def BF.name : BF → Str
  | .len => "len" | .abs => "abs" | .int => "int" | .divmod => "divmod" | .sum => "sum" | .max => "max" | .min => "min" | .any => "any" | .all => "all" | .list => "list" | .tuple => "tuple" | .isinstance => "isinstance"
def BF.cal : BF → Value
  | .len => .builtin "len" | .abs => .builtin "abs" | .int => .type "int" | .divmod => .builtin "divmod" | .sum => .builtin "sum" | .max => .builtin "max" | .min => .builtin "min" | .any => .builtin "any" | .all => .builtin "all"
  | .list => .type "list" | .tuple => .type "tuple" | .isinstance => .builtin "isinstance"
def BF.fn (mu : Bool) : BF → List W → Objs → R W
  | .len => on1 lenW | .abs => on1 absW | .int => on1 intW | .divmod => on2 divmodW | .sum => on1 sumW | .max => maxW | .min => minW | .any => on1 anyW | .all => on1 allW | .list => on1 (listW mu) | .tuple => on1 tupleW | .isinstance => on2 isiW
def allBF : List BF := [.len, .int, .isinstance, .tuple, .all, .list, .any, .sum, .max, .min, .divmod, .abs]
def bfOf (x : Str) : Option BF := allBF.find? fun b => b.name == x
def bltNames : List Str := ["len", "int", "isinstance", "tuple", "all", "list", "any", "sum", "max", "min", "divmod", "abs", "range", "bool", "str", "dict", "enumerate", "zip", "repr", "sorted", "set"]
def tyNames : List (Str × String) := [("int", "int"), ("bool", "bool"), ("str", "str"), ("tuple", "tuple"), ("list", "list"), ("dict", "dict")]
theorem BF.mem (b : BF) : b.name ∈ bltNames := by cases b <;> decide +kernel
theorem BF.boot (b : BF) : bootBuiltins b.name = some b.cal := by cases b <;> decide +kernel
theorem BF.nm (b : BF) : b.name ≠ "__name__" ∧ (b.name == ("__debug__" : Str)) = false := by cases b <;> decide +kernel
theorem ty_boot {x : Str} {n : String} (h : (x, n) ∈ tyNames) : bootBuiltins x = some (.type n) ∧ x ∈ bltNames ∧ x ≠ "__name__" ∧ (x == ("__debug__" : Str)) = false := by
  simp only [tyNames, List.mem_cons, List.not_mem_nil, or_false, Prod.mk.injEq] at h
  rcases h with h | h | h | h | h | h <;> obtain ⟨rfl, rfl⟩ := h <;> decide +kernel
/-- xs * n as a list of the store -/
def repM (a b : W) (o : Objs) : R W := match b with
  | .v (.int k) => match lstW o a with
    | some xs => if -(2 ^ 63) ≤ k ∧ k < 2 ^ 63 ∧ xs.length * k.toNat ≤ sizeLine then .ok (.o o.length) (o ++ [⟨true, .lst (List.replicate k.toNat xs).flatten⟩]) else .stuck
    | none => .stuck
  | _ => .stuck
def binF (mu : Bool) : Operator → Option (W → W → Objs → R W)
  | .Add => some addW | .Sub => some subW | .Mult => some (if mu then repM else mulW) | .FloorDiv => some fdivW | .Mod => some modW | .Pow => some powW
  | _ => none
def cmpF : CmpOp → (W → W → Objs → R W)
  | .Eq => eqW | .NotEq => neW | .Lt => ltW | .LtE => leW | .Gt => gtW | .GtE => geW | .Is => isW | .IsNot => isnW | .In => inW | .NotIn => ninW
structure MD where
  T : String
  f : W → List W → Objs → R W
/-- the methods of built-in types -/
inductive MF where
  | append | extend | pop | index | rstrip | join
def MF.name : MF → Str
  | .append => "append" | .extend => "extend" | .pop => "pop" | .index => "index" | .rstrip => "rstrip" | .join => "join"
def MF.ty : MF → String
  | .append => "list" | .extend => "list" | .pop => "list" | .index => "str" | .rstrip => "str" | .join => "str"
def MF.fn : MF → W → List W → Objs → R W
  | .append => appendL | .extend => extendL | .pop => popL | .index => idxS | .rstrip => rstripS | .join => joinS
def allMF : List MF := [.append, .index, .join, .extend, .pop, .rstrip]
def mfOf (x : Str) : Option MF := allMF.find? fun b => b.name == x
def isVis (k : Option NameKind) : Bool := match k with | some .local => true | some .cell => true | some .free => true | _ => false
def isLoc (k : Option NameKind) : Bool := match k with | some .local => true | some .cell => true | _ => false
def isGlo (k : Option NameKind) : Bool := match k with | some .globalImplicit => true | _ => false
def isLocal (k : Option NameKind) : Bool := match k with | some .local => true | _ => false
def cName (cc : CC) (x : Str) : Option ME :=
  if isVis (cc.sc.names.lookup x) then (cc.N.findIdx? (· == x)).map mVar
  else if isGlo (cc.sc.names.lookup x) then
    match cc.cs.lookup x with
    | some d => some (mConst d)
    | none => (tyNames.lookup x).map fun n => mConst (.ty n)
  else none
def cList (f : Expr → Option ME) : List Expr → Option ML
  | [] => some mNil
  | e :: es => if isStar e then none else (f e).bind fun m => (cList f es).map fun l => mCons m l
def cAnds (f : Expr → Option MB) : List Expr → Option MB
  | [] => none
  | [e] => f e
  | e :: es => (f e).bind fun m => (cAnds f es).map fun l => mAnd m l
def cOrs (f : Expr → Option MB) : List Expr → Option MB
  | [] => none
  | [e] => f e
  | e :: es => (f e).bind fun m => (cOrs f es).map fun l => mOr m l
def cAndV (f : Expr → Option ME) : List Expr → Option ME
  | [] => none
  | [e] => f e
  | e :: es => (f e).bind fun m => (cAndV f es).map fun l => mAndV m l
def cOrV (f : Expr → Option ME) : List Expr → Option ME
  | [] => none
  | [e] => f e
  | e :: es => (f e).bind fun m => (cOrV f es).map fun l => mOrV m l
def cPart (f : Expr → Option ME) : Option Expr → Option (Option ME)
  | none => some none
  | some e => (f e).map some
/-- the own names of a block, by slot -/
def ownOf (N : List Str) (names : List (Str × NameKind)) : List (Str × Nat) := N.zipIdx.filter fun p => isLoc (names.lookup p.1)
def cTg (cc : CC) : Expr → Option Tg
  | .Name x _ => if isLoc (cc.sto.lookup x) then (cc.N.findIdx? (· == x)).map Tg.one else none
  | .Tuple es _ _ => if es.all (fun e => match e with | .Name x _ => isLoc (cc.sto.lookup x) | _ => false) then (nameIx cc.N es).map Tg.many else none
  | _ => none
def blkCC (cc : CC) (scope : Scope) : CC := { cc with sc := relS scope cc.sc, sto := scope.names }
/-- what is walked -/
def cIter (f : Expr → Option ME) (cc : CC) (e : Expr) : Option MI :=
  match e with
  | .Call (.Name x _) args [] _ =>
    if x == ("range" : Str) then
      (if isGlo (cc.sc.names.lookup x) then
        match args with
        | [a] => (cList f [a]).map fun l => mRng rng1 l
        | [a, b] => (cList f [a, b]).map fun l => mRng rng2 l
        | _ => none
      else none)
    else (f e).map mSeq
  | .Set _ _ _ => none
  | e => (f e).map mSeq
def cConst : Const → Option ME
  | .int i => some (mConst (.int i))
  | .str i => some (mConst (.str i))
  | .bool i => some (mConst (.bl i))
  | .none => some (mConst .non)
  | _ => none
def cCmp (f : Expr → Option ME) (a : Expr) (ops : List CmpOp) (bs : List Expr) : Option ME :=
  match ops, bs with
  | [op], [b] => if behindInMarks op b then none else (f a).bind fun ma => (f b).map fun mb => mBin (cmpF op) ma mb
  | [op, op'], [b, c] => if lastMarks [op, op'] [b, c] then none else (f a).bind fun ma => (f b).bind fun mb => (f c).map fun mc => mChain (cmpF op) (cmpF op') ma mb mc
  | _, _ => none
def cUn (f : Expr → Option ME) (op : UnaryOp) (a : Expr) : Option ME :=
  match op with
  | .USub => (f a).map fun ma => mUn negW ma
  | .Not => (f a).map mNotV
  | _ => none
def isM1 : Expr → Bool
  | .UnaryOp .USub (.Constant (.int i) _ _) _ => i == 1
  | _ => false
theorem isM1_inv {e : Expr} (h : isM1 e = true) : ∃ k p1 p2, e = .UnaryOp .USub (.Constant (.int 1) k p1) p2 := by
  unfold isM1 at h
  split at h
  · rename_i i k p1 p2
    have : i = 1 := by simpa using h
    subst this
    exact ⟨_, _, _, rfl⟩
  · cases h
def cSub (f : Expr → Option ME) (mu : Bool) (a s : Expr) : Option ME :=
  match s with
  | .Slice lo hi none _ => (f a).bind fun ma => (cPart f lo).bind fun ml => (cPart f hi).map fun mh => mSl mu ma ml mh
  | .Slice none none (some st) _ => if isM1 st then (f a).map fun ma => mUn revW ma else none
  | s => if notSlice s then (f a).bind fun ma => (f s).map fun mb => mBin ixW ma mb else none
def cCallN (f : Expr → Option ME) (cc : CC) (x : Str) (es : List Expr) (pos : Pos) : Option ME :=
  if isGlo (cc.sc.names.lookup x) then
    match es with
    | [] => none
    | e :: es => match cc.fs.lookup x with
      | some fi => (cList f (e :: es)).map fun l => mCall (callW fi) l
      | none => (bfOf x).bind fun bf => (cList f (e :: es)).map fun l => mCall (bf.fn (isMu cc pos)) l
  else none
def cCallM (f : Expr → Option ME) (o : Expr) (name : Str) (es : List Expr) (apos cpos : Pos) : Option ME :=
  if notSuper o && apos.endLine == cpos.line && decide (es.length < 28) then
    (mfOf name).bind fun mf => (f o).bind fun mo => (cList f es).map fun l => mBM mf.ty mf.fn mo l
  else none
def cKw (f : Expr → Option ME) : List Keyword → Option ML
  | [] => some mNil
  | ⟨_, e, _⟩ :: r => (f e).bind fun m => (cKw f r).map fun l => mCons m l
def cCallKw (f : Expr → Option ME) (cc : CC) (x : Str) (kws : List Keyword) : Option ME :=
  if isGlo (cc.sc.names.lookup x) then
    (cc.fs.lookup x).bind fun fi => (kwNames kws).bind fun ks => (fi.kws.lookup ks).bind fun π => (cKw f kws).map fun l => mCallK fi π ks.length l
  else none
def cCall (f : Expr → Option ME) (cc : CC) (fn : Expr) (es : List Expr) (kws : List Keyword) (pos : Pos) : Option ME :=
  match kws with
  | [] => match fn with
    | .Name x _ => cCallN f cc x es pos
    | .Attribute o name apos => cCallM f o name es apos pos
    | _ => none
  | kw :: kws => match fn, es with
    | .Name x _, [] => cCallKw f cc x (kw :: kws)
    | _, _ => none
def cIfs (t : Expr → Option MB) : List Expr → Option MB
  | [] => some mYes
  | [c] => t c
  | _ => none
/-- a comprehension's parts: what is walked, the target's slots, the own slots, the test, the element -/
def cLc (f : Expr → Option ME) (f' : Expr → Option ME) (t' : Expr → Option MB) (cc : CC) (mu : Bool) (elt : Expr) (gs : List Comprehension) (scope : Scope) : Option ME :=
  match gs with
  | [⟨tg, iter, ifs, 0⟩] =>
    let own : List (Str × Nat) := ownOf cc.N scope.names
    if blkC cc.N cc.sc scope own then
      (cIter f cc iter).bind fun mi => (cTg (blkCC cc scope) tg).bind fun T =>
        if T.slots.all (fun i => (own.map (·.2)).contains i) then
          (cIfs t' ifs).bind fun mc => (f' elt).map fun me => mLc mu mi T (own.map (·.2)) mc me
        else none
    else none
  | _ => none
def cStep (cc : CC) (f : Expr → Option ME) (t : Expr → Option MB) (fb : Scope → Expr → Option ME) (tb : Scope → Expr → Option MB) (e : Expr) : Option ME :=
  match e with
  | .Constant c _ _ => cConst c
  | .Name x _ => cName cc x
  | .BinOp a op b pos => (binF (isMu cc pos) op).bind fun fo => (f a).bind fun ma => (f b).map fun mb => mBin fo ma mb
  | .Compare a ops bs _ => cCmp f a ops bs
  | .UnaryOp op a _ => cUn f op a
  | .BoolOp .And es _ => cAndV f es
  | .BoolOp .Or es _ => cOrV f es
  | .IfExp c a b _ => (t c).bind fun mc => (f a).bind fun ma => (f b).map fun mb => mIf mc ma mb
  | .Tuple es _ _ => (cList f es).map mTup
  | .List es pos => (cList f es).map (mLst (isMu cc pos))
  | .Subscript a s pos => cSub f (isMu cc pos) a s
  | .Call fn es kws pos => cCall f cc fn es kws pos
  | .ListComp elt gs scope pos => cLc f (fb scope) (tb scope) cc (isMu cc pos) elt gs scope
  | _ => none
def mAsB (m : ME) : MB := fun σ o => asB (m σ o)
def mStuck : MS := fun _ _ => .stuck
def cCmpT (f : Expr → Option ME) (a : Expr) (ops : List CmpOp) (bs : List Expr) : Option MB :=
  match ops, bs with
  | [op], [b] => if behindInMarks op b then none else (f a).bind fun ma => (f b).map fun mb => fun σ o => asB (mBin (cmpF op) ma mb σ o)
  | [op, op'], [b, c] => if lastMarks [op, op'] [b, c] then none else (f a).bind fun ma => (f b).bind fun mb => (f c).map fun mc => fun σ o => asB (mChain (cmpF op) (cmpF op') ma mb mc σ o)
  | _, _ => none
/-- no comparison, and, or, not: its value's truth -/
def plainT : Expr → Bool
  | .UnaryOp .Not _ _ => false
  | .BoolOp _ _ _ => false
  | .IfExp _ _ _ _ => false
  | .Compare _ _ _ _ => false
  | _ => true
def tStep (f : Expr → Option ME) (t : Expr → Option MB) (e : Expr) : Option MB :=
  match e with
  | .Compare a ops bs _ => cCmpT f a ops bs
  | .BoolOp .And es _ => cAnds t es
  | .BoolOp .Or es _ => cOrs t es
  | .UnaryOp .Not a _ => (t a).map mNot
  | e => if plainT e then (f e).map mTru else none
mutual
def cE : Nat → CC → Expr → Option ME
  | 0, _, _ => none
  | n + 1, cc, e => cStep cc (cE n cc) (cT n cc) (fun s => cE n (blkCC cc s)) (fun s => cT n (blkCC cc s)) e
def cT : Nat → CC → Expr → Option MB
  | 0, _, _ => none
  | n + 1, cc, e => tStep (cE n cc) (cT n cc) e
end
end RR

set_option maxHeartbeats 4000000
namespace RR
open PySem PySem.Spec PyProof.Rows L2
structure GX (X : Cx) (cc : CC) (k : Nat) : Prop where
  calm : X.calm = true
  nN : X.N = cc.N
  nd : cc.N.Nodup
  sc : X.env.scope = cc.sc
  kind : cc.sc.kind = .function
  sto : ∀ x, isLoc (cc.sto.lookup x) = true → storable X x
  room : Room k X.A
  own : PassesOwn (model X.prog X.w) X.A X.env X.xe
  fs : ∀ x fi, (x, fi) ∈ cc.fs → FnS X.prog X.w X.K X.mg X.base k x fi ∧ (x == ("__debug__" : Str)) = false
  cs : ∀ x d, (x, d) ∈ cc.cs → (∃ u v, X.mg x = some u ∧ L2.RelV v u ∧ ∀ A H, RV (gX X) A H d v) ∧ (x == ("__debug__" : Str)) = false
  blt : ∀ x ∈ bltNames, X.mg x = none
  dbg : ∀ x ∈ cc.N, (x == ("__debug__" : Str)) = false ∧ (x == ("__classdict__" : Str)) = false
theorem mem_of_lookup {α : Type} : ∀ {l : List (Str × α)} {x : Str} {a : α}, l.lookup x = some a → (x, a) ∈ l
  | (k, v) :: r, x, a, h => by
    rw [List.lookup_cons] at h
    by_cases hb : (x == k) = true
    · rw [hb] at h
      cases h
      have : x = k := by simpa using hb
      subst this
      exact List.mem_cons_self
    · rw [Bool.not_eq_true] at hb
      rw [hb] at h
      exact List.mem_cons_of_mem _ (mem_of_lookup h)
theorem isVis_ok {sc : Scope} {x : Str} (h : isVis (sc.names.lookup x) = true) : Vis sc x := by
  unfold isVis at h
  split at h
  · rename_i e; exact .inl e
  · rename_i e; exact .inr (.inl e)
  · rename_i e; exact .inr (.inr e)
  · cases h
theorem isGlo_ok {X : Cx} {cc : CC} {k : Nat} (G : GX X cc k) {x : Str} (h : isGlo (cc.sc.names.lookup x) = true) : Gl X x := by
  unfold isGlo at h
  split at h
  · rename_i e
    show X.env.scope.names.lookup x = _
    rw [G.sc]; exact e
  · cases h
section
variable {X : Cx} {cc : CC} {k : Nat} {f : Expr → Option ME} {t : Expr → Option MB}
theorem or_rep : OpR X (binaryOp .Mult) (rW2 (gX X) repM) := by
  intro pins s σ H x y v u Q I rx ry ⟨F, ι, objs, w1, w2, rel, h1, h2, p⟩
  unfold repM at p
  split at p
  · split at p
    · rename_i xs l1
      split at p
      · rename_i hc
        simp only [RW, RV] at h2
        subst h2
        obtain ⟨a, vs, rfl, e1, k1⟩ := lstW_ok rel h1 l1
        exact op_rep pins s σ H _ _ v u Q I rx ry ⟨a, _, vs, rfl, rfl, e1, hc.1, hc.2.1, by rw [← k1.length]; exact hc.2.2, fun q hq => p.freshM rel hq (k1.rep _)⟩
      · exact p.elim
    · exact p.elim
  · exact p.elim
theorem binF_ok {mu : Bool} {op : Operator} {fo : W → W → Objs → R W} (h : binF mu op = some fo) : OpR X (binaryOp op) (rW2 (gX X) fo) := by
  cases op <;> simp only [binF, Option.some.injEq, reduceCtorEq] at h
  · subst h; exact or_add
  · subst h; exact or_sub
  · subst h
    cases mu
    · exact or_mul
    · exact or_rep
  · subst h; exact or_mod
  · subst h; exact or_pow
  · subst h; exact or_fdiv
theorem cmpF_ok (G : GX X cc k) (op : CmpOp) : OpR X (compareOp op) (rW2 (gX X) (cmpF op)) := by
  have hu := G.room.units
  cases op
  · exact or_eq hu
  · exact or_ne hu
  · exact or_lt
  · exact or_le
  · exact or_gt
  · exact or_ge
  · exact or_is
  · exact or_isn
  · exact or_in
  · exact or_nin
theorem BF_ok (hc : X.calm = true) (b : BF) (mu : Bool) : CallR X b.cal (rWc (gX X) (b.fn mu)) := by
  cases b
  · exact cb_len
  · exact cb_abs
  · exact ct_int
  · exact cb_divmod
  · exact cb_sum hc
  · exact cb_max hc
  · exact cb_min hc
  · exact cb_any hc
  · exact cb_all hc
  · exact ct_list
  · exact ct_tuple
  · exact cb_isi
theorem se_bf {b : BF} {mu : Bool} {e : Expr} {es : List Expr} {pos p : Pos} {ml : ML} (G : GX X cc k) (hg : Gl X b.name) (ha : SA X (e :: es) ml) (hst : (e :: es).all (fun e => !isStar e) = true) : SE X (.Call (.Name b.name p) (e :: es) [] pos) (mCall (b.fn mu) ml) := by
  have hm := G.blt _ b.mem
  have hb := b.boot
  have ok := BF_ok (X := X) G.calm b mu
  obtain ⟨n1, n2⟩ := b.nm
  cases b
  · exact se_callB ok hg hm hb ha n1 n2 hst
  · exact se_callB ok hg hm hb ha n1 n2 hst
  · exact se_callTy ok hg hm hb ha n1 n2 hst
  · exact se_callB ok hg hm hb ha n1 n2 hst
  · exact se_callB ok hg hm hb ha n1 n2 hst
  · exact se_callB ok hg hm hb ha n1 n2 hst
  · exact se_callB ok hg hm hb ha n1 n2 hst
  · exact se_callB ok hg hm hb ha n1 n2 hst
  · exact se_callB ok hg hm hb ha n1 n2 hst
  · exact se_callTy ok hg hm hb ha n1 n2 hst
  · exact se_callTy ok hg hm hb ha n1 n2 hst
  · exact se_callB ok hg hm hb ha n1 n2 hst
theorem bfOf_inv {x : Str} {b : BF} (h : bfOf x = some b) : b.name = x := by
  have := List.find?_some h
  simpa using this
theorem mfOf_inv {x : Str} {b : MF} (h : mfOf x = some b) : b.name = x := by
  have := List.find?_some h
  simpa using this
theorem cName_ok {x : Str} {m : ME} {pos : Pos} (G : GX X cc k) (h : cName cc x = some m) : SE X (.Name x pos) m := by
  unfold cName at h
  split at h
  · rename_i hv
    obtain ⟨i, hi, rfl⟩ := Option.map_eq_some_iff.mp h
    have hN : X.N[i]? = some x := by rw [G.nN]; exact findIdx_get hi
    have hd := G.dbg x (by rw [← G.nN]; exact List.mem_of_getElem? hN)
    exact se_var hN (by rw [G.sc]; exact isVis_ok hv) hd.1 hd.2
  · split at h
    · rename_i hg
      split at h
      · rename_i d hd
        cases h
        obtain ⟨⟨u, v, h1, h2, h3⟩, h4⟩ := G.cs x d (mem_of_lookup hd)
        exact se_const (pe_glob (isGlo_ok G hg) h1 h2 h4) h3
      · obtain ⟨n, hn, rfl⟩ := Option.map_eq_some_iff.mp h
        obtain ⟨b1, b2, b3, b4⟩ := ty_boot (mem_of_lookup hn)
        exact se_const (v := .ty n) (pe_bltn (isGlo_ok G hg) (G.blt x b2) b1 rfl b3 b4) fun _ _ => by simp only [RV]
    · cases h
theorem cList_ok (hf : ∀ e m, f e = some m → SE X e m) : ∀ {es : List Expr} {ml : ML}, cList f es = some ml → SA X es ml ∧ es.all (fun e => !isStar e) = true
  | [], ml, h => by cases h; exact ⟨sa_nil, rfl⟩
  | e :: es, ml, h => by
    unfold cList at h
    split at h
    · cases h
    · rename_i hs
      obtain ⟨m, h1, h⟩ := Option.bind_eq_some_iff.mp h
      obtain ⟨l, h2, rfl⟩ := Option.map_eq_some_iff.mp h
      obtain ⟨i1, i2⟩ := cList_ok hf h2
      have hs' : isStar e = false := by simpa using hs
      exact ⟨sa_cons (hf e m h1) i1 hs', by rw [List.all_cons, i2, hs']; rfl⟩
theorem cAnds_ok (ht : ∀ e m, t e = some m → ST X e m) {pos : Pos} : ∀ {es : List Expr} {m : MB}, cAnds t es = some m → SW X (.BoolOp .And es pos) m
  | [], m, h => by cases h
  | [e], m, h => sw_and1 (ht e m h)
  | e :: e' :: es, m, h => by
    unfold cAnds at h
    obtain ⟨m1, h1, h⟩ := Option.bind_eq_some_iff.mp h
    obtain ⟨m2, h2, rfl⟩ := Option.map_eq_some_iff.mp h
    exact sw_and (ht e m1 h1) (cAnds_ok ht h2)
theorem cOrs_ok (ht : ∀ e m, t e = some m → ST X e m) {pos : Pos} : ∀ {es : List Expr} {m : MB}, cOrs t es = some m → SW X (.BoolOp .Or es pos) m
  | [], m, h => by cases h
  | [e], m, h => sw_or1 (ht e m h)
  | e :: e' :: es, m, h => by
    unfold cOrs at h
    obtain ⟨m1, h1, h⟩ := Option.bind_eq_some_iff.mp h
    obtain ⟨m2, h2, rfl⟩ := Option.map_eq_some_iff.mp h
    exact sw_or (ht e m1 h1) (cOrs_ok ht h2)
theorem cAndV_ok (hf : ∀ e m, f e = some m → SE X e m) {pos : Pos} : ∀ {es : List Expr} {m : ME}, cAndV f es = some m → SE X (.BoolOp .And es pos) m
  | [], m, h => by cases h
  | [e], m, h => se_one (hf e m h)
  | e :: e' :: es, m, h => by
    unfold cAndV at h
    obtain ⟨m1, h1, h⟩ := Option.bind_eq_some_iff.mp h
    obtain ⟨m2, h2, rfl⟩ := Option.map_eq_some_iff.mp h
    exact se_and (hf e m1 h1) (cAndV_ok hf h2)
theorem cOrV_ok (hf : ∀ e m, f e = some m → SE X e m) {pos : Pos} : ∀ {es : List Expr} {m : ME}, cOrV f es = some m → SE X (.BoolOp .Or es pos) m
  | [], m, h => by cases h
  | [e], m, h => se_one (hf e m h)
  | e :: e' :: es, m, h => by
    unfold cOrV at h
    obtain ⟨m1, h1, h⟩ := Option.bind_eq_some_iff.mp h
    obtain ⟨m2, h2, rfl⟩ := Option.map_eq_some_iff.mp h
    exact se_or (hf e m1 h1) (cOrV_ok hf h2)
theorem cPart_ok (hf : ∀ e m, f e = some m → SE X e m) {oe : Option Expr} {m : Option ME} (h : cPart f oe = some m) : SO X oe (mPart m) := by
  cases oe with
  | none => cases h; exact so_none
  | some e =>
    obtain ⟨m1, h1, rfl⟩ := Option.map_eq_some_iff.mp h
    exact so_some (hf e m1 h1)
theorem cConst_ok {c : Const} {m : ME} {j : Nat} {pos : Pos} (h : cConst c = some m) : SE X (.Constant c j pos) m := by
  cases c <;> simp only [cConst, Option.some.injEq, reduceCtorEq] at h <;> subst h
  · exact se_non
  · exact se_bl
  · exact se_int
  · exact se_str
theorem cCmp_ok (G : GX X cc k) (hf : ∀ e m, f e = some m → SE X e m) {a : Expr} {ops : List CmpOp} {bs : List Expr} {m : ME} {pos : Pos} (h : cCmp f a ops bs = some m) : SE X (.Compare a ops bs pos) m := by
  unfold cCmp at h
  split at h
  · split at h
    · cases h
    · rename_i hb
      obtain ⟨m1, h1, h⟩ := Option.bind_eq_some_iff.mp h
      obtain ⟨m2, h2, rfl⟩ := Option.map_eq_some_iff.mp h
      exact se_cmp (cmpF_ok G _) (hf _ _ h1) (hf _ _ h2) (by simpa using hb)
  · split at h
    · cases h
    · rename_i hb
      obtain ⟨m1, h1, h⟩ := Option.bind_eq_some_iff.mp h
      obtain ⟨m2, h2, h⟩ := Option.bind_eq_some_iff.mp h
      obtain ⟨m3, h3, rfl⟩ := Option.map_eq_some_iff.mp h
      exact se_chain (cmpF_ok G _) (cmpF_ok G _) (hf _ _ h1) (hf _ _ h2) (hf _ _ h3) (by simpa using hb)
  · cases h
theorem cUn_ok (hf : ∀ e m, f e = some m → SE X e m) {a : Expr} {op : UnaryOp} {m : ME} {pos : Pos} (h : cUn f op a = some m) : SE X (.UnaryOp op a pos) m := by
  cases op <;> simp only [cUn, reduceCtorEq] at h
  · obtain ⟨m1, h1, rfl⟩ := Option.map_eq_some_iff.mp h
    exact se_not (hf _ _ h1)
  · obtain ⟨m1, h1, rfl⟩ := Option.map_eq_some_iff.mp h
    exact se_un ur_neg (hf _ _ h1)
theorem plain_ix {s : Expr} (hn : notSlice s = true) : PlainIx s := fun o i => by
  cases s <;> first | rfl | (simp [notSlice] at hn)
theorem fold_ok {e : Expr} {env : Env} (h : ∀ a b c, e = .Set a b c → False) (x : Value) : foldedSetIterable e env x = pure x := by
  cases e <;> first | rfl | (exfalso; exact h _ _ _ rfl)
theorem cSub_ok (hf : ∀ e m, f e = some m → SE X e m) {mu : Bool} {a s : Expr} {m : ME} {pos : Pos} (h : cSub f mu a s = some m) : SE X (.Subscript a s pos) m := by
  unfold cSub at h
  split at h
  · obtain ⟨m1, h1, h⟩ := Option.bind_eq_some_iff.mp h
    obtain ⟨m2, h2, h⟩ := Option.bind_eq_some_iff.mp h
    obtain ⟨m3, h3, rfl⟩ := Option.map_eq_some_iff.mp h
    exact se_slice (hf _ _ h1) (cPart_ok hf h2) (cPart_ok hf h3)
  · split at h
    · rename_i hm
      obtain ⟨k, p1, p2, rfl⟩ := isM1_inv hm
      obtain ⟨m1, h1, rfl⟩ := Option.map_eq_some_iff.mp h
      exact se_rev (hf _ _ h1)
    · cases h
  · split at h
    · rename_i hn
      obtain ⟨m1, h1, h⟩ := Option.bind_eq_some_iff.mp h
      obtain ⟨m2, h2, rfl⟩ := Option.map_eq_some_iff.mp h
      exact se_ix (hf _ _ h1) (hf _ _ h2) (plain_ix hn)
    · cases h
theorem MF_ok (mf : MF) : ∃ mid, PlainAttrs mf.ty ∧ Slot mf.ty mf.name mid ∧ typeOf (.builtin mid) = pure (.type "method_descriptor") ∧ MtR X mid (rWm (gX X) mf.fn) := by
  cases mf
  · exact ⟨_, F.plainAttrs_list, F.slot_list_append, F.type_list_append, mr_append⟩
  · exact ⟨_, F.plainAttrs_list, F.slot_list_extend, F.type_list_extend, mr_extend⟩
  · exact ⟨_, F.plainAttrs_list, F.slot_list_pop, F.type_list_pop, mr_pop⟩
  · exact ⟨_, F.plainAttrs_str, F.slot_str_index, F.type_str_index, mr_idx⟩
  · exact ⟨_, F.plainAttrs_str, F.slot_str_rstrip, F.type_str_rstrip, mr_rstrip⟩
  · exact ⟨_, F.plainAttrs_str, F.slot_str_join, F.type_str_join, mr_join⟩
theorem cKw_ok (hf : ∀ e m, f e = some m → SE X e m) : ∀ {kws : List Keyword} {ml : ML}, cKw f kws = some ml → SK X kws ml
  | [], ml, h => by cases h; exact sk_nil
  | ⟨nm, e, kp⟩ :: r, ml, h => by
    simp only [cKw] at h
    obtain ⟨m, h1, h⟩ := Option.bind_eq_some_iff.mp h
    obtain ⟨l, h2, rfl⟩ := Option.map_eq_some_iff.mp h
    exact sk_cons (hf _ _ h1) (cKw_ok hf h2)
theorem mem_of_lookup' {α β : Type} [BEq α] [LawfulBEq α] : ∀ {l : List (α × β)} {x : α} {a : β}, l.lookup x = some a → (x, a) ∈ l
  | (k, v) :: r, x, a, h => by
    rw [List.lookup_cons] at h
    by_cases hb : (x == k) = true
    · rw [hb] at h
      cases h
      have : x = k := by simpa using hb
      subst this
      exact List.mem_cons_self
    · rw [Bool.not_eq_true] at hb
      rw [hb] at h
      exact List.mem_cons_of_mem _ (mem_of_lookup' h)
theorem cCall_ok (G : GX X cc k) (hf : ∀ e m, f e = some m → SE X e m) {fn : Expr} {es : List Expr} {kws : List Keyword} {m : ME} {pos : Pos} (h : cCall f cc fn es kws pos = some m) : SE X (.Call fn es kws pos) m := by
  unfold cCall at h
  split at h
  · split at h
    · unfold cCallN at h
      split at h
      · rename_i hg
        split at h
        · cases h
        · split at h
          · rename_i fi hfi
            obtain ⟨l, h1, rfl⟩ := Option.map_eq_some_iff.mp h
            obtain ⟨a1, a2⟩ := cList_ok hf h1
            obtain ⟨g1, g2⟩ := G.fs _ _ (mem_of_lookup hfi)
            exact se_call g1 G.room (isGlo_ok G hg) a1 g2 a2
          · obtain ⟨b, hb, h⟩ := Option.bind_eq_some_iff.mp h
            obtain ⟨l, h1, rfl⟩ := Option.map_eq_some_iff.mp h
            obtain ⟨a1, a2⟩ := cList_ok hf h1
            have := bfOf_inv hb
            subst this
            exact se_bf G (isGlo_ok G hg) a1 a2
      · cases h
    · unfold cCallM at h
      split at h
      · rename_i hc
        simp only [Bool.and_eq_true, decide_eq_true_eq] at hc
        obtain ⟨mf, hmf, h⟩ := Option.bind_eq_some_iff.mp h
        obtain ⟨mo, ho, h⟩ := Option.bind_eq_some_iff.mp h
        obtain ⟨l, h1, rfl⟩ := Option.map_eq_some_iff.mp h
        obtain ⟨a1, a2⟩ := cList_ok hf h1
        have := mfOf_inv hmf
        subst this
        obtain ⟨mid, m1, m2, m3, m4⟩ := MF_ok (X := X) mf
        cases es with
        | nil =>
          cases h1
          exact se_bm0 m1 m2 m3 m4 (hf _ _ ho) hc.1.1 hc.1.2
        | cons e es =>
          exact se_bm m1 m2 m3 m4 (hf _ _ ho) a1 hc.1.1 hc.1.2 a2 (by have := hc.2; simp at this; omega)
      · cases h
    · cases h
  · split at h
    · unfold cCallKw at h
      split at h
      · rename_i hg
        obtain ⟨fi, h1, h⟩ := Option.bind_eq_some_iff.mp h
        obtain ⟨ks, h2, h⟩ := Option.bind_eq_some_iff.mp h
        obtain ⟨π, h3, h⟩ := Option.bind_eq_some_iff.mp h
        obtain ⟨l, h4, rfl⟩ := Option.map_eq_some_iff.mp h
        obtain ⟨g1, g2⟩ := G.fs _ _ (mem_of_lookup h1)
        exact se_callK g1 G.room (isGlo_ok G hg) h2 (mem_of_lookup' h3) (cKw_ok hf h4) g2
      · cases h
    · cases h
theorem cIter_ok (G : GX X cc k) (hf : ∀ e m, f e = some m → SE X e m) {tg e : Expr} {mi : MI} (h : cIter f cc e = some mi) : SI X tg e mi ∧ ∀ x, foldedSetIterable e X.env x = pure x := by
  unfold cIter at h
  split at h
  · refine ⟨?_, fun x => rfl⟩
    split at h
    · rename_i hx
      have hx := eq_of_beq hx
      subst hx
      split at h
      · rename_i hg
        split at h
        · obtain ⟨l, h1, rfl⟩ := Option.map_eq_some_iff.mp h
          obtain ⟨a1, a2⟩ := cList_ok hf h1
          simp only [List.all_cons, List.all_nil, Bool.and_true, Bool.not_eq_true'] at a2
          exact si_rng1 (isGlo_ok G hg) (G.blt _ (by decide +kernel)) a1 a2
        · obtain ⟨l, h1, rfl⟩ := Option.map_eq_some_iff.mp h
          obtain ⟨a1, a2⟩ := cList_ok hf h1
          simp only [List.all_cons, List.all_nil, Bool.and_true, Bool.and_eq_true, Bool.not_eq_true'] at a2
          exact si_rng2 (isGlo_ok G hg) (G.blt _ (by decide +kernel)) a1 a2.1 a2.2
        · cases h
      · cases h
    · obtain ⟨m, h1, rfl⟩ := Option.map_eq_some_iff.mp h
      exact si_seq (hf _ _ h1)
  · cases h
  · rename_i _ hns
    obtain ⟨m, h1, rfl⟩ := Option.map_eq_some_iff.mp h
    exact ⟨si_seq (hf _ _ h1), fold_ok hns⟩
theorem isLoc_sc {names : List (Str × NameKind)} {x : Str} (h : isLoc (names.lookup x) = true) : names.lookup x = some .local ∨ names.lookup x = some .cell := by
  unfold isLoc at h
  split at h
  · rename_i e; exact .inl e
  · rename_i e; exact .inr e
  · cases h
theorem cTg_ok {X : Cx} (hN : X.N = cc.N) (nd : cc.N.Nodup) (hc : X.calm = true) (hs : ∀ x, isLoc (cc.sto.lookup x) = true → storable X x) {tg : Expr} {T : Tg} (h : cTg cc tg = some T) : PG X tg (hTg X.K T) := by
  unfold cTg at h
  split at h
  · split at h
    · rename_i hl
      obtain ⟨i, hi, rfl⟩ := Option.map_eq_some_iff.mp h
      exact hg_one (by rw [hN]; exact nd) (by rw [hN]; exact findIdx_get hi) (hs _ hl)
    · cases h
  · split at h
    · rename_i hl
      obtain ⟨is, hi, rfl⟩ := Option.map_eq_some_iff.mp h
      refine hg_many hc (by rw [hN]; exact nd) (by rw [hN]; exact hi) fun x p hm => ?_
      have := List.all_eq_true.mp hl _ hm
      exact hs x this
    · cases h
  · cases h
theorem lookup_mapk {g : Str × NameKind → Str × NameKind} (h1 : ∀ p, (g p).1 = p.1) (h2 : ∀ p, p.2 = .cell → (g p).2 = .cell) : ∀ {names : List (Str × NameKind)} {x : Str}, names.lookup x = some .cell → (names.map g).lookup x = some .cell
  | [], _, h => by simp at h
  | p :: r, x, h => by
    have ih := lookup_mapk h1 h2 (names := r) (x := x)
    obtain ⟨n, k⟩ := p
    rw [List.map_cons]
    rw [List.lookup_cons] at h
    have e : g (n, k) = (n, (g (n, k)).2) := Prod.ext (h1 (n, k)) rfl
    rw [e, List.lookup_cons]
    by_cases hb : (x == n) = true
    · rw [hb] at h ⊢
      cases h
      exact congrArg some (h2 (n, .cell) rfl)
    · rw [Bool.not_eq_true] at hb
      rw [hb] at h ⊢
      exact ih h
theorem lookup_relabel_cell {env : Env} {names : List (Str × NameKind)} {x : Str} (h : names.lookup x = some .cell) :
    (names.map fun (n, k) => if (k == NameKind.free && env.scope.kind == .function && env.kindOf n == some .cell) then (n, NameKind.cell) else (n, k)).lookup x = some .cell :=
  lookup_mapk (fun p => by dsimp only; split <;> rfl) (fun p hp => by dsimp only; split <;> first | rfl | exact hp) h
/-- within a comprehension's block -/
theorem GX.blk (G : GX X cc k) {scope : Scope} {own : List (Str × Nat)} (ok : BlkOk cc.N cc.sc scope own) (s : Shared) (H : Hp) (C : Addr) (cl : List (Str × Addr)) (fp : List Addr) : GX (X.blk s H scope (compEnvC scope cl C X.env) fp) (blkCC cc scope) k where
  calm := G.calm
  nN := G.nN
  nd := G.nd
  sc := by
    show relabel scope X.env = relS scope cc.sc
    rw [← G.sc]; rfl
  kind := ok.kind
  sto := fun x h => by
    have hl := isLoc_sc h
    have hk : X.env.scope.kind = .function := by rw [G.sc]; exact G.kind
    refine ⟨?_, ?_⟩
    · rcases hl with hl | hl
      · exact .inl (lookup_relabel_local hl)
      · exact .inr (lookup_relabel_cell hl)
    · rcases hl with hl | hl
      · exact .inr (lookup_relabel_local hl)
      · refine .inl ?_
        have hl : scope.names.lookup x = some .cell := hl
        show (scope.names.lookup x == some .cell) = true
        rw [hl]; rfl
  room := G.room
  own := PassesOwn.never
  fs := G.fs
  cs := G.cs
  blt := G.blt
  dbg := G.dbg
theorem cLc_parts (G : GX X cc k) (hf : ∀ e m, f e = some m → SE X e m) {fb : Scope → Expr → Option ME} {tb : Scope → Expr → Option MB} {scope : Scope}
    (hfb : ∀ X', GX X' (blkCC cc scope) k → ∀ e m, fb scope e = some m → SE X' e m) (htb : ∀ X', GX X' (blkCC cc scope) k → ∀ e m, tb scope e = some m → ST X' e m)
    {mu : Bool} {elt : Expr} {gs : List Comprehension} {m : ME} (h : cLc f (fb scope) (tb scope) cc mu elt gs scope = some m) :
    ∃ (tg iter : Expr) (ifs : List Expr) (mi : MI) (T : Tg) (own : List (Str × Nat)) (mc : MB) (me : ME), gs = [⟨tg, iter, ifs, 0⟩] ∧ m = mLc mu mi T (own.map (·.2)) mc me ∧ SI X tg iter mi ∧ BlkOk X.N X.env.scope scope own ∧ (∀ i ∈ T.slots, i ∈ own.map (·.2)) ∧
      (∀ (s : Shared) (H : Hp) (C : Addr) (cl : List (Str × Addr)) (fp : List Addr), PG (X.blk s H scope (compEnvC scope cl C X.env) fp) tg (hTg X.K T)) ∧
      (∀ (s : Shared) (H : Hp) (C : Addr) (cl : List (Str × Addr)) (fp : List Addr), PTs (X.blk s H scope (compEnvC scope cl C X.env) fp) ifs (teb (gX X) mc)) ∧
      (∀ (s : Shared) (H : Hp) (C : Addr) (cl : List (Str × Addr)) (fp : List Addr), SE (X.blk s H scope (compEnvC scope cl C X.env) fp) elt me) ∧ ∀ x, foldedSetIterable iter X.env x = pure x := by
  unfold cLc at h
  split at h
  · rename_i tg iter ifs
    dsimp only at h
    split at h
    · rename_i hb
      have ok : BlkOk cc.N cc.sc scope (ownOf cc.N scope.names) := blkOk_by hb
      obtain ⟨mi, h1, h⟩ := Option.bind_eq_some_iff.mp h
      obtain ⟨T, h2, h⟩ := Option.bind_eq_some_iff.mp h
      split at h
      · rename_i hT
        obtain ⟨mc, h3, h⟩ := Option.bind_eq_some_iff.mp h
        obtain ⟨me, h4, rfl⟩ := Option.map_eq_some_iff.mp h
        obtain ⟨i1, i2⟩ := cIter_ok (tg := tg) G hf h1
        refine ⟨tg, iter, ifs, mi, T, _, mc, me, rfl, rfl, i1, by rw [G.nN, G.sc]; exact ok, fun i hi => ?_, fun s H C cl fp => ?_, fun s H C cl fp => ?_, fun s H C cl fp => ?_, i2⟩
        · have := List.all_eq_true.mp hT i hi
          exact List.contains_iff_mem.mp this
        · have G' := G.blk ok s H C cl fp
          exact cTg_ok G'.nN G'.nd G'.calm G'.sto h2
        · have G' := G.blk ok s H C cl fp
          unfold cIfs at h3
          split at h3
          · cases h3; exact sts_nil
          · exact sts_one (htb _ G' _ _ h3)
          · cases h3
        · exact hfb _ (G.blk ok s H C cl fp) _ _ h4
      · cases h
    · cases h
  · cases h
theorem cStep_ok (G : GX X cc k) (hf : ∀ e m, f e = some m → SE X e m) (ht : ∀ e m, t e = some m → ST X e m) {fb : Scope → Expr → Option ME} {tb : Scope → Expr → Option MB}
    (hfb : ∀ scope X', GX X' (blkCC cc scope) k → ∀ e m, fb scope e = some m → SE X' e m) (htb : ∀ scope X', GX X' (blkCC cc scope) k → ∀ e m, tb scope e = some m → ST X' e m)
    {e : Expr} {m : ME} (h : cStep cc f t fb tb e = some m) : SE X e m := by
  unfold cStep at h
  split at h
  · exact cConst_ok h
  · exact cName_ok G h
  · obtain ⟨fo, h0, h⟩ := Option.bind_eq_some_iff.mp h
    obtain ⟨m1, h1, h⟩ := Option.bind_eq_some_iff.mp h
    obtain ⟨m2, h2, rfl⟩ := Option.map_eq_some_iff.mp h
    exact se_bin (binF_ok h0) (hf _ _ h1) (hf _ _ h2)
  · exact cCmp_ok G hf h
  · exact cUn_ok hf h
  · exact cAndV_ok hf h
  · exact cOrV_ok hf h
  · obtain ⟨m0, h0, h⟩ := Option.bind_eq_some_iff.mp h
    obtain ⟨m1, h1, h⟩ := Option.bind_eq_some_iff.mp h
    obtain ⟨m2, h2, rfl⟩ := Option.map_eq_some_iff.mp h
    exact se_if (ht _ _ h0) (hf _ _ h1) (hf _ _ h2)
  · obtain ⟨l, h1, rfl⟩ := Option.map_eq_some_iff.mp h
    exact se_tup (cList_ok hf h1).1
  · obtain ⟨l, h1, rfl⟩ := Option.map_eq_some_iff.mp h
    exact se_lst (cList_ok hf h1).1
  · exact cSub_ok hf h
  · exact cCall_ok G hf h
  · obtain ⟨tg, iter, ifs, mi, T, own, mc, me, rfl, rfl, c1, c2, c3, c4, c5, c6, c7⟩ := cLc_parts G hf (hfb _) (htb _) h
    exact se_lc G.calm (by rw [G.nN]; exact G.nd) c1 c2 c3 c4 c5 c6 c7
  · cases h
theorem st_chain {a b c : Expr} {ma mb mc : ME} {pos : Pos} {op op' : CmpOp} {f f' : W → W → Objs → R W} (ho : OpR X (compareOp op) (rW2 (gX X) f)) (ho' : OpR X (compareOp op') (rW2 (gX X) f')) (ha : SE X a ma) (hb : SE X b mb) (hc : SE X c mc) (hm : lastMarks [op, op'] [b, c] = false) :
    ST X (.Compare a [op, op'] [b, c] pos) (fun σ o => asB (mChain f f' ma mb mc σ o)) := by
  refine (pt_chain ho ho' ha hb hc hm).weak fun σ H Q ⟨F, ι, objs, σd, rel, sr, p⟩ => ?_
  obtain ⟨z, oz, ez, p⟩ := p.bind
  cases e1 : ma σd objs with
  | exc e o => rw [mChain, e1] at ez; cases ez
  | stuck => rw [mChain, e1] at ez; cases ez
  | ok x o1 =>
    rw [mChain, e1, R.bind_ok] at ez
    refine ⟨F, ι, objs, σd, rel, sr, ?_⟩
    rw [e1]
    intro v ι1 H1 rel1 ex1 r1
    cases e2 : mb σd o1 with
    | exc e o => rw [e2] at ez; cases ez
    | stuck => rw [e2] at ez; cases ez
    | ok y o2 =>
      rw [e2, R.bind_ok] at ez
      refine ⟨F, ι1, o1, σd, rel1, sr.ext ex1, ?_⟩
      rw [e2]
      intro v2 ι2 H2 rel2 ex2 r2
      refine ⟨F, ι2, o2, x, y, rel2, r1.ext ex2, r2, ?_⟩
      cases e3 : asB (f x y o2) with
      | exc e o => rw [e3] at ez; cases ez
      | stuck => rw [e3] at ez; cases ez
      | ok kk o3 =>
        rw [e3, R.bind_ok] at ez
        rw [asB_inv e3]
        intro v3 ι3 H3 rel3 ex3 r3
        simp only [RW, RV] at r3
        subst r3
        refine ⟨kk, rfl, ?_⟩
        have exx := (ex1.trans ex2).trans ex3
        cases kk with
        | false =>
          simp only [Bool.false_eq_true, if_false] at ez ⊢
          cases ez
          exact ⟨false, rfl, p ι3 H3 rel3 exx⟩
        | true =>
          simp only [if_true] at ez ⊢
          cases e5 : mc σd o3 with
          | exc e o => rw [e5] at ez; cases ez
          | stuck => rw [e5] at ez; cases ez
          | ok w o5 =>
            rw [e5, R.bind_ok] at ez
            refine ⟨F, ι3, o3, σd, rel3, ((sr.ext ex1).ext ex2).ext ex3, ?_⟩
            rw [e5]
            intro v4 ι4 H4 rel4 ex4 r4
            refine ⟨F, ι4, o5, y, w, rel4, (r2.ext ex3).ext ex4, r4, ?_⟩
            rw [ez]
            intro v5 ι5 H5 rel5 ex5 r5
            split at p
            · simp only [RW, RV] at r5
              subst r5
              exact ⟨_, rfl, p ι5 H5 rel5 ((exx.trans ex4).trans ex5)⟩
            · exact p.elim
theorem plainT_ok {e : Expr} (h : plainT e = true) (env : Env) (whole : Sem Value) : isTrue e env whole = (do let v ← whole; standAt e.pos; holding [v] (truthy v)) := by
  cases e <;> first | rfl | (simp [plainT] at h) | skip
  rename_i op a p
  cases op <;> first | rfl | (simp [plainT] at h)
theorem tStep_ok (G : GX X cc k) (hf : ∀ e m, f e = some m → SE X e m) (ht : ∀ e m, t e = some m → ST X e m) {e : Expr} {m : MB} (h : tStep f t e = some m) : ST X e m := by
  unfold tStep at h
  split at h
  · unfold cCmpT at h
    split at h
    · split at h
      · cases h
      · rename_i hb
        obtain ⟨m1, h1, h⟩ := Option.bind_eq_some_iff.mp h
        obtain ⟨m2, h2, rfl⟩ := Option.map_eq_some_iff.mp h
        exact st_cmp (cmpF_ok G _) (hf _ _ h1) (hf _ _ h2) (by simpa using hb)
    · split at h
      · cases h
      · rename_i hb
        obtain ⟨m1, h1, h⟩ := Option.bind_eq_some_iff.mp h
        obtain ⟨m2, h2, h⟩ := Option.bind_eq_some_iff.mp h
        obtain ⟨m3, h3, rfl⟩ := Option.map_eq_some_iff.mp h
        exact st_chain (cmpF_ok G _) (cmpF_ok G _) (hf _ _ h1) (hf _ _ h2) (hf _ _ h3) (by simpa using hb)
    · cases h
  · exact (cAnds_ok ht h).pt
  · exact (cOrs_ok ht h).pt
  · obtain ⟨m1, h1, rfl⟩ := Option.map_eq_some_iff.mp h
    exact st_not (ht _ _ h1)
  · split at h
    · rename_i hp
      obtain ⟨m1, h1, rfl⟩ := Option.map_eq_some_iff.mp h
      exact st_val (hf _ _ h1) fun whole => plainT_ok hp _ _
    · cases h
end
theorem c_ok {k : Nat} : ∀ (n : Nat), (∀ cc X, GX X cc k → ∀ e m, cE n cc e = some m → SE X e m) ∧ (∀ cc X, GX X cc k → ∀ e m, cT n cc e = some m → ST X e m)
  | 0 => ⟨fun cc X _ e m h => (by cases h), fun cc X _ e m h => (by cases h)⟩
  | n + 1 => by
    obtain ⟨ih1, ih2⟩ := c_ok (k := k) n
    refine ⟨fun cc X G e m h => ?_, fun cc X G e m h => ?_⟩
    · unfold cE at h
      exact cStep_ok G (ih1 cc X G) (ih2 cc X G) (fun scope X' G' => ih1 _ X' G') (fun scope X' G' => ih2 _ X' G') h
    · unfold cT at h
      exact tStep_ok G (ih1 cc X G) (ih2 cc X G) h
end RR

set_option maxHeartbeats 4000000
namespace RR
open PySem PySem.Spec PyProof.Rows L2
/-! ### statements from the text -/
def cG (f : Expr → Option ME) (cc : CC) : Expr → Option MG
  | .Name x _ => if isLoc (cc.sto.lookup x) then (cc.N.findIdx? (· == x)).map gNm else none
  | .Subscript a b _ => if notSlice b then (f a).bind fun ma => (f b).map fun mb => gSb ma mb else none
  | _ => none
def cGs (f : Expr → Option ME) (cc : CC) : List Expr → Option (List MG)
  | [] => some []
  | e :: es => (cG f cc e).bind fun g => (cGs f cc es).map fun gs => g :: gs
/-- a comprehension as a value -/
def isComp : Expr → Bool
  | .ListComp _ _ _ _ => true
  | .SetComp _ _ _ _ => true
  | .DictComp _ _ _ _ _ => true
  | _ => false
def isTuple : Expr → Bool
  | .Tuple _ _ _ => true
  | _ => false
/-- x = [..] stores as it goes -/
def swC (cc : CC) (x : Str) (p lpos : Pos) (scope : Scope) : Bool :=
  isLocal (cc.sc.names.lookup x) && p.line == lpos.line && !(scope.names.any fun (n, k) => n == x && (k == .local || k == .cell))
def cAsg (n : Nat) (cc : CC) (tg e : Expr) : Option MS :=
  match tg with
  | .Name x p => match e with
    | .ListComp elt gs scope lpos =>
      if swC cc x p lpos scope then
        (match n with
          | 0 => none
          | n + 1 => (cc.N.findIdx? (· == x)).bind fun i => (cLc (cE n cc) (cE n (blkCC cc scope)) (cT n (blkCC cc scope)) cc (isMu cc lpos) elt gs scope).map fun m => mAsg m (gNm i))
      else (cE n cc e).bind fun m => (cG (cE n cc) cc tg).map fun g => mAsg m g
    | e => if isComp e then none else (cE n cc e).bind fun m => (cG (cE n cc) cc tg).map fun g => mAsg m g
  | .Subscript _ _ _ => (cE n cc e).bind fun m => (cG (cE n cc) cc tg).map fun g => mAsg m g
  | .Tuple ts _ _ => match e with
    | .Tuple vs _ _ => match ts, vs with
      | [.Name x px, .Name y py], [a, b] => match swap2 cc.sc x y px py a b with
        | some true => (cc.N.findIdx? (· == x)).bind fun i => (cc.N.findIdx? (· == y)).bind fun j => if i = j then none else (cList (cE n cc) [a, b]).map fun l => mPar [i, j] l
        | some false => (cE n cc e).bind fun m => (cGs (cE n cc) cc ts).map fun g => mAsg m (gTupG g)
        | none => none
      | _, _ => none
    | e => if isComp e then none else (cE n cc e).bind fun m => (cGs (cE n cc) cc ts).map fun g => mAsg m (gTupG g)
  | _ => none
def cTgF (cc : CC) (tg : Expr) : Option MG := (cTg cc tg).map mTg
mutual
def cS : Nat → Nat → CC → Stmt → Option MS
  | 0, _, _, _ => none
  | d + 1, n, cc, st => match st with
    | .Pass _ => some mSkip
    | .Break _ => some mBrk
    | .Continue _ => some mCnt
    | .Expr e _ => if isComp e then none else (cE n cc e).map mExpr
    | .Return (some e) _ => (cE n cc e).map mRet
    | .Return none _ => some mRetN
    | .If c a b _ => (cT n cc c).bind fun mc => (cSs d n cc a).bind fun ma => (cSs d n cc b).map fun mb => mIfS mc ma mb
    | .Assign [tg] e _ => cAsg n cc tg e
    | .For tg iter body [] _ => (cIter (cE n cc) cc iter).bind fun mi => (cTgF cc tg).bind fun g => (cSs d n cc body).map fun mb => mFor mi g mb
    | .While c body [] _ => (cT n cc c).bind fun mc => (cSs d n cc body).map fun mb => mWhile mc mb
    | .Raise _ _ _ => some fun _ _ => .stuck
    | _ => none
def cSs : Nat → Nat → CC → List Stmt → Option MS
  | 0, _, _, _ => none
  | _ + 1, _, _, [] => some mSkip
  | d + 1, n, cc, s :: ss => (cS d n cc s).bind fun m => (cSs d n cc ss).map fun ms => mThen m ms
end
section
variable {X : Cx} {cc : CC} {k : Nat} {f : Expr → Option ME}
theorem cG_ok (G : GX X cc k) (hf : ∀ e m, f e = some m → SE X e m) {e : Expr} {g : MG} (h : cG f cc e = some g) : SG X e g ∧ isStar e = false := by
  unfold cG at h
  split at h
  · split at h
    · rename_i hl
      obtain ⟨i, hi, rfl⟩ := Option.map_eq_some_iff.mp h
      have hs := G.sto _ hl
      exact ⟨sg_name (by rw [G.nN]; exact G.nd) (by rw [G.nN]; exact findIdx_get hi) hs.1 hs.2, rfl⟩
    · cases h
  · split at h
    · rename_i hn
      obtain ⟨m1, h1, h⟩ := Option.bind_eq_some_iff.mp h
      obtain ⟨m2, h2, rfl⟩ := Option.map_eq_some_iff.mp h
      exact ⟨sg_sub (hf _ _ h1) (hf _ _ h2) hn, rfl⟩
    · cases h
  · cases h
theorem cGs_ok (G : GX X cc k) (hf : ∀ e m, f e = some m → SE X e m) : ∀ {es : List Expr} {gs : List MG}, cGs f cc es = some gs → SGs X es gs ∧ es.all (fun e => !isStar e) = true ∧ gs.length = es.length
  | [], gs, h => by cases h; exact ⟨sgs_nil, rfl, rfl⟩
  | e :: es, gs, h => by
    unfold cGs at h
    obtain ⟨g, h1, h⟩ := Option.bind_eq_some_iff.mp h
    obtain ⟨gs', h2, rfl⟩ := Option.map_eq_some_iff.mp h
    obtain ⟨a1, a2⟩ := cG_ok G hf h1
    obtain ⟨b1, b2, b3⟩ := cGs_ok G hf h2
    exact ⟨sgs_cons a1 b1 a2, by rw [List.all_cons, b2, a2]; rfl, by rw [List.length_cons, b3, List.length_cons]⟩
theorem sw_none {e : Expr} {t : Option Expr} {l : Nat} {env : Env} (h : isComp e = false) : swapsWith e t l env = pure false := by
  cases e <;> first | rfl | (simp [isComp] at h)
theorem sw_sub {e a b : Expr} {p : Pos} {l : Nat} {env : Env} : swapsWith e (some (.Subscript a b p)) l env = pure false := by
  unfold swapsWith
  split <;> rfl
theorem sw_tup {e : Expr} {ts : List Expr} {k : Nat} {p : Pos} {l : Nat} {env : Env} : swapsWith e (some (.Tuple ts k p)) l env = pure false := by
  unfold swapsWith
  split <;> rfl
theorem sws_sub {e a b : Expr} {p : Pos} {l : Nat} {env : Env} : swapsWithSole [.Subscript a b p] e l env = pure false := sw_sub (e := e) (a := a) (b := b) (p := p) (l := l) (env := env)
theorem sws_tup {e : Expr} {ts : List Expr} {k : Nat} {p : Pos} {l : Nat} {env : Env} : swapsWithSole [.Tuple ts k p] e l env = pure false := sw_tup (e := e) (ts := ts) (k := k) (p := p) (l := l) (env := env)
theorem isLocal_iff {o : Option NameKind} : isLocal o = (o == some .local) := by
  unfold isLocal
  cases o with
  | none => rfl
  | some k => cases k <;> rfl
theorem sw_lc (G : GX X cc k) {x : Str} {p lpos : Pos} {elt : Expr} {gs : List Comprehension} {scope : Scope} {l : Nat} : swapsWith (.ListComp elt gs scope lpos) (some (.Name x p)) l X.env = pure (swC cc x p lpos scope) := by
  have hb : X.env.blockKind = .function := blk_fn (by rw [G.sc]; exact G.kind)
  have hk : X.env.kindOf x = cc.sc.names.lookup x := by show X.env.scope.names.lookup x = _; rw [G.sc]
  unfold swapsWith swC
  simp only [hb, hk, isLocal_iff, Expr.pos]
  rfl
theorem ss_nil_of {e tg : Expr} (h : isTuple tg = false ∨ isTuple e = false) (hl : ∀ es p, tg ≠ .List es p) (env : Env) : swappedStores [tg] e env = pure none := by
  unfold swappedStores
  cases tg <;> first | rfl | skip
  · rename_i es p; exact absurd rfl (hl es p)
  · cases e <;> first | rfl | (simp [isTuple] at h)
theorem cAsg_ok (G : GX X cc k) {n : Nat} {tg e : Expr} {m : MS} {pos : Pos} (h : cAsg n cc tg e = some m) : SS X (.Assign [tg] e pos) m := by
  have hf : ∀ e m, cE n cc e = some m → SE X e m := fun e m h => (c_ok n).1 cc X G e m h
  unfold cAsg at h
  split at h
  · rename_i x p
    have plain : ∀ {e : Expr} {m : MS}, swapsWith e (some (.Name x p)) pos.line X.env = pure false → ((cE n cc e).bind fun m => (cG (cE n cc) cc (.Name x p)).map fun g => mAsg m g) = some m → SS X (.Assign [.Name x p] e pos) m := by
      intro e m hs h
      obtain ⟨m1, h1, h⟩ := Option.bind_eq_some_iff.mp h
      obtain ⟨g, h2, rfl⟩ := Option.map_eq_some_iff.mp h
      exact ss_asg (hf _ _ h1) (cG_ok G hf h2).1 hs (ss_nil_of (.inl rfl) (by intros; simp) _) rfl
    split at h
    · split at h
      · rename_i hs
        cases n with
        | zero => cases h
        | succ n =>
          obtain ⟨i, hi, h⟩ := Option.bind_eq_some_iff.mp h
          obtain ⟨m', h1, rfl⟩ := Option.map_eq_some_iff.mp h
          obtain ⟨tg', iter, ifs, mi, T, own, mc, me, rfl, rfl, c1, c2, c3, c4, c5, c6, c7⟩ := cLc_parts (fb := fun s => cE n (blkCC cc s)) (tb := fun s => cT n (blkCC cc s)) G (fun e m h => (c_ok n).1 cc X G e m h) (fun X' G' e m h => (c_ok n).1 _ X' G' e m h) (fun X' G' e m h => (c_ok n).2 _ X' G' e m h) h1
          have hl : X.env.scope.names.lookup x = some .local := by
            rw [G.sc]
            simp only [swC, Bool.and_eq_true] at hs
            have := hs.1.1
            rw [isLocal_iff] at this
            exact eq_of_beq this
          exact ss_setLc G.calm (by rw [G.nN]; exact G.nd) (by rw [G.nN]; exact findIdx_get hi) hl (by rw [sw_lc G, hs]) c1 c2 c3 c4 c5 c6 c7
      · rename_i hs
        exact plain (by rw [sw_lc G]; simp only [Bool.not_eq_true] at hs; rw [hs]) h
    · split at h
      · cases h
      · rename_i hc
        exact plain (sw_none (by simpa using hc)) h
  · obtain ⟨m1, h1, h⟩ := Option.bind_eq_some_iff.mp h
    obtain ⟨g, h2, rfl⟩ := Option.map_eq_some_iff.mp h
    exact ss_asg (hf _ _ h1) (cG_ok G hf h2).1 sws_sub (ss_nil_of (.inl rfl) (by intros; simp) _) rfl
  · split at h
    · split at h
      · rename_i x px y py a b
        split at h
        · rename_i hsw
          obtain ⟨i, hi, h⟩ := Option.bind_eq_some_iff.mp h
          obtain ⟨j, hj, h⟩ := Option.bind_eq_some_iff.mp h
          split at h
          · cases h
          · rename_i hij
            obtain ⟨l, h1, rfl⟩ := Option.map_eq_some_iff.mp h
            have hk : X.env.scope = cc.sc := G.sc
            have loc : cc.sc.names.lookup x = some .local ∧ cc.sc.names.lookup y = some .local := by
              unfold swap2 at hsw
              split at hsw
              · cases hsw
              · split at hsw
                · rename_i hl
                  simp only [Bool.and_eq_true] at hl
                  exact ⟨eq_of_beq hl.1.1.1, eq_of_beq hl.1.1.2⟩
                · cases hsw
            exact ss_par G.calm (by rw [G.nN]; exact G.nd) (by rw [G.nN]; exact findIdx_get hi) (by rw [G.nN]; exact findIdx_get hj) hij (by rw [hk]; exact loc.1) (by rw [hk]; exact loc.2) (cList_ok hf h1).1 (by rw [swapped2 hk G.kind hsw]; rfl) sws_tup
        · rename_i hsw
          obtain ⟨m1, h1, h⟩ := Option.bind_eq_some_iff.mp h
          obtain ⟨g, h2, rfl⟩ := Option.map_eq_some_iff.mp h
          obtain ⟨b1, b2, b3⟩ := cGs_ok G hf h2
          exact ss_asg (hf _ _ h1) (sg_tupG G.calm b1 b2 b3) sws_tup (by rw [swapped2 G.sc G.kind hsw]; rfl) rfl
        · cases h
      · cases h
    · rename_i hnt
      split at h
      · cases h
      · rename_i hc
        obtain ⟨m1, h1, h⟩ := Option.bind_eq_some_iff.mp h
        obtain ⟨g, h2, rfl⟩ := Option.map_eq_some_iff.mp h
        obtain ⟨b1, b2, b3⟩ := cGs_ok G hf h2
        refine ss_asg (hf _ _ h1) (sg_tupG G.calm b1 b2 b3) sws_tup (ss_nil_of (.inr ?_) (by intros; simp) _) rfl
        cases e <;> first | rfl | (exfalso; exact hnt _ _ _ rfl)
  · cases h
end
theorem cS_ok {X : Cx} {cc : CC} {k n : Nat} (G : GX X cc k) : ∀ (d : Nat), (∀ st m, cS d n cc st = some m → SS X st m) ∧ (∀ sts m, cSs d n cc sts = some m → SSs X sts m)
  | 0 => ⟨fun st m h => (by unfold cS at h; cases h), fun st m h => (by unfold cSs at h; cases h)⟩
  | d + 1 => by
    obtain ⟨ih1, ih2⟩ := cS_ok (n := n) G d
    have hf : ∀ e m, cE n cc e = some m → SE X e m := fun e m h => (c_ok n).1 cc X G e m h
    have ht : ∀ e m, cT n cc e = some m → ST X e m := fun e m h => (c_ok n).2 cc X G e m h
    refine ⟨fun st m h => ?_, fun sts m h => ?_⟩
    · unfold cS at h
      split at h
      · cases h; exact ss_pass
      · cases h; exact ss_break
      · cases h; exact ss_continue
      · split at h
        · cases h
        · rename_i hc
          obtain ⟨m1, h1, rfl⟩ := Option.map_eq_some_iff.mp h
          exact ss_expr (hf _ _ h1) (sw_none (by simpa using hc))
      · obtain ⟨m1, h1, rfl⟩ := Option.map_eq_some_iff.mp h
        exact ss_ret (hf _ _ h1)
      · cases h; exact ss_retN
      · obtain ⟨m0, h0, h⟩ := Option.bind_eq_some_iff.mp h
        obtain ⟨m1, h1, h⟩ := Option.bind_eq_some_iff.mp h
        obtain ⟨m2, h2, rfl⟩ := Option.map_eq_some_iff.mp h
        exact ss_if (ht _ _ h0) (ih2 _ _ h1) (ih2 _ _ h2)
      · exact cAsg_ok G h
      · obtain ⟨mi, h0, h⟩ := Option.bind_eq_some_iff.mp h
        obtain ⟨g, h1, h⟩ := Option.bind_eq_some_iff.mp h
        obtain ⟨m2, h2, rfl⟩ := Option.map_eq_some_iff.mp h
        obtain ⟨T, hT, rfl⟩ := Option.map_eq_some_iff.mp h1
        obtain ⟨i1, i2⟩ := cIter_ok G hf h0
        exact ss_for G.own G.calm i1 (sg_tg (cTg_ok G.nN G.nd G.calm G.sto hT)) (ih2 _ _ h2) i2
      · obtain ⟨m0, h0, h⟩ := Option.bind_eq_some_iff.mp h
        obtain ⟨m1, h1, rfl⟩ := Option.map_eq_some_iff.mp h
        exact ss_while G.own (ht _ _ h0) (ih2 _ _ h1)
      · cases h
        exact ps_never.weak fun D σ H ⟨F, ι, objs, σd, rel, sr, p⟩ => p
      · cases h
    · cases sts with
      | nil => unfold cSs at h; cases h; exact ss_nil
      | cons s ss =>
        unfold cSs at h
        obtain ⟨m1, h1, h⟩ := Option.bind_eq_some_iff.mp h
        obtain ⟨m2, h2, rfl⟩ := Option.map_eq_some_iff.mp h
        exact ss_cons (ih1 _ _ h1) (ih2 _ _ h2)
end RR

set_option maxHeartbeats 4000000
namespace RR
open PySem PySem.Spec PyProof.Rows L2
/-! ### a module's defs, one after the other -/
structure EnvS (P : Program) (w : World) (K : PySem.W.Frag) (mg : Str → Option Value) (base : Heap) (k : Nat) (fs : List (Str × FI)) : Prop where
  fs : ∀ x fi, (x, fi) ∈ fs → FnS P w K mg base k x fi ∧ (x == ("__debug__" : Str)) = false
structure ConS (K : PySem.W.Frag) (mg : Str → Option Value) (cs : List (Str × D)) : Prop where
  cs : ∀ x d, (x, d) ∈ cs → (∃ u v, mg x = some u ∧ L2.RelV v u ∧ ∀ A H, RV ⟨K, mg⟩ A H d v) ∧ (x == ("__debug__" : Str)) = false
  blt : ∀ x ∈ bltNames, mg x = none
theorem EnvS.nil {P : Program} {w : World} {K : PySem.W.Frag} {mg : Str → Option Value} {base : Heap} : EnvS P w K mg base 0 [] := ⟨fun _ _ h => by simp at h⟩
def okN (N : List Str) : Bool := N.all fun x => !(x == ("__debug__" : Str)) && !(x == ("__classdict__" : Str))
def ccOf (N : List Str) (scope : Scope) (mu : List (Nat × Nat)) (fs : List (Str × FI)) (cs : List (Str × D)) : CC := ⟨N, scope, scope.names, mu, fs, cs⟩
theorem EnvS.fn {P : Program} {w : World} {K : PySem.W.Frag} {mg : Str → Option Value} {base : Heap} {k : Nat} {fs : List (Str × FI)} {cs : List (Str × D)} {x qual : Str} {params : Arguments} {body : List Stmt} {scope : Scope} {f : Addr} {fd : FuncData} {N ps : List Str} {mu : List (Nat × Nat)} {fr : Bool} {ms : MS}
    (E : EnvS P w K mg base k fs) (C : ConS K mg cs) (Fu : FunD K x qual params body scope [] [] f fd) (S : FnScope N ps scope)
    (dbg : okN N = true) (hc : cSs 60 60 (ccOf N scope mu fs cs) body = some ms) : FnOk P w K mg base CX0 (k + 1) f fd ps (spOf ⟨K, mg⟩ ps.length (runFn N.length fr ms)) := by
  refine fn_ok Fu S fun X e1 e2 e3 e4 e5 e6 e7 e8 e9 e10 hr => ?_
  subst e1 e2 e3 e4 e5
  have G : GX X (ccOf N scope mu fs cs) k := by
    refine ⟨e8, e6, S.nd, e7, S.kind, fun y h => ?_, hr, ?_, E.fs, C.cs, C.blt, fun y hy => ?_⟩
    · refine ⟨?_, .inl (by rw [e9])⟩
      rw [e7]
      exact isLoc_sc h
    · rw [e10]; exact PassesOwn.never
    · have := List.all_eq_true.mp dbg y hy
      simp only [Bool.and_eq_true, Bool.not_eq_true'] at this
      exact this
  exact (cS_ok G 60).2 _ _ hc
theorem EnvS.add {P : Program} {w : World} {K : PySem.W.Frag} {mg : Str → Option Value} {base : Heap} {k : Nat} {fs : List (Str × FI)} {cs : List (Str × D)} {x qual : Str} {params : Arguments} {body : List Stmt} {scope : Scope} {f : Addr} {fd : FuncData} {N ps : List Str} {mu : List (Nat × Nat)} {fr mt : Bool} {kws : List (List Str × List Nat)} {ms : MS}
    (E : EnvS P w K mg base k fs) (C : ConS K mg cs) (Fu : FunD K x qual params body scope [] [] f fd) (gl : mg x = some (.ref f)) (S : FnScope N ps scope) (bd : Binds K fd ps []) (kb : ∀ p ∈ kws, KwB fd ps p)
    (dbg : okN N = true) (hx : (x == ("__debug__" : Str)) = false) (hc : cSs 60 60 (ccOf N scope mu fs cs) body = some ms) (n : Nat) (hn : n = ps.length) (sl : Nat) (hsl : sl = N.length) :
    EnvS P w K mg base (k + 1) ((x, ⟨n, mt, runFn sl fr ms, kws⟩) :: fs) := by
  subst hn hsl
  refine ⟨fun y fi hm => ?_⟩
  rcases List.mem_cons.mp hm with e | hm
  · cases e
    exact ⟨⟨f, fd, ps, E.fn C Fu S dbg hc, gl, Fu.kp, bd, kb⟩, hx⟩
  · obtain ⟨h1, h2⟩ := E.fs y fi hm
    exact ⟨h1.mono (Nat.le_succ k), h2⟩
theorem kw_bind {K : PySem.W.Frag} {x qual : Str} {params : Arguments} {body : List Stmt} {scope : Scope} {f : Addr} {fd : FuncData} {ps ks : List Str} {π : List Nat} {kws : List (Str × V)} (F : FunD K x qual params body scope [] kws f fd)
    (h : ∀ (kV doc pm : Value) (an : Option Addr) (cdv ct : Value) (us : List Value), us.length = ks.length → bindArgs (PySem.W.fnOf x qual params body scope .none kV doc pm an cdv ct) ⟨[], ks.zip us⟩ = pure (ps.zip (permL π us))) : KwB fd ps (ks, π) := fun s us hl => by
  obtain ⟨oc, od, dV, kV, doc, pm, an, cdv, ct, osl, rfl, lk, hcd, hD, hK⟩ := F.ex
  rcases hD with ⟨_, rfl⟩ | ⟨e, _⟩
  · exact .of_eq (h kV doc pm an cdv ct us hl)
  · exact absurd rfl e
theorem RVs_ints {g : GE} {A : Addr → Prop} {H : Hp} : ∀ ns : List Int, RVs g A H (ns.map D.int) (ns.map V.int)
  | [] => by simp [RVs]
  | n :: ns => by simp only [List.map_cons, RVs]; exact ⟨_, _, rfl, by simp only [RV], RVs_ints ns⟩
/-- the law's own call -/
theorem law_sp {K : PySem.W.Frag} {mg : Str → Option Value} {fm : List W → Objs → R W} {H : Hp} {a : Addr} {ns : List Int} {E : XK} (h : fm [.v (.scr (ns.map D.int))] [] = .ok (.v (.bl true)) []) (hS : SqL K H a (ns.map V.int)) : spOf ⟨K, mg⟩ 1 fm [.ref a] H (fun v _ => v = .bl true) E := by
  refine ⟨rfl, fun _ => False, [], [], [.v (.scr (ns.map D.int))], Rel.nil fun _ z => z.elim, .cons ?_ .nil, ?_⟩
  · simp only [RW, RV]
    refine ⟨a, ns.map V.int, rfl, ?_, ?_⟩
    · rcases hS with h | h
      · exact .inl ⟨fun z => z.elim id fun z => z.none, h⟩
      · exact .inr h
    · exact RVs_ints ns
  · rw [h]
    intro v ι' H' _ _ k
    simpa only [RW, RV] using k
end RR

set_option maxHeartbeats 4000000
namespace RR
open PySem PySem.Spec PyProof.Rows L2
/-! ### runs, one step each -/
section
variable {σ : Sl} {o : Objs}
@[simp] theorem e_Const (d : D) : mConst d σ o = .ok (.v d) o := id rfl
@[simp] theorem e_Var (i : Nat) : mVar i σ o = match σ[i]? with | some (some w) => .ok w o | _ => .stuck := id rfl
@[simp] theorem e_Bin (f : W → W → Objs → R W) (a b : ME) : mBin f a b σ o = (a σ o).bind fun x o => (b σ o).bind fun y o => f x y o := id rfl
@[simp] theorem e_Un (f : W → Objs → R W) (a : ME) : mUn f a σ o = (a σ o).bind fun x o => f x o := id rfl
@[simp] theorem e_Nil : mNil σ o = .ok [] o := id rfl
@[simp] theorem e_Cons (a : ME) (b : ML) : mCons a b σ o = (a σ o).bind fun x o => (b σ o).bind fun xs o => .ok (x :: xs) o := id rfl
@[simp] theorem e_Chain (f f' : W → W → Objs → R W) (a b c : ME) : mChain f f' a b c σ o = (a σ o).bind fun x o => (b σ o).bind fun y o => (asB (f x y o)).bind fun k o => if k = true then (c σ o).bind fun z o => f' y z o else .ok (.v (.bl false)) o := id rfl
@[simp] theorem e_Tru (m : ME) : mTru m σ o = (m σ o).bind fun x o => match truW o x with | some k => .ok k o | none => .stuck := id rfl
@[simp] theorem e_And (a b : MB) : mAnd a b σ o = (a σ o).bind fun k o => if k = true then b σ o else .ok false o := id rfl
@[simp] theorem e_Or (a b : MB) : mOr a b σ o = (a σ o).bind fun k o => if k = true then .ok true o else b σ o := id rfl
@[simp] theorem e_Not (a : MB) : mNot a σ o = (a σ o).bind fun k o => .ok (!k) o := id rfl
@[simp] theorem e_AndV (a b : ME) : mAndV a b σ o = (asB (a σ o)).bind fun k o => if k = true then b σ o else .ok (.v (.bl false)) o := id rfl
@[simp] theorem e_OrV (a b : ME) : mOrV a b σ o = (asB (a σ o)).bind fun k o => if k = true then .ok (.v (.bl true)) o else b σ o := id rfl
@[simp] theorem e_NotV (a : ME) : mNotV a σ o = (asB (a σ o)).bind fun k o => .ok (.v (.bl (!k))) o := id rfl
@[simp] theorem e_If (c : MB) (a b : ME) : mIf c a b σ o = (c σ o).bind fun k o => if k = true then a σ o else b σ o := id rfl
@[simp] theorem e_AsB (m : ME) : mAsB m σ o = asB (m σ o) := id rfl
@[simp] theorem asB_ok (b : Bool) : asB (.ok (.v (.bl b)) o) = .ok b o := id rfl
@[simp] theorem e_Yes : mYes σ o = .ok true o := id rfl
@[simp] theorem e_Tup (l : ML) : mTup l σ o = (l σ o).bind tupW := id rfl
@[simp] theorem e_Lst (mu : Bool) (l : ML) : mLst mu l σ o = (l σ o).bind (lstMk mu) := id rfl
@[simp] theorem e_Call (f : List W → Objs → R W) (l : ML) : mCall f l σ o = (l σ o).bind f := id rfl
@[simp] theorem e_CallK (fi : FI) (π : List Nat) (n : Nat) (l : ML) : mCallK fi π n l σ o = (l σ o).bind fun ws o => if ws.length = n then callW fi (permL π ws) o else .stuck := id rfl
@[simp] theorem e_BM (T : String) (f : W → List W → Objs → R W) (a : ME) (l : ML) : mBM T f a l σ o = (a σ o).bind fun x o => if mtyOk T o x = true then (l σ o).bind fun ws o => f x ws o else .stuck := id rfl
@[simp] theorem e_Sl (mu : Bool) (a : ME) (lo hi : Option ME) : mSl mu a lo hi σ o = (a σ o).bind fun x o => (mPart lo σ o).bind fun l o => (mPart hi σ o).bind fun h o => slW mu x l h o := id rfl
@[simp] theorem e_PartN : mPart none σ o = .ok none o := id rfl
@[simp] theorem e_PartS (m : ME) : mPart (some m) σ o = (m σ o).bind fun x o => match x with | .v (.int i) => .ok (some i) o | _ => .stuck := id rfl
@[simp] theorem e_Seq (a : ME) : mSeq a σ o = (a σ o).bind fun x o => iterW o x := id rfl
@[simp] theorem e_Rng (f : List W → Objs → R (List D)) (l : ML) : mRng f l σ o = (l σ o).bind f := id rfl
@[simp] theorem e_Lc (mu : Bool) (mi : MI) (T : Tg) (own : List Nat) (c : MB) (e : ME) : mLc mu mi T own c e σ o = (mi σ o).bind fun xs o => (lcGo (lcTurn T own c e σ) xs [] o).bind fun ws o => lstMk mu ws o := id rfl
@[simp] theorem e_Then (a b : MS) : mThen a b σ o = (a σ o).bind fun fl o => match fl with | .nx σ => b σ o | fl => .ok fl o := id rfl
@[simp] theorem e_Skip : mSkip σ o = .ok (.nx σ) o := id rfl
@[simp] theorem e_Expr (a : ME) : mExpr a σ o = (a σ o).bind fun _ o => .ok (.nx σ) o := id rfl
@[simp] theorem e_Ret (a : ME) : mRet a σ o = (a σ o).bind fun w o => .ok (.rt w) o := id rfl
@[simp] theorem e_RetN : mRetN σ o = .ok (.rt (.v .non)) o := id rfl
@[simp] theorem e_IfS (c : MB) (a b : MS) : mIfS c a b σ o = (c σ o).bind fun k o => if k = true then a σ o else b σ o := id rfl
@[simp] theorem e_Asg (a : ME) (gm : MG) : mAsg a gm σ o = (a σ o).bind fun w o => (gm w σ o).bind fun σ o => .ok (.nx σ) o := id rfl
@[simp] theorem e_Brk : mBrk σ o = .ok (.bk σ) o := id rfl
@[simp] theorem e_Cnt : mCnt σ o = .ok (.ct σ) o := id rfl
@[simp] theorem e_For (mi : MI) (gm : MG) (b : MS) : mFor mi gm b σ o = (mi σ o).bind fun xs o => forGo (fun d σ o => (gm (.v d) σ o).bind fun σ o => b σ o) xs σ o := id rfl
@[simp] theorem e_While (c : MB) (b : MS) : mWhile c b σ o = whileGo c b 1000000000000 σ o := id rfl
@[simp] theorem e_Par (is : List Nat) (l : ML) : mPar is l σ o = (l σ o).bind fun ws o => if ws.length = is.length then .ok (.nx (setAll σ is ws)) o else .stuck := id rfl
@[simp] theorem e_gNm (i : Nat) (w : W) : gNm i w σ o = .ok (σ.set i (some w)) o := id rfl
@[simp] theorem e_gSb (a b : ME) (x : W) : gSb a b x σ o = (a σ o).bind fun u o => (b σ o).bind fun i o => (setW u i x o).bind fun _ o => .ok σ o := id rfl
@[simp] theorem e_gTupG (ms : List MG) (ds : List D) : gTupG ms (.v (.tup ds)) σ o = if ds.length = ms.length then mGs ms (ds.map W.v) σ o else .stuck := id rfl
@[simp] theorem e_TgOne (i : Nat) (w : W) : mTg (.one i) w σ o = .ok (σ.set i (some w)) o := id rfl
@[simp] theorem e_TgMany (is : List Nat) (ds : List D) : mTg (.many is) (.v (.tup ds)) σ o = if ds.length = is.length then .ok (setAll σ is (ds.map W.v)) o else .stuck := id rfl
@[simp] theorem e_mGsN : mGs [] [] σ o = .ok σ o := id rfl
@[simp] theorem e_mGsC (m : MG) (ms : List MG) (w : W) (ws : List W) : mGs (m :: ms) (w :: ws) σ o = (m w σ o).bind fun σ o => mGs ms ws σ o := id rfl
@[simp] theorem e_setAllN {α : Type} (s : List (Option α)) : setAll s [] [] = s := id rfl
@[simp] theorem e_setAllC {α : Type} (s : List (Option α)) (i : Nat) (is : List Nat) (v : α) (vs : List α) : setAll s (i :: is) (v :: vs) = setAll (s.set i (some v)) is vs := id rfl
@[simp] theorem e_wipeN : wipeD σ [] = σ := id rfl
@[simp] theorem e_wipeC (v : Nat) (vs : List Nat) : wipeD σ (v :: vs) = (wipeD σ vs).set v none := id rfl
@[simp] theorem e_on1 (f : W → Objs → R W) (a : W) : on1 f [a] o = f a o := id rfl
@[simp] theorem e_on2 (f : W → W → Objs → R W) (a b : W) : on2 f [a, b] o = f a b o := id rfl
@[simp] theorem e_lcTurn (T : Tg) (own : List Nat) (c : MB) (e : ME) (d : D) : lcTurn T own c e σ d o = (mTg T (.v d) (wipeD σ own) o).bind fun σ o => (c σ o).bind fun k o => if k = true then (e σ o).bind fun w o => .ok (some w) o else .ok none o := id rfl
@[simp] theorem e_lcN (turn : D → Objs → R (Option W)) (acc : List W) : lcGo turn [] acc o = .ok acc o := id rfl
@[simp] theorem e_forN (f : D → MS) : forGo f [] σ o = .ok (.nx σ) o := id rfl
@[simp] theorem e_startD (n : Nat) (ws : List W) : startD n ws = ws.map some ++ List.replicate (n - ws.length) none := id rfl
end
/-! ### what the built-in things give -/
section
variable {o : Objs}
@[simp] theorem add_ii (i j : Int) : addW (.v (.int i)) (.v (.int j)) o = .ok (.v (.int (i + j))) o := id rfl
theorem add_ss (x y : Str) (h : x.length + y.length ≤ sizeLine) : addW (.v (.str x)) (.v (.str y)) o = .ok (.v (.str (x ++ y))) o := by simp [addW, h]
theorem add_ll (x y : List D) (h : x.length + y.length ≤ sizeLine) : addW (.v (.lst x)) (.v (.lst y)) o = .ok (.v (.lst (x ++ y))) o := by simp [addW, lstW, h]
@[simp] theorem sub_ii (i j : Int) : subW (.v (.int i)) (.v (.int j)) o = .ok (.v (.int (i - j))) o := id rfl
theorem mul_ii (i j : Int) (h : CMul i j) : mulW (.v (.int i)) (.v (.int j)) o = .ok (.v (.int (i * j))) o := by simp [mulW, h]
theorem mul_si (x : Str) (k : Nat) (h : k ≤ 1000000 ∧ x.length * k ≤ sizeLine) : mulW (.v (.str x)) (.v (.int (k : Int))) o = .ok (.v (.str (repS x k))) o := by
  have : (k : Int) ≤ 1000000 := by omega
  simp [mulW, h.2, this]
theorem mul_ti (xs : List D) (k : Nat) (hx : xs ≠ []) (h : 1 ≤ k ∧ k ≤ 1000 ∧ xs.length ≤ 1000) : mulW (.v (.tup xs)) (.v (.int (k : Int))) o = .ok (.v (.tup (List.replicate k xs).flatten)) o := by
  have h1 : (1 : Int) ≤ k := by omega
  have h2 : (k : Int) ≤ 1000 := by omega
  simp [mulW, h1, h2, h.2.2, hx]
theorem fdiv_ii (i j : Int) (h : 0 < j ∧ j < 1073741824) : fdivW (.v (.int i)) (.v (.int j)) o = .ok (.v (.int (i / j))) o := by
  have : CDiv i j := h
  simp [fdivW, this]
theorem mod_ii (i j : Int) (h : 0 < j) : modW (.v (.int i)) (.v (.int j)) o = .ok (.v (.int (i % j))) o := by simp [modW, h]
@[simp] theorem fdiv_i2 (i : Int) : fdivW (.v (.int i)) (.v (.int 2)) o = .ok (.v (.int (i / 2))) o := fdiv_ii i 2 (by decide)
@[simp] theorem mod_i2 (i : Int) : modW (.v (.int i)) (.v (.int 2)) o = .ok (.v (.int (i % 2))) o := mod_ii i 2 (by decide)
@[simp] theorem mul_2i (i : Int) : mulW (.v (.int 2)) (.v (.int i)) o = .ok (.v (.int (2 * i))) o := mul_ii 2 i (.inl (by decide))
@[simp] theorem eq_ii (i j : Int) : eqW (.v (.int i)) (.v (.int j)) o = .ok (.v (.bl (decide (i = j)))) o := id rfl
@[simp] theorem eq_ss (i j : Str) : eqW (.v (.str i)) (.v (.str j)) o = .ok (.v (.bl (decide (i = j)))) o := id rfl
@[simp] theorem ne_ii (i j : Int) : neW (.v (.int i)) (.v (.int j)) o = .ok (.v (.bl (!decide (i = j)))) o := id rfl
@[simp] theorem ne_ss (i j : Str) : neW (.v (.str i)) (.v (.str j)) o = .ok (.v (.bl (!decide (i = j)))) o := id rfl
@[simp] theorem lt_ii (i j : Int) : ltW (.v (.int i)) (.v (.int j)) o = .ok (.v (.bl (decide (i < j)))) o := id rfl
@[simp] theorem le_ii (i j : Int) : leW (.v (.int i)) (.v (.int j)) o = .ok (.v (.bl (decide (i ≤ j)))) o := id rfl
@[simp] theorem gt_ii (i j : Int) : gtW (.v (.int i)) (.v (.int j)) o = .ok (.v (.bl (decide (j < i)))) o := id rfl
@[simp] theorem ge_ii (i j : Int) : geW (.v (.int i)) (.v (.int j)) o = .ok (.v (.bl (decide (j ≤ i)))) o := id rfl
@[simp] theorem int_i (i : Int) : intW (.v (.int i)) o = .ok (.v (.int i)) o := id rfl
@[simp] theorem abs_i (i : Int) : absW (.v (.int i)) o = .ok (.v (.int (if i < 0 then -i else i))) o := id rfl
@[simp] theorem len_l (xs : List D) : lenW (.v (.lst xs)) o = .ok (.v (.int xs.length)) o := id rfl
@[simp] theorem len_t (xs : List D) : lenW (.v (.tup xs)) o = .ok (.v (.int xs.length)) o := id rfl
@[simp] theorem len_c (xs : List D) : lenW (.v (.scr xs)) o = .ok (.v (.int xs.length)) o := id rfl
theorem len_s (x : Str) (h : x.length ≤ sizeLine) : lenW (.v (.str x)) o = .ok (.v (.int x.length)) o := by simp [lenW, h]
@[simp] theorem iter_l (xs : List D) : iterW o (.v (.lst xs)) = .ok xs o := id rfl
@[simp] theorem iter_t (xs : List D) : iterW o (.v (.tup xs)) = .ok xs o := id rfl
@[simp] theorem iter_c (xs : List D) : iterW o (.v (.scr xs)) = .ok xs o := id rfl
theorem iter_s (x : Str) : iterW o (.v (.str x)) = .ok (x.cps.toList.map fun c => D.str ⟨#[c]⟩) o := rfl
@[simp] theorem rev_l (xs : List D) : revW (.v (.lst xs)) o = .ok (.v (.lst xs.reverse)) o := id rfl
@[simp] theorem tru_b (b : Bool) : truW o (.v (.bl b)) = some b := id rfl
@[simp] theorem tuple_l (xs : List D) : tupleW (.v (.lst xs)) o = .ok (.v (.tup xs)) o := id rfl
theorem list_t (xs : List D) (h : xs.length ≤ sizeLine) : listW false (.v (.tup xs)) o = .ok (.v (.lst xs)) o := by simp [listW, seqW, h]
theorem any_l (bs : List Bool) : anyW (.v (.lst (bs.map D.bl))) o = .ok (.v (.bl (bs.any id))) o := by simp [anyW, lstW, boolsD_map]
theorem all_l (bs : List Bool) : allW (.v (.lst (bs.map D.bl))) o = .ok (.v (.bl (bs.all id))) o := by simp [allW, lstW, boolsD_map]
theorem sum_l (is : List Int) : sumW (.v (.lst (is.map D.int))) o = .ok (.v (.int is.sum)) o := by simp [sumW, lstW, intsD_map]
theorem rng_n (n : Nat) (h : n < 4611686018427387904) : rng1 [.v (.int (n : Int))] o = .ok (rng 0 n) o := by
  have h1 : (-(2 ^ 62) : Int) ≤ n := by omega
  have h2 : (n : Int) < 2 ^ 62 := by omega
  simp only [rng1, h1, h2, and_self, if_true, Int.toNat_natCast]
theorem rng_s (n : Nat) (h : n ≤ 1000000) : rng1 [.v (.int (n : Int))] o = .ok (rng 0 n) o := rng_n n (Nat.lt_of_le_of_lt h (by decide))
theorem rng_eq (n : Nat) : rng 0 n = (List.range n).map fun (i : Nat) => D.int (i : Int) := by simp [rng]
theorem ix_l (xs : List D) (i : Nat) (d : D) (h : xs[i]? = some d) : ixW (.v (.lst xs)) (.v (.int (i : Int))) o = .ok (.v d) o := by
  obtain ⟨h1, h2⟩ := List.getElem?_eq_some_iff.mp h
  have h0 : (0 : Int) ≤ i := by omega
  have h3 : (i : Int) < xs.length := by omega
  simp [ixW, seqW, atI, ixN, h3, h]
theorem ix_t (xs : List D) (i : Nat) (d : D) (h : xs[i]? = some d) : ixW (.v (.tup xs)) (.v (.int (i : Int))) o = .ok (.v d) o := by
  obtain ⟨h1, h2⟩ := List.getElem?_eq_some_iff.mp h
  have h0 : (0 : Int) ≤ i := by omega
  have h3 : (i : Int) < xs.length := by omega
  simp [ixW, seqW, atI, ixN, h3, h]
theorem ix_o {k : Nat} {e : Ent} (xs : List D) (i : Nat) (d : D) (hk : o[k]? = some e) (he : e.ob = .lst xs) (h : xs[i]? = some d) : ixW (.o k) (.v (.int (i : Int))) o = .ok (.v d) o := by
  obtain ⟨h1, h2⟩ := List.getElem?_eq_some_iff.mp h
  have h3 : (i : Int) < xs.length := by omega
  cases e with | mk b m => cases he; simp [ixW, seqW, atI, ixN, h3, h, hk]
theorem ix_s (x : Str) (i : Nat) (c : Nat) (hl : x.length ≤ sizeLine) (h : x.cps.toList[i]? = some c) : ixW (.v (.str x)) (.v (.int (i : Int))) o = .ok (.v (.str ⟨#[c]⟩)) o := by
  obtain ⟨h1, h2⟩ := List.getElem?_eq_some_iff.mp h
  have h3 : (i : Int) < x.cps.toList.length := by omega
  simp only [ixW, atI, ixN, h3, if_true, Int.toNat_natCast, h, hl, Option.bind_some, show (0 : Int) ≤ i by omega]
theorem lst_vs (ds : List D) (h : ds.length ≤ sizeLine) : lstMk false (ds.map W.v) o = .ok (.v (.lst ds)) o := by
  simp [lstMk, pulls_vs, h]
@[simp] theorem lst_0 : lstMk true [] o = .ok (.o o.length) (o ++ [⟨true, .lst []⟩]) := id rfl
@[simp] theorem lst_0f : lstMk false [] o = .ok (.v (.lst [])) o := id rfl
@[simp] theorem lst_1f (a : D) : lstMk false [.v a] o = .ok (.v (.lst [a])) o := id rfl
@[simp] theorem lst_3f (a b c : D) : lstMk false [.v a, .v b, .v c] o = .ok (.v (.lst [a, b, c])) o := id rfl
@[simp] theorem lst_4f (a b c d : D) : lstMk false [.v a, .v b, .v c, .v d] o = .ok (.v (.lst [a, b, c, d])) o := id rfl
@[simp] theorem lst_7f (a b c d e f g : D) : lstMk false [.v a, .v b, .v c, .v d, .v e, .v f, .v g] o = .ok (.v (.lst [a, b, c, d, e, f, g])) o := id rfl
@[simp] theorem lst_3t (a b c : D) : lstMk true [.v a, .v b, .v c] o = .ok (.o o.length) (o ++ [⟨true, .lst [a, b, c]⟩]) := id rfl
@[simp] theorem tup_1 (a : D) : tupW [.v a] o = .ok (.v (.tup [a])) o := id rfl
@[simp] theorem tup_2 (a b : D) : tupW [.v a, .v b] o = .ok (.v (.tup [a, b])) o := id rfl
@[simp] theorem isi_ii (i : Int) : isiW (.v (.int i)) (.v (.ty "int")) o = .ok (.v (.bl true)) o := by
  have : kitB "int" "int" = some true := by decide +kernel
  simp [isiW, tyW, tyD, this]
@[simp] theorem isi_ib (i : Int) : isiW (.v (.int i)) (.v (.ty "bool")) o = .ok (.v (.bl false)) o := by
  have : kitB "int" "bool" = some false := by decide +kernel
  simp [isiW, tyW, tyD, this]
@[simp] theorem isi_ss (i : Str) : isiW (.v (.str i)) (.v (.ty "str")) o = .ok (.v (.bl true)) o := by
  have : kitB "str" "str" = some true := by decide +kernel
  simp [isiW, tyW, tyD, this]
@[simp] theorem isi_tt (i : List D) : isiW (.v (.tup i)) (.v (.ty "tuple")) o = .ok (.v (.bl true)) o := by
  have : kitB "tuple" "tuple" = some true := by decide +kernel
  simp [isiW, tyW, tyD, this]
end
/-! ### calls and returns -/
theorem fin_v {k : Nat} {d : D} {o : Objs} (h : (o.take k).all (fun e => flatO e.ob) = true) : finC k false (.ok (.rt (.v d)) o) = .ok (.v d) (o.take k) := by
  simp only [finC, pull_v, h, if_true]
@[simp] theorem fin_v0 {d : D} {o : Objs} : finC 0 false (.ok (.rt (.v d)) o) = .ok (.v d) [] := id rfl
@[simp] theorem fin_n0 {σ : Sl} {o : Objs} : finC 0 false (.ok (.nx σ) o) = .ok (.v .non) [] := id rfl
@[simp] theorem fin_v1 {d : D} {b : Bool} {xs : List D} {o : Objs} : finC 1 false (.ok (.rt (.v d)) (⟨b, .lst xs⟩ :: o)) = .ok (.v d) [⟨b, .lst xs⟩] := id rfl
theorem fin_o0 {i : Nat} {xs : List D} {b : Bool} {o : Objs} (h : o[i]? = some ⟨b, .lst xs⟩) : finC 0 false (.ok (.rt (.o i)) o) = .ok (.v (.lst xs)) [] := by
  simp only [finC, pull, pullAt, h, List.take_zero, List.all_nil, if_true]
theorem call_p {fi : FI} {ds : List D} {d : D} {o : Objs} (hn : ds.length = fi.n) (hm : fi.mt = false) (h : fi.fm (ds.map W.v) [] = .ok (.v d) []) : callW fi (ds.map W.v) o = .ok (.v d) o := by
  simp only [callW, List.length_map, hn, if_true, hm, pulls_vs, h, backC]
theorem call_p1 {fi : FI} {a : D} {d : D} {o : Objs} (hn : fi.n = 1) (hm : fi.mt = false) (h : fi.fm [.v a] [] = .ok (.v d) []) : callW fi [.v a] o = .ok (.v d) o := call_p (ds := [a]) hn.symm hm h
theorem call_p2 {fi : FI} {a b : D} {d : D} {o : Objs} (hn : fi.n = 2) (hm : fi.mt = false) (h : fi.fm [.v a, .v b] [] = .ok (.v d) []) : callW fi [.v a, .v b] o = .ok (.v d) o := call_p (ds := [a, b]) hn.symm hm h
theorem call_p3 {fi : FI} {a b c : D} {d : D} {o : Objs} (hn : fi.n = 3) (hm : fi.mt = false) (h : fi.fm [.v a, .v b, .v c] [] = .ok (.v d) []) : callW fi [.v a, .v b, .v c] o = .ok (.v d) o := call_p (ds := [a, b, c]) hn.symm hm h
/-- a call that changes the list at k -/
theorem call_m {fi : FI} {k : Nat} {xs ys : List D} {ds : List D} {d : D} {o : Objs} (hn : ds.length + 1 = fi.n) (hm : fi.mt = true) (hk : o[k]? = some ⟨true, .lst xs⟩)
    (h : fi.fm (.o 0 :: ds.map W.v) [⟨true, .lst xs⟩] = .ok (.v d) [⟨true, .lst ys⟩]) : callW fi (.o k :: ds.map W.v) o = .ok (.v d) (o.set k ⟨true, .lst ys⟩) := by
  simp only [callW, List.length_cons, List.length_map, hn, if_true, hm, pulls_vs, hk, flatO, h, backC]
/-- a call that gives a fresh list -/
theorem call_f {fi : FI} {ys : List D} {ds : List D} {o : Objs} (hn : ds.length = fi.n) (hm : fi.mt = false) (h : fi.fm (ds.map W.v) [] = .ok (.o 0) [⟨true, .lst ys⟩]) : callW fi (ds.map W.v) o = .ok (.o o.length) (o ++ [⟨true, .lst ys⟩]) := by
  simp only [callW, List.length_map, hn, if_true, hm, pulls_vs, h, backC, freshL]
/-! ### loops -/
theorem for_inv {f : D → MS} {I : Nat → Sl → Objs → Prop} : ∀ (xs : List D) (j : Nat) {σ : Sl} {o : Objs}, (∀ i d σ o, xs[i]? = some d → I (j + i) σ o → ∃ σ' o', f d σ o = .ok (.nx σ') o' ∧ I (j + i + 1) σ' o') → I j σ o →
    ∃ σ' o', forGo f xs σ o = .ok (.nx σ') o' ∧ I (j + xs.length) σ' o'
  | [], j, σ, o, _, h => ⟨σ, o, rfl, h⟩
  | x :: xs, j, σ, o, hs, h => by
    obtain ⟨σ1, o1, e1, h1⟩ := hs 0 x σ o rfl h
    obtain ⟨σ2, o2, e2, h2⟩ := for_inv (f := f) (I := I) xs (j + 1) (σ := σ1) (o := o1) (fun i d σ o he hi => by
      have := hs (i + 1) d σ o (by simpa using he) (by rw [show j + (i + 1) = j + 1 + i by omega]; exact hi)
      rw [show j + (i + 1) + 1 = j + 1 + i + 1 by omega] at this
      exact this) h1
    refine ⟨σ2, o2, ?_, ?_⟩
    · simp only [forGo, e1, R.bind_ok, e2]
    · rw [List.length_cons, show j + (xs.length + 1) = j + 1 + xs.length by omega]; exact h2
theorem while_inv {c : MB} {b : MS} {I : Nat → Sl → Objs → Prop} {Q : Sl → Objs → Prop}
    (hs : ∀ m σ o, I (m + 1) σ o → ∃ σ' o' o'', c σ o = .ok true o' ∧ b σ o' = .ok (.nx σ') o'' ∧ I m σ' o'') (h0 : ∀ σ o, I 0 σ o → ∃ o', c σ o = .ok false o' ∧ Q σ o') :
    ∀ (m n : Nat) {σ : Sl} {o : Objs}, m < n → I m σ o → ∃ σ' o', whileGo c b n σ o = .ok (.nx σ') o' ∧ Q σ' o'
  | 0, n + 1, σ, o, _, h => by
    obtain ⟨o', e, q⟩ := h0 σ o h
    exact ⟨σ, o', by simp [whileGo, e], q⟩
  | m + 1, n + 1, σ, o, hl, h => by
    obtain ⟨σ', o', o'', e1, e2, h1⟩ := hs m σ o h
    obtain ⟨σ2, o2, e3, q⟩ := while_inv hs h0 m n (σ := σ') (o := o'') (by omega) h1
    exact ⟨σ2, o2, by simp [whileGo, e1, e2, e3], q⟩
  | _, 0, _, _, h, _ => by omega
/-- a comprehension whose turns change nothing -/
theorem lc_map {turn : D → Objs → R (Option W)} {f : D → D} {o : Objs} : ∀ (xs : List D) (acc : List W), acc.length + xs.length ≤ sizeLine → (∀ d ∈ xs, turn d o = .ok (some (.v (f d))) o) → lcGo turn xs acc o = .ok (acc ++ (xs.map f).map W.v) o
  | [], acc, _, _ => by simp
  | x :: xs, acc, hl, h => by
    simp only [List.length_cons] at hl
    have hlt : acc.length < sizeLine := by omega
    simp only [lcGo, h x (by simp), R.bind_ok, hlt, if_true]
    rw [lc_map xs (acc ++ [W.v (f x)]) (by simp; omega) (fun d hd => h d (by simp [hd]))]
    simp
theorem lc_mapL {turn : D → Objs → R (Option W)} {f : D → D} {o : Objs} {mu : Bool} {xs : List D} {α : Type} {g : List W → Objs → R α} (hl : xs.length ≤ sizeLine) (h : ∀ d ∈ xs, turn d o = .ok (some (.v (f d))) o) : (lcGo turn xs [] o).bind g = g ((xs.map f).map W.v) o := by
  rw [lc_map xs [] (by simpa using hl) h]; simp
/-- .. that all are left out -/
theorem lc_none {turn : D → Objs → R (Option W)} {o : Objs} {acc : List W} : ∀ (xs : List D), (∀ d ∈ xs, turn d o = .ok none o) → lcGo turn xs acc o = .ok acc o
  | [], _ => rfl
  | x :: xs, h => by
    simp only [lcGo, h x (by simp), R.bind_ok]
    exact lc_none xs (fun d hd => h d (by simp [hd]))
/-- a comprehension whose turns change the store -/
theorem lc_inv {turn : D → Objs → R (Option W)} {I : Objs → Prop} {P : D → D → Prop} : ∀ (xs : List D) (acc : List W) {o : Objs}, acc.length + xs.length ≤ sizeLine → (∀ d ∈ xs, ∀ o, I o → ∃ r o', turn d o = .ok (some (.v r)) o' ∧ P d r ∧ I o') → I o →
    ∃ (rs : List D) (o' : Objs), lcGo turn xs acc o = .ok (acc ++ rs.map W.v) o' ∧ rs.length = xs.length ∧ (∀ (i : Nat) d r, xs[i]? = some d → rs[i]? = some r → P d r) ∧ I o'
  | [], acc, o, _, _, h => ⟨[], o, by simp, rfl, fun i d r e => by simp at e, h⟩
  | x :: xs, acc, o, hl, hs, h => by
    simp only [List.length_cons] at hl
    have hlt : acc.length < sizeLine := by omega
    obtain ⟨r, o1, e1, p, h1⟩ := hs x (by simp) o h
    obtain ⟨rs, o2, e2, l2, p2, h2⟩ := lc_inv (turn := turn) (I := I) (P := P) xs (acc ++ [W.v r]) (o := o1) (by simp; omega) (fun d hd => hs d (by simp [hd])) h1
    refine ⟨r :: rs, o2, ?_, by simp [l2], ?_, h2⟩
    · simp only [lcGo, e1, R.bind_ok, hlt, if_true, e2]; simp
    · intro i d r' e e'
      cases i with
      | zero => simp at e e'; subst e; subst e'; exact p
      | succ i => exact p2 i d r' (by simpa using e) (by simpa using e')
end RR

set_option maxHeartbeats 4000000
namespace RR
open PySem PySem.Spec PyProof.Rows L2
/-! ### what holds behind a run -/
def Out {α : Type} (r : R α) (Q : α → Objs → Prop) : Prop := match r with | .ok a o => Q a o | _ => False
@[simp] theorem out_ok {α : Type} {a : α} {o : Objs} {Q : α → Objs → Prop} : Out (.ok a o) Q = Q a o := id rfl
@[simp] theorem out_stuck {α : Type} {Q : α → Objs → Prop} : Out .stuck Q = False := id rfl
@[simp] theorem out_bind {α β : Type} {r : R α} {f : α → Objs → R β} {Q : β → Objs → Prop} : Out (r.bind f) Q = Out r (fun a o => Out (f a o) Q) := by cases r <;> rfl
theorem out_mono {α : Type} {r : R α} {P Q : α → Objs → Prop} (h : Out r P) (w : ∀ a o, P a o → Q a o) : Out r Q := by
  cases r with
  | ok a o => exact w a o h
  | exc _ _ => exact h
  | stuck => exact h
theorem out_eq {α : Type} {r : R α} {a : α} {o : Objs} (h : Out r fun b o' => b = a ∧ o' = o) : r = .ok a o := by
  cases r with
  | ok b o' => obtain ⟨rfl, rfl⟩ := h; rfl
  | exc _ _ => exact h.elim
  | stuck => exact h.elim
theorem out_inv {α : Type} {r : R α} {Q : α → Objs → Prop} (h : Out r Q) : ∃ a o, r = .ok a o ∧ Q a o := by
  cases r with
  | ok b o' => exact ⟨b, o', rfl, h⟩
  | exc _ _ => exact h.elim
  | stuck => exact h.elim
theorem out_of {α : Type} {r : R α} {a : α} {o : Objs} {Q : α → Objs → Prop} (e : r = .ok a o) (h : Q a o) : Out r Q := by rw [e]; exact h
theorem out_for {f : D → MS} {xs : List D} {σ : Sl} {o : Objs} {Q : Fl → Objs → Prop} (I : Nat → Sl → Objs → Prop) (h0 : I 0 σ o)
    (hs : ∀ i d σ o, xs[i]? = some d → I i σ o → Out (f d σ o) fun fl o' => ∃ σ', (fl = .nx σ' ∨ fl = .ct σ') ∧ I (i + 1) σ' o') (hq : ∀ σ o, I xs.length σ o → Q (.nx σ) o) : Out (forGo f xs σ o) Q := by
  have key : ∀ (ys : List D) (j : Nat) (σ : Sl) (o : Objs), (∀ i d, ys[i]? = some d → xs[j + i]? = some d) → j + ys.length = xs.length → I j σ o → Out (forGo f ys σ o) Q := by
    intro ys
    induction ys with
    | nil => intro j σ o _ hl hi; exact hq σ o (by simpa [← hl] using hi)
    | cons y ys ih =>
      intro j σ o hy hl hi
      obtain ⟨fl, o1, e1, σ1, c1, i1⟩ := out_inv (hs j y σ o (by simpa using hy 0 y rfl) hi)
      have := ih (j + 1) σ1 o1 (fun i d e => by have := hy (i + 1) d (by simpa using e); rw [show j + 1 + i = j + (i + 1) by omega]; exact this) (by simp at hl; omega) i1
      rcases c1 with rfl | rfl <;> simpa [forGo, e1] using this
  exact key xs 0 σ o (fun i d e => by simpa using e) (by simp) h0
theorem out_while {c : MB} {b : MS} {n : Nat} {σ : Sl} {o : Objs} {Q : Fl → Objs → Prop} (m : Nat) (I : Nat → Sl → Objs → Prop) (hn : m < n) (h0 : I m σ o)
    (hs : ∀ m σ o, I (m + 1) σ o → Out (c σ o) fun k o => k = true ∧ Out (b σ o) fun fl o => ∃ σ', (fl = .nx σ' ∨ fl = .ct σ') ∧ I m σ' o) (hz : ∀ σ o, I 0 σ o → Out (c σ o) fun k o => k = false ∧ Q (.nx σ) o) : Out (whileGo c b n σ o) Q := by
  induction m generalizing n σ o with
  | zero =>
    cases n with
    | zero => omega
    | succ n =>
      obtain ⟨k, o1, e1, rfl, q⟩ := out_inv (hz σ o h0)
      simpa [whileGo, e1] using q
  | succ m ih =>
    cases n with
    | zero => omega
    | succ n =>
      obtain ⟨k, o1, e1, rfl, q⟩ := out_inv (hs m σ o h0)
      obtain ⟨fl, o2, e2, σ2, c2, i2⟩ := out_inv q
      have := ih (n := n) (by omega) i2
      rcases c2 with rfl | rfl <;> simpa [whileGo, e1, e2] using this
/-- turns that change nothing -/
theorem out_lc {α : Type} {turn : D → Objs → R (Option W)} {o : Objs} {Q : List W → Objs → Prop} {g : α → D} {l : List α} (f : α → D) (hl : l.length ≤ sizeLine)
    (h : ∀ a ∈ l, Out (turn (g a) o) fun r o' => r = some (.v (f a)) ∧ o' = o) (q : Q ((l.map f).map W.v) o) : Out (lcGo turn (l.map g) [] o) Q := by
  have key : ∀ (l : List α) (acc : List W), acc.length + l.length ≤ sizeLine → (∀ a ∈ l, Out (turn (g a) o) fun r o' => r = some (.v (f a)) ∧ o' = o) → lcGo turn (l.map g) acc o = .ok (acc ++ (l.map f).map W.v) o := by
    intro l
    induction l with
    | nil => intro acc _ _; simp
    | cons a l ih =>
      intro acc hl h
      simp only [List.length_cons] at hl
      have hlt : acc.length < sizeLine := by omega
      have e := out_eq (h a (by simp))
      simp only [List.map_cons, lcGo, e, R.bind_ok, hlt, if_true]
      rw [ih (acc ++ [W.v (f a)]) (by simp; omega) (fun d hd => h d (by simp [hd]))]
      simp
  rw [key l [] (by simpa using hl) h]
  simpa using q
theorem out_lcN {α : Type} {turn : D → Objs → R (Option W)} {o : Objs} {Q : List W → Objs → Prop} {g : α → D} {l : List α} (h : ∀ a ∈ l, Out (turn (g a) o) fun r o' => r = none ∧ o' = o) (q : Q [] o) : Out (lcGo turn (l.map g) [] o) Q := by
  rw [lc_none (l.map g) (fun d hd => by obtain ⟨a, ha, rfl⟩ := List.mem_map.mp hd; exact out_eq (h a ha))]
  exact q
/-- turns that change the store -/
theorem out_lcI {turn : D → Objs → R (Option W)} {o : Objs} {Q : List W → Objs → Prop} {xs : List D} (I : Objs → Prop) (P : D → Prop) (hl : xs.length ≤ sizeLine) (h0 : I o)
    (h : ∀ d ∈ xs, ∀ o, I o → Out (turn d o) fun r o' => ∃ e, r = some (.v e) ∧ P e ∧ I o') (q : ∀ (rs : List D) (o' : Objs), rs.length = xs.length → (∀ r ∈ rs, P r) → I o' → Q (rs.map W.v) o') : Out (lcGo turn xs [] o) Q := by
  obtain ⟨rs, o', e, l, p, i⟩ := lc_inv (turn := turn) (I := I) (P := fun _ r => P r) xs [] (o := o) (by simpa using hl) (fun d hd o hi => by
    obtain ⟨r, o', e, x, rfl, p, i⟩ := out_inv (h d hd o hi)
    exact ⟨x, o', e, p, i⟩) h0
  rw [e]
  refine q rs o' l (fun r hr => ?_) i
  obtain ⟨i, hi, rfl⟩ := List.mem_iff_getElem.mp hr
  exact p i (xs[i]'(by omega)) _ (List.getElem?_eq_getElem _) (List.getElem?_eq_getElem _)
/-! ### defs -/
theorem run_p {n : Nat} {m : MS} {ws : List W} {d : D} (h : Out (m (startD n ws) []) fun fl _ => fl = .rt (.v d)) : runFn n false m ws [] = .ok (.v d) [] := by
  obtain ⟨fl, o, e, rfl⟩ := out_inv h
  simp only [runFn, e]; rfl
theorem run_pn {n : Nat} {m : MS} {ws : List W} (h : Out (m (startD n ws) []) fun fl _ => ∃ σ, fl = .nx σ) : runFn n false m ws [] = .ok (.v .non) [] := by
  obtain ⟨fl, o, e, σ, rfl⟩ := out_inv h
  simp only [runFn, e]; rfl
theorem run_po {n : Nat} {m : MS} {ws : List W} {xs : List D} (h : Out (m (startD n ws) []) fun fl o => ∃ i b, fl = .rt (.o i) ∧ o[i]? = some ⟨b, .lst xs⟩) : runFn n false m ws [] = .ok (.v (.lst xs)) [] := by
  obtain ⟨fl, o, e, i, b, rfl, ho⟩ := out_inv h
  simp only [runFn, e]
  exact fin_o0 ho
/-- the barrel -/
def br (f s c : Int) : Ent := ⟨true, .lst [.int f, .int s, .int c]⟩
/-- a def that draws -/
def Draws (fi : FI) (ds : List D) (P : D → Prop) : Prop := ∀ f s c : Int, ∃ (d : D) (f' s' c' : Int), fi.fm (.o 0 :: ds.map W.v) [br f s c] = .ok (.v d) [br f' s' c'] ∧ P d
theorem run_m {n : Nat} {m : MS} {ds : List D} {P : D → Prop} {f s c : Int} (h : Out (m (startD n (.o 0 :: ds.map W.v)) [br f s c]) fun fl o => ∃ d f' s' c' r, fl = .rt (.v d) ∧ o = br f' s' c' :: r ∧ P d) :
    ∃ (d : D) (f' s' c' : Int), runFn n false m (.o 0 :: ds.map W.v) [br f s c] = .ok (.v d) [br f' s' c'] ∧ P d := by
  obtain ⟨fl, o, e, d, f', s', c', r, rfl, rfl, p⟩ := out_inv h
  exact ⟨d, f', s', c', by simp only [runFn, e]; rfl, p⟩
theorem out_draw {fi : FI} {ds : List D} {P : D → Prop} {f s c : Int} {k : Nat} {o : Objs} {Q : W → Objs → Prop} (hd : Draws fi ds P) (hn : ds.length + 1 = fi.n) (hm : fi.mt = true) (hk : o[k]? = some (br f s c))
    (q : ∀ d f' s' c', P d → Q (.v d) (o.set k (br f' s' c'))) : Out (callW fi (.o k :: ds.map W.v) o) Q := by
  obtain ⟨d, f', s', c', e, p⟩ := hd f s c
  rw [call_m hn hm hk e]
  exact q d f' s' c' p
theorem out_draw0 {fi : FI} {P : D → Prop} {f s c : Int} {r : Objs} {Q : W → Objs → Prop} (hd : Draws fi [] P) (hn : fi.n = 1) (hm : fi.mt = true) (q : ∀ d f' s' c', P d → Q (.v d) (br f' s' c' :: r)) : Out (callW fi [.o 0] (br f s c :: r)) Q :=
  out_draw (ds := []) hd hn.symm hm rfl q
theorem out_draw1 {fi : FI} {a : D} {P : D → Prop} {f s c : Int} {r : Objs} {Q : W → Objs → Prop} (hd : Draws fi [a] P) (hn : fi.n = 2) (hm : fi.mt = true) (q : ∀ d f' s' c', P d → Q (.v d) (br f' s' c' :: r)) : Out (callW fi [.o 0, .v a] (br f s c :: r)) Q :=
  out_draw (ds := [a]) hd hn.symm hm rfl q
/-! calls of defs by their runs -/
section
variable {fi : FI} {n : Nat} {m : MS} {a b c d : D} {o : Objs} {xs : List D}
theorem cp1 (hf : fi.fm = runFn n false m) (hn : fi.n = 1) (hm : fi.mt = false) (h : Out (m (startD n [.v a]) []) fun fl _ => fl = .rt (.v d)) : callW fi [.v a] o = .ok (.v d) o := call_p1 hn hm (by rw [hf]; exact run_p h)
theorem cp2 (hf : fi.fm = runFn n false m) (hn : fi.n = 2) (hm : fi.mt = false) (h : Out (m (startD n [.v a, .v b]) []) fun fl _ => fl = .rt (.v d)) : callW fi [.v a, .v b] o = .ok (.v d) o := call_p2 hn hm (by rw [hf]; exact run_p h)
theorem cp3 (hf : fi.fm = runFn n false m) (hn : fi.n = 3) (hm : fi.mt = false) (h : Out (m (startD n [.v a, .v b, .v c]) []) fun fl _ => fl = .rt (.v d)) : callW fi [.v a, .v b, .v c] o = .ok (.v d) o := call_p3 hn hm (by rw [hf]; exact run_p h)
theorem cpn1 (hf : fi.fm = runFn n false m) (hn : fi.n = 1) (hm : fi.mt = false) (h : Out (m (startD n [.v a]) []) fun fl _ => ∃ σ, fl = .nx σ) : callW fi [.v a] o = .ok (.v .non) o := call_p1 hn hm (by rw [hf]; exact run_pn h)
theorem cpn2 (hf : fi.fm = runFn n false m) (hn : fi.n = 2) (hm : fi.mt = false) (h : Out (m (startD n [.v a, .v b]) []) fun fl _ => ∃ σ, fl = .nx σ) : callW fi [.v a, .v b] o = .ok (.v .non) o := call_p2 hn hm (by rw [hf]; exact run_pn h)
theorem cpo1 (hf : fi.fm = runFn n false m) (hn : fi.n = 1) (hm : fi.mt = false) (h : Out (m (startD n [.v a]) []) fun fl o => ∃ i b, fl = .rt (.o i) ∧ o[i]? = some ⟨b, .lst xs⟩) : callW fi [.v a] o = .ok (.v (.lst xs)) o := call_p1 hn hm (by rw [hf]; exact run_po h)
theorem cpo2 (hf : fi.fm = runFn n false m) (hn : fi.n = 2) (hm : fi.mt = false) (h : Out (m (startD n [.v a, .v b]) []) fun fl o => ∃ i b, fl = .rt (.o i) ∧ o[i]? = some ⟨b, .lst xs⟩) : callW fi [.v a, .v b] o = .ok (.v (.lst xs)) o := call_p2 hn hm (by rw [hf]; exact run_po h)
/-- a def that draws, by its run -/
def Drawn (P : D → Prop) (fl : Fl) (o : Objs) : Prop := ∃ d f' s' c' r, fl = .rt (.v d) ∧ o = br f' s' c' :: r ∧ P d
theorem Drawn.mk {P : D → Prop} {f s c : Int} {r : Objs} (h : P d) : Drawn P (.rt (.v d)) (br f s c :: r) := ⟨_, _, _, _, _, rfl, rfl, h⟩
theorem dr {ds : List D} {P : D → Prop} (hf : fi.fm = runFn n false m) (h : ∀ f s c, Out (m (startD n (.o 0 :: ds.map W.v)) [br f s c]) (Drawn P)) : Draws fi ds P := fun f s c => by
  rw [hf]; exact run_m (h f s c)
end
/-! ### equal data -/
theorem eq_t (xs : List D) {o : Objs} (h : SeqAt.shaped (py (.tup xs)) = true) : eqW (.v (.tup xs)) (.v (.tup xs)) o = .ok (.v (.bl true)) o := by
  simp [eqW, eqv2, pyW, h, SeqAt.eqv_refl _ (SeqAt.canLay_of_shaped h)]
theorem ne_t (xs : List D) {o : Objs} (h : SeqAt.shaped (py (.tup xs)) = true) : neW (.v (.tup xs)) (.v (.tup xs)) o = .ok (.v (.bl false)) o := by
  simp [neW, eqv2, pyW, h, SeqAt.eqv_refl _ (SeqAt.canLay_of_shaped h)]
theorem eq_l (xs : List D) {o : Objs} (h : SeqAt.shaped (py (.lst xs)) = true) : eqW (.v (.lst xs)) (.v (.lst xs)) o = .ok (.v (.bl true)) o := by
  simp [eqW, eqv2, pyW, h, SeqAt.eqv_refl _ (SeqAt.canLay_of_shaped h)]
theorem ne_l (xs : List D) {o : Objs} (h : SeqAt.shaped (py (.lst xs)) = true) : neW (.v (.lst xs)) (.v (.lst xs)) o = .ok (.v (.bl false)) o := by
  simp [neW, eqv2, pyW, h, SeqAt.eqv_refl _ (SeqAt.canLay_of_shaped h)]
theorem pys_ints (is : List Int) : PyData.canLayAll0 (pys (is.map D.int)) = true ∧ PyData.depthAll (pys (is.map D.int)) = 0 := by
  induction is with
  | nil => exact ⟨rfl, rfl⟩
  | cons i is ih => simp [pys, py, PyData.canLayAll0, PyData.canLay0, PyData.depthAll, PyData.depth, ih]
theorem sh_ti (is : List Int) : SeqAt.shaped (py (.tup (is.map D.int))) = true := by
  simp [SeqAt.shaped, py, PyData.canLay0, PyData.depth, pys_ints]
theorem sh_li (is : List Int) : SeqAt.shaped (py (.lst (is.map D.int))) = true := by
  simp [SeqAt.shaped, py, PyData.canLay0, PyData.depth, pys_ints]
end RR

set_option maxHeartbeats 4000000
namespace RR
open PySem PySem.Spec PyProof.Rows L2
/-! ### rows of signs, numbers, plainly -/
def nb : List Nat → Nat
  | [] => 0
  | d :: ds => d + 2 * nb ds
/-- a row of the signs a, b, .. -/
def rowS (ds : List Nat) : Str := ⟨(ds.map (97 + ·)).toArray⟩
def val (t : Nat) (ds : List Nat) : Nat := nb (ds.map fun d => d / 2 ^ t % 2)
def vals (n : Nat) (ds : List Nat) : List Nat := (List.range n).map fun t => val t ds
def dg (vs : List Nat) : Nat := nb (vs.map (· % 2))
def short : Nat → List Nat → List Nat
  | 0, _ => []
  | k + 1, vs => if vs.all (· == 0) then [] else dg vs :: short k (vs.map (· / 2))
def cutz : List Nat → List Nat
  | [] => []
  | d :: ds => if d = 0 ∧ cutz ds = [] then [] else d :: cutz ds
@[simp] theorem rowS_len (ds : List Nat) : (rowS ds).length = ds.length := by simp [rowS, Str.length]
@[simp] theorem rowS_app (a b : List Nat) : rowS a ++ rowS b = rowS (a ++ b) := by
  show Str.append _ _ = _
  simp [rowS, Str.append]
theorem rowS_nil : rowS [] = ("" : Str) := by decide +kernel
theorem rowS_inj {a b : List Nat} (h : rowS a = rowS b) : a = b := by
  simp only [rowS, Str.mk.injEq] at h
  have := congrArg Array.toList h
  simp only at this
  exact (List.map_inj_right (fun x y h => by omega)).mp this
@[simp] theorem rowS_list (ds : List Nat) : (rowS ds).cps.toList = ds.map (97 + ·) := by simp [rowS]
theorem rowS_a (n : Nat) : repS ("a" : Str) n = rowS (List.replicate n 0) := by
  have : ("a" : Str).cps.toList = [97] := by decide +kernel
  simp only [repS, this, rowS, Str.mk.injEq]
  congr 1
  induction n with
  | zero => rfl
  | succ n ih => simp only [List.replicate_succ, List.flatten_cons, ih]; simp
theorem val_nil (t : Nat) : val t [] = 0 := rfl
theorem val_cons (t d : Nat) (ds : List Nat) : val t (d :: ds) = d / 2 ^ t % 2 + 2 * val t ds := rfl
theorem val_zeros (t n : Nat) (ds : List Nat) : val t (ds ++ List.replicate n 0) = val t ds := by
  induction ds with
  | nil =>
    induction n with
    | zero => rfl
    | succ n ih => simp only [List.nil_append, List.replicate_succ, val_cons, val_nil] at ih ⊢; simp [ih]
  | cons d ds ih => simp only [List.cons_append, val_cons, ih]
theorem val_lt (t : Nat) (ds : List Nat) : val t ds < 2 ^ ds.length := by
  induction ds with
  | nil => simp [val_nil]
  | cons d ds ih =>
    simp only [val_cons, List.length_cons, Nat.pow_succ]
    have : d / 2 ^ t % 2 < 2 := Nat.mod_lt _ (by decide)
    omega
theorem val_cutz (t : Nat) (ds : List Nat) : val t (cutz ds) = val t ds := by
  induction ds with
  | nil => rfl
  | cons d ds ih =>
    simp only [cutz]
    split
    · rename_i h
      rw [h.2] at ih
      simp only [val_nil] at ih
      simp [val_cons, val_nil, ← ih, h.1]
    · simp only [val_cons, ih]
theorem cutz_len (ds : List Nat) : (cutz ds).length ≤ ds.length := by
  induction ds with
  | nil => simp [cutz]
  | cons d ds ih => simp only [cutz]; split <;> simp <;> omega
theorem cutz_mem {ds : List Nat} {d : Nat} (h : d ∈ cutz ds) : d ∈ ds := by
  induction ds with
  | nil => simp [cutz] at h
  | cons e ds ih =>
    simp only [cutz] at h
    split at h
    · simp at h
    · simp at h ⊢; rcases h with rfl | h
      · exact .inl rfl
      · exact .inr (ih h)
theorem bits_small {n d : Nat} (hn : n ≤ 3) (hd : d < 2 ^ n) : nb ((List.range n).map fun t => d / 2 ^ t % 2) = d := by
  match n, hn with
  | 0, _ => simp at hd; subst hd; rfl
  | 1, _ => simp [List.range_succ, nb] at hd ⊢; omega
  | 2, _ => simp [List.range_succ, nb] at hd ⊢; omega
  | 3, _ => simp [List.range_succ, nb] at hd ⊢; omega
theorem cutz_nil {ds : List Nat} (h : ∀ d ∈ ds, d = 0) : cutz ds = [] := by
  induction ds with
  | nil => rfl
  | cons d ds ih => simp only [cutz]; rw [if_pos ⟨h d (by simp), ih fun e he => h e (by simp [he])⟩]
theorem nb_zero (l : List Nat) : nb (l.map fun _ => 0) = 0 := by
  induction l with
  | nil => rfl
  | cons a l ih => simp [nb, ih]
theorem vals_zero {n : Nat} (hn : n ≤ 3) : ∀ {ds : List Nat}, (∀ d ∈ ds, d < 2 ^ n) → ((vals n ds).all (· == 0) = true ↔ cutz ds = [])
  | [], _ => by simp [cutz, vals, val_nil]
  | d :: ds, h => by
    have ih := vals_zero hn (ds := ds) (fun e he => h e (by simp [he]))
    have hd := h d (by simp)
    have hb := bits_small hn hd
    constructor
    · intro z
      have z' : ∀ t < n, val t (d :: ds) = 0 := by simpa [vals] using z
      have h1 : cutz ds = [] := ih.mp (by simp only [vals, List.all_map, List.all_eq_true, List.mem_range]; intro t ht; have := z' t ht; rw [val_cons] at this; simp; omega)
      have h2 : d = 0 := by
        rw [← hb]
        have : (List.range n).map (fun t => d / 2 ^ t % 2) = (List.range n).map (fun _ => 0) := List.map_congr_left fun t ht => by
          have := z' t (by simpa using ht); rw [val_cons] at this; omega
        rw [this, nb_zero]
      simp only [cutz, h1, h2, and_self, if_true]
    · intro z
      simp only [cutz] at z
      split at z
      · rename_i q
        have := ih.mpr q.2
        simp only [vals, List.all_map, List.all_eq_true, List.mem_range] at this ⊢
        intro t ht
        have := this t ht
        simp [val_cons, q.1] at this ⊢
        omega
      · simp at z
theorem vals_len (n : Nat) (ds : List Nat) : (vals n ds).length = n := by simp [vals]
theorem short_vals {n : Nat} (hn : n ≤ 3) : ∀ (k : Nat) {ds : List Nat}, (∀ d ∈ ds, d < 2 ^ n) → ds.length ≤ k → short k (vals n ds) = cutz ds
  | 0, [], _, _ => rfl
  | k + 1, [], h, _ => by
    simp only [short]; rw [if_pos ((vals_zero hn h).mpr rfl)]; rfl
  | k + 1, d :: ds, h, hl => by
    have h' : ∀ e ∈ ds, e < 2 ^ n := fun e he => h e (by simp [he])
    have ih := short_vals hn k h' (by simpa using hl)
    simp only [short]
    by_cases z : cutz (d :: ds) = []
    · rw [if_pos ((vals_zero hn h).mpr z), z]
    · rw [if_neg (fun q => z ((vals_zero hn h).mp q))]
      have e1 : dg (vals n (d :: ds)) = d := by
        rw [dg]
        conv => rhs; rw [← bits_small hn (h d (by simp))]
        congr 1
        simp only [vals, List.map_map]
        refine List.map_congr_left fun t _ => ?_
        simp only [Function.comp, val_cons]; omega
      have e2 : (vals n (d :: ds)).map (· / 2) = vals n ds := by
        simp only [vals, List.map_map]
        refine List.map_congr_left fun t _ => ?_
        simp only [Function.comp, val_cons]; omega
      rw [e1, e2, ih]
      simp only [cutz] at z ⊢
      split
      · rename_i q; simp [q] at z
      · rfl
theorem dg_lt : ∀ {vs : List Nat}, dg vs < 2 ^ vs.length
  | [] => by simp [dg, nb]
  | v :: vs => by
    have := dg_lt (vs := vs)
    simp only [dg, List.map_cons, nb, List.length_cons, Nat.pow_succ] at this ⊢
    omega
theorem dg_bit : ∀ {vs : List Nat} {t v : Nat}, vs[t]? = some v → dg vs / 2 ^ t % 2 = v % 2
  | [], _, _, h => by simp at h
  | a :: vs, 0, v, h => by simp at h; subst h; simp only [dg, List.map_cons, nb]; omega
  | a :: vs, t + 1, v, h => by
    have := dg_bit (vs := vs) (t := t) (v := v) (by simpa using h)
    simp only [dg, List.map_cons, nb] at this ⊢
    rw [Nat.pow_succ, Nat.mul_comm (2 ^ t) 2, ← Nat.div_div_eq_div_mul, show (a % 2 + 2 * nb (vs.map (· % 2))) / 2 = nb (vs.map (· % 2)) by omega, this]
theorem short_val : ∀ (k : Nat) {vs : List Nat} {t v : Nat}, (∀ v ∈ vs, v < 2 ^ k) → vs[t]? = some v → val t (short k vs) = v
  | 0, vs, t, v, h, e => by
    have := h v (List.mem_of_getElem? e)
    simp at this; subst this; rfl
  | k + 1, vs, t, v, h, e => by
    simp only [short]
    split
    · rename_i z
      simp only [List.all_eq_true] at z
      have := z v (List.mem_of_getElem? e)
      simp at this; subst this; rfl
    · rw [val_cons, dg_bit e, short_val k (vs := vs.map (· / 2)) (v := v / 2) (fun w hw => by
        obtain ⟨u, hu, rfl⟩ := List.mem_map.mp hw
        have := h u hu
        rw [Nat.pow_succ] at this; show u / 2 < 2 ^ k; omega) (by simp [e])]
      omega
theorem short_vals' {k : Nat} {vs : List Nat} (h : ∀ v ∈ vs, v < 2 ^ k) : vals vs.length (short k vs) = vs := by
  refine List.ext_getElem (by simp [vals]) fun t h1 h2 => ?_
  simp only [vals, List.getElem_map, List.getElem_range]
  exact short_val k h (List.getElem?_eq_getElem h2)
theorem short_lt : ∀ (k : Nat) {vs : List Nat}, ∀ d ∈ short k vs, d < 2 ^ vs.length
  | 0, vs, d, h => by simp [short] at h
  | k + 1, vs, d, h => by
    simp only [short] at h
    split at h
    · simp at h
    · simp only [List.mem_cons] at h
      rcases h with rfl | h
      · exact dg_lt
      · simpa using short_lt k d h
theorem short_len : ∀ (k : Nat) {vs : List Nat}, (short k vs).length ≤ k
  | 0, vs => by simp [short]
  | k + 1, vs => by
    simp only [short]
    split
    · simp
    · have := short_len k (vs := vs.map (· / 2)); simp; omega
theorem short_zero {k : Nat} {vs : List Nat} (h : ∀ v ∈ vs, v = 0) : short k vs = [] := by
  cases k with
  | zero => rfl
  | succ k => simp only [short]; rw [if_pos (by simpa using h)]
theorem short_nil : ∀ {k : Nat} {vs : List Nat}, (∀ v ∈ vs, v < 2 ^ k) → short k vs = [] → ∀ v ∈ vs, v = 0
  | 0, vs, h, _, v, hv => by simpa using h v hv
  | k + 1, vs, h, z, v, hv => by
    simp only [short] at z
    split at z
    · rename_i q; simpa using List.all_eq_true.mp q v hv
    · simp at z
theorem short_big {k j : Nat} {vs : List Nat} (h : ∀ v ∈ vs, v < 2 ^ k) (hj : k ≤ j) : short j vs = short k vs := by
  induction k generalizing j vs with
  | zero => rw [short_zero (k := j) (fun v hv => by simpa using h v hv)]; rfl
  | succ k ih =>
    obtain ⟨i, rfl⟩ : ∃ i, j = i + 1 := ⟨j - 1, by omega⟩
    simp only [short]
    split
    · rfl
    · rw [ih (fun w hw => by
        obtain ⟨u, hu, rfl⟩ := List.mem_map.mp hw
        have := h u hu
        rw [Nat.pow_succ] at this; show u / 2 < 2 ^ k; omega) (by omega)]
theorem short_last : ∀ {k : Nat} {vs : List Nat}, (∀ v ∈ vs, v < 2 ^ k) → (short k vs).getLast? ≠ some 0
  | 0, vs, h => by simp [short]
  | k + 1, vs, h => by
    simp only [short]
    split
    · simp
    · rename_i q
      have hb : ∀ w ∈ vs.map (· / 2), w < 2 ^ k := fun w hw => by
        obtain ⟨u, hu, rfl⟩ := List.mem_map.mp hw
        have := h u hu
        rw [Nat.pow_succ] at this; show u / 2 < 2 ^ k; omega
      have ih := short_last hb
      by_cases z : short k (vs.map (· / 2)) = []
      · rw [z]
        simp only [List.getLast?_singleton, ne_eq, Option.some.injEq]
        intro hd
        refine q (List.all_eq_true.mpr fun v hv => ?_)
        have h0 := short_nil hb z (v / 2) (List.mem_map.mpr ⟨v, hv, rfl⟩)
        obtain ⟨t, ht, rfl⟩ := List.mem_iff_getElem.mp hv
        have := dg_bit (vs := vs) (List.getElem?_eq_getElem ht)
        rw [hd] at this
        simp at this
        simp; omega
      · rw [List.getLast?_cons]
        cases hs : (short k (vs.map (· / 2))).getLast? with
        | none => simp [List.getLast?_eq_none_iff] at hs; exact absurd (by simpa using hs) z
        | some x => rw [hs] at ih; simpa using ih
theorem cutz_app (L : List Nat) : ∃ m, L = cutz L ++ List.replicate m 0 := by
  induction L with
  | nil => exact ⟨0, rfl⟩
  | cons d L ih =>
    obtain ⟨m, e⟩ := ih
    simp only [cutz]
    split
    · rename_i h
      refine ⟨m + 1, ?_⟩
      rw [h.2] at e
      rw [h.1, List.replicate_succ, ← List.nil_append (List.replicate m 0), ← e]; rfl
    · exact ⟨m, by rw [List.cons_append, ← e]⟩
theorem cutz_last (L : List Nat) : (cutz L).getLast? ≠ some 0 := by
  induction L with
  | nil => simp [cutz]
  | cons d L ih =>
    simp only [cutz]
    split
    · simp
    · rename_i h
      rw [List.getLast?_cons]
      cases hs : (cutz L).getLast? with
      | none =>
        rw [List.getLast?_eq_none_iff] at hs
        simp only [hs, and_true] at h
        simpa using h
      | some x => rw [hs] at ih; simpa using ih
theorem takeWhile_rep {p : Nat → Bool} {a : Nat} (hp : p a = true) : ∀ (m : Nat) {l : List Nat}, (∀ x, l.head? = some x → p x = false) → ((List.replicate m a ++ l).takeWhile p).length = m
  | 0, [], _ => rfl
  | 0, x :: l, h => by simp [h x rfl]
  | m + 1, l, h => by simp only [List.replicate_succ, List.cons_append, List.takeWhile_cons, hp, if_true, List.length_cons, takeWhile_rep hp m h]
theorem rstrip_a (L : List Nat) : Txt.rstripChars (rowS L) ("a" : Str) = rowS (cutz L) := by
  obtain ⟨m, e⟩ := cutz_app L
  have hl := cutz_last L
  generalize cutz L = S at e hl
  subst e
  have ha : ("a" : Str).cps = #[97] := by decide +kernel
  unfold Txt.rstripChars
  rw [PyProof.Rows.stripBy_eq]
  have h0 : PySem.stripLo ("a" : Str).cps.contains false (rowS (S ++ List.replicate m 0)) = 0 := rfl
  rw [h0]
  have hT : (((rowS (S ++ List.replicate m 0)).cps.toList.drop 0).reverse.takeWhile ("a" : Str).cps.contains).length = m := by
    simp only [List.drop_zero, rowS_list, List.map_append, List.map_replicate, List.reverse_append, List.reverse_replicate]
    refine takeWhile_rep (by rw [ha]; simp) m fun x hx => ?_
    rw [List.head?_reverse, List.getLast?_map] at hx
    cases hS : S.getLast? with
    | none => rw [hS] at hx; simp at hx
    | some y =>
      rw [hS] at hx hl
      simp at hx hl
      rw [ha]
      simp
      omega
  have h1 : PySem.stripHi ("a" : Str).cps.contains true (rowS (S ++ List.replicate m 0)) 0 = S.length := by
    simp only [PySem.stripHi, if_true, hT]
    simp
  rw [h1]
  simp only [Builtin.Str.strSub, rowS, Str.mk.injEq]
  simp
end RR

set_option maxHeartbeats 4000000
namespace Lk62
open PySem PySem.Spec PyProof.Rows L2 RR
/-! ### the text -/
def topS (i : Nat) : Stmt := PySem.Challenge.pw_rowreaders_k62_numbers_and_their_rows.main.body.getD i (.Pass ⟨0, 0, 0, 0⟩)
def cs : List (Str × D) := [("MOST_ROW", (.int 200)), ("ALPHABET", (.str "abcdefgh")), ("GREATEST", (.int 9999999999999999999999999999999999999999)), ("MOST_TRACKS", (.int 3))]
/-! ### _law_brook -/
abbrev s__law_brook : Stmt := topS 24
def N__law_brook : List Str := ["_law_script", "_law_spot", "_law_own", "_law_mixed", "_law_each"]
def m__law_brook : MS :=
  (mThen (mAsg (mIf (mAsB (mBin ltW (mVar 1) (mCall (on1 lenW) (mCons (mVar 0) mNil)))) (mBin ixW (mVar 0) (mVar 1)) (mBin addW (mBin mulW (mConst (.int 59)) (mVar 1)) (mConst (.int 23)))) (gNm 2))
  (mThen (mAsg (mBin addW (mConst (.int 700001)) (mBin mulW (mConst (.int 5081)) (mVar 1))) (gNm 3))
  (mThen (mFor (mSeq (mBin addW (mSl false (mVar 0) none (some (mConst (.int 6)))) (mLst false (mCons (mVar 2) mNil)))) (mTg (.one 4))
  (mThen (mAsg (mBin modW (mCall (on1 intW) (mCons (mBin addW (mBin addW (mBin mulW (mVar 3) (mConst (.int 39119))) (mBin modW (mCall (on1 intW) (mCons (mVar 4) mNil)) (mConst (.int 1000159)))) (mBin mulW (mConst (.int 13)) (mVar 1))) mNil)) (mConst (.int 2147483269))) (gNm 3))
  mSkip))
  (mThen (mRet (mLst true (mCons (mIf (mOr (mAsB (mBin ltW (mVar 2) (mConst (.int 0)))) (mAsB (mBin geW (mVar 2) (mBin powW (mConst (.int 10)) (mConst (.int 17)))))) (mCall (on1 absW) (mCons (mVar 2) mNil)) (mConst (.int 0))) (mCons (mVar 3) (mCons (mConst (.int 0)) mNil)))))
  mSkip))))
def fi__law_brook : FI := ⟨2, false, runFn 5 true m__law_brook, []⟩
def fs__law_brook : List (Str × FI) := []
def mu__law_brook : List (Nat × Nat) := [(80, 11)]
theorem sc__law_brook : FnScope N__law_brook ["_law_script", "_law_spot"] (defScope s__law_brook) := ⟨rfl, rfl, rfl, by decide +kernel, rfl, by decide +kernel, by decide +kernel⟩
theorem c__law_brook : cSs 60 60 (ccOf N__law_brook (defScope s__law_brook) mu__law_brook fs__law_brook cs) (defBody s__law_brook) = some m__law_brook := by kernel_rfl
/-! ### number_by -/
abbrev s_number_by : Stmt := topS 16
def N_number_by : List Str := ["figures", "found", "figure"]
def m_number_by : MS :=
  (mThen (mAsg (mConst (.int 0)) (gNm 1))
  (mThen (mFor (mSeq (mUn revW (mVar 0))) (mTg (.one 2))
  (mThen (mAsg (mBin addW (mBin mulW (mConst (.int 2)) (mVar 1)) (mVar 2)) (gNm 1))
  mSkip))
  (mThen (mRet (mVar 1))
  mSkip)))
def fi_number_by : FI := ⟨1, false, runFn 3 false m_number_by, []⟩
def fs_number_by : List (Str × FI) := [("_law_brook", fi__law_brook)]
def mu_number_by : List (Nat × Nat) := []
theorem sc_number_by : FnScope N_number_by ["figures"] (defScope s_number_by) := ⟨rfl, rfl, rfl, by decide +kernel, rfl, by decide +kernel, by decide +kernel⟩
theorem c_number_by : cSs 60 60 (ccOf N_number_by (defScope s_number_by) mu_number_by fs_number_by cs) (defBody s_number_by) = some m_number_by := by kernel_rfl
/-! ### shortest_row -/
abbrev s_shortest_row : Stmt := topS 20
def N_shortest_row : List Str := ["numbers", "row", "left", "number"]
def m_shortest_row : MS :=
  (mThen (mPar [1, 2] (mCons (mConst (.str "")) (mCons (mCall (on1 (listW false)) (mCons (mVar 0) mNil)) mNil)))
  (mThen (mWhile (mTru (mCall (on1 anyW) (mCons (mLc false (mSeq (mVar 2)) (.one 3) [3] mYes (mBin gtW (mVar 3) (mConst (.int 0)))) mNil)))
  (mThen (mAsg (mBin addW (mVar 1) (mBin ixW (mConst (.str "abcdefgh")) (mCall (callW fi_number_by) (mCons (mLc false (mSeq (mVar 2)) (.one 3) [3] mYes (mBin modW (mVar 3) (mConst (.int 2)))) mNil)))) (gNm 1))
  (mThen (mAsg (mLc false (mSeq (mVar 2)) (.one 3) [3] mYes (mBin fdivW (mVar 3) (mConst (.int 2)))) (gNm 2))
  mSkip)))
  (mThen (mRet (mVar 1))
  mSkip)))
def fi_shortest_row : FI := ⟨1, false, runFn 4 false m_shortest_row, []⟩
def fs_shortest_row : List (Str × FI) := [("number_by", fi_number_by), ("_law_brook", fi__law_brook)]
def mu_shortest_row : List (Nat × Nat) := []
theorem sc_shortest_row : FnScope N_shortest_row ["numbers"] (defScope s_shortest_row) := ⟨rfl, rfl, rfl, by decide +kernel, rfl, by decide +kernel, by decide +kernel⟩
theorem c_shortest_row : cSs 60 60 (ccOf N_shortest_row (defScope s_shortest_row) mu_shortest_row fs_shortest_row cs) (defBody s_shortest_row) = some m_shortest_row := by kernel_rfl
/-! ### is_number -/
abbrev s_is_number : Stmt := topS 8
def N_is_number : List Str := ["value", "low", "high"]
def m_is_number : MS :=
  (mThen (mRet (mAndV (mCall (on2 isiW) (mCons (mVar 0) (mCons (mConst (.ty "int")) mNil))) (mAndV (mNotV (mCall (on2 isiW) (mCons (mVar 0) (mCons (mConst (.ty "bool")) mNil)))) (mChain leW leW (mVar 1) (mVar 0) (mVar 2)))))
  mSkip)
def fi_is_number : FI := ⟨3, false, runFn 3 false m_is_number, []⟩
def fs_is_number : List (Str × FI) := [("shortest_row", fi_shortest_row), ("number_by", fi_number_by), ("_law_brook", fi__law_brook)]
def mu_is_number : List (Nat × Nat) := []
theorem sc_is_number : FnScope N_is_number ["value", "low", "high"] (defScope s_is_number) := ⟨rfl, rfl, rfl, by decide +kernel, rfl, by decide +kernel, by decide +kernel⟩
theorem c_is_number : cSs 60 60 (ccOf N_is_number (defScope s_is_number) mu_is_number fs_is_number cs) (defBody s_is_number) = some m_is_number := by kernel_rfl
/-! ### check_numbers -/
abbrev s_check_numbers : Stmt := topS 21
def N_check_numbers : List Str := ["numbers", "fewest", "number"]
def m_check_numbers : MS :=
  (mThen (mIfS (mOr (mNot (mTru (mCall (on2 isiW) (mCons (mVar 0) (mCons (mConst (.ty "tuple")) mNil))))) (mNot (mAsB (mChain leW leW (mVar 1) (mCall (on1 lenW) (mCons (mVar 0) mNil)) (mConst (.int 3))))))
  (mThen mStuck
  mSkip)
  mSkip)
  (mThen (mIfS (mNot (mTru (mCall (on1 allW) (mCons (mLc false (mSeq (mVar 0)) (.one 2) [2] mYes (mCall (callW fi_is_number) (mCons (mVar 2) (mCons (mConst (.int 0)) (mCons (mConst (.int 9999999999999999999999999999999999999999)) mNil))))) mNil))))
  (mThen mStuck
  mSkip)
  mSkip)
  mSkip))
def fi_check_numbers : FI := ⟨2, false, runFn 3 false m_check_numbers, []⟩
def fs_check_numbers : List (Str × FI) := [("is_number", fi_is_number), ("shortest_row", fi_shortest_row), ("number_by", fi_number_by), ("_law_brook", fi__law_brook)]
def mu_check_numbers : List (Nat × Nat) := []
theorem sc_check_numbers : FnScope N_check_numbers ["numbers", "fewest"] (defScope s_check_numbers) := ⟨rfl, rfl, rfl, by decide +kernel, rfl, by decide +kernel, by decide +kernel⟩
theorem c_check_numbers : cSs 60 60 (ccOf N_check_numbers (defScope s_check_numbers) mu_check_numbers fs_check_numbers cs) (defBody s_check_numbers) = some m_check_numbers := by kernel_rfl
/-! ### row_for -/
abbrev s_row_for : Stmt := topS 22
def N_row_for : List Str := ["numbers"]
def m_row_for : MS :=
  (mThen (mExpr (mCall (callW fi_check_numbers) (mCons (mVar 0) (mCons (mConst (.int 1)) mNil))))
  (mThen (mRet (mCall (callW fi_shortest_row) (mCons (mVar 0) mNil)))
  mSkip))
def fi_row_for : FI := ⟨1, false, runFn 1 false m_row_for, [(["numbers"], [0])]⟩
def fs_row_for : List (Str × FI) := [("check_numbers", fi_check_numbers), ("is_number", fi_is_number), ("shortest_row", fi_shortest_row), ("number_by", fi_number_by), ("_law_brook", fi__law_brook)]
def mu_row_for : List (Nat × Nat) := []
theorem sc_row_for : FnScope N_row_for ["numbers"] (defScope s_row_for) := ⟨rfl, rfl, rfl, by decide +kernel, rfl, by decide +kernel, by decide +kernel⟩
theorem c_row_for : cSs 60 60 (ccOf N_row_for (defScope s_row_for) mu_row_for fs_row_for cs) (defBody s_row_for) = some m_row_for := by kernel_rfl
/-! ### is_row -/
abbrev s_is_row : Stmt := topS 9
def N_is_row : List Str := ["value", "signs", "most", "sign"]
def m_is_row : MS :=
  (mThen (mIfS (mOr (mNot (mTru (mCall (on2 isiW) (mCons (mVar 0) (mCons (mConst (.ty "str")) mNil))))) (mNot (mTru (mCall (on1 allW) (mCons (mLc false (mSeq (mVar 0)) (.one 3) [3] mYes (mBin inW (mVar 3) (mSl false (mConst (.str "abcdefgh")) none (some (mVar 1))))) mNil)))))
  (mThen (mRet (mConst (.bl false)))
  mSkip)
  mSkip)
  (mThen (mRet (mOrV (mBin isW (mVar 2) (mConst .non)) (mBin leW (mCall (on1 lenW) (mCons (mVar 0) mNil)) (mVar 2))))
  mSkip))
def fi_is_row : FI := ⟨3, false, runFn 4 false m_is_row, []⟩
def fs_is_row : List (Str × FI) := [("row_for", fi_row_for), ("check_numbers", fi_check_numbers), ("is_number", fi_is_number), ("shortest_row", fi_shortest_row), ("number_by", fi_number_by), ("_law_brook", fi__law_brook)]
def mu_is_row : List (Nat × Nat) := []
theorem sc_is_row : FnScope N_is_row ["value", "signs", "most"] (defScope s_is_row) := ⟨rfl, rfl, rfl, by decide +kernel, rfl, by decide +kernel, by decide +kernel⟩
theorem c_is_row : cSs 60 60 (ccOf N_is_row (defScope s_is_row) mu_is_row fs_is_row cs) (defBody s_is_row) = some m_is_row := by kernel_rfl
/-! ### check_tracks -/
abbrev s_check_tracks : Stmt := topS 13
def N_check_tracks : List Str := ["tracks"]
def m_check_tracks : MS :=
  (mThen (mIfS (mNot (mTru (mCall (callW fi_is_number) (mCons (mVar 0) (mCons (mConst (.int 1)) (mCons (mConst (.int 3)) mNil))))))
  (mThen mStuck
  mSkip)
  mSkip)
  mSkip)
def fi_check_tracks : FI := ⟨1, false, runFn 1 false m_check_tracks, []⟩
def fs_check_tracks : List (Str × FI) := [("is_row", fi_is_row), ("row_for", fi_row_for), ("check_numbers", fi_check_numbers), ("is_number", fi_is_number), ("shortest_row", fi_shortest_row), ("number_by", fi_number_by), ("_law_brook", fi__law_brook)]
def mu_check_tracks : List (Nat × Nat) := []
theorem sc_check_tracks : FnScope N_check_tracks ["tracks"] (defScope s_check_tracks) := ⟨rfl, rfl, rfl, by decide +kernel, rfl, by decide +kernel, by decide +kernel⟩
theorem c_check_tracks : cSs 60 60 (ccOf N_check_tracks (defScope s_check_tracks) mu_check_tracks fs_check_tracks cs) (defBody s_check_tracks) = some m_check_tracks := by kernel_rfl
/-! ### power_of -/
abbrev s_power_of : Stmt := topS 14
def N_power_of : List Str := ["number", "found", "lap"]
def m_power_of : MS :=
  (mThen (mAsg (mConst (.int 1)) (gNm 1))
  (mThen (mFor (mRng rng1 (mCons (mVar 0) mNil)) (mTg (.one 2))
  (mThen (mAsg (mBin mulW (mVar 1) (mConst (.int 2))) (gNm 1))
  mSkip))
  (mThen (mRet (mVar 1))
  mSkip)))
def fi_power_of : FI := ⟨1, false, runFn 3 false m_power_of, []⟩
def fs_power_of : List (Str × FI) := [("check_tracks", fi_check_tracks), ("is_row", fi_is_row), ("row_for", fi_row_for), ("check_numbers", fi_check_numbers), ("is_number", fi_is_number), ("shortest_row", fi_shortest_row), ("number_by", fi_number_by), ("_law_brook", fi__law_brook)]
def mu_power_of : List (Nat × Nat) := []
theorem sc_power_of : FnScope N_power_of ["number"] (defScope s_power_of) := ⟨rfl, rfl, rfl, by decide +kernel, rfl, by decide +kernel, by decide +kernel⟩
theorem c_power_of : cSs 60 60 (ccOf N_power_of (defScope s_power_of) mu_power_of fs_power_of cs) (defBody s_power_of) = some m_power_of := by kernel_rfl
/-! ### figures_of -/
abbrev s_figures_of : Stmt := topS 15
def N_figures_of : List Str := ["place", "many", "found", "track"]
def m_figures_of : MS :=
  (mThen (mAsg (mLst true mNil) (gNm 2))
  (mThen (mFor (mRng rng1 (mCons (mVar 1) mNil)) (mTg (.one 3))
  (mThen (mExpr (mBM "list" appendL (mVar 2) (mCons (mBin modW (mVar 0) (mConst (.int 2))) mNil)))
  (mThen (mAsg (mBin fdivW (mVar 0) (mConst (.int 2))) (gNm 0))
  mSkip)))
  (mThen (mRet (mVar 2))
  mSkip)))
def fi_figures_of : FI := ⟨2, false, runFn 4 false m_figures_of, []⟩
def fs_figures_of : List (Str × FI) := [("power_of", fi_power_of), ("check_tracks", fi_check_tracks), ("is_row", fi_is_row), ("row_for", fi_row_for), ("check_numbers", fi_check_numbers), ("is_number", fi_is_number), ("shortest_row", fi_shortest_row), ("number_by", fi_number_by), ("_law_brook", fi__law_brook)]
def mu_figures_of : List (Nat × Nat) := [(40, 12)]
theorem sc_figures_of : FnScope N_figures_of ["place", "many"] (defScope s_figures_of) := ⟨rfl, rfl, rfl, by decide +kernel, rfl, by decide +kernel, by decide +kernel⟩
theorem c_figures_of : cSs 60 60 (ccOf N_figures_of (defScope s_figures_of) mu_figures_of fs_figures_of cs) (defBody s_figures_of) = some m_figures_of := by kernel_rfl
/-! ### figures_by -/
abbrev s_figures_by : Stmt := topS 17
def N_figures_by : List Str := ["row", "sign"]
def m_figures_by : MS :=
  (mThen (mRet (mLc false (mSeq (mVar 0)) (.one 1) [1] mYes (mBM "str" idxS (mConst (.str "abcdefgh")) (mCons (mVar 1) mNil))))
  mSkip)
def fi_figures_by : FI := ⟨1, false, runFn 2 false m_figures_by, []⟩
def fs_figures_by : List (Str × FI) := [("figures_of", fi_figures_of), ("power_of", fi_power_of), ("check_tracks", fi_check_tracks), ("is_row", fi_is_row), ("row_for", fi_row_for), ("check_numbers", fi_check_numbers), ("is_number", fi_is_number), ("shortest_row", fi_shortest_row), ("number_by", fi_number_by), ("_law_brook", fi__law_brook)]
def mu_figures_by : List (Nat × Nat) := []
theorem sc_figures_by : FnScope N_figures_by ["row"] (defScope s_figures_by) := ⟨rfl, rfl, rfl, by decide +kernel, rfl, by decide +kernel, by decide +kernel⟩
theorem c_figures_by : cSs 60 60 (ccOf N_figures_by (defScope s_figures_by) mu_figures_by fs_figures_by cs) (defBody s_figures_by) = some m_figures_by := by kernel_rfl
/-! ### numbers_of -/
abbrev s_numbers_of : Stmt := topS 18
def N_numbers_of : List Str := ["tracks", "row", "signs", "place", "track", "figures"]
def m_numbers_of : MS :=
  (mThen (mAsg (mLc false (mSeq (mCall (callW fi_figures_by) (mCons (mVar 1) mNil))) (.one 3) [3] mYes (mCall (callW fi_figures_of) (mCons (mVar 3) (mCons (mVar 0) mNil)))) (gNm 2))
  (mThen (mRet (mCall (on1 tupleW) (mCons (mLc false (mRng rng1 (mCons (mVar 0) mNil)) (.one 4) [4] mYes (mCall (callW fi_number_by) (mCons (mLc false (mSeq (mVar 2)) (.one 5) [5] mYes (mBin ixW (mVar 5) (mVar 4))) mNil))) mNil)))
  mSkip))
def fi_numbers_of : FI := ⟨2, false, runFn 6 false m_numbers_of, []⟩
def fs_numbers_of : List (Str × FI) := [("figures_by", fi_figures_by), ("figures_of", fi_figures_of), ("power_of", fi_power_of), ("check_tracks", fi_check_tracks), ("is_row", fi_is_row), ("row_for", fi_row_for), ("check_numbers", fi_check_numbers), ("is_number", fi_is_number), ("shortest_row", fi_shortest_row), ("number_by", fi_number_by), ("_law_brook", fi__law_brook)]
def mu_numbers_of : List (Nat × Nat) := []
theorem sc_numbers_of : FnScope N_numbers_of ["tracks", "row"] (defScope s_numbers_of) := ⟨rfl, rfl, rfl, by decide +kernel, rfl, by decide +kernel, by decide +kernel⟩
theorem c_numbers_of : cSs 60 60 (ccOf N_numbers_of (defScope s_numbers_of) mu_numbers_of fs_numbers_of cs) (defBody s_numbers_of) = some m_numbers_of := by kernel_rfl
/-! ### numbers_by -/
abbrev s_numbers_by : Stmt := topS 19
def N_numbers_by : List Str := ["tracks", "row"]
def m_numbers_by : MS :=
  (mThen (mExpr (mCall (callW fi_check_tracks) (mCons (mVar 0) mNil)))
  (mThen (mIfS (mNot (mTru (mCall (callW fi_is_row) (mCons (mVar 1) (mCons (mCall (callW fi_power_of) (mCons (mVar 0) mNil)) (mCons (mConst (.int 200)) mNil))))))
  (mThen mStuck
  mSkip)
  mSkip)
  (mThen (mRet (mCall (callW fi_numbers_of) (mCons (mVar 0) (mCons (mVar 1) mNil))))
  mSkip)))
def fi_numbers_by : FI := ⟨2, false, runFn 2 false m_numbers_by, [(["row", "tracks"], [1, 0])]⟩
def fs_numbers_by : List (Str × FI) := [("numbers_of", fi_numbers_of), ("figures_by", fi_figures_by), ("figures_of", fi_figures_of), ("power_of", fi_power_of), ("check_tracks", fi_check_tracks), ("is_row", fi_is_row), ("row_for", fi_row_for), ("check_numbers", fi_check_numbers), ("is_number", fi_is_number), ("shortest_row", fi_shortest_row), ("number_by", fi_number_by), ("_law_brook", fi__law_brook)]
def mu_numbers_by : List (Nat × Nat) := []
theorem sc_numbers_by : FnScope N_numbers_by ["tracks", "row"] (defScope s_numbers_by) := ⟨rfl, rfl, rfl, by decide +kernel, rfl, by decide +kernel, by decide +kernel⟩
theorem c_numbers_by : cSs 60 60 (ccOf N_numbers_by (defScope s_numbers_by) mu_numbers_by fs_numbers_by cs) (defBody s_numbers_by) = some m_numbers_by := by kernel_rfl
/-! ### _law_scoop -/
abbrev s__law_scoop : Stmt := topS 25
def N__law_scoop : List Str := ["_law_brook_here", "_law_many", "_law_digit", "_law_kept"]
def m__law_scoop : MS :=
  (mThen (mIfS (mAsB (mBin gtW (mBin ixW (mVar 0) (mConst (.int 0))) (mConst (.int 0))))
  (mThen (mAsg (mCall (on2 divmodW) (mCons (mBin ixW (mVar 0) (mConst (.int 0))) (mCons (mVar 1) mNil))) (gTupG [(gSb (mVar 0) (mConst (.int 0))), (gNm 2)]))
  (mThen (mRet (mVar 2))
  mSkip))
  mSkip)
  (mThen (mAsg (mBin addW (mBin ixW (mVar 0) (mConst (.int 2))) (mConst (.int 1))) (gSb (mVar 0) (mConst (.int 2))))
  (mThen (mAsg (mBin modW (mCall (on1 intW) (mCons (mBin addW (mBin ixW (mVar 0) (mConst (.int 1))) (mBin mulW (mConst (.int 60119)) (mBin ixW (mVar 0) (mConst (.int 2))))) mNil)) (mConst (.int 2147483269))) (gNm 3))
  (mThen (mAsg (mBin modW (mCall (on1 intW) (mCons (mBin addW (mBin addW (mBin mulW (mVar 3) (mBin addW (mBin modW (mCall (on1 intW) (mCons (mVar 3) mNil)) (mConst (.int 30011))) (mConst (.int 41011)))) (mBin mulW (mConst (.int 71)) (mBin ixW (mVar 0) (mConst (.int 2))))) (mConst (.int 3))) mNil)) (mConst (.int 2147483269))) (gSb (mVar 0) (mConst (.int 1))))
  (mThen (mRet (mBin modW (mBin fdivW (mCall (on1 intW) (mCons (mBin ixW (mVar 0) (mConst (.int 1))) mNil)) (mConst (.int 331))) (mVar 1)))
  mSkip)))))
def fi__law_scoop : FI := ⟨2, true, runFn 4 false m__law_scoop, []⟩
def fs__law_scoop : List (Str × FI) := [("numbers_by", fi_numbers_by), ("numbers_of", fi_numbers_of), ("figures_by", fi_figures_by), ("figures_of", fi_figures_of), ("power_of", fi_power_of), ("check_tracks", fi_check_tracks), ("is_row", fi_is_row), ("row_for", fi_row_for), ("check_numbers", fi_check_numbers), ("is_number", fi_is_number), ("shortest_row", fi_shortest_row), ("number_by", fi_number_by), ("_law_brook", fi__law_brook)]
def mu__law_scoop : List (Nat × Nat) := []
theorem sc__law_scoop : FnScope N__law_scoop ["_law_brook_here", "_law_many"] (defScope s__law_scoop) := ⟨rfl, rfl, rfl, by decide +kernel, rfl, by decide +kernel, by decide +kernel⟩
theorem c__law_scoop : cSs 60 60 (ccOf N__law_scoop (defScope s__law_scoop) mu__law_scoop fs__law_scoop cs) (defBody s__law_scoop) = some m__law_scoop := by kernel_rfl
/-! ### _law_choose -/
abbrev s__law_choose : Stmt := topS 26
def N__law_choose : List Str := ["_law_brook_here", "_law_some"]
def m__law_choose : MS :=
  (mThen (mRet (mBin ixW (mVar 1) (mCall (callW fi__law_scoop) (mCons (mVar 0) (mCons (mCall (on1 lenW) (mCons (mVar 1) mNil)) mNil)))))
  mSkip)
def fi__law_choose : FI := ⟨2, true, runFn 2 false m__law_choose, []⟩
def fs__law_choose : List (Str × FI) := [("_law_scoop", fi__law_scoop), ("numbers_by", fi_numbers_by), ("numbers_of", fi_numbers_of), ("figures_by", fi_figures_by), ("figures_of", fi_figures_of), ("power_of", fi_power_of), ("check_tracks", fi_check_tracks), ("is_row", fi_is_row), ("row_for", fi_row_for), ("check_numbers", fi_check_numbers), ("is_number", fi_is_number), ("shortest_row", fi_shortest_row), ("number_by", fi_number_by), ("_law_brook", fi__law_brook)]
def mu__law_choose : List (Nat × Nat) := []
theorem sc__law_choose : FnScope N__law_choose ["_law_brook_here", "_law_some"] (defScope s__law_choose) := ⟨rfl, rfl, rfl, by decide +kernel, rfl, by decide +kernel, by decide +kernel⟩
theorem c__law_choose : cSs 60 60 (ccOf N__law_choose (defScope s__law_choose) mu__law_choose fs__law_choose cs) (defBody s__law_choose) = some m__law_choose := by kernel_rfl
/-! ### _law_figures -/
abbrev s__law_figures : Stmt := topS 27
def N__law_figures : List Str := ["_law_lanes", "_law_rowlet", "_law_found", "_law_track", "_law_number", "_law_worth", "_law_sign"]
def m__law_figures : MS :=
  (mThen (mAsg (mLst true mNil) (gNm 2))
  (mThen (mFor (mRng rng1 (mCons (mVar 0) mNil)) (mTg (.one 3))
  (mThen (mAsg (mTup (mCons (mConst (.int 0)) (mCons (mConst (.int 1)) mNil))) (gTupG [(gNm 4), (gNm 5)]))
  (mThen (mFor (mSeq (mVar 1)) (mTg (.one 6))
  (mThen (mAsg (mBin addW (mVar 4) (mBin mulW (mVar 5) (mBin modW (mBin fdivW (mCall (on1 intW) (mCons (mBM "str" idxS (mConst (.str "abcdefgh")) (mCons (mVar 6) mNil)) mNil)) (mBin ixW (mLst false (mCons (mConst (.int 1)) (mCons (mConst (.int 2)) (mCons (mConst (.int 4)) mNil)))) (mVar 3))) (mConst (.int 2))))) (gNm 4))
  (mThen (mAsg (mBin mulW (mConst (.int 2)) (mVar 5)) (gNm 5))
  mSkip)))
  (mThen (mExpr (mBM "list" appendL (mVar 2) (mCons (mVar 4) mNil)))
  mSkip))))
  (mThen (mRet (mCall (on1 tupleW) (mCons (mVar 2) mNil)))
  mSkip)))
def fi__law_figures : FI := ⟨2, false, runFn 7 false m__law_figures, []⟩
def fs__law_figures : List (Str × FI) := [("_law_choose", fi__law_choose), ("_law_scoop", fi__law_scoop), ("numbers_by", fi_numbers_by), ("numbers_of", fi_numbers_of), ("figures_by", fi_figures_by), ("figures_of", fi_figures_of), ("power_of", fi_power_of), ("check_tracks", fi_check_tracks), ("is_row", fi_is_row), ("row_for", fi_row_for), ("check_numbers", fi_check_numbers), ("is_number", fi_is_number), ("shortest_row", fi_shortest_row), ("number_by", fi_number_by), ("_law_brook", fi__law_brook)]
def mu__law_figures : List (Nat × Nat) := [(92, 17)]
theorem sc__law_figures : FnScope N__law_figures ["_law_lanes", "_law_rowlet"] (defScope s__law_figures) := ⟨rfl, rfl, rfl, by decide +kernel, rfl, by decide +kernel, by decide +kernel⟩
theorem c__law_figures : cSs 60 60 (ccOf N__law_figures (defScope s__law_figures) mu__law_figures fs__law_figures cs) (defBody s__law_figures) = some m__law_figures := by kernel_rfl
/-! ### _law_row_right -/
abbrev s__law_row_right : Stmt := topS 29
def N__law_row_right : List Str := ["_law_brook_here", "_law_lanes", "_law_signs", "_law_size", "_law_rowlet", "_law_told", "_law_k", "_law_number"]
def m__law_row_right : MS :=
  (mThen (mAsg (mBin addW (mConst (.int 1)) (mCall (callW fi__law_scoop) (mCons (mVar 0) (mCons (mConst (.int 3)) mNil)))) (gNm 1))
  (mThen (mAsg (mTup (mCons (mSl false (mConst (.str "abcdefgh")) none (some (mBin ixW (mLst false (mCons (mConst (.int 2)) (mCons (mConst (.int 4)) (mCons (mConst (.int 8)) mNil)))) (mBin subW (mVar 1) (mConst (.int 1)))))) (mCons (mCall (callW fi__law_choose) (mCons (mVar 0) (mCons (mLst false (mCons (mConst (.int 0)) (mCons (mConst (.int 1)) (mCons (mConst (.int 2)) (mCons (mConst (.int 3)) (mCons (mConst (.int 6)) (mCons (mConst (.int 40)) (mCons (mConst (.int 130)) mNil)))))))) mNil))) mNil))) (gTupG [(gNm 2), (gNm 3)]))
  (mThen (mAsg (mBin addW (mBM "str" joinS (mConst (.str "")) (mCons (mLc false (mRng rng1 (mCons (mVar 3) mNil)) (.one 6) [6] mYes (mCall (callW fi__law_choose) (mCons (mVar 0) (mCons (mVar 2) mNil)))) mNil)) (mBin mulW (mConst (.str "a")) (mCall (callW fi__law_choose) (mCons (mVar 0) (mCons (mLst false (mCons (mConst (.int 0)) (mCons (mConst (.int 0)) (mCons (mConst (.int 1)) (mCons (mConst (.int 60)) mNil))))) mNil))))) (gNm 4))
  (mThen (mAsg (mCall (callW fi__law_figures) (mCons (mVar 1) (mCons (mVar 4) mNil))) (gNm 5))
  (mThen (mIfS (mOr (mAsB (mBin neW (mCall (callW fi_numbers_by) (mCons (mVar 1) (mCons (mVar 4) mNil))) (mVar 5))) (mAsB (mBin neW (mCallK fi_numbers_by [1, 0] 2 (mCons (mVar 4) (mCons (mVar 1) mNil))) (mVar 5))))
  (mThen (mRet (mConst (.bl false)))
  mSkip)
  mSkip)
  (mThen (mIfS (mOr (mAsB (mBin neW (mCall (callW fi_row_for) (mCons (mVar 5) mNil)) (mBM "str" rstripS (mVar 4) (mCons (mConst (.str "a")) mNil)))) (mAsB (mBin neW (mCall (callW fi_numbers_by) (mCons (mVar 1) (mCons (mBin addW (mBM "str" rstripS (mVar 4) (mCons (mConst (.str "a")) mNil)) (mConst (.str "aaa"))) mNil))) (mVar 5))))
  (mThen (mRet (mConst (.bl false)))
  mSkip)
  mSkip)
  (mThen (mRet (mBin eqW (mLc false (mSeq (mCall (callW fi_numbers_by) (mCons (mVar 1) (mCons (mVar 4) mNil)))) (.one 7) [7] (mNot (mTru (mCall (on2 isiW) (mCons (mVar 7) (mCons (mConst (.ty "int")) mNil))))) (mVar 7)) (mLst false mNil)))
  mSkip)))))))
def fi__law_row_right : FI := ⟨1, true, runFn 8 false m__law_row_right, []⟩
def fs__law_row_right : List (Str × FI) := [("_law_figures", fi__law_figures), ("_law_choose", fi__law_choose), ("_law_scoop", fi__law_scoop), ("numbers_by", fi_numbers_by), ("numbers_of", fi_numbers_of), ("figures_by", fi_figures_by), ("figures_of", fi_figures_of), ("power_of", fi_power_of), ("check_tracks", fi_check_tracks), ("is_row", fi_is_row), ("row_for", fi_row_for), ("check_numbers", fi_check_numbers), ("is_number", fi_is_number), ("shortest_row", fi_shortest_row), ("number_by", fi_number_by), ("_law_brook", fi__law_brook)]
def mu__law_row_right : List (Nat × Nat) := []
theorem sc__law_row_right : FnScope N__law_row_right ["_law_brook_here"] (defScope s__law_row_right) := ⟨rfl, rfl, rfl, by decide +kernel, rfl, by decide +kernel, by decide +kernel⟩
theorem c__law_row_right : cSs 60 60 (ccOf N__law_row_right (defScope s__law_row_right) mu__law_row_right fs__law_row_right cs) (defBody s__law_row_right) = some m__law_row_right := by kernel_rfl
/-! ### _law_shortest -/
abbrev s__law_shortest : Stmt := topS 28
def N__law_shortest : List Str := ["_law_nums", "_law_rowlet", "_law_left", "_law_turn", "_law_k", "_law_number"]
def m__law_shortest : MS :=
  (mThen (mAsg (mTup (mCons (mConst (.str "")) (mCons (mCall (on1 (listW false)) (mCons (mVar 0) mNil)) mNil))) (gTupG [(gNm 1), (gNm 2)]))
  (mThen (mFor (mRng rng1 (mCons (mConst (.int 200)) mNil)) (mTg (.one 3))
  (mThen (mIfS (mAsB (mBin gtW (mCall (maxW) (mCons (mBin addW (mVar 2) (mLst false (mCons (mConst (.int 0)) mNil))) mNil)) (mConst (.int 0))))
  (mThen (mAsg (mBin addW (mVar 1) (mBin ixW (mConst (.str "abcdefgh")) (mCall (on1 sumW) (mCons (mLc false (mRng rng1 (mCons (mCall (on1 lenW) (mCons (mVar 2) mNil)) mNil)) (.one 4) [4] mYes (mBin mulW (mBin modW (mCall (on1 intW) (mCons (mBin ixW (mVar 2) (mVar 4)) mNil)) (mConst (.int 2))) (mBin ixW (mLst false (mCons (mConst (.int 1)) (mCons (mConst (.int 2)) (mCons (mConst (.int 4)) mNil)))) (mVar 4)))) mNil)))) (gNm 1))
  (mThen (mAsg (mLc false (mSeq (mVar 2)) (.one 5) [5] mYes (mBin fdivW (mCall (on1 intW) (mCons (mVar 5) mNil)) (mConst (.int 2)))) (gNm 2))
  mSkip))
  mSkip)
  mSkip))
  (mThen (mRet (mVar 1))
  mSkip)))
def fi__law_shortest : FI := ⟨1, false, runFn 6 false m__law_shortest, []⟩
def fs__law_shortest : List (Str × FI) := [("_law_row_right", fi__law_row_right), ("_law_figures", fi__law_figures), ("_law_choose", fi__law_choose), ("_law_scoop", fi__law_scoop), ("numbers_by", fi_numbers_by), ("numbers_of", fi_numbers_of), ("figures_by", fi_figures_by), ("figures_of", fi_figures_of), ("power_of", fi_power_of), ("check_tracks", fi_check_tracks), ("is_row", fi_is_row), ("row_for", fi_row_for), ("check_numbers", fi_check_numbers), ("is_number", fi_is_number), ("shortest_row", fi_shortest_row), ("number_by", fi_number_by), ("_law_brook", fi__law_brook)]
def mu__law_shortest : List (Nat × Nat) := []
theorem sc__law_shortest : FnScope N__law_shortest ["_law_nums"] (defScope s__law_shortest) := ⟨rfl, rfl, rfl, by decide +kernel, rfl, by decide +kernel, by decide +kernel⟩
theorem c__law_shortest : cSs 60 60 (ccOf N__law_shortest (defScope s__law_shortest) mu__law_shortest fs__law_shortest cs) (defBody s__law_shortest) = some m__law_shortest := by kernel_rfl
/-! ### _law_numbers_right -/
abbrev s__law_numbers_right : Stmt := topS 30
def N__law_numbers_right : List Str := ["_law_brook_here", "_law_many", "_law_found", "_law_k", "_law_some", "_law_nums", "_law_rowlet"]
def m__law_numbers_right : MS :=
  (mThen (mPar [1, 2] (mCons (mBin addW (mConst (.int 1)) (mCall (callW fi__law_scoop) (mCons (mVar 0) (mCons (mConst (.int 3)) mNil)))) (mCons (mLst true mNil) mNil)))
  (mThen (mFor (mRng rng1 (mCons (mVar 1) mNil)) (mTg (.one 3))
  (mThen (mAsg (mLst false (mCons (mCall (callW fi__law_scoop) (mCons (mVar 0) (mCons (mConst (.int 5)) mNil))) (mCons (mCall (callW fi__law_scoop) (mCons (mVar 0) (mCons (mConst (.int 1000)) mNil))) (mCons (mBin subW (mBin subW (mBin powW (mConst (.int 10)) (mConst (.int 40))) (mConst (.int 1))) (mCall (callW fi__law_scoop) (mCons (mVar 0) (mCons (mConst (.int 9)) mNil)))) (mCons (mBin powW (mConst (.int 16)) (mConst (.int 33))) mNil))))) (gNm 4))
  (mThen (mExpr (mBM "list" appendL (mVar 2) (mCons (mCall (callW fi__law_choose) (mCons (mVar 0) (mCons (mVar 4) mNil))) mNil)))
  mSkip)))
  (mThen (mAsg (mCall (on1 tupleW) (mCons (mVar 2) mNil)) (gNm 5))
  (mThen (mAsg (mCall (callW fi_row_for) (mCons (mVar 5) mNil)) (gNm 6))
  (mThen (mIfS (mOr (mAsB (mBin neW (mVar 6) (mCall (callW fi__law_shortest) (mCons (mVar 5) mNil)))) (mOr (mAsB (mBin neW (mCallK fi_row_for [0] 1 (mCons (mVar 5) mNil)) (mVar 6))) (mAsB (mBin eqW (mSl false (mVar 6) (some (mUn negW (mConst (.int 1)))) none) (mConst (.str "a"))))))
  (mThen (mRet (mConst (.bl false)))
  mSkip)
  mSkip)
  (mThen (mRet (mAndV (mBin eqW (mCall (callW fi_numbers_by) (mCons (mVar 1) (mCons (mVar 6) mNil))) (mVar 5)) (mBin eqW (mCall (callW fi_numbers_by) (mCons (mVar 1) (mCons (mBin addW (mVar 6) (mBin mulW (mConst (.str "a")) (mBin subW (mConst (.int 200)) (mCall (on1 lenW) (mCons (mVar 6) mNil))))) mNil))) (mVar 5))))
  mSkip))))))
def fi__law_numbers_right : FI := ⟨1, true, runFn 7 false m__law_numbers_right, []⟩
def fs__law_numbers_right : List (Str × FI) := [("_law_shortest", fi__law_shortest), ("_law_row_right", fi__law_row_right), ("_law_figures", fi__law_figures), ("_law_choose", fi__law_choose), ("_law_scoop", fi__law_scoop), ("numbers_by", fi_numbers_by), ("numbers_of", fi_numbers_of), ("figures_by", fi_figures_by), ("figures_of", fi_figures_of), ("power_of", fi_power_of), ("check_tracks", fi_check_tracks), ("is_row", fi_is_row), ("row_for", fi_row_for), ("check_numbers", fi_check_numbers), ("is_number", fi_is_number), ("shortest_row", fi_shortest_row), ("number_by", fi_number_by), ("_law_brook", fi__law_brook)]
def mu__law_numbers_right : List (Nat × Nat) := [(118, 65)]
theorem sc__law_numbers_right : FnScope N__law_numbers_right ["_law_brook_here"] (defScope s__law_numbers_right) := ⟨rfl, rfl, rfl, by decide +kernel, rfl, by decide +kernel, by decide +kernel⟩
theorem c__law_numbers_right : cSs 60 60 (ccOf N__law_numbers_right (defScope s__law_numbers_right) mu__law_numbers_right fs__law_numbers_right cs) (defBody s__law_numbers_right) = some m__law_numbers_right := by kernel_rfl
/-! ### _law_right -/
abbrev s__law_right : Stmt := topS 31
def N__law_right : List Str := ["_law_brook_here", "_law_turn", "_law_k"]
def m__law_right : MS :=
  (mThen (mFor (mRng rng1 (mCons (mConst (.int 4)) mNil)) (mTg (.one 1))
  (mThen (mIfS (mOr (mNot (mTru (mCall (callW fi__law_row_right) (mCons (mVar 0) mNil)))) (mNot (mTru (mCall (callW fi__law_numbers_right) (mCons (mVar 0) mNil)))))
  (mThen (mRet (mConst (.bl false)))
  mSkip)
  mSkip)
  mSkip))
  (mThen (mRet (mBin eqW (mLc false (mSeq (mLst false (mCons (mConst (.int 1)) (mCons (mConst (.int 2)) (mCons (mConst (.int 3)) mNil))))) (.one 2) [2] mYes (mCall (callW fi_row_for) (mCons (mBin mulW (mTup (mCons (mConst (.int 0)) mNil)) (mVar 2)) mNil))) (mLst false (mCons (mConst (.str "")) (mCons (mConst (.str "")) (mCons (mConst (.str "")) mNil))))))
  mSkip))
def fi__law_right : FI := ⟨1, true, runFn 3 false m__law_right, []⟩
def fs__law_right : List (Str × FI) := [("_law_numbers_right", fi__law_numbers_right), ("_law_shortest", fi__law_shortest), ("_law_row_right", fi__law_row_right), ("_law_figures", fi__law_figures), ("_law_choose", fi__law_choose), ("_law_scoop", fi__law_scoop), ("numbers_by", fi_numbers_by), ("numbers_of", fi_numbers_of), ("figures_by", fi_figures_by), ("figures_of", fi_figures_of), ("power_of", fi_power_of), ("check_tracks", fi_check_tracks), ("is_row", fi_is_row), ("row_for", fi_row_for), ("check_numbers", fi_check_numbers), ("is_number", fi_is_number), ("shortest_row", fi_shortest_row), ("number_by", fi_number_by), ("_law_brook", fi__law_brook)]
def mu__law_right : List (Nat × Nat) := []
theorem sc__law_right : FnScope N__law_right ["_law_brook_here"] (defScope s__law_right) := ⟨rfl, rfl, rfl, by decide +kernel, rfl, by decide +kernel, by decide +kernel⟩
theorem c__law_right : cSs 60 60 (ccOf N__law_right (defScope s__law_right) mu__law_right fs__law_right cs) (defBody s__law_right) = some m__law_right := by kernel_rfl
/-! ### law -/
abbrev s_law : Stmt := topS 32
def N_law : List Str := ["_law_script", "_law_spot"]
def m_law : MS :=
  (mThen (mRet (mCall (on1 allW) (mCons (mLc false (mRng rng1 (mCons (mCall (maxW) (mCons (mConst (.int 2)) (mCons (mCall (minW) (mCons (mCall (on1 lenW) (mCons (mVar 0) mNil)) (mCons (mConst (.int 5)) mNil))) mNil))) mNil)) (.one 1) [1] mYes (mCall (callW fi__law_right) (mCons (mCall (callW fi__law_brook) (mCons (mVar 0) (mCons (mVar 1) mNil))) mNil))) mNil)))
  mSkip)
def fi_law : FI := ⟨1, false, runFn 2 false m_law, []⟩
def fs_law : List (Str × FI) := [("_law_right", fi__law_right), ("_law_numbers_right", fi__law_numbers_right), ("_law_shortest", fi__law_shortest), ("_law_row_right", fi__law_row_right), ("_law_figures", fi__law_figures), ("_law_choose", fi__law_choose), ("_law_scoop", fi__law_scoop), ("numbers_by", fi_numbers_by), ("numbers_of", fi_numbers_of), ("figures_by", fi_figures_by), ("figures_of", fi_figures_of), ("power_of", fi_power_of), ("check_tracks", fi_check_tracks), ("is_row", fi_is_row), ("row_for", fi_row_for), ("check_numbers", fi_check_numbers), ("is_number", fi_is_number), ("shortest_row", fi_shortest_row), ("number_by", fi_number_by), ("_law_brook", fi__law_brook)]
def mu_law : List (Nat × Nat) := []
theorem sc_law : FnScope N_law ["_law_script"] (defScope s_law) := ⟨rfl, rfl, rfl, by decide +kernel, rfl, by decide +kernel, by decide +kernel⟩
theorem c_law : cSs 60 60 (ccOf N_law (defScope s_law) mu_law fs_law cs) (defBody s_law) = some m_law := by kernel_rfl
end Lk62

set_option maxHeartbeats 4000000
namespace Lk62
open PySem PySem.Spec PyProof.Rows L2 RR
/-! ### the signs -/
theorem abc : ("abcdefgh" : Str) = rowS [0, 1, 2, 3, 4, 5, 6, 7] := by decide +kernel
theorem abc_len : ("abcdefgh" : Str).length ≤ sizeLine := by decide +kernel
theorem ix_abc {o : Objs} {d : Nat} (h : d < 8) : ixW (.v (.str "abcdefgh")) (.v (.int (d : Int))) o = .ok (.v (.str (rowS [d]))) o := by
  refine ix_s _ d (97 + d) abc_len ?_
  rw [abc, rowS_list]
  match d, h with
  | 0, _ => rfl
  | 1, _ => rfl
  | 2, _ => rfl
  | 3, _ => rfl
  | 4, _ => rfl
  | 5, _ => rfl
  | 6, _ => rfl
  | 7, _ => rfl
theorem occ_abc {d : Nat} (h : d < 8) : Builtin.Str.occurrences ("abcdefgh" : Str) (rowS [d]) 0 ("abcdefgh" : Str).length 1 = [d] := by
  match d, h with
  | 0, _ => decide +kernel
  | 1, _ => decide +kernel
  | 2, _ => decide +kernel
  | 3, _ => decide +kernel
  | 4, _ => decide +kernel
  | 5, _ => decide +kernel
  | 6, _ => decide +kernel
  | 7, _ => decide +kernel
theorem idx_abc {o : Objs} {d : Nat} (h : d < 8) : idxS (.v (.str "abcdefgh")) [.v (.str (rowS [d]))] o = .ok (.v (.int (d : Int))) o := by
  simp only [idxS, occ_abc h]
theorem row_signs (ds : List Nat) : (rowS ds).cps.toList.map (fun c => D.str ⟨#[c]⟩) = ds.map fun d => D.str (rowS [d]) := by
  simp [rowS_list, rowS]
@[simp] theorem iter_row {o : Objs} (ds : List Nat) : iterW o (.v (.str (rowS ds))) = .ok (ds.map fun d => D.str (rowS [d])) o := by
  rw [iter_s, row_signs]
@[simp] theorem mty_s {o : Objs} (x : Str) : mtyOk "str" o (.v (.str x)) = true := rfl
theorem mty_o {o : Objs} {i : Nat} {b : Bool} {xs : List D} (h : o[i]? = some ⟨b, .lst xs⟩) : mtyOk "list" o (.o i) = true := by simp [mtyOk, h]
def di (v : Nat) : D := .int (v : Int)
/-! ### number_by -/
theorem nb_rev (l : List Nat) : l.reverse.foldl (fun a d => 2 * a + d) 0 = nb l := by
  induction l with
  | nil => rfl
  | cons a l ih => simp [nb, ih]; omega
theorem t_number_by (l : List Nat) {o : Objs} : callW fi_number_by [.v (.lst (l.map di))] o = .ok (.v (di (nb l))) o := by
  refine cp1 rfl rfl rfl ?_
  simp [m_number_by]
  refine out_for (fun i σ o => ∃ x, σ = [some (.v (.lst (l.map di))), some (.v (di ((l.reverse.take i).foldl (fun a d => 2 * a + d) 0))), x]) ⟨_, rfl⟩ ?_ ?_
  · rintro i d σ o hd ⟨x, rfl⟩
    rw [← List.map_reverse, List.getElem?_map] at hd
    cases hv : l.reverse[i]? with
    | none => rw [hv] at hd; simp at hd
    | some v =>
      rw [hv] at hd; simp at hd; subst hd
      rw [List.take_add_one, hv]
      simp [di]
  · rintro σ o ⟨x, rfl⟩
    have : (l.map di).reverse.length = l.reverse.length := by simp
    rw [this, List.take_length, nb_rev]
    simp
/-! ### shortest_row -/
@[simp] theorem any_lb {o : Objs} (bs : List Bool) : anyW (.v (.lst (bs.map D.bl))) o = .ok (.v (.bl (bs.any id))) o := any_l bs
theorem t_shortest (vs : List Nat) (k : Nat) (hn : vs.length ≤ 3) (hv : ∀ v ∈ vs, v < 2 ^ k) (hk : k ≤ 200) {o : Objs} : callW fi_shortest_row [.v (.tup (vs.map di))] o = .ok (.v (.str (rowS (short k vs)))) o := by
  refine cp1 rfl rfl rfl ?_
  have hl : vs.length ≤ sizeLine := by unfold sizeLine; omega
  simp [m_shortest_row, list_t (vs.map di) (by simpa using hl)]
  refine out_while (short k vs).length (fun m σ o => ∃ acc us j x, σ = [some (.v (.tup (vs.map di))), some (.v (.str (rowS acc))), some (.v (.lst (us.map di))), x] ∧ acc ++ short j us = short k vs ∧ (∀ u ∈ us, u < 2 ^ j) ∧ us.length ≤ 3 ∧ m = (short j us).length) ?_ ?_ ?_ ?_
  · have := short_len k (vs := vs); omega
  · exact ⟨[], vs, k, _, by rw [rowS_nil], rfl, hv, hn, rfl⟩
  · rintro m σ o ⟨acc, us, j, x, rfl, h1, h2, h3, h4⟩
    have hl : us.length ≤ sizeLine := by unfold sizeLine; omega
    have hlen := short_len k (vs := vs)
    cases j with
    | zero => simp [short] at h4
    | succ j =>
      have hz : us.all (· == 0) = false := by
        cases hz : us.all (· == 0) with
        | false => rfl
        | true => simp only [short, hz, if_true, List.length_nil] at h4; omega
      simp only [short, hz, Bool.false_eq_true, if_false, List.length_cons, Nat.add_right_cancel_iff] at h1 h4
      have ha : acc.length + (short j (us.map (· / 2))).length + 1 ≤ 200 := by rw [← h1] at hlen; simp at hlen; omega
      simp
      refine out_lc (fun v => D.bl (decide ((0 : Int) < (v : Int)))) hl (fun v _ => by simp [di]) ?_
      have : (us.map fun v : Nat => D.bl (decide ((0 : Int) < (v : Int)))) = (us.map fun v : Nat => decide ((0 : Int) < (v : Int))).map D.bl := by simp
      rw [lst_vs _ (by simpa using hl), this]
      simp only [out_ok, any_lb, tru_b]
      refine ⟨?_, ?_⟩
      · simp only [List.any_map, List.any_eq_true]
        obtain ⟨u, hu, h⟩ := List.all_eq_false.mp hz
        exact ⟨u, hu, by simp at h ⊢; omega⟩
      · refine out_lc (fun v => di (v % 2)) hl (fun v _ => by simp [di]) ?_
        rw [lst_vs _ (by simpa using hl)]
        have e2 : (us.map fun v => di (v % 2)) = (us.map (· % 2)).map di := by simp
        have hd : dg us < 8 := Nat.lt_of_lt_of_le dg_lt (Nat.pow_le_pow_right (by decide) h3)
        simp only [out_ok, e2, t_number_by]
        have e3 : di (nb (us.map (· % 2))) = .int ((dg us : Nat) : Int) := rfl
        rw [e3, ix_abc hd]
        simp only [out_ok, add_ss (rowS acc) (rowS [dg us]) (by simp; unfold sizeLine; omega), rowS_app]
        simp
        refine out_lc (fun v => di (v / 2)) hl (fun v _ => by simp [di]) ?_
        rw [lst_vs _ (by simpa using hl)]
        have e4 : (us.map fun v => di (v / 2)) = (us.map (· / 2)).map di := by simp
        simp only [out_ok, e4]
        refine ⟨acc ++ [dg us], us.map (· / 2), ⟨rfl, rfl⟩, j, by simpa using h1, ?_, by simpa using h3, h4⟩
        intro u hu
        obtain ⟨w, hw, rfl⟩ := List.mem_map.mp hu
        have := h2 w hw
        rw [Nat.pow_succ] at this
        show w / 2 < 2 ^ j
        omega
  · rintro σ o ⟨acc, us, j, x, rfl, h1, h2, h3, h4⟩
    have hl : us.length ≤ sizeLine := by unfold sizeLine; omega
    have hs : short j us = [] := List.length_eq_zero_iff.mp h4.symm
    have hz := short_nil h2 hs
    rw [hs, List.append_nil] at h1
    simp
    refine out_lc (fun v => D.bl (decide ((0 : Int) < (v : Int)))) hl (fun v _ => by simp [di]) ?_
    have : (us.map fun v : Nat => D.bl (decide ((0 : Int) < (v : Int)))) = (us.map fun v : Nat => decide ((0 : Int) < (v : Int))).map D.bl := by simp
    rw [lst_vs _ (by simpa using hl), this]
    simp only [out_ok, any_lb, tru_b]
    refine ⟨?_, by simp [h1]⟩
    simp only [List.any_map, List.any_eq_false]
    intro u hu
    simp [hz u hu]
/-! ### is_number, check_numbers, row_for -/
theorem t_is_number (v a b : Int) {o : Objs} : callW fi_is_number [.v (.int v), .v (.int a), .v (.int b)] o = .ok (.v (.bl (decide (a ≤ v) && decide (v ≤ b)))) o := by
  refine cp3 rfl rfl rfl ?_
  simp [m_is_number]
  by_cases h : a ≤ v <;> simp [h]
theorem t_check_numbers (vs : List Nat) (hn : 1 ≤ vs.length ∧ vs.length ≤ 3) (hv : ∀ v ∈ vs, v < 10 ^ 40) {o : Objs} : callW fi_check_numbers [.v (.tup (vs.map di)), .v (.int 1)] o = .ok (.v .non) o := by
  refine cpn2 rfl rfl rfl ?_
  have hl : vs.length ≤ sizeLine := by unfold sizeLine; omega
  have h1 : (1 : Int) ≤ vs.length := by omega
  have h2 : (vs.length : Int) ≤ 3 := by omega
  simp [m_check_numbers, h1, h2]
  refine out_lc (fun v => D.bl true) hl (fun v hm => by
    have := hv v hm
    simp [di, t_is_number]
    omega) ?_
  rw [lst_vs _ (by simpa using hl)]
  have : (vs.map fun v => D.bl true) = (vs.map fun v => true).map D.bl := by simp
  rw [this]
  simp only [out_ok, all_l]
  simp
theorem pow40 : (10 : Nat) ^ 40 < 2 ^ 133 := by decide +kernel
theorem t_row_for (vs : List Nat) (hn : 1 ≤ vs.length ∧ vs.length ≤ 3) (hv : ∀ v ∈ vs, v < 10 ^ 40) {o : Objs} : callW fi_row_for [.v (.tup (vs.map di))] o = .ok (.v (.str (rowS (short 133 vs)))) o := by
  refine cp1 rfl rfl rfl ?_
  have hl : ∀ v ∈ vs, v < 2 ^ 133 := fun v h => Nat.lt_trans (hv v h) pow40
  simp [m_row_for, t_check_numbers vs hn hv, t_shortest vs 133 hn.2 hl (by decide)]
/-! ### is_row, numbers_by -/
theorem cut_abc {m : Nat} (h : m ≤ 8) : cutS ("abcdefgh" : Str) none (some (m : Int)) = rowS (List.range m) := by
  match m, h with
  | 0, _ => decide +kernel
  | 1, _ => decide +kernel
  | 2, _ => decide +kernel
  | 3, _ => decide +kernel
  | 4, _ => decide +kernel
  | 5, _ => decide +kernel
  | 6, _ => decide +kernel
  | 7, _ => decide +kernel
  | 8, _ => decide +kernel
theorem sl_abc {o : Objs} {m : Nat} (h : m ≤ 8) : slW false (.v (.str "abcdefgh")) none (some (m : Int)) o = .ok (.v (.str (rowS (List.range m)))) o := by
  simp only [slW, abc_len, if_true, cut_abc h]
theorem in_row {o : Objs} {d m : Nat} : inW (.v (.str (rowS [d]))) (.v (.str (rowS (List.range m)))) o = .ok (.v (.bl (decide (d < m)))) o := by
  have h1 : (rowS [d]).cps.size = 1 := rfl
  have h2 : (rowS [d]).cps.toList.headD 0 = 97 + d := rfl
  simp only [inW, inOf, h1, if_true]
  rw [h2, rowS_list]
  congr 4
  refine propext ?_
  rw [List.mem_map]
  constructor
  · rintro ⟨a, ha, e⟩; simp at ha; omega
  · intro h; exact ⟨d, by simpa using h, rfl⟩
theorem row_size {ds : List Nat} (h : ds.length ≤ 200) : ds.length ≤ sizeLine := by unfold sizeLine; omega
theorem len_row {o : Objs} (ds : List Nat) (h : ds.length ≤ 200) : lenW (.v (.str (rowS ds))) o = .ok (.v (.int ds.length)) o := by
  rw [len_s _ (by rw [rowS_len]; exact row_size h), rowS_len]
theorem t_is_row (ds : List Nat) (m : Nat) (hm : m ≤ 8) (hd : ∀ d ∈ ds, d < m) (hl : ds.length ≤ 200) {o : Objs} : callW fi_is_row [.v (.str (rowS ds)), .v (di m), .v (.int 200)] o = .ok (.v (.bl true)) o := by
  refine cp3 rfl rfl rfl ?_
  simp [m_is_row, di]
  refine out_lc (fun v => D.bl true) (row_size hl) (fun v hv => by simp [sl_abc hm, in_row, hd v hv]) ?_
  rw [lst_vs _ (by simpa using row_size hl)]
  have : (ds.map fun v => D.bl true) = (ds.map fun v => true).map D.bl := by simp
  rw [this]
  simp only [out_ok, all_l]
  simp [isW, len_row ds hl]
  omega
theorem t_check_tracks (n : Nat) (h : 1 ≤ n ∧ n ≤ 3) {o : Objs} : callW fi_check_tracks [.v (di n)] o = .ok (.v .non) o := by
  refine cpn1 rfl rfl rfl ?_
  have h1 : (1 : Int) ≤ n := by omega
  have h2 : (n : Int) ≤ 3 := by omega
  simp [m_check_tracks, di, t_is_number, h1, h2]
@[simp] theorem mul_i2 {o : Objs} (i : Int) : mulW (.v (.int i)) (.v (.int 2)) o = .ok (.v (.int (i * 2))) o := mul_ii i 2 (.inr (by decide))
theorem t_power_of (n : Nat) (h : n ≤ 3) {o : Objs} : callW fi_power_of [.v (di n)] o = .ok (.v (di (2 ^ n))) o := by
  refine cp1 rfl rfl rfl ?_
  simp [m_power_of, di, rng_s n (by omega)]
  refine out_for (fun i σ o => ∃ x, σ = [some (.v (.int (n : Int))), some (.v (di (2 ^ i))), x]) ⟨_, rfl⟩ ?_ ?_
  · rintro i d σ o hd ⟨x, rfl⟩
    simp [di, Int.pow_succ]
  · rintro σ o ⟨x, rfl⟩
    simp [rng_eq, di]
theorem range_snoc {α : Type} (f : Nat → α) (i : Nat) : (List.range (i + 1)).map f = (List.range i).map f ++ [f i] := by rw [List.range_succ]; simp
theorem t_figures_of (p n : Nat) (h : n ≤ 3) {o : Objs} : callW fi_figures_of [.v (di p), .v (di n)] o = .ok (.v (.lst ((List.range n).map fun t => di (p / 2 ^ t % 2)))) o := by
  refine cpo2 rfl rfl rfl ?_
  simp [m_figures_of, di, rng_s n (by omega)]
  refine out_for (fun i σ o => i ≤ n → ∃ x, σ = [some (.v (di (p / 2 ^ i))), some (.v (.int (n : Int))), some (.o 0), x] ∧ o = [⟨true, .lst ((List.range i).map fun t => di (p / 2 ^ t % 2))⟩]) (fun _ => ⟨none, by simp [di], rfl⟩) ?_ ?_
  · intro i d σ o hd hi
    have hi' : i < n := by have := (List.getElem?_eq_some_iff.mp hd).1; simpa [rng_eq] using this
    obtain ⟨x, rfl, rfl⟩ := hi (by omega)
    have hs : i < sizeLine := by unfold sizeLine; omega
    simp [mtyOk, appendL, di, hs, range_snoc, Nat.pow_succ, ← Nat.div_div_eq_div_mul]
  · intro σ o hi
    obtain ⟨x, rfl, rfl⟩ := hi (by simp [rng_eq])
    simp [rng_eq, di]
theorem t_figures_by (ds : List Nat) (hd : ∀ d ∈ ds, d < 8) (hl : ds.length ≤ 200) {o : Objs} : callW fi_figures_by [.v (.str (rowS ds))] o = .ok (.v (.lst (ds.map di))) o := by
  refine cp1 rfl rfl rfl ?_
  simp [m_figures_by]
  refine out_lc di (row_size hl) (fun v hv => by simp [idx_abc (hd v hv), di]) ?_
  simp [-List.map_map, lst_vs (ds.map di) (by simpa using row_size hl)]
theorem t_numbers_of (n : Nat) (ds : List Nat) (hn : n ≤ 3) (hd : ∀ d ∈ ds, d < 8) (hl : ds.length ≤ 200) {o : Objs} : callW fi_numbers_of [.v (di n), .v (.str (rowS ds))] o = .ok (.v (.tup ((vals n ds).map di))) o := by
  refine cp2 rfl rfl rfl ?_
  simp [m_numbers_of, t_figures_by ds hd hl]
  refine out_lc (fun p => .lst ((List.range n).map fun t => di (p / 2 ^ t % 2))) (row_size hl) (fun v hv => by simp [t_figures_of v n hn]) ?_
  rw [lst_vs _ (by simpa using row_size hl)]
  simp [di, rng_s n (by omega), rng_eq]
  refine out_lc (fun t => di (val t ds)) (by simp; unfold sizeLine; omega) (fun t ht => ?_) ?_
  · simp
    refine out_lc (fun p => di (p / 2 ^ t % 2)) (row_size hl) (fun p hp => ?_) ?_
    · have ht' : t < n := by simpa using ht
      simp
      rw [ix_l _ t (di (p / 2 ^ t % 2)) (by simp [ht', di])]
      simp
    · rw [lst_vs _ (by simpa using row_size hl)]
      have : (ds.map fun p => di (p / 2 ^ t % 2)) = (ds.map fun p => p / 2 ^ t % 2).map di := by simp
      simp only [out_ok, this, t_number_by]
      simp [val]
  · rw [lst_vs _ (by simp; unfold sizeLine; omega)]
    simp [vals, di]
theorem pow8 {n : Nat} (h : n ≤ 3) : 2 ^ n ≤ 8 := Nat.pow_le_pow_right (by decide) h
theorem t_numbers_by (n : Nat) (ds : List Nat) (hn : 1 ≤ n ∧ n ≤ 3) (hd : ∀ d ∈ ds, d < 2 ^ n) (hl : ds.length ≤ 200) {o : Objs} : callW fi_numbers_by [.v (di n), .v (.str (rowS ds))] o = .ok (.v (.tup ((vals n ds).map di))) o := by
  refine cp2 rfl rfl rfl ?_
  have hp := pow8 hn.2
  simp [m_numbers_by, t_check_tracks n hn, t_power_of n hn.2, t_is_row ds (2 ^ n) hp hd hl, t_numbers_of n ds hn.2 (fun d h => Nat.lt_of_lt_of_le (hd d h) hp) hl]
end Lk62

set_option maxHeartbeats 4000000
namespace Lk62
open PySem PySem.Spec PyProof.Rows L2 RR
/-! ### the barrel -/
section
variable {f s c x : Int} {r : Objs}
@[simp] theorem br_0 : ixW (.o 0) (.v (.int 0)) (br f s c :: r) = .ok (.v (.int f)) (br f s c :: r) := id rfl
@[simp] theorem br_1 : ixW (.o 0) (.v (.int 1)) (br f s c :: r) = .ok (.v (.int s)) (br f s c :: r) := id rfl
@[simp] theorem br_2 : ixW (.o 0) (.v (.int 2)) (br f s c :: r) = .ok (.v (.int c)) (br f s c :: r) := id rfl
@[simp] theorem bs_0 : setW (.o 0) (.v (.int 0)) (.v (.int x)) (br f s c :: r) = .ok () (br x s c :: r) := id rfl
@[simp] theorem bs_1 : setW (.o 0) (.v (.int 1)) (.v (.int x)) (br f s c :: r) = .ok () (br f x c :: r) := id rfl
@[simp] theorem bs_2 : setW (.o 0) (.v (.int 2)) (.v (.int x)) (br f s c :: r) = .ok () (br f s x :: r) := id rfl
end
theorem mulL (k : Int) (h : -(2 ^ 64) < k ∧ k < 2 ^ 64) (j : Int) {o : Objs} : mulW (.v (.int k)) (.v (.int j)) o = .ok (.v (.int (k * j))) o := mul_ii k j (.inl h)
theorem mulR (k : Int) (h : -(2 ^ 64) < k ∧ k < 2 ^ 64) (j : Int) {o : Objs} : mulW (.v (.int j)) (.v (.int k)) o = .ok (.v (.int (j * k))) o := mul_ii j k (.inr h)
theorem modC (k : Int) (h : 0 < k) (j : Int) {o : Objs} : modW (.v (.int j)) (.v (.int k)) o = .ok (.v (.int (j % k))) o := mod_ii j k h
theorem t_scoop (top : Nat) (h0 : 0 < top) (h1 : top < 1073741824) : Draws fi__law_scoop [di top] fun d => ∃ r : Nat, d = di r ∧ r < top := by
  refine dr rfl fun f s c => ?_
  have hq : CDiv f (top : Int) := ⟨by omega, by omega⟩
  have hp : (0 : Int) < (top : Int) := by omega
  have fin : ∀ z : Int, ∃ r : Nat, D.int (z % (top : Int)) = D.int (r : Int) ∧ r < top := fun z => ⟨(z % (top : Int)).toNat, by
    congr 1; have := Int.emod_nonneg z (show (top : Int) ≠ 0 by omega); omega, by
    have := Int.emod_lt_of_pos z hp; have := Int.emod_nonneg z (show (top : Int) ≠ 0 by omega); omega⟩
  by_cases hf : 0 < f
  · simp [m__law_scoop, di, hf, divmodW, hq]
    exact .mk (fin f)
  · have b1 : ∀ z : Int, -(2 ^ 64) < z % 2147483269 ∧ z % 2147483269 < 2 ^ 64 := fun z => by
      have := Int.emod_nonneg z (show (2147483269 : Int) ≠ 0 by omega); have := Int.emod_lt_of_pos z (show (0 : Int) < 2147483269 by omega); omega
    simp [m__law_scoop, di, hf, mulL 60119 (by decide), mulL 71 (by decide), modC 2147483269 (by decide), modC 30011 (by decide), mulL _ (b1 _), fdiv_ii _ 331 (by decide), mod_ii _ (top : Int) hp]
    exact .mk (fin _)
theorem t_choose (xs : List D) (h0 : xs ≠ []) (h1 : xs.length < 1073741824) : Draws fi__law_choose [.lst xs] fun d => d ∈ xs := by
  refine dr rfl fun f s c => ?_
  simp [m__law_choose]
  refine out_draw1 (t_scoop xs.length (List.length_pos_iff.mpr h0) h1) rfl rfl ?_
  rintro d f' s' c' ⟨r, rfl, hr⟩
  simp [di]
  rw [ix_l xs r xs[r] (List.getElem?_eq_getElem hr)]
  simp
  exact .mk (List.getElem_mem hr)
theorem t_chooseS (m : Nat) (h0 : 0 < m) (h1 : m ≤ 8) : Draws fi__law_choose [.str (rowS (List.range m))] fun d => ∃ x, x < m ∧ d = .str (rowS [x]) := by
  refine dr rfl fun f s c => ?_
  have hl : (rowS (List.range m)).length ≤ sizeLine := by simp; unfold sizeLine; omega
  simp [m__law_choose, len_s _ hl]
  refine out_draw1 (a := .int (m : Int)) (t_scoop m h0 (by omega)) rfl rfl ?_
  rintro d f' s' c' ⟨r, rfl, hr⟩
  simp [di]
  rw [ix_s _ r (97 + r) hl (by simp [hr])]
  simp
  exact .mk ⟨r, hr, rfl⟩
/-! ### _law_figures -/
theorem val_snoc (t : Nat) (d : Nat) (ds : List Nat) : val t (ds ++ [d]) = val t ds + 2 ^ ds.length * (d / 2 ^ t % 2) := by
  induction ds with
  | nil => simp [val_cons, val_nil]
  | cons e ds ih => simp only [List.cons_append, val_cons, ih, List.length_cons, Nat.pow_succ]; rw [Nat.mul_add, ← Nat.mul_assoc, Nat.mul_comm 2 (2 ^ ds.length)]; omega
theorem t_figures (n : Nat) (ds : List Nat) (hn : n ≤ 3) (hd : ∀ d ∈ ds, d < 8) (hl : ds.length ≤ 200) {o : Objs} : callW fi__law_figures [.v (di n), .v (.str (rowS ds))] o = .ok (.v (.tup ((vals n ds).map di))) o := by
  refine cp2 rfl rfl rfl ?_
  simp [m__law_figures, di, rng_s n (by omega)]
  refine out_for (fun i σ o => i ≤ n → ∃ x y z u, σ = [some (.v (.int (n : Int))), some (.v (.str (rowS ds))), some (.o 0), x, y, z, u] ∧ o = [⟨true, .lst ((List.range i).map fun t => di (val t ds))⟩]) (fun _ => ⟨none, none, none, none, by simp, rfl⟩) ?_ ?_
  · intro i d σ o he hi
    have hi' : i < n := by have := (List.getElem?_eq_some_iff.mp he).1; simpa [rng_eq] using this
    have hdi : d = .int (i : Int) := by simp [rng_eq, hi'] at he; exact he.symm
    subst hdi
    obtain ⟨x, y, z, u, rfl, rfl⟩ := hi (by omega)
    simp
    refine out_for (fun j σ o => ∃ u, σ = [some (.v (.int (n : Int))), some (.v (.str (rowS ds))), some (.o 0), some (.v (.int (i : Int))), some (.v (di (val i (ds.take j)))), some (.v (di (2 ^ j))), u] ∧ o = [⟨true, .lst ((List.range i).map fun t => di (val t ds))⟩]) ⟨u, by simp [di, val_nil], rfl⟩ ?_ ?_
    · rintro j d σ o he ⟨u, rfl, rfl⟩
      rw [List.getElem?_map] at he
      cases hv : ds[j]? with
      | none => rw [hv] at he; simp at he
      | some v =>
        rw [hv] at he; simp at he; subst he
        have hv8 := hd v (List.mem_of_getElem? hv)
        have hj : j < ds.length := (List.getElem?_eq_some_iff.mp hv).1
        simp [idx_abc hv8]
        have hw : (0 : Int) < 2 ^ i ∧ (2 ^ i : Int) < 1073741824 := by
          have : i = 0 ∨ i = 1 ∨ i = 2 := by omega
          rcases this with rfl | rfl | rfl <;> decide
        rw [ix_l _ i (.int (2 ^ i)) (by
          have : i = 0 ∨ i = 1 ∨ i = 2 := by omega
          rcases this with rfl | rfl | rfl <;> rfl)]
        simp only [out_ok, fdiv_ii _ _ hw, mod_i2]
        have hb : -(2 ^ 64) < ((v : Int) / 2 ^ i % 2) ∧ ((v : Int) / 2 ^ i % 2) < 2 ^ 64 := by omega
        simp [di, mulR _ hb, List.take_add_one, hv, val_snoc, Int.pow_succ]
        rw [Nat.min_eq_left (by omega)]
        exact ⟨rfl, Int.mul_comm _ _⟩
    · rintro σ o ⟨u, rfl, rfl⟩
      have hs : i < sizeLine := by unfold sizeLine; omega
      simp [mtyOk, appendL, hs, range_snoc]
  · intro σ o hi
    obtain ⟨x, y, z, u, rfl, rfl⟩ := hi (by simp [rng_eq])
    simp [rng_eq, tupleW, lstW, vals, di]
end Lk62

set_option maxHeartbeats 4000000
namespace Lk62
open PySem PySem.Spec PyProof.Rows L2 RR
theorem sh_tn (vs : List Nat) : SeqAt.shaped (py (.tup (vs.map di))) = true := by
  have e : vs.map di = (vs.map fun v : Nat => (v : Int)).map D.int := by
    rw [List.map_map]; rfl
  rw [e]; exact sh_ti _
theorem ix248 {n m : Nat} (hn : 1 ≤ n ∧ n ≤ 3) (hm : m = 2 ^ n) {o : Objs} : ixW (.v (.lst [.int 2, .int 4, .int 8])) (.v (.int ((n : Int) - 1))) o = .ok (.v (.int (m : Int))) o := by
  have : n = 1 ∨ n = 2 ∨ n = 3 := by omega
  subst hm
  rcases this with rfl | rfl | rfl <;> rfl
theorem signs_of {rs : List D} {m : Nat} (h : ∀ r ∈ rs, ∃ x, x < m ∧ r = .str (rowS [x])) : ∃ ds : List Nat, rs = (ds.map fun d => rowS [d]).map D.str ∧ ∀ d ∈ ds, d < m := by
  induction rs with
  | nil => exact ⟨[], rfl, by simp⟩
  | cons r rs ih =>
    obtain ⟨ds, e, hd⟩ := ih fun r hr => h r (by simp [hr])
    obtain ⟨x, hx, rfl⟩ := h r (by simp)
    exact ⟨x :: ds, by simp [e], by simpa using ⟨hx, hd⟩⟩
theorem join_signs (ds : List Nat) : Txt.join ("" : Str) (ds.map fun d => rowS [d]) = rowS ds := by
  rw [TL.join_eq]
  induction ds with
  | nil => rfl
  | cons d ds ih =>
    cases ds with
    | nil => simp [Str.join]
    | cons e ds =>
      simp only [List.map_cons, Str.join] at ih ⊢
      rw [ih, ← rowS_nil]
      simp
theorem t_join (ds : List Nat) (hl : ds.length ≤ 200) {o : Objs} : joinS (.v (.str "")) [.v (.lst ((ds.map fun d => rowS [d]).map D.str))] o = .ok (.v (.str (rowS ds))) o := by
  have h0 : ("" : Str).length = 0 := by decide +kernel
  have hs : ((ds.map fun d => rowS [d]).map (·.length)).sum = ds.length := by
    clear hl
    induction ds with
    | nil => rfl
    | cons d ds ih => simp only [List.map_cons, List.sum_cons, ih, List.length_cons, rowS_len, List.length_nil]; omega
  have hb : ((ds.map fun d => rowS [d]).map (·.length)).sum + (ds.map fun d => rowS [d]).length * ("" : Str).length ≤ 16777216 := by
    rw [hs, h0]; omega
  simp only [joinS, seqW, strsD_map, hb, if_true, join_signs]
theorem cutz_zeros (ds : List Nat) (k : Nat) : cutz (ds ++ List.replicate k 0) = cutz ds := by
  induction ds with
  | nil => simp only [List.nil_append]; rw [cutz_nil (by simp)]; rfl
  | cons d ds ih => simp only [List.cons_append, cutz, ih]
theorem vals_zeros (n : Nat) (ds : List Nat) (k : Nat) : vals n (ds ++ List.replicate k 0) = vals n ds := by simp [vals, val_zeros]
theorem vals_cutz (n : Nat) (ds : List Nat) : vals n (cutz ds) = vals n ds := by simp [vals, val_cutz]
theorem vals_lt {n : Nat} {ds : List Nat} (hl : ds.length ≤ 130) : ∀ v ∈ vals n ds, v < 10 ^ 40 := by
  intro v hv
  obtain ⟨t, _, rfl⟩ := List.mem_map.mp hv
  have h1 := val_lt t ds
  have h2 : (2 : Nat) ^ ds.length ≤ 2 ^ 130 := Nat.pow_le_pow_right (by decide) hl
  have h3 : (2 : Nat) ^ 130 < 10 ^ 40 := by decide +kernel
  exact Nat.lt_of_lt_of_le h1 (Nat.le_of_lt (Nat.lt_of_le_of_lt h2 h3))
theorem rep_a (k : Nat) (h : k ≤ 200) {o : Objs} : mulW (.v (.str "a")) (.v (.int (k : Int))) o = .ok (.v (.str (rowS (List.replicate k 0)))) o := by
  have h1 : ("a" : Str).length = 1 := by decide +kernel
  rw [mul_si _ k ⟨by omega, by rw [h1]; unfold sizeLine; omega⟩, rowS_a]
theorem add_rows (a b : List Nat) (h : a.length + b.length ≤ 300) {o : Objs} : addW (.v (.str (rowS a))) (.v (.str (rowS b))) o = .ok (.v (.str (rowS (a ++ b)))) o := by
  rw [add_ss _ _ (by simp; unfold sizeLine; omega), rowS_app]
theorem t_rstrip (ds : List Nat) (h : ds.length ≤ 200) {o : Objs} : rstripS (.v (.str (rowS ds))) [.v (.str "a")] o = .ok (.v (.str (rowS (cutz ds)))) o := by
  have : (rowS ds).length ≤ sizeLine := by simpa using row_size h
  simp only [rstripS, this, if_true, rstrip_a]
theorem aaa : ("aaa" : Str) = rowS [0, 0, 0] := by decide +kernel
theorem n_draw {r : Nat} (h : r < 3) : ∃ n : Nat, (1 : Int) + (r : Int) = (n : Int) ∧ 1 ≤ n ∧ n ≤ 3 := ⟨r + 1, by omega, by omega, by omega⟩
theorem t_row_right : Draws fi__law_row_right [] fun d => d = .bl true := by
  refine dr rfl fun f s c => ?_
  simp [m__law_row_right]
  refine out_draw1 (a := .int 3) (t_scoop 3 (by decide) (by decide)) rfl rfl ?_
  rintro d f s c ⟨r, rfl, hr⟩
  obtain ⟨n, e, hn⟩ := n_draw hr
  simp only [di, add_ii, e, out_ok]
  generalize hm : 2 ^ n = m
  have hm8 : m ≤ 8 := hm ▸ pow8 hn.2
  have hm0 : 0 < m := hm ▸ Nat.pow_pos (by decide)
  simp [ix248 hn hm.symm, sl_abc hm8]
  refine out_draw1 (t_choose _ (by simp) (by simp)) rfl rfl ?_
  intro d f s c hd
  obtain ⟨z, rfl, hz⟩ : ∃ z : Nat, d = .int (z : Int) ∧ z ≤ 130 := by
    simp at hd
    rcases hd with rfl | rfl | rfl | rfl | rfl | rfl | rfl
    · exact ⟨0, rfl, by decide⟩
    · exact ⟨1, rfl, by decide⟩
    · exact ⟨2, rfl, by decide⟩
    · exact ⟨3, rfl, by decide⟩
    · exact ⟨6, rfl, by decide⟩
    · exact ⟨40, rfl, by decide⟩
    · exact ⟨130, rfl, by decide⟩
  simp [rng_s z (by omega)]
  refine out_lcI (fun o => ∃ f s c, o = [br f s c]) (fun d => ∃ x, x < m ∧ d = .str (rowS [x])) (by simp [rng_eq]; unfold sizeLine; omega) ⟨_, _, _, rfl⟩ ?_ ?_
  · rintro d _ o ⟨f, s, c, rfl⟩
    simp
    refine out_draw1 (t_chooseS m hm0 hm8) rfl rfl ?_
    rintro d f' s' c' ⟨x, hx, rfl⟩
    exact ⟨_, rfl, ⟨x, hx, rfl⟩, _, _, _, rfl⟩
  · rintro rs o hrl hrs ⟨f, s, c, rfl⟩
    obtain ⟨ds, rfl, hd⟩ := signs_of hrs
    have hl : ds.length ≤ 130 := by simp [rng_eq] at hrl; omega
    rw [lst_vs _ (by simp; unfold sizeLine; omega)]
    simp only [out_ok, t_join ds (by omega)]
    refine out_draw1 (t_choose _ (by simp) (by simp)) rfl rfl ?_
    intro d f s c hd'
    obtain ⟨k, rfl, hk⟩ : ∃ k : Nat, d = .int (k : Int) ∧ k ≤ 60 := by
      simp at hd'
      rcases hd' with rfl | rfl | rfl
      · exact ⟨0, rfl, by decide⟩
      · exact ⟨1, rfl, by decide⟩
      · exact ⟨60, rfl, by decide⟩
    simp only [rep_a k (by omega), out_ok, add_rows ds (List.replicate k 0) (by simp; omega)]
    have hd1 : ∀ d ∈ ds ++ List.replicate k 0, d < 2 ^ n := by
      rw [hm]; intro d h; rcases List.mem_append.mp h with h | h
      · exact hd d h
      · rw [(List.mem_replicate.mp h).2]; exact hm0
    have hl1 : (ds ++ List.replicate k 0).length ≤ 190 := by simp; omega
    have hs1 : cutz (ds ++ List.replicate k 0) = cutz ds := cutz_zeros ds k
    have hv1 : vals n (ds ++ List.replicate k 0) = vals n ds := vals_zeros n ds k
    generalize ds ++ List.replicate k 0 = L at hd1 hl1 hs1 hv1
    have h8 : ∀ d ∈ L, d < 8 := fun d h => Nat.lt_of_lt_of_le (hd1 d h) (pow8 hn.2)
    have k1 : ∀ o : Objs, callW fi__law_figures [.v (.int (n : Int)), .v (.str (rowS L))] o = .ok (.v (.tup ((vals n L).map di))) o := fun o => t_figures n L hn.2 h8 (by omega)
    have k2 : ∀ o : Objs, callW fi_numbers_by [.v (.int (n : Int)), .v (.str (rowS L))] o = .ok (.v (.tup ((vals n L).map di))) o := fun o => t_numbers_by n L hn hd1 (by omega)
    have hsl : (cutz ds).length ≤ 130 := Nat.le_trans (cutz_len ds) hl
    have k3 : ∀ o : Objs, callW fi_row_for [.v (.tup ((vals n L).map di))] o = .ok (.v (.str (rowS (cutz L)))) o := fun o => by
      rw [t_row_for (vals n L) (by rw [vals_len]; exact hn) (by rw [hv1]; exact vals_lt hl), hv1, hs1, short_vals hn.2 133 (fun d h => by rw [hm]; exact hd d h) (by omega)]
    have k4 : ∀ o : Objs, callW fi_numbers_by [.v (.int (n : Int)), .v (.str (rowS (cutz L ++ [0, 0, 0])))] o = .ok (.v (.tup ((vals n L).map di))) o := fun o => by
      have := t_numbers_by n (cutz L ++ [0, 0, 0]) hn (fun d h => by
        rcases List.mem_append.mp h with h | h
        · exact hd1 d (cutz_mem h)
        · simp at h; rw [h]; exact Nat.pow_pos (by decide)) (by rw [hs1]; simp; omega) (o := o)
      rw [show cutz L ++ [0, 0, 0] = cutz L ++ List.replicate 3 0 from rfl, vals_zeros, vals_cutz] at this
      exact this
    simp [k1, k2, permL, ne_t _ (sh_tn _), k3, t_rstrip L (by omega), aaa, add_rows (cutz L) [0, 0, 0] (by rw [hs1]; simp; omega), k4]
    refine out_lcN (fun v hv => by simp [di]) ?_
    have hq : ∀ o : Objs, eqW (.v (.lst [])) (.v (.lst [])) o = .ok (.v (.bl true)) o := fun o => eq_l [] rfl
    simp [hq]
    exact .mk rfl
end Lk62

set_option maxHeartbeats 4000000
namespace Lk62
open PySem PySem.Spec PyProof.Rows L2 RR
/-! ### _law_shortest -/
theorem ints_di (us : List Nat) : intsD (us.map di) = some (us.map fun v : Nat => (v : Int)) := by
  have : us.map di = (us.map fun v : Nat => (v : Int)).map D.int := by rw [List.map_map]; rfl
  rw [this, intsD_map]
theorem max_zero {us : List Nat} {o : Objs} : maxW [.v (.lst (us.map di ++ [.int 0]))] o = .ok (.v (.int (maxI ((us ++ [0]).map fun v : Nat => (v : Int))))) o := by
  have : us.map di ++ [.int 0] = (us ++ [0]).map di := by simp [di]
  rw [this]
  simp only [maxW, lstW, ints_di]
  simp
theorem max_pos {us : List Nat} : 0 < maxI ((us ++ [0]).map fun v : Nat => (v : Int)) ↔ us.all (· == 0) = false := by
  have h := maxI_mem (is := (us ++ [0]).map fun v : Nat => (v : Int)) (by simp)
  obtain ⟨h1, h2⟩ := h
  obtain ⟨v, hv, e⟩ := List.mem_map.mp h1
  rw [List.all_eq_false]
  constructor
  · intro hp
    refine ⟨v, ?_, by simp; omega⟩
    rcases List.mem_append.mp hv with h | h
    · exact h
    · simp at h; omega
  · rintro ⟨u, hu, h⟩
    have := h2 (u : Int) (List.mem_map.mpr ⟨u, by simp [hu], rfl⟩)
    simp at h
    omega
theorem max_ex (us : List Nat) : ∃ M : Int, (∀ o : Objs, maxW [.v (.lst (us.map di ++ [.int 0]))] o = .ok (.v (.int M)) o) ∧ (0 < M ↔ us.all (· == 0) = false) := ⟨_, fun _ => max_zero, max_pos⟩
theorem short_succ (k : Nat) (vs : List Nat) : short (k + 1) vs = if vs.all (· == 0) then [] else dg vs :: short k (vs.map (· / 2)) := rfl
theorem dg_sum (us : List Nat) (h : us.length ≤ 3) : ((List.range us.length).map fun k => (us.getD k 0 : Int) % 2 * 2 ^ k).sum = (dg us : Int) := by
  match us, h with
  | [], _ => rfl
  | [a], _ => simp [List.range_succ, dg, nb]
  | [a, b], _ => simp [List.range_succ, dg, nb]; omega
  | [a, b, c], _ => simp [List.range_succ, dg, nb]; omega
theorem t_lshort (vs : List Nat) (hn : vs.length ≤ 3) (hv : ∀ v ∈ vs, v < 2 ^ 133) {o : Objs} : callW fi__law_shortest [.v (.tup (vs.map di))] o = .ok (.v (.str (rowS (short 133 vs)))) o := by
  refine cp1 rfl rfl rfl ?_
  have hl : vs.length ≤ sizeLine := by unfold sizeLine; omega
  have hv2 : ∀ v ∈ vs, v < 2 ^ 200 := fun v h => Nat.lt_of_lt_of_le (hv v h) (Nat.pow_le_pow_right (by decide) (by decide))
  have e200 : short 133 vs = short 200 vs := (short_big hv (by decide)).symm
  have hlen := short_len 200 (vs := vs)
  obtain ⟨TT, hTT⟩ : ∃ TT, short 200 vs = TT := ⟨_, rfl⟩
  rw [hTT] at hlen e200
  rw [e200]
  simp [m__law_shortest, list_t (vs.map di) (by simpa using hl), rng_s 200 (by decide)]
  rw [show rng1 [W.v (D.int 200)] [] = _ from rng_s 200 (by decide)]
  simp only [out_ok]
  refine out_for (fun i σ o => i ≤ 200 → ∃ acc us x y z, σ = [some (.v (.tup (vs.map di))), some (.v (.str (rowS acc))), some (.v (.lst (us.map di))), x, y, z] ∧ acc ++ short (200 - i) us = TT ∧ (∀ u ∈ us, u < 2 ^ (200 - i)) ∧ us.length ≤ 3) (fun _ => ⟨[], vs, none, none, none, by rw [rowS_nil], hTT, hv2, hn⟩) ?_ ?_
  · intro i d σ o he hi
    have hi' : i < 200 := by have := (List.getElem?_eq_some_iff.mp he).1; simpa [rng_eq] using this
    obtain ⟨acc, us, x, y, z, rfl, h1, h2, h3⟩ := hi (by omega)
    obtain ⟨j, hj⟩ : ∃ j, 200 - i = j + 1 := ⟨200 - i - 1, by omega⟩
    have hj' : 199 - i = j := by omega
    rw [hj] at h1 h2
    have hl : us.length ≤ sizeLine := by unfold sizeLine; omega
    have h2' : ∀ u ∈ us.map (· / 2), u < 2 ^ j := fun u hu => by
      obtain ⟨w, hw, rfl⟩ := List.mem_map.mp hu
      have := h2 w hw
      rw [Nat.pow_succ] at this
      show w / 2 < 2 ^ j
      omega
    obtain ⟨M, hmx, hM⟩ := max_ex us
    simp [add_ll (us.map di) [.int 0] (by simp; unfold sizeLine; omega), hmx]
    cases hz : us.all (· == 0) with
    | true =>
      have hp : ¬ 0 < M := fun q => by rw [hM, hz] at q; simp at q
      have hz' : ∀ u ∈ us, u = 0 := fun u hu => by simpa using List.all_eq_true.mp hz u hu
      simp [hp]
      intro _
      refine ⟨acc, us, ⟨rfl, rfl⟩, ?_, ?_, h3⟩
      · rw [hj', short_zero hz']; rw [short_zero hz'] at h1; exact h1
      · rw [hj']; intro u hu; rw [hz' u hu]; exact Nat.pow_pos (by decide)
    | false =>
      have hp : 0 < M := hM.mpr hz
      simp only [short_succ, hz, Bool.false_eq_true, if_false] at h1
      have ha : acc.length + (short j (us.map (· / 2))).length + 1 ≤ 200 := by rw [← h1] at hlen; simp at hlen; omega
      simp [hp, rng_s us.length (by omega), rng_eq]
      refine out_lc (fun k => D.int ((us.getD k 0 : Int) % 2 * 2 ^ k)) (by simpa using hl) (fun k hk => ?_) ?_
      · have hk' : k < us.length := by simpa using hk
        have hk3 : k = 0 ∨ k = 1 ∨ k = 2 := by omega
        simp
        rw [ix_l _ k (.int (us[k] : Int)) (by simp [hk', di])]
        simp only [out_ok, int_i, mod_i2]
        rw [ix_l _ k (.int (2 ^ k)) (by rcases hk3 with rfl | rfl | rfl <;> rfl)]
        simp only [out_ok]
        rw [mul_ii _ _ (.inl (by omega))]
        simp [hk']
      · have e1 : ((List.range us.length).map fun k => D.int ((us.getD k 0 : Int) % 2 * 2 ^ k)) = ((List.range us.length).map fun k => (us.getD k 0 : Int) % 2 * 2 ^ k).map D.int := by rw [List.map_map]; rfl
        have hd : dg us < 8 := Nat.lt_of_lt_of_le dg_lt (Nat.pow_le_pow_right (by decide) h3)
        rw [lst_vs _ (by simpa using hl), e1]
        simp only [out_ok, sum_l, dg_sum us h3, ix_abc hd, add_rows acc [dg us] (by simp; omega)]
        simp
        refine out_lc (fun v => di (v / 2)) hl (fun v _ => by simp [di]) ?_
        rw [lst_vs _ (by simpa using hl)]
        have e4 : (us.map fun v => di (v / 2)) = (us.map (· / 2)).map di := by simp
        simp only [out_ok, e4]
        simp
        intro _
        refine ⟨acc ++ [dg us], us.map (· / 2), ⟨rfl, by simp⟩, ?_, ?_, by simpa using h3⟩
        · rw [hj']; simpa using h1
        · rw [hj']; exact h2'
  · intro σ o hi
    obtain ⟨acc, us, x, y, z, rfl, h1, h2, h3⟩ := hi (by simp [rng_eq])
    simp [rng_eq, short] at h1
    simp [h1]
/-! ### _law_numbers_right -/
theorem cut_last (R : List Nat) (h : R.getLast? ≠ some 0) : cutS (rowS R) (some (-1)) none ≠ ("a" : Str) := by
  have ha : ("a" : Str) = rowS [0] := by decide +kernel
  rw [ha]
  rcases List.eq_nil_or_concat R with rfl | ⟨S, x, rfl⟩
  · intro h
    have := congrArg Str.length h
    revert this
    decide +kernel
  · rw [List.concat_eq_append] at h ⊢
    intro e
    have : cutS (rowS (S ++ [x])) (some (-1)) none = rowS [x] := by
      simp only [cutS, rowS_len, List.length_append, List.length_singleton, rowS_list, HT.sIx]
      have h1 : ((-1 : Int) + ((S.length + 1 : Nat) : Int)).toNat = S.length := by omega
      simp only [show (-1 : Int) < 0 by decide, if_true, h1]
      simp [rowS]
    rw [this] at e
    have := rowS_inj e
    simp at this
    rw [this] at h
    simp at h
end Lk62

set_option maxHeartbeats 4000000
namespace Lk62
open PySem PySem.Spec PyProof.Rows L2 RR
theorem t_scoop3 : Draws fi__law_scoop [.int 3] fun d => ∃ r : Nat, d = di r ∧ r < 3 := t_scoop 3 (by decide) (by decide)
theorem t_scoop5 : Draws fi__law_scoop [.int 5] fun d => ∃ r : Nat, d = di r ∧ r < 5 := t_scoop 5 (by decide) (by decide)
theorem t_scoop9 : Draws fi__law_scoop [.int 9] fun d => ∃ r : Nat, d = di r ∧ r < 9 := t_scoop 9 (by decide) (by decide)
theorem t_scoop1000 : Draws fi__law_scoop [.int 1000] fun d => ∃ r : Nat, d = di r ∧ r < 1000 := t_scoop 1000 (by decide) (by decide)
theorem t_numbers_right : Draws fi__law_numbers_right [] fun d => d = .bl true := by
  refine dr rfl fun f s c => ?_
  simp [m__law_numbers_right]
  refine out_draw1 t_scoop3 rfl rfl ?_
  intro d f s c hd
  refine Exists.elim hd fun r hq => ?_
  refine Exists.elim (n_draw hq.2) fun n hne => ?_
  have e := hne.1
  have hn := hne.2
  rw [hq.1]
  simp only [di, add_ii, e, out_ok]
  simp [rng_s n (by omega)]
  have hpw : ∀ o : Objs, powW (.v (.int 10)) (.v (.int 40)) o = .ok (.v (.int ((10 ^ 40 : Nat) : Int))) o := fun o => by
    have : CPow 10 40 := by unfold CPow; decide
    simp only [powW, this, if_true]; rfl
  have hpw2 : ∀ o : Objs, powW (.v (.int 16)) (.v (.int 33)) o = .ok (.v (.int ((16 ^ 33 : Nat) : Int))) o := fun o => by
    have : CPow 16 33 := by unfold CPow; decide
    simp only [powW, this, if_true]; rfl
  have h16 : (16 : Nat) ^ 33 < 10 ^ 40 := by decide +kernel
  have h1000 : (1000 : Nat) < 10 ^ 40 := by decide +kernel
  generalize hTT : (10 : Nat) ^ 40 = T at hpw h16 h1000
  generalize (16 : Nat) ^ 33 = U at hpw2 h16
  have hT : ∀ r : Nat, r < 9 → (T : Int) - 1 - (r : Int) = ((T - 1 - r : Nat) : Int) := fun r h => by omega
  refine out_for (fun i σ o => i ≤ n → ∃ (vs : List Nat) (f s c : Int) (x y : Option W), σ = [some (.o 0), some (.v (.int (n : Int))), some (.o 1), x, y, none, none] ∧ o = [br f s c, ⟨true, .lst (vs.map di)⟩] ∧ vs.length = i ∧ ∀ v ∈ vs, v < T) (fun _ => ⟨[], f, s, c, none, none, rfl, rfl, rfl, by simp⟩) ?_ ?_
  · intro i d σ o he hi
    have hi' : i < n := by have := (List.getElem?_eq_some_iff.mp he).1; simpa [rng_eq] using this
    obtain ⟨vs, f, s, c, x, y, rfl, rfl, h1, h2⟩ := hi (by omega)
    simp
    refine out_draw1 t_scoop5 rfl rfl ?_
    rintro d1 f s c ⟨r1, rfl, hr1⟩
    refine out_draw1 t_scoop1000 rfl rfl ?_
    rintro d2 f s c ⟨r2, rfl, hr2⟩
    simp only [hpw, out_ok, sub_ii]
    refine out_draw1 t_scoop9 rfl rfl ?_
    rintro d3 f s c ⟨r3, rfl, hr3⟩
    simp only [hpw2, out_ok, di, sub_ii, hT r3 hr3]
    have hmt : ∀ f s c, mtyOk "list" [br f s c, ⟨true, .lst (vs.map di)⟩] (.o 1) = true := fun _ _ _ => rfl
    simp [hmt]
    refine out_draw1 (t_choose _ ?_ ?_) rfl rfl ?_
    · simp
    · simp
    intro d4 f s c hd
    obtain ⟨v, rfl, hv⟩ : ∃ v : Nat, d4 = di v ∧ v < T := by
      simp at hd
      rcases hd with rfl | rfl | rfl | rfl
      · exact ⟨r1, rfl, by omega⟩
      · exact ⟨r2, rfl, by omega⟩
      · exact ⟨T - 1 - r3, rfl, by omega⟩
      · exact ⟨U, rfl, h16⟩
    have hs : vs.length < sizeLine := by unfold sizeLine; omega
    have hap : appendL (.o 1) [.v (di v)] [br f s c, ⟨true, .lst (vs.map di)⟩] = .ok (.v .non) [br f s c, ⟨true, .lst ((vs ++ [v]).map di)⟩] := by simp [appendL, hs]
    simp only [out_ok, hap]
    intro _
    refine ⟨vs ++ [v], ⟨_, _, _, rfl⟩, by simp [h1], ?_⟩
    intro w hw
    rcases List.mem_append.mp hw with h | h
    · exact h2 w h
    · simp at h; rw [h]; exact hv
  · intro σ o hi
    obtain ⟨vs, f, s, c, x, y, rfl, rfl, h1, h2⟩ := hi (by simp [rng_eq])
    have h1' : vs.length = n := by simpa [rng_eq] using h1
    have h2' : ∀ v ∈ vs, v < 10 ^ 40 := fun v h => hTT ▸ h2 v h
    have h3 : ∀ v ∈ vs, v < 2 ^ 133 := fun v h => Nat.lt_trans (h2' v h) pow40
    have hR1 := short_len 133 (vs := vs)
    have hR2 := short_lt 133 (vs := vs)
    have hR3 := short_vals' h3
    have hR4 := short_last h3
    have k1 : ∀ o : Objs, callW fi_row_for [.v (.tup (vs.map di))] o = .ok (.v (.str (rowS (short 133 vs)))) o := fun o => t_row_for vs (by rw [h1']; exact hn) h2'
    have k2 : ∀ o : Objs, callW fi__law_shortest [.v (.tup (vs.map di))] o = .ok (.v (.str (rowS (short 133 vs)))) o := fun o => t_lshort vs (by omega) h3
    generalize short 133 vs = R at hR1 hR2 hR3 hR4 k1 k2
    rw [h1'] at hR2 hR3
    have k3 : ∀ o : Objs, callW fi_numbers_by [.v (.int (n : Int)), .v (.str (rowS R))] o = .ok (.v (.tup (vs.map di))) o := fun o => by
      have := t_numbers_by n R hn hR2 (by omega) (o := o)
      rw [hR3] at this; exact this
    have k4 : ∀ o : Objs, callW fi_numbers_by [.v (.int (n : Int)), .v (.str (rowS (R ++ List.replicate (200 - R.length) 0)))] o = .ok (.v (.tup (vs.map di))) o := fun o => by
      have := t_numbers_by n (R ++ List.replicate (200 - R.length) 0) hn (fun d h => by
        rcases List.mem_append.mp h with h | h
        · exact hR2 d h
        · rw [(List.mem_replicate.mp h).2]; exact Nat.pow_pos (by decide)) (by simp; omega) (o := o)
      rw [vals_zeros, hR3] at this; exact this
    have k5 : ∀ o : Objs, slW false (.v (.str (rowS R))) (some (-1)) none o = .ok (.v (.str (cutS (rowS R) (some (-1)) none))) o := fun o => by
      have : (rowS R).length ≤ sizeLine := by simpa using row_size (ds := R) (by omega)
      simp only [slW, this, if_true]
    have k6 : tupleW (.o 1) [br f s c, ⟨true, .lst (vs.map di)⟩] = .ok (.v (.tup (vs.map di))) [br f s c, ⟨true, .lst (vs.map di)⟩] := rfl
    have k7 : (200 : Int) - (R.length : Int) = ((200 - R.length : Nat) : Int) := by omega
    have k8 : ∀ o : Objs, negW (.v (.int 1)) o = .ok (.v (.int (-1))) o := fun _ => rfl
    simp [k6, k1, k2, permL, k8, k5, cut_last R hR4, k3, eq_t _ (sh_tn _), len_row R (by omega), k7, rep_a (200 - R.length) (by omega), add_rows R (List.replicate (200 - R.length) 0) (by simp; omega), k4]
    exact .mk rfl
end Lk62

set_option maxHeartbeats 4000000
namespace Lk62
open PySem PySem.Spec PyProof.Rows L2 RR
/-! ### _law_right -/
theorem t_zeros (k : Nat) (h : 1 ≤ k ∧ k ≤ 3) {o : Objs} : callW fi_row_for [.v (.tup (List.replicate k [D.int 0]).flatten)] o = .ok (.v (.str "")) o := by
  have e : (List.replicate k [D.int 0]).flatten = (List.replicate k 0).map di := by
    have : k = 1 ∨ k = 2 ∨ k = 3 := by omega
    rcases this with rfl | rfl | rfl <;> rfl
  rw [e, t_row_for (List.replicate k 0) (by simpa using h) (fun v hv => by rw [(List.mem_replicate.mp hv).2]; decide), short_zero (fun v hv => (List.mem_replicate.mp hv).2), rowS_nil]
theorem t_right : Draws fi__law_right [] fun d => d = .bl true := by
  refine dr rfl fun f s c => ?_
  simp [m__law_right]
  rw [show rng1 [W.v (D.int 4)] [br f s c] = _ from rng_s 4 (by decide)]
  simp only [out_ok]
  refine out_for (fun i σ o => ∃ x f s c, σ = [some (.o 0), x, none] ∧ o = [br f s c]) ⟨none, f, s, c, rfl, rfl⟩ ?_ ?_
  · rintro i d σ o _ ⟨x, f, s, c, rfl, rfl⟩
    simp
    refine out_draw0 t_row_right rfl rfl ?_
    intro d1 f s c h1
    rw [h1]
    simp
    refine out_draw0 t_numbers_right rfl rfl ?_
    intro d2 f s c h2
    rw [h2]
    simp
    exact ⟨_, _, _, rfl⟩
  · rintro σ o ⟨x, f, s, c, rfl, rfl⟩
    simp
    have e : [D.int 1, D.int 2, D.int 3] = [1, 2, 3].map di := rfl
    rw [e]
    refine out_lc (fun _ => D.str "") (by decide) (fun k hk => ?_) ?_
    · have hk' : 1 ≤ k ∧ k ≤ 3 := by simp at hk; omega
      simp
      rw [show W.v (di k) = W.v (D.int (k : Int)) from rfl, mul_ti [D.int 0] k (by simp) ⟨hk'.1, by omega, by simp⟩]
      simp only [out_ok, t_zeros k hk']
      simp
    · rw [lst_vs _ (by simp; decide)]
      have hq : ∀ o : Objs, eqW (.v (.lst ([1, 2, 3].map fun _ : Nat => D.str ""))) (.v (.lst [.str "", .str "", .str ""])) o = .ok (.v (.bl true)) o := fun o => eq_l [.str "", .str "", .str ""] (by decide +kernel)
      simp only [out_ok, hq]
      exact .mk rfl
/-! ### _law_brook -/
theorem ix_c (xs : List D) (i : Nat) (d : D) (h : xs[i]? = some d) {o : Objs} : ixW (.v (.scr xs)) (.v (.int (i : Int))) o = .ok (.v d) o := by
  obtain ⟨h1, h2⟩ := List.getElem?_eq_some_iff.mp h
  have h3 : (i : Int) < xs.length := by omega
  simp [ixW, seqW, atI, ixN, h3, h]
theorem cutD_map (ns : List Int) (a b : Option Int) : ∃ ms : List Int, RR.cutD (ns.map D.int) a b = ms.map D.int ∧ ms.length ≤ ns.length := by
  refine ⟨(ns.drop (HT.sIx ns.length 0 a)).take (HT.sIx ns.length ns.length b - HT.sIx ns.length 0 a), ?_, ?_⟩
  · simp [RR.cutD, List.map_take, List.map_drop]
  · simp; omega
theorem t_brook (ns : List Int) (h : ns.length ≤ 63) (k : Nat) (hk : k < 5) {o : Objs} : ∃ f s c, callW fi__law_brook [.v (.scr (ns.map D.int)), .v (.int (k : Int))] o = .ok (.o o.length) (o ++ [br f s c]) := by
  have key : ∃ f s c, fi__law_brook.fm ([D.scr (ns.map D.int), D.int (k : Int)].map W.v) [] = .ok (.o 0) [br f s c] := by
    have hf : fi__law_brook.fm = runFn 5 true m__law_brook := rfl
    rw [hf]
    suffices hs : Out (m__law_brook (startD 5 [.v (.scr (ns.map D.int)), .v (.int (k : Int))]) []) fun fl o => ∃ f s c, fl = .rt (.o 0) ∧ o = [br f s c] by
      obtain ⟨fl, o1, e, f, s, c, rfl, rfl⟩ := out_inv hs
      refine ⟨f, s, c, ?_⟩
      simp only [runFn, List.map_cons, List.map_nil, e]
      rfl
    have hpw : ∀ o : Objs, powW (.v (.int 10)) (.v (.int 17)) o = .ok (.v (.int 100000000000000000)) o := fun o => by
      have : CPow 10 17 := by unfold CPow; decide
      simp only [powW, this, if_true]; rfl
    obtain ⟨own, hown⟩ : ∃ own : Int, mIf (mAsB (mBin ltW (mVar 1) (mCall (on1 lenW) (mCons (mVar 0) mNil)))) (mBin ixW (mVar 0) (mVar 1)) (mBin addW (mBin mulW (mConst (.int 59)) (mVar 1)) (mConst (.int 23))) [some (.v (.scr (ns.map D.int))), some (.v (.int (k : Int))), none, none, none] [] = .ok (.v (.int own)) [] := by
      by_cases hkl : k < ns.length
      · have hkl' : (k : Int) < ns.length := by omega
        have hix : ∀ o : Objs, ixW (.v (.scr (ns.map D.int))) (.v (.int (k : Int))) o = .ok (.v (.int ns[k])) o := fun o => ix_c _ k _ (by simp [hkl])
        exact ⟨ns[k], by simp [hkl', hix]⟩
      · have hkl' : ¬ (k : Int) < ns.length := by omega
        exact ⟨59 * (k : Int) + 23, by simp [hkl', mulL 59 (by decide)]⟩
    obtain ⟨ms, e, hl⟩ := cutD_map ns none (some 6)
    have hsl : ∀ o : Objs, slW false (.v (.scr (ns.map D.int))) none (some 6) o = .ok (.v (.lst (ms.map D.int))) o := fun o => by simp only [slW, lsqW, e]; rfl
    have e2 : ms.map D.int ++ [D.int own] = (ms ++ [own]).map D.int := by simp
    have hst : startD 5 [.v (.scr (ns.map D.int)), .v (.int (k : Int))] = [some (.v (.scr (ns.map D.int))), some (.v (.int (k : Int))), none, none, none] := rfl
    rw [m__law_brook, e_Then, e_Asg, hst, hown]
    simp [mulL 5081 (by decide), hsl, add_ll (ms.map D.int) [.int own] (by simp; unfold sizeLine; omega)]
    rw [e2]
    refine out_for (fun i σ o' => o' = [] ∧ ∃ (x : Option W) (y : Int), σ = [some (.v (.scr (ns.map D.int))), some (.v (.int (k : Int))), some (.v (.int own)), some (.v (.int y)), x]) ⟨rfl, none, _, rfl⟩ ?_ ?_
    · rintro i d σ o' hd ⟨rfl, x, y, rfl⟩
      rw [List.getElem?_map] at hd
      cases hv : (ms ++ [own])[i]? with
      | none => rw [hv] at hd; simp at hd
      | some v =>
        rw [hv] at hd; simp at hd; subst hd
        simp [mulR 39119 (by decide), mulL 13 (by decide), modC 1000159 (by decide), modC 2147483269 (by decide)]
    · rintro σ o' ⟨rfl, x, y, rfl⟩
      by_cases h0 : own < 0
      · simp [h0]
        exact ⟨_, _, _, rfl⟩
      · by_cases h1 : (100000000000000000 : Int) ≤ own
        · simp [h0, hpw, h1]
          exact ⟨_, _, _, rfl⟩
        · simp [h0, hpw, h1]
          exact ⟨_, _, _, rfl⟩
  obtain ⟨f, s, c, e⟩ := key
  exact ⟨f, s, c, call_f (ds := [D.scr (ns.map D.int), D.int (k : Int)]) rfl rfl e⟩
theorem law_true (ns : List Int) (h : ns.length ≤ 63) : fi_law.fm [.v (.scr (ns.map D.int))] [] = .ok (.v (.bl true)) [] := by
  have hf : fi_law.fm = runFn 2 false m_law := rfl
  rw [hf]
  refine run_p ?_
  obtain ⟨q, hq, e⟩ : ∃ q : Nat, q ≤ 5 ∧ ∀ o : Objs, (minW [.v (.int (ns.length : Int)), .v (.int 5)] o).bind (fun x o => maxW [.v (.int 2), x] o) = .ok (.v (.int (q : Int))) o := by
    by_cases h5 : (5 : Int) < ns.length
    · exact ⟨5, by decide, fun o => by simp [minW, maxW, h5]⟩
    · by_cases h2 : (2 : Int) < ns.length
      · exact ⟨ns.length, by omega, fun o => by simp [minW, maxW, h5, h2]⟩
      · exact ⟨2, by decide, fun o => by simp [minW, maxW, h5, h2]⟩
  have hmin : ∀ o : Objs, ∃ z : Int, minW [.v (.int (ns.length : Int)), .v (.int 5)] o = .ok (.v (.int z)) o ∧ maxW [.v (.int 2), .v (.int z)] o = .ok (.v (.int (q : Int))) o := fun o => by
    have := e o
    refine ⟨if (5 : Int) < ns.length then 5 else ns.length, rfl, ?_⟩
    rw [show minW [.v (.int (ns.length : Int)), .v (.int 5)] o = .ok (.v (.int (if (5 : Int) < ns.length then 5 else ns.length))) o from rfl] at this
    simpa using this
  obtain ⟨z, hz1, hz2⟩ := hmin []
  simp [m_law, hz1, hz2, rng_s q (by omega), rng_eq]
  refine out_lcI (fun _ => True) (fun d => d = .bl true) (by simp; unfold sizeLine; omega) trivial ?_ ?_
  · intro d hd o _
    obtain ⟨k, hk, rfl⟩ := List.mem_map.mp hd
    have hk5 : k < 5 := by simp at hk; omega
    obtain ⟨f, s, c, eb⟩ := t_brook ns h k hk5 (o := o)
    simp [eb]
    have := out_draw (fi := fi__law_right) (ds := []) (k := o.length) (o := o ++ [br f s c]) (Q := fun a o => a = W.v (D.bl true)) t_right rfl rfl (f := f) (s := s) (c := c) (by simp) (fun d f' s' c' hd => by rw [hd])
    simpa using this
  · intro rs o hl hr _
    have hrs : rs = (rs.map fun _ => true).map D.bl := by
      rw [List.map_map]
      conv => lhs; rw [← List.map_id rs]
      exact List.map_congr_left fun r h => by rw [hr r h]; rfl
    rw [lst_vs _ (by rw [hl]; simp; unfold sizeLine; omega), hrs]
    simp only [out_ok, all_l]
    simp
end Lk62

set_option maxHeartbeats 0
namespace Lk62
open PySem PySem.Spec PyProof.Rows L2 RR
def fn : List He.DefD := [⟨("_law_brook", none), "_law_brook", "_law_brook", defArgs s__law_brook, defBody s__law_brook, defScope s__law_brook, [], []⟩,
  ⟨("number_by", none), "number_by", "number_by", defArgs s_number_by, defBody s_number_by, defScope s_number_by, [], []⟩,
  ⟨("shortest_row", none), "shortest_row", "shortest_row", defArgs s_shortest_row, defBody s_shortest_row, defScope s_shortest_row, [], []⟩,
  ⟨("is_number", none), "is_number", "is_number", defArgs s_is_number, defBody s_is_number, defScope s_is_number, [], []⟩,
  ⟨("check_numbers", none), "check_numbers", "check_numbers", defArgs s_check_numbers, defBody s_check_numbers, defScope s_check_numbers, [], []⟩,
  ⟨("row_for", none), "row_for", "row_for", defArgs s_row_for, defBody s_row_for, defScope s_row_for, [], []⟩,
  ⟨("is_row", none), "is_row", "is_row", defArgs s_is_row, defBody s_is_row, defScope s_is_row, [], []⟩,
  ⟨("check_tracks", none), "check_tracks", "check_tracks", defArgs s_check_tracks, defBody s_check_tracks, defScope s_check_tracks, [], []⟩,
  ⟨("power_of", none), "power_of", "power_of", defArgs s_power_of, defBody s_power_of, defScope s_power_of, [], []⟩,
  ⟨("figures_of", none), "figures_of", "figures_of", defArgs s_figures_of, defBody s_figures_of, defScope s_figures_of, [], []⟩,
  ⟨("figures_by", none), "figures_by", "figures_by", defArgs s_figures_by, defBody s_figures_by, defScope s_figures_by, [], []⟩,
  ⟨("numbers_of", none), "numbers_of", "numbers_of", defArgs s_numbers_of, defBody s_numbers_of, defScope s_numbers_of, [], []⟩,
  ⟨("numbers_by", none), "numbers_by", "numbers_by", defArgs s_numbers_by, defBody s_numbers_by, defScope s_numbers_by, [], []⟩,
  ⟨("_law_scoop", none), "_law_scoop", "_law_scoop", defArgs s__law_scoop, defBody s__law_scoop, defScope s__law_scoop, [], []⟩,
  ⟨("_law_choose", none), "_law_choose", "_law_choose", defArgs s__law_choose, defBody s__law_choose, defScope s__law_choose, [], []⟩,
  ⟨("_law_figures", none), "_law_figures", "_law_figures", defArgs s__law_figures, defBody s__law_figures, defScope s__law_figures, [], []⟩,
  ⟨("_law_row_right", none), "_law_row_right", "_law_row_right", defArgs s__law_row_right, defBody s__law_row_right, defScope s__law_row_right, [], []⟩,
  ⟨("_law_shortest", none), "_law_shortest", "_law_shortest", defArgs s__law_shortest, defBody s__law_shortest, defScope s__law_shortest, [], []⟩,
  ⟨("_law_numbers_right", none), "_law_numbers_right", "_law_numbers_right", defArgs s__law_numbers_right, defBody s__law_numbers_right, defScope s__law_numbers_right, [], []⟩,
  ⟨("_law_right", none), "_law_right", "_law_right", defArgs s__law_right, defBody s__law_right, defScope s__law_right, [], []⟩,
  ⟨("law", none), "law", "law", defArgs s_law, defBody s_law, defScope s_law, [], []⟩]
def fa : List He.Fa := [.glo "_law_brook", .glo "number_by", .glo "shortest_row", .glo "is_number", .glo "check_numbers", .glo "row_for", .glo "is_row", .glo "check_tracks", .glo "power_of", .glo "figures_of", .glo "figures_by", .glo "numbers_of", .glo "numbers_by", .glo "_law_scoop", .glo "_law_choose", .glo "_law_figures", .glo "_law_row_right", .glo "_law_shortest", .glo "_law_numbers_right", .glo "_law_right", .glo "law", .free "len", .free "int", .free "isinstance", .free "tuple", .free "all", .free "list", .free "any", .free "sum", .free "max", .free "min", .free "divmod", .free "abs", .free "range", .free "bool", .free "str", .free "dict", .free "enumerate", .free "zip", .free "repr", .free "sorted", .free "set", .int "MOST_ROW" 200, .str "ALPHABET" "abcdefgh", .int "GREATEST" 9999999999999999999999999999999999999999, .int "MOST_TRACKS" 3]
abbrev R : PySem.W.OpenRow := PySem.W.OpenLaw.row PySem.Challenge.rw_rowreaders_k62_numbers_and_their_rows
abbrev hk : PySem.W.Hook := He.hookD 4 fa fn
def ob (s : PySem.W.SharedT) : He.AlD := He.obsDG 4 fa fn (HandSHeadRun.getT s)
theorem ob_eq (s : PySem.W.SharedT) : ob s = hk.obs s.abs := He.obsDG_eq (HandSHeadRun.getT_eq s)
def loose : List Str := ["WrongValue", "InvalidRow", "InvalidNumber", "InvalidTold", "MOST_ROW", "ALPHABET", "is_number", "is_row", "GREATEST", "MOST_TRACKS", "check_tracks", "power_of", "figures_of", "number_by", "figures_by", "numbers_of", "numbers_by", "shortest_row", "check_numbers", "row_for", "_law_brook", "_law_scoop", "_law_choose", "_law_figures", "_law_shortest", "_law_row_right", "_law_numbers_right", "_law_right"]
theorem run (w : World) : HandSHeadRun.RunEq R (PySem.W.view R.prog [32]) hk ob 20000 loose w := by
  intro os
  kernel_rfl
/-- what the head tells, as the defs want it -/
theorem facts {P : Program} {w : World} {K : PySem.W.Frag} {h : Heap} {mg : Str → Option Value} {f : Addr} (X : K.In h) (G : h.Ns mainGlobals mg) (hfa : mg ("law" : Str) = some (.ref f)) (c : He.SaysD fa fn K) :
    ∃ fd : FuncData, (∀ (s : Shared) (v : Value), BindsTo s fd ⟨[v], []⟩ [("_law_script", v)]) ∧ ∀ base : Heap, K.In base → base.Ns mainGlobals mg → FnOk P w K mg base CX0 21 f fd ["_law_script"] (spOf ⟨K, mg⟩ 1 fi_law.fm) := by
  have C : ConS K mg cs := by
    refine ⟨fun x d hm => ?_, fun x hx => ?_⟩
    · simp only [cs, List.mem_cons, List.not_mem_nil, or_false, Prod.mk.injEq] at hm
      rcases hm with ⟨rfl, rfl⟩ | ⟨rfl, rfl⟩ | ⟨rfl, rfl⟩ | ⟨rfl, rfl⟩
      · obtain ⟨t, e⟩ := He.int_ok X G (c.fact 42 (f := .int "MOST_ROW" 200) rfl)
        exact ⟨⟨_, .int 200, e, ⟨t, rfl⟩, fun _ _ => by simp only [RV]⟩, by decide +kernel⟩
      · obtain ⟨t, e⟩ := He.str_ok X G (c.fact 43 (f := .str "ALPHABET" "abcdefgh") rfl)
        exact ⟨⟨_, .str "abcdefgh", e, ⟨t, rfl⟩, fun _ _ => by simp only [RV]⟩, by decide +kernel⟩
      · obtain ⟨t, e⟩ := He.int_ok X G (c.fact 44 (f := .int "GREATEST" 9999999999999999999999999999999999999999) rfl)
        exact ⟨⟨_, .int 9999999999999999999999999999999999999999, e, ⟨t, rfl⟩, fun _ _ => by simp only [RV]⟩, by decide +kernel⟩
      · obtain ⟨t, e⟩ := He.int_ok X G (c.fact 45 (f := .int "MOST_TRACKS" 3) rfl)
        exact ⟨⟨_, .int 3, e, ⟨t, rfl⟩, fun _ _ => by simp only [RV]⟩, by decide +kernel⟩
    · simp only [bltNames, List.mem_cons, List.not_mem_nil, or_false] at hx
      rcases hx with rfl | rfl | rfl | rfl | rfl | rfl | rfl | rfl | rfl | rfl | rfl | rfl | rfl | rfl | rfl | rfl | rfl | rfl | rfl | rfl | rfl
      · exact He.free_ok X G (c.fact 21 (f := .free "len") rfl)
      · exact He.free_ok X G (c.fact 22 (f := .free "int") rfl)
      · exact He.free_ok X G (c.fact 23 (f := .free "isinstance") rfl)
      · exact He.free_ok X G (c.fact 24 (f := .free "tuple") rfl)
      · exact He.free_ok X G (c.fact 25 (f := .free "all") rfl)
      · exact He.free_ok X G (c.fact 26 (f := .free "list") rfl)
      · exact He.free_ok X G (c.fact 27 (f := .free "any") rfl)
      · exact He.free_ok X G (c.fact 28 (f := .free "sum") rfl)
      · exact He.free_ok X G (c.fact 29 (f := .free "max") rfl)
      · exact He.free_ok X G (c.fact 30 (f := .free "min") rfl)
      · exact He.free_ok X G (c.fact 31 (f := .free "divmod") rfl)
      · exact He.free_ok X G (c.fact 32 (f := .free "abs") rfl)
      · exact He.free_ok X G (c.fact 33 (f := .free "range") rfl)
      · exact He.free_ok X G (c.fact 34 (f := .free "bool") rfl)
      · exact He.free_ok X G (c.fact 35 (f := .free "str") rfl)
      · exact He.free_ok X G (c.fact 36 (f := .free "dict") rfl)
      · exact He.free_ok X G (c.fact 37 (f := .free "enumerate") rfl)
      · exact He.free_ok X G (c.fact 38 (f := .free "zip") rfl)
      · exact He.free_ok X G (c.fact 39 (f := .free "repr") rfl)
      · exact He.free_ok X G (c.fact 40 (f := .free "sorted") rfl)
      · exact He.free_ok X G (c.fact 41 (f := .free "set") rfl)
  obtain ⟨fd__law_brook, F__law_brook⟩ := c.def_ 0 (d := ⟨("_law_brook", none), "_law_brook", "_law_brook", defArgs s__law_brook, defBody s__law_brook, defScope s__law_brook, [], []⟩) rfl
  have b__law_brook := FunD.bindsN (ps := ["_law_script", "_law_spot"]) F__law_brook fun _ _ _ _ _ _ us hl => match us, hl with | [_, _], _ => rfl
  have k__law_brook : ∀ p ∈ fi__law_brook.kws, KwB fd__law_brook ["_law_script", "_law_spot"] p := by
    intro p hp
    simp only [fi__law_brook, List.mem_cons, List.not_mem_nil, or_false] at hp
  have g__law_brook := He.glo_ok X G (c.fact 0 (f := .glo "_law_brook") rfl)
  obtain ⟨fd_number_by, F_number_by⟩ := c.def_ 1 (d := ⟨("number_by", none), "number_by", "number_by", defArgs s_number_by, defBody s_number_by, defScope s_number_by, [], []⟩) rfl
  have b_number_by := FunD.bindsN (ps := ["figures"]) F_number_by fun _ _ _ _ _ _ us hl => match us, hl with | [_], _ => rfl
  have k_number_by : ∀ p ∈ fi_number_by.kws, KwB fd_number_by ["figures"] p := by
    intro p hp
    simp only [fi_number_by, List.mem_cons, List.not_mem_nil, or_false] at hp
  have g_number_by := He.glo_ok X G (c.fact 1 (f := .glo "number_by") rfl)
  obtain ⟨fd_shortest_row, F_shortest_row⟩ := c.def_ 2 (d := ⟨("shortest_row", none), "shortest_row", "shortest_row", defArgs s_shortest_row, defBody s_shortest_row, defScope s_shortest_row, [], []⟩) rfl
  have b_shortest_row := FunD.bindsN (ps := ["numbers"]) F_shortest_row fun _ _ _ _ _ _ us hl => match us, hl with | [_], _ => rfl
  have k_shortest_row : ∀ p ∈ fi_shortest_row.kws, KwB fd_shortest_row ["numbers"] p := by
    intro p hp
    simp only [fi_shortest_row, List.mem_cons, List.not_mem_nil, or_false] at hp
  have g_shortest_row := He.glo_ok X G (c.fact 2 (f := .glo "shortest_row") rfl)
  obtain ⟨fd_is_number, F_is_number⟩ := c.def_ 3 (d := ⟨("is_number", none), "is_number", "is_number", defArgs s_is_number, defBody s_is_number, defScope s_is_number, [], []⟩) rfl
  have b_is_number := FunD.bindsN (ps := ["value", "low", "high"]) F_is_number fun _ _ _ _ _ _ us hl => match us, hl with | [_, _, _], _ => rfl
  have k_is_number : ∀ p ∈ fi_is_number.kws, KwB fd_is_number ["value", "low", "high"] p := by
    intro p hp
    simp only [fi_is_number, List.mem_cons, List.not_mem_nil, or_false] at hp
  have g_is_number := He.glo_ok X G (c.fact 3 (f := .glo "is_number") rfl)
  obtain ⟨fd_check_numbers, F_check_numbers⟩ := c.def_ 4 (d := ⟨("check_numbers", none), "check_numbers", "check_numbers", defArgs s_check_numbers, defBody s_check_numbers, defScope s_check_numbers, [], []⟩) rfl
  have b_check_numbers := FunD.bindsN (ps := ["numbers", "fewest"]) F_check_numbers fun _ _ _ _ _ _ us hl => match us, hl with | [_, _], _ => rfl
  have k_check_numbers : ∀ p ∈ fi_check_numbers.kws, KwB fd_check_numbers ["numbers", "fewest"] p := by
    intro p hp
    simp only [fi_check_numbers, List.mem_cons, List.not_mem_nil, or_false] at hp
  have g_check_numbers := He.glo_ok X G (c.fact 4 (f := .glo "check_numbers") rfl)
  obtain ⟨fd_row_for, F_row_for⟩ := c.def_ 5 (d := ⟨("row_for", none), "row_for", "row_for", defArgs s_row_for, defBody s_row_for, defScope s_row_for, [], []⟩) rfl
  have b_row_for := FunD.bindsN (ps := ["numbers"]) F_row_for fun _ _ _ _ _ _ us hl => match us, hl with | [_], _ => rfl
  have k_row_for : ∀ p ∈ fi_row_for.kws, KwB fd_row_for ["numbers"] p := by
    intro p hp
    simp only [fi_row_for, List.mem_cons, List.not_mem_nil, or_false] at hp
    rcases hp with rfl
    · exact kw_bind F_row_for fun _ _ _ _ _ _ us hl => match us, hl with | [_], _ => rfl
  have g_row_for := He.glo_ok X G (c.fact 5 (f := .glo "row_for") rfl)
  obtain ⟨fd_is_row, F_is_row⟩ := c.def_ 6 (d := ⟨("is_row", none), "is_row", "is_row", defArgs s_is_row, defBody s_is_row, defScope s_is_row, [], []⟩) rfl
  have b_is_row := FunD.bindsN (ps := ["value", "signs", "most"]) F_is_row fun _ _ _ _ _ _ us hl => match us, hl with | [_, _, _], _ => rfl
  have k_is_row : ∀ p ∈ fi_is_row.kws, KwB fd_is_row ["value", "signs", "most"] p := by
    intro p hp
    simp only [fi_is_row, List.mem_cons, List.not_mem_nil, or_false] at hp
  have g_is_row := He.glo_ok X G (c.fact 6 (f := .glo "is_row") rfl)
  obtain ⟨fd_check_tracks, F_check_tracks⟩ := c.def_ 7 (d := ⟨("check_tracks", none), "check_tracks", "check_tracks", defArgs s_check_tracks, defBody s_check_tracks, defScope s_check_tracks, [], []⟩) rfl
  have b_check_tracks := FunD.bindsN (ps := ["tracks"]) F_check_tracks fun _ _ _ _ _ _ us hl => match us, hl with | [_], _ => rfl
  have k_check_tracks : ∀ p ∈ fi_check_tracks.kws, KwB fd_check_tracks ["tracks"] p := by
    intro p hp
    simp only [fi_check_tracks, List.mem_cons, List.not_mem_nil, or_false] at hp
  have g_check_tracks := He.glo_ok X G (c.fact 7 (f := .glo "check_tracks") rfl)
  obtain ⟨fd_power_of, F_power_of⟩ := c.def_ 8 (d := ⟨("power_of", none), "power_of", "power_of", defArgs s_power_of, defBody s_power_of, defScope s_power_of, [], []⟩) rfl
  have b_power_of := FunD.bindsN (ps := ["number"]) F_power_of fun _ _ _ _ _ _ us hl => match us, hl with | [_], _ => rfl
  have k_power_of : ∀ p ∈ fi_power_of.kws, KwB fd_power_of ["number"] p := by
    intro p hp
    simp only [fi_power_of, List.mem_cons, List.not_mem_nil, or_false] at hp
  have g_power_of := He.glo_ok X G (c.fact 8 (f := .glo "power_of") rfl)
  obtain ⟨fd_figures_of, F_figures_of⟩ := c.def_ 9 (d := ⟨("figures_of", none), "figures_of", "figures_of", defArgs s_figures_of, defBody s_figures_of, defScope s_figures_of, [], []⟩) rfl
  have b_figures_of := FunD.bindsN (ps := ["place", "many"]) F_figures_of fun _ _ _ _ _ _ us hl => match us, hl with | [_, _], _ => rfl
  have k_figures_of : ∀ p ∈ fi_figures_of.kws, KwB fd_figures_of ["place", "many"] p := by
    intro p hp
    simp only [fi_figures_of, List.mem_cons, List.not_mem_nil, or_false] at hp
  have g_figures_of := He.glo_ok X G (c.fact 9 (f := .glo "figures_of") rfl)
  obtain ⟨fd_figures_by, F_figures_by⟩ := c.def_ 10 (d := ⟨("figures_by", none), "figures_by", "figures_by", defArgs s_figures_by, defBody s_figures_by, defScope s_figures_by, [], []⟩) rfl
  have b_figures_by := FunD.bindsN (ps := ["row"]) F_figures_by fun _ _ _ _ _ _ us hl => match us, hl with | [_], _ => rfl
  have k_figures_by : ∀ p ∈ fi_figures_by.kws, KwB fd_figures_by ["row"] p := by
    intro p hp
    simp only [fi_figures_by, List.mem_cons, List.not_mem_nil, or_false] at hp
  have g_figures_by := He.glo_ok X G (c.fact 10 (f := .glo "figures_by") rfl)
  obtain ⟨fd_numbers_of, F_numbers_of⟩ := c.def_ 11 (d := ⟨("numbers_of", none), "numbers_of", "numbers_of", defArgs s_numbers_of, defBody s_numbers_of, defScope s_numbers_of, [], []⟩) rfl
  have b_numbers_of := FunD.bindsN (ps := ["tracks", "row"]) F_numbers_of fun _ _ _ _ _ _ us hl => match us, hl with | [_, _], _ => rfl
  have k_numbers_of : ∀ p ∈ fi_numbers_of.kws, KwB fd_numbers_of ["tracks", "row"] p := by
    intro p hp
    simp only [fi_numbers_of, List.mem_cons, List.not_mem_nil, or_false] at hp
  have g_numbers_of := He.glo_ok X G (c.fact 11 (f := .glo "numbers_of") rfl)
  obtain ⟨fd_numbers_by, F_numbers_by⟩ := c.def_ 12 (d := ⟨("numbers_by", none), "numbers_by", "numbers_by", defArgs s_numbers_by, defBody s_numbers_by, defScope s_numbers_by, [], []⟩) rfl
  have b_numbers_by := FunD.bindsN (ps := ["tracks", "row"]) F_numbers_by fun _ _ _ _ _ _ us hl => match us, hl with | [_, _], _ => rfl
  have k_numbers_by : ∀ p ∈ fi_numbers_by.kws, KwB fd_numbers_by ["tracks", "row"] p := by
    intro p hp
    simp only [fi_numbers_by, List.mem_cons, List.not_mem_nil, or_false] at hp
    rcases hp with rfl
    · exact kw_bind F_numbers_by fun _ _ _ _ _ _ us hl => match us, hl with | [_, _], _ => rfl
  have g_numbers_by := He.glo_ok X G (c.fact 12 (f := .glo "numbers_by") rfl)
  obtain ⟨fd__law_scoop, F__law_scoop⟩ := c.def_ 13 (d := ⟨("_law_scoop", none), "_law_scoop", "_law_scoop", defArgs s__law_scoop, defBody s__law_scoop, defScope s__law_scoop, [], []⟩) rfl
  have b__law_scoop := FunD.bindsN (ps := ["_law_brook_here", "_law_many"]) F__law_scoop fun _ _ _ _ _ _ us hl => match us, hl with | [_, _], _ => rfl
  have k__law_scoop : ∀ p ∈ fi__law_scoop.kws, KwB fd__law_scoop ["_law_brook_here", "_law_many"] p := by
    intro p hp
    simp only [fi__law_scoop, List.mem_cons, List.not_mem_nil, or_false] at hp
  have g__law_scoop := He.glo_ok X G (c.fact 13 (f := .glo "_law_scoop") rfl)
  obtain ⟨fd__law_choose, F__law_choose⟩ := c.def_ 14 (d := ⟨("_law_choose", none), "_law_choose", "_law_choose", defArgs s__law_choose, defBody s__law_choose, defScope s__law_choose, [], []⟩) rfl
  have b__law_choose := FunD.bindsN (ps := ["_law_brook_here", "_law_some"]) F__law_choose fun _ _ _ _ _ _ us hl => match us, hl with | [_, _], _ => rfl
  have k__law_choose : ∀ p ∈ fi__law_choose.kws, KwB fd__law_choose ["_law_brook_here", "_law_some"] p := by
    intro p hp
    simp only [fi__law_choose, List.mem_cons, List.not_mem_nil, or_false] at hp
  have g__law_choose := He.glo_ok X G (c.fact 14 (f := .glo "_law_choose") rfl)
  obtain ⟨fd__law_figures, F__law_figures⟩ := c.def_ 15 (d := ⟨("_law_figures", none), "_law_figures", "_law_figures", defArgs s__law_figures, defBody s__law_figures, defScope s__law_figures, [], []⟩) rfl
  have b__law_figures := FunD.bindsN (ps := ["_law_lanes", "_law_rowlet"]) F__law_figures fun _ _ _ _ _ _ us hl => match us, hl with | [_, _], _ => rfl
  have k__law_figures : ∀ p ∈ fi__law_figures.kws, KwB fd__law_figures ["_law_lanes", "_law_rowlet"] p := by
    intro p hp
    simp only [fi__law_figures, List.mem_cons, List.not_mem_nil, or_false] at hp
  have g__law_figures := He.glo_ok X G (c.fact 15 (f := .glo "_law_figures") rfl)
  obtain ⟨fd__law_row_right, F__law_row_right⟩ := c.def_ 16 (d := ⟨("_law_row_right", none), "_law_row_right", "_law_row_right", defArgs s__law_row_right, defBody s__law_row_right, defScope s__law_row_right, [], []⟩) rfl
  have b__law_row_right := FunD.bindsN (ps := ["_law_brook_here"]) F__law_row_right fun _ _ _ _ _ _ us hl => match us, hl with | [_], _ => rfl
  have k__law_row_right : ∀ p ∈ fi__law_row_right.kws, KwB fd__law_row_right ["_law_brook_here"] p := by
    intro p hp
    simp only [fi__law_row_right, List.mem_cons, List.not_mem_nil, or_false] at hp
  have g__law_row_right := He.glo_ok X G (c.fact 16 (f := .glo "_law_row_right") rfl)
  obtain ⟨fd__law_shortest, F__law_shortest⟩ := c.def_ 17 (d := ⟨("_law_shortest", none), "_law_shortest", "_law_shortest", defArgs s__law_shortest, defBody s__law_shortest, defScope s__law_shortest, [], []⟩) rfl
  have b__law_shortest := FunD.bindsN (ps := ["_law_nums"]) F__law_shortest fun _ _ _ _ _ _ us hl => match us, hl with | [_], _ => rfl
  have k__law_shortest : ∀ p ∈ fi__law_shortest.kws, KwB fd__law_shortest ["_law_nums"] p := by
    intro p hp
    simp only [fi__law_shortest, List.mem_cons, List.not_mem_nil, or_false] at hp
  have g__law_shortest := He.glo_ok X G (c.fact 17 (f := .glo "_law_shortest") rfl)
  obtain ⟨fd__law_numbers_right, F__law_numbers_right⟩ := c.def_ 18 (d := ⟨("_law_numbers_right", none), "_law_numbers_right", "_law_numbers_right", defArgs s__law_numbers_right, defBody s__law_numbers_right, defScope s__law_numbers_right, [], []⟩) rfl
  have b__law_numbers_right := FunD.bindsN (ps := ["_law_brook_here"]) F__law_numbers_right fun _ _ _ _ _ _ us hl => match us, hl with | [_], _ => rfl
  have k__law_numbers_right : ∀ p ∈ fi__law_numbers_right.kws, KwB fd__law_numbers_right ["_law_brook_here"] p := by
    intro p hp
    simp only [fi__law_numbers_right, List.mem_cons, List.not_mem_nil, or_false] at hp
  have g__law_numbers_right := He.glo_ok X G (c.fact 18 (f := .glo "_law_numbers_right") rfl)
  obtain ⟨fd__law_right, F__law_right⟩ := c.def_ 19 (d := ⟨("_law_right", none), "_law_right", "_law_right", defArgs s__law_right, defBody s__law_right, defScope s__law_right, [], []⟩) rfl
  have b__law_right := FunD.bindsN (ps := ["_law_brook_here"]) F__law_right fun _ _ _ _ _ _ us hl => match us, hl with | [_], _ => rfl
  have k__law_right : ∀ p ∈ fi__law_right.kws, KwB fd__law_right ["_law_brook_here"] p := by
    intro p hp
    simp only [fi__law_right, List.mem_cons, List.not_mem_nil, or_false] at hp
  have g__law_right := He.glo_ok X G (c.fact 19 (f := .glo "_law_right") rfl)
  obtain ⟨fd_law, F_law⟩ := c.def_ 20 (d := ⟨("law", none), "law", "law", defArgs s_law, defBody s_law, defScope s_law, [], []⟩) rfl
  have b_law := FunD.bindsN (ps := ["_law_script"]) F_law fun _ _ _ _ _ _ us hl => match us, hl with | [_], _ => rfl
  have k_law : ∀ p ∈ fi_law.kws, KwB fd_law ["_law_script"] p := by
    intro p hp
    simp only [fi_law, List.mem_cons, List.not_mem_nil, or_false] at hp
  have g_law := He.glo_ok X G (c.fact 20 (f := .glo "law") rfl)
  have e := hfa.symm.trans g_law
  cases e
  refine ⟨fd_law, fun s v => FunD.bindsA (ps := ["_law_script"]) F_law (fun _ _ _ _ _ _ us hl => match us, hl with | [_], _ => rfl) s [v] rfl, fun base hb hg => ?_⟩
  have E0 : EnvS P w K mg base 0 [] := EnvS.nil
  have E1 : EnvS P w K mg base 1 (("_law_brook", fi__law_brook) :: fs__law_brook) := EnvS.add (mt := false) (fr := true) E0 C F__law_brook g__law_brook sc__law_brook b__law_brook k__law_brook (by decide +kernel) (by decide +kernel) c__law_brook 2 rfl 5 rfl
  have E2 : EnvS P w K mg base 2 (("number_by", fi_number_by) :: fs_number_by) := EnvS.add (mt := false) (fr := false) E1 C F_number_by g_number_by sc_number_by b_number_by k_number_by (by decide +kernel) (by decide +kernel) c_number_by 1 rfl 3 rfl
  have E3 : EnvS P w K mg base 3 (("shortest_row", fi_shortest_row) :: fs_shortest_row) := EnvS.add (mt := false) (fr := false) E2 C F_shortest_row g_shortest_row sc_shortest_row b_shortest_row k_shortest_row (by decide +kernel) (by decide +kernel) c_shortest_row 1 rfl 4 rfl
  have E4 : EnvS P w K mg base 4 (("is_number", fi_is_number) :: fs_is_number) := EnvS.add (mt := false) (fr := false) E3 C F_is_number g_is_number sc_is_number b_is_number k_is_number (by decide +kernel) (by decide +kernel) c_is_number 3 rfl 3 rfl
  have E5 : EnvS P w K mg base 5 (("check_numbers", fi_check_numbers) :: fs_check_numbers) := EnvS.add (mt := false) (fr := false) E4 C F_check_numbers g_check_numbers sc_check_numbers b_check_numbers k_check_numbers (by decide +kernel) (by decide +kernel) c_check_numbers 2 rfl 3 rfl
  have E6 : EnvS P w K mg base 6 (("row_for", fi_row_for) :: fs_row_for) := EnvS.add (mt := false) (fr := false) E5 C F_row_for g_row_for sc_row_for b_row_for k_row_for (by decide +kernel) (by decide +kernel) c_row_for 1 rfl 1 rfl
  have E7 : EnvS P w K mg base 7 (("is_row", fi_is_row) :: fs_is_row) := EnvS.add (mt := false) (fr := false) E6 C F_is_row g_is_row sc_is_row b_is_row k_is_row (by decide +kernel) (by decide +kernel) c_is_row 3 rfl 4 rfl
  have E8 : EnvS P w K mg base 8 (("check_tracks", fi_check_tracks) :: fs_check_tracks) := EnvS.add (mt := false) (fr := false) E7 C F_check_tracks g_check_tracks sc_check_tracks b_check_tracks k_check_tracks (by decide +kernel) (by decide +kernel) c_check_tracks 1 rfl 1 rfl
  have E9 : EnvS P w K mg base 9 (("power_of", fi_power_of) :: fs_power_of) := EnvS.add (mt := false) (fr := false) E8 C F_power_of g_power_of sc_power_of b_power_of k_power_of (by decide +kernel) (by decide +kernel) c_power_of 1 rfl 3 rfl
  have E10 : EnvS P w K mg base 10 (("figures_of", fi_figures_of) :: fs_figures_of) := EnvS.add (mt := false) (fr := false) E9 C F_figures_of g_figures_of sc_figures_of b_figures_of k_figures_of (by decide +kernel) (by decide +kernel) c_figures_of 2 rfl 4 rfl
  have E11 : EnvS P w K mg base 11 (("figures_by", fi_figures_by) :: fs_figures_by) := EnvS.add (mt := false) (fr := false) E10 C F_figures_by g_figures_by sc_figures_by b_figures_by k_figures_by (by decide +kernel) (by decide +kernel) c_figures_by 1 rfl 2 rfl
  have E12 : EnvS P w K mg base 12 (("numbers_of", fi_numbers_of) :: fs_numbers_of) := EnvS.add (mt := false) (fr := false) E11 C F_numbers_of g_numbers_of sc_numbers_of b_numbers_of k_numbers_of (by decide +kernel) (by decide +kernel) c_numbers_of 2 rfl 6 rfl
  have E13 : EnvS P w K mg base 13 (("numbers_by", fi_numbers_by) :: fs_numbers_by) := EnvS.add (mt := false) (fr := false) E12 C F_numbers_by g_numbers_by sc_numbers_by b_numbers_by k_numbers_by (by decide +kernel) (by decide +kernel) c_numbers_by 2 rfl 2 rfl
  have E14 : EnvS P w K mg base 14 (("_law_scoop", fi__law_scoop) :: fs__law_scoop) := EnvS.add (mt := true) (fr := false) E13 C F__law_scoop g__law_scoop sc__law_scoop b__law_scoop k__law_scoop (by decide +kernel) (by decide +kernel) c__law_scoop 2 rfl 4 rfl
  have E15 : EnvS P w K mg base 15 (("_law_choose", fi__law_choose) :: fs__law_choose) := EnvS.add (mt := true) (fr := false) E14 C F__law_choose g__law_choose sc__law_choose b__law_choose k__law_choose (by decide +kernel) (by decide +kernel) c__law_choose 2 rfl 2 rfl
  have E16 : EnvS P w K mg base 16 (("_law_figures", fi__law_figures) :: fs__law_figures) := EnvS.add (mt := false) (fr := false) E15 C F__law_figures g__law_figures sc__law_figures b__law_figures k__law_figures (by decide +kernel) (by decide +kernel) c__law_figures 2 rfl 7 rfl
  have E17 : EnvS P w K mg base 17 (("_law_row_right", fi__law_row_right) :: fs__law_row_right) := EnvS.add (mt := true) (fr := false) E16 C F__law_row_right g__law_row_right sc__law_row_right b__law_row_right k__law_row_right (by decide +kernel) (by decide +kernel) c__law_row_right 1 rfl 8 rfl
  have E18 : EnvS P w K mg base 18 (("_law_shortest", fi__law_shortest) :: fs__law_shortest) := EnvS.add (mt := false) (fr := false) E17 C F__law_shortest g__law_shortest sc__law_shortest b__law_shortest k__law_shortest (by decide +kernel) (by decide +kernel) c__law_shortest 1 rfl 6 rfl
  have E19 : EnvS P w K mg base 19 (("_law_numbers_right", fi__law_numbers_right) :: fs__law_numbers_right) := EnvS.add (mt := true) (fr := false) E18 C F__law_numbers_right g__law_numbers_right sc__law_numbers_right b__law_numbers_right k__law_numbers_right (by decide +kernel) (by decide +kernel) c__law_numbers_right 1 rfl 7 rfl
  have E20 : EnvS P w K mg base 20 (("_law_right", fi__law_right) :: fs__law_right) := EnvS.add (mt := true) (fr := false) E19 C F__law_right g__law_right sc__law_right b__law_right k__law_right (by decide +kernel) (by decide +kernel) c__law_right 1 rfl 3 rfl
  exact E20.fn (fr := false) C F_law sc_law (by decide +kernel) c_law
end Lk62


set_option maxHeartbeats 0
open PySem PySem.W PySem.Calls PyProof.Rows
theorem PySem.Challenge.cw_rowreaders_k62_numbers_and_their_rows_holds : PySem.Challenge.rw_rowreaders_k62_numbers_and_their_rows.Holds := by
  w_on; o_law
  refine HandSHeadRun.head_any (r := OpenLaw.row PySem.Challenge.rw_rowreaders_k62_numbers_and_their_rows) (q := view (OpenLaw.row PySem.Challenge.rw_rowreaders_k62_numbers_and_their_rows).prog [32]) (H := Lk62.hk) (ob := Lk62.ob) (M := 20000) (loose := Lk62.loose) (d := HandSHeadRun.topDef (OpenLaw.row PySem.Challenge.rw_rowreaders_k62_numbers_and_their_rows).prog 32) (kwd := []) Lk62.ob_eq
    (by kernel_rfl) (fun s => by kernel_rfl) Lk62.run (by kernel_rfl) (by kernel_rfl) (by kernel_rfl) (by rfl) (by first | assumption | decide +kernel) (by decide +kernel) ⟨rfl, rfl, rfl, rfl, rfl, by decide +kernel⟩ ?hw ?hc
  case hw => w_witness2
  case hc =>
    refine L2.walk_ofE (l := PySem.Challenge.rw_rowreaders_k62_numbers_and_their_rows) (n := 63) (k := 21) (x := "_law_script") (CX := L2.CX0) rfl (by decide) (by kernel_rfl) ⟨rfl, by decide, by decide⟩ ?F (fun _ _ _ _ z => z)
    intro w mg fa h Y G hmg0
    obtain ⟨K, KX, c⟩ := Y
    have hmg : mg ("law" : PySem.Str) = some (.ref fa) := by
      have e : (HandSHeadRun.topDef (OpenLaw.row PySem.Challenge.rw_rowreaders_k62_numbers_and_their_rows).prog 32).name = ("law" : PySem.Str) := by kernel_rfl
      rw [← e]
      exact hmg0
    obtain ⟨fd, hb, hF⟩ := Lk62.facts (P := (PySem.Challenge.rw_rowreaders_k62_numbers_and_their_rows).prog) (w := w) KX G hmg c
    exact ⟨K, fd, RR.spOf ⟨K, mg⟩ 1 Lk62.fi_law.fm, KX, hb, fun H a ns hl _ hS => RR.law_sp (Lk62.law_true ns hl) hS, hF⟩
