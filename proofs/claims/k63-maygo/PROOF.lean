import PyProof.Rows.All
import Wide.All
import OpenK.AllK
import Wide.FinOn
import HandS.ForMost
import HandS.Exc
import HandS.TupAny
import HandS.IsInst
import HandS.WideBits
import HandS.Wide
import KE.DataEq
import KE.DataCmp
import KE.SortData
import KE.DataMinMax
import KE.DataIsa
import HandS.DictComp
import HandS.Strs
import HandS.More
import HandS.Style
import HandS.Conv
import HandS.ForDict
import KE.KEqDict
import PyProof.Claim2Refuses
import HandS.TryOnly
import HandS.Iter
import HandS.Text
import HandS.StrMore
import KE.KDictDisplayH
import PyProof.ListStr
import PyProof.Rows.CountFlat
import PyProof.DictCompW
import HandS.Replace
import PyProof.TupleOfStr
import HandS.ListItems
import KE.GoesMore
import PyProof.SumWalk
import PyProof.ListOps
import HandS.Codes
import KE.KExcSuper
import KE.RegKSuper
import HandS.ExcOwn
import KE.KExcIs
import PySem.Challenge.RW_surepieces_k63_whole_what_may_go
set_option Elab.async false
set_option linter.all false
set_option maxRecDepth 100000
/-! Fm1: trees, cells, stores, what simulates what. -/
namespace Fm
open PySem PySem.Spec PyProof.Rows L2

abbrev Tx := List Nat
def sv (s : Tx) : Str := ⟨s.toArray⟩
def cs (s : String) : Tx := s.toList.map Char.toNat
theorem sv_cs (s : String) : Str.ofString s = sv (cs s) := Str.ofString_eq_toList s
theorem sv_list (s : Tx) : (sv s).cps.toList = s := by simp [sv]
theorem sv_len (s : Tx) : (sv s).length = s.length := by simp [sv, Str.length]
theorem sv_inj {a b : Tx} (h : sv a = sv b) : a = b := by
  have e := congrArg (fun z : Str => z.cps.toList) h
  simpa [sv_list] using e
theorem sv_of (z : Str) : sv z.cps.toList = z := by simp [sv]

inductive At where
  | int (i : Int) | str (s : Tx)
  deriving DecidableEq
/-- a text that is not too long -/
def At.Fit : At → Prop
  | .int _ => True
  | .str s => s.length ≤ sizeLine
def At.key : At → Key
  | .int i => .inl i
  | .str s => .inr (sv s)
theorem At.key_inj {a b : At} (h : a.key = b.key) : a = b := by
  cases a <;> cases b <;> simp [At.key] at h
  · exact congrArg At.int h
  · exact congrArg At.str (sv_inj h)

/-- a value without identity -/
inductive T where
  | non | bl (b : Bool) | int (i : Int) | str (s : Tx) | lst (l : List T) | tup (l : List T) | dic (l : List (At × T)) | dit (l : List (List At × T)) | scr (l : List Int) | ty (n : String) | wtup (l : List T) | xcp (c : String) (x : T)
/-- a value: a tree, or a cell -/
inductive D where
  | t (x : T) | ref (i : Nat)
/-- what stands in a cell -/
inductive O where
  | dead | lst (l : List D) | dic (l : List (At × D)) | dit (l : List (List At × D)) | ins (c : Str) (fs : List (Str × D))
/-- what was raised -/
structure Xv where
  c : String
  v : T
  e : List (Option D)
inductive R (α : Type) where
  | ok (a : α) (S : List O) | ex (x : Xv) (S : List O) | no
def R.bind {α β : Type} (r : R α) (f : α → List O → R β) : R β := match r with
  | .ok a S => f a S
  | .ex x S => .ex x S
  | .no => .no
@[simp] theorem R.bind_ok {α β : Type} (a : α) (S : List O) (f : α → List O → R β) : (R.ok a S).bind f = f a S := rfl
@[simp] theorem R.bind_ex {α β : Type} (x : Xv) (S : List O) (f : α → List O → R β) : (R.ex x S : R α).bind f = .ex x S := rfl
@[simp] theorem R.bind_no {α β : Type} (f : α → List O → R β) : (R.no : R α).bind f = .no := rfl

def isD : HO → Bool
  | .dK _ => true
  | .dT _ => true
  | .frz _ u => isD u
  | _ => false
def Pl : HO → Prop
  | .frz _ _ => False
  | _ => True

/-- at a: an exception of the class cls, its dict at d -/
def xob (cls : Value) (d a : Addr) : HO := .ext fun h => ∃ (oe : Obj) (vs : Array Value), h.get? a = some oe ∧ Zc cls (some d) oe ∧ oe.data = .fields vs
/-- the one field of our exceptions -/
abbrev xf (v : V) : List (Str × V) := [(("value" : Str), v)]
/-- a list, a tuple of the written part -/
def WrL (K : PySem.W.Frag) (a : Addr) (xs : List V) : Prop :=
  ∃ (o : Obj) (its : Array Value) (n : Nat), K.lookup a = some o ∧ o.cls = .type "list" ∧ o.dict = none ∧ o.data = .seq its n ∧ its.size ≤ sizeLine ∧ Vals xs its.toList
def WrT (K : PySem.W.Frag) (a : Addr) (xs : List V) : Prop :=
  ∃ (o : Obj) (its : Array Value) (n : Nat), K.lookup a = some o ∧ o.cls = .type "tuple" ∧ o.data = .seq its n ∧ its.size ≤ sizeLine ∧ Vals xs its.toList

mutual
/-- the value v stands for the tree -/
inductive RV (K : PySem.W.Frag) (Z : Addr → Prop) (H : Hp) : T → V → Prop where
  | non : RV K Z H .non .non
  | bl (b : Bool) : RV K Z H (.bl b) (.bl b)
  | int (i : Int) : RV K Z H (.int i) (.int i)
  | str (s : Tx) : s.length ≤ sizeLine → RV K Z H (.str s) (.str (sv s))
  | lst (l : List T) (a : Addr) (vs : List V) : Z a → H a = some (.lst vs) → vs.length ≤ sizeLine → RVs K Z H l vs → RV K Z H (.lst l) (.ref a)
  | tup (l : List T) (a : Addr) (vs : List V) : Z a → H a = some (.tup vs) → vs.length ≤ sizeLine → RVs K Z H l vs → RV K Z H (.tup l) (.ref a)
  | tupK (l : List T) (a : Addr) (vs : List V) : WrT K a vs → RVs K Z H l vs → RV K Z H (.wtup l) (.ref a)
  | dic (l : List (At × T)) (a : Addr) (kvs : List (Key × V)) : Z a → Rd H a (.dK kvs) → RKs K Z H l kvs → RV K Z H (.dic l) (.ref a)
  | dit (l : List (List At × T)) (a : Addr) (kvs : List (List Key × V)) : Z a → Rd H a (.dT kvs) → RJs K Z H l kvs → RV K Z H (.dit l) (.ref a)
  | scr (l : List Int) (a : Addr) (o : Obj) : l.length ≤ sizeLine → Z a → H a = some (.frz o (.lst (l.map V.int))) → RV K Z H (.scr l) (.ref a)
  | scr1 (l : List Int) (a : Addr) : l.length ≤ sizeLine → Z a → H a = some (.lst (l.map V.int)) → RV K Z H (.scr l) (.ref a)
  | ty (n : String) : RV K Z H (.ty n) (.ty n)
  | scrK (l : List Int) (a : Addr) : l.length ≤ sizeLine → WrL K a (l.map V.int) → RV K Z H (.scr l) (.ref a)
  | xcp (c : String) (x : T) (a d C : Addr) (v : V) : Z a → Z d → H a = some (xob (.ref C) d a) → H d = some (.xd (xf v)) → PySem.W.nsIn K mainGlobals c = some (some (.ref C)) → RV K Z H x v → RV K Z H (.xcp c x) (.ref a)
inductive RVs (K : PySem.W.Frag) (Z : Addr → Prop) (H : Hp) : List T → List V → Prop where
  | nil : RVs K Z H [] []
  | cons (t : T) (v : V) (ts : List T) (vs : List V) : RV K Z H t v → RVs K Z H ts vs → RVs K Z H (t :: ts) (v :: vs)
inductive RKs (K : PySem.W.Frag) (Z : Addr → Prop) (H : Hp) : List (At × T) → List (Key × V) → Prop where
  | nil : RKs K Z H [] []
  | cons (k : At) (t : T) (v : V) (ts : List (At × T)) (vs : List (Key × V)) : k.Fit → RV K Z H t v → RKs K Z H ts vs → RKs K Z H ((k, t) :: ts) ((k.key, v) :: vs)
inductive RJs (K : PySem.W.Frag) (Z : Addr → Prop) (H : Hp) : List (List At × T) → List (List Key × V) → Prop where
  | nil : RJs K Z H [] []
  | cons (k : List At) (t : T) (v : V) (ts : List (List At × T)) (vs : List (List Key × V)) : (∀ x ∈ k, x.Fit) → RV K Z H t v → RJs K Z H ts vs → RJs K Z H ((k, t) :: ts) ((k.map At.key, v) :: vs)
end

section
variable {K : PySem.W.Frag} {Z Z' : Addr → Prop} {H H' : Hp}
mutual
theorem RV.mono (hz : ∀ a, Z a → Z' a) (rd : ∀ a u, Z a → H a = some u → isD u = false → H' a = some u) (rdD : ∀ a u, Z a → Pl u → isD u = true → Rd H a u → Rd H' a u) :
    ∀ {t : T} {v : V}, RV K Z H t v → RV K Z' H' t v
  | _, _, .non => .non
  | _, _, .bl b => .bl b
  | _, _, .int i => .int i
  | _, _, .str s h => .str s h
  | _, _, .lst l a vs h1 h2 h3 h4 => .lst l a vs (hz a h1) (rd a _ h1 h2 rfl) h3 (RVs.mono hz rd rdD h4)
  | _, _, .tup l a vs h1 h2 h3 h4 => .tup l a vs (hz a h1) (rd a _ h1 h2 rfl) h3 (RVs.mono hz rd rdD h4)
  | _, _, .tupK l a vs h1 h2 => .tupK l a vs h1 (RVs.mono hz rd rdD h2)
  | _, _, .dic l a kvs h1 h2 h3 => .dic l a kvs (hz a h1) (rdD a _ h1 trivial rfl h2) (RKs.mono hz rd rdD h3)
  | _, _, .dit l a kvs h1 h2 h3 => .dit l a kvs (hz a h1) (rdD a _ h1 trivial rfl h2) (RJs.mono hz rd rdD h3)
  | _, _, .scr l a o h0 h1 h2 => .scr l a o h0 (hz a h1) (rd a _ h1 h2 rfl)
  | _, _, .scr1 l a h0 h1 h2 => .scr1 l a h0 (hz a h1) (rd a _ h1 h2 rfl)
  | _, _, .ty n => .ty n
  | _, _, .scrK l a h0 h1 => .scrK l a h0 h1
  | _, _, .xcp c x a d C v h1 h2 h3 h4 h5 h6 => .xcp c x a d C v (hz a h1) (hz d h2) (rd a _ h1 h3 rfl) (rd d _ h2 h4 rfl) h5 (RV.mono hz rd rdD h6)
theorem RVs.mono (hz : ∀ a, Z a → Z' a) (rd : ∀ a u, Z a → H a = some u → isD u = false → H' a = some u) (rdD : ∀ a u, Z a → Pl u → isD u = true → Rd H a u → Rd H' a u) :
    ∀ {t : List T} {v : List V}, RVs K Z H t v → RVs K Z' H' t v
  | _, _, .nil => .nil
  | _, _, .cons t v ts vs h1 h2 => .cons t v ts vs (RV.mono hz rd rdD h1) (RVs.mono hz rd rdD h2)
theorem RKs.mono (hz : ∀ a, Z a → Z' a) (rd : ∀ a u, Z a → H a = some u → isD u = false → H' a = some u) (rdD : ∀ a u, Z a → Pl u → isD u = true → Rd H a u → Rd H' a u) :
    ∀ {t : List (At × T)} {v : List (Key × V)}, RKs K Z H t v → RKs K Z' H' t v
  | _, _, .nil => .nil
  | _, _, .cons k t v ts vs h0 h1 h2 => .cons k t v ts vs h0 (RV.mono hz rd rdD h1) (RKs.mono hz rd rdD h2)
theorem RJs.mono (hz : ∀ a, Z a → Z' a) (rd : ∀ a u, Z a → H a = some u → isD u = false → H' a = some u) (rdD : ∀ a u, Z a → Pl u → isD u = true → Rd H a u → Rd H' a u) :
    ∀ {t : List (List At × T)} {v : List (List Key × V)}, RJs K Z H t v → RJs K Z' H' t v
  | _, _, .nil => .nil
  | _, _, .cons k t v ts vs h0 h1 h2 => .cons k t v ts vs h0 (RV.mono hz rd rdD h1) (RJs.mono hz rd rdD h2)
end
end

/-- how indices of cells lie in the heap; Z: what never changes any more; Y: what is changed by nobody but its maker -/
structure Cf where
  n : Nat
  m : Nat → Addr
  Z : Addr → Prop
  Y : Addr → Prop

def RD (K : PySem.W.Frag) (c : Cf) (H : Hp) : D → V → Prop
  | .t x, v => RV K c.Z H x v
  | .ref i, v => i < c.n ∧ v = .ref (c.m i)
def RDs (K : PySem.W.Frag) (c : Cf) (H : Hp) : List D → List V → Prop := Paired (RD K c H)
def RO (K : PySem.W.Frag) (c : Cf) (H : Hp) : O → Addr → Prop
  | .dead, _ => True
  | .lst l, a => ∃ vs, H a = some (.lst vs) ∧ vs.length ≤ sizeLine ∧ RDs K c H l vs
  | .dic l, a => ∃ kvs, H a = some (.dK kvs) ∧ Paired (fun (p : At × D) (q : Key × V) => (p.1.Fit ∧ q.1 = p.1.key) ∧ RD K c H p.2 q.2) l kvs
  | .dit l, a => ∃ kvs, H a = some (.dT kvs) ∧ Paired (fun (p : List At × D) (q : List Key × V) => ((∀ x ∈ p.1, x.Fit) ∧ q.1 = p.1.map At.key) ∧ RD K c H p.2 q.2) l kvs
  | .ins C fs, a => ∃ (A dx : Addr) (gs : List (Str × V)), H a = some (.ins A dx gs) ∧ c.Z dx ∧ H dx = some (.own a) ∧ Paired (fun (p : Str × D) (q : Str × V) => q.1 = p.1 ∧ RD K c H p.2 q.2) fs gs ∧ PySem.W.nsIn K mainGlobals C = some (some (.ref A))
def O.live : O → Bool
  | .dead => false
  | _ => true
theorem RO.there {K : PySem.W.Frag} {c : Cf} {H : Hp} {o : O} {a : Addr} (h : RO K c H o a) (l : o.live = true) : ∃ u, H a = some u := by
  cases o with
  | dead => cases l
  | lst x => obtain ⟨_, e, _⟩ := h; exact ⟨_, e⟩
  | dic x => obtain ⟨_, e, _⟩ := h; exact ⟨_, e⟩
  | dit x => obtain ⟨_, e, _⟩ := h; exact ⟨_, e⟩
  | ins C fs => obtain ⟨_, _, _, e, _⟩ := h; exact ⟨_, e⟩

/-- no tuple -/
def ntO : HO → Bool
  | .tup _ => false
  | _ => true
/-- the store is held by the heap; P: cells that are read alone -/
structure Sim (K : PySem.W.Frag) (P S : List O) (c : Cf) (H : Hp) : Prop where
  n : P.length + S.length = c.n
  ro : ∀ i o, (P ++ S)[i]? = some o → RO K c H o (c.m i)
  nz : ∀ i o, (P ++ S)[i]? = some o → o.live = true → ¬ c.Z (c.m i)
  inj : ∀ i j o u, (P ++ S)[i]? = some o → (P ++ S)[j]? = some u → o.live = true → u.live = true → c.m i = c.m j → i = j
  z : ∀ a, c.Z a → ∃ u, H a = some u
  y : ∀ a, c.Y a → ∃ u, H a = some u ∧ ntO u = true
  yz : ∀ a, c.Y a → ¬ c.Z a
  yc : ∀ i o, (P ++ S)[i]? = some o → o.live = true → ¬ c.Y (c.m i)

structure Ev (P : List O) (c : Cf) (H : Hp) (c' : Cf) (H' : Hp) : Prop where
  z : ∀ a, c.Z a → c'.Z a
  rd : ∀ a u, c.Z a → H a = some u → isD u = false → H' a = some u
  rdD : ∀ a u, c.Z a → Pl u → isD u = true → Rd H a u → Rd H' a u
  n : c.n ≤ c'.n
  m : ∀ i, i < c.n → c'.m i = c.m i
  b : ∀ i o, P[i]? = some o → o.live = true → H' (c.m i) = H (c.m i) ∧ ¬ c'.Z (c.m i) ∧ ¬ c'.Y (c.m i)
  y : ∀ a, c.Y a → c'.Y a ∧ H' a = H a
  fz : ∀ a o u, c.Z a → H a = some (.frz o u) → H' a = some (.frz o u)

section
variable {K : PySem.W.Frag} {P S S' : List O} {c c1 c2 : Cf} {H H1 H2 : Hp} {d : D} {v : V}
theorem RD.mono (e : Ev P c H c1 H1) (h : RD K c H d v) : RD K c1 H1 d v := by
  cases d with
  | t x => exact RV.mono e.z e.rd e.rdD h
  | ref i => exact ⟨Nat.lt_of_lt_of_le h.1 e.n, by rw [e.m i h.1]; exact h.2⟩
theorem RDs.mono (e : Ev P c H c1 H1) {ds : List D} {vs : List V} (h : RDs K c H ds vs) : RDs K c1 H1 ds vs := Paired.mapP h fun _ _ => RD.mono e
theorem RO.mono (e : Ev P c H c1 H1) {o : O} {a : Addr} (q : H1 a = H a) (h : RO K c H o a) : RO K c1 H1 o a := by
  cases o with
  | dead => trivial
  | lst l => obtain ⟨vs, h1, h0, h2⟩ := h; exact ⟨vs, q.trans h1, h0, h2.mono e⟩
  | dic l => obtain ⟨vs, h1, h2⟩ := h; exact ⟨vs, q.trans h1, Paired.mapP h2 fun _ _ z => ⟨z.1, z.2.mono e⟩⟩
  | dit l => obtain ⟨vs, h1, h2⟩ := h; exact ⟨vs, q.trans h1, Paired.mapP h2 fun _ _ z => ⟨z.1, z.2.mono e⟩⟩
  | ins C fs => obtain ⟨A, dx, gs, h1, h2, h3, h4⟩ := h; exact ⟨A, dx, gs, q.trans h1, e.z _ h2, e.rd _ _ h2 h3 rfl, Paired.mapP h4.1 fun _ _ z => ⟨z.1, z.2.mono e⟩, h4.2⟩
theorem RD.noY (h : RD K c H d v) : RD K { c with Y := fun _ => False } H d v := by cases d <;> exact h
theorem RO.noY {o : O} {a : Addr} (h : RO K c H o a) : RO K { c with Y := fun _ => False } H o a := by
  cases o with
  | dead => trivial
  | lst l => obtain ⟨vs, h1, h0, h2⟩ := h; exact ⟨vs, h1, h0, Paired.mapP h2 fun _ _ z => z.noY⟩
  | dic l => obtain ⟨vs, h1, h2⟩ := h; exact ⟨vs, h1, Paired.mapP h2 fun _ _ z => ⟨z.1, z.2.noY⟩⟩
  | dit l => obtain ⟨vs, h1, h2⟩ := h; exact ⟨vs, h1, Paired.mapP h2 fun _ _ z => ⟨z.1, z.2.noY⟩⟩
  | ins C fs => obtain ⟨A, dx, gs, h1, h2, h3, h4⟩ := h; exact ⟨A, dx, gs, h1, h2, h3, Paired.mapP h4.1 fun _ _ z => ⟨z.1, z.2.noY⟩, h4.2⟩
/-- the part of a change that trees feel -/
theorem RO.mono' (hz : ∀ a, c.Z a → c1.Z a) (rd : ∀ a u, c.Z a → H a = some u → isD u = false → H1 a = some u) (rdD : ∀ a u, c.Z a → Pl u → isD u = true → Rd H a u → Rd H1 a u)
    (hn : c.n ≤ c1.n) (hm : ∀ i, i < c.n → c1.m i = c.m i) {o : O} {a : Addr} (q : H1 a = H a) (h : RO K c H o a) : RO K c1 H1 o a := by
  have up : ∀ {d : D} {v : V}, RD K c H d v → RD K c1 H1 d v := fun {d v} h => by
    cases d with
    | t x => exact RV.mono hz rd rdD h
    | ref i => exact ⟨Nat.lt_of_lt_of_le h.1 hn, by rw [hm i h.1]; exact h.2⟩
  cases o with
  | dead => trivial
  | lst l => obtain ⟨vs, h1, h0, h2⟩ := h; exact ⟨vs, q.trans h1, h0, Paired.mapP h2 fun _ _ z => up z⟩
  | dic l => obtain ⟨vs, h1, h2⟩ := h; exact ⟨vs, q.trans h1, Paired.mapP h2 fun _ _ z => ⟨z.1, up z.2⟩⟩
  | dit l => obtain ⟨vs, h1, h2⟩ := h; exact ⟨vs, q.trans h1, Paired.mapP h2 fun _ _ z => ⟨z.1, up z.2⟩⟩
  | ins C fs => obtain ⟨A, dx, gs, h1, h2, h3, h4⟩ := h; exact ⟨A, dx, gs, q.trans h1, hz _ h2, rd _ _ h2 h3 rfl, Paired.mapP h4.1 fun _ _ z => ⟨z.1, up z.2⟩, h4.2⟩
theorem Ev.refl (h : Sim K P S c H) : Ev P c H c H :=
  ⟨fun _ z => z, fun _ _ _ z _ => z, fun _ _ _ _ _ z => z, Nat.le_refl _, fun _ _ => rfl, fun i o e l =>
    have e' : (P ++ S)[i]? = some o := by rw [List.getElem?_append_left (List.getElem?_eq_some_iff.mp e).1]; exact e
    ⟨rfl, h.nz i o e' l, h.yc i o e' l⟩, fun _ z => ⟨z, rfl⟩, fun _ _ _ _ e => e⟩
theorem Ev.trans (hs : P.length ≤ c.n) (a : Ev P c H c1 H1) (b : Ev P c1 H1 c2 H2) : Ev P c H c2 H2 :=
  ⟨fun x z => b.z x (a.z x z), fun x u z h i => b.rd x u (a.z x z) (a.rd x u z h i) i, fun x u z p i h => b.rdD x u (a.z x z) p i (a.rdD x u z p i h), Nat.le_trans a.n b.n,
    fun i h => (b.m i (Nat.lt_of_lt_of_le h a.n)).trans (a.m i h), fun i o e l => by
      have hi : i < c.n := Nat.lt_of_lt_of_le (List.getElem?_eq_some_iff.mp e).1 hs
      have h1 := a.b i o e l
      have h2 := b.b i o e l
      rw [a.m i hi] at h2
      exact ⟨h2.1.trans h1.1, h2.2⟩, fun x z => ⟨(b.y x (a.y x z).1).1, (b.y x (a.y x z).1).2.trans (a.y x z).2⟩, fun x o u z e => b.fz x o u (a.z x z) (a.fz x o u z e)⟩
theorem Sim.pl (h : Sim K P S c H) : P.length ≤ c.n := by have := h.n; omega
end

/-- what is wanted behind a mirror's answer -/
abbrev WX := Xv → Cf → List O → Hp → Prop
def W0 : WX := fun _ _ _ _ => False
def Post {α β : Type} (K : PySem.W.Frag) (P : List O) (c : Cf) (H : Hp) (rel : Cf → Hp → α → β → Prop) (r : R α) (W : WX) (Q : β → Hp → Prop) : Prop := match r with
  | .ok a S' => ∀ c' b H', Ev P c H c' H' → Sim K P S' c' H' → rel c' H' a b → Q b H'
  | .ex x S' => ∀ c' H', Ev P c H c' H' → Sim K P S' c' H' → W x c' S' H'
  | .no => False
theorem Post.ev {α β : Type} {K : PySem.W.Frag} {P : List O} {c c1 : Cf} {H H1 : Hp} {rel : Cf → Hp → α → β → Prop} {r : R α} {W : WX} {Q : β → Hp → Prop} (hs : P.length ≤ c.n) (e : Ev P c H c1 H1) (h : Post K P c H rel r W Q) : Post K P c1 H1 rel r W Q := by
  cases r with
  | ok a S' => exact fun c' b H' e' => h c' b H' (e.trans hs e')
  | ex x S' => exact fun c' H' e' => h c' H' (e.trans hs e')
  | no => exact h

/-! ### environments -/
abbrev En := List (Option D)
structure SimE (K : PySem.W.Frag) (c : Cf) (H : Hp) (ρ : En) (σ : L2.St) : Prop where
  len : σ.length = ρ.length
  get : ∀ (i : Nat) (d : D), ρ[i]? = some (some d) → ∃ v, σ[i]? = some (some v) ∧ RD K c H d v
theorem SimE.mono {K : PySem.W.Frag} {P : List O} {c c1 : Cf} {H H1 : Hp} {ρ : En} {σ : L2.St} (e : Ev P c H c1 H1) (h : SimE K c H ρ σ) : SimE K c1 H1 ρ σ :=
  ⟨h.len, fun i d q => let ⟨v, h1, h2⟩ := h.get i d q; ⟨v, h1, h2.mono e⟩⟩
theorem SimE.set {K : PySem.W.Frag} {c : Cf} {H : Hp} {ρ : En} {σ : L2.St} {d : D} {v : V} (h : SimE K c H ρ σ) (i : Nat) (r : RD K c H d v) : SimE K c H (ρ.set i (some d)) (σ.set i (some v)) := by
  refine ⟨by rw [List.length_set, List.length_set, h.len], fun j e q => ?_⟩
  by_cases hj : i = j
  · subst hj
    by_cases hi : i < ρ.length
    · rw [List.getElem?_set_self hi] at q
      cases q
      exact ⟨v, List.getElem?_set_self (by rw [h.len]; exact hi), r⟩
    · rw [List.getElem?_eq_none (by rw [List.length_set]; omega)] at q
      cases q
  · rw [List.getElem?_set_ne hj] at q
    obtain ⟨w, h1, h2⟩ := h.get j e q
    exact ⟨w, by rw [List.getElem?_set_ne hj]; exact h1, h2⟩
theorem SimE.clr {K : PySem.W.Frag} {c : Cf} {H : Hp} {ρ : En} {σ : L2.St} (h : SimE K c H ρ σ) (i : Nat) (o : Option V) : SimE K c H (ρ.set i none) (σ.set i o) := by
  refine ⟨by rw [List.length_set, List.length_set, h.len], fun j e q => ?_⟩
  by_cases hj : i = j
  · subst hj
    by_cases hi : i < ρ.length
    · rw [List.getElem?_set_self hi] at q
      cases q
    · rw [List.getElem?_eq_none (by rw [List.length_set]; omega)] at q
      cases q
  · rw [List.getElem?_set_ne hj] at q
    obtain ⟨w, h1, h2⟩ := h.get j e q
    exact ⟨w, by rw [List.getElem?_set_ne hj]; exact h1, h2⟩

/-! ### steps of the heap -/
section
variable {K : PySem.W.Frag} {P S : List O} {c : Cf} {H : Hp} {p : Addr} {o : HO}
def Cf.zed (c : Cf) (p : Addr) : Cf := { c with Z := fun a => c.Z a ∨ a = p }
def Cf.cell (c : Cf) (p : Addr) : Cf := { c with n := c.n + 1, m := fun i => if i = c.n then p else c.m i }
theorem Sim.ne (h : Sim K P S c H) (hp : H p = none) {i : Nat} {u : O} (e : (P ++ S)[i]? = some u) (l : u.live = true) : c.m i ≠ p := fun q => by
  obtain ⟨z, hz⟩ := (h.ro i u e).there l
  rw [q, hp] at hz
  cases hz
theorem Sim.zne (h : Sim K P S c H) (hp : H p = none) {a : Addr} (z : c.Z a) : a ≠ p := fun q => by
  obtain ⟨u, e⟩ := h.z a z
  rw [q, hp] at e
  cases e
theorem Sim.yne (h : Sim K P S c H) (hp : H p = none) {a : Addr} (z : c.Y a) : a ≠ p := fun q => by
  obtain ⟨u, e, _⟩ := h.y a z
  rw [q, hp] at e
  cases e
/-- a new object that no cell names and no tree stands for yet -/
theorem Ev.new (h : Sim K P S c H) (hp : H p = none) : Ev P c H c (upd H p o) :=
  ⟨fun _ z => z, fun a u z e _ => by rw [upd_ne (h.zne hp z)]; exact e, fun a u z _ _ e => by unfold Rd; rw [upd_ne (h.zne hp z)]; exact e, Nat.le_refl _, fun _ _ => rfl, fun i u e l => by
    have e' : (P ++ S)[i]? = some u := by rw [List.getElem?_append_left (List.getElem?_eq_some_iff.mp e).1]; exact e
    exact ⟨upd_ne (h.ne hp e' l), h.nz i u e' l, h.yc i u e' l⟩, fun a z => ⟨z, upd_ne (h.yne hp z)⟩, fun a o u z e => by rw [upd_ne (h.zne hp z)]; exact e⟩
theorem Sim.new (h : Sim K P S c H) (hp : H p = none) : Sim K P S c (upd H p o) :=
  ⟨h.n, fun i u e => by
    cases hl : u.live with
    | false => cases u <;> first | trivial | cases hl
    | true => exact (h.ro i u e).mono (Ev.new h hp) (upd_ne (h.ne hp e hl)), h.nz, h.inj, fun a z => by
      obtain ⟨u, e⟩ := h.z a z
      exact ⟨u, by rw [upd_ne (h.zne hp z)]; exact e⟩, fun a z => by
      obtain ⟨u, e, nt⟩ := h.y a z
      exact ⟨u, by rw [upd_ne (h.yne hp z)]; exact e, nt⟩, h.yz, h.yc⟩
/-- what stands at p, and is no cell, never changes any more -/
theorem Ev.zed (h : Sim K P S c H) (hp : ∀ i u, (P ++ S)[i]? = some u → u.live = true → c.m i ≠ p) : Ev P c H (c.zed p) H :=
  ⟨fun _ z => .inl z, fun _ _ _ e _ => e, fun _ _ _ _ _ e => e, Nat.le_refl _, fun _ _ => rfl, fun i u e l => by
    have e' : (P ++ S)[i]? = some u := by rw [List.getElem?_append_left (List.getElem?_eq_some_iff.mp e).1]; exact e
    exact ⟨rfl, fun z => z.elim (h.nz i u e' l) (hp i u e' l), h.yc i u e' l⟩, fun _ z => ⟨z, rfl⟩, fun _ _ _ _ e => e⟩
theorem Sim.zed (h : Sim K P S c H) (hp : ∀ i u, (P ++ S)[i]? = some u → u.live = true → c.m i ≠ p) (hy : ¬ c.Y p) {o : HO} (ho : H p = some o) : Sim K P S (c.zed p) H :=
  ⟨h.n, fun i u e => (h.ro i u e).mono (Ev.zed h hp) rfl, fun i u e l z => z.elim (h.nz i u e l) (hp i u e l), h.inj, fun a z => z.elim (h.z a) fun q => ⟨o, by rw [q]; exact ho⟩, h.y, fun a y z => z.elim (h.yz a y) fun q => hy (q ▸ y), h.yc⟩
theorem Ev.alloc (h : Sim K P S c H) (hp : H p = none) : Ev P c H (c.zed p) (upd H p o) :=
  (Ev.new h hp).trans h.pl (Ev.zed (h.new hp) fun _ _ e l => h.ne hp e l)
theorem Sim.alloc (h : Sim K P S c H) (hp : H p = none) : Sim K P S (c.zed p) (upd H p o) :=
  Sim.zed (h.new hp) (fun _ _ e l => h.ne hp e l) (fun z => h.yne hp z rfl) upd_same
/-- a new cell -/
theorem Ev.cellE (h : Sim K P S c H) (hp : H p = none) : Ev P c H (c.cell p) (upd H p o) := by
  have e := Ev.new (o := o) h hp
  refine ⟨e.z, e.rd, e.rdD, Nat.le_succ _, fun i hi => ?_, e.b, e.y, e.fz⟩
  show (if i = c.n then p else c.m i) = c.m i
  rw [if_neg (by omega)]
theorem Sim.cell (h : Sim K P S c H) (hp : H p = none) {u : O} (hu : RO K (c.cell p) (upd H p o) u p) : Sim K P (S ++ [u]) (c.cell p) (upd H p o) := by
  have hn := h.n
  have e1 : ∀ {i w}, (P ++ (S ++ [u]))[i]? = some w → (i < c.n ∧ (P ++ S)[i]? = some w ∧ (c.cell p).m i = c.m i) ∨ (i = c.n ∧ w = u ∧ (c.cell p).m i = p) := fun {i w} e => by
    rw [← List.append_assoc] at e
    have hlen : (P ++ S).length = c.n := by rw [List.length_append]; exact hn
    by_cases hi : i < c.n
    · rw [List.getElem?_append_left (by omega)] at e
      refine .inl ⟨hi, e, ?_⟩
      show (if i = c.n then p else c.m i) = c.m i
      rw [if_neg (by omega)]
    · rw [List.getElem?_append_right (by omega)] at e
      have hi' : i = c.n := by
        have := (List.getElem?_eq_some_iff.mp e).1
        rw [List.length_singleton] at this
        omega
      refine .inr ⟨hi', ?_, ?_⟩
      · rw [hi', hlen, Nat.sub_self] at e
        exact (Option.some.inj e).symm
      · show (if i = c.n then p else c.m i) = p
        rw [if_pos hi']
  refine ⟨by rw [List.length_append, List.length_singleton]; show _ = c.n + 1; omega, fun i w e => ?_, fun i w e l => ?_, fun i j w w' ei ej li lj q => ?_, fun a z => ?_, fun a z => ?_, h.yz, fun i w e l => ?_⟩
  · rcases e1 e with ⟨hi, e, q⟩ | ⟨hi, rfl, q⟩
    · rw [q]
      cases hl : w.live with
      | false => cases w <;> first | trivial | cases hl
      | true => exact (h.ro i w e).mono (Ev.cellE h hp) (upd_ne (h.ne hp e hl))
    · rw [q]; exact hu
  · rcases e1 e with ⟨hi, e, q⟩ | ⟨hi, rfl, q⟩
    · rw [q]; exact h.nz i w e l
    · rw [q]; exact fun z => h.zne hp z rfl
  · rcases e1 ei with ⟨hi, fi, qi⟩ | ⟨hi, _, qi⟩ <;> rcases e1 ej with ⟨hj, fj, qj⟩ | ⟨hj, _, qj⟩
    · rw [qi, qj] at q
      exact h.inj i j w w' fi fj li lj q
    · rw [qi, qj] at q
      exact absurd q (h.ne hp fi li)
    · rw [qi, qj] at q
      exact absurd q.symm (h.ne hp fj lj)
    · omega
  · obtain ⟨w, e⟩ := h.z a z
    exact ⟨w, by rw [upd_ne (h.zne hp z)]; exact e⟩
  · obtain ⟨w, e, nt⟩ := h.y a z
    exact ⟨w, by rw [upd_ne (h.yne hp z)]; exact e, nt⟩
  · rcases e1 e with ⟨hi, e, q⟩ | ⟨hi, rfl, q⟩
    · rw [q]; exact h.yc i w e l
    · rw [q]; exact fun z => h.yne hp z rfl
/-- a cell is changed -/
theorem Ev.put (h : Sim K P S c H) {j : Nat} {w : O} (hj : S[j]? = some w) (hl : w.live = true) : Ev P c H c (upd H (c.m (P.length + j)) o) := by
  have ej : (P ++ S)[P.length + j]? = some w := by rw [List.getElem?_append_right (by omega)]; simpa using hj
  have zn : ∀ {a}, c.Z a → a ≠ c.m (P.length + j) := fun z q => h.nz _ w ej hl (q ▸ z)
  have yn : ∀ {a}, c.Y a → a ≠ c.m (P.length + j) := fun z q => h.yc _ w ej hl (q ▸ z)
  refine ⟨fun _ z => z, fun a u z e _ => by rw [upd_ne (zn z)]; exact e, fun a u z _ _ e => by unfold Rd; rw [upd_ne (zn z)]; exact e, Nat.le_refl _, fun _ _ => rfl, fun i u e l => ?_, fun a z => ⟨z, upd_ne (yn z)⟩, fun a o u z e => by rw [upd_ne (zn z)]; exact e⟩
  have hi := (List.getElem?_eq_some_iff.mp e).1
  have e' : (P ++ S)[i]? = some u := by rw [List.getElem?_append_left hi]; exact e
  exact ⟨upd_ne fun q => by have := h.inj _ _ _ _ e' ej l hl q; omega, h.nz i u e' l, h.yc i u e' l⟩
theorem Sim.put (h : Sim K P S c H) {j : Nat} {w u : O} (hj : S[j]? = some w) (hl : w.live = true) (hlu : u.live = true) (hu : RO K c (upd H (c.m (P.length + j)) o) u (c.m (P.length + j))) : Sim K P (S.set j u) c (upd H (c.m (P.length + j)) o) := by
  have ej : (P ++ S)[P.length + j]? = some w := by rw [List.getElem?_append_right (by omega)]; simpa using hj
  have zn : ∀ {a}, c.Z a → a ≠ c.m (P.length + j) := fun z q => h.nz _ w ej hl (q ▸ z)
  have e1 : ∀ {i x}, (P ++ S.set j u)[i]? = some x → (i ≠ P.length + j ∧ (P ++ S)[i]? = some x) ∨ (i = P.length + j ∧ x = u) := fun {i x} e => by
    by_cases hi : i < P.length
    · rw [List.getElem?_append_left hi] at e
      exact .inl ⟨by omega, by rw [List.getElem?_append_left hi]; exact e⟩
    · rw [List.getElem?_append_right (by omega)] at e
      by_cases hij : i = P.length + j
      · refine .inr ⟨hij, ?_⟩
        rw [hij, Nat.add_sub_cancel_left, List.getElem?_set_self (List.getElem?_eq_some_iff.mp hj).1] at e
        exact (Option.some.inj e).symm
      · rw [List.getElem?_set_ne (by omega)] at e
        exact .inl ⟨hij, by rw [List.getElem?_append_right (by omega)]; exact e⟩
  refine ⟨by rw [List.length_set]; exact h.n, fun i x e => ?_, fun i x e l => ?_, fun i k x y ei ek li lk q => ?_, fun a z => ?_, fun a z => ?_, h.yz, fun i x e l => ?_⟩
  · rcases e1 e with ⟨hi, e⟩ | ⟨rfl, rfl⟩
    · cases hlx : x.live with
      | false => cases x <;> first | trivial | cases hlx
      | true => exact (h.ro i x e).mono (Ev.put h hj hl) (upd_ne fun q => hi (h.inj _ _ _ _ e ej hlx hl q))
    · exact hu
  · rcases e1 e with ⟨hi, e⟩ | ⟨rfl, rfl⟩
    · exact h.nz i x e l
    · exact h.nz _ w ej hl
  · rcases e1 ei with ⟨hi, fi⟩ | ⟨hi, _⟩ <;> rcases e1 ek with ⟨hk, fk⟩ | ⟨hk, _⟩
    · exact h.inj i k x y fi fk li lk q
    · rw [hk] at q ⊢
      exact h.inj _ _ _ _ fi ej li hl q
    · rw [hi] at q ⊢
      exact h.inj _ _ _ _ ej fk hl lk q
    · omega
  · obtain ⟨x, e⟩ := h.z a z
    exact ⟨x, by rw [upd_ne (zn z)]; exact e⟩
  · obtain ⟨x, e, nt⟩ := h.y a z
    exact ⟨x, (upd_ne (show a ≠ c.m (P.length + j) from fun q => h.yc _ w ej hl (q ▸ z))).trans e, nt⟩
  · rcases e1 e with ⟨hi, e⟩ | ⟨rfl, rfl⟩
    · exact h.yc i x e l
    · exact h.yc _ w ej hl
end
end Fm

/-! Fm2: mirrors of expressions, and that running an expression does what its mirror says. -/
namespace Fm
open PySem PySem.Spec PyProof.Rows L2

abbrev ME := List O → En → List O → R D
abbrev MA := List O → En → List O → R (List D)
abbrev MT := List O → En → List O → R Bool
/-- primitives -/
abbrev R0 (α : Type) := Option (α × List O)
def lift {α : Type} : R0 α → R α
  | some (a, S) => .ok a S
  | none => .no
@[simp] theorem lift_some {α : Type} (a : α) (S : List O) : lift (some (a, S)) = .ok a S := rfl
@[simp] theorem lift_none {α : Type} : lift (none : R0 α) = .no := rfl
def Post0 {α β : Type} (K : PySem.W.Frag) (P : List O) (c : Cf) (H : Hp) (rel : Cf → Hp → α → β → Prop) (r : R0 α) (Q : β → Hp → Prop) : Prop := match r with
  | some (a, S') => ∀ c' b H', Ev P c H c' H' → Sim K P S' c' H' → rel c' H' a b → Q b H'
  | none => False
theorem Post.low {α β : Type} {K : PySem.W.Frag} {P : List O} {c : Cf} {H : Hp} {rel : Cf → Hp → α → β → Prop} {r : R0 α} {W : WX} {Q : β → Hp → Prop} (h : Post K P c H rel (lift r) W Q) : Post0 K P c H rel r Q := by
  cases r with
  | none => exact h
  | some p => exact h
theorem Post0.ev {α β : Type} {K : PySem.W.Frag} {P : List O} {c c1 : Cf} {H H1 : Hp} {rel : Cf → Hp → α → β → Prop} {r : R0 α} {Q : β → Hp → Prop} (hs : P.length ≤ c.n) (e : Ev P c H c1 H1) (h : Post0 K P c H rel r Q) : Post0 K P c1 H1 rel r Q := by
  cases r with
  | some p => exact fun c' b H' e' => h c' b H' (e.trans hs e')
  | none => exact h

def relB : Cf → Hp → Bool → Bool → Prop := fun _ _ a b => a = b
def tM (K : PySem.W.Frag) (W : WX) (f : ME) : TE := fun σ H Q => ∃ c P ρ S, SimE K c H ρ σ ∧ Sim K P S c H ∧ Post K P c H (RD K) (f P ρ S) W Q
def tMA (K : PySem.W.Frag) (W : WX) (f : MA) : TA := fun σ H Q => ∃ c P ρ S, SimE K c H ρ σ ∧ Sim K P S c H ∧ Post K P c H (RDs K) (f P ρ S) W Q
def tMT (K : PySem.W.Frag) (W : WX) (f : MT) : TT := fun σ H Q => ∃ c P ρ S, SimE K c H ρ σ ∧ Sim K P S c H ∧ Post K P c H relB (f P ρ S) W Q
structure PM (X : Cx) (W : WX) (e : Expr) (f : ME) : Prop where
  run : PE X e (tM X.K W f)
structure PMA (X : Cx) (W : WX) (es : List Expr) (f : MA) : Prop where
  run : PA X es (tMA X.K W f)
structure PMT (X : Cx) (W : WX) (e : Expr) (f : MT) : Prop where
  run : PT X e (tMT X.K W f)
structure PMW (X : Cx) (W : WX) (e : Expr) (f : MT) : Prop where
  run : PW X e (tMT X.K W f)
theorem pe_weak {X : Cx} {e : Expr} {t t' : TE} (h : PE X e t) (w : ∀ σ H Q, t' σ H Q → t σ H Q) : PE X e t' := ⟨fun pins s σ H Q I q => h.run pins s σ H Q I (w σ H Q q)⟩
theorem pt_weak {X : Cx} {e : Expr} {t t' : TT} (h : PT X e t) (w : ∀ σ H Q, t' σ H Q → t σ H Q) : PT X e t' := ⟨fun pins s σ H Q I q => h.run pins s σ H Q I (w σ H Q q)⟩
theorem pw_weak {X : Cx} {e : Expr} {t t' : TT} (h : PW X e t) (w : ∀ σ H Q, t' σ H Q → t σ H Q) : PW X e t' := ⟨fun whole pins s σ H Q I q => h.run whole pins s σ H Q I (w σ H Q q)⟩
theorem pa_weak {X : Cx} {e : List Expr} {t t' : TA} (h : PA X e t) (w : ∀ σ H Q, t' σ H Q → t σ H Q) : PA X e t' := ⟨fun p pins s σ H Q I q => h.run p pins s σ H Q I (w σ H Q q)⟩

section
variable {K : PySem.W.Frag} {W : WX} {P S : List O} {ρ : En} {c : Cf} {σ : L2.St} {H : Hp}
/-- a first part runs, then what is left -/
theorem tM_bind {f : ME} {α β : Type} {rel : Cf → Hp → α → β → Prop} {g : D → List O → R α} {Q : β → Hp → Prop} (hE : SimE K c H ρ σ) (hS : Sim K P S c H) (h : Post K P c H rel ((f P ρ S).bind g) W Q)
    {R' : V → Hp → Prop} (hr : ∀ d v S' c' H', Ev P c H c' H' → SimE K c' H' ρ σ → Sim K P S' c' H' → RD K c' H' d v → Post K P c' H' rel (g d S') W Q → R' v H') : tM K W f σ H R' := by
  refine ⟨c, P, ρ, S, hE, hS, ?_⟩
  generalize f P ρ S = r at h
  cases r with
  | ok d S' => exact fun c' v H' e s r => hr d v S' c' H' e (hE.mono e) s r (Post.ev hS.pl e h)
  | ex x S' => exact h
  | no => exact h
theorem tMA_bind {f : MA} {α β : Type} {rel : Cf → Hp → α → β → Prop} {g : List D → List O → R α} {Q : β → Hp → Prop} (hE : SimE K c H ρ σ) (hS : Sim K P S c H) (h : Post K P c H rel ((f P ρ S).bind g) W Q)
    {R' : List V → Hp → Prop} (hr : ∀ d v S' c' H', Ev P c H c' H' → SimE K c' H' ρ σ → Sim K P S' c' H' → RDs K c' H' d v → Post K P c' H' rel (g d S') W Q → R' v H') : tMA K W f σ H R' := by
  refine ⟨c, P, ρ, S, hE, hS, ?_⟩
  generalize f P ρ S = r at h
  cases r with
  | ok d S' => exact fun c' v H' e s r => hr d v S' c' H' e (hE.mono e) s r (Post.ev hS.pl e h)
  | ex x S' => exact h
  | no => exact h
theorem tMT_bind {f : MT} {α β : Type} {rel : Cf → Hp → α → β → Prop} {g : Bool → List O → R α} {Q : β → Hp → Prop} (hE : SimE K c H ρ σ) (hS : Sim K P S c H) (h : Post K P c H rel ((f P ρ S).bind g) W Q)
    {R' : Bool → Hp → Prop} (hr : ∀ b S' c' H', Ev P c H c' H' → SimE K c' H' ρ σ → Sim K P S' c' H' → Post K P c' H' rel (g b S') W Q → R' b H') : tMT K W f σ H R' := by
  refine ⟨c, P, ρ, S, hE, hS, ?_⟩
  generalize f P ρ S = r at h
  cases r with
  | ok d S' =>
    intro c' v H' e s r
    cases (show d = v from r)
    exact hr d S' c' H' e (hE.mono e) s (Post.ev hS.pl e h)
  | ex x S' => exact h
  | no => exact h
end

/-! ### names, constants -/
def mVar (i : Nat) : ME := fun _ ρ S => match ρ[i]? with
  | some (some d) => .ok d S
  | _ => .no
def mC (x : T) : ME := fun _ _ S => .ok (.t x) S
section
variable {X : Cx} {W : WX} {a b : Expr} {fa fb : ME} {pos : Pos}
theorem pm_var (i : Nat) {x : Str} (hN : X.N[i]? = some x := by rfl) (hv : Vis X.env.scope x := by first | exact Or.inl rfl | exact Or.inr (Or.inl rfl) | exact Or.inr (Or.inr rfl)) (hd : (x == ("__debug__" : Str)) = false := by decide)
    (hcd : (x == ("__classdict__" : Str)) = false := by decide) : PM X W (.Name x pos) (mVar i) := by
  refine ⟨pe_weak (pe_var hN hv hd hcd) fun σ H Q h => ?_⟩
  obtain ⟨c, P, ρ, S, hE, hS, h⟩ := h
  unfold mVar at h
  split at h
  · rename_i d e
    obtain ⟨v, h1, h2⟩ := hE.get i d e
    exact ⟨v, h1, h c v H (Ev.refl hS) hS h2⟩
  · exact h.elim
theorem pm_c {e : Expr} {v : V} {x : T} (he : PE X e (tC v)) (hr : ∀ Z H, RV X.K Z H x v) : PM X W e (mC x) := by
  refine ⟨pe_weak he fun σ H Q h => ?_⟩
  obtain ⟨c, P, ρ, S, hE, hS, h⟩ := h
  exact h c v H (Ev.refl hS) hS (hr _ _)
theorem pm_int {i : Int} {j} : PM X W (.Constant (.int i) j pos) (mC (.int i)) := pm_c pe_int fun _ _ => .int i
theorem pm_bl {b : Bool} {j} : PM X W (.Constant (.bool b) j pos) (mC (.bl b)) := pm_c pe_bl fun _ _ => .bl b
theorem pm_non {j} : PM X W (.Constant .none j pos) (mC .non) := pm_c pe_non fun _ _ => .non
theorem pm_str {x : Str} {j} (s : Tx) (hx : x = sv s := by rfl) (hs : s.length ≤ sizeLine := by decide) : PM X W (.Constant (.str x) j pos) (mC (.str s)) := by
  subst hx
  exact pm_c pe_str fun _ _ => .str s hs
/-- a module's int, text -/
theorem pm_globI {x : Str} {i : Int} {t : Tok} (hg : Gl X x) (hm : X.mg x = some (.int i t)) (hd : (x == ("__debug__" : Str)) = false := by decide) : PM X W (.Name x pos) (mC (.int i)) := pm_c (v := .int i) (pe_glob hg hm ⟨t, rfl⟩ hd) fun _ _ => .int i
theorem pm_globS {x y : Str} {t : Tok} (s : Tx) (hg : Gl X x) (hm : X.mg x = some (.str y t)) (hx : y = sv s := by rfl) (hs : s.length ≤ sizeLine := by decide) (hd : (x == ("__debug__" : Str)) = false := by decide) : PM X W (.Name x pos) (mC (.str s)) := by
  subst hx
  exact pm_c (v := .str (sv s)) (pe_glob hg hm ⟨t, rfl⟩ hd) fun _ _ => .str s hs

/-! ### two parts -/
abbrev F1 := D → List O → List O → R0 D
abbrev F2 := D → D → List O → List O → R0 D
def rM2 (K : PySem.W.Frag) (g : F2) : R2 := fun x y H Q => ∃ c P S a b, Sim K P S c H ∧ RD K c H a x ∧ RD K c H b y ∧ Post0 K P c H (RD K) (g a b P S) Q
def mOp2 (g : F2) (fa fb : ME) : ME := fun P ρ S => (fa P ρ S).bind fun x S1 => (fb P ρ S1).bind fun y S2 => lift (g x y P S2)
structure OpM (X : Cx) (f : Value → Value → Sem Value) (g : F2) : Prop where
  run : OpR X f (rM2 X.K g)
theorem tOp_of {g : F2} {σ : L2.St} {H : Hp} {Q : VK} (h : tM X.K W (mOp2 g fa fb) σ H Q) : tOp (rM2 X.K g) (tM X.K W fa) (tM X.K W fb) σ H Q := by
  obtain ⟨c, P, ρ, S, hE, hS, h⟩ := h
  refine tM_bind hE hS h fun d v S1 c1 H1 e1 E1 s1 r1 h1 => ?_
  refine tM_bind E1 s1 h1 fun d2 v2 S2 c2 H2 e2 E2 s2 r2 h2 => ?_
  exact ⟨c2, P, S2, d, d2, s2, r1.mono e2, r2, h2.low⟩
theorem pm_bin {op : Operator} {g : F2} (ho : OpM X (binaryOp op) g) (ha : PM X W a fa) (hb : PM X W b fb) : PM X W (.BinOp a op b pos) (mOp2 g fa fb) :=
  ⟨pe_weak (pe_op ho.run ha.run hb.run) fun _ _ _ h => tOp_of h⟩
theorem pm_cmp {op : CmpOp} {g : F2} (ho : OpM X (compareOp op) g) (ha : PM X W a fa) (hb : PM X W b fb) (hm : behindInMarks op b = false := by first | exact nomark _ | rfl) : PM X W (.Compare a [op] [b] pos) (mOp2 g fa fb) :=
  ⟨pe_weak (pe_cmpR ho.run ha.run hb.run hm) fun _ _ _ h => tOp_of h⟩
/-- one part -/
def rM1 (K : PySem.W.Frag) (g : F1) : V → Hp → VK → Prop := fun x H Q => ∃ c P S a, Sim K P S c H ∧ RD K c H a x ∧ Post0 K P c H (RD K) (g a P S) Q
def mOp1 (g : F1) (fa : ME) : ME := fun P ρ S => (fa P ρ S).bind fun x S1 => lift (g x P S1)
structure UnM (X : Cx) (f : Value → Sem Value) (g : F1) : Prop where
  run : UnR X f (rM1 X.K g)
theorem pm_un {op : UnaryOp} {g : F1} (ho : UnM X (unaryOp op) g) (ha : PM X W a fa) : PM X W (.UnaryOp op a pos) (mOp1 g fa) := by
  refine ⟨pe_weak (pe_un ho.run ha.run) fun σ H Q h => ?_⟩
  obtain ⟨c, P, ρ, S, hE, hS, h⟩ := h
  exact tM_bind hE hS h fun d v S1 c1 H1 e1 E1 s1 r1 h1 => ⟨c1, P, S1, d, s1, r1, h1.low⟩
/-- a < b < c -/
def isTrueD : D → Option Bool
  | .t (.bl b) => some b
  | _ => none
def mChain (g g' : F2) (fa fb fc : ME) : ME := fun P ρ S => (fa P ρ S).bind fun x S1 => (fb P ρ S1).bind fun y S2 => (lift (g x y P S2)).bind fun z S3 => match isTrueD z with
  | some true => (fc P ρ S3).bind fun u S4 => lift (g' y u P S4)
  | some false => .ok (.t (.bl false)) S3
  | none => .no
theorem isTrueD_some {d : D} {b : Bool} (h : isTrueD d = some b) : d = .t (.bl b) := by
  cases d with
  | ref i => cases h
  | t x => cases x <;> simp [isTrueD] at h; rw [h]
theorem RD.isBl {K : PySem.W.Frag} {c : Cf} {H : Hp} {b : Bool} {v : V} (h : RD K c H (.t (.bl b)) v) : v = .bl b := by cases h; rfl
theorem tChain_of {g g' : F2} {fc : ME} {σ : L2.St} {H : Hp} {Q : VK} (h : tM X.K W (mChain g g' fa fb fc) σ H Q) : tChain (rM2 X.K g) (rM2 X.K g') (tM X.K W fa) (tM X.K W fb) (tM X.K W fc) σ H Q := by
  obtain ⟨c, P, ρ, S, hE, hS, h⟩ := h
  refine tM_bind hE hS h fun d v S1 c1 H1 e1 E1 s1 r1 h1 => ?_
  refine tM_bind E1 s1 h1 fun d2 v2 S2 c2 H2 e2 E2 s2 r2 h2 => ?_
  refine ⟨c2, P, S2, d, d2, s2, r1.mono e2, r2, ?_⟩
  generalize g d d2 P S2 = r at h2
  cases r with
  | none => exact h2
  | some p =>
    obtain ⟨z, S3⟩ := p
    intro c3 v3 H3 e3 s3 r3
    have h3 := Post.ev s2.pl e3 h2
    simp only [lift_some, R.bind_ok] at h3
    cases q : isTrueD z with
    | none => rw [q] at h3; exact h3.elim
    | some k =>
      rw [q] at h3
      rw [isTrueD_some q] at r3
      refine ⟨k, r3.isBl, ?_⟩
      cases k with
      | true =>
        rw [if_pos rfl]
        refine tM_bind (E2.mono e3) s3 h3 fun d4 v4 S4 c4 H4 e4 E4 s4 r4 h4 => ?_
        exact ⟨c4, P, S4, d2, d4, s4, (r2.mono e3).mono e4, r4, h4.low⟩
      | false =>
        rw [if_neg Bool.false_ne_true]
        exact h3 c3 _ H3 (Ev.refl s3) s3 (RV.bl false)
theorem pm_chain {op op' : CmpOp} {g g' : F2} {d : Expr} {fc : ME} (ho : OpM X (compareOp op) g) (ho' : OpM X (compareOp op') g') (ha : PM X W a fa) (hb : PM X W b fb) (hc : PM X W d fc) (hm : lastMarks [op, op'] [b, d] = false := by rfl) : PM X W (.Compare a [op, op'] [b, d] pos) (mChain g g' fa fb fc) :=
  ⟨pe_weak (pe_chain ho.run ho'.run ha.run hb.run hc.run hm) fun _ _ _ h => tChain_of h⟩

/-! ### tests -/
def mT (f : ME) : MT := fun P ρ S => (f P ρ S).bind fun d S1 => match isTrueD d with
  | some b => .ok b S1
  | none => .no
theorem pmt_val {e : Expr} {f : ME} (h : PM X W e f) (he : ∀ whole, isTrue e X.env whole = (do let v ← whole; standAt e.pos; holding [v] (truthy v)) := by intro _; rfl) : PMT X W e (mT f) := by
  refine ⟨pt_weak (pt_val h.run he) fun σ H Q h => ?_⟩
  obtain ⟨c, P, ρ, S, hE, hS, h⟩ := h
  refine tM_bind hE hS h fun d v S1 c1 H1 e1 E1 s1 r1 h1 => ?_
  cases q : isTrueD d with
  | none => rw [q] at h1; exact h1.elim
  | some k =>
    rw [q] at h1
    rw [isTrueD_some q] at r1
    exact ⟨k, r1.isBl, h1 c1 k H1 (Ev.refl s1) s1 rfl⟩
def mAndT (f g : MT) : MT := fun P ρ S => (f P ρ S).bind fun b S1 => if b then g P ρ S1 else .ok false S1
def mOrT (f g : MT) : MT := fun P ρ S => (f P ρ S).bind fun b S1 => if b then .ok true S1 else g P ρ S1
def mNotT (f : MT) : MT := fun P ρ S => (f P ρ S).bind fun b S1 => .ok (!b) S1
variable {ft gt : MT} {rest : List Expr}
theorem PMW.pt {e : Expr} {f : MT} (h : PMW X W e f) : PMT X W e f := ⟨h.run.pt⟩
theorem pmw_or1 (h : PMT X W a ft) : PMW X W (.BoolOp .Or [a] pos) ft := ⟨pw_or1 h.run⟩
theorem pmw_or (ha : PMT X W a ft) (hb : PMW X W (.BoolOp .Or (b :: rest) pos) gt) : PMW X W (.BoolOp .Or (a :: b :: rest) pos) (mOrT ft gt) := by
  refine ⟨pw_weak (L2.pw_or ha.run hb.run) fun σ H Q h => ?_⟩
  obtain ⟨c, P, ρ, S, hE, hS, h⟩ := h
  refine tMT_bind hE hS h fun k S1 c1 H1 e1 E1 s1 h1 => ?_
  cases k with
  | true => rw [if_pos rfl]; exact h1 c1 true H1 (Ev.refl s1) s1 rfl
  | false => rw [if_neg Bool.false_ne_true]; exact ⟨c1, P, ρ, S1, E1, s1, h1⟩
theorem pmt_not (ha : PMT X W a ft) : PMT X W (.UnaryOp .Not a pos) (mNotT ft) := by
  refine ⟨pt_weak (L2.pt_not ha.run) fun σ H Q h => ?_⟩
  obtain ⟨c, P, ρ, S, hE, hS, h⟩ := h
  exact tMT_bind hE hS h fun k S1 c1 H1 e1 E1 s1 h1 => h1 c1 (!k) H1 (Ev.refl s1) s1 rfl
/-! .. as values -/
def mAnd (fa fb : ME) : ME := fun P ρ S => (fa P ρ S).bind fun d S1 => match isTrueD d with
  | some true => fb P ρ S1
  | some false => .ok (.t (.bl false)) S1
  | none => .no
def mOr (fa fb : ME) : ME := fun P ρ S => (fa P ρ S).bind fun d S1 => match isTrueD d with
  | some true => .ok (.t (.bl true)) S1
  | some false => fb P ρ S1
  | none => .no
def mNot (fa : ME) : ME := fun P ρ S => (fa P ρ S).bind fun d S1 => match isTrueD d with
  | some b => .ok (.t (.bl (!b))) S1
  | none => .no
theorem pm_one {op} {f : ME} (h : PM X W a f) : PM X W (.BoolOp op [a] pos) f := ⟨pe_one h.run⟩
theorem pm_and (ha : PM X W a fa) (hb : PM X W (.BoolOp .And (b :: rest) pos) fb) : PM X W (.BoolOp .And (a :: b :: rest) pos) (mAnd fa fb) := by
  refine ⟨pe_weak (pe_and ha.run hb.run) fun σ H Q h => ?_⟩
  obtain ⟨c, P, ρ, S, hE, hS, h⟩ := h
  refine tM_bind hE hS h fun d v S1 c1 H1 e1 E1 s1 r1 h1 => ?_
  cases q : isTrueD d with
  | none => rw [q] at h1; exact h1.elim
  | some k =>
    rw [q] at h1
    rw [isTrueD_some q] at r1
    refine ⟨k, r1.isBl, ?_⟩
    cases k with
    | true => rw [if_pos rfl]; exact ⟨c1, P, ρ, S1, E1, s1, h1⟩
    | false => rw [if_neg Bool.false_ne_true]; exact h1 c1 _ H1 (Ev.refl s1) s1 (RV.bl false)
theorem pm_not (ha : PM X W a fa) : PM X W (.UnaryOp .Not a pos) (mNot fa) := by
  refine ⟨pe_weak (pe_not ha.run) fun σ H Q h => ?_⟩
  obtain ⟨c, P, ρ, S, hE, hS, h⟩ := h
  refine tM_bind hE hS h fun d v S1 c1 H1 e1 E1 s1 r1 h1 => ?_
  cases q : isTrueD d with
  | none => rw [q] at h1; exact h1.elim
  | some k =>
    rw [q] at h1
    rw [isTrueD_some q] at r1
    exact ⟨k, r1.isBl, h1 c1 _ H1 (Ev.refl s1) s1 (RV.bl (!k))⟩
def mIf (ft : MT) (fa fb : ME) : ME := fun P ρ S => (ft P ρ S).bind fun b S1 => if b then fa P ρ S1 else fb P ρ S1
theorem pm_if {d : Expr} (hc : PMT X W d ft) (ha : PM X W a fa) (hb : PM X W b fb) : PM X W (.IfExp d a b pos) (mIf ft fa fb) := by
  refine ⟨pe_weak (pe_ifExp hc.run ha.run hb.run) fun σ H Q h => ?_⟩
  obtain ⟨c, P, ρ, S, hE, hS, h⟩ := h
  refine tMT_bind hE hS h fun k S1 c1 H1 e1 E1 s1 h1 => ?_
  cases k with
  | true => rw [if_pos rfl]; exact ⟨c1, P, ρ, S1, E1, s1, h1⟩
  | false => rw [if_neg Bool.false_ne_true]; exact ⟨c1, P, ρ, S1, E1, s1, h1⟩

/-! ### argument lists -/
def mNil : MA := fun _ _ S => .ok [] S
def mCons (f : ME) (g : MA) : MA := fun P ρ S => (f P ρ S).bind fun d S1 => (g P ρ S1).bind fun ds S2 => .ok (d :: ds) S2
variable {es : List Expr} {fs : MA}
theorem pma_nil : PMA X W [] mNil := by
  refine ⟨pa_weak pa_nil fun σ H Q h => ?_⟩
  obtain ⟨c, P, ρ, S, hE, hS, h⟩ := h
  exact h c [] H (Ev.refl hS) hS .nil
theorem pma_cons (ha : PM X W a fa) (hr : PMA X W es fs) (hs : starEach (a :: es) X.env = (false, eval a X.env) :: starEach es X.env := by rfl) : PMA X W (a :: es) (mCons fa fs) := by
  refine ⟨pa_weak (pa_cons ha.run hr.run hs) fun σ H Q h => ?_⟩
  obtain ⟨c, P, ρ, S, hE, hS, h⟩ := h
  refine tM_bind hE hS h fun d v S1 c1 H1 e1 E1 s1 r1 h1 => ?_
  refine tMA_bind E1 s1 h1 fun ds vs S2 c2 H2 e2 E2 s2 r2 h2 => ?_
  exact h2 c2 _ H2 (Ev.refl s2) s2 (.cons (r1.mono e2) r2)

/-! ### displays -/
/-- the trees, if all are trees -/
def trees : List D → Option (List T)
  | [] => some []
  | .t x :: r => (trees r).map (x :: ·)
  | .ref _ :: _ => none
@[simp] theorem trees_nil : trees [] = some [] := rfl
@[simp] theorem trees_cons (x : T) (r : List D) : trees (.t x :: r) = (trees r).map (x :: ·) := rfl
@[simp] theorem trees_map (l : List T) : trees (l.map D.t) = some l := by
  induction l with
  | nil => rfl
  | cons x l ih => rw [List.map_cons, trees_cons, ih]; rfl
@[simp] theorem trees_mapf {α : Type} (g : α → T) (l : List α) : trees (l.map fun x => D.t (g x)) = some (l.map g) := by
  rw [← trees_map (l.map g), List.map_map]; rfl
theorem RDs.trees {K : PySem.W.Frag} {c : Cf} {H : Hp} : ∀ {ds : List D} {vs : List V} {ts : List T}, RDs K c H ds vs → trees ds = some ts → RVs K c.Z H ts vs
  | _, _, _, .nil, h => by cases h; exact .nil
  | .t x :: r, _, ts, .cons h1 h2, h => by
    rw [trees_cons] at h
    cases q : Fm.trees r with
    | none => rw [q] at h; cases h
    | some l =>
      rw [q] at h
      cases h
      exact .cons _ _ _ _ h1 (RDs.trees h2 q)
  | .ref _ :: _, _, _, _, h => by cases h
theorem RDs.len {K : PySem.W.Frag} {c : Cf} {H : Hp} {ds : List D} {vs : List V} (h : RDs K c H ds vs) : ds.length = vs.length := Paired.length h
/-- nothing new -/
theorem Post0.same {α β : Type} {K : PySem.W.Frag} {P S : List O} {c : Cf} {H : Hp} {a : α} {b : β} {rel : Cf → Hp → α → β → Prop} {Q : β → Hp → Prop} (hS : Sim K P S c H) (h : Post0 K P c H rel (some (a, S)) Q) (r : rel c H a b) : Q b H := h c _ _ (Ev.refl hS) hS r
theorem Post.same {α β : Type} {K : PySem.W.Frag} {P S : List O} {c : Cf} {H : Hp} {a : α} {b : β} {rel : Cf → Hp → α → β → Prop} {W : WX} {Q : β → Hp → Prop} (hS : Sim K P S c H) (h : Post K P c H rel (.ok a S) W Q) (r : rel c H a b) : Q b H := h c _ _ (Ev.refl hS) hS r
theorem RVs.up {K : PySem.W.Frag} {P S : List O} {c : Cf} {H : Hp} {p : Addr} {o : HO} {ts : List T} {vs : List V} (hS : Sim K P S c H) (hp : H p = none) (h : RVs K c.Z H ts vs) : RVs K (c.zed p).Z (upd H p o) ts vs := by
  have e := Ev.alloc (o := o) hS hp
  exact RVs.mono e.z e.rd e.rdD h
theorem RV.up {K : PySem.W.Frag} {P S : List O} {c : Cf} {H : Hp} {p : Addr} {o : HO} {t : T} {v : V} (hS : Sim K P S c H) (hp : H p = none) (h : RV K c.Z H t v) : RV K (c.zed p).Z (upd H p o) t v := by
  have e := Ev.alloc (o := o) hS hp
  exact RV.mono e.z e.rd e.rdD h
def mTup (fs : MA) : ME := fun P ρ S => (fs P ρ S).bind fun ds S1 => match trees ds with
  | some ts => if ts.length ≤ sizeLine then .ok (.t (.tup ts)) S1 else .no
  | none => .no
def mLst (fs : MA) : ME := fun P ρ S => (fs P ρ S).bind fun ds S1 => match trees ds with
  | some ts => if ts.length ≤ sizeLine then .ok (.t (.lst ts)) S1 else .no
  | none => .no
/-- a list that will be changed -/
def mLstC (fs : MA) : ME := fun P ρ S => (fs P ρ S).bind fun ds S1 => if ds.length ≤ sizeLine then .ok (.ref (P.length + S1.length)) (S1 ++ [.lst ds]) else .no
theorem RVs.len {K : PySem.W.Frag} {Z : Addr → Prop} {H : Hp} : ∀ {ts : List T} {vs : List V}, RVs K Z H ts vs → ts.length = vs.length
  | _, _, .nil => rfl
  | _, _, .cons _ _ _ _ _ h => by rw [List.length_cons, List.length_cons, RVs.len h]
theorem pm_tup {k} (h : PMA X W es fs) : PM X W (.Tuple es k pos) (mTup fs) := by
  refine ⟨pe_weak (pe_tup h.run) fun σ H Q h => ?_⟩
  obtain ⟨c, P, ρ, S, hE, hS, h⟩ := h
  refine tMA_bind hE hS h fun ds vs S1 c1 H1 e1 E1 s1 r1 h1 => ?_
  cases q : trees ds with
  | none => rw [q] at h1; exact h1.elim
  | some ts =>
    rw [q] at h1
    have rt := r1.trees q
    by_cases hl : ts.length ≤ sizeLine
    · simp only [if_pos hl] at h1
      have hv : vs.length ≤ sizeLine := by rw [← rt.len]; exact hl
      exact ⟨hv, fun p hp => h1 (c1.zed p) _ _ (Ev.alloc s1 hp) (Sim.alloc s1 hp) (.tup ts p vs (.inr rfl) upd_same hv (rt.up s1 hp))⟩
    · simp only [if_neg hl] at h1
      exact h1.elim
theorem pm_lst (h : PMA X W es fs) : PM X W (.List es pos) (mLst fs) := by
  refine ⟨pe_weak (pe_lst h.run) fun σ H Q h => ?_⟩
  obtain ⟨c, P, ρ, S, hE, hS, h⟩ := h
  refine tMA_bind hE hS h fun ds vs S1 c1 H1 e1 E1 s1 r1 h1 => ?_
  cases q : trees ds with
  | none => rw [q] at h1; exact h1.elim
  | some ts =>
    rw [q] at h1
    have rt := r1.trees q
    by_cases hl : ts.length ≤ sizeLine
    · simp only [if_pos hl] at h1
      have hv : vs.length ≤ sizeLine := by rw [← rt.len]; exact hl
      exact ⟨hv, fun p hp => h1 (c1.zed p) _ _ (Ev.alloc s1 hp) (Sim.alloc s1 hp) (.lst ts p vs (.inr rfl) upd_same hv (rt.up s1 hp))⟩
    · simp only [if_neg hl] at h1
      exact h1.elim
theorem RDs.cell {K : PySem.W.Frag} {P S : List O} {c : Cf} {H : Hp} {p : Addr} {o : HO} {ds : List D} {vs : List V} (hS : Sim K P S c H) (hp : H p = none) (h : RDs K c H ds vs) : RDs K (c.cell p) (upd H p o) ds vs := RDs.mono (Ev.cellE hS hp) h
theorem pm_lstC (h : PMA X W es fs) : PM X W (.List es pos) (mLstC fs) := by
  refine ⟨pe_weak (pe_lst h.run) fun σ H Q h => ?_⟩
  obtain ⟨c, P, ρ, S, hE, hS, h⟩ := h
  refine tMA_bind hE hS h fun ds vs S1 c1 H1 e1 E1 s1 r1 h1 => ?_
  by_cases hl : ds.length ≤ sizeLine
  · simp only [if_pos hl] at h1
    refine ⟨by rw [← r1.len]; exact hl, fun p hp => ?_⟩
    refine h1 (c1.cell p) _ _ (Ev.cellE s1 hp) (Sim.cell s1 hp ⟨vs, upd_same, by rw [← r1.len]; exact hl, r1.cell s1 hp⟩) ?_
    have hn := s1.n
    refine ⟨by show _ < c1.n + 1; omega, ?_⟩
    show V.ref p = V.ref (if P.length + S1.length = c1.n then p else _)
    rw [if_pos hn]
  · simp only [if_neg hl] at h1
    exact h1.elim

/-! ### calls of built-ins -/
abbrev FL := List D → List O → List O → R0 D
def rML (K : PySem.W.Frag) (g : FL) : List V → Hp → VK → Prop := fun xs H Q => ∃ c P S ds, Sim K P S c H ∧ RDs K c H ds xs ∧ Post0 K P c H (RD K) (g ds P S) Q
def mCallB (g : FL) (fs : MA) : ME := fun P ρ S => (fs P ρ S).bind fun ds S1 => lift (g ds P S1)
structure CallM (X : Cx) (f : Value) (g : FL) : Prop where
  run : CallR X f (rML X.K g)
theorem tCB_of {g : FL} {σ : L2.St} {H : Hp} {Q : VK} (h : tM X.K W (mCallB g fs) σ H Q) : tCB (rML X.K g) (tMA X.K W fs) σ H Q := by
  obtain ⟨c, P, ρ, S, hE, hS, h⟩ := h
  exact tMA_bind hE hS h fun ds vs S1 c1 H1 e1 E1 s1 r1 h1 => ⟨c1, P, S1, ds, s1, r1, h1.low⟩
theorem pm_callB {id : String} {x : Str} {p : Pos} {g : FL} (hc : CallM X (.builtin id) g) (hg : Gl X x) (hm : X.mg x = none) (hv : bootBuiltins x = some (.builtin id)) (ha : PMA X W (a :: es) fs) (hn : x ≠ "__name__" := by decide) (hdb : (x == ("__debug__" : Str)) = false := by decide)
    (he : starEach (a :: es) X.env = (false, eval a X.env) :: starEach es X.env := by rfl) (hpl : (backTo pos (starEach es X.env)).any (·.1) = false := by rfl) : PM X W (.Call (.Name x p) (a :: es) [] pos) (mCallB g fs) :=
  ⟨pe_weak (pe_callB hc.run hg hm hv ha.run hn hdb he hpl) fun _ _ _ h => tCB_of h⟩
theorem pm_callTy {T : String} {x : Str} {p : Pos} {g : FL} (hc : CallM X (.type T) g) (hg : Gl X x) (hm : X.mg x = none) (hv : bootBuiltins x = some (.type T)) (ha : PMA X W (a :: es) fs) (hn : x ≠ "__name__" := by decide) (hdb : (x == ("__debug__" : Str)) = false := by decide)
    (he : starEach (a :: es) X.env = (false, eval a X.env) :: starEach es X.env := by rfl) (hpl : (backTo pos (starEach es X.env)).any (·.1) = false := by rfl) : PM X W (.Call (.Name x p) (a :: es) [] pos) (mCallB g fs) :=
  ⟨pe_weak (pe_callTy hc.run hg hm hv ha.run hn hdb he hpl) fun _ _ _ h => tCB_of h⟩
end
end Fm

/-! Fm3: defs, calls of defs, statements, loops, comprehensions. -/
namespace Fm
open PySem PySem.Spec PyProof.Rows L2

/-! ### defs and their calls -/
abbrev MF := List D → List O → List O → R D
def R.nx {α : Type} : R α → R α
  | .ok a S => .ok a S
  | _ => .no
@[simp] theorem R.nx_ok {α : Type} (a : α) (S : List O) : (R.ok a S).nx = .ok a S := rfl
@[simp] theorem R.nx_no {α : Type} : (R.no : R α).nx = .no := rfl
def spM (K : PySem.W.Frag) (n : Nat) (g : MF) : Sp := fun vs H Q _ => vs.length = n ∧ ∃ c P S ds, Sim K P S c H ∧ RDs K c H ds vs ∧ Post K P c H (RD K) (g ds P S) W0 Q
theorem Post.nx {α β : Type} {K : PySem.W.Frag} {P : List O} {c : Cf} {H : Hp} {rel : Cf → Hp → α → β → Prop} {r : R α} {W : WX} {Q : β → Hp → Prop} (h : Post K P c H rel r.nx W Q) : Post K P c H rel r W0 Q := by
  cases r with
  | ok a S => exact h
  | ex x S => exact h.elim
  | no => exact h
def mCall (g : MF) (fs : MA) : ME := fun P ρ S => (fs P ρ S).bind fun ds S1 => (g ds P S1).nx
/-- a call that changes nothing that stood: what it hands back is a tree -/
def pureF (g : MF) : MF := fun ds P S => match g ds (P ++ S) [] with
  | .ok (.t x) _ => .ok (.t x) S
  | _ => .no
/-- .. that hands back a new list of trees -/
def newF (g : MF) : MF := fun ds P S => match g ds (P ++ S) [] with
  | .ok (.ref i) S' => if (P ++ S).length ≤ i then match S'[i - (P ++ S).length]? with
    | some (.lst l) => match trees l with
      | some _ => .ok (.ref (P.length + S.length)) (S ++ [.lst l])
      | none => .no
    | _ => .no else .no
  | _ => .no
section
variable {K : PySem.W.Frag} {P S S' : List O} {c c' : Cf} {H H' : Hp}
/-- what stood is kept: the cells that are new are forgotten -/
theorem Sim.forget (hS : Sim K P S c H) (ev : Ev (P ++ S) c H c' H') (s' : Sim K (P ++ S) S' c' H') : Ev P c H { c' with n := c.n } H' ∧ Sim K P S { c' with n := c.n } H' := by
  have ev1 : Ev P c H { c' with n := c.n } H' := ⟨ev.z, ev.rd, ev.rdD, Nat.le_refl _, ev.m, fun i o e l => ev.b i o (by rw [List.getElem?_append_left (List.getElem?_eq_some_iff.mp e).1]; exact e) l, ev.y, ev.fz⟩
  have lt : ∀ {i : Nat} {o : O}, (P ++ S)[i]? = some o → i < c.n := fun {i o} e => by
    have := (List.getElem?_eq_some_iff.mp e).1
    rw [List.length_append] at this
    have := hS.n
    omega
  refine ⟨ev1, hS.n, fun i o e => ?_, fun i o e l => ?_, fun i j o u ei ej li lj q => ?_, s'.z, s'.y, s'.yz, fun i o e l => ?_⟩
  · show RO K _ H' o (c'.m i)
    rw [ev.m i (lt e)]
    cases hl : o.live with
    | false => cases o <;> first | trivial | cases hl
    | true => exact (hS.ro i o e).mono ev1 (ev.b i o e hl).1
  · show ¬ c'.Z (c'.m i)
    rw [ev.m i (lt e)]
    exact (ev.b i o e l).2.1
  · have q : c'.m i = c'.m j := q
    rw [ev.m i (lt ei), ev.m j (lt ej)] at q
    exact hS.inj i j o u ei ej li lj q
  · show ¬ c'.Y (c'.m i)
    rw [ev.m i (lt e)]
    exact (ev.b i o e l).2.2
theorem Sim.lock (hS : Sim K P S c H) : Sim K (P ++ S) [] c H :=
  ⟨by rw [List.length_append]; simpa using hS.n, fun i o e => hS.ro i o (by simpa using e), fun i o e => hS.nz i o (by simpa using e), fun i j o u ei ej => hS.inj i j o u (by simpa using ei) (by simpa using ej), hS.z, hS.y, hS.yz, fun i o e => hS.yc i o (by simpa using e)⟩
theorem RDs.treeUp {ds : List D} {vs : List V} {ts : List T} {c1 : Cf} (hz : c1.Z = c'.Z) (h : RDs K c' H' ds vs) (q : Fm.trees ds = some ts) : RDs K c1 H' ds vs := by
  induction h generalizing ts with
  | nil => exact .nil
  | cons r _ ih =>
    rename_i d v ds' vs' _
    cases d with
    | ref i => cases q
    | t x =>
      rw [trees_cons] at q
      cases z : Fm.trees ds' with
      | none => rw [z] at q; cases q
      | some l => exact .cons (show RV K c1.Z H' x v by rw [hz]; exact r) (ih z)
end
theorem sp_pure {K : PySem.W.Frag} {n : Nat} {g : MF} : ∀ vs H Q E, spM K n (pureF g) vs H Q E → spM K n g vs H Q E := by
  rintro vs H Q E ⟨hn, c, P, S, ds, hS, hr, h⟩
  refine ⟨hn, c, P ++ S, [], ds, hS.lock, hr, ?_⟩
  unfold pureF at h
  generalize g ds (P ++ S) [] = r at h
  cases r with
  | ok d S' =>
    cases d with
    | t x => exact fun c' v H' ev s' rd => h { c' with n := c.n } v H' (hS.forget ev s').1 (hS.forget ev s').2 rd
    | ref i => exact h.elim
  | ex x S' => exact h.elim
  | no => exact h
theorem sp_new {K : PySem.W.Frag} {n : Nat} {g : MF} : ∀ vs H Q E, spM K n (newF g) vs H Q E → spM K n g vs H Q E := by
  rintro vs H Q E ⟨hn, c, P, S, ds, hS, hr, h⟩
  refine ⟨hn, c, P ++ S, [], ds, hS.lock, hr, ?_⟩
  unfold newF at h
  generalize g ds (P ++ S) [] = r at h
  cases r with
  | ex x S' => exact h.elim
  | no => exact h
  | ok d S' =>
    cases d with
    | t x => exact h.elim
    | ref i =>
      simp only at h
      by_cases hi : (P ++ S).length ≤ i
      · rw [if_pos hi] at h
        cases q : S'[i - (P ++ S).length]? with
        | none => rw [q] at h; exact h.elim
        | some o =>
          rw [q] at h
          cases o with
          | lst l =>
            simp only at h
            cases z : trees l with
            | none => rw [z] at h; exact h.elim
            | some ts =>
              rw [z] at h
              intro c' v H' ev s' rd
              obtain ⟨hlt, rfl⟩ := rd
              have hf := hS.forget ev s'
              have hat : ((P ++ S) ++ S')[i]? = some (.lst l) := by rw [List.getElem?_append_right hi]; exact q
              have lenS : (P ++ S).length = c.n := by rw [List.length_append]; exact hS.n
              have hro := s'.ro i _ hat
              obtain ⟨vs', hH, hlen', hrs⟩ := hro
              -- the cell's place
              refine h { c' with n := c.n + 1, m := fun k => if k = c.n then c'.m i else c'.m k } _ H' ?_ ?_ ?_
              · refine ⟨ev.z, ev.rd, ev.rdD, Nat.le_succ _, fun k hk => ?_, hf.1.b, ev.y, ev.fz⟩
                show (if k = c.n then _ else c'.m k) = c.m k
                rw [if_neg (by omega)]
                exact ev.m k hk
              · have e1 : ∀ {k : Nat} {u : O}, (P ++ (S ++ [.lst l]))[k]? = some u → (k < c.n ∧ (P ++ S)[k]? = some u) ∨ (k = c.n ∧ u = .lst l) := fun {k u} e => by
                  rw [← List.append_assoc] at e
                  by_cases hk : k < c.n
                  · rw [List.getElem?_append_left (by omega)] at e
                    exact .inl ⟨hk, e⟩
                  · have := (List.getElem?_eq_some_iff.mp e).1
                    rw [List.length_append, List.length_singleton] at this
                    have hk2 : k = c.n := by omega
                    rw [hk2, List.getElem?_append_right (by omega), lenS, Nat.sub_self] at e
                    exact .inr ⟨hk2, (Option.some.inj e).symm⟩
                have m1 : ∀ {k : Nat}, k < c.n → (if k = c.n then c'.m i else c'.m k) = c'.m k := fun hk => if_neg (by omega)
                have up : ∀ {k : Nat} {u : O}, (P ++ S)[k]? = some u → ((P ++ S) ++ S')[k]? = some u := fun e => by
                  rw [List.getElem?_append_left (List.getElem?_eq_some_iff.mp e).1]; exact e
                refine ⟨by have := hS.n; simp only [List.length_append, List.length_singleton]; omega, fun k u e => ?_, fun k u e lu => ?_, fun k j u w ek ej lu lw qq => ?_, s'.z, s'.y, s'.yz, fun k u e lu => ?_⟩
                · show RO K _ H' u (if k = c.n then c'.m i else c'.m k)
                  rcases e1 e with ⟨hk, e⟩ | ⟨hk, rfl⟩
                  · rw [m1 hk]
                    cases hl : u.live with
                    | false => cases u <;> first | trivial | cases hl
                    | true =>
                      have := hf.2.ro k u e
                      refine RO.mono' (c := { c' with n := c.n }) (c1 := { c' with n := c.n + 1, m := fun k => if k = c.n then c'.m i else c'.m k }) (fun _ z => z) (fun _ _ _ z _ => z) (fun _ _ _ _ _ z => z) (Nat.le_succ _) (fun j hj => ?_) rfl this
                      show (if j = c.n then c'.m i else c'.m j) = c'.m j
                      rw [if_neg (by have : j < c.n := hj; omega)]
                  · rw [if_pos hk]
                    exact ⟨vs', hH, hlen', RDs.treeUp (c' := c') rfl hrs z⟩
                · show ¬ c'.Z (if k = c.n then c'.m i else c'.m k)
                  rcases e1 e with ⟨hk, e⟩ | ⟨hk, rfl⟩
                  · rw [m1 hk]; exact s'.nz k u (up e) lu
                  · rw [if_pos hk]; exact s'.nz i _ hat rfl
                · have qq : (if k = c.n then c'.m i else c'.m k) = (if j = c.n then c'.m i else c'.m j) := qq
                  rcases e1 ek with ⟨hk, fk⟩ | ⟨hk, _⟩ <;> rcases e1 ej with ⟨hj, fj⟩ | ⟨hj, _⟩
                  · rw [m1 hk, m1 hj] at qq
                    exact s'.inj k j u w (up fk) (up fj) lu lw qq
                  · rw [m1 hk, if_pos hj] at qq
                    have := s'.inj k i u _ (up fk) hat lu rfl qq
                    omega
                  · rw [if_pos hk, m1 hj] at qq
                    have := s'.inj i j _ w hat (up fj) rfl lw qq
                    omega
                  · omega
                · show ¬ c'.Y (if k = c.n then c'.m i else c'.m k)
                  rcases e1 e with ⟨hk, e⟩ | ⟨hk, rfl⟩
                  · rw [m1 hk]; exact s'.yc k u (up e) lu
                  · rw [if_pos hk]; exact s'.yc i _ hat rfl
              · refine ⟨by have := hS.n; show _ < c.n + 1; omega, ?_⟩
                show V.ref (c'.m i) = V.ref (if P.length + S.length = c.n then c'.m i else _)
                rw [if_pos hS.n]
          | _ => exact h.elim
      · rw [if_neg hi] at h
        exact h.elim
section
variable {X : Cx} {W : WX} {k n : Nat} {f : Addr} {fd : FuncData} {ps : List Str} {g : MF} {x : Str} {p pos : Pos} {e : Expr} {es : List Expr} {fs : MA}
theorem FnOk.pure {P : Program} {w : World} {K : PySem.W.Frag} {mg : Str → Option Value} {base : Heap} (F : FnOk P w K mg base CX0 k f fd ps (spM K n g)) : FnOk P w K mg base CX0 k f fd ps (spM K n (pureF g)) := L2.FnOk.imp F sp_pure
theorem FnOk.new {P : Program} {w : World} {K : PySem.W.Frag} {mg : Str → Option Value} {base : Heap} (F : FnOk P w K mg base CX0 k f fd ps (spM K n g)) : FnOk P w K mg base CX0 k f fd ps (spM K n (newF g)) := L2.FnOk.imp F sp_new
theorem tCall_of {σ : L2.St} {H : Hp} {Q : VK} (h : tM X.K W (mCall g fs) σ H Q) {E : XK} (hn : ∀ c P ρ S ds S', SimE X.K c H ρ σ → fs P ρ S = .ok ds S' → ds.length = n) : tCall (spM X.K n g) [] E (tMA X.K W fs) σ H Q := by
  obtain ⟨c, P, ρ, S, hE, hS, h⟩ := h
  have hn' := hn c P ρ S
  refine ⟨c, P, ρ, S, hE, hS, ?_⟩
  unfold mCall at h
  generalize fs P ρ S = r at h hn'
  cases r with
  | ok ds S1 =>
    intro c1 vs H1 e1 s1 r1
    have h1 := Post.ev hS.pl e1 h
    refine ⟨?_, c1, P, S1, ds, s1, by rw [List.append_nil]; exact r1, h1.nx⟩
    rw [List.append_nil, ← r1.len]
    exact hn' ds S1 hE rfl
  | ex x S' => exact h
  | no => exact h
/-- how many arguments a mirror hands on -/
def Cnt (n : Nat) (fs : MA) : Prop := ∀ P ρ S ds S', fs P ρ S = .ok ds S' → ds.length = n
theorem cnt_nil : Cnt 0 mNil := fun _ _ _ _ _ h => by cases h; rfl
theorem cnt_cons {n : Nat} {fa : ME} {fs : MA} (h : Cnt n fs) : Cnt (n + 1) (mCons fa fs) := fun P ρ S ds S' e => by
  unfold mCons at e
  generalize fa P ρ S = r at e
  cases r with
  | ok d S1 =>
    simp only [R.bind_ok] at e
    generalize q : fs P ρ S1 = r at e
    cases r with
    | ok ds' S2 =>
      cases e
      rw [List.length_cons, h _ _ _ _ _ q]
    | ex x S' => cases e
    | no => cases e
  | ex x S' => cases e
  | no => cases e
end

/-! ### statements -/
inductive Oc where
  | nx (ρ : En) (S : List O) | rt (d : D) (S : List O) | bk (ρ : En) (S : List O) | ct (ρ : En) (S : List O) | ex (x : Xv) (ρ : En) (S : List O) | no
abbrev MS := List O → En → List O → Oc
def PostS (K : PySem.W.Frag) (W : WX) (P : List O) (c : Cf) (H : Hp) (o : Oc) (D : Ends) : Prop := match o with
  | .nx ρ S => ∀ c' σ' H', Ev P c H c' H' → Sim K P S c' H' → SimE K c' H' ρ σ' → D.nx σ' H'
  | .bk ρ S => ∀ c' σ' H', Ev P c H c' H' → Sim K P S c' H' → SimE K c' H' ρ σ' → D.bk σ' H'
  | .ct ρ S => ∀ c' σ' H', Ev P c H c' H' → Sim K P S c' H' → SimE K c' H' ρ σ' → D.ct σ' H'
  | .rt d S => ∀ c' v H', Ev P c H c' H' → Sim K P S c' H' → RD K c' H' d v → D.rt v H'
  | .ex x ρ S => ∀ c' H', Ev P c H c' H' → Sim K P S c' H' → W x c' S H'
  | .no => False
theorem PostS.ev {K : PySem.W.Frag} {W : WX} {P : List O} {c c1 : Cf} {H H1 : Hp} {o : Oc} {D : Ends} (hs : P.length ≤ c.n) (e : Ev P c H c1 H1) (h : PostS K W P c H o D) : PostS K W P c1 H1 o D := by
  cases o with
  | nx ρ S => exact fun c' b H' e' => h c' b H' (e.trans hs e')
  | bk ρ S => exact fun c' b H' e' => h c' b H' (e.trans hs e')
  | ct ρ S => exact fun c' b H' e' => h c' b H' (e.trans hs e')
  | rt d S => exact fun c' b H' e' => h c' b H' (e.trans hs e')
  | ex x ρ S => exact fun c' H' e' => h c' H' (e.trans hs e')
  | no => exact h
def tMS (K : PySem.W.Frag) (W : WX) (f : MS) : TS := fun D σ H => ∃ c P ρ S, SimE K c H ρ σ ∧ Sim K P S c H ∧ PostS K W P c H (f P ρ S) D
structure PMS (X : Cx) (W : WX) (st : Stmt) (f : MS) : Prop where
  run : PS X st (tMS X.K W f)
structure PMB (X : Cx) (W : WX) (sts : List Stmt) (f : MS) : Prop where
  run : PSs X sts (tMS X.K W f)
theorem ps_weak {X : Cx} {st : Stmt} {t t' : TS} (h : PS X st t) (w : ∀ D σ H, t' D σ H → t D σ H) : PS X st t' := ⟨fun pins s σ H D I q => h.run pins s σ H D I (w D σ H q)⟩
theorem pss_weak {X : Cx} {st : List Stmt} {t t' : TS} (h : PSs X st t) (w : ∀ D σ H, t' D σ H → t D σ H) : PSs X st t' := ⟨fun pins s σ H D I q => h.run pins s σ H D I (w D σ H q)⟩
/-- an expression's answer as a statement's -/
def R.oc {α : Type} (ρ : En) (r : R α) (g : α → List O → Oc) : Oc := match r with
  | .ok a S => g a S
  | .ex x S => .ex x ρ S
  | .no => .no
@[simp] theorem R.oc_ok {α : Type} (ρ : En) (a : α) (S : List O) (g : α → List O → Oc) : (R.ok a S).oc ρ g = g a S := rfl
@[simp] theorem R.oc_ex {α : Type} (ρ : En) (x : Xv) (S : List O) (g : α → List O → Oc) : (R.ex x S : R α).oc ρ g = .ex x ρ S := rfl
@[simp] theorem R.oc_no {α : Type} (ρ : En) (g : α → List O → Oc) : (R.no : R α).oc ρ g = .no := rfl
def Oc.sq (o : Oc) (g : En → List O → Oc) : Oc := match o with
  | .nx ρ S => g ρ S
  | .rt d S => .rt d S
  | .bk ρ S => .bk ρ S
  | .ct ρ S => .ct ρ S
  | .ex x ρ S => .ex x ρ S
  | .no => .no
@[simp] theorem Oc.sq_nx (ρ : En) (S : List O) (g : En → List O → Oc) : (Oc.nx ρ S).sq g = g ρ S := rfl
@[simp] theorem Oc.sq_rt (d : D) (S : List O) (g : En → List O → Oc) : (Oc.rt d S).sq g = .rt d S := rfl
@[simp] theorem Oc.sq_bk (ρ : En) (S : List O) (g : En → List O → Oc) : (Oc.bk ρ S).sq g = .bk ρ S := rfl
@[simp] theorem Oc.sq_ct (ρ : En) (S : List O) (g : En → List O → Oc) : (Oc.ct ρ S).sq g = .ct ρ S := rfl
@[simp] theorem Oc.sq_ex (x : Xv) (ρ : En) (S : List O) (g : En → List O → Oc) : (Oc.ex x ρ S).sq g = .ex x ρ S := rfl
@[simp] theorem Oc.sq_no (g : En → List O → Oc) : Oc.no.sq g = .no := rfl
section
variable {K : PySem.W.Frag} {W : WX} {P S : List O} {ρ : En} {c : Cf} {σ : L2.St} {H : Hp}
theorem tM_oc {f : ME} {g : D → List O → Oc} {D' : Ends} (hE : SimE K c H ρ σ) (hS : Sim K P S c H) (h : PostS K W P c H ((f P ρ S).oc ρ g) D') {R' : V → Hp → Prop}
    (hr : ∀ d v S' c' H', Ev P c H c' H' → SimE K c' H' ρ σ → Sim K P S' c' H' → RD K c' H' d v → PostS K W P c' H' (g d S') D' → R' v H') : tM K W f σ H R' := by
  refine ⟨c, P, ρ, S, hE, hS, ?_⟩
  generalize f P ρ S = r at h
  cases r with
  | ok d S' => exact fun c' v H' e s r => hr d v S' c' H' e (hE.mono e) s r (PostS.ev hS.pl e h)
  | ex x S' => exact h
  | no => exact h
theorem tMT_oc {f : MT} {g : Bool → List O → Oc} {D' : Ends} (hE : SimE K c H ρ σ) (hS : Sim K P S c H) (h : PostS K W P c H ((f P ρ S).oc ρ g) D') {R' : Bool → Hp → Prop}
    (hr : ∀ b S' c' H', Ev P c H c' H' → SimE K c' H' ρ σ → Sim K P S' c' H' → PostS K W P c' H' (g b S') D' → R' b H') : tMT K W f σ H R' := by
  refine ⟨c, P, ρ, S, hE, hS, ?_⟩
  generalize f P ρ S = r at h
  cases r with
  | ok d S' =>
    intro c' v H' e s r
    cases (show d = v from r)
    exact hr d S' c' H' e (hE.mono e) s (PostS.ev hS.pl e h)
  | ex x S' => exact h
  | no => exact h
theorem tMA_oc {f : MA} {g : List D → List O → Oc} {D' : Ends} (hE : SimE K c H ρ σ) (hS : Sim K P S c H) (h : PostS K W P c H ((f P ρ S).oc ρ g) D') {R' : List V → Hp → Prop}
    (hr : ∀ d v S' c' H', Ev P c H c' H' → SimE K c' H' ρ σ → Sim K P S' c' H' → RDs K c' H' d v → PostS K W P c' H' (g d S') D' → R' v H') : tMA K W f σ H R' := by
  refine ⟨c, P, ρ, S, hE, hS, ?_⟩
  generalize f P ρ S = r at h
  cases r with
  | ok d S' => exact fun c' v H' e s r => hr d v S' c' H' e (hE.mono e) s r (PostS.ev hS.pl e h)
  | ex x S' => exact h
  | no => exact h
end
def sNil : MS := fun _ ρ S => .nx ρ S
def sSeq (f g : MS) : MS := fun P ρ S => (f P ρ S).sq fun ρ1 S1 => g P ρ1 S1
def sSet (i : Nat) (f : ME) : MS := fun P ρ S => (f P ρ S).oc ρ fun d S1 => .nx (ρ.set i (some d)) S1
def sRet (f : ME) : MS := fun P ρ S => (f P ρ S).oc ρ fun d S1 => .rt d S1
def sRetN : MS := fun _ _ S => .rt (.t .non) S
def sExpr (f : ME) : MS := fun P ρ S => (f P ρ S).oc ρ fun _ S1 => .nx ρ S1
def sIf (ft : MT) (f g : MS) : MS := fun P ρ S => (ft P ρ S).oc ρ fun b S1 => if b then f P ρ S1 else g P ρ S1
section
variable {X : Cx} {W : WX} {st : Stmt} {sts : List Stmt} {f g : MS} {e : Expr} {fe : ME} {pos : Pos}
theorem pmb_nil : PMB X W [] sNil := ⟨pss_weak pss_nil fun D σ H ⟨c, P, ρ, S, hE, hS, h⟩ => h c σ H (Ev.refl hS) hS hE⟩
theorem pmb_cons (h1 : PMS X W st f) (h2 : PMB X W sts g) : PMB X W (st :: sts) (sSeq f g) := by
  refine ⟨pss_weak (pss_cons h1.run h2.run) fun D σ H h => ?_⟩
  obtain ⟨c, P, ρ, S, hE, hS, h⟩ := h
  refine ⟨c, P, ρ, S, hE, hS, ?_⟩
  unfold sSeq at h
  generalize f P ρ S = o at h
  cases o with
  | nx ρ1 S1 => exact fun c' σ' H' e1 s1 E1 => ⟨c', P, ρ1, S1, E1, s1, PostS.ev hS.pl e1 h⟩
  | _ => exact h
theorem pmb_one (h : PMS X W st f) : PMB X W [st] f := ⟨pss_one h.run⟩
def sBreak : MS := fun _ ρ S => .bk ρ S
def sCont : MS := fun _ ρ S => .ct ρ S
theorem pms_set (i : Nat) {x : Str} {pos' : Pos} (hN : X.N.Nodup) (he : PM X W e fe) (hi : X.N[i]? = some x := by rfl) (hx : Loc X.env.scope x := by first | exact .inl rfl | exact .inr rfl) (hs : swapsWith e (some (.Name x pos')) pos.line X.env = pure false := by rfl)
    (hf : X.fn x = true ∨ X.env.scope.names.lookup x = some .local := by first | exact .inl rfl | exact .inr rfl) : PMS X W (.Assign [.Name x pos'] e pos) (sSet i fe) := by
  refine ⟨ps_weak (ps_set (i := i) hN hi hx he.run hs hf) fun D σ H h => ?_⟩
  obtain ⟨c, P, ρ, S, hE, hS, h⟩ := h
  exact tM_oc hE hS h fun d v S1 c1 H1 e1 E1 s1 r1 h1 => h1 c1 _ H1 (Ev.refl s1) s1 (E1.set i r1)
theorem pms_ret (he : PM X W e fe) : PMS X W (.Return (some e) pos) (sRet fe) := by
  refine ⟨ps_weak (ps_ret he.run) fun D σ H h => ?_⟩
  obtain ⟨c, P, ρ, S, hE, hS, h⟩ := h
  exact tM_oc hE hS h fun d v S1 c1 H1 e1 E1 s1 r1 h1 => h1 c1 v H1 (Ev.refl s1) s1 r1
theorem pms_expr (he : PM X W e fe) (hs : swapsWith e none pos.line X.env = pure false := by rfl) : PMS X W (.Expr e pos) (sExpr fe) := by
  refine ⟨ps_weak (ps_expr he.run hs) fun D σ H h => ?_⟩
  obtain ⟨c, P, ρ, S, hE, hS, h⟩ := h
  exact tM_oc hE hS h fun d v S1 c1 H1 e1 E1 s1 r1 h1 => h1 c1 σ H1 (Ev.refl s1) s1 E1
theorem pms_if {d : Expr} {a b : List Stmt} {ft : MT} (hc : PMT X W d ft) (ha : PMB X W a f) (hb : PMB X W b g) : PMS X W (.If d a b pos) (sIf ft f g) := by
  refine ⟨ps_weak (L2.ps_if hc.run ha.run hb.run) fun D σ H h => ?_⟩
  obtain ⟨c, P, ρ, S, hE, hS, h⟩ := h
  refine tMT_oc hE hS h fun k S1 c1 H1 e1 E1 s1 h1 => ?_
  cases k with
  | true => rw [if_pos rfl]; exact ⟨c1, P, ρ, S1, E1, s1, h1⟩
  | false => rw [if_neg Bool.false_ne_true]; exact ⟨c1, P, ρ, S1, E1, s1, h1⟩
end

/-! ### while -/
def bigN : Nat := 10 ^ 200
def whileGo (ft : MT) (fb : MS) (P : List O) : Nat → En → List O → Oc
  | 0, _, _ => .no
  | n + 1, ρ, S => (ft P ρ S).oc ρ fun b S1 => if b then (match fb P ρ S1 with
    | .nx ρ2 S2 => whileGo ft fb P n ρ2 S2
    | .ct ρ2 S2 => whileGo ft fb P n ρ2 S2
    | .bk ρ2 S2 => .nx ρ2 S2
    | .rt d S2 => .rt d S2
    | .ex x ρ2 S2 => .ex x ρ2 S2
    | .no => .no) else .nx ρ S1
def sWhile (ft : MT) (fb : MS) : MS := fun P ρ S => whileGo ft fb P bigN ρ S
section
variable {X : Cx} {W : WX} {pos : Pos}
theorem pms_while {d : Expr} {body : List Stmt} {ft : MT} {fb : MS} (hp : PassesOwn (model X.prog X.w) X.A X.env X.xe) (hc : PMT X W d ft) (hb : PMB X W body fb) : PMS X W (.While d body [] pos) (sWhile ft fb) := by
  refine ⟨ps_weak (ps_while hp hc.run hb.run) fun D σ H h => ?_⟩
  obtain ⟨c, P, ρ, S, hE, hS, h⟩ := h
  refine ⟨fun m σ H => ∃ c ρ S, SimE X.K c H ρ σ ∧ Sim X.K P S c H ∧ PostS X.K W P c H (whileGo ft fb P m ρ S) D, ⟨bigN, c, ρ, S, hE, hS, h⟩, ?_⟩
  rintro m σ H ⟨c, ρ, S, hE, hS, h⟩
  cases m with
  | zero => exact h.elim
  | succ m =>
    refine tMT_oc hE hS h fun k S1 c1 H1 e1 E1 s1 h1 => ?_
    cases k with
    | false => rw [if_neg Bool.false_ne_true] at h1 ⊢; exact h1 c1 σ H1 (Ev.refl s1) s1 E1
    | true =>
      rw [if_pos rfl] at h1 ⊢
      refine ⟨fun σ' H' => ∃ c ρ S, SimE X.K c H' ρ σ' ∧ Sim X.K P S c H' ∧ PostS X.K W P c H' (whileGo ft fb P m ρ S) D, fun σ' H' n => ⟨m, Nat.lt_succ_self m, n⟩, c1, P, ρ, S1, E1, s1, ?_⟩
      generalize fb P ρ S1 = o at h1
      cases o with
      | nx ρ2 S2 => exact fun c2 σ2 H2 e2 s2 E2 => ⟨c2, ρ2, S2, E2, s2, PostS.ev s1.pl e2 h1⟩
      | ct ρ2 S2 => exact fun c2 σ2 H2 e2 s2 E2 => ⟨c2, ρ2, S2, E2, s2, PostS.ev s1.pl e2 h1⟩
      | bk ρ2 S2 => exact h1
      | rt d S2 => exact h1
      | ex x ρ2 S2 => exact h1
      | no => exact h1
end

/-! ### what is walked -/
structure ItOk (K : PySem.W.Frag) (P : List O) (c : Cf) (H : Hp) (J : It) (items : List D) : Prop where
  len : items.length ≤ sizeLine
  stop : ∀ c1 H1, Ev P c H c1 H1 → J.stop items.length H1
  go : ∀ i d c1 H1 S1, items[i]? = some d → Ev P c H c1 H1 → Sim K P S1 c1 H1 → J.go i H1 ∧ ∀ x H2, J.yld i H1 x H2 → ∃ c2, Ev P c1 H1 c2 H2 ∧ Sim K P S1 c2 H2 ∧ RD K c2 H2 d x
abbrev MI := List O → En → List O → R (List D)
def tMI (K : PySem.W.Frag) (W : WX) (f : MI) : TI := fun σ H R => ∃ c P ρ S, SimE K c H ρ σ ∧ Sim K P S c H ∧ match f P ρ S with
  | .ok items S' => ∀ c' J H', Ev P c H c' H' → Sim K P S' c' H' → ItOk K P c' H' J items → R J H'
  | .ex x S' => ∀ c' H', Ev P c H c' H' → Sim K P S' c' H' → W x c' S' H'
  | .no => False
structure PMI (X : Cx) (W : WX) (tg e : Expr) (f : MI) : Prop where
  run : PI X tg e (tMI X.K W f)
/-- targets: names alone; own: their slots -/
abbrev MG := D → En → Option En
def tMG (K : PySem.W.Frag) (own : List Nat) (f : MG) : TG := fun v σ H Q => ∃ c P S ρ d, SimE K c H ρ σ ∧ Sim K P S c H ∧ RD K c H d v ∧ match f d ρ with
  | some ρ' => ∀ σ', SimE K c H ρ' σ' → σ'.length = σ.length → (∀ j, j ∉ own → σ'[j]? = σ[j]?) → Q σ' H
  | none => False
structure PMG (X : Cx) (tg : Expr) (own : List Nat) (f : MG) : Prop where
  run : PG X tg (tMG X.K own f)
theorem pg_weak {X : Cx} {e : Expr} {t t' : TG} (h : PG X e t) (w : ∀ v σ H Q, t' v σ H Q → t v σ H Q) : PG X e t' := ⟨fun pins s σ H v u Q I r q => h.run pins s σ H v u Q I r (w v σ H Q q)⟩
def gN (i : Nat) : MG := fun d ρ => some (ρ.set i (some d))
theorem pmg_name {X : Cx} {pos : Pos} (i : Nat) {x : Str} (hN : X.N.Nodup) (hi : X.N[i]? = some x := by rfl) (hx : Loc X.env.scope x := by first | exact .inl rfl | exact .inr rfl) (hf : X.fn x = true ∨ X.env.scope.names.lookup x = some .local := by first | exact .inl rfl | exact .inr rfl) :
    PMG X (.Name x pos) [i] (gN i) := by
  refine ⟨pg_weak (pg_name hN hi hx hf) fun v σ H Q h => ?_⟩
  obtain ⟨c, P, S, ρ, d, hE, hS, r, h⟩ := h
  refine h _ (hE.set i r) (by rw [List.length_set]) fun j hj => List.getElem?_set_ne fun e => hj (by rw [e]; simp)
/-! a tuple of targets -/
abbrev MGs := List T → En → Option En
def tMGs (K : PySem.W.Frag) (own : List Nat) (f : MGs) : TGs := fun vs σ H Q => ∃ c P S ρ ts, SimE K c H ρ σ ∧ Sim K P S c H ∧ RVs K c.Z H ts vs ∧ match f ts ρ with
  | some ρ' => ∀ σ', SimE K c H ρ' σ' → σ'.length = σ.length → (∀ j, j ∉ own → σ'[j]? = σ[j]?) → Q σ' H
  | none => False
structure PMGs (X : Cx) (tg : List Expr) (own : List Nat) (f : MGs) : Prop where
  run : PGs X tg (tMGs X.K own f)
def gsNil : MGs := fun ts ρ => match ts with
  | [] => some ρ
  | _ => none
def gsCons (f : MG) (g : MGs) : MGs := fun ts ρ => match ts with
  | t :: r => (f (.t t) ρ).bind fun ρ1 => g r ρ1
  | [] => none
def gT (n : Nat) (g : MGs) : MG := fun d ρ => match d with
  | .t (.tup ts) => if ts.length = n then g ts ρ else none
  | _ => none
theorem pgs_weak {X : Cx} {e : List Expr} {t t' : TGs} (h : PGs X e t) (w : ∀ v σ H Q, t' v σ H Q → t v σ H Q) : PGs X e t' := ⟨fun pins s σ H v u Q I r q => h.run pins s σ H v u Q I r (w v σ H Q q)⟩
theorem pmgs_nil {X : Cx} : PMGs X [] [] gsNil := by
  refine ⟨pgs_weak pgs_nil fun vs σ H Q h => ?_⟩
  obtain ⟨c, P, S, ρ, ts, hE, hS, r, h⟩ := h
  cases r with
  | nil => exact ⟨rfl, h σ hE rfl fun _ _ => rfl⟩
  | cons _ _ _ _ _ _ => exact h.elim
theorem RD.tup {K : PySem.W.Frag} {c : Cf} {H : Hp} {ts : List T} {v : V} (h : RD K c H (.t (.tup ts)) v) : ∃ a vs, v = .ref a ∧ SqT K H a vs ∧ vs.length ≤ sizeLine ∧ RVs K c.Z H ts vs := by
  cases h with
  | tup _ a vs h1 h2 h3 h4 => exact ⟨a, vs, rfl, SqT.of h2, h3, h4⟩
theorem pmgs_cons {X : Cx} {e : Expr} {es : List Expr} {o1 o2 : List Nat} {f : MG} {g : MGs} (h1 : PMG X e o1 f) (h2 : PMGs X es o2 g) (ha : (assignEach (e :: es) X.env).map (·.2) = assign e X.env :: (assignEach es X.env).map (·.2) := by rfl) : PMGs X (e :: es) (o1 ++ o2) (gsCons f g) := by
  have hp : PGs X (e :: es) (gCons (tMG X.K o1 f) (tMGs X.K o2 g)) := pgs_cons h1.run h2.run ha
  refine ⟨pgs_weak hp fun vs σ H Q h => ?_⟩
  obtain ⟨c, P, S, ρ, ts, hE, hS, r, h⟩ := h
  cases r with
  | nil => exact h.elim
  | cons t v ts' vs' r1 r2 =>
    refine ⟨v, vs', rfl, c, P, S, ρ, .t t, hE, hS, r1, ?_⟩
    have h : match (f (.t t) ρ).bind (fun ρ1 => g ts' ρ1) with
      | some ρ' => ∀ σ', SimE X.K c H ρ' σ' → σ'.length = σ.length → (∀ j, j ∉ o1 ++ o2 → σ'[j]? = σ[j]?) → Q σ' H
      | none => False := h
    cases q : f (.t t) ρ with
    | none => rw [q] at h; exact h
    | some ρ1 =>
      rw [q] at h
      intro σ1 E1 l1 j1
      refine ⟨c, P, S, ρ1, ts', E1, hS, r2, ?_⟩
      have h : match g ts' ρ1 with
        | some ρ' => ∀ σ', SimE X.K c H ρ' σ' → σ'.length = σ.length → (∀ j, j ∉ o1 ++ o2 → σ'[j]? = σ[j]?) → Q σ' H
        | none => False := h
      cases q2 : g ts' ρ1 with
      | none => rw [q2] at h; exact h
      | some ρ2 =>
        rw [q2] at h
        exact fun σ2 E2 l2 j2 => h σ2 E2 (l2.trans l1) fun j hj => by
          rw [List.mem_append, not_or] at hj
          exact (j2 j hj.2).trans (j1 j hj.1)
theorem pmg_tup {X : Cx} {es : List Expr} {kt : Nat} {pos : Pos} {n : Nat} {own : List Nat} {g : MGs} (hc : X.calm = true) (h : PMGs X es own g) (hn : (assignEach es X.env).length = n := by rfl) (hst : (assignEach es X.env).findIdx? (·.1) = none := by rfl) : PMG X (.Tuple es kt pos) own (gT n g) := by
  have hp : PG X (.Tuple es kt pos) (gTup X.K n (tMGs X.K own g)) := pg_tup hc h.run hn hst
  refine ⟨pg_weak hp fun v σ H Q h => ?_⟩
  obtain ⟨c, P, S, ρ, d, hE, hS, r, h⟩ := h
  cases d with
  | ref i => exact h.elim
  | t x =>
    cases x with
    | tup ts =>
      obtain ⟨a, vs, rfl, hq, _, rs⟩ := r.tup
      have h : match (if ts.length = n then g ts ρ else none) with
        | some ρ' => ∀ σ', SimE X.K c H ρ' σ' → σ'.length = σ.length → (∀ j, j ∉ own → σ'[j]? = σ[j]?) → Q σ' H
        | none => False := h
      by_cases hl : ts.length = n
      · rw [if_pos hl] at h
        exact ⟨a, vs, rfl, hq, by rw [← rs.len]; exact hl, c, P, S, ρ, ts, hE, hS, rs, h⟩
      · rw [if_neg hl] at h
        exact h.elim
    | _ => exact h.elim
def sAsg (g : MG) (f : ME) : MS := fun P ρ S => (f P ρ S).oc ρ fun d S1 => match g d ρ with
  | some ρ1 => .nx ρ1 S1
  | none => .no
theorem pms_asg {X : Cx} {W : WX} {tg e : Expr} {pos : Pos} {own : List Nat} {g : MG} {fe : ME} (he : PM X W e fe) (hg : PMG X tg own g) (hs : swapsWithSole [tg] e pos.line X.env = pure false := by rfl) (hw : swappedStores [tg] e X.env = pure none := by rfl) (h1 : (assignEach [tg] X.env).map (·.2) = [assign tg X.env] := by rfl) :
    PMS X W (.Assign [tg] e pos) (sAsg g fe) := by
  refine ⟨ps_weak (ps_asg he.run hg.run hs hw (h1 := h1)) fun D σ H h => ?_⟩
  obtain ⟨c, P, ρ, S, hE, hS, h⟩ := h
  refine tM_oc hE hS h fun d v S1 c1 H1 e1 E1 s1 r1 h1 => ⟨c1, P, S1, ρ, d, E1, s1, r1, ?_⟩
  cases q : g d ρ with
  | none => rw [q] at h1; exact h1
  | some ρ1 => rw [q] at h1; exact fun σ' E' l j => h1 c1 σ' H1 (Ev.refl s1) s1 E'

/-! ### for -/
def forGo (g : MG) (fb : MS) (P : List O) : List D → En → List O → Oc
  | [], ρ, S => .nx ρ S
  | d :: ds, ρ, S => match g d ρ with
    | none => .no
    | some ρ1 => match fb P ρ1 S with
      | .nx ρ2 S2 => forGo g fb P ds ρ2 S2
      | .ct ρ2 S2 => forGo g fb P ds ρ2 S2
      | .bk ρ2 S2 => .nx ρ2 S2
      | .rt d S2 => .rt d S2
      | .ex x ρ2 S2 => .ex x ρ2 S2
      | .no => .no
def sFor (fi : MI) (g : MG) (fb : MS) : MS := fun P ρ S => (fi P ρ S).oc ρ fun ds S1 => forGo g fb P ds ρ S1
theorem pms_for {X : Cx} {W : WX} {tg it : Expr} {body : List Stmt} {pos : Pos} {own : List Nat} {g : MG} {fi : MI} {fb : MS} (hp : PassesOwn (model X.prog X.w) X.A X.env X.xe) (hc : X.calm = true) (hi : PMI X W tg it fi) (hg : PMG X tg own g) (hb : PMB X W body fb)
    (hs : ∀ x, foldedSetIterable it X.env x = pure x := by intro _; rfl) : PMS X W (.For tg it body [] pos) (sFor fi g fb) := by
  refine ⟨ps_weak (ps_for hp hc hi.run hg.run hb.run hs) fun D σ H h => ?_⟩
  obtain ⟨c, P, ρ, S, hE, hS, h⟩ := h
  refine ⟨c, P, ρ, S, hE, hS, ?_⟩
  unfold sFor at h
  generalize fi P ρ S = r at h
  cases r with
  | ex x S' => exact h
  | no => exact h
  | ok ds S1 =>
    intro c0 J H0 e0 s0 ok0
    have h := PostS.ev hS.pl e0 h
    refine ⟨fun i m σ H => m + i = ds.length ∧ ∃ c ρ S, Ev P c0 H0 c H ∧ SimE X.K c H ρ σ ∧ Sim X.K P S c H ∧ PostS X.K W P c H (forGo g fb P (ds.drop i) ρ S) D, ⟨ds.length, by omega, c0, ρ, S1, Ev.refl s0, hE.mono e0, s0, h⟩, ?_⟩
    rintro i m σ H ⟨him, c, ρ, S, ev, hE, hS, h⟩
    by_cases hi : i < ds.length
    · have hd : ds.drop i = ds[i] :: ds.drop (i + 1) := List.drop_eq_getElem_cons hi
      rw [hd] at h
      obtain ⟨g1, g2⟩ := ok0.go i ds[i] c H S (List.getElem?_eq_getElem hi) ev hS
      refine .inr ⟨g1, fun σ' H' => ∃ c ρ S, Ev P c0 H0 c H' ∧ SimE X.K c H' ρ σ' ∧ Sim X.K P S c H' ∧ PostS X.K W P c H' (forGo g fb P (ds.drop (i + 1)) ρ S) D, fun σ' H' n => ⟨m - 1, by omega, by omega, n⟩, fun x H2 y => ?_⟩
      obtain ⟨c2, ev2, s2, r2⟩ := g2 x H2 y
      have h2 := PostS.ev hS.pl ev2 h
      refine ⟨c2, P, S, ρ, ds[i], hE.mono ev2, s2, r2, ?_⟩
      unfold forGo at h2
      cases q : g ds[i] ρ with
      | none => rw [q] at h2; exact h2
      | some ρ1 =>
        rw [q] at h2
        intro σ1 E1 _ _
        refine ⟨c2, P, ρ1, S, E1, s2, ?_⟩
        simp only at h2
        generalize fb P ρ1 S = o at h2
        have tr := fun c3 H3 (e3 : Ev P c2 H2 c3 H3) => (ev.trans s0.pl ev2).trans s0.pl e3
        cases o with
        | nx ρ3 S3 => exact fun c3 σ3 H3 e3 s3 E3 => ⟨c3, ρ3, S3, tr c3 H3 e3, E3, s3, PostS.ev s2.pl e3 h2⟩
        | ct ρ3 S3 => exact fun c3 σ3 H3 e3 s3 E3 => ⟨c3, ρ3, S3, tr c3 H3 e3, E3, s3, PostS.ev s2.pl e3 h2⟩
        | bk ρ3 S3 => exact h2
        | rt d S3 => exact h2
        | ex x ρ3 S3 => exact h2
        | no => exact h2
    · have hi2 : i = ds.length := by omega
      rw [hi2, List.drop_length] at h
      subst hi2
      exact .inl ⟨ok0.stop c H ev, h c σ H (Ev.refl hS) hS hE⟩

/-! ### a def keeps its promise -/
def mDef (n : Nat) (fb : MS) : MF := fun ds P S => match fb P (ds.map some ++ List.replicate (n - ds.length) none) S with
  | .rt d S' => .ok d S'
  | .nx _ S' => .ok (.t .non) S'
  | .ex x _ S' => .ex x S'
  | _ => .no
theorem simE_start {K : PySem.W.Frag} {c : Cf} {H : Hp} {ds : List D} {vs : List V} (r : RDs K c H ds vs) (N : List Str) : SimE K c H (ds.map some ++ List.replicate (N.length - ds.length) none) (L2.start N vs) := by
  have hl := r.len
  unfold L2.start
  refine ⟨by simp only [List.length_append, List.length_map, List.length_replicate]; omega, fun i d e => ?_⟩
  by_cases hi : i < ds.length
  · rw [List.getElem?_append_left (by rw [List.length_map]; exact hi), List.getElem?_map] at e
    cases q : ds[i]? with
    | none => rw [q] at e; cases e
    | some d' =>
      rw [q] at e
      cases e
      have : ∀ {ds : List D} {vs : List V} {i : Nat} {d : D}, RDs K c H ds vs → ds[i]? = some d → ∃ v, vs[i]? = some v ∧ RD K c H d v := by
        intro ds vs i d r
        induction r generalizing i with
        | nil => intro h; simp at h
        | cons r _ ih =>
          intro h
          cases i with
          | zero => simp at h; subst h; exact ⟨_, rfl, r⟩
          | succ i => simpa using ih (i := i) (by simpa using h)
      obtain ⟨v, h1, h2⟩ := this r q
      exact ⟨v, by rw [List.getElem?_append_left (by rw [List.length_map]; omega), List.getElem?_map, h1]; rfl, h2⟩
  · rw [List.getElem?_append_right (by rw [List.length_map]; omega)] at e
    rw [List.getElem?_replicate] at e
    split at e <;> cases e
section
variable {P : Program} {w : World} {K : PySem.W.Frag} {mg : Str → Option Value} {base : Heap}
end
end Fm

/-! Fm4: what is walked; list comprehensions. -/
namespace Fm
open PySem PySem.Spec PyProof.Rows L2

/-! ### sequences -/
def itemsOf (P : List O) : D → Option (List D)
  | .t (.lst l) => some (l.map D.t)
  | .t (.tup l) => some (l.map D.t)
  | .t (.str s) => some (s.map fun c => D.t (.str [c]))
  | .t (.scr l) => some (l.map fun i => D.t (.int i))
  | .t _ => none
  | .ref i => match P[i]? with
    | some (.lst l) => some l
    | _ => none
def mIt (f : ME) : MI := fun P ρ S => (f P ρ S).bind fun d S1 => match itemsOf P d with
  | some l => .ok l S1
  | none => .no
theorem RVs.at {K : PySem.W.Frag} {Z : Addr → Prop} {H : Hp} : ∀ {ts : List T} {vs : List V} {i : Nat} {t : T}, RVs K Z H ts vs → ts[i]? = some t → ∃ v, vs[i]? = some v ∧ RV K Z H t v
  | _, _, _, _, .nil, h => by simp at h
  | _, _, 0, _, .cons t v ts vs h1 _, h => by simp at h; subst h; exact ⟨v, rfl, h1⟩
  | _, _, i + 1, _, .cons t v ts vs _ h2, h => by simpa using RVs.at (i := i) h2 (by simpa using h)
theorem RDs.at {K : PySem.W.Frag} {c : Cf} {H : Hp} : ∀ {ts : List D} {vs : List V} {i : Nat} {t : D}, RDs K c H ts vs → ts[i]? = some t → ∃ v, vs[i]? = some v ∧ RD K c H t v
  | _, _, _, _, .nil, h => by simp at h
  | _, _, 0, _, .cons h1 _, h => by simp at h; subst h; exact ⟨_, rfl, h1⟩
  | _, _, i + 1, _, .cons _ h2, h => by simpa using RDs.at (i := i) h2 (by simpa using h)
theorem RVs.mono' {K : PySem.W.Frag} {P : List O} {c c1 : Cf} {H H1 : Hp} {ts : List T} {vs : List V} (e : Ev P c H c1 H1) (h : RVs K c.Z H ts vs) : RVs K c1.Z H1 ts vs := RVs.mono e.z e.rd e.rdD h
theorem RV.mono' {K : PySem.W.Frag} {P : List O} {c c1 : Cf} {H H1 : Hp} {t : T} {v : V} (e : Ev P c H c1 H1) (h : RV K c.Z H t v) : RV K c1.Z H1 t v := RV.mono e.z e.rd e.rdD h
section
variable {K : PySem.W.Frag} {P S : List O} {c : Cf} {H : Hp}
theorem itok_list {l : List T} {a : Addr} {vs : List V} (hz : c.Z a) (hH : H a = some (.lst vs)) (hl : vs.length ≤ sizeLine) (r : RVs K c.Z H l vs) : ItOk K P c H (Itl K a) (l.map D.t) := by
  refine ⟨by rw [List.length_map, r.len]; exact hl, fun c1 H1 e => ⟨vs, SqL.of (e.rd a _ hz hH rfl), by rw [List.length_map, r.len]; exact Nat.le_refl _⟩, fun i d c1 H1 S1 q e s => ?_⟩
  rw [List.getElem?_map] at q
  cases z : l[i]? with
  | none => rw [z] at q; cases q
  | some t =>
    rw [z] at q
    cases q
    obtain ⟨v, h1, h2⟩ := r.at z
    have hS : SqL K H1 a vs := SqL.of (e.rd a _ hz hH rfl)
    refine ⟨⟨vs, v, hS, h1⟩, fun x H2 y => ?_⟩
    obtain ⟨rfl, y⟩ := y
    have := y vs hS
    rw [h1] at this
    cases this
    exact ⟨c1, Ev.refl s, s, RV.mono' e h2⟩
theorem itok_tup {l : List T} {a : Addr} {vs : List V} (hq : ∀ c1 H1, Ev P c H c1 H1 → SqT K H1 a vs) (hl : vs.length ≤ sizeLine) (r : RVs K c.Z H l vs) : ItOk K P c H (Itt K a) (l.map D.t) := by
  refine ⟨by rw [List.length_map, r.len]; exact hl, fun c1 H1 e => ⟨vs, hq c1 H1 e, by rw [List.length_map, r.len]; exact Nat.le_refl _⟩, fun i d c1 H1 S1 q e s => ?_⟩
  rw [List.getElem?_map] at q
  cases z : l[i]? with
  | none => rw [z] at q; cases q
  | some t =>
    rw [z] at q
    cases q
    obtain ⟨v, h1, h2⟩ := r.at z
    have hS := hq c1 H1 e
    refine ⟨⟨vs, v, hS, h1⟩, fun x H2 y => ?_⟩
    obtain ⟨rfl, y⟩ := y
    have := y vs hS
    rw [h1] at this
    cases this
    exact ⟨c1, Ev.refl s, s, RV.mono' e h2⟩
theorem itok_scr {l : List Int} {a : Addr} (hq : ∀ c1 H1, Ev P c H c1 H1 → SqL K H1 a (l.map V.int)) (hl : l.length ≤ sizeLine) : ItOk K P c H (Itl K a) (l.map fun i => D.t (.int i)) := by
  refine ⟨by rw [List.length_map]; exact hl, fun c1 H1 e => ⟨_, hq c1 H1 e, by rw [List.length_map, List.length_map]; exact Nat.le_refl _⟩, fun i d c1 H1 S1 q e s => ?_⟩
  rw [List.getElem?_map] at q
  cases z : l[i]? with
  | none => rw [z] at q; cases q
  | some t =>
    rw [z] at q
    cases q
    have h1 : (l.map V.int)[i]? = some (.int t) := by rw [List.getElem?_map, z]; rfl
    have hS := hq c1 H1 e
    refine ⟨⟨_, _, hS, h1⟩, fun x H2 y => ?_⟩
    obtain ⟨rfl, y⟩ := y
    have := y _ hS
    rw [h1] at this
    cases this
    exact ⟨c1, Ev.refl s, s, RV.int t⟩
theorem itok_str {s : Tx} (hl : s.length ≤ sizeLine) : ItOk K P c H (Its (sv s)) (s.map fun ch => D.t (.str [ch])) := by
  refine ⟨by rw [List.length_map]; exact hl, fun c1 H1 e => by show (sv s).cps.size ≤ _; rw [List.length_map]; simp [sv], fun i d c1 H1 S1 q e sm => ?_⟩
  rw [List.getElem?_map] at q
  cases z : s[i]? with
  | none => rw [z] at q; cases q
  | some ch =>
    rw [z] at q
    cases q
    have hi := (List.getElem?_eq_some_iff.mp z).1
    refine ⟨by show i < (sv s).cps.size; simpa [sv] using hi, fun x H2 y => ?_⟩
    obtain ⟨rfl, ch', e1, rfl⟩ := y
    have e2 : s[i]? = some ch' := by simpa [sv] using e1
    rw [z] at e2
    cases e2
    exact ⟨c1, Ev.refl sm, sm, RV.str [ch] (by show 1 ≤ sizeLine; decide)⟩
theorem itok_cell {l : List D} {i : Nat} {vs : List V} (hS : Sim K P S c H) (hP : P[i]? = some (.lst l)) (hH : H (c.m i) = some (.lst vs)) (hl : vs.length ≤ sizeLine) (r : RDs K c H l vs) : ItOk K P c H (Itl K (c.m i)) l := by
  have hq : ∀ c1 H1, Ev P c H c1 H1 → SqL K H1 (c.m i) vs := fun c1 H1 e => SqL.of ((e.b i _ hP rfl).1.trans hH)
  refine ⟨by rw [r.len]; exact hl, fun c1 H1 e => ⟨vs, hq c1 H1 e, by rw [r.len]; exact Nat.le_refl _⟩, fun j d c1 H1 S1 q e s => ?_⟩
  obtain ⟨v, h1, h2⟩ := r.at q
  have hS1 := hq c1 H1 e
  refine ⟨⟨vs, v, hS1, h1⟩, fun x H2 y => ?_⟩
  obtain ⟨rfl, y⟩ := y
  have := y vs hS1
  rw [h1] at this
  cases this
  exact ⟨c1, Ev.refl s, s, h2.mono e⟩
theorem RD.scrE {l : List Int} {v : V} (h : RD K c H (.t (.scr l)) v) : ∃ a, v = .ref a ∧ (∀ {P : List O} {c1 : Cf} {H1 : Hp}, Ev P c H c1 H1 → SqL K H1 a (l.map V.int)) ∧ SqL K H a (l.map V.int) ∧ l.length ≤ sizeLine := by
  cases h with
  | scr _ a o h0 h1 h2 => exact ⟨a, rfl, fun e => .inl (.inr ⟨o, e.rd a _ h1 h2 rfl⟩), .inl (.inr ⟨o, h2⟩), h0⟩
  | scr1 _ a h0 h1 h2 => exact ⟨a, rfl, fun e => SqL.of (e.rd a _ h1 h2 rfl), SqL.of h2, h0⟩
  | scrK _ a h0 h1 => exact ⟨a, rfl, fun e => .inr h1, .inr h1, h0⟩
theorem RD.tupE {ts : List T} {v : V} (h : RD K c H (.t (.tup ts)) v) : ∃ a vs, v = .ref a ∧ (∀ {P : List O} {c1 : Cf} {H1 : Hp}, Ev P c H c1 H1 → SqT K H1 a vs) ∧ SqT K H a vs ∧ vs.length ≤ sizeLine ∧ RVs K c.Z H ts vs := by
  cases h with
  | tup _ a vs h1 h2 h3 h4 => exact ⟨a, vs, rfl, fun e => SqT.of (e.rd a _ h1 h2 rfl), SqT.of h2, h3, h4⟩
end
section
variable {X : Cx} {W : WX} {tg e : Expr} {f : ME} {pos : Pos}
/-- a walk of any sequence -/
theorem pmi_seq (h : PM X W e f) : PMI X W tg e (mIt f) := by
  refine ⟨⟨fun pins s σ H Rr I hw => ?_⟩⟩
  obtain ⟨c, P, ρ, S, hE, hS, hw⟩ := hw
  unfold mIt at hw
  cases q : f P ρ S with
  | ex x S1 =>
    rw [q] at hw
    exact (pi_list h.run).run pins s σ H Rr I ⟨c, P, ρ, S, hE, hS, by rw [q]; exact hw⟩
  | no =>
    rw [q] at hw
    exact hw.elim
  | ok d S1 =>
    rw [q] at hw
    simp only [R.bind_ok] at hw
    cases d with
    | ref i =>
      simp only [itemsOf] at hw
      cases z : P[i]? with
      | none => rw [z] at hw; exact hw.elim
      | some o =>
        rw [z] at hw
        cases o with
        | lst l =>
          refine (pi_list h.run).run pins s σ H Rr I ⟨c, P, ρ, S, hE, hS, ?_⟩
          rw [q]
          intro c1 v H1 e1 s1 r1
          obtain ⟨_, rfl⟩ := r1
          have hat : (P ++ S1)[i]? = some (.lst l) := by rw [List.getElem?_append_left (List.getElem?_eq_some_iff.mp z).1]; exact z
          obtain ⟨vs, hH, hl, rs⟩ := s1.ro i _ hat
          exact ⟨_, rfl, ⟨vs, SqL.of hH⟩, hw c1 _ H1 e1 s1 (itok_cell s1 z hH hl rs)⟩
        | _ => exact hw.elim
    | t x =>
      cases x with
      | lst l =>
        refine (pi_list h.run).run pins s σ H Rr I ⟨c, P, ρ, S, hE, hS, ?_⟩
        rw [q]
        intro c1 v H1 e1 s1 r1
        cases r1 with
        | lst _ a vs h1 h2 h3 h4 => exact ⟨_, rfl, ⟨vs, SqL.of h2⟩, hw c1 _ H1 e1 s1 (itok_list h1 h2 h3 h4)⟩
      | tup l =>
        refine (pi_tup h.run).run pins s σ H Rr I ⟨c, P, ρ, S, hE, hS, ?_⟩
        rw [q]
        intro c1 v H1 e1 s1 r1
        obtain ⟨a, vs, rfl, g1, g2, g3, g4⟩ := r1.tupE
        exact ⟨_, rfl, ⟨vs, g2⟩, hw c1 _ H1 e1 s1 (itok_tup (fun _ _ e => g1 e) g3 g4)⟩
      | scr l =>
        refine (pi_list h.run).run pins s σ H Rr I ⟨c, P, ρ, S, hE, hS, ?_⟩
        rw [q]
        intro c1 v H1 e1 s1 r1
        obtain ⟨a, rfl, g1, g2, g3⟩ := r1.scrE
        exact ⟨_, rfl, ⟨_, g2⟩, hw c1 _ H1 e1 s1 (itok_scr (fun _ _ e => g1 e) g3)⟩
      | str l =>
        refine (pi_str h.run).run pins s σ H Rr I ⟨c, P, ρ, S, hE, hS, ?_⟩
        rw [q]
        intro c1 v H1 e1 s1 r1
        cases r1 with
        | str _ hl => exact ⟨_, rfl, hw c1 _ H1 e1 s1 (itok_str hl)⟩
      | _ => exact hw.elim
end

/-! ### ranges -/
def rngOf (i j : Int) : List D := (List.range (j - i).toNat).map fun (k : Nat) => D.t (.int (i + k))
def rng1Of : List D → Option (List D)
  | [.t (.int j)] => if -(2 ^ 62) ≤ j ∧ j ≤ sizeLine then some (rngOf 0 j) else none
  | _ => none
def mI (g : List D → Option (List D)) (f : MA) : MI := fun P ρ S => (f P ρ S).bind fun ds S1 => match g ds with
  | some l => .ok l S1
  | none => .no
theorem rng1Of_some {ds l : List D} (h : rng1Of ds = some l) : ∃ j, ds = [.t (.int j)] ∧ (-(2 ^ 62) ≤ j ∧ j ≤ sizeLine) ∧ l = rngOf 0 j := by
  unfold rng1Of at h
  split at h
  · rename_i j
    split at h
    · cases h; exact ⟨j, rfl, by assumption, rfl⟩
    · cases h
  · cases h
theorem sz24 : (sizeLine : Int) = 16777216 := by rw [sizeLine_eq]; rfl
theorem itok_rng {K : PySem.W.Frag} {P : List O} {c : Cf} {H : Hp} {i j : Int} (h : j - i ≤ sizeLine) : ItOk K P c H (Itr i (j - i).toNat) (rngOf i j) := by
  have hl : (rngOf i j).length = (j - i).toNat := by simp [rngOf]
  refine ⟨by rw [hl]; omega, fun c1 H1 e => by show _ ≤ _; rw [hl]; exact Nat.le_refl _, fun k d c1 H1 S1 q e s => ?_⟩
  unfold rngOf at q
  rw [List.getElem?_map] at q
  by_cases hk : k < (j - i).toNat
  · rw [List.getElem?_range hk] at q
    cases q
    refine ⟨hk, fun x H2 y => ?_⟩
    obtain ⟨rfl, rfl⟩ := y
    exact ⟨c1, Ev.refl s, s, RV.int _⟩
  · rw [List.getElem?_eq_none (by simpa using hk)] at q
    cases q
section
variable {X : Cx} {W : WX} {tg a b : Expr} {f : MA} {p pos : Pos} {it : Expr}
/-- a walk over what a call of arguments gives -/
theorem pmi_of {es : List Expr} {g : List D → Option (List D)} {wi : TA → TI} (ha : PMA X W es f) (hp : ∀ t, PA X es t → PI X tg it (wi t))
    (hw : ∀ (t : TA) (σ : L2.St) (H : Hp) (Rr : It → Hp → Prop), (t σ H fun vs H1 => ∃ ds c P S l, Sim X.K P S c H1 ∧ RDs X.K c H1 ds vs ∧ g ds = some l ∧ ∀ J, ItOk X.K P c H1 J l → Rr J H1) → (∀ Q Q' : List V → Hp → Prop, (∀ vs H, Q vs H → Q' vs H) → t σ H Q → t σ H Q') → wi t σ H Rr) :
    PMI X W tg it (mI g f) := by
  refine ⟨⟨fun pins s σ H Rr I h => ?_⟩⟩
  obtain ⟨c, P, ρ, S, hE, hS, h⟩ := h
  refine (hp _ ha.run).run pins s σ H Rr I (hw _ σ H Rr ⟨c, P, ρ, S, hE, hS, ?_⟩ ?_)
  · unfold mI at h
    generalize f P ρ S = r at h
    cases r with
    | ex x S1 => exact h
    | no => exact h
    | ok ds S1 =>
      intro c1 vs H1 e1 s1 r1
      have h : match (match g ds with | some l => R.ok l S1 | none => R.no) with
        | .ok items S' => ∀ c' J H', Ev P c H c' H' → Sim X.K P S' c' H' → ItOk X.K P c' H' J items → Rr J H'
        | .ex x S' => ∀ c' H', Ev P c H c' H' → Sim X.K P S' c' H' → W x c' S' H'
        | .no => False := h
      cases q : g ds with
      | none => rw [q] at h; exact h.elim
      | some l =>
        rw [q] at h
        exact ⟨ds, c1, P, S1, l, s1, r1, q, fun J ok => h c1 J H1 e1 s1 ok⟩
  · rintro Q Q' hQ ⟨c, P, ρ, S, hE, hS, h⟩
    refine ⟨c, P, ρ, S, hE, hS, ?_⟩
    generalize f P ρ S = r at h
    cases r with
    | ex x S1 => exact h
    | no => exact h
    | ok ds S1 => exact fun c1 vs H1 e1 s1 r1 => hQ _ _ (h c1 vs H1 e1 s1 r1)
theorem pmi_range1 (hg : Gl X "range") (hm : X.mg "range" = none) (ha : PMA X W [a] f) (hs : starEach [a] X.env = [(false, eval a X.env)] := by rfl) : PMI X W tg (.Call (.Name "range" p) [a] [] pos) (mI rng1Of f) := by
  refine pmi_of ha (fun t h => pi_range1 hg hm h hs) fun t σ H Rr h mono => mono _ _ (fun vs H1 h => ?_) h
  obtain ⟨ds, c, P, S, l, hS, r, q, k⟩ := h
  obtain ⟨j, rfl, hj, rfl⟩ := rng1Of_some q
  have hz := sz24
  cases r with
  | cons r rr =>
    cases rr
    cases r
    refine ⟨j, rfl, hj.1, by omega, k _ ?_⟩
    have := itok_rng (K := X.K) (P := P) (c := c) (H := H1) (i := 0) (j := j) (by omega)
    rw [Int.sub_zero] at this
    exact this
/-! enumerate: a list of trees -/
def enumOf : Nat → List T → List D
  | _, [] => []
  | n, x :: r => .t (.tup [.int n, x]) :: enumOf (n + 1) r
def enumsOf : List D → Option (List D)
  | [.t (.lst l)] => some (enumOf 0 l)
  | _ => none
theorem enumsOf_some {ds l : List D} (h : enumsOf ds = some l) : ∃ m, ds = [.t (.lst m)] ∧ l = enumOf 0 m := by
  unfold enumsOf at h
  split at h
  · cases h; exact ⟨_, rfl, rfl⟩
  · cases h
theorem enumOf_len : ∀ (n : Nat) (l : List T), (enumOf n l).length = l.length
  | _, [] => rfl
  | n, x :: r => by rw [enumOf, List.length_cons, List.length_cons, enumOf_len (n + 1) r]
theorem enumOf_at : ∀ (n : Nat) (l : List T) (i : Nat), (enumOf n l)[i]? = (l[i]?).map fun x => D.t (.tup [.int ((n + i : Nat) : Int), x])
  | _, [], i => by simp [enumOf]
  | n, x :: r, 0 => by simp [enumOf]
  | n, x :: r, i + 1 => by
    rw [enumOf, List.getElem?_cons_succ, List.getElem?_cons_succ, enumOf_at (n + 1) r i]
    rw [show n + 1 + i = n + (i + 1) by omega]
theorem pmi_enum {elts : List Expr} {kk : Nat} {tpos : Pos} (hg : Gl X "enumerate") (hm : X.mg "enumerate" = none) (ha : PMA X W [a] f) (hs : starEach [a] X.env = [(false, eval a X.env)] := by rfl) :
    PMI X W (.Tuple elts kk tpos) (.Call (.Name "enumerate" p) [a] [] pos) (mI enumsOf f) := by
  refine pmi_of ha (fun t h => pi_enum hg hm h hs) fun t σ H Rr h mono => mono _ _ (fun vs H1 h => ?_) h
  obtain ⟨ds, c1, P, S, l', hS, r, q, k⟩ := h
  obtain ⟨l, rfl, rfl⟩ := enumsOf_some q
  cases r with
  | cons r rr =>
    cases rr
    cases r with
    | lst _ a vs h1 h2 h3 h4 =>
      refine ⟨a, vs, rfl, SqL.of h2, k _ ⟨by rw [enumOf_len, h4.len]; exact h3, fun c2 H2 e2 => ⟨vs, SqL.of (e2.rd a _ h1 h2 rfl), by rw [enumOf_len, h4.len]; exact Nat.le_refl _⟩, fun i d c2 H2 S2 qi e2 s2 => ?_⟩⟩
      rw [enumOf_at] at qi
      cases z : l[i]? with
      | none => rw [z] at qi; cases qi
      | some t =>
        rw [z] at qi
        cases qi
        obtain ⟨v, g1, g2⟩ := h4.at z
        have hS2 : SqL X.K H2 a vs := SqL.of (e2.rd a _ h1 h2 rfl)
        refine ⟨⟨vs, v, hS2, g1⟩, fun x H3 y => ?_⟩
        obtain ⟨TT, x', rfl, hT, rfl, y⟩ := y
        have := y vs hS2
        rw [g1] at this
        cases this
        refine ⟨c2.zed TT, Ev.alloc s2 hT, Sim.alloc s2 hT, RV.tup _ TT _ (.inr rfl) upd_same (by show 2 ≤ sizeLine; decide) (.cons _ _ _ _ ?_ (.cons _ _ _ _ (RV.up s2 hT (RV.mono' e2 g2)) .nil))⟩
        rw [Nat.zero_add]
        exact .int _
end

/-! ### list comprehensions -/
def lcGo (g : MG) (ft : MT) (fe : ME) (P : List O) (ρ : En) : List D → List O → R (List D)
  | [], S => .ok [] S
  | d :: ds, S => match g d ρ with
    | none => .no
    | some ρ1 => (ft P ρ1 S).nx.bind fun b S1 => if b then (fe P ρ1 S1).nx.bind fun y S2 => (lcGo g ft fe P ρ ds S2).bind fun r S3 => .ok (y :: r) S3
      else lcGo g ft fe P ρ ds S1
def wipeE (ρ : En) : List Nat → En
  | [] => ρ
  | v :: vs => (wipeE ρ vs).set v none
def mLcG (fin : List D → List O → List O → R D) (fi : MI) (g : MG) (vs : List Nat) (ft : MT) (fe : ME) : ME := fun P ρ S => (fi P ρ S).bind fun ds S1 => (lcGo g ft fe P (wipeE ρ vs) ds S1).bind fun r S2 => fin r P S2
def finT : List D → List O → List O → R D := fun r _ S => match trees r with
  | some ts => .ok (.t (.lst ts)) S
  | none => .no
def finC : List D → List O → List O → R D := fun r P S => .ok (.ref (P.length + S.length)) (S ++ [.lst r])
def mYes : MT := fun _ _ S => .ok true S
structure PMTs (X : Cx) (W : WX) (ifs : List Expr) (f : MT) : Prop where
  run : PTs X ifs (tMT X.K W f)
theorem pmts_nil {X : Cx} {W : WX} : PMTs X W [] mYes := ⟨⟨fun pins s σ H Q I ⟨c, P, ρ, S, hE, hS, h⟩ => pts_nil.run pins s σ H Q I (h c true H (Ev.refl hS) hS rfl)⟩⟩
theorem pmts_one {X : Cx} {W : WX} {e : Expr} {f : MT} (h : PMT X W e f) : PMTs X W [e] f := ⟨pts_one h.run⟩
theorem SimE.wipe {K : PySem.W.Frag} {c : Cf} {H : Hp} {ρ : En} {σ : L2.St} (h : SimE K c H ρ σ) : ∀ vs : List Nat, SimE K c H (wipeE ρ vs) (L2.wipe σ vs)
  | [] => h
  | v :: vs => (SimE.wipe h vs).clr v none
theorem wipe_at (σ : L2.St) : ∀ (vs : List Nat) (j : Nat), j < σ.length → (L2.wipe σ vs)[j]? = if j ∈ vs then some none else σ[j]?
  | [], j, _ => by simp [L2.wipe]
  | v :: vs, j, hj => by
    unfold L2.wipe
    by_cases h : v = j
    · subst h
      rw [List.getElem?_set_self (by rw [wipe_length]; exact hj), if_pos (by simp)]
    · rw [List.getElem?_set_ne h, wipe_at σ vs j hj]
      have : (j ∈ v :: vs) ↔ j ∈ vs := by simp [Ne.symm h]
      by_cases hm : j ∈ vs
      · rw [if_pos hm, if_pos (this.mpr hm)]
      · rw [if_neg hm, if_neg fun z => hm (this.mp z)]
theorem wipe_ext {σ σ' : L2.St} {vs : List Nat} (hl : σ'.length = (L2.wipe σ vs).length) (h : ∀ j, j ∉ vs → σ'[j]? = (L2.wipe σ vs)[j]?) : L2.wipe σ' vs = L2.wipe σ vs := by
  have hl2 : σ'.length = σ.length := by rw [hl, wipe_length]
  refine List.ext_getElem? fun j => ?_
  by_cases hj : j < σ.length
  · rw [wipe_at _ _ _ (by omega), wipe_at _ _ _ hj]
    by_cases hm : j ∈ vs
    · rw [if_pos hm, if_pos hm]
    · rw [if_neg hm, if_neg hm, h j hm, wipe_at _ _ _ hj, if_neg hm]
  · rw [List.getElem?_eq_none (by rw [wipe_length]; omega), List.getElem?_eq_none (by rw [wipe_length]; omega)]
def Cf.yed (c : Cf) (p : Addr) : Cf := { c with Y := fun a => c.Y a ∨ a = p }
section
variable {K : PySem.W.Frag} {P S : List O} {c c0 : Cf} {H H0 : Hp} {p : Addr} {o : HO}
theorem Ev.yed (h : Sim K P S c H) (hp : H p = none) : Ev P c H (c.yed p) (upd H p o) := by
  have e := Ev.new (o := o) h hp
  refine ⟨e.z, e.rd, e.rdD, e.n, e.m, fun i u q l => ?_, fun a z => ⟨.inl z, (e.y a z).2⟩, e.fz⟩
  have e' : (P ++ S)[i]? = some u := by rw [List.getElem?_append_left (List.getElem?_eq_some_iff.mp q).1]; exact q
  exact ⟨(e.b i u q l).1, (e.b i u q l).2.1, fun z => z.elim (e.b i u q l).2.2 (h.ne hp e' l)⟩
theorem Sim.yed (h : Sim K P S c H) (hp : H p = none) (ho : ntO o = true := by rfl) : Sim K P S (c.yed p) (upd H p o) := by
  have s := Sim.new (o := o) h hp
  refine ⟨s.n, fun i u e => ?_, s.nz, s.inj, s.z, fun a z => z.elim (s.y a) fun q => ⟨o, by rw [q]; exact upd_same, ho⟩, fun a z w => z.elim (fun z => s.yz a z w) fun q => h.zne hp w q, fun i u e l z => z.elim (s.yc i u e l) (h.ne hp e l)⟩
  exact RO.mono' (c := c) (fun _ z => z) (fun _ _ _ z _ => z) (fun _ _ _ _ _ z => z) (Nat.le_refl _) (fun _ _ => rfl) rfl (s.ro i u e)
/-- what Y names is changed by its maker -/
theorem Sim.updY (h : Sim K P S c H) (hy : c.Y p) (ho : ntO o = true := by rfl) : Sim K P S c (upd H p o) := by
  have zn : ∀ {a}, c.Z a → a ≠ p := fun z q => h.yz p hy (q ▸ z)
  refine ⟨h.n, fun i u e => ?_, h.nz, h.inj, fun a z => ?_, fun a z => ?_, h.yz, h.yc⟩
  · cases hl : u.live with
    | false => cases u <;> first | trivial | cases hl
    | true => exact RO.mono' (c := c) (fun _ z => z) (fun a w z e _ => by rw [upd_ne (zn z)]; exact e) (fun a w z _ _ e => by unfold Rd; rw [upd_ne (zn z)]; exact e) (Nat.le_refl _) (fun _ _ => rfl) (upd_ne fun q => h.yc i u e hl (q ▸ hy)) (h.ro i u e)
  · obtain ⟨w, e⟩ := h.z a z
    exact ⟨w, by rw [upd_ne (zn z)]; exact e⟩
  · by_cases ha : a = p
    · exact ⟨o, by rw [ha]; exact upd_same, ho⟩
    · obtain ⟨w, e, nt⟩ := h.y a z
      exact ⟨w, by rw [upd_ne ha]; exact e, nt⟩
theorem Ev.updY (h0 : Sim K P S c0 H0) (hp : H0 p = none) (e : Ev P c0 H0 c H) : Ev P c0 H0 c (upd H p o) :=
  ⟨e.z, fun a u z q i => by rw [upd_ne (h0.zne hp z)]; exact e.rd a u z q i, fun a u z l i q => by unfold Rd; rw [upd_ne (h0.zne hp z)]; exact e.rdD a u z l i q, e.n, e.m, fun i u q l => by
    have e' : (P ++ S)[i]? = some u := by rw [List.getElem?_append_left (List.getElem?_eq_some_iff.mp q).1]; exact q
    exact ⟨(upd_ne (h0.ne hp e' l)).trans (e.b i u q l).1, (e.b i u q l).2⟩, fun a z => ⟨(e.y a z).1, (upd_ne (h0.yne hp z)).trans (e.y a z).2⟩, fun a o u z q => by rw [upd_ne (fun q2 => h0.zne hp z q2)]; exact e.fz a o u z q⟩
/-- the maker gives it away: as a tree's, or as a cell's -/
theorem give {S1 : List O} (h0 : Sim K P S c0 H0) (hp : H0 p = none) (e : Ev P c0 H0 c H) (h : Sim K P S1 c H) (hy : c.Y p) {u : HO} (hu : H p = some u) :
    Ev P c0 H0 { c with Y := c0.Y, Z := fun a => c.Z a ∨ a = p } H ∧ Sim K P S1 { c with Y := c0.Y, Z := fun a => c.Z a ∨ a = p } H := by
  have ne : ∀ {i : Nat} {w : O}, (P ++ S1)[i]? = some w → w.live = true → c.m i ≠ p := fun e l q => h.yc _ _ e l (q ▸ hy)
  refine ⟨⟨fun a z => .inl (e.z a z), e.rd, e.rdD, e.n, e.m, fun i w q l => ?_, fun a z => ⟨z, (e.y a z).2⟩, e.fz⟩, ⟨h.n, fun i w q => ?_, fun i w q l z => z.elim (h.nz i w q l) (ne q l), h.inj, fun a z => z.elim (h.z a) fun q => ⟨u, by rw [q]; exact hu⟩, fun a z => h.y a (e.y a z).1, fun a z w => w.elim (h.yz a (e.y a z).1) fun q => h0.yne hp z q, fun i w q l z => h.yc i w q l (e.y _ z).1⟩⟩
  · have e' : (P ++ S)[i]? = some w := by rw [List.getElem?_append_left (List.getElem?_eq_some_iff.mp q).1]; exact q
    exact ⟨(e.b i w q l).1, fun z => z.elim (e.b i w q l).2.1 (h0.ne hp e' l), h0.yc i w e' l⟩
  · exact RO.mono' (c := c) (c1 := { c with Y := c0.Y, Z := fun a => c.Z a ∨ a = p }) (fun _ z => .inl z) (fun _ _ _ z _ => z) (fun _ _ _ _ _ z => z) (Nat.le_refl _) (fun _ _ => rfl) rfl (h.ro i w q)
theorem giveC {S1 : List O} (h0 : Sim K P S c0 H0) (hp : H0 p = none) (e : Ev P c0 H0 c H) (h : Sim K P S1 c H) (hy : c.Y p) {r : List D} {vs : List V} (hu : H p = some (.lst vs)) (hl : vs.length ≤ sizeLine) (hr : RDs K c H r vs) :
    Ev P c0 H0 { c with Y := c0.Y, n := c.n + 1, m := fun i => if i = c.n then p else c.m i } H ∧ Sim K P (S1 ++ [.lst r]) { c with Y := c0.Y, n := c.n + 1, m := fun i => if i = c.n then p else c.m i } H := by
  have ne : ∀ {i : Nat} {w : O}, (P ++ S1)[i]? = some w → w.live = true → c.m i ≠ p := fun e l q => h.yc _ _ e l (q ▸ hy)
  have hn := h.n
  have m1 : ∀ {i}, i < c.n → (if i = c.n then p else c.m i) = c.m i := fun hi => if_neg (by omega)
  have en := e.n
  have e1 : ∀ {i w}, (P ++ (S1 ++ [.lst r]))[i]? = some w → (i < c.n ∧ (P ++ S1)[i]? = some w) ∨ (i = c.n ∧ w = .lst r) := fun {i w} q => by
    rw [← List.append_assoc] at q
    have hlen : (P ++ S1).length = c.n := by rw [List.length_append]; exact hn
    by_cases hi : i < c.n
    · rw [List.getElem?_append_left (by omega)] at q
      exact .inl ⟨hi, q⟩
    · have := (List.getElem?_eq_some_iff.mp q).1
      rw [List.length_append, List.length_singleton] at this
      have hi2 : i = c.n := by omega
      rw [hi2, List.getElem?_append_right (by omega), hlen, Nat.sub_self] at q
      exact .inr ⟨hi2, (Option.some.inj q).symm⟩
  have up : ∀ {w : O} {a : Addr}, RO K c H w a → RO K { c with Y := c0.Y, n := c.n + 1, m := fun i => if i = c.n then p else c.m i } H w a := fun {w a} q =>
    RO.mono' (c := c) (c1 := { c with Y := c0.Y, n := c.n + 1, m := fun i => if i = c.n then p else c.m i }) (fun _ z => z) (fun _ _ _ z _ => z) (fun _ _ _ _ _ z => z) (Nat.le_succ _) (fun i hi => m1 hi) rfl q
  refine ⟨⟨e.z, e.rd, e.rdD, Nat.le_succ_of_le e.n, fun i hi => (m1 (by omega)).trans (e.m i hi), fun i w q l => ?_, fun a z => ⟨z, (e.y a z).2⟩, e.fz⟩,
    ⟨by simp only [List.length_append, List.length_singleton]; omega, fun i w q => ?_, fun i w q l => ?_, fun i j w x qi qj li lj q => ?_, h.z, fun a z => h.y a (e.y a z).1, fun a z => h.yz a (e.y a z).1, fun i w q l => ?_⟩⟩
  · have e' : (P ++ S)[i]? = some w := by rw [List.getElem?_append_left (List.getElem?_eq_some_iff.mp q).1]; exact q
    exact ⟨(e.b i w q l).1, (e.b i w q l).2.1, h0.yc i w e' l⟩
  · show RO K _ H w (if i = c.n then p else c.m i)
    rcases e1 q with ⟨hi, q⟩ | ⟨hi, rfl⟩
    · rw [m1 hi]; exact up (h.ro i w q)
    · rw [if_pos hi]; exact up ⟨vs, hu, hl, hr⟩
  · show ¬ c.Z (if i = c.n then p else c.m i)
    rcases e1 q with ⟨hi, q⟩ | ⟨hi, rfl⟩
    · rw [m1 hi]; exact h.nz i w q l
    · rw [if_pos hi]; exact h.yz p hy
  · have q : (if i = c.n then p else c.m i) = (if j = c.n then p else c.m j) := q
    rcases e1 qi with ⟨hi, fi⟩ | ⟨hi, _⟩ <;> rcases e1 qj with ⟨hj, fj⟩ | ⟨hj, _⟩
    · rw [m1 hi, m1 hj] at q
      exact h.inj i j w x fi fj li lj q
    · rw [m1 hi, if_pos hj] at q
      exact absurd q (ne fi li)
    · rw [if_pos hi, m1 hj] at q
      exact absurd q.symm (ne fj lj)
    · omega
  · show ¬ c0.Y (if i = c.n then p else c.m i)
    rcases e1 q with ⟨hi, q⟩ | ⟨hi, rfl⟩
    · rw [m1 hi]; exact fun z => h.yc i w q l (e.y _ z).1
    · rw [if_pos hi]; exact fun z => h0.yne hp z rfl
end
/-- what the end of a comprehension makes of its list -/
def FinOk (K : PySem.W.Frag) (fin : List D → List O → List O → R D) : Prop := ∀ (P S S1 : List O) (c c0 : Cf) (H H0 : Hp) (p : Addr) (r : List D) (vs : List V) (W : WX) (Q : VK), Sim K P S c0 H0 → H0 p = none → Ev P c0 H0 c H → Sim K P S1 c H → c.Y p → H p = some (.lst vs) → vs.length ≤ sizeLine → RDs K c H r vs →
  Post K P c0 H0 (RD K) (fin r P S1) W Q → Q (.ref p) H
theorem fin_T {K : PySem.W.Frag} : FinOk K finT := by
  intro P S S1 c c0 H H0 p r vs W Q h0 hp e h hy hu hl hr q
  unfold finT at q
  cases z : trees r with
  | none => rw [z] at q; exact q.elim
  | some ts =>
    rw [z] at q
    obtain ⟨g1, g2⟩ := give h0 hp e h hy hu
    exact q _ _ H g1 g2 (RV.lst ts p vs (.inr rfl) hu hl (RVs.mono (fun _ z => .inl z) (fun _ _ _ z _ => z) (fun _ _ _ _ _ z => z) (hr.trees z)))
theorem fin_C {K : PySem.W.Frag} : FinOk K finC := by
  intro P S S1 c c0 H H0 p r vs W Q h0 hp e h hy hu hl hr q
  obtain ⟨g1, g2⟩ := giveC h0 hp e h hy hu hl hr
  have hn := h.n
  refine q _ _ H g1 g2 ⟨by show _ < c.n + 1; omega, ?_⟩
  show V.ref p = V.ref (if P.length + S1.length = c.n then p else _)
  rw [if_pos hn]
theorem tLc_of {K : PySem.W.Frag} {W : WX} {fin : List D → List O → List O → R D} {fi : MI} {g : MG} {own : List Nat} {vs : List Nat} {ft : MT} {fe : ME} {σ : L2.St} {H : Hp} {Q : VK} (hf : FinOk K fin) (hsub : ∀ j ∈ own, j ∈ vs) (h : tM K W (mLcG fin fi g vs ft fe) σ H Q) :
    tLc (tMI K W fi) (tMG K own g) (tMT K W0 ft) (tM K W0 fe) vs σ H Q := by
  obtain ⟨c, P, ρ, S, hE, hS, h⟩ := h
  refine ⟨c, P, ρ, S, hE, hS, ?_⟩
  unfold mLcG at h
  generalize fi P ρ S = r at h
  cases r with
  | ex x S1 => exact h
  | no => exact h
  | ok items S1 =>
    intro c0 J H0 e0 s0 ok0 Dd hD
    have hE0 := hE.mono e0
    have h := Post.ev hS.pl e0 h
    simp only [R.bind_ok] at h
    refine ⟨fun i m H => m + i = items.length ∧ ∃ c S acc va, Ev P c0 H0 c H ∧ Sim K P S c H ∧ c.Y Dd ∧ H Dd = some (.lst va) ∧ RDs K c H acc va ∧ va.length ≤ i ∧
      Post K P c0 H0 (RD K) ((lcGo g ft fe P (wipeE ρ vs) (items.drop i) S).bind fun r S2 => fin (acc ++ r) P S2) W Q,
      ⟨items.length, by omega, c0.yed Dd, S1, [], [], Ev.yed s0 hD, Sim.yed s0 hD, .inr rfl, upd_same, .nil, Nat.le_refl _, h⟩, ?_⟩
    rintro i m H ⟨him, c, S, acc, va, ev, sm, hy, hH, ra, hl, h⟩
    have hlen := ok0.len
    by_cases hi : i < items.length
    · have hd : items.drop i = items[i] :: items.drop (i + 1) := List.drop_eq_getElem_cons hi
      rw [hd] at h
      obtain ⟨g1, g2⟩ := ok0.go i items[i] c H S (List.getElem?_eq_getElem hi) ev sm
      refine .inr ⟨g1, fun H => ∃ c S acc va, Ev P c0 H0 c H ∧ Sim K P S c H ∧ c.Y Dd ∧ H Dd = some (.lst va) ∧ RDs K c H acc va ∧ va.length ≤ i + 1 ∧
        Post K P c0 H0 (RD K) ((lcGo g ft fe P (wipeE ρ vs) (items.drop (i + 1)) S).bind fun r S2 => fin (acc ++ r) P S2) W Q, fun H' n => ⟨m - 1, by omega, by omega, n⟩, fun x H2 y => ?_⟩
      obtain ⟨c2, ev2, s2, r2⟩ := g2 x H2 y
      have ev2' := ev.trans s0.pl ev2
      refine ⟨c2, P, S, wipeE ρ vs, items[i], (hE0.mono ev2').wipe vs, s2, r2, ?_⟩
      unfold lcGo at h
      cases q : g items[i] (wipeE ρ vs) with
      | none => rw [q] at h; exact h
      | some ρ1 =>
        rw [q] at h
        intro σ1 E1 l1 j1
        refine ⟨wipe_ext l1 fun j hj => j1 j fun z => hj (hsub j z), c2, P, ρ1, S, E1, s2, ?_⟩
        simp only at h
        generalize ft P ρ1 S = rt at h
        cases rt with
        | ex x S3 => exact h.elim
        | no => exact h.elim
        | ok b S3 =>
          intro c3 b' H3 e3 s3 rb
          cases (show b = b' from rb)
          simp only [R.nx_ok, R.bind_ok] at h
          have ev3 := ev2'.trans s0.pl e3
          have y3 := (ev2.y Dd hy)
          have y3' := (e3.y Dd y3.1)
          cases b with
          | false =>
            rw [if_neg Bool.false_ne_true] at h ⊢
            exact ⟨c3, S3, acc, va, ev3, s3, y3'.1, y3'.2.trans (y3.2.trans hH), (ra.mono ev2).mono e3, by omega, h⟩
          | true =>
            rw [if_pos rfl] at h ⊢
            refine ⟨c3, P, ρ1, S3, E1.mono e3, s3, ?_⟩
            generalize fe P ρ1 S3 = re at h
            cases re with
            | ex x S4 => exact h.elim
            | no => exact h.elim
            | ok yd S4 =>
              intro c4 yv H4 e4 s4 ry
              simp only [R.nx_ok, R.bind_ok] at h
              have y4 := e4.y Dd y3'.1
              have hH4 : H4 Dd = some (.lst va) := y4.2.trans (y3'.2.trans (y3.2.trans hH))
              have s5 : Sim K P S4 c4 (upd H4 Dd (.lst (va ++ [yv]))) := s4.updY y4.1
              have up : ∀ {d : D} {v : V}, RD K c4 H4 d v → RD K c4 (upd H4 Dd (.lst (va ++ [yv]))) d v := fun {d v} rr => by
                have zn : ∀ {a}, c4.Z a → a ≠ Dd := fun z q => s4.yz Dd y4.1 (q ▸ z)
                cases d with
                | ref i => exact rr
                | t x => exact RV.mono (fun _ z => z) (fun a w z e _ => by rw [upd_ne (zn z)]; exact e) (fun a w z _ _ e => by unfold Rd; rw [upd_ne (zn z)]; exact e) rr
              refine ⟨va, hH4, by omega, c4, S4, acc ++ [yd], va ++ [yv], Ev.updY s0 hD (ev3.trans s0.pl e4), s5, y4.1, upd_same, ?_, by rw [List.length_append, List.length_singleton]; omega, ?_⟩
              · have r4 : RDs K c4 H4 acc va := ((ra.mono ev2).mono e3).mono e4
                exact Paired.snoc (Paired.mapP r4 fun _ _ z => up z) (up ry)
              · generalize lcGo g ft fe P (wipeE ρ vs) (items.drop (i + 1)) S4 = rl at h ⊢
                cases rl with
                | ok r S5 => simpa using h
                | ex x S5 => exact h
                | no => exact h
    · have hi2 : i = items.length := by omega
      subst hi2
      rw [List.drop_length] at h
      refine .inl ⟨ok0.stop c H ev, ?_⟩
      have h : Post K P c0 H0 (RD K) (fin (acc ++ []) P S) W Q := h
      rw [List.append_nil] at h
      exact hf P S1 S c c0 H H0 Dd acc va W Q s0 hD ev sm hy hH (by omega) ra h
section
variable {X : Cx} {W : WX}
theorem pm_lcG {fin : List D → List O → List O → R D} {elt tg iter : Expr} {ifs : List Expr} {scope : Scope} {own : List (Str × Nat)} {ow : List Nat} {pos : Pos} {fi : MI} {g : MG} {ft : MT} {fe : ME} (hf : FinOk X.K fin) (hc : X.calm = true) (hN : X.N.Nodup) (hi : PMI X W tg iter fi) (ok : BlkOk X.N X.env.scope scope own)
    (hg : ∀ (s : Shared) (H : Hp) (C : Addr) (cl : List (Str × Addr)) (fp : List Addr), PMG (X.blk s H scope (compEnvC scope cl C X.env) fp) tg ow g)
    (ht : ∀ (s : Shared) (H : Hp) (C : Addr) (cl : List (Str × Addr)) (fp : List Addr), PMTs (X.blk s H scope (compEnvC scope cl C X.env) fp) W0 ifs ft)
    (he : ∀ (s : Shared) (H : Hp) (C : Addr) (cl : List (Str × Addr)) (fp : List Addr), PM (X.blk s H scope (compEnvC scope cl C X.env) fp) W0 elt fe)
    (hs : ∀ x, foldedSetIterable iter X.env x = pure x := by intro _; rfl) (hsub : ∀ j ∈ ow, j ∈ own.map (·.2) := by decide) :
    PM X W (.ListComp elt [⟨tg, iter, ifs, 0⟩] scope pos) (mLcG fin fi g (own.map (·.2)) ft fe) :=
  ⟨pe_weak (pe_lc (te := tM X.K W0 fe) (tt := tMT X.K W0 ft) (g := tMG X.K ow g) hc hN hi.run ok (fun s H C cl fp => (hg s H C cl fp).run) (fun s H C cl fp => (ht s H C cl fp).run) (fun s H C cl fp => (he s H C cl fp).run) hs) fun _ _ _ h => tLc_of hf hsub h⟩
theorem pms_setLcG {fin : List D → List O → List O → R D} (i : Nat) {y : Str} {py : Pos} {elt tg iter : Expr} {ifs : List Expr} {scope : Scope} {own : List (Str × Nat)} {ow : List Nat} {pos spos : Pos} {fi : MI} {g : MG} {ft : MT} {fe : ME} (hf : FinOk X.K fin) (hc : X.calm = true) (hN : X.N.Nodup) (hi : PMI X W tg iter fi) (ok : BlkOk X.N X.env.scope scope own)
    (hg : ∀ (s : Shared) (H : Hp) (C : Addr) (cl : List (Str × Addr)) (fp : List Addr), PMG (X.blk s H scope (compEnvC scope cl C X.env) fp) tg ow g)
    (ht : ∀ (s : Shared) (H : Hp) (C : Addr) (cl : List (Str × Addr)) (fp : List Addr), PMTs (X.blk s H scope (compEnvC scope cl C X.env) fp) W0 ifs ft)
    (he : ∀ (s : Shared) (H : Hp) (C : Addr) (cl : List (Str × Addr)) (fp : List Addr), PM (X.blk s H scope (compEnvC scope cl C X.env) fp) W0 elt fe)
    (hy : X.N[i]? = some y := by rfl) (hyl : X.env.scope.names.lookup y = some .local := by rfl) (hsw : swapsWith (.ListComp elt [⟨tg, iter, ifs, 0⟩] scope pos) (some (.Name y py)) spos.line X.env = pure true := by exact sw_true rfl rfl rfl (by decide +kernel))
    (hs : ∀ x, foldedSetIterable iter X.env x = pure x := by intro _; rfl) (hsub : ∀ j ∈ ow, j ∈ own.map (·.2) := by decide) :
    PMS X W (.Assign [.Name y py] (.ListComp elt [⟨tg, iter, ifs, 0⟩] scope pos) spos) (sSet i (mLcG fin fi g (own.map (·.2)) ft fe)) := by
  refine ⟨ps_weak (ps_setLc (te := tM X.K W0 fe) (tt := tMT X.K W0 ft) (g := tMG X.K ow g) hc hN hy hyl hsw hi.run ok (fun s H C cl fp => (hg s H C cl fp).run) (fun s H C cl fp => (ht s H C cl fp).run) (fun s H C cl fp => (he s H C cl fp).run) hs) fun D σ H h => ?_⟩
  obtain ⟨c, P, ρ, S, hE, hS, h⟩ := h
  show tLc _ _ _ _ _ σ H _
  refine tLc_of hf hsub ?_
  exact tM_oc hE hS h fun d v S1 c1 H1 e1 E1 s1 r1 h1 => h1 c1 _ H1 (Ev.refl s1) s1 (E1.set i r1)
end
end Fm

/-! Fm5: what operators, subscripts, slices and built-ins do to trees. -/
namespace Fm
open PySem PySem.Spec PyProof.Rows L2

/-! ### trees as data -/
mutual
def T.pd : T → PyData
  | .non => .none
  | .bl b => .bool b
  | .int i => .int i
  | .str s => .str (sv s)
  | .lst l => .list (T.pds l)
  | .tup l => .tuple (T.pds l)
  | .scr l => .list (l.map .int)
  | .dic _ => .none
  | .dit _ => .none
  | .ty _ => .none
  | .wtup l => .tuple (T.pds l)
  | .xcp _ _ => .none
def T.pds : List T → List PyData
  | [] => []
  | x :: r => x.pd :: T.pds r
end
mutual
/-- no dict, no class within -/
def T.plain : T → Bool
  | .lst l => T.plains l
  | .tup l => T.plains l
  | .wtup l => T.plains l
  | .dic _ => false
  | .dit _ => false
  | .ty _ => false
  | .xcp _ _ => false
  | _ => true
def T.plains : List T → Bool
  | [] => true
  | x :: r => x.plain && T.plains r
end
theorem pds_map {α : Type} (g : α → T) (l : List α) : T.pds (l.map g) = l.map fun x => (g x).pd := by
  induction l with
  | nil => rfl
  | cons x l ih => rw [List.map_cons, T.pds, ih]; rfl
theorem pds_eq (l : List T) : T.pds l = l.map T.pd := by
  have := pds_map id l
  simpa using this
theorem plains_iff (l : List T) : T.plains l = true ↔ ∀ x ∈ l, x.plain = true := by
  induction l with
  | nil => simp [T.plains]
  | cons x l ih => simp [T.plains, ih]
@[simp] theorem plains_map {α : Type} (g : α → T) (l : List α) : T.plains (l.map g) = l.all fun x => (g x).plain := by
  induction l with
  | nil => rfl
  | cons x l ih => rw [List.map_cons, T.plains, ih]; rfl
theorem plainAll_ints : ∀ l : List Int, PyData.plainAll (l.map PyData.int) = true
  | [] => rfl
  | x :: l => by rw [List.map_cons, PyData.plainAll, plainAll_ints l]; rfl
mutual
theorem T.pd_plain : ∀ t : T, t.plain = true → t.pd.plain = true
  | .non, _ => rfl
  | .bl _, _ => rfl
  | .int _, _ => rfl
  | .str _, _ => rfl
  | .lst l, h => T.pds_plain l h
  | .tup l, h => T.pds_plain l h
  | .wtup l, h => T.pds_plain l h
  | .scr l, _ => plainAll_ints l
theorem T.pds_plain : ∀ l : List T, T.plains l = true → PyData.plainAll (T.pds l) = true
  | [], _ => rfl
  | x :: r, h => by
    rw [T.plains, Bool.and_eq_true] at h
    rw [T.pds, PyData.plainAll, T.pd_plain x h.1, T.pds_plain r h.2]; rfl
end
section
variable {K : PySem.W.Frag} {Z : Addr → Prop} {H : Hp}
theorem dpAll_ints : ∀ l : List Int, DpAll K H (l.map V.int) (l.map PyData.int)
  | [] => .nil
  | x :: l => .cons (.int x) (dpAll_ints l)
mutual
theorem RV.dp' : ∀ (t : T) (v : V), RV K Z H t v → t.plain = true → Dp K H v t.pd
  | .non, _, h, _ => by cases h; exact .non
  | .bl b, _, h, _ => by cases h; exact .bl b
  | .int i, _, h, _ => by cases h; exact .int i
  | .str s, _, h, _ => by cases h; exact .str _
  | .lst l, _, h, p => by
    cases h with
    | lst _ a vs h1 h2 h3 h4 => exact .lst (SqL.of h2) (RVs.dp' l vs h4 p)
  | .tup l, _, h, p => by
    cases h with
    | tup _ a vs h1 h2 h3 h4 => exact .tup (SqT.of h2) (RVs.dp' l vs h4 p)
  | .wtup l, _, h, p => by
    cases h with
    | tupK _ a vs h1 h2 => exact .tup (.inr h1) (RVs.dp' l vs h2 p)
  | .scr l, _, h, _ => by
    cases h with
    | scr _ a o h0 h1 h2 => exact .lst (.inl (.inr ⟨o, h2⟩)) (dpAll_ints l)
    | scr1 _ a h0 h1 h2 => exact .lst (SqL.of h2) (dpAll_ints l)
    | scrK _ a h0 h1 => exact .lst (.inr h1) (dpAll_ints l)
theorem RVs.dp' : ∀ (ts : List T) (vs : List V), RVs K Z H ts vs → T.plains ts = true → DpAll K H vs (T.pds ts)
  | [], _, h, _ => by cases h; exact .nil
  | t :: ts, _, h, p => by
    cases h with
    | cons _ v _ vs h1 h2 =>
      rw [T.plains, Bool.and_eq_true] at p
      exact .cons (RV.dp' t v h1 p.1) (RVs.dp' ts vs h2 p.2)
end
theorem RV.dp {t : T} {v : V} (h : RV K Z H t v) (p : t.plain = true) : Dp K H v t.pd := RV.dp' t v h p
end
/-- Python's == -/
def T.eqv (t u : T) : Bool := PyData.eqv t.pd u.pd
/-- nested at most so deep -/
def T.low (t : T) : Bool := decide (t.pd.depth ≤ 40)
@[simp] theorem eqv_int (i j : Int) : T.eqv (.int i) (.int j) = decide (i = j) := by
  show (i == j) = _
  by_cases h : i = j <;> simp [h]
theorem sv_beq (a b : Tx) : (sv a == sv b) = decide (a = b) := by
  by_cases h : a = b
  · subst h; simp
  · have : sv a ≠ sv b := fun e => h (sv_inj e)
    simp [h, this]
@[simp] theorem eqv_str (i j : Tx) : T.eqv (.str i) (.str j) = decide (i = j) := sv_beq i j
@[simp] theorem eqv_bl (i j : Bool) : T.eqv (.bl i) (.bl j) = decide (i = j) := by
  show (i == j) = _
  by_cases h : i = j <;> simp [h]
@[simp] theorem eqv_non : T.eqv .non .non = true := rfl
def T.eqvs : List T → List T → Bool
  | [], [] => true
  | x :: r, y :: s => T.eqv x y && T.eqvs r s
  | _, _ => false
theorem eqvs_eq : ∀ l m : List T, T.eqvs l m = PyData.eqvAll (T.pds l) (T.pds m)
  | [], [] => rfl
  | [], _ :: _ => rfl
  | _ :: _, [] => rfl
  | x :: r, y :: s => by rw [T.eqvs, eqvs_eq r s]; rfl
@[simp] theorem eqv_lst (l m : List T) : T.eqv (.lst l) (.lst m) = T.eqvs l m := (eqvs_eq l m).symm
@[simp] theorem eqv_tup (l m : List T) : T.eqv (.tup l) (.tup m) = T.eqvs l m := (eqvs_eq l m).symm
/-- lists of things whose == is their equality -/
theorem eqvs_map {α : Type} [DecidableEq α] (g : α → T) (hg : ∀ x y, T.eqv (g x) (g y) = decide (x = y)) : ∀ l m : List α, T.eqvs (l.map g) (m.map g) = decide (l = m)
  | [], [] => by simp [T.eqvs]
  | [], _ :: _ => by simp [T.eqvs]
  | _ :: _, [] => by simp [T.eqvs]
  | x :: r, y :: s => by
    rw [List.map_cons, List.map_cons, T.eqvs, hg, eqvs_map g hg r s]
    by_cases h1 : x = y <;> by_cases h2 : r = s <;> simp [h1, h2]
@[simp] theorem eqvs_str (l m : List Tx) : T.eqvs (l.map T.str) (m.map T.str) = decide (l = m) := eqvs_map T.str eqv_str l m
@[simp] theorem eqvs_int (l m : List Int) : T.eqvs (l.map T.int) (m.map T.int) = decide (l = m) := eqvs_map T.int eqv_int l m

/-! ### operators on trees -/
def lT2 (h : T → T → Option T) : F2 := fun a b _ S => match a, b with
  | .t x, .t y => (h x y).map fun z => (.t z, S)
  | _, _ => none
def lT1 (h : T → Option T) : F1 := fun a _ S => match a with
  | .t x => (h x).map fun z => (.t z, S)
  | _ => none
def lTL (h : List T → Option T) : FL := fun ds _ S => match trees ds with
  | some ts => (h ts).map fun z => (.t z, S)
  | none => none
@[simp] theorem lT2_t (h : T → T → Option T) (x y : T) (P S : List O) : lT2 h (.t x) (.t y) P S = (h x y).map fun z => (.t z, S) := rfl
@[simp] theorem lT1_t (h : T → Option T) (x : T) (P S : List O) : lT1 h (.t x) P S = (h x).map fun z => (.t z, S) := rfl
section
variable {X : Cx}
/-- an operator of trees, from what it does to their values -/
theorem opM_of {f : Value → Value → Sem Value} {h : T → T → Option T}
    (rule : ∀ (pins : List (Addr × Obj)) (s : Shared) (σ : L2.St) (H : Hp) (x y : V) (v u : Value) (Q : VK) (Z : Addr → Prop) (a b z : T), Inv X pins σ H s → RelV x v → RelV y u → RV X.K Z H a x → RV X.K Z H b y → h a b = some z →
      (∀ w, RV X.K Z H z w → Q w H) → (∀ p o, H p = none → (RV X.K (fun c => Z c ∨ c = p) (upd H p o) z (.ref p) → Q (.ref p) (upd H p o))) →
      (∀ {p : Addr} {o : HO} {t : T} {w : V}, H p = none → RV X.K Z H t w → RV X.K (fun c => Z c ∨ c = p) (upd H p o) t w) →
      wpAny (model X.prog X.w) X.A (f v u) (EP X pins σ Q) X.xe s) : OpM X f (lT2 h) := by
  refine ⟨fun pins s σ H x y v u Q I rx ry hh => ?_⟩
  obtain ⟨c, P, S, a, b, hS, ra, rb, q⟩ := hh
  cases a with
  | ref i => exact q.elim
  | t a =>
    cases b with
    | ref i => exact q.elim
    | t b =>
      rw [lT2_t] at q
      cases e : h a b with
      | none => rw [e] at q; exact q.elim
      | some z =>
        rw [e] at q
        exact rule pins s σ H x y v u Q c.Z a b z I rx ry ra rb e (fun w r => q c w H (Ev.refl hS) hS r) (fun p o hp r => q (c.zed p) _ _ (Ev.alloc hS hp) (Sim.alloc hS hp) r) (fun hp r => RV.up hS hp r)
def addT : T → T → Option T
  | .int i, .int j => some (.int (i + j))
  | .str a, .str b => if a.length + b.length ≤ sizeLine then some (.str (a ++ b)) else none
  | .tup a, .tup b => if a.length + b.length ≤ sizeLine then some (.tup (a ++ b)) else none
  | .lst a, .lst b => if a.length + b.length ≤ sizeLine then some (.lst (a ++ b)) else none
  | _, _ => none
theorem sv_app (a b : Tx) : sv a ++ sv b = sv (a ++ b) := by
  show Str.append (sv a) (sv b) = _
  simp [Str.append, sv]
theorem RVs.app {K : PySem.W.Frag} {Z : Addr → Prop} {H : Hp} : ∀ {a b : List T} {u v : List V}, RVs K Z H a u → RVs K Z H b v → RVs K Z H (a ++ b) (u ++ v)
  | _, _, _, _, .nil, h => h
  | _, _, _, _, .cons t v ts vs h1 h2, h => .cons t v _ _ h1 (RVs.app h2 h)
theorem RVs.upp {K : PySem.W.Frag} {Z Z' : Addr → Prop} {H H' : Hp} (f : ∀ {t : T} {w : V}, RV K Z H t w → RV K Z' H' t w) : ∀ {a : List T} {u : List V}, RVs K Z H a u → RVs K Z' H' a u
  | _, _, .nil => .nil
  | _, _, .cons t v ts vs h1 h2 => .cons t v ts vs (f h1) (RVs.upp f h2)
theorem RV.tupI {K : PySem.W.Frag} {Z : Addr → Prop} {H : Hp} {ts : List T} {v : V} (h : RV K Z H (.tup ts) v) : ∃ a vs, v = .ref a ∧ SqT K H a vs ∧ vs.length ≤ sizeLine ∧ RVs K Z H ts vs := RD.tup (c := ⟨0, fun _ => 0, Z, fun _ => False⟩) h
theorem op_addM : OpM X (binaryOp .Add) (lT2 addT) := by
  refine opM_of fun pins s σ H x y v u Q Z a b z I rx ry ra rb e q q2 up => ?_
  cases a <;> cases b <;> simp only [addT, reduceCtorEq] at e
  · cases ra; cases rb; cases e
    exact op_add pins s σ H _ _ v u Q I rx ry ⟨_, _, rfl, rfl, q _ (.int _)⟩
  · rename_i a b
    split at e
    · rename_i hl
      cases ra; cases rb; cases e
      exact op_add_str pins s σ H _ _ v u Q I rx ry ⟨_, _, rfl, rfl, by rw [sv_len, sv_len]; exact hl, by rw [sv_app]; exact q _ (.str _ (by rw [List.length_append]; exact hl))⟩
    · cases e
  · rename_i a b
    split at e
    · rename_i hl
      cases e
      cases ra with
      | lst _ p vs h1 h2 h3 h4 =>
        cases rb with
        | lst _ p' vs' k1 k2 k3 k4 =>
          have hl' : vs.length + vs'.length ≤ sizeLine := by rw [← h4.len, ← k4.len]; exact hl
          exact op_cat pins s σ H _ _ v u Q I rx ry ⟨p, p', vs, vs', rfl, rfl, h2, k2, hl', fun n hn => q2 n _ hn (.lst _ n _ (.inr rfl) upd_same (by rw [List.length_append]; exact hl') (RVs.upp (fun r => up hn r) (h4.app k4)))⟩
    · cases e
  · rename_i a b
    split at e
    · rename_i hl
      cases e
      have ra' := ra
      have rb' := rb
      obtain ⟨p, vs, rfl, h2, h3, h4⟩ := ra.tupI
      obtain ⟨p', vs', rfl, k2, k3, k4⟩ := rb.tupI
      have hl' : vs.length + vs'.length ≤ sizeLine := by rw [← h4.len, ← k4.len]; exact hl
      refine op_catA pins s σ H _ _ v u Q I rx ry ⟨p, p', vs, vs', rfl, rfl, h2, k2, hl', fun z => ?_, fun _ z => ?_, fun _ _ n hn => q2 n _ hn (.tup _ n _ (.inr rfl) upd_same (by rw [List.length_append]; exact hl') (RVs.upp (fun r => up hn r) (h4.app k4)))⟩
      · subst z
        cases h4
        exact q _ rb'
      · subst z
        cases k4
        rw [List.append_nil] at q
        exact q _ ra'
    · cases e
def subT : T → T → Option T
  | .int i, .int j => some (.int (i - j))
  | _, _ => none
theorem op_subM : OpM X (binaryOp .Sub) (lT2 subT) := by
  refine opM_of fun pins s σ H x y v u Q Z a b z I rx ry ra rb e q q2 up => ?_
  cases a <;> cases b <;> simp only [subT, reduceCtorEq] at e
  cases ra; cases rb; cases e
  exact op_sub pins s σ H _ _ v u Q I rx ry ⟨_, _, rfl, rfl, q _ (.int _)⟩
def mulOk (i j : Int) : Prop := i.natAbs < 2 ^ 60 ∨ j.natAbs < 2 ^ 60 ∨ (i.natAbs < 2 ^ 4000 ∧ j.natAbs < 2 ^ 4000)
open Classical in
noncomputable def mulT : T → T → Option T
  | .int i, .int j => if mulOk i j then some (.int (i * j)) else none
  | .str a, .int k => if (0 ≤ k ∧ k < 2 ^ 62) ∧ a.length * k.toNat ≤ sizeLine then some (.str (List.replicate k.toNat a).flatten) else none
  | .lst a, .int k => if (-(2 ^ 63) ≤ k ∧ k < 2 ^ 63) ∧ a.length * k.toNat ≤ sizeLine then some (.lst (List.replicate k.toNat a).flatten) else none
  | _, _ => none
theorem RVs.rep {K : PySem.W.Frag} {Z : Addr → Prop} {H : Hp} {a : List T} {u : List V} (h : RVs K Z H a u) : ∀ n : Nat, RVs K Z H (List.replicate n a).flatten (List.replicate n u).flatten
  | 0 => .nil
  | n + 1 => by
    rw [List.replicate_succ, List.replicate_succ, List.flatten_cons, List.flatten_cons]
    exact h.app (RVs.rep h n)
theorem flat_len {α : Type} (a : List α) (n : Nat) : (List.replicate n a).flatten.length = a.length * n := by
  induction n with
  | zero => rfl
  | succ n ih => rw [List.replicate_succ, List.flatten_cons, List.length_append, ih, Nat.mul_succ]; omega
theorem rep_cps (a : Tx) (n : Nat) : ∀ acc : Array Nat, (List.replicate n (sv a).cps).foldl (· ++ ·) acc = acc ++ (List.replicate n a).flatten.toArray := by
  induction n with
  | zero => intro acc; simp
  | succ n ih =>
    intro acc
    rw [List.replicate_succ, List.foldl_cons, ih, List.replicate_succ, List.flatten_cons]
    simp [sv]
theorem op_mulM : OpM X (binaryOp .Mult) (lT2 mulT) := by
  refine opM_of fun pins s σ H x y v u Q Z a b z I rx ry ra rb e q q2 up => ?_
  cases a <;> cases b <;> simp only [mulT, reduceCtorEq] at e
  · rename_i i j
    split at e
    · rename_i hk
      cases ra; cases rb; cases e
      by_cases h64 : CMul i j
      · exact op_mul pins s σ H _ _ v u Q I rx ry ⟨_, _, rfl, rfl, h64, q _ (.int _)⟩
      · have hw : i.natAbs < 2 ^ 4000 ∧ j.natAbs < 2 ^ 4000 := by
          rcases hk with hk | hk | hk
          · exact absurd (Or.inl ⟨by omega, by omega⟩) h64
          · exact absurd (Or.inr ⟨by omega, by omega⟩) h64
          · exact hk
        exact op_mulW pins s σ H _ _ v u Q I rx ry ⟨_, _, rfl, rfl, wide_mul hw.1 hw.2 (by decide) (by decide) (by decide), q _ (.int _)⟩
    · cases e
  · rename_i a k
    split at e
    · rename_i hk
      cases ra with
      | str _ hla =>
      cases rb; cases e
      obtain ⟨t, rfl⟩ := rx
      obtain ⟨t', rfl⟩ := ry
      have hn : ((k.toNat : Nat) : Int) = k := by omega
      have hsz := hk.2
      refine PySem.P.mul_str ?_ ?_ ?_ ?_
      · rw [decide_eq_false (by omega), decide_eq_false (by omega)]; rfl
      · intro h1 h2 h3
        rw [sv_len] at h3
        have hk0 : 0 < k := by omega
        have : (a.length : Int) * k ≤ 2 ^ 63 - 1 := by
          have : ((a.length * k.toNat : Nat) : Int) ≤ ((sizeLine : Nat) : Int) := by exact_mod_cast hsz
          rw [Int.natCast_mul, hn, sz24] at this
          omega
        have h4 := (Int.le_ediv_iff_mul_le hk0).mpr this
        omega
      · intro _ _
        rw [sv_len]
        unfold Builtin.Str.tooLong
        exact decide_eq_false (by omega)
      · have hrep : (⟨(List.replicate k.toNat (sv a).cps).foldl (· ++ ·) #[]⟩ : Str) = sv (List.replicate k.toNat a).flatten := by rw [rep_cps]; simp [sv]
        have hfl : (List.replicate k.toNat a).flatten.length ≤ sizeLine := by rw [flat_len]; exact hsz
        have hq := q _ (RV.str (List.replicate k.toNat a).flatten hfl)
        by_cases h1 : k < 1
        · rw [if_pos h1]
          have hz : k.toNat = 0 := by omega
          rw [hz] at hq
          exact ⟨by decide, ⟨.str (sv []), H, I.tok _, ⟨_, rfl⟩, hq⟩⟩
        · rw [if_neg h1]
          by_cases h2 : (k == 1 || (sv a).length == 0) = true
          · rw [if_pos h2]
            have he : (List.replicate k.toNat a).flatten = a := by
              rw [Bool.or_eq_true, beq_iff_eq, beq_iff_eq, sv_len] at h2
              rcases h2 with h2 | h2
              · rw [h2]; simp
              · have : a = [] := List.eq_nil_of_length_eq_zero h2
                rw [this]; simp
            rw [he] at hq
            exact ⟨.str (sv a), H, I, ⟨_, rfl⟩, hq⟩
          · rw [if_neg h2, hrep]
            exact ⟨by rw [sv_len]; exact hfl, ⟨.str _, H, I.tok _, ⟨_, rfl⟩, hq⟩⟩
    · cases e
  · rename_i a k
    split at e
    · rename_i hk
      cases e
      cases rb
      cases ra with
      | lst _ p vs h1 h2 h3 h4 =>
        have hl' : vs.length * k.toNat ≤ sizeLine := by rw [← h4.len]; exact hk.2
        exact op_rep pins s σ H _ _ v u Q I rx ry ⟨p, k, vs, rfl, rfl, h2, hk.1.1, hk.1.2, hl', fun n hn => q2 n _ hn (.lst _ n _ (.inr rfl) upd_same (by rw [flat_len]; exact hl') (RVs.upp (fun r => up hn r) (h4.rep _)))⟩
    · cases e
open Classical in
noncomputable def fdivT : T → T → Option T
  | .int i, .int j => if 0 < j ∧ j.natAbs < 2 ^ 4000 then some (.int (i / j)) else none
  | _, _ => none
theorem op_fdivM : OpM X (binaryOp .FloorDiv) (lT2 fdivT) := by
  refine opM_of fun pins s σ H x y v u Q Z a b z I rx ry ra rb e q q2 up => ?_
  cases a <;> cases b <;> simp only [fdivT, reduceCtorEq] at e
  split at e
  · rename_i hk
    cases ra; cases rb; cases e
    exact op_fdivW pins s σ H _ _ v u Q I rx ry ⟨_, _, rfl, rfl, wide_div hk.1 hk.2 (by decide) (by decide), q _ (.int _)⟩
  · cases e
def modT : T → T → Option T
  | .int i, .int j => if 0 < j then some (.int (i % j)) else none
  | _, _ => none
theorem op_modM : OpM X (binaryOp .Mod) (lT2 modT) := by
  refine opM_of fun pins s σ H x y v u Q Z a b z I rx ry ra rb e q q2 up => ?_
  cases a <;> cases b <;> simp only [modT, reduceCtorEq] at e
  split at e
  · rename_i hk
    cases ra; cases rb; cases e
    exact op_mod pins s σ H _ _ v u Q I rx ry ⟨_, _, rfl, rfl, hk, q _ (.int _)⟩
  · cases e
def powT : T → T → Option T
  | .int i, .int j => if 0 ≤ j ∧ j ≤ 1000000 ∧ i.natAbs < 2 ^ 60 then some (.int (i ^ j.toNat)) else none
  | _, _ => none
theorem op_powM : OpM X (binaryOp .Pow) (lT2 powT) := by
  refine opM_of fun pins s σ H x y v u Q Z a b z I rx ry ra rb e q q2 up => ?_
  cases a <;> cases b <;> simp only [powT, reduceCtorEq] at e
  split at e
  · rename_i hk
    cases ra; cases rb; cases e
    exact op_pow pins s σ H _ _ v u Q I rx ry ⟨_, _, rfl, rfl, ⟨hk.1, hk.2.1, by omega⟩, q _ (.int _)⟩
  · cases e
def negT : T → Option T
  | .int i => some (.int (-i))
  | _ => none
theorem un_negM : UnM X (unaryOp .USub) (lT1 negT) := by
  refine ⟨fun pins s σ H x v Q I rx hh => ?_⟩
  obtain ⟨c, P, S, a, hS, ra, q⟩ := hh
  cases a with
  | ref i => exact q.elim
  | t a =>
    rw [lT1_t] at q
    cases a <;> try exact q.elim
    cases ra
    exact un_neg pins s σ H _ v Q I rx ⟨_, rfl, q c _ H (Ev.refl hS) hS (RV.int _)⟩

/-! comparisons -/
def eqT (t u : T) : Option T := if t.plain && u.plain && t.low then some (.bl (T.eqv t u)) else none
def neT (t u : T) : Option T := if t.plain && u.plain && t.low then some (.bl (!T.eqv t u)) else none
theorem eq_dp (hu : X.A.units + 64 < cLine) {pins : List (Addr × Obj)} {s : Shared} {σ : L2.St} {H : Hp} {Z : Addr → Prop} {t w : T} {x y : V} {v u : Value} (I : Inv X pins σ H s) (rx : RelV x v) (ry : RelV y u) (ra : RV X.K Z H t x) (rb : RV X.K Z H w y)
    (h : (t.plain && w.plain && t.low) = true) : t.pd.plain = true ∧ w.pd.plain = true ∧ X.A.units + min t.pd.depth w.pd.depth < cLine ∧ (∃ as, Reads s.heap v t.pd as) ∧ ∃ bs, Reads s.heap u w.pd bs := by
  rw [Bool.and_eq_true, Bool.and_eq_true] at h
  have hd : t.pd.depth ≤ 40 := of_decide_eq_true h.2
  exact ⟨T.pd_plain _ h.1.1, T.pd_plain _ h.1.2, by omega, Dp.reads I _ _ _ (ra.dp h.1.1) rx, Dp.reads I _ _ _ (rb.dp h.1.2) ry⟩
theorem op_eqM (hu : X.A.units + 64 < cLine) : OpM X (compareOp .Eq) (lT2 eqT) := by
  refine opM_of fun pins s σ H x y v u Q Z a b z I rx ry ra rb e q q2 up => ?_
  unfold eqT at e
  split at e
  · rename_i h
    cases e
    obtain ⟨h1, h2, h3, ⟨as, r1⟩, ⟨bs, r2⟩⟩ := eq_dp hu I rx ry ra rb h
    exact PySem.SeqAt.eq_plain r1 r2 h1 h2 h3 ⟨.bl _, H, I, rfl, q _ (.bl _)⟩
  · cases e
theorem op_neM (hu : X.A.units + 64 < cLine) : OpM X (compareOp .NotEq) (lT2 neT) := by
  refine opM_of fun pins s σ H x y v u Q Z a b z I rx ry ra rb e q q2 up => ?_
  unfold neT at e
  split at e
  · rename_i h
    cases e
    obtain ⟨h1, h2, h3, ⟨as, r1⟩, ⟨bs, r2⟩⟩ := eq_dp hu I rx ry ra rb h
    exact PySem.SeqAt.ne_plain r1 r2 h1 h2 h3 ⟨.bl _, H, I, rfl, q _ (.bl _)⟩
  · cases e
/-- the order of data that are alike -/
def T.lt (t u : T) : Bool := PySem.W.dataLt t.pd u.pd
def alk (t u : T) : Bool := t.plain && u.plain && t.low && PySem.W.alike t.pd u.pd && !(match t with | .non => true | _ => false)
def ltT (t u : T) : Option T := if alk t u then some (.bl (T.lt t u)) else none
def leT (t u : T) : Option T := if alk t u then some (.bl (!T.lt u t)) else none
def gtT (t u : T) : Option T := if alk t u then some (.bl (T.lt u t)) else none
def geT (t u : T) : Option T := if alk t u then some (.bl (!T.lt t u)) else none
end
end Fm

/-! Fm6: comparisons, membership, subscripts, slices, built-in functions and methods. -/
namespace Fm
open PySem PySem.Spec PyProof.Rows L2

section
variable {X : Cx}
/-! ### order -/
theorem alk_dp (hu : X.A.units + 64 < cLine) {pins : List (Addr × Obj)} {s : Shared} {σ : L2.St} {H : Hp} {Z : Addr → Prop} {t w : T} {x y : V} {v u : Value} (I : Inv X pins σ H s) (rx : RelV x v) (ry : RelV y u) (ra : RV X.K Z H t x) (rb : RV X.K Z H w y)
    (h : alk t w = true) : PySem.W.alike t.pd w.pd = true ∧ t.pd ≠ .none ∧ X.A.units + min t.pd.depth w.pd.depth < cLine ∧ (∃ as, Reads s.heap v t.pd as) ∧ ∃ bs, Reads s.heap u w.pd bs := by
  unfold alk at h
  rw [Bool.and_eq_true, Bool.and_eq_true] at h
  obtain ⟨h1, h2, h3, r1, r2⟩ := eq_dp hu I rx ry ra rb h.1.1
  refine ⟨h.1.2, ?_, h3, r1, r2⟩
  intro e
  cases t <;> simp [T.pd, T.plain] at e h
theorem op_ltM (hu : X.A.units + 64 < cLine) : OpM X (compareOp .Lt) (lT2 ltT) := by
  refine opM_of fun pins s σ H x y v u Q Z a b z I rx ry ra rb e q q2 up => ?_
  unfold ltT at e
  split at e
  · rename_i h
    cases e
    obtain ⟨h1, h2, h3, ⟨as, r1⟩, ⟨bs, r2⟩⟩ := alk_dp hu I rx ry ra rb h
    exact PySem.W.lt_data r1 r2 h1 h2 h3 ⟨.bl _, H, I, rfl, q _ (.bl _)⟩
  · cases e
theorem op_leM (hu : X.A.units + 64 < cLine) : OpM X (compareOp .LtE) (lT2 leT) := by
  refine opM_of fun pins s σ H x y v u Q Z a b z I rx ry ra rb e q q2 up => ?_
  unfold leT at e
  split at e
  · rename_i h
    cases e
    obtain ⟨h1, h2, h3, ⟨as, r1⟩, ⟨bs, r2⟩⟩ := alk_dp hu I rx ry ra rb h
    exact PySem.W.le_data r1 r2 h1 h2 h3 ⟨.bl _, H, I, rfl, q _ (.bl _)⟩
  · cases e
theorem op_gtM (hu : X.A.units + 64 < cLine) : OpM X (compareOp .Gt) (lT2 gtT) := by
  refine opM_of fun pins s σ H x y v u Q Z a b z I rx ry ra rb e q q2 up => ?_
  unfold gtT at e
  split at e
  · rename_i h
    cases e
    obtain ⟨h1, h2, h3, ⟨as, r1⟩, ⟨bs, r2⟩⟩ := alk_dp hu I rx ry ra rb h
    exact PySem.W.gt_data r1 r2 h1 h2 h3 ⟨.bl _, H, I, rfl, q _ (.bl _)⟩
  · cases e
end
@[simp] theorem lt_int' (i j : Int) : T.lt (.int i) (.int j) = decide (i < j) := by
  have h := PySem.W.dataLe_int (β := Int) id
  have h2 := congrFun (congrFun h j) i
  rw [PySem.W.dataLe_eq] at h2
  have h3 : (!PySem.W.dataLt (.int i) (.int j)) = decide (j ≤ i) := h2
  show PySem.W.dataLt (.int i) (.int j) = _
  rw [← Bool.not_not (PySem.W.dataLt _ _), h3]
  by_cases h4 : i < j
  · rw [decide_eq_true h4, decide_eq_false (by omega)]; rfl
  · rw [decide_eq_false h4, decide_eq_true (by omega)]; rfl
@[simp] theorem lt_str' (a b : Tx) : T.lt (.str a) (.str b) = decide (a < b) := by
  have h := PySem.W.dataLe_str (β := Str) id
  have h2 := congrFun (congrFun h (sv b)) (sv a)
  rw [PySem.W.dataLe_eq] at h2
  have h3 : (!PySem.W.dataLt (.str (sv a)) (.str (sv b))) = decide ((sv b).cps.toList ≤ (sv a).cps.toList) := h2
  rw [sv_list, sv_list] at h3
  show PySem.W.dataLt (.str (sv a)) (.str (sv b)) = _
  rw [← Bool.not_not (PySem.W.dataLt _ _), h3]
  by_cases h4 : a < b
  · rw [decide_eq_true h4, decide_eq_false (by simpa using h4)]; rfl
  · rw [decide_eq_false h4, decide_eq_true (by simpa using h4)]; rfl
@[simp] theorem ltT_int (i j : Int) : ltT (.int i) (.int j) = some (.bl (decide (i < j))) := by
  unfold ltT; rw [if_pos (show alk (.int i) (.int j) = true by rfl), lt_int']
@[simp] theorem leT_int (i j : Int) : leT (.int i) (.int j) = some (.bl (decide (i ≤ j))) := by
  unfold leT; rw [if_pos (show alk (.int i) (.int j) = true by rfl), lt_int']
  by_cases h4 : i ≤ j
  · rw [decide_eq_true h4, decide_eq_false (by omega)]; rfl
  · rw [decide_eq_false h4, decide_eq_true (by omega)]; rfl
@[simp] theorem gtT_int (i j : Int) : gtT (.int i) (.int j) = some (.bl (decide (j < i))) := by
  unfold gtT; rw [if_pos (show alk (.int i) (.int j) = true by rfl), lt_int']
@[simp] theorem geT_int (i j : Int) : geT (.int i) (.int j) = some (.bl (decide (j ≤ i))) := by
  unfold geT; rw [if_pos (show alk (.int i) (.int j) = true by rfl), lt_int']
  by_cases h4 : j ≤ i
  · rw [decide_eq_true h4, decide_eq_false (by omega)]; rfl
  · rw [decide_eq_false h4, decide_eq_true (by omega)]; rfl
@[simp] theorem ltT_str (i j : Tx) : ltT (.str i) (.str j) = some (.bl (decide (i < j))) := by
  unfold ltT; rw [if_pos (show alk (.str i) (.str j) = true by rfl), lt_str']
@[simp] theorem eqT_int (i j : Int) : eqT (.int i) (.int j) = some (.bl (decide (i = j))) := by
  unfold eqT; rw [if_pos (show (T.plain (.int i) && T.plain (.int j) && T.low (.int i)) = true by rfl), eqv_int]
@[simp] theorem eqT_str (i j : Tx) : eqT (.str i) (.str j) = some (.bl (decide (i = j))) := by
  unfold eqT; rw [if_pos (show (T.plain (.str i) && T.plain (.str j) && T.low (.str i)) = true by rfl), eqv_str]
@[simp] theorem eqT_bl (i j : Bool) : eqT (.bl i) (.bl j) = some (.bl (decide (i = j))) := by
  unfold eqT; rw [if_pos (show (T.plain (.bl i) && T.plain (.bl j) && T.low (.bl i)) = true by rfl), eqv_bl]
@[simp] theorem neT_int (i j : Int) : neT (.int i) (.int j) = some (.bl (!decide (i = j))) := by
  unfold neT; rw [if_pos (show (T.plain (.int i) && T.plain (.int j) && T.low (.int i)) = true by rfl), eqv_int]
@[simp] theorem neT_str (i j : Tx) : neT (.str i) (.str j) = some (.bl (!decide (i = j))) := by
  unfold neT; rw [if_pos (show (T.plain (.str i) && T.plain (.str j) && T.low (.str i)) = true by rfl), eqv_str]
@[simp] theorem neT_bl (i j : Bool) : neT (.bl i) (.bl j) = some (.bl (!decide (i = j))) := by
  unfold neT; rw [if_pos (show (T.plain (.bl i) && T.plain (.bl j) && T.low (.bl i)) = true by rfl), eqv_bl]

/-! ### in -/
/-- b stands in a from place i on -/
def isSub (b a : Tx) : Bool := (List.range (a.length + 1)).any fun i => decide ((a.drop i).take b.length = b)
theorem subAt_tx (a b : Tx) (i : Nat) (h : i + b.length ≤ a.length) : Builtin.Str.subAt (sv a) (sv b) i = decide ((a.drop i).take b.length = b) := by
  unfold Builtin.Str.subAt
  have e : (sv a).cps.extract i (i + (sv b).length) = ((a.drop i).take b.length).toArray := by
    rw [sv_len]
    simp [sv]
  rw [e]
  by_cases hh : (a.drop i).take b.length = b
  · rw [decide_eq_true hh, hh]; simp [sv]
  · rw [decide_eq_false hh]
    simpa [sv] using hh
theorem occ_tx (a b : Tx) : (!(Builtin.Str.occurrences (sv a) (sv b) 0 (sv a).length 1).isEmpty) = isSub b a := by
  rw [Bool.eq_iff_iff, PySem.StrLaws.found_iff]
  unfold isSub
  rw [List.any_eq_true]
  constructor
  · rintro ⟨i, h1, h2⟩
    rw [sv_len, sv_len] at h1
    exact ⟨i, by rw [List.mem_range]; omega, by rw [← subAt_tx a b i h1]; exact h2⟩
  · rintro ⟨i, h1, h2⟩
    have h3 := of_decide_eq_true h2
    have h4 : i + b.length ≤ a.length := by
      have := congrArg List.length h3
      rw [List.length_take, List.length_drop] at this
      rw [List.mem_range] at h1
      omega
    exact ⟨i, by rw [sv_len, sv_len]; exact h4, by rw [subAt_tx a b i h4]; exact h2⟩
theorem isSub_one (c : Nat) (a : Tx) : isSub [c] a = decide (c ∈ a) := by
  rw [← occ_tx]
  have := PySem.StrLaws.found_one (sv a) c
  rw [sv_list] at this
  exact this
/-- a tree as a key -/
def T.at : T → Option At
  | .int i => some (.int i)
  | .str s => some (.str s)
  | _ => none
def ats : List T → Option (List At)
  | [] => some []
  | x :: r => match x.at, ats r with
    | some a, some l => some (a :: l)
    | _, _ => none
def dicGet {κ : Type} [DecidableEq κ] (l : List (κ × T)) (k : κ) : Option T := (l.find? fun p => decide (p.1 = k)).map (·.2)
def celGet {κ : Type} [DecidableEq κ] (l : List (κ × D)) (k : κ) : Option D := (l.find? fun p => decide (p.1 = k)).map (·.2)
theorem key_dec (a b : At) : decide (a.key = b.key) = decide (a = b) := by
  by_cases h : a = b
  · subst h; simp
  · have : a.key ≠ b.key := fun e => h (At.key_inj e)
    simp [h, this]
theorem keys_dec (a b : List At) : decide (a.map At.key = b.map At.key) = decide (a = b) := by
  by_cases h : a = b
  · subst h; simp
  · have : a.map At.key ≠ b.map At.key := fun e => h ((List.map_inj_right fun _ _ => At.key_inj).mp e)
    simp [h, this]
section
variable {K : PySem.W.Frag} {Z : Addr → Prop} {H : Hp} {c : Cf}
theorem RKs.get : ∀ {l : List (At × T)} {kvs : List (Key × V)} (k : At), RKs K Z H l kvs → match dicGet l k with
    | some t => ∃ v, valV kvs k.key = some v ∧ RV K Z H t v
    | none => valV kvs k.key = none
  | _, _, k, .nil => rfl
  | _, _, k, .cons k' t v ts vs h0 h1 h2 => by
    have ih := RKs.get k h2
    unfold dicGet valV at ih ⊢
    rw [List.find?_cons, List.find?_cons, key_dec]
    by_cases e : k' = k
    · rw [decide_eq_true e]
      exact ⟨v, rfl, h1⟩
    · rw [decide_eq_false e]
      exact ih
theorem RJs.get : ∀ {l : List (List At × T)} {kvs : List (List Key × V)} (k : List At), RJs K Z H l kvs → match dicGet l k with
    | some t => ∃ v, valV kvs (k.map At.key) = some v ∧ RV K Z H t v
    | none => valV kvs (k.map At.key) = none
  | _, _, k, .nil => rfl
  | _, _, k, .cons k' t v ts vs h0 h1 h2 => by
    have ih := RJs.get k h2
    unfold dicGet valV at ih ⊢
    rw [List.find?_cons, List.find?_cons, keys_dec]
    by_cases e : k' = k
    · rw [decide_eq_true e]
      exact ⟨v, rfl, h1⟩
    · rw [decide_eq_false e]
      exact ih
theorem cel_get : ∀ {l : List (At × D)} {kvs : List (Key × V)} (k : At), Paired (fun (p : At × D) (q : Key × V) => (p.1.Fit ∧ q.1 = p.1.key) ∧ RD K c H p.2 q.2) l kvs → match celGet l k with
    | some t => ∃ v, valV kvs k.key = some v ∧ RD K c H t v
    | none => valV kvs k.key = none
  | _, _, k, .nil => rfl
  | (k', t) :: ts, (k2, v) :: vs, k, .cons h1 h2 => by
    have ih := cel_get k h2
    have e2 : k2 = k'.key := h1.1.2
    subst e2
    unfold celGet valV at ih ⊢
    rw [List.find?_cons, List.find?_cons, key_dec]
    by_cases e : k' = k
    · rw [decide_eq_true e]
      exact ⟨v, rfl, h1.2⟩
    · rw [decide_eq_false e]
      exact ih
theorem cet_get : ∀ {l : List (List At × D)} {kvs : List (List Key × V)} (k : List At), Paired (fun (p : List At × D) (q : List Key × V) => ((∀ x ∈ p.1, x.Fit) ∧ q.1 = p.1.map At.key) ∧ RD K c H p.2 q.2) l kvs → match celGet l k with
    | some t => ∃ v, valV kvs (k.map At.key) = some v ∧ RD K c H t v
    | none => valV kvs (k.map At.key) = none
  | _, _, k, .nil => rfl
  | (k', t) :: ts, (k2, v) :: vs, k, .cons h1 h2 => by
    have ih := cet_get k h2
    have e2 : k2 = k'.map At.key := h1.1.2
    subst e2
    unfold celGet valV at ih ⊢
    rw [List.find?_cons, List.find?_cons, keys_dec]
    by_cases e : k' = k
    · rw [decide_eq_true e]
      exact ⟨v, rfl, h1.2⟩
    · rw [decide_eq_false e]
      exact ih
/-- a key's value -/
theorem RV.atom {t : T} {v : V} {k : At} (r : RV K Z H t v) (h : t.at = some k) : v = kV k.key ∧ k.Fit := by
  cases t <;> simp [T.at] at h
  · subst h; cases r; exact ⟨rfl, trivial⟩
  · subst h; cases r with
    | str _ hl => exact ⟨rfl, hl⟩
theorem RVs.atoms : ∀ {ts : List T} {vs : List V} {ks : List At}, RVs K Z H ts vs → ats ts = some ks → vs = (ks.map At.key).map kV ∧ ∀ x ∈ ks, x.Fit
  | _, _, _, .nil, h => by cases h; exact ⟨rfl, fun _ z => nomatch z⟩
  | _, _, _, .cons t v ts vs h1 h2, h => by
    unfold ats at h
    cases q : t.at with
    | none => rw [q] at h; cases h
    | some a =>
      cases q2 : ats ts with
      | none => rw [q, q2] at h; cases h
      | some l =>
        rw [q, q2] at h
        cases h
        obtain ⟨e1, e2⟩ := h1.atom q
        obtain ⟨e3, e4⟩ := RVs.atoms h2 q2
        refine ⟨by rw [e1, e3]; rfl, fun x hx => ?_⟩
        rcases List.mem_cons.mp hx with z | z
        · rw [z]; exact e2
        · exact e4 x z
end
/-- what a dict (a tree or a cell) has for a key; none: no dict, or no key for it -/
def T.tat : T → Option (List At)
  | .tup l => ats l
  | _ => none
theorem T.tat_some {t : T} {ks : List At} (h : t.tat = some ks) : ∃ l, t = .tup l ∧ ats l = some ks := by
  cases t <;> simp [T.tat] at h
  exact ⟨_, rfl, h⟩
def dGet (P S : List O) (d : D) (k : T) : Option (Option D) := match d with
  | .t (.dic l) => k.at.map fun k => (dicGet l k).map .t
  | .t (.dit l) => k.tat.map fun k => (dicGet l k).map .t
  | .ref i => match (P ++ S)[i]? with
    | some (.dic l) => k.at.map fun k => celGet l k
    | some (.dit l) => k.tat.map fun k => celGet l k
    | _ => none
  | _ => none
def GetRel (K : PySem.W.Frag) (c : Cf) (H : Hp) (r : Option D) (o : Option V) : Prop := match r with
  | some e => ∃ v, o = some v ∧ RD K c H e v
  | none => o = none
theorem dGet_ok {K : PySem.W.Frag} {P S : List O} {c : Cf} {H : Hp} {d : D} {k : T} {x y : V} {r : Option D} (hS : Sim K P S c H) (rd : RD K c H d x) (rk : RV K c.Z H k y) (h : dGet P S d k = some r) :
    ∃ a o, x = .ref a ∧ DGet H a y o ∧ GetRel K c H r o := by
  have tupk : ∀ {ks : List At}, k.tat = some ks → ∃ b, y = .ref b ∧ H b = some (.tup ((ks.map At.key).map kV)) := fun {ks} q => by
    obtain ⟨l', rfl, q2⟩ := T.tat_some q
    cases rk with
    | tup _ b vs h1 h2 h3 h4 =>
      obtain ⟨rfl, _⟩ := h4.atoms q2
      exact ⟨b, rfl, h2⟩
  cases d with
  | t d =>
    cases d <;> first | exact nomatch (show (none : Option (Option D)) = some r from h) | skip
    · rename_i l
      simp only [dGet] at h
      cases q : k.at with
      | none => rw [q] at h; cases h
      | some k' =>
        rw [q] at h
        cases h
        obtain ⟨rfl, _⟩ := rk.atom q
        cases rd with
        | dic _ a kvs h1 h2 h3 =>
          have g := h3.get k'
          refine ⟨a, valV kvs k'.key, rfl, .inl ⟨kvs, _, h2, rfl, rfl⟩, ?_⟩
          show GetRel K c H ((dicGet l k').map D.t) _
          cases e : dicGet l k' with
          | none => rw [e] at g; exact g
          | some t => rw [e] at g; exact g
    · rename_i l
      simp only [dGet] at h
      cases q : k.tat with
      | none => rw [q] at h; cases h
      | some k' =>
        rw [q] at h
        cases h
        obtain ⟨b, rfl, hb⟩ := tupk q
        cases rd with
        | dit _ a kvs h1 h2 h3 =>
          have g := h3.get k'
          refine ⟨a, valV kvs (k'.map At.key), rfl, .inr ⟨kvs, _, b, h2, rfl, hb, rfl⟩, ?_⟩
          show GetRel K c H ((dicGet l k').map D.t) _
          cases e : dicGet l k' with
          | none => rw [e] at g; exact g
          | some t => rw [e] at g; exact g
  | ref i =>
    simp only [dGet] at h
    obtain ⟨hi, rfl⟩ := rd
    cases z : (P ++ S)[i]? with
    | none => rw [z] at h; cases h
    | some o =>
      rw [z] at h
      have hro := hS.ro i o z
      cases o <;> first | exact nomatch (show (none : Option (Option D)) = some r from h) | skip
      · rename_i l
        simp only at h
        obtain ⟨kvs, hH, hp⟩ := hro
        cases q : k.at with
        | none => rw [q] at h; cases h
        | some k' =>
          rw [q] at h
          cases h
          obtain ⟨rfl, _⟩ := rk.atom q
          have g := cel_get k' hp
          refine ⟨_, valV kvs k'.key, rfl, .inl ⟨kvs, _, .inl hH, rfl, rfl⟩, ?_⟩
          show GetRel K c H (celGet l k') _
          cases e : celGet l k' with
          | none => rw [e] at g; exact g
          | some t => rw [e] at g; exact g
      · rename_i l
        simp only at h
        obtain ⟨kvs, hH, hp⟩ := hro
        cases q : k.tat with
        | none => rw [q] at h; cases h
        | some k' =>
          rw [q] at h
          cases h
          obtain ⟨b, rfl, hb⟩ := tupk q
          have g := cet_get k' hp
          refine ⟨_, valV kvs (k'.map At.key), rfl, .inr ⟨kvs, _, b, .inl hH, rfl, hb, rfl⟩, ?_⟩
          show GetRel K c H (celGet l k') _
          cases e : celGet l k' with
          | none => rw [e] at g; exact g
          | some t => rw [e] at g; exact g
/-- x in y -/
def inAny (x : T) (l : List T) : Bool := l.any fun y => T.eqv y x
def inG (neg : Bool) : F2 := fun a b P S => match a with
  | .ref _ => none
  | .t x => match b with
    | .t (.str s) => match x with
      | .str u => some (.t (.bl (neg ^^ isSub u s)), S)
      | _ => none
    | .t (.lst l) => if x.plain && T.plains l && x.low then some (.t (.bl (neg ^^ inAny x l)), S) else none
    | .t (.tup l) => if x.plain && T.plains l && x.low then some (.t (.bl (neg ^^ inAny x l)), S) else none
    | .t (.wtup l) => if x.plain && T.plains l && x.low then some (.t (.bl (neg ^^ inAny x l)), S) else none
    | b => (dGet P S b x).map fun r => (.t (.bl (neg ^^ r.isSome)), S)
theorem any_pds (l : List T) (x : T) : ((T.pds l).any fun y => PyData.eqv y x.pd) = inAny x l := by
  rw [pds_eq, List.any_map]; rfl
section
variable {X : Cx} {W : WX} {a b : Expr} {fa fb : ME} {pos : Pos}
theorem reads_list {pins : List (Addr × Obj)} {s : Shared} {σ : L2.St} {H : Hp} {Z : Addr → Prop} {l : List T} {x : V} {u : Value} (I : Inv X pins σ H s) (rx : RelV x u) (r : RV X.K Z H (.lst l) x) (p : T.plains l = true) : ∃ as, Reads s.heap u (.list (T.pds l)) as := Dp.reads I _ _ _ (r.dp p) rx
theorem reads_tup {pins : List (Addr × Obj)} {s : Shared} {σ : L2.St} {H : Hp} {Z : Addr → Prop} {l : List T} {x : V} {u : Value} (I : Inv X pins σ H s) (rx : RelV x u) (r : RV X.K Z H (.tup l) x) (p : T.plains l = true) : ∃ as, Reads s.heap u (.tuple (T.pds l)) as := Dp.reads I _ _ _ (r.dp p) rx
theorem reads_wtup {pins : List (Addr × Obj)} {s : Shared} {σ : L2.St} {H : Hp} {Z : Addr → Prop} {l : List T} {x : V} {u : Value} (I : Inv X pins σ H s) (rx : RelV x u) (r : RV X.K Z H (.wtup l) x) (p : T.plains l = true) : ∃ as, Reads s.heap u (.tuple (T.pds l)) as := Dp.reads I _ _ _ (r.dp p) rx
theorem op_inM (neg : Bool) (hu : X.A.units + 65 < cLine) : OpM X (compareOp (if neg then .NotIn else .In)) (inG neg) := by
  refine ⟨fun pins s σ H x y v u Q I rx ry hh => ?_⟩
  obtain ⟨c, P, S, a, b, hS, ra, rb, q⟩ := hh
  have done : ∀ {k : Bool} {s' : Shared}, Inv X pins σ H s' → Post0 X.K P c H (RD X.K) (some (.t (.bl k), S)) Q → EP X pins σ Q (.bool k) s' := fun {k s'} I' q => ⟨.bl k, H, I', rfl, q c _ H (Ev.refl hS) hS (RV.bl k)⟩
  unfold inG at q
  cases a with
  | ref i => exact q.elim
  | t x' =>
    simp only at q
    have dict : Post0 X.K P c H (RD X.K) ((dGet P S b x').map fun r => (D.t (.bl (neg ^^ r.isSome)), S)) Q → wpAny (model X.prog X.w) X.A (compareOp (if neg then .NotIn else .In) v u) (EP X pins σ Q) X.xe s := fun q => by
      cases e : dGet P S b x' with
      | none => rw [e] at q; exact q.elim
      | some r =>
        rw [e] at q
        obtain ⟨a, o, rfl, g, hr⟩ := dGet_ok hS rb ra e
        have ho : o.isSome = r.isSome := by
          cases r with
          | none => rw [show o = none from hr]; rfl
          | some e' => obtain ⟨v', h, _⟩ := hr; rw [h]; rfl
        cases ry
        cases neg with
        | false => exact d_in (by omega) I g rx fun s' I' => by rw [ho]; have := done I' q; simpa using this
        | true => exact d_notIn (by omega) I g rx fun s' I' => by rw [ho]; have := done I' q; simpa using this
    cases b with
    | ref i => exact dict q
    | t b =>
      cases b <;> try exact dict q
      · rename_i s'
        cases x' <;> try exact q.elim
        rename_i u'
        cases ra; cases rb
        obtain ⟨t1, rfl⟩ := rx
        obtain ⟨t2, rfl⟩ := ry
        cases neg with
        | false => exact PyProof.Rows.in_str (by rw [occ_tx]; have := done I q; simpa using this)
        | true => exact PyProof.Rows.notIn_str (by rw [occ_tx]; have := done I q; simpa using this)
      · rename_i l
        simp only at q
        by_cases h : (x'.plain && T.plains l && x'.low) = true
        · rw [if_pos h] at q
          rw [Bool.and_eq_true, Bool.and_eq_true] at h
          have hd : x'.pd.depth ≤ 40 := of_decide_eq_true h.2
          obtain ⟨as, r1⟩ := reads_list I ry rb h.1.2
          obtain ⟨bs, r2⟩ := Dp.reads I _ _ _ (RV.dp ra h.1.1) rx
          cases neg with
          | false => exact PySem.SeqAt.in_list_data r1 r2 (T.pds_plain _ h.1.2) (T.pd_plain _ h.1.1) (by omega) (by rw [any_pds]; have := done I q; simpa using this)
          | true => exact PySem.SeqAt.notIn_list_data r1 r2 (T.pds_plain _ h.1.2) (T.pd_plain _ h.1.1) (by omega) (by rw [any_pds]; have := done I q; simpa using this)
        · rw [if_neg h] at q; exact q.elim
      · rename_i l
        simp only at q
        by_cases h : (x'.plain && T.plains l && x'.low) = true
        · rw [if_pos h] at q
          rw [Bool.and_eq_true, Bool.and_eq_true] at h
          have hd : x'.pd.depth ≤ 40 := of_decide_eq_true h.2
          obtain ⟨as, r1⟩ := reads_tup I ry rb h.1.2
          obtain ⟨bs, r2⟩ := Dp.reads I _ _ _ (RV.dp ra h.1.1) rx
          cases neg with
          | false => exact PySem.SeqAt.in_tuple_data r1 r2 (T.pds_plain _ h.1.2) (T.pd_plain _ h.1.1) (by omega) (by rw [any_pds]; have := done I q; simpa using this)
          | true => exact PySem.SeqAt.notIn_tuple_data r1 r2 (T.pds_plain _ h.1.2) (T.pd_plain _ h.1.1) (by omega) (by rw [any_pds]; have := done I q; simpa using this)
        · rw [if_neg h] at q; exact q.elim
      · rename_i l
        simp only at q
        by_cases h : (x'.plain && T.plains l && x'.low) = true
        · rw [if_pos h] at q
          rw [Bool.and_eq_true, Bool.and_eq_true] at h
          have hd : x'.pd.depth ≤ 40 := of_decide_eq_true h.2
          obtain ⟨as, r1⟩ := reads_wtup I ry rb h.1.2
          obtain ⟨bs, r2⟩ := Dp.reads I _ _ _ (RV.dp ra h.1.1) rx
          cases neg with
          | false => exact PySem.SeqAt.in_tuple_data r1 r2 (T.pds_plain _ h.1.2) (T.pd_plain _ h.1.1) (by omega) (by rw [any_pds]; have := done I q; simpa using this)
          | true => exact PySem.SeqAt.notIn_tuple_data r1 r2 (T.pds_plain _ h.1.2) (T.pd_plain _ h.1.1) (by omega) (by rw [any_pds]; have := done I q; simpa using this)
        · rw [if_neg h] at q; exact q.elim
/-- is None -/
def D.isNon : D → Bool
  | .t .non => true
  | _ => false
def isNoneG (neg : Bool) : F2 := fun a b _ S => match b with
  | .t .non => some (.t (.bl (neg ^^ a.isNon)), S)
  | _ => none
theorem non_dec {K : PySem.W.Frag} {c : Cf} {H : Hp} {a : D} {x : V} (r : RD K c H a x) : decide (x = V.non) = a.isNon := by
  cases a with
  | ref i => obtain ⟨_, rfl⟩ := r; rfl
  | t a => cases a <;> cases r <;> rfl
theorem op_isM (neg : Bool) : OpM X (compareOp (if neg then .IsNot else .Is)) (isNoneG neg) := by
  refine ⟨fun pins s σ H x y v u Q I rx ry hh => ?_⟩
  obtain ⟨c, P, S, a, b, hS, ra, rb, q⟩ := hh
  unfold isNoneG at q
  cases b with
  | ref i => exact q.elim
  | t b =>
    cases b <;> try exact q.elim
    cases rb
    have hq := q c (.bl (neg ^^ a.isNon)) H (Ev.refl hS) hS (RV.bl _)
    rw [← non_dec ra] at hq
    cases neg with
    | false => exact op_isN pins s σ H _ _ v u Q I rx ry ⟨rfl, by simpa using hq⟩
    | true => exact op_notN pins s σ H _ _ v u Q I rx ry ⟨rfl, by simpa using hq⟩

/-! ### subscripts -/
/-- the item at an index of a sequence -/
def seqIx (P S : List O) (d : D) (i : Int) : Option D := match d with
  | .t (.lst l) => (atI l i).map .t
  | .t (.tup l) => (atI l i).map .t
  | .t (.scr l) => (atI l i).map fun k => .t (.int k)
  | .t (.str s) => (atI s i).map fun c => .t (.str [c])
  | .ref j => match (P ++ S)[j]? with
    | some (.lst l) => atI l i
    | _ => none
  | _ => none
def subG : F2 := fun a b P S => match b with
  | .ref _ => none
  | .t k => match (match k with | .int i => seqIx P S a i | _ => none) with
    | some e => some (e, S)
    | none => match dGet P S a k with
      | some (some e) => some (e, S)
      | _ => none
theorem RVs.ix {K : PySem.W.Frag} {Z : Addr → Prop} {H : Hp} {ts : List T} {vs : List V} {i : Int} {t : T} (r : RVs K Z H ts vs) (h : atI ts i = some t) : ∃ v, atI vs i = some v ∧ RV K Z H t v := by
  unfold atI at h ⊢
  rw [← r.len]
  cases q : ixN ts.length i with
  | none => rw [q] at h; cases h
  | some j => rw [q] at h; exact r.at h
theorem RDs.ix {K : PySem.W.Frag} {c : Cf} {H : Hp} {ts : List D} {vs : List V} {i : Int} {t : D} (r : RDs K c H ts vs) (h : atI ts i = some t) : ∃ v, atI vs i = some v ∧ RD K c H t v := by
  unfold atI at h ⊢
  rw [← r.len]
  cases q : ixN ts.length i with
  | none => rw [q] at h; cases h
  | some j => rw [q] at h; exact r.at h
theorem atI_map {α β : Type} (g : α → β) (l : List α) (i : Int) : atI (l.map g) i = (atI l i).map g := by
  unfold atI
  rw [List.length_map]
  cases ixN l.length i with
  | none => rfl
  | some j => simp
theorem seqIx_ok {K : PySem.W.Frag} {P S : List O} {c : Cf} {H : Hp} {d e : D} {x : V} {i : Int} (hS : Sim K P S c H) (rd : RD K c H d x) (h : seqIx P S d i = some e) :
    ∃ v, RD K c H e v ∧ ∀ Q : VK, Q v H → rIx K x (.int i) H Q := by
  cases d with
  | ref j =>
    simp only [seqIx] at h
    obtain ⟨hi, rfl⟩ := rd
    cases z : (P ++ S)[j]? with
    | none => rw [z] at h; cases h
    | some o =>
      rw [z] at h
      cases o <;> try exact nomatch (show (none : Option D) = some e from h)
      obtain ⟨vs, hH, hl, rs⟩ := hS.ro j _ z
      obtain ⟨v, h1, h2⟩ := rs.ix h
      exact ⟨v, h2, fun Q q => .inl ⟨_, vs, i, v, rfl, rfl, SqL.of hH, h1, q⟩⟩
  | t d =>
    cases d <;> try exact nomatch (show (none : Option D) = some e from h)
    · rename_i s
      simp only [seqIx] at h
      cases q : atI s i with
      | none => rw [q] at h; cases h
      | some ch =>
        rw [q] at h
        cases h
        cases rd with
        | str _ hl => exact ⟨.str (sv [ch]), RV.str [ch] (by show 1 ≤ sizeLine; decide), fun Q k => .inr (.inr ⟨_, i, ch, rfl, rfl, by rw [sv_len]; exact hl, by rw [sv_list]; exact q, k⟩)⟩
    · rename_i l
      simp only [seqIx] at h
      cases q : atI l i with
      | none => rw [q] at h; cases h
      | some t =>
        rw [q] at h
        cases h
        cases rd with
        | lst _ a vs h1 h2 h3 h4 =>
          obtain ⟨v, g1, g2⟩ := h4.ix q
          exact ⟨v, g2, fun Q k => .inl ⟨a, vs, i, v, rfl, rfl, SqL.of h2, g1, k⟩⟩
    · rename_i l
      simp only [seqIx] at h
      cases q : atI l i with
      | none => rw [q] at h; cases h
      | some t =>
        rw [q] at h
        cases h
        obtain ⟨a, vs, rfl, h2, h3, h4⟩ := rd.tup
        obtain ⟨v, g1, g2⟩ := h4.ix q
        exact ⟨v, g2, fun Q k => .inr (.inl ⟨a, vs, i, v, rfl, rfl, h2, g1, k⟩)⟩
    · rename_i l
      simp only [seqIx] at h
      cases q : atI l i with
      | none => rw [q] at h; cases h
      | some t =>
        rw [q] at h
        cases h
        obtain ⟨a, rfl, _, h2, h3⟩ := rd.scrE
        exact ⟨.int t, RV.int t, fun Q k => .inl ⟨a, _, i, _, rfl, rfl, h2, by rw [atI_map, q]; rfl, k⟩⟩
theorem ix_M (hu : X.A.units + 1 < cLine) {i : Expr} {o : Expr} (hs : PlainIx i) (hn : NoSl i) (ho : PM X W o fa) (hi : PM X W i fb) : PM X W (.Subscript o i pos) (mOp2 subG fa fb) := by
  refine ⟨⟨fun pins s σ H Q I h => ?_⟩⟩
  have h0 := h
  obtain ⟨c, P, ρ, S, hE, hS, h⟩ := h
  unfold mOp2 at h
  cases qa : fa P ρ S with
  | ex x S1 =>
    rw [qa] at h
    exact (pe_ix (r := fun _ _ _ _ => False) (fun _ _ _ _ _ _ _ _ _ _ _ _ _ _ z => z.elim) ho.run hi.run hs).run pins s σ H Q I ⟨c, P, ρ, S, hE, hS, by rw [qa]; exact h⟩
  | no => rw [qa] at h; exact h.elim
  | ok d S1 =>
    rw [qa] at h
    simp only [R.bind_ok] at h
    cases qb : fb P ρ S1 with
    | ex x S2 =>
      rw [qb] at h
      refine (pe_ix (r := fun _ _ _ _ => False) (fun _ _ _ _ _ _ _ _ _ _ _ _ _ _ z => z.elim) ho.run hi.run hs).run pins s σ H Q I ⟨c, P, ρ, S, hE, hS, ?_⟩
      rw [qa]
      exact fun c1 v H1 e1 s1 r1 => ⟨c1, P, ρ, S1, hE.mono e1, s1, by rw [qb]; exact Post.ev hS.pl e1 h⟩
    | no => rw [qb] at h; exact h.elim
    | ok k S2 =>
      rw [qb] at h
      simp only [R.bind_ok] at h
      have seq : (∃ i e, k = .t (.int i) ∧ seqIx P S2 d i = some e) → wpAny (model X.prog X.w) X.A (eval (.Subscript o i pos) X.env) (EP X pins σ Q) X.xe s := fun ⟨iv, e, hk, he⟩ => by
        subst hk
        refine (pe_ix ix_seq ho.run hi.run hs).run pins s σ H Q I ⟨c, P, ρ, S, hE, hS, ?_⟩
        rw [qa]
        refine fun c1 v H1 e1 s1 r1 => ⟨c1, P, ρ, S1, hE.mono e1, s1, ?_⟩
        rw [qb]
        intro c2 v2 H2 e2 s2 r2
        cases r2
        obtain ⟨w, g1, g2⟩ := seqIx_ok s2 (r1.mono e2) he
        have h2 : Post X.K P c H (RD X.K) (lift (some (e, S2))) W Q := by
          have hh : subG d (.t (.int iv)) P S2 = some (e, S2) := by unfold subG; simp only [he]
          rw [hh] at h; exact h
        exact g2 _ (h2 c2 w H2 (e1.trans hS.pl e2) s2 g1)
      cases k with
      | ref j => exact h.elim
      | t k =>
        have dic : subG d (.t k) P S2 = (match dGet P S2 d k with | some (some e) => some (e, S2) | _ => none) → wpAny (model X.prog X.w) X.A (eval (.Subscript o i pos) X.env) (EP X pins σ Q) X.xe s := fun hh => by
          rw [hh] at h
          cases z : dGet P S2 d k with
          | none => rw [z] at h; exact h.elim
          | some r =>
            cases r with
            | none => rw [z] at h; exact h.elim
            | some e =>
              rw [z] at h
              refine (pe_dget hu ho.run hi.run hn).run pins s σ H Q I ⟨c, P, ρ, S, hE, hS, ?_⟩
              rw [qa]
              refine fun c1 v H1 e1 s1 r1 => ⟨c1, P, ρ, S1, hE.mono e1, s1, ?_⟩
              rw [qb]
              intro c2 v2 H2 e2 s2 r2
              obtain ⟨a, ov, ex, g, gr⟩ := dGet_ok s2 (r1.mono e2) r2 z
              obtain ⟨w, hw, rw'⟩ := gr
              rw [hw] at g
              exact ⟨a, w, ex, g, h c2 w H2 (e1.trans hS.pl e2) s2 rw'⟩
        cases k with
        | int iv =>
          cases z : seqIx P S2 d iv with
          | some e => exact seq ⟨iv, e, rfl, z⟩
          | none => exact dic (by unfold subG; simp only [z])
        | _ => exact dic rfl
end

/-! ### slices -/
def cutL {α : Type} (l : List α) (lo hi : Option Int) : List α := (l.drop (HT.sIx l.length 0 lo)).take (HT.sIx l.length l.length hi - HT.sIx l.length 0 lo)
def mPart (f : Option ME) : List O → En → List O → R (Option Int) := match f with
  | none => fun _ _ S => .ok none S
  | some f => fun P ρ S => (f P ρ S).bind fun d S1 => match d with
    | .t (.int i) => .ok (some i) S1
    | _ => .no
def mSl (fo : ME) (fl fh : Option ME) : ME := fun P ρ S => (fo P ρ S).bind fun d S1 => (mPart fl P ρ S1).bind fun lo S2 => (mPart fh P ρ S2).bind fun hi S3 => match d with
  | .t (.str s) => .ok (.t (.str (cutL s lo hi))) S3
  | .t (.lst l) => .ok (.t (.lst (cutL l lo hi))) S3
  | .t (.tup l) => .ok (.t (.tup (cutL l lo hi))) S3
  | .t (.scr l) => .ok (.t (.lst ((cutL l lo hi).map .int))) S3
  | _ => .no
end Fm

/-! Fm7: slices, built-in functions, methods. -/
namespace Fm
open PySem PySem.Spec PyProof.Rows L2

section
variable {X : Cx} {W : WX} {e : Expr} {fo : ME} {pos p2 : Pos}
/-- a slice's part -/
structure PMP (X : Cx) (W : WX) (e : Option Expr) (f : Option ME) : Prop where
  run : ∃ t, PO X e t ∧ ∀ (c : Cf) (P : List O) (ρ : En) (S : List O) (σ : L2.St) (H : Hp) (Q : Option Int → Hp → Prop), SimE X.K c H ρ σ → Sim X.K P S c H → Post X.K P c H (fun _ _ a b => a = b) (mPart f P ρ S) W Q → t σ H Q
theorem pmp_none : PMP X W none none := ⟨_, po_none, fun c P ρ S σ H Q hE hS h => h c none H (Ev.refl hS) hS rfl⟩
theorem pmp_some {a : Expr} {f : ME} (h : PM X W a f) : PMP X W (some a) (some f) := by
  refine ⟨_, po_some h.run, fun c P ρ S σ H Q hE hS h => ?_⟩
  refine tM_bind hE hS h fun d v S1 c1 H1 e1 E1 s1 r1 h1 => ?_
  cases d with
  | ref i => exact h1.elim
  | t x =>
    cases x <;> try exact h1.elim
    cases r1
    exact ⟨_, rfl, h1 c1 _ H1 (Ev.refl s1) s1 rfl⟩
theorem cutL_len {α : Type} (l : List α) (lo hi : Option Int) : (cutL l lo hi).length ≤ l.length := by
  unfold cutL
  rw [List.length_take, List.length_drop]
  omega
theorem RVs.cut {K : PySem.W.Frag} {Z : Addr → Prop} {H : Hp} : ∀ {a : List T} {u : List V} (m n : Nat), RVs K Z H a u → RVs K Z H ((a.drop m).take n) ((u.drop m).take n)
  | _, _, m, n, .nil => by simp; exact .nil
  | _, _, 0, 0, .cons t v ts vs h1 h2 => .nil
  | _, _, 0, n + 1, .cons t v ts vs h1 h2 => .cons t v _ _ h1 (by have := RVs.cut 0 n h2; simpa using this)
  | _, _, m + 1, n, .cons t v ts vs h1 h2 => RVs.cut m n h2
theorem RVs.cutL {K : PySem.W.Frag} {Z : Addr → Prop} {H : Hp} {a : List T} {u : List V} (lo hi : Option Int) (h : RVs K Z H a u) : RVs K Z H (Fm.cutL a lo hi) (cutV u lo hi) := by
  unfold Fm.cutL cutV
  rw [h.len]
  exact h.cut _ _
theorem cutS_sv (s : Tx) (lo hi : Option Int) : cutS (sv s) lo hi = sv (cutL s lo hi) := by
  unfold cutS cutL
  rw [sv_len, sv_list]
  rfl
theorem cutV_int (l : List Int) (lo hi : Option Int) : cutV (l.map V.int) lo hi = (cutL l lo hi).map V.int := by
  unfold cutV cutL
  simp
theorem RVs.ints {K : PySem.W.Frag} {Z : Addr → Prop} {H : Hp} : ∀ l : List Int, RVs K Z H (l.map T.int) (l.map V.int)
  | [] => .nil
  | x :: l => .cons _ _ _ _ (.int x) (RVs.ints l)
theorem pm_sl {fl fh : Option ME} {lo hi : Option Expr} (ho : PM X W e fo) (hl : PMP X W lo fl) (hh : PMP X W hi fh) : PM X W (.Subscript e (.Slice lo hi none p2) pos) (mSl fo fl fh) := by
  obtain ⟨tl, pl, kl⟩ := hl.run
  obtain ⟨th, ph, kh⟩ := hh.run
  refine ⟨pe_weak (pe_slice (sl_str.or (sl_list.or sl_tupA)) ho.run pl ph) fun σ H Q h => ?_⟩
  obtain ⟨c, P, ρ, S, hE, hS, h⟩ := h
  refine tM_bind hE hS h fun d v S1 c1 H1 e1 E1 s1 r1 h1 => ?_
  refine kl c1 P ρ S1 σ H1 _ E1 s1 ?_
  generalize mPart fl P ρ S1 = rl at h1
  cases rl with
  | ex x S' => exact h1
  | no => exact h1
  | ok l S2 =>
    intro c2 l' H2 e2 s2 rl
    cases (show l = l' from rl)
    have h2 := Post.ev s1.pl e2 h1
    refine kh c2 P ρ S2 σ H2 _ (E1.mono e2) s2 ?_
    simp only [R.bind_ok] at h2
    generalize mPart fh P ρ S2 = rh at h2
    cases rh with
    | ex x S' => exact h2
    | no => exact h2
    | ok u S3 =>
      intro c3 u' H3 e3 s3 ru
      cases (show u = u' from ru)
      have h3 := Post.ev s2.pl e3 h2
      have r3 := (r1.mono e2).mono e3
      simp only [R.bind_ok] at h3
      cases d with
      | ref i => exact h3.elim
      | t x =>
        cases x <;> try exact h3.elim
        · cases r3 with
          | str s hl => exact .inl ⟨_, rfl, by rw [sv_len]; exact hl, by rw [cutS_sv]; exact h3 c3 _ H3 (Ev.refl s3) s3 (RV.str _ (Nat.le_trans (cutL_len _ _ _) hl))⟩
        · cases r3 with
          | lst _ a vs g1 g2 g3 g4 => exact .inr (.inl ⟨a, vs, rfl, SqL.of g2, fun p hp => h3 (c3.zed p) _ _ (Ev.alloc s3 hp) (Sim.alloc s3 hp) (RV.lst _ p _ (.inr rfl) upd_same (Nat.le_trans (cutV_length _ _ _) g3) ((g4.cutL l u).up s3 hp))⟩)
        · have r4 := r3
          obtain ⟨a, vs, rfl, g2, g3, g4⟩ := r3.tup
          refine .inr (.inr ⟨a, vs, rfl, g2, fun z => ?_, fun z p hp => h3 (c3.zed p) _ _ (Ev.alloc s3 hp) (Sim.alloc s3 hp) (RV.tup _ p _ (.inr rfl) upd_same (Nat.le_trans (cutV_length _ _ _) g3) ((g4.cutL l u).up s3 hp))⟩)
          refine h3 c3 _ H3 (Ev.refl s3) s3 ?_
          have : ∀ (x : List T), x.length = vs.length → cutL x l u = x := fun x hx => by
            unfold cutL
            rw [hx, z.1, z.2, ← hx]
            simp
          rw [this _ g4.len]
          exact r4
        · obtain ⟨a, rfl, _, g2, g3⟩ := r3.scrE
          refine .inr (.inl ⟨a, _, rfl, g2, fun p hp => ?_⟩)
          rw [cutV_int]
          exact h3 (c3.zed p) _ _ (Ev.alloc s3 hp) (Sim.alloc s3 hp) (RV.lst _ p _ (.inr rfl) upd_same (by rw [List.length_map]; exact Nat.le_trans (cutL_len _ _ _) g3) (RVs.ints _))
end

/-! ### built-in functions of trees -/
@[simp] theorem lTL_map (h : List T → Option T) (l : List T) (P S : List O) : lTL h (l.map D.t) P S = (h l).map fun z => (.t z, S) := by
  unfold lTL; rw [trees_map]
section
variable {X : Cx}
theorem callM_of {f : Value} {h : List T → Option T}
    (rule : ∀ (pins : List (Addr × Obj)) (s : Shared) (σ : L2.St) (H : Hp) (xs : List V) (us : List Value) (Q : VK) (Z : Addr → Prop) (ts : List T) (z : T), Inv X pins σ H s → Vals xs us → RVs X.K Z H ts xs → h ts = some z →
      (∀ w, RV X.K Z H z w → Q w H) → (∀ p o, H p = none → (RV X.K (fun c => Z c ∨ c = p) (upd H p o) z (.ref p) → Q (.ref p) (upd H p o))) →
      (∀ {p : Addr} {o : HO} {t : T} {w : V}, H p = none → RV X.K Z H t w → RV X.K (fun c => Z c ∨ c = p) (upd H p o) t w) →
      wpAny (model X.prog X.w) X.A (call f us) (EP X pins σ Q) X.xe s) : CallM X f (lTL h) := by
  refine ⟨fun pins s σ H xs us Q I rx hh => ?_⟩
  obtain ⟨c, P, S, ds, hS, ra, q⟩ := hh
  unfold lTL at q
  cases e : trees ds with
  | none => rw [e] at q; exact q.elim
  | some ts =>
    rw [e] at q
    simp only at q
    cases e2 : h ts with
    | none => rw [e2] at q; exact q.elim
    | some z =>
      rw [e2] at q
      exact rule pins s σ H xs us Q c.Z ts z I rx (ra.trees e) e2 (fun w r => q c w H (Ev.refl hS) hS r) (fun p o hp r => q (c.zed p) _ _ (Ev.alloc hS hp) (Sim.alloc hS hp) r) (fun hp r => RV.up hS hp r)
def lenT : List T → Option T
  | [.str s] => some (.int s.length)
  | [.lst l] => some (.int l.length)
  | [.tup l] => some (.int l.length)
  | [.scr l] => some (.int l.length)
  | _ => none
/-- len: of trees, of cells -/
def lenG : FL := fun ds P S => match ds with
  | [.ref i] => match (P ++ S)[i]? with
    | some (.lst l) => some (.t (.int l.length), S)
    | some (.dic l) => some (.t (.int l.length), S)
    | _ => none
  | [.t (.dic l)] => some (.t (.int l.length), S)
  | ds => lTL lenT ds P S
theorem RVs.one {K : PySem.W.Frag} {Z : Addr → Prop} {H : Hp} {t : T} {vs : List V} (h : RVs K Z H [t] vs) : ∃ v, vs = [v] ∧ RV K Z H t v := by
  cases h with
  | cons _ v _ _ h1 h2 => cases h2; exact ⟨v, rfl, h1⟩
theorem RVs.two {K : PySem.W.Frag} {Z : Addr → Prop} {H : Hp} {t u : T} {vs : List V} (h : RVs K Z H [t, u] vs) : ∃ v w, vs = [v, w] ∧ RV K Z H t v ∧ RV K Z H u w := by
  cases h with
  | cons _ v _ _ h1 h2 =>
    obtain ⟨w, rfl, h3⟩ := RVs.one h2
    exact ⟨v, w, rfl, h1, h3⟩
theorem RDs.one {K : PySem.W.Frag} {c : Cf} {H : Hp} {t : D} {vs : List V} (h : RDs K c H [t] vs) : ∃ v, vs = [v] ∧ RD K c H t v := by
  cases h with
  | cons h1 h2 => cases h2; exact ⟨_, rfl, h1⟩
theorem RDs.two {K : PySem.W.Frag} {c : Cf} {H : Hp} {t u : D} {vs : List V} (h : RDs K c H [t, u] vs) : ∃ v w, vs = [v, w] ∧ RD K c H t v ∧ RD K c H u w := by
  cases h with
  | cons h1 h2 =>
    obtain ⟨w, rfl, h3⟩ := RDs.one h2
    exact ⟨_, w, rfl, h1, h3⟩
theorem RKs.len {K : PySem.W.Frag} {Z : Addr → Prop} {H : Hp} : ∀ {l : List (At × T)} {kvs : List (Key × V)}, RKs K Z H l kvs → l.length = kvs.length
  | _, _, .nil => rfl
  | _, _, .cons _ _ _ _ _ _ _ h => by rw [List.length_cons, List.length_cons, RKs.len h]
theorem call_lenT : CallM X (.builtin "len") (lTL lenT) := by
  refine callM_of fun pins s σ H xs us Q Z ts z I rx ra e q q2 up => ?_
  unfold lenT at e
  split at e
  · cases e
    obtain ⟨v, rfl, r⟩ := ra.one
    cases r with
    | str _ hl => exact call_len_str pins s σ H _ us Q I rx ⟨_, rfl, by rw [sv_len]; exact hl, by rw [sv_len]; exact q _ (.int _)⟩
  · cases e
    obtain ⟨v, rfl, r⟩ := ra.one
    cases r with
    | lst _ a vs h1 h2 h3 h4 => exact call_len_seq pins s σ H _ us Q I rx ⟨a, vs, rfl, .inl (SqL.of h2), by rw [← h4.len]; exact q _ (.int _)⟩
  · cases e
    obtain ⟨v, rfl, r⟩ := ra.one
    obtain ⟨a, vs, rfl, h2, h3, h4⟩ := r.tupI
    exact call_len_seq pins s σ H _ us Q I rx ⟨a, vs, rfl, .inr h2, by rw [← h4.len]; exact q _ (.int _)⟩
  · cases e
    rename_i l
    obtain ⟨v, rfl, r⟩ := ra.one
    obtain ⟨a, rfl, _, h2, h3⟩ := RD.scrE (c := ⟨0, fun _ => 0, Z, fun _ => False⟩) r
    exact call_len_seq pins s σ H _ us Q I rx ⟨a, _, rfl, .inl h2, by rw [List.length_map]; exact q _ (.int _)⟩
  · cases e
theorem call_lenM : CallM X (.builtin "len") lenG := by
  refine ⟨fun pins s σ H xs us Q I rx hh => ?_⟩
  have hh0 := hh
  obtain ⟨c, P, S, ds, hS, ra, q⟩ := hh
  unfold lenG at q
  split at q
  · rename_i i
    cases z : (P ++ S)[i]? with
    | none => rw [z] at q; exact q.elim
    | some o =>
      rw [z] at q
      have hro := hS.ro i o z
      obtain ⟨v, rfl, _, rfl⟩ := ra.one
      cases o <;> try exact q.elim
      · obtain ⟨vs, hH, hl, rs⟩ := hro
        exact call_len_seq pins s σ H _ us Q I rx ⟨_, vs, rfl, .inl (SqL.of hH), by rw [← rs.len]; exact q c _ H (Ev.refl hS) hS (RV.int _)⟩
      · obtain ⟨kvs, hH, rs⟩ := hro
        obtain ⟨u, rfl, ru⟩ := vals1 rx
        cases ru
        refine d_len I (.inl hH) fun t s' I' => ⟨.int kvs.length, H, I', ⟨t, rfl⟩, ?_⟩
        rw [← Paired.length rs]
        exact q c _ H (Ev.refl hS) hS (RV.int _)
  · rename_i l
    obtain ⟨v, rfl, r⟩ := ra.one
    cases r with
    | dic _ a kvs h1 h2 h3 =>
      obtain ⟨u, rfl, ru⟩ := vals1 rx
      cases ru
      refine d_len I h2 fun t s' I' => ⟨.int kvs.length, H, I', ⟨t, rfl⟩, ?_⟩
      rw [← h3.len]
      exact q c _ H (Ev.refl hS) hS (RV.int _)
  · exact call_lenT.run pins s σ H xs us Q I rx ⟨c, P, S, _, hS, ra, q⟩
def intT : List T → Option T
  | [.int i] => some (.int i)
  | [.bl b] => some (.int (if b then 1 else 0))
  | _ => none
theorem call_intM : CallM X (.type "int") (lTL intT) := by
  refine callM_of fun pins s σ H xs us Q Z ts z I rx ra e q q2 up => ?_
  unfold intT at e
  split at e
  · cases e
    obtain ⟨v, rfl, r⟩ := ra.one
    cases r
    exact call_int1 pins s σ H _ us Q I rx (.inl ⟨_, rfl, q _ (.int _)⟩)
  · cases e
    obtain ⟨v, rfl, r⟩ := ra.one
    cases r
    exact call_int1 pins s σ H _ us Q I rx (.inr ⟨_, rfl, q _ (.int _)⟩)
  · cases e
def absT : List T → Option T
  | [.int i] => some (.int (if i < 0 then -i else i))
  | _ => none
theorem call_absM : CallM X (.builtin "abs") (lTL absT) := by
  refine callM_of fun pins s σ H xs us Q Z ts z I rx ra e q q2 up => ?_
  unfold absT at e
  split at e
  · cases e
    obtain ⟨v, rfl, r⟩ := ra.one
    cases r
    exact call_abs pins s σ H _ us Q I rx ⟨_, rfl, q _ (.int _)⟩
  · cases e
def max2T : List T → Option T
  | [.int i, .int j] => some (.int (if j > i then j else i))
  | _ => none
def min2T : List T → Option T
  | [.int i, .int j] => some (.int (if j < i then j else i))
  | _ => none
theorem call_max2M (hc : X.calm = true) : CallM X (.builtin "max") (lTL max2T) := by
  refine callM_of fun pins s σ H xs us Q Z ts z I rx ra e q q2 up => ?_
  unfold max2T at e
  split at e
  · cases e
    obtain ⟨v, w, rfl, r, r'⟩ := ra.two
    cases r; cases r'
    exact call_max2 hc pins s σ H _ us Q I rx ⟨_, _, rfl, q _ (.int _)⟩
  · cases e
/-- the truth values of a list of them -/
def bls : List T → Option (List Bool)
  | [] => some []
  | .bl b :: r => (bls r).map (b :: ·)
  | _ => none
@[simp] theorem bls_map (l : List Bool) : bls (l.map T.bl) = some l := by
  induction l with
  | nil => rfl
  | cons x l ih => rw [List.map_cons, bls, ih]; rfl
@[simp] theorem bls_mapf {α : Type} (g : α → Bool) (l : List α) : bls (l.map fun x => T.bl (g x)) = some (l.map g) := by
  rw [← bls_map (l.map g), List.map_map]; rfl
theorem RVs.bls {K : PySem.W.Frag} {Z : Addr → Prop} {H : Hp} : ∀ {ts : List T} {vs : List V} {bs : List Bool}, RVs K Z H ts vs → Fm.bls ts = some bs → vs = bs.map V.bl
  | _, _, _, .nil, h => by cases h; rfl
  | _, _, _, .cons t v ts vs h1 h2, h => by
    cases t <;> simp [Fm.bls] at h
    obtain ⟨l, h3, rfl⟩ := h
    cases h1
    rw [RVs.bls h2 h3]; rfl
def allT : List T → Option T
  | [.lst l] => (bls l).map fun bs => .bl (bs.all id)
  | _ => none
def anyT : List T → Option T
  | [.lst l] => (bls l).map fun bs => .bl (bs.any id)
  | _ => none
theorem call_allM (hc : X.calm = true) : CallM X (.builtin "all") (lTL allT) := by
  refine callM_of fun pins s σ H xs us Q Z ts z I rx ra e q q2 up => ?_
  unfold allT at e
  split at e
  · rename_i l
    cases eb : bls l with
    | none => rw [eb] at e; cases e
    | some bs =>
      rw [eb] at e
      cases e
      obtain ⟨v, rfl, r⟩ := ra.one
      cases r with
      | lst _ a vs h1 h2 h3 h4 =>
        have := h4.bls eb
        subst this
        exact cr_all hc pins s σ H _ us Q I rx ⟨a, bs, rfl, SqL.of h2, q _ (.bl _)⟩
  · cases e
theorem call_anyM (hc : X.calm = true) : CallM X (.builtin "any") (lTL anyT) := by
  refine callM_of fun pins s σ H xs us Q Z ts z I rx ra e q q2 up => ?_
  unfold anyT at e
  split at e
  · rename_i l
    cases eb : bls l with
    | none => rw [eb] at e; cases e
    | some bs =>
      rw [eb] at e
      cases e
      obtain ⟨v, rfl, r⟩ := ra.one
      cases r with
      | lst _ a vs h1 h2 h3 h4 =>
        have := h4.bls eb
        subst this
        exact cr_any hc pins s σ H _ us Q I rx ⟨a, bs, rfl, SqL.of h2, q _ (.bl _)⟩
  · cases e
def ntsOf : List T → Option (List Int)
  | [] => some []
  | .int b :: r => (ntsOf r).map (b :: ·)
  | _ => none
@[simp] theorem ntsOf_map (l : List Int) : ntsOf (l.map T.int) = some l := by
  induction l with
  | nil => rfl
  | cons x l ih => rw [List.map_cons, ntsOf, ih]; rfl
@[simp] theorem ntsOf_mapf {α : Type} (g : α → Int) (l : List α) : ntsOf (l.map fun x => T.int (g x)) = some (l.map g) := by
  rw [← ntsOf_map (l.map g), List.map_map]; rfl
def tupOfT : List T → Option T
  | [.lst l] => some (.tup l)
  | [.tup l] => some (.tup l)
  | _ => none
def lstOfT : List T → Option T
  | [.lst l] => some (.lst l)
  | [.tup l] => some (.lst l)
  | [.scr l] => some (.lst (l.map .int))
  | _ => none
theorem call_tupM : CallM X (.type "tuple") (lTL tupOfT) := by
  refine callM_of fun pins s σ H xs us Q Z ts z I rx ra e q q2 up => ?_
  unfold tupOfT at e
  split at e
  · cases e
    obtain ⟨v, rfl, r⟩ := ra.one
    cases r with
    | lst _ a vs h1 h2 h3 h4 => exact call_tuple_of pins s σ H _ us Q I rx ⟨a, vs, rfl, .inl ⟨SqL.of h2, fun n hn => q2 n _ hn (.tup _ n _ (.inr rfl) upd_same h3 (RVs.upp (fun r => up hn r) h4))⟩⟩
  · cases e
    obtain ⟨v, rfl, r⟩ := ra.one
    obtain ⟨a, vs, rfl, h2, h3, h4⟩ := r.tupI
    exact call_tuple_of pins s σ H _ us Q I rx ⟨a, vs, rfl, .inr ⟨h2, q _ r⟩⟩
  · cases e
theorem call_lstM : CallM X (.type "list") (lTL lstOfT) := by
  refine callM_of fun pins s σ H xs us Q Z ts z I rx ra e q q2 up => ?_
  unfold lstOfT at e
  split at e
  · cases e
    obtain ⟨v, rfl, r⟩ := ra.one
    cases r with
    | lst _ a vs h1 h2 h3 h4 => exact call_list_of pins s σ H _ us Q I rx ⟨a, vs, rfl, .inl (SqL.of h2), fun n hn => q2 n _ hn (.lst _ n _ (.inr rfl) upd_same h3 (RVs.upp (fun r => up hn r) h4))⟩
  · cases e
    obtain ⟨v, rfl, r⟩ := ra.one
    obtain ⟨a, vs, rfl, h2, h3, h4⟩ := r.tupI
    exact call_list_of pins s σ H _ us Q I rx ⟨a, vs, rfl, .inr h2, fun n hn => q2 n _ hn (.lst _ n _ (.inr rfl) upd_same h3 (RVs.upp (fun r => up hn r) h4))⟩
  · cases e
    obtain ⟨v, rfl, r⟩ := ra.one
    obtain ⟨a, rfl, _, h2, h3⟩ := RD.scrE (c := ⟨0, fun _ => 0, Z, fun _ => False⟩) r
    exact call_list_of pins s σ H _ us Q I rx ⟨a, _, rfl, .inl h2, fun n hn => q2 n _ hn (.lst _ n _ (.inr rfl) upd_same (by rw [List.length_map]; exact h3) (RVs.ints _))⟩
  · cases e
def isiB (t : T) (n : String) : Option Bool := match n with
  | "int" => some (match t with | .int _ => true | .bl _ => true | _ => false)
  | "bool" => some (match t with | .bl _ => true | _ => false)
  | "str" => some (match t with | .str _ => true | _ => false)
  | "list" => some (match t with | .lst _ => true | .scr _ => true | _ => false)
  | "tuple" => some (match t with | .tup _ => true | .wtup _ => true | _ => false)
  | "dict" => some false
  | _ => none
def isiT : List T → Option T
  | [t, .ty n] => if t.plain then (isiB t n).map .bl else none
  | _ => none
/-- isinstance, of trees and of lists in cells -/
def isiG : FL := fun ds P S => match ds with
  | [.ref i, .t (.ty n)] => match (P ++ S)[i]? with
    | some (.lst _) => if n = "list" then some (.t (.bl true), S) else if n = "tuple" ∨ n = "str" ∨ n = "int" ∨ n = "bool" ∨ n = "dict" then some (.t (.bl false), S) else none
    | _ => none
  | ds => lTL isiT ds P S
theorem call_isiTr : CallM X (.builtin "isinstance") (lTL isiT) := by
  refine callM_of fun pins s σ H xs us Q Z ts z I rx ra e q q2 up => ?_
  unfold isiT at e
  split at e
  · rename_i t n
    by_cases hp : t.plain = true
    · rw [if_pos hp] at e
      obtain ⟨v, w, rfl, r, r'⟩ := ra.two
      cases r'
      obtain ⟨u, u', rfl, ru, ru'⟩ := vals2 rx
      cases ru'
      obtain ⟨as, rd⟩ := Dp.reads I _ _ _ (r.dp hp) ru
      have fin : ∀ {k : Bool}, isiB t n = some k → ∀ tk, s.toks ≤ tk → EP X pins σ Q (.bool k) { s with toks := tk } := fun {k} hk tk _ => by
        rw [hk] at e
        cases e
        exact ⟨.bl k, H, I.tok _, rfl, q _ (.bl k)⟩
      unfold isiB at e fin
      split at e
      · refine PySem.W.isinstance_int_data rd (fin ?_)
        cases t <;> first | rfl | exact nomatch hp
      · refine PySem.W.isinstance_bool_data rd (fin ?_)
        cases t <;> first | rfl | exact nomatch hp
      · refine PySem.W.isinstance_str_data rd (fin ?_)
        cases t <;> first | rfl | exact nomatch hp
      · refine PySem.W.isinstance_list_data rd (fin ?_)
        cases t <;> first | rfl | exact nomatch hp
      · refine PySem.W.isinstance_tuple_data rd (fin ?_)
        cases t <;> first | rfl | exact nomatch hp
      · refine PySem.W.isinstance_dict_data rd (fin ?_)
        cases t <;> first | rfl | exact nomatch hp
      · cases e
    · rw [if_neg hp] at e
      cases e
  · cases e
end
end Fm

/-! Fm8: sorted, min, max; methods; stores. -/
namespace Fm
open PySem PySem.Spec PyProof.Rows L2

section
variable {X : Cx} {W : WX}
theorem pm_ty {x : Str} {n : String} {pos : Pos} (hg : Gl X x) (hm : X.mg x = none) (hv : bootBuiltins x = some (.type n)) (hn : x ≠ "__name__" := by decide) (hd : (x == ("__debug__" : Str)) = false := by decide) : PM X W (.Name x pos) (mC (.ty n)) :=
  pm_c (v := .ty n) (pe_bltn hg hm hv rfl hn hd) fun _ _ => .ty n
theorem call_isiM : CallM X (.builtin "isinstance") isiG := by
  refine ⟨fun pins s σ H xs us Q I rx hh => ?_⟩
  obtain ⟨c, P, S, ds, hS, ra, q⟩ := hh
  unfold isiG at q
  split at q
  · rename_i i n
    cases z : (P ++ S)[i]? with
    | none => rw [z] at q; exact q.elim
    | some o =>
      rw [z] at q
      have hro := hS.ro i o z
      cases o <;> try exact q.elim
      obtain ⟨v, w, rfl, ⟨_, rfl⟩, r'⟩ := ra.two
      cases r'
      obtain ⟨vs, hH, hl, rs⟩ := hro
      have go : ∀ {k : Bool}, kitB "list" n = some k → Post0 X.K P c H (RD X.K) (some (.t (.bl k), S)) Q → wpAny (model X.prog X.w) X.A (call (.builtin "isinstance") us) (EP X pins σ Q) X.xe s := fun {k} hk q => by
        obtain ⟨u, u', rfl, ru, ru'⟩ := vals2 rx
        cases ru'
        exact call_isi pins s σ H _ _ Q I rx ⟨_, .ty n, .type "list", .type n, k, rfl, .ty n, .base (.lst hH), kit_ty hk, q c _ H (Ev.refl hS) hS (RV.bl k)⟩
      simp only at q
      by_cases h1 : n = "list"
      · subst h1
        rw [if_pos rfl] at q
        exact go (by decide +kernel) q
      · rw [if_neg h1] at q
        by_cases h2 : n = "tuple" ∨ n = "str" ∨ n = "int" ∨ n = "bool" ∨ n = "dict"
        · rw [if_pos h2] at q
          refine go ?_ q
          rcases h2 with rfl | rfl | rfl | rfl | rfl <;> decide +kernel
        · rw [if_neg h2] at q
          exact q.elim
  · exact call_isiTr.run pins s σ H xs us Q I rx ⟨c, P, S, _, hS, ra, q⟩

/-! ### a new list of trees: as a tree, as a cell -/
theorem RVs.rds {K : PySem.W.Frag} {c : Cf} {H : Hp} : ∀ {ts : List T} {vs : List V}, RVs K c.Z H ts vs → RDs K c H (ts.map D.t) vs
  | _, _, .nil => .nil
  | _, _, .cons t v ts vs h1 h2 => .cons h1 (RVs.rds h2)
theorem newC {K : PySem.W.Frag} {P S : List O} {c : Cf} {H : Hp} {p : Addr} {vs : List V} {ds : List D} {Q : VK} (hS : Sim K P S c H) (hp : H p = none) (hl : vs.length ≤ sizeLine) (r : RDs K c H ds vs)
    (q : Post0 K P c H (RD K) (some (.ref (P.length + S.length), S ++ [.lst ds])) Q) : Q (.ref p) (upd H p (.lst vs)) := by
  have hn := hS.n
  refine q (c.cell p) _ _ (Ev.cellE hS hp) (Sim.cell hS hp ⟨vs, upd_same, hl, r.cell hS hp⟩) ⟨by show _ < c.n + 1; omega, ?_⟩
  show V.ref p = V.ref (if P.length + S.length = c.n then p else _)
  rw [if_pos hn]
/-- what can be sorted, by the model -/
def SortOk (ts : List T) : Prop := T.plains ts = true ∧ PySem.W.AllAlike (T.pds ts) ∧ PySem.W.Sortable (T.pds ts) ∧ ∀ t ∈ ts, t.low = true
def T.le (a b : T) : Bool := !T.lt b a
def sortL (ts : List T) : List T := ts.mergeSort T.le
theorem sortOk_strs (l : List Tx) : SortOk (l.map T.str) := by
  refine ⟨by simp [T.plain], ?_, ?_, ?_⟩
  · rw [pds_map]
    intro d hd d' hd'
    obtain ⟨x, _, rfl⟩ := List.mem_map.mp hd
    obtain ⟨y, _, rfl⟩ := List.mem_map.mp hd'
    rfl
  · rw [pds_map]
    refine .inr fun d hd => ?_
    obtain ⟨x, _, rfl⟩ := List.mem_map.mp hd
    exact ⟨nofun, nofun⟩
  · intro t ht
    obtain ⟨x, _, rfl⟩ := List.mem_map.mp ht
    rfl
theorem sortOk_ints (l : List Int) : SortOk (l.map T.int) := by
  refine ⟨by simp [T.plain], ?_, ?_, ?_⟩
  · rw [pds_map]
    intro d hd d' hd'
    obtain ⟨x, _, rfl⟩ := List.mem_map.mp hd
    obtain ⟨y, _, rfl⟩ := List.mem_map.mp hd'
    rfl
  · rw [pds_map]
    refine .inr fun d hd => ?_
    obtain ⟨x, _, rfl⟩ := List.mem_map.mp hd
    exact ⟨nofun, nofun⟩
  · intro t ht
    obtain ⟨x, _, rfl⟩ := List.mem_map.mp ht
    rfl
def sortTx (l : List Tx) : List Tx := l.mergeSort fun a b => decide (a ≤ b)
theorem le_str' (a b : Tx) : T.le (.str a) (.str b) = decide (a ≤ b) := by
  unfold T.le
  rw [lt_str']
  by_cases h : a ≤ b
  · rw [decide_eq_true h, decide_eq_false (by simpa using h)]; rfl
  · rw [decide_eq_false h, decide_eq_true (by simpa using h)]; rfl
theorem sortL_str (l : List Tx) : sortL (l.map T.str) = (sortTx l).map T.str := by
  unfold sortL sortTx
  rw [List.map_mergeSort (s := T.le)]
  intro a _ b _
  exact (le_str' a b).symm
theorem eachIs_zip {K : PySem.W.Frag} {Z : Addr → Prop} {H : Hp} : ∀ {ts : List T} {vs : List V} {us : List Value}, RVs K Z H ts vs → Vals vs us → PySem.W.EachIs (fun (u : Value) (p : T × V) => RelV p.2 u ∧ RV K Z H p.1 p.2) us (ts.zip vs)
  | _, _, _, .nil, .nil => .nil
  | _, _, _, .cons t v ts vs h1 h2, .cons r rr => .cons ⟨r, h1⟩ (eachIs_zip h2 rr)
theorem zip_fst {K : PySem.W.Frag} {Z : Addr → Prop} {H : Hp} : ∀ {ts : List T} {vs : List V}, RVs K Z H ts vs → (ts.zip vs).map (·.1) = ts
  | _, _, .nil => rfl
  | _, _, .cons t v ts vs h1 h2 => by rw [List.zip_cons_cons, List.map_cons, zip_fst h2]
theorem eachIs_out {K : PySem.W.Frag} {Z : Addr → Prop} {H : Hp} : ∀ {us : List Value} {ps : List (T × V)}, PySem.W.EachIs (fun (u : Value) (p : T × V) => RelV p.2 u ∧ RV K Z H p.1 p.2) us ps → Vals (ps.map (·.2)) us ∧ RVs K Z H (ps.map (·.1)) (ps.map (·.2))
  | _, _, .nil => ⟨.nil, .nil⟩
  | _, _, .cons h1 h2 => ⟨.cons h1.1 (eachIs_out h2).1, .cons _ _ _ _ h1.2 (eachIs_out h2).2⟩
theorem reads_each {pins : List (Addr × Obj)} {s : Shared} {σ : L2.St} {H : Hp} {Z : Addr → Prop} (I : Inv X pins σ H s) : ∀ {ts : List T} {vs : List V} {us : List Value}, RVs X.K Z H ts vs → Vals vs us → T.plains ts = true →
    PySem.W.EachIs (fun (u : Value) (p : T × V) => ∃ as, Reads s.heap u p.1.pd as) us (ts.zip vs)
  | _, _, _, .nil, .nil, _ => .nil
  | _, _, _, .cons t v ts vs h1 h2, .cons r rr, p => by
    rw [T.plains, Bool.and_eq_true] at p
    exact .cons (Dp.reads I _ _ _ (h1.dp p.1) r) (reads_each I h2 rr p.2)
theorem sort_core (hu : X.A.units + 65 < cLine) {pins : List (Addr × Obj)} {s : Shared} {σ : L2.St} {H : Hp} {Z : Addr → Prop} {l : List T} {vs : List V} {a : Addr} {Q : VK} (I : Inv X pins σ H s) (hq : SqL X.K H a vs) (r : RVs X.K Z H l vs) (ok : SortOk l)
    (q : ∀ p vs, H p = none → RVs X.K Z H (sortL l) vs → vs.length ≤ sizeLine → Q (.ref p) (upd H p (.lst vs))) : wpAny (model X.prog X.w) X.A (call (.builtin "sorted") [.ref a]) (EP X pins σ Q) X.xe s := by
  obtain ⟨its, rv, hl, hz⟩ := I.list hq
  have h1 := eachIs_zip r rv
  have h2 := reads_each I r rv ok.1
  have hzip : ((l.zip vs).map fun p => p.1.pd) = T.pds l := by
    rw [pds_eq, ← zip_fst r, List.map_map, zip_fst r]; rfl
  have hlen : (l.zip vs).length = vs.length := by rw [List.length_zip, r.len]; omega
  refine PySem.W.sorted_data (enc := fun p : T × V => p.1.pd) hl.isList h1 h2 (by rw [hzip]; exact ok.2.1) (by rw [hzip]; exact ok.2.2.1) (by rw [hlen]; exact hz) (fun p hp => ?_) fun out ho he => ?_
  · have : p.1 ∈ l := by
      have := List.mem_map_of_mem (f := (·.1)) hp
      rw [zip_fst r] at this
      exact this
    have hd : p.1.pd.depth ≤ 40 := of_decide_eq_true (ok.2.2.2 _ this)
    show X.A.units + 2 + p.1.pd.depth < cLine
    omega
  · obtain ⟨o1, o2⟩ := eachIs_out he
    have e1 : ((l.zip vs).mergeSort (PySem.W.dataLe false fun p : T × V => p.1.pd)).map (·.1) = sortL l := by
      rw [List.map_mergeSort (s := T.le), zip_fst r]; rfl
      intro a _ b _
      rw [PySem.W.dataLe_eq]; rfl
    rw [e1] at o2
    obtain ⟨ep, he'⟩ := PyProof.Rows.sortedAll_at s.heap its out.toArray
    have hlen2 : (((l.zip vs).mergeSort (PySem.W.dataLe false fun p : T × V => p.1.pd)).map (·.2)).length ≤ sizeLine := by
      rw [List.length_map, List.length_mergeSort, hlen]; exact hz
    exact ⟨.ref _, upd H (s.heap.objs.size + 1) (.lst _), I.laid (t' := s.toks) (fun _ _ => PyProof.Rows.sortedAll_old) (Nat.le_succ _) ⟨hlen2, out, ep, o1, he'⟩, rfl, q _ _ (I.hok.fresh (Nat.le_succ _)) o2 hlen2⟩
/-! ### min, max of a list -/
/-! ### methods -/
abbrev FM := D → List D → List O → List O → R0 D
def rMM (K : PySem.W.Frag) (g : FM) : V → List V → Hp → VK → Prop := fun x xs H Q => ∃ c P S d ds, Sim K P S c H ∧ RD K c H d x ∧ RDs K c H ds xs ∧ Post0 K P c H (RD K) (g d ds P S) Q
structure MtdM (X : Cx) (id : String) (g : FM) : Prop where
  run : MtR X id (rMM X.K g)
abbrev Kd := D → List O → List O → Bool
def KdOk (K : PySem.W.Frag) (T : String) (kd : Kd) : Prop := ∀ (P S : List O) (c : Cf) (H : Hp) (d : D) (x : V), Sim K P S c H → RD K c H d x → kd d P S = true → tyV K T x H
def kdStr : Kd := fun d _ _ => match d with
  | .t (.str _) => true
  | _ => false
def kdLst : Kd := fun d P S => match d with
  | .t (.lst _) => true
  | .t (.scr _) => true
  | .ref i => match (P ++ S)[i]? with
    | some (.lst _) => true
    | _ => false
  | _ => false
theorem kd_str {K : PySem.W.Frag} : KdOk K "str" kdStr := by
  intro P S c H d x hS r h
  cases d with
  | ref i => cases h
  | t d =>
    cases d <;> first | (exact Bool.noConfusion h) | skip
    cases r
    rfl
theorem kd_lst {K : PySem.W.Frag} : KdOk K "list" kdLst := by
  intro P S c H d x hS r h
  cases d with
  | ref i =>
    obtain ⟨_, rfl⟩ := r
    unfold kdLst at h
    simp only at h
    cases z : (P ++ S)[i]? with
    | none => rw [z] at h; cases h
    | some o =>
      rw [z] at h
      cases o <;> first | (exact Bool.noConfusion h) | skip
      obtain ⟨vs, hH, _⟩ := hS.ro i _ z
      exact .inl ⟨rfl, vs, SqL.of hH⟩
  | t d =>
    cases d <;> first | (exact Bool.noConfusion h) | skip
    · cases r with
      | lst _ a vs h1 h2 h3 h4 => exact .inl ⟨rfl, vs, SqL.of h2⟩
    · obtain ⟨a, rfl, _, h2, _⟩ := RD.scrE r
      exact .inl ⟨rfl, _, h2⟩
def mMeth (kd : Kd) (g : FM) (fo : ME) (fs : MA) : ME := fun P ρ S => (fo P ρ S).bind fun d S1 => if kd d P S1 then (fs P ρ S1).bind fun ds S2 => lift (g d ds P S2) else .no
variable {o e : Expr} {es : List Expr} {fo : ME} {fs : MA} {name : Str} {apos cpos : Pos} {T' id : String} {g : FM} {kd : Kd}
theorem pm_meth (pa : PlainAttrs T') (slot : Slot T' name id) (hty : typeOf (.builtin id) = pure (.type "method_descriptor")) (hk : KdOk X.K T' kd) (hm : MtdM X id g) (ho : PM X W o fo) (ha : PMA X W (e :: es) fs)
    (hbase : attributeBase o name X.env (eval o X.env) = eval o X.env := by rfl)
    (hfew : ((backTo cpos (starEach (e :: es) X.env)).all (fun x => !x.1) && (backToKw cpos (keywordEach [] X.env)).all (fun x => x.1.isSome)
      && decide ((e :: es).length + ([] : List Keyword).length + (if ([] : List Keyword).isEmpty then 0 else 1) < 30)) = true := by rfl)
    (hline : (apos.endLine == cpos.line) = true := by rfl) (hs : starEach (e :: es) X.env = (false, eval e X.env) :: starEach es X.env := by rfl) (hplain : (backTo cpos (starEach es X.env)).any (·.1) = false := by rfl) :
    PM X W (.Call (.Attribute o name apos) (e :: es) [] cpos) (mMeth kd g fo fs) := by
  refine ⟨pe_weak (pe_bm pa slot hty hm.run ho.run ha.run hbase hfew hline hs hplain) fun σ H Q h => ?_⟩
  obtain ⟨c, P, ρ, S, hE, hS, h⟩ := h
  refine tM_bind hE hS h fun d v S1 c1 H1 e1 E1 s1 r1 h1 => ?_
  by_cases hkd : kd d P S1 = true
  · rw [if_pos hkd] at h1
    refine ⟨hk P S1 c1 H1 d v s1 r1 hkd, ?_⟩
    exact tMA_bind E1 s1 h1 fun ds vs S2 c2 H2 e2 E2 s2 r2 h2 => ⟨c2, P, S2, d, ds, s2, r1.mono e2, r2, h2.low⟩
  · rw [if_neg hkd] at h1
    exact h1.elim
theorem pm_meth0 (pa : PlainAttrs T') (slot : Slot T' name id) (hty : typeOf (.builtin id) = pure (.type "method_descriptor")) (hk : KdOk X.K T' kd) (hm : MtdM X id g) (ho : PM X W o fo)
    (hbase : attributeBase o name X.env (eval o X.env) = eval o X.env := by rfl) (hline : (apos.endLine == cpos.line) = true := by rfl) : PM X W (.Call (.Attribute o name apos) [] [] cpos) (mMeth kd g fo mNil) := by
  refine ⟨pe_weak (pe_bm0 pa slot hty hm.run ho.run hbase hline) fun σ H Q h => ?_⟩
  obtain ⟨c, P, ρ, S, hE, hS, h⟩ := h
  refine tM_bind hE hS h fun d v S1 c1 H1 e1 E1 s1 r1 h1 => ?_
  by_cases hkd : kd d P S1 = true
  · rw [if_pos hkd] at h1
    exact ⟨hk P S1 c1 H1 d v s1 r1 hkd, c1, P, S1, d, [], s1, r1, .nil, Post.low h1⟩
  · rw [if_neg hkd] at h1
    exact h1.elim
/-- the list in an active cell -/
def cellL (P S : List O) (d : D) : Option (Nat × List D) := match d with
  | .ref i => if P.length ≤ i then match S[i - P.length]? with
    | some (.lst l) => some (i - P.length, l)
    | _ => none else none
  | _ => none
theorem cellL_some {P S : List O} {d : D} {j : Nat} {l : List D} (h : cellL P S d = some (j, l)) : d = .ref (P.length + j) ∧ S[j]? = some (.lst l) := by
  unfold cellL at h
  cases d with
  | t x => cases h
  | ref i =>
    simp only at h
    by_cases hi : P.length ≤ i
    · rw [if_pos hi] at h
      cases z : S[i - P.length]? with
      | none => rw [z] at h; cases h
      | some o =>
        rw [z] at h
        cases o <;> first | (exact nomatch (show (none : Option (Nat × List D)) = some _ from h)) | skip
        cases h
        exact ⟨by congr 1; omega, z⟩
    · rw [if_neg hi] at h
      cases h
theorem cellL_at {K : PySem.W.Frag} {P S : List O} {c : Cf} {H : Hp} {d : D} {x : V} {j : Nat} {l : List D} (hS : Sim K P S c H) (r : RD K c H d x) (h : cellL P S d = some (j, l)) : x = .ref (c.m (P.length + j)) ∧ ∃ vs, H (c.m (P.length + j)) = some (.lst vs) ∧ vs.length ≤ sizeLine ∧ RDs K c H l vs := by
  obtain ⟨rfl, hj⟩ := cellL_some h
  obtain ⟨_, rfl⟩ := r
  have : (P ++ S)[P.length + j]? = some (.lst l) := by rw [List.getElem?_append_right (by omega)]; simpa using hj
  exact ⟨rfl, hS.ro _ _ this⟩
/-- a cell's list is put -/
theorem putL {K : PySem.W.Frag} {P S : List O} {c : Cf} {H : Hp} {j : Nat} {l l' : List D} {vs' : List V} {d : D} {v : V} {Q : VK} (hS : Sim K P S c H) (hj : S[j]? = some (.lst l)) (hl : vs'.length ≤ sizeLine) (r : RDs K c H l' vs') (rd : RD K c H d v)
    (q : Post0 K P c H (RD K) (some (d, S.set j (.lst l'))) Q) : Q v (upd H (c.m (P.length + j)) (.lst vs')) := by
  have e := Ev.put (o := .lst vs') hS hj rfl
  exact q c _ _ e (Sim.put hS hj rfl rfl ⟨vs', upd_same, hl, r.mono e⟩) (rd.mono e)
theorem RD.non {K : PySem.W.Frag} {c : Cf} {H : Hp} : RD K c H (.t .non) .non := RV.non
def appendG : FM := fun d ds P S => match cellL P S d with
  | some (j, l) => match ds with
    | [x] => if l.length < sizeLine then some (.t .non, S.set j (.lst (l ++ [x]))) else none
    | _ => none
  | none => none
theorem mt_appendM : MtdM X "list.append" appendG := by
  refine ⟨fun pins s σ H x xs v us Q I rx rs h => ?_⟩
  obtain ⟨c, P, S, d, ds, hS, rd, rds, q⟩ := h
  unfold appendG at q
  cases z : cellL P S d with
  | none => rw [z] at q; exact q.elim
  | some p =>
    obtain ⟨j, l⟩ := p
    rw [z] at q
    simp only at q
    split at q
    · obtain ⟨rfl, vs, hH, hl, rl⟩ := cellL_at hS rd z
      obtain ⟨y, rfl, ry⟩ := rds.one
      split at q
      · rename_i hlen
        have hlen' : vs.length < sizeLine := by rw [← rl.len]; exact hlen
        exact mt_append pins s σ H _ _ v us Q I rx rs ⟨_, vs, y, rfl, rfl, hH, hlen', putL hS (cellL_some z).2 (by rw [List.length_append, List.length_singleton]; omega) (Paired.snoc rl ry) RD.non q⟩
      · exact q.elim
    · exact q.elim
def popG : FM := fun d ds P S => match cellL P S d with
  | some (j, l) => match ds with
    | [] => l.getLast?.map fun y => (y, S.set j (.lst l.dropLast))
    | [.t (.int i)] => if -(2 ^ 62) ≤ i ∧ i ≤ 2 ^ 62 then (match ixN l.length i with
      | some k => (l[k]?).map fun y => (y, S.set j (.lst (l.eraseIdx k)))
      | none => none) else none
    | _ => none
  | none => none
theorem RDs.dropLast {K : PySem.W.Frag} {c : Cf} {H : Hp} : ∀ {a : List D} {u : List V}, RDs K c H a u → RDs K c H a.dropLast u.dropLast
  | _, _, .nil => .nil
  | _, _, .cons h1 .nil => .nil
  | _, _, .cons h1 (.cons h2 h3) => .cons h1 (RDs.dropLast (.cons h2 h3))
theorem RDs.erase {K : PySem.W.Frag} {c : Cf} {H : Hp} : ∀ {a : List D} {u : List V} (k : Nat), RDs K c H a u → RDs K c H (a.eraseIdx k) (u.eraseIdx k)
  | _, _, _, .nil => .nil
  | _, _, 0, .cons h1 h2 => h2
  | _, _, k + 1, .cons h1 h2 => .cons h1 (RDs.erase k h2)
theorem mt_popM : MtdM X "list.pop" popG := by
  refine ⟨fun pins s σ H x xs v us Q I rx rs h => ?_⟩
  obtain ⟨c, P, S, d, ds, hS, rd, rds, q⟩ := h
  unfold popG at q
  cases z : cellL P S d with
  | none => rw [z] at q; exact q.elim
  | some p =>
    obtain ⟨j, l⟩ := p
    rw [z] at q
    simp only at q
    obtain ⟨rfl, vs, hH, hl, rl⟩ := cellL_at hS rd z
    split at q
    · cases rds
      cases e : l.getLast? with
      | none => rw [e] at q; exact q.elim
      | some y =>
        rw [e] at q
        rw [List.getLast?_eq_getElem?] at e
        obtain ⟨w, h3, h4⟩ := rl.at e
        rw [rl.len] at h3
        exact mt_pop pins s σ H _ _ v us Q I rx rs ⟨_, vs, w, rfl, rfl, hH, h3, putL hS (cellL_some z).2 (by rw [List.length_dropLast]; omega) rl.dropLast h4 q⟩
    · rename_i i
      obtain ⟨y, rfl, ry⟩ := rds.one
      cases ry
      split at q
      · rename_i hi
        split at q
        · rename_i k hk
          cases e : l[k]? with
          | none => rw [e] at q; exact q.elim
          | some y =>
            rw [e] at q
            obtain ⟨w, h3, h4⟩ := rl.at e
            have hk' := hk
            rw [rl.len] at hk'
            exact mt_popAt pins s σ H _ _ v us Q I rx rs ⟨_, vs, i, k, w, rfl, rfl, hH, by omega, by omega, (ixN_seq hk').1, h3, putL hS (cellL_some z).2 (Nat.le_trans (len_erase vs k) hl) (rl.erase k) h4 q⟩
        · exact q.elim
      · exact q.elim
    · exact q.elim
/-! join -/
def joinTx (s : Tx) : List Tx → Tx
  | [] => []
  | [p] => p
  | p :: q :: r => p ++ (s ++ joinTx s (q :: r))
def strsOf : List T → Option (List Tx)
  | [] => some []
  | .str b :: r => (strsOf r).map (b :: ·)
  | _ => none
@[simp] theorem strsOf_map (l : List Tx) : strsOf (l.map T.str) = some l := by
  induction l with
  | nil => rfl
  | cons x l ih => rw [List.map_cons, strsOf, ih]; rfl
@[simp] theorem strsOf_mapf {α : Type} (g : α → Tx) (l : List α) : strsOf (l.map fun x => T.str (g x)) = some (l.map g) := by
  rw [← strsOf_map (l.map g), List.map_map]; rfl
theorem RVs.strs {K : PySem.W.Frag} {Z : Addr → Prop} {H : Hp} : ∀ {ts : List T} {vs : List V} {bs : List Tx}, RVs K Z H ts vs → strsOf ts = some bs → vs = (bs.map sv).map V.str
  | _, _, _, .nil, h => by cases h; rfl
  | _, _, _, .cons t v ts vs h1 h2, h => by
    cases t <;> simp [strsOf] at h
    obtain ⟨l, h3, rfl⟩ := h
    cases h1
    rw [RVs.strs h2 h3]; rfl
def joinG : FM := fun d ds _ S => match d, ds with
  | .t (.str s), [.t (.lst l)] => match strsOf l with
    | some ss => if (ss.map List.length).sum + ss.length * s.length ≤ sizeLine then some (.t (.str (joinTx s ss)), S) else none
    | none => none
  | .t (.str s), [.t (.tup l)] => match strsOf l with
    | some ss => if (ss.map List.length).sum + ss.length * s.length ≤ sizeLine then some (.t (.str (joinTx s ss)), S) else none
    | none => none
  | _, _ => none
theorem joinTx_len (s : Tx) : ∀ ss : List Tx, (joinTx s ss).length ≤ (ss.map List.length).sum + ss.length * s.length
  | [] => by simp [joinTx]
  | [p] => by simp [joinTx]
  | p :: q :: r => by
    have := joinTx_len s (q :: r)
    simp only [joinTx, List.length_append, List.map_cons, List.sum_cons, List.length_cons, Nat.add_mul] at this ⊢
    omega
theorem joinTx_eq (s : Tx) : ∀ ss : List Tx, TL.joinL s ss = joinTx s ss
  | [] => rfl
  | [p] => rfl
  | p :: q :: r => by rw [TL.joinL, joinTx, joinTx_eq s (q :: r)]
theorem join_sv (s : Tx) (ss : List Tx) : Txt.join (sv s) (ss.map sv) = sv (joinTx s ss) := by
  have h := TL.tl_join (sv s) (ss.map sv)
  have h1 : (ss.map sv).map TL.tl = ss := by
    rw [List.map_map]
    conv => rhs; rw [← List.map_id ss]
    exact List.map_congr_left fun a _ => sv_list a
  have h3 : TL.tl (sv s) = s := sv_list s
  rw [h1, h3, joinTx_eq] at h
  have e : (Str.join (sv s) (ss.map sv)).cps.toList = joinTx s ss := h
  rw [TL.join_eq, ← e, sv_of]
theorem mt_joinM : MtdM X "str.join" joinG := by
  refine ⟨fun pins s σ H x xs v us Q I rx rs h => ?_⟩
  obtain ⟨c, P, S, d, ds, hS, rd, rds, q⟩ := h
  have sums : ∀ ss : List Tx, ((ss.map sv).map (·.length)).sum = (ss.map List.length).sum := fun ss => by
    rw [List.map_map]
    exact congrArg List.sum (List.map_congr_left fun a _ => sv_len a)
  have hz : sizeLine = 16777216 := sizeLine_eq
  unfold joinG at q
  split at q
  · rename_i sp l
    cases es : strsOf l with
    | none => rw [es] at q; exact q.elim
    | some ss =>
      rw [es] at q
      simp only at q
      split at q
      · rename_i hlen
        obtain ⟨y, rfl, ry⟩ := rds.one
        cases rd with
        | str _ hsp =>
        cases ry with
        | lst _ a vs h1 h2 h3 h4 =>
          have := h4.strs es
          subst this
          exact mt_join pins s σ H _ _ v us Q I rx rs ⟨_, a, ss.map sv, rfl, rfl, .inl (SqL.of h2), by rw [sums, List.length_map, sv_len, ← hz]; exact hlen, by rw [join_sv]; exact q c _ H (Ev.refl hS) hS (RV.str _ (Nat.le_trans (joinTx_len _ _) hlen))⟩
      · exact q.elim
  · rename_i sp l
    cases es : strsOf l with
    | none => rw [es] at q; exact q.elim
    | some ss =>
      rw [es] at q
      simp only at q
      split at q
      · rename_i hlen
        obtain ⟨y, rfl, ry⟩ := rds.one
        cases rd with
        | str _ hsp =>
        obtain ⟨a, vs, rfl, h2, h3, h4⟩ := ry.tup
        have := h4.strs es
        subst this
        exact mt_join pins s σ H _ _ v us Q I rx rs ⟨_, a, ss.map sv, rfl, rfl, .inr h2, by rw [sums, List.length_map, sv_len, ← hz]; exact hlen, by rw [join_sv]; exact q c _ H (Ev.refl hS) hS (RV.str _ (Nat.le_trans (joinTx_len _ _) hlen))⟩
      · exact q.elim
  · exact q.elim

/-! ### stores: o[i] = v -/
/-- a dict in an active cell -/
def putD {κ : Type} [DecidableEq κ] (l : List (κ × D)) (k : κ) (v : D) : List (κ × D) := if l.any (fun p => decide (p.1 = k)) then l.map fun p => if p.1 = k then (p.1, v) else p else l ++ [(k, v)]
def setG (d i v : D) (P S : List O) : Option (List O) := match d, i with
  | .ref r, .t k => if P.length ≤ r then match S[r - P.length]? with
    | some (.lst l) => match k with
      | .int n => (ixN l.length n).map fun j => S.set (r - P.length) (.lst (l.set j v))
      | _ => none
    | some (.dic l) => match k.at with
      | some k => if l.length < sizeLine then some (S.set (r - P.length) (.dic (putD l k v))) else none
      | none => none
    | some (.dit l) => match k.tat with
      | some k => if l.length < sizeLine then some (S.set (r - P.length) (.dit (putD l k v))) else none
      | none => none
    | _ => none else none
  | _, _ => none
end
end Fm

/-! Fm9: stores, dict displays, dict comprehensions, sorted of dicts. -/
namespace Fm
open PySem PySem.Spec PyProof.Rows L2

/-! ### stores -/
theorem putK_key (l : List (At × D)) (kvs : List (Key × V)) (k : At) (d : D) (v : V) {K : PySem.W.Frag} {c : Cf} {H : Hp} (hf : k.Fit) (rd : RD K c H d v)
    (r : Paired (fun (p : At × D) (q : Key × V) => (p.1.Fit ∧ q.1 = p.1.key) ∧ RD K c H p.2 q.2) l kvs) : Paired (fun (p : At × D) (q : Key × V) => (p.1.Fit ∧ q.1 = p.1.key) ∧ RD K c H p.2 q.2) (putD l k d) (putK kvs k.key v) := by
  have hany : l.any (fun p => decide (p.1 = k)) = kvs.any fun kv => decide (kv.1 = k.key) := by
    induction r with
    | nil => rfl
    | cons h1 _ ih => rw [List.any_cons, List.any_cons, ih, h1.1.2, key_dec]
  unfold putD putK
  rw [hany]
  by_cases hc : (kvs.any fun kv => decide (kv.1 = k.key)) = true
  · rw [if_pos hc, if_pos hc]
    clear hc hany
    induction r with
    | nil => exact .nil
    | cons h1 h2 ih =>
      rename_i p q _ _
      refine .cons ?_ ih
      by_cases e : p.1 = k
      · have e2 : q.1 = k.key := by rw [h1.1.2, e]
        dsimp only
        rw [if_pos e, if_pos e2]
        exact ⟨h1.1, rd⟩
      · have e2 : ¬ q.1 = k.key := fun z => e (At.key_inj (h1.1.2.symm.trans z))
        dsimp only
        rw [if_neg e, if_neg e2]
        exact h1
  · rw [if_neg hc, if_neg hc]
    exact Paired.snoc r ⟨⟨hf, rfl⟩, rd⟩
theorem putK_keys (l : List (List At × D)) (kvs : List (List Key × V)) (k : List At) (d : D) (v : V) {K : PySem.W.Frag} {c : Cf} {H : Hp} (hf : ∀ x ∈ k, x.Fit) (rd : RD K c H d v)
    (r : Paired (fun (p : List At × D) (q : List Key × V) => ((∀ x ∈ p.1, x.Fit) ∧ q.1 = p.1.map At.key) ∧ RD K c H p.2 q.2) l kvs) :
    Paired (fun (p : List At × D) (q : List Key × V) => ((∀ x ∈ p.1, x.Fit) ∧ q.1 = p.1.map At.key) ∧ RD K c H p.2 q.2) (putD l k d) (putK kvs (k.map At.key) v) := by
  have kinj : ∀ {a b : List At}, a.map At.key = b.map At.key → a = b := fun e => (List.map_inj_right fun _ _ => At.key_inj).mp e
  have hany : l.any (fun p => decide (p.1 = k)) = kvs.any fun kv => decide (kv.1 = k.map At.key) := by
    induction r with
    | nil => rfl
    | cons h1 _ ih => rw [List.any_cons, List.any_cons, ih, h1.1.2, keys_dec]
  unfold putD putK
  rw [hany]
  by_cases hc : (kvs.any fun kv => decide (kv.1 = k.map At.key)) = true
  · rw [if_pos hc, if_pos hc]
    clear hc hany
    induction r with
    | nil => exact .nil
    | cons h1 h2 ih =>
      rename_i p q _ _
      refine .cons ?_ ih
      by_cases e : p.1 = k
      · have e2 : q.1 = k.map At.key := by rw [h1.1.2, e]
        dsimp only
        rw [if_pos e, if_pos e2]
        exact ⟨h1.1, rd⟩
      · have e2 : ¬ q.1 = k.map At.key := fun z => e (kinj (h1.1.2.symm.trans z))
        dsimp only
        rw [if_neg e, if_neg e2]
        exact h1
  · rw [if_neg hc, if_neg hc]
    exact Paired.snoc r ⟨⟨hf, rfl⟩, rd⟩
theorem RDs.set {K : PySem.W.Frag} {c : Cf} {H : Hp} {d : D} {v : V} (r : RD K c H d v) : ∀ {a : List D} {u : List V} (k : Nat), RDs K c H a u → RDs K c H (a.set k d) (u.set k v)
  | _, _, _, .nil => .nil
  | _, _, 0, .cons h1 h2 => .cons r h2
  | _, _, k + 1, .cons h1 h2 => .cons h1 (RDs.set r k h2)
/-- what a store asks, by values -/
def rPutD : V → V → V → Hp → (Hp → Prop) → Prop := fun o i v H Q => ∃ a H', o = .ref a ∧ DPut H a i v H' ∧ Q H'
section
variable {X : Cx} {W : WX}
theorem set_dictD (hu : X.A.units + 1 < cLine) : PSet X rPutD := by
  intro pins s σ H o i v ov iv u Q I ro ri rv h
  obtain ⟨a, H', rfl, hp, q⟩ := h
  cases ro
  exact d_setItem hu I hp ri rv fun s' I' => ⟨H', I', q⟩
theorem set_any (hu : X.A.units + 1 < cLine) : PSet X fun o i v H Q => rSetL o i v H Q ∨ rPutD o i v H Q := by
  intro pins s σ H o i v ov iv u Q I ro ri rv h
  rcases h with h | h
  · exact set_list pins s σ H o i v ov iv u Q I ro ri rv h
  · exact set_dictD hu pins s σ H o i v ov iv u Q I ro ri rv h
theorem setG_ok {K : PySem.W.Frag} {P S S' : List O} {c : Cf} {H : Hp} {d i v : D} {x y w : V} {Q : Hp → Prop} (hS : Sim K P S c H) (rd : RD K c H d x) (ri : RD K c H i y) (rv : RD K c H v w) (h : setG d i v P S = some S')
    (q : ∀ c' H', Ev P c H c' H' → Sim K P S' c' H' → Q H') : rSetL x y w H Q ∨ rPutD x y w H Q := by
  unfold setG at h
  cases d with
  | t d => cases h
  | ref r =>
    cases i with
    | ref j => cases h
    | t k =>
      simp only at h
      by_cases hr : P.length ≤ r
      · rw [if_pos hr] at h
        obtain ⟨hlt, rfl⟩ := rd
        cases z : S[r - P.length]? with
        | none => rw [z] at h; cases h
        | some o =>
          rw [z] at h
          have er : r = P.length + (r - P.length) := by omega
          have hat : (P ++ S)[r]? = some o := by rw [List.getElem?_append_right hr]; exact z
          have hro := hS.ro r o hat
          cases o <;> first | (exact nomatch (show (none : Option (List O)) = some S' from h)) | skip
          · rename_i l
            simp only at h
            cases k <;> first | (exact nomatch (show (none : Option (List O)) = some S' from h)) | skip
            rename_i n
            simp only at h
            cases zi : ixN l.length n with
            | none => rw [zi] at h; cases h
            | some j =>
              rw [zi] at h
              cases h
              cases ri
              obtain ⟨vs, hH, hl, rs⟩ := hro
              refine .inl ⟨c.m r, vs, n, j, rfl, rfl, hH, by rw [← rs.len]; exact zi, ?_⟩
              rw [er]
              have e := Ev.put (o := .lst (vs.set j w)) hS z rfl
              exact q c _ e (Sim.put hS z rfl rfl ⟨_, upd_same, by rw [List.length_set]; exact hl, RDs.set (rv.mono e) j (rs.mono e)⟩)
          · rename_i l
            simp only at h
            cases zk : k.at with
            | none => rw [zk] at h; cases h
            | some k' =>
              rw [zk] at h
              simp only at h
              by_cases hl : l.length < sizeLine
              · rw [if_pos hl] at h
                cases h
                obtain ⟨rfl, hf⟩ := RV.atom ri zk
                obtain ⟨kvs, hH, rs⟩ := hro
                refine .inr ⟨c.m r, _, rfl, DPut.k hH (by rw [← Paired.length rs]; exact hl), ?_⟩
                rw [er]
                have e := Ev.put (o := .dK (putK kvs k'.key w)) hS z rfl
                exact q c _ e (Sim.put hS z rfl rfl ⟨_, upd_same, putK_key l kvs k' v w hf (rv.mono e) (Paired.mapP rs fun _ _ z => ⟨z.1, z.2.mono e⟩)⟩)
              · rw [if_neg hl] at h; cases h
          · rename_i l
            simp only at h
            cases zk : k.tat with
            | none => rw [zk] at h; cases h
            | some k' =>
              rw [zk] at h
              simp only at h
              by_cases hl : l.length < sizeLine
              · rw [if_pos hl] at h
                cases h
                obtain ⟨l', rfl, q2⟩ := T.tat_some zk
                cases ri with
                | tup _ b ws h1 h2 h3 h4 =>
                  obtain ⟨rfl, hf⟩ := h4.atoms q2
                  obtain ⟨kvs, hH, rs⟩ := hro
                  refine .inr ⟨c.m r, _, rfl, DPut.t hH h2 (by rw [← Paired.length rs]; exact hl), ?_⟩
                  rw [er]
                  have e := Ev.put (o := .dT (putK kvs (k'.map At.key) w)) hS z rfl
                  exact q c _ e (Sim.put hS z rfl rfl ⟨_, upd_same, putK_keys l kvs k' v w hf (rv.mono e) (Paired.mapP rs fun _ _ z => ⟨z.1, z.2.mono e⟩)⟩)
              · rw [if_neg hl] at h; cases h
      · rw [if_neg hr] at h
        cases h
def sPut (fo fi fe : ME) : MS := fun P ρ S => (fe P ρ S).oc ρ fun v S1 => (fo P ρ S1).oc ρ fun d S2 => (fi P ρ S2).oc ρ fun i S3 => match setG d i v P S3 with
  | some S4 => .nx ρ S4
  | none => .no
variable {o i e : Expr} {fo fi fe : ME} {pos pos' : Pos}
theorem pms_put (hu : X.A.units + 1 < cLine) (ho : PM X W o fo) (hi : PM X W i fi) (he : PM X W e fe)
    (ha : ∀ v, assign (.Subscript o i pos') X.env v = (do
      let ov ← holding [v] (eval o X.env)
      let iv ← holding [v, ov] (eval i X.env)
      standAt pos'
      holding [v, ov, iv] (setItem ov iv v)
      release [v, ov, iv] []) := by intro _; rfl)
    (hs : swapsWithSole [.Subscript o i pos'] e pos.line X.env = pure false := by rfl) (hw : swappedStores [.Subscript o i pos'] e X.env = pure none := by rfl)
    (h1 : (assignEach [.Subscript o i pos'] X.env).map (·.2) = [assign (.Subscript o i pos') X.env] := by rfl) : PMS X W (.Assign [.Subscript o i pos'] e pos) (sPut fo fi fe) := by
  refine ⟨ps_weak (ps_asg he.run (pg_sub ho.run hi.run (set_any hu) ha) hs hw (h1 := h1)) fun D σ H h => ?_⟩
  obtain ⟨c, P, ρ, S, hE, hS, h⟩ := h
  refine tM_oc hE hS h fun v vv S1 c1 H1 e1 E1 s1 r1 h1 => ?_
  refine tM_oc E1 s1 h1 fun d dv S2 c2 H2 e2 E2 s2 r2 h2 => ?_
  refine tM_oc E2 s2 h2 fun k kv S3 c3 H3 e3 E3 s3 r3 h3 => ?_
  cases q : setG d k v P S3 with
  | none => rw [q] at h3; exact h3.elim
  | some S4 =>
    rw [q] at h3
    exact setG_ok s3 (r2.mono e3) r3 ((r1.mono e2).mono e3) q fun c4 H4 e4 s4 => h3 c4 σ H4 e4 s4 (E3.mono e4)
/-! d[k] op= e: dicts -/
/-! ### dict displays -/
def mDicC : ME := fun P _ S => .ok (.ref (P.length + S.length)) (S ++ [.dic []])
theorem pm_dicC : PM X W (.Dict [] [] pos) mDicC := by
  refine ⟨pe_weak pe_dnewK fun σ H Q h => ?_⟩
  obtain ⟨c, P, ρ, S, hE, hS, h⟩ := h
  intro p hp
  have hn := hS.n
  refine h (c.cell p) _ _ (Ev.cellE hS hp) (Sim.cell hS hp ⟨[], upd_same, .nil⟩) ⟨by show _ < c.n + 1; omega, ?_⟩
  show V.ref p = V.ref (if P.length + S.length = c.n then p else _)
  rw [if_pos hn]
/-! ### dict comprehensions: keys ints or texts -/
def dcGo (g : MG) (ft : MT) (fk fv : ME) (P : List O) (ρ : En) : List D → List O → List (At × D) → R (List (At × D))
  | [], S, acc => .ok acc S
  | d :: ds, S, acc => match g d ρ with
    | none => .no
    | some ρ1 => (ft P ρ1 S).nx.bind fun b S1 => if b then (fk P ρ1 S1).nx.bind fun k S2 => (fv P ρ1 S2).nx.bind fun y S3 => match k with
        | .ref _ => .no
        | .t k => match k.at with
          | some k => dcGo g ft fk fv P ρ ds S3 (putD acc k y)
          | none => .no
      else dcGo g ft fk fv P ρ ds S1 acc
/-- the dict of trees that the pairs make -/
def treesK : List (At × D) → Option (List (At × T))
  | [] => some []
  | (k, .t x) :: r => (treesK r).map ((k, x) :: ·)
  | (_, .ref _) :: _ => none
def mDcG (fin : List (At × D) → List O → List O → R D) (fi : MI) (g : MG) (vs : List Nat) (ft : MT) (fk fv : ME) : ME := fun P ρ S => (fi P ρ S).bind fun ds S1 => (dcGo g ft fk fv P (wipeE ρ vs) ds S1 []).bind fun r S2 => fin r P S2
def finD : List (At × D) → List O → List O → R D := fun r _ S => match treesK r with
  | some ts => .ok (.t (.dic ts)) S
  | none => .no
def finDC : List (At × D) → List O → List O → R D := fun r P S => .ok (.ref (P.length + S.length)) (S ++ [.dic r])
abbrev KR (K : PySem.W.Frag) (c : Cf) (H : Hp) := Paired (fun (p : At × D) (q : Key × V) => (p.1.Fit ∧ q.1 = p.1.key) ∧ RD K c H p.2 q.2)
theorem KR.trees {K : PySem.W.Frag} {c : Cf} {H : Hp} : ∀ {l : List (At × D)} {kvs : List (Key × V)} {ts : List (At × T)}, KR K c H l kvs → treesK l = some ts → RKs K c.Z H ts kvs
  | _, _, _, .nil, h => by cases h; exact .nil
  | (k, .t x) :: r, (k', v) :: s, ts, .cons h1 h2, h => by
    unfold treesK at h
    cases q : treesK r with
    | none => rw [q] at h; cases h
    | some l =>
      rw [q] at h
      cases h
      have e : k' = k.key := h1.1.2
      subst e
      exact .cons k x v _ _ h1.1.1 h1.2 (KR.trees h2 q)
  | (_, .ref _) :: _, _, _, .cons _ _, h => by cases h
theorem KR.mono {K : PySem.W.Frag} {P : List O} {c c1 : Cf} {H H1 : Hp} {l : List (At × D)} {kvs : List (Key × V)} (e : Ev P c H c1 H1) (h : KR K c H l kvs) : KR K c1 H1 l kvs := Paired.mapP h fun _ _ z => ⟨z.1, z.2.mono e⟩
/-- giving a dict away as a cell's -/
theorem giveD {K : PySem.W.Frag} {P S S1 : List O} {c c0 : Cf} {H H0 : Hp} {p : Addr} (h0 : Sim K P S c0 H0) (hp : H0 p = none) (e : Ev P c0 H0 c H) (h : Sim K P S1 c H) (hy : c.Y p) {r : List (At × D)} {kvs : List (Key × V)} (hu : H p = some (.dK kvs)) (hr : KR K c H r kvs) :
    Ev P c0 H0 { c with Y := c0.Y, n := c.n + 1, m := fun i => if i = c.n then p else c.m i } H ∧ Sim K P (S1 ++ [.dic r]) { c with Y := c0.Y, n := c.n + 1, m := fun i => if i = c.n then p else c.m i } H := by
  have ne : ∀ {i : Nat} {w : O}, (P ++ S1)[i]? = some w → w.live = true → c.m i ≠ p := fun e l q => h.yc _ _ e l (q ▸ hy)
  have hn := h.n
  have m1 : ∀ {i}, i < c.n → (if i = c.n then p else c.m i) = c.m i := fun hi => if_neg (by omega)
  have en := e.n
  have e1 : ∀ {i w}, (P ++ (S1 ++ [.dic r]))[i]? = some w → (i < c.n ∧ (P ++ S1)[i]? = some w) ∨ (i = c.n ∧ w = .dic r) := fun {i w} q => by
    rw [← List.append_assoc] at q
    have hlen : (P ++ S1).length = c.n := by rw [List.length_append]; exact hn
    by_cases hi : i < c.n
    · rw [List.getElem?_append_left (by omega)] at q
      exact .inl ⟨hi, q⟩
    · have := (List.getElem?_eq_some_iff.mp q).1
      rw [List.length_append, List.length_singleton] at this
      have hi2 : i = c.n := by omega
      rw [hi2, List.getElem?_append_right (by omega), hlen, Nat.sub_self] at q
      exact .inr ⟨hi2, (Option.some.inj q).symm⟩
  have up : ∀ {w : O} {a : Addr}, RO K c H w a → RO K { c with Y := c0.Y, n := c.n + 1, m := fun i => if i = c.n then p else c.m i } H w a := fun {w a} q =>
    RO.mono' (c := c) (c1 := { c with Y := c0.Y, n := c.n + 1, m := fun i => if i = c.n then p else c.m i }) (fun _ z => z) (fun _ _ _ z _ => z) (fun _ _ _ _ _ z => z) (Nat.le_succ _) (fun i hi => m1 hi) rfl q
  refine ⟨⟨e.z, e.rd, e.rdD, Nat.le_succ_of_le e.n, fun i hi => (m1 (by omega)).trans (e.m i hi), fun i w q l => ?_, fun a z => ⟨z, (e.y a z).2⟩, e.fz⟩,
    ⟨by simp only [List.length_append, List.length_singleton]; omega, fun i w q => ?_, fun i w q l => ?_, fun i j w x qi qj li lj q => ?_, h.z, fun a z => h.y a (e.y a z).1, fun a z => h.yz a (e.y a z).1, fun i w q l => ?_⟩⟩
  · have e' : (P ++ S)[i]? = some w := by rw [List.getElem?_append_left (List.getElem?_eq_some_iff.mp q).1]; exact q
    exact ⟨(e.b i w q l).1, (e.b i w q l).2.1, h0.yc i w e' l⟩
  · show RO K _ H w (if i = c.n then p else c.m i)
    rcases e1 q with ⟨hi, q⟩ | ⟨hi, rfl⟩
    · rw [m1 hi]; exact up (h.ro i w q)
    · rw [if_pos hi]; exact up ⟨kvs, hu, hr⟩
  · show ¬ c.Z (if i = c.n then p else c.m i)
    rcases e1 q with ⟨hi, q⟩ | ⟨hi, rfl⟩
    · rw [m1 hi]; exact h.nz i w q l
    · rw [if_pos hi]; exact h.yz p hy
  · have q : (if i = c.n then p else c.m i) = (if j = c.n then p else c.m j) := q
    rcases e1 qi with ⟨hi, fi⟩ | ⟨hi, _⟩ <;> rcases e1 qj with ⟨hj, fj⟩ | ⟨hj, _⟩
    · rw [m1 hi, m1 hj] at q
      exact h.inj i j w x fi fj li lj q
    · rw [m1 hi, if_pos hj] at q
      exact absurd q (ne fi li)
    · rw [if_pos hi, m1 hj] at q
      exact absurd q.symm (ne fj lj)
    · omega
  · show ¬ c0.Y (if i = c.n then p else c.m i)
    rcases e1 q with ⟨hi, q⟩ | ⟨hi, rfl⟩
    · rw [m1 hi]; exact fun z => h.yc i w q l (e.y _ z).1
    · rw [if_pos hi]; exact fun z => h0.yne hp z rfl
def FinDOk (K : PySem.W.Frag) (fin : List (At × D) → List O → List O → R D) : Prop := ∀ (P S S1 : List O) (c c0 : Cf) (H H0 : Hp) (p : Addr) (r : List (At × D)) (kvs : List (Key × V)) (W : WX) (Q : VK), Sim K P S c0 H0 → H0 p = none → Ev P c0 H0 c H → Sim K P S1 c H → c.Y p → H p = some (.dK kvs) → KR K c H r kvs →
  Post K P c0 H0 (RD K) (fin r P S1) W Q → Q (.ref p) H
theorem fin_DC {K : PySem.W.Frag} : FinDOk K finDC := by
  intro P S S1 c c0 H H0 p r kvs W Q h0 hp e h hy hu hr q
  obtain ⟨g1, g2⟩ := giveD h0 hp e h hy hu hr
  have hn := h.n
  refine q _ _ H g1 g2 ⟨by show _ < c.n + 1; omega, ?_⟩
  show V.ref p = V.ref (if P.length + S1.length = c.n then p else _)
  rw [if_pos hn]
end
end Fm

/-! FmS: sets of texts, made of a list, a tuple or a text, and taken up at once. -/
namespace Fm
open PySem PySem.Spec PyProof.Rows L2

def txOf (e : Int × Value) : Str := match e.2 with
  | .str x _ => x
  | _ => Str.empty
def GdT (w : World) (e : Int × Value) : Prop := ∃ k tk, e.2 = Value.str k tk ∧ e.1 = hashStr w k
def LedT (w : World) (t : SetTable) : Prop := w.params.followText "set-order" = true ∨ t.led = true
/-- the set of texts at a: its members l, each once -/
structure SetT (w : World) (h : Heap) (a : Addr) (l : List Str) : Prop where
  ex : ∃ (o : Obj) (es : Array (Int × Value)) (ep : Nat) (t : SetTable), h.get? a = some o ∧ o.ExactSet ∧ o.data = .set es ep t ∧ (∀ e ∈ es.toList, GdT w e) ∧ (es.toList.map txOf).Perm l ∧ es.size < scanBound ∧ t.fits es.size = true ∧ Ris t.place.toList ∧ LedT w t
  nd : l.Nodup
section
variable {P : Program} {w : World} {h h' : Heap} {a : Addr} {l : List Str}
theorem SetT.keep (r : SetT w h a l) (k : ∀ o, h.get? a = some o → h'.get? a = some o) : SetT w h' a l := by
  obtain ⟨⟨o, es, ep, t, ho, q⟩, n⟩ := r
  exact ⟨⟨o, es, ep, t, k o ho, q⟩, n⟩
theorem SetT.lt (r : SetT w h a l) : a < h.objs.size := by
  obtain ⟨⟨o, es, ep, t, ho, q⟩, n⟩ := r
  exact Heap.lt_size ho
end
section
variable {P : Program} {w : World} {A : Around} {E : Value → Shared → Prop} {s : Shared} {a : Addr} {l : List Str}
/-- the members behind one more -/
def addM {α : Type} [DecidableEq α] (l : List α) (k : α) : List α := if k ∈ l then l else k :: l
end
/-- the members of a list, each once -/
def onceM {α : Type} [DecidableEq α] (l : List α) : List α := l.foldl addM []
theorem addM_mem {α : Type} [DecidableEq α] (l : List α) (k x : α) : x ∈ addM l k ↔ x = k ∨ x ∈ l := by
  unfold addM
  split
  · rename_i h
    constructor
    · exact .inr
    · rintro (rfl | z)
      · exact h
      · exact z
  · exact List.mem_cons
theorem foldM_mem {α : Type} [DecidableEq α] (x : α) (r : List α) : ∀ l : List α, x ∈ r.foldl addM l ↔ x ∈ r ∨ x ∈ l := by
  induction r with
  | nil => exact fun l => by simp
  | cons y r ih =>
    intro l
    rw [List.foldl_cons, ih, addM_mem, List.mem_cons]
    constructor
    · rintro (z | z | z)
      · exact .inl (.inr z)
      · exact .inl (.inl z)
      · exact .inr z
    · rintro ((z | z) | z)
      · exact .inr (.inl z)
      · exact .inl z
      · exact .inr (.inr z)
theorem onceM_mem {α : Type} [DecidableEq α] (x : α) (l : List α) : x ∈ onceM l ↔ x ∈ l := by
  unfold onceM
  rw [foldM_mem]; simp
theorem addM_nodup {α : Type} [DecidableEq α] {l : List α} (h : l.Nodup) (k : α) : (addM l k).Nodup := by
  unfold addM
  split
  · exact h
  · rename_i q; exact List.nodup_cons.mpr ⟨q, h⟩
theorem onceM_nodup {α : Type} [DecidableEq α] (l : List α) : (onceM l).Nodup := by
  unfold onceM
  have : ∀ r m : List α, m.Nodup → (r.foldl addM m).Nodup := by
    intro r
    induction r with
    | nil => exact fun m h => h
    | cons x r ih => exact fun m h => ih _ (addM_nodup h x)
  exact this l [] List.nodup_nil
section
variable {prog : Program} {w : World} {A : Around} {R : Result → Shared → Prop} {I : Addr} {fp wr : List Addr} {G : Array GenState → Array GenState → Prop} {n : Nat} {P : Nat → Value → Prop} {St : Nat → Shared → Prop}
end
end Fm

namespace Fm
open PySem PySem.Spec PyProof.Rows L2

section
variable {P : Program} {prog : Program} {w : World} {A : Around} {E : Value → Shared → Prop} {s : Shared}
end
end Fm

/-! FmS3: sorted(set(e)), len(set(e)), sorted(d). -/
namespace Fm
open PySem PySem.Spec PyProof.Rows L2
section
variable {X : Cx} {W : WX}
/-- the texts that a value gives -/
def setSrc (P S : List O) : D → Option (List Tx)
  | .t (.lst l) => strsOf l
  | .t (.tup l) => strsOf l
  | .t (.str s) => some (s.map fun c => [c])
  | .ref i => match (P ++ S)[i]? with
    | some (.lst l) => (trees l).bind strsOf
    | _ => none
  | _ => none
theorem tx_total (a b : Tx) : (decide (a ≤ b) || decide (b ≤ a)) = true := by
  rcases List.le_total a b with h | h <;> simp [h]
theorem tx_trans (a b c : Tx) (h1 : decide (a ≤ b) = true) (h2 : decide (b ≤ c) = true) : decide (a ≤ c) = true := by
  simp only [decide_eq_true_eq] at *
  exact List.le_trans h1 h2
theorem sortTx_sorted (l : List Tx) : (sortTx l).Pairwise (· ≤ ·) := by
  have := List.pairwise_mergeSort (le := fun a b : Tx => decide (a ≤ b)) (fun a b c => tx_trans a b c) tx_total l
  exact this.imp fun h => of_decide_eq_true h
theorem sortTx_perm (l : List Tx) : (sortTx l).Perm l := List.mergeSort_perm l _
theorem sortTx_of_perm {l m : List Tx} (h : l.Perm m) : sortTx l = sortTx m :=
  List.Perm.eq_of_pairwise (le := (· ≤ ·)) (fun a b _ _ h1 h2 => List.le_antisymm h1 h2) (sortTx_sorted l) (sortTx_sorted m) (((sortTx_perm l).trans h).trans (sortTx_perm m).symm)
/-- a list cell or a tree of what was sorted -/
def mSortSet (fin : List T → List O → List O → R D) (f : ME) : ME := fun P ρ S => (f P ρ S).bind fun d S1 => match setSrc P S1 d with
  | some xs => if (onceM xs).length + 1 < scanBound then fin ((sortTx (onceM xs)).map T.str) P S1 else .no
  | none => .no
def mkT : List T → List O → List O → R D := fun l _ S => .ok (.t (.lst l)) S
def mkC : List T → List O → List O → R D := fun l P S => .ok (.ref (P.length + S.length)) (S ++ [.lst (l.map D.t)])
/-- what may be made of a new list -/
def MkOk (K : PySem.W.Frag) (fin : List T → List O → List O → R D) : Prop := ∀ (P S : List O) (c : Cf) (H : Hp) (p : Addr) (ts : List T) (vs : List V) (W : WX) (Q : VK), Sim K P S c H → H p = none → vs.length ≤ sizeLine → RVs K c.Z H ts vs → Post K P c H (RD K) (fin ts P S) W Q → Q (.ref p) (upd H p (.lst vs))
theorem mk_T {K : PySem.W.Frag} : MkOk K mkT := fun P S c H p ts vs W Q hS hp hl hr h => h (c.zed p) (.ref p) _ (Ev.alloc hS hp) (Sim.alloc hS hp) (.lst _ p vs (.inr rfl) upd_same hl (RVs.mono' (Ev.alloc hS hp) hr))
theorem mk_C {K : PySem.W.Frag} : MkOk K mkC := fun P S c H p ts vs W Q hS hp hl hr h => newC hS hp hl hr.rds h
def mLenSet (f : ME) : ME := fun P ρ S => (f P ρ S).bind fun d S1 => match setSrc P S1 d with
  | some xs => if (onceM xs).length + 1 < scanBound then .ok (.t (.int (onceM xs).length)) S1 else .no
  | none => .no
end
end Fm

/-! FmS4: sorted of lists and of dicts, in trees and in cells. -/
namespace Fm
open PySem PySem.Spec PyProof.Rows L2
section
variable {X : Cx} {W : WX}
def At.tr : At → T
  | .int i => .int i
  | .str s => .str s
def At.vl : At → V
  | .int i => .int i
  | .str s => .str (sv s)
theorem At.rv {K : PySem.W.Frag} {Z : Addr → Prop} {H : Hp} (k : At) (h : k.Fit) : RV K Z H k.tr k.vl := by
  cases k with
  | int i => exact .int i
  | str s => exact .str s h
theorem ats_rvs {K : PySem.W.Frag} {Z : Addr → Prop} {H : Hp} : ∀ (ks : List At), (∀ k ∈ ks, k.Fit) → RVs K Z H (ks.map At.tr) (ks.map At.vl)
  | [], _ => .nil
  | k :: ks, h => .cons _ _ _ _ (k.rv (h k List.mem_cons_self)) (ats_rvs ks fun x hx => h x (List.mem_cons_of_mem _ hx))
theorem key_shape {P : Program} {w : World} {k : At} {v : Value} (h : (mixKind P w).is (At.key k) v = true) : RelV k.vl v := by
  cases k with
  | int i =>
    rcases keyIs_shape (show keyIs (Sum.inl i) v = true from h) with ⟨j, t, ek, ev⟩ | ⟨z, t, ek, ev⟩
    · cases ek
      exact ⟨t, ev⟩
    · cases ek
  | str s =>
    rcases keyIs_shape (show keyIs (Sum.inr (sv s)) v = true from h) with ⟨j, t, ek, ev⟩ | ⟨z, t, ek, ev⟩
    · cases ek
    · cases ek
      exact ⟨t, ev⟩
theorem at_reads {h : Heap} {u : Value} (k : At) (r : RelV k.vl u) : ∃ as, Reads h u k.tr.pd as ∧ ∀ a, a ∉ as := by
  cases k with
  | int i =>
    obtain ⟨t, rfl⟩ := r
    exact ⟨[], .int i t, by simp⟩
  | str s =>
    obtain ⟨t, rfl⟩ := r
    exact ⟨[], .str (sv s) t, by simp⟩
theorem at_pd (k : At) : k.tr.plain = true ∧ k.tr.low = true := by
  cases k <;> exact ⟨rfl, rfl⟩
theorem keys_each : ∀ {us : List Value} {ks : List At} {P : Program} {w : World}, us.length = ks.length → (∀ (i : Nat) (v : Value) (k : At), us[i]? = some v → ks[i]? = some k → (mixKind P w).is (At.key k) v = true) → PySem.W.EachIs (fun (u : Value) (k : At) => RelV k.vl u) us ks
  | [], [], _, _, _, _ => .nil
  | [], k :: ks, _, _, hl, _ => nomatch hl
  | v :: us, [], _, _, hl, _ => nomatch hl
  | v :: us, k :: ks, P, w, hl, h => .cons (key_shape (h 0 v k rfl rfl)) (keys_each (P := P) (w := w) (by simpa using hl) fun i v' k' h1 h2 => h (i + 1) v' k' (by simpa using h1) (by simpa using h2))
theorem vals_ats : ∀ {us : List Value} {ks : List At}, PySem.W.EachIs (fun (u : Value) (k : At) => RelV k.vl u) us ks → Vals (ks.map At.vl) us
  | _, _, .nil => .nil
  | _, _, .cons h r => .cons h (vals_ats r)
def sortAt (ks : List At) : List At := ks.mergeSort fun a b => T.le a.tr b.tr
theorem sortAt_tr (ks : List At) : (sortAt ks).map At.tr = sortL (ks.map At.tr) := by
  unfold sortAt sortL
  rw [List.map_mergeSort (s := T.le)]
  intro a _ b _
  rfl
theorem sort_keys (hcalm : X.calm = true) (hu : X.A.units + 65 < cLine) {pins : List (Addr × Obj)} {s : Shared} {σ : L2.St} {H : Hp} {a : Addr} {kvs : List (Key × V)} {ks : List At} {Q : VK} (I : Inv X pins σ H s) (hd : Rd H a (.dK kvs)) (hks : kvs.map (·.1) = ks.map At.key) (ok : SortOk (ks.map At.tr))
    (q : ∀ p, H p = none → ((sortAt ks).map At.vl).length ≤ sizeLine → Q (.ref p) (upd H p (.lst ((sortAt ks).map At.vl)))) : wpAny (model X.prog X.w) X.A (call (.builtin "sorted") [.ref a]) (EP X pins σ Q) X.xe s := by
  obtain ⟨z, lo, vs, rel, dd⟩ := dk_rd I.hok hd
  obtain ⟨ep, hat⟩ := dd.dictAt
  have hkeys : vs.map (·.1) = ks.map At.key := rel.keys.symm.trans hks
  have hl : vs.length = ks.length := by
    have e := congrArg List.length hkeys
    rwa [List.length_map, List.length_map] at e
  have h16 : vs.length ≤ sizeLine := by
    have e := congrArg List.length hks
    rw [List.length_map, List.length_map] at e
    rw [hl, ← e]; exact z
  refine Calls.call_function_entry PyProof.Rows.kind_sorted PyProof.Rows.plain_sorted PyProof.Rows.entry_sorted (PyProof.Rows.args_sorted1 _) ?_
  unfold Builtin.«sorted»
  refine wpAny_bind (m := checkCount "sorted" 1 1 _) (wpAny_pure ?_)
  refine wpAny_bind (PySem.W.kdu_collect (A := X.A.in1) (PySem.W.kdl_dict (knd := mixKind X.prog X.w) (kvs := vs) (ep := ep) lo) (I.ok.hd hcalm) hat h16 fun h' tk acc hk hacc => ?_)
  have hal : acc.toList.length = ks.length := by rw [Array.length_toList, hacc.1, hl]
  have ei : PySem.W.EachIs (fun (u : Value) (k : At) => RelV k.vl u) acc.toList ks := keys_each (P := X.prog) (w := X.w) hal fun i v k h1 h2 => by
    obtain ⟨k', x, e1, e2⟩ := hacc.2 i v (by rw [← Array.getElem?_toList]; exact h1)
    have e3 : (vs.map (·.1))[i]? = some k' := by rw [List.getElem?_map, e1]; rfl
    rw [hkeys, List.getElem?_map, h2] at e3
    cases e3
    exact e2
  have I1 : Inv X pins σ H { s with heap := h', toks := tk } := I.kept hk
  have hz : ks.length ≤ sizeLine := by rw [← hl]; exact h16
  refine wpAny_bind (wpAny_newList ?_ (by rw [hal]; exact hz))
  have hoL : (h'.push (seqObj "list" acc.toList.toArray 0)).get? h'.objs.size = some (seqObj "list" acc.toList.toArray 0) := Heap.get?_push_size _ rfl
  show wpAny _ _ _ _ _ { s with heap := h'.push (seqObj "list" acc.toList.toArray 0), toks := tk }
  have er : PySem.W.EachIs (fun (v : Value) (k : At) => ∃ as, Reads (h'.push (seqObj "list" acc.toList.toArray 0)) v k.tr.pd as ∧ h'.objs.size ∉ as) acc.toList ks := ei.mono fun v k r => by
    obtain ⟨as, r1, r2⟩ := at_reads (h := h'.push (seqObj "list" acc.toList.toArray 0)) k r
    exact ⟨as, r1, r2 _⟩
  have hmap : (ks.map fun k : At => k.tr.pd) = T.pds (ks.map At.tr) := by rw [pds_map]
  refine wpAny_bind (wpAny_holding (PySem.W.list_sort_data (s := { s with heap := h'.push (seqObj "list" acc.toList.toArray 0), toks := tk }) (enc := fun k : At => k.tr.pd) hoL ei er (by rw [hmap]; exact ok.2.1) (by rw [hmap]; exact ok.2.2.1) hz ?_ fun out ho he => ?_))
  · intro k hk
    have hd : k.tr.pd.depth ≤ 40 := of_decide_eq_true ((at_pd k).2)
    show X.A.in1.units + 1 + k.tr.pd.depth < cLine
    have e : X.A.in1.units ≤ X.A.units + 1 := Nat.le_refl _
    omega
  have es : ks.mergeSort (PySem.W.dataLe false fun k : At => k.tr.pd) = sortAt ks := by
    unfold sortAt
    exact congrArg (ks.mergeSort ·) (funext fun x => funext fun y => by rw [PySem.W.dataLe_eq]; rfl)
  rw [es] at he
  obtain ⟨e', he'⟩ := PyProof.Rows.sortedHeap_at (vs := acc.toList) (out := out.toArray) hoL
  have hlen : ((sortAt ks).map At.vl).length ≤ sizeLine := by
    rw [List.length_map]
    unfold sortAt
    rw [List.length_mergeSort]; exact hz
  refine wpAny_pure ⟨_, rfl, .ref h'.objs.size, upd H h'.objs.size (.lst ((sortAt ks).map At.vl)), I1.laid (t' := tk) (fun b u e => ?_) (Nat.le_refl _)
    (show ObjOk X.prog X.w _ _ _ (.lst ((sortAt ks).map At.vl)) from ⟨hlen, out, e', vals_ats he, he'⟩), rfl, q _ (I1.hok.fresh (Nat.le_refl _)) hlen⟩
  have hb : b < h'.objs.size := Heap.lt_size e
  rw [PyProof.Rows.sortedHeap_old (Nat.ne_of_lt hb) (by rw [size_push']; exact Nat.lt_succ_of_lt hb)]
  exact Heap.get?_push_of_some _ e
open Classical in
noncomputable def sortIn (P S : List O) : D → Option (List T)
  | .t (.lst l) => if SortOk l then some (sortL l) else none
  | .t (.scr l) => some (sortL (l.map .int))
  | .t (.dic l) => if SortOk (l.map fun p => p.1.tr) then some (sortL (l.map fun p => p.1.tr)) else none
  | .ref i => match (P ++ S)[i]? with
    | some (.lst l) => match trees l with
      | some l => if SortOk l then some (sortL l) else none
      | none => none
    | some (.dic l) => if SortOk (l.map fun p => p.1.tr) then some (sortL (l.map fun p => p.1.tr)) else none
    | _ => none
  | _ => none
theorem RKs.kv {K : PySem.W.Frag} {Z : Addr → Prop} {H : Hp} : ∀ {l : List (At × T)} {kvs : List (Key × V)}, RKs K Z H l kvs → kvs.map (·.1) = (l.map (·.1)).map At.key ∧ ∀ k ∈ l.map (·.1), k.Fit
  | _, _, .nil => ⟨rfl, fun _ h => nomatch h⟩
  | _, _, .cons k t v ts vs h0 h1 h2 => by
    obtain ⟨e, f⟩ := RKs.kv h2
    refine ⟨by rw [List.map_cons, e]; rfl, fun x hx => ?_⟩
    rcases List.mem_cons.mp hx with rfl | hx
    · exact h0
    · exact f x hx
theorem KR.kv {K : PySem.W.Frag} {c : Cf} {H : Hp} : ∀ {l : List (At × D)} {kvs : List (Key × V)}, KR K c H l kvs → kvs.map (·.1) = (l.map (·.1)).map At.key ∧ ∀ k ∈ l.map (·.1), k.Fit
  | _, _, .nil => ⟨rfl, fun _ h => nomatch h⟩
  | (k, d) :: l, (k', v) :: kvs, .cons h1 h2 => by
    obtain ⟨e, f⟩ := KR.kv h2
    obtain ⟨⟨h0, rfl⟩, _⟩ := h1
    refine ⟨by rw [List.map_cons, e]; rfl, fun x hx => ?_⟩
    rcases List.mem_cons.mp hx with rfl | hx
    · exact h0
    · exact f x hx
/-- sorted(e): a list, a dict -/
theorem sortG_ok {fin : List T → List O → List O → R D} (hf : MkOk X.K fin) (hcalm : X.calm = true) (hu : X.A.units + 65 < cLine) {pins : List (Addr × Obj)} {s : Shared} {σ : L2.St} {H : Hp} {c : Cf} {P S : List O} {d : D} {v : V} {u : Value} {l : List T} {Q : VK} (I : Inv X pins σ H s) (hS : Sim X.K P S c H) (r : RD X.K c H d v) (ru : RelV v u) (e : sortIn P S d = some l) (q : Post X.K P c H (RD X.K) (fin l P S) W Q) :
    wpAny (model X.prog X.w) X.A (call (.builtin "sorted") [u]) (EP X pins σ Q) X.xe s := by
  have base : ∀ {l' : List T} {vs : List V} {a : Addr}, v = .ref a → SqL X.K H a vs → RVs X.K c.Z H l' vs → SortOk l' → l = sortL l' → wpAny (model X.prog X.w) X.A (call (.builtin "sorted") [u]) (EP X pins σ Q) X.xe s := fun {l' vs a} ev hq rr ok el => by
    subst ev
    cases ru
    subst el
    exact sort_core hu I hq rr ok fun p vs' hp rv hl => hf P S c H p _ vs' W Q hS hp hl rv q
  have dict : ∀ {kvs : List (Key × V)} {ks : List At} {a : Addr}, v = .ref a → Rd H a (.dK kvs) → kvs.map (·.1) = ks.map At.key → (∀ k ∈ ks, k.Fit) → SortOk (ks.map At.tr) → l = sortL (ks.map At.tr) → wpAny (model X.prog X.w) X.A (call (.builtin "sorted") [u]) (EP X pins σ Q) X.xe s := fun {kvs ks a} ev hd hk ft ok el => by
    subst ev
    cases ru
    subst el
    refine sort_keys hcalm hu I hd hk ok fun p hp hl => ?_
    refine hf P S c H p _ _ W Q hS hp hl ?_ q
    rw [← sortAt_tr]
    refine ats_rvs _ fun k hk => ft k ?_
    exact (List.mergeSort_perm ks _).mem_iff.mp hk
  unfold sortIn at e
  split at e
  · rename_i l'
    by_cases ok : SortOk l'
    · rw [if_pos ok] at e
      cases e
      cases r with
      | lst _ a vs h1 h2 h3 h4 => exact base rfl (SqL.of h2) h4 ok rfl
    · rw [if_neg ok] at e; cases e
  · rename_i l'
    cases e
    obtain ⟨a, rfl, _, h2, h3⟩ := RD.scrE (c := c) r
    exact base rfl h2 (RVs.ints l') (sortOk_ints l') rfl
  · rename_i l'
    by_cases ok : SortOk (l'.map fun p => p.1.tr)
    · rw [if_pos ok] at e
      cases e
      cases r with
      | dic _ a kvs h1 h2 h3 =>
        obtain ⟨e1, f1⟩ := h3.kv
        have em : (l'.map (·.1)).map At.tr = l'.map fun p => p.1.tr := by rw [List.map_map]; rfl
        exact dict rfl h2 e1 f1 (by rw [em]; exact ok) (by rw [em])
    · rw [if_neg ok] at e; cases e
  · rename_i i
    obtain ⟨_, rfl⟩ := r
    split at e
    · rename_i l' e0
      obtain ⟨vs, hH, hl, rr⟩ := hS.ro _ _ e0
      cases et : trees l' with
      | none => rw [et] at e; cases e
      | some ts =>
        rw [et] at e
        simp only at e
        by_cases ok : SortOk ts
        · rw [if_pos ok] at e
          cases e
          exact base rfl (SqL.of hH) (rr.trees et) ok rfl
        · rw [if_neg ok] at e; cases e
    · rename_i l' e0
      obtain ⟨kvs, hH, rr⟩ := hS.ro _ _ e0
      by_cases ok : SortOk (l'.map fun p => p.1.tr)
      · rw [if_pos ok] at e
        cases e
        obtain ⟨e1, f1⟩ := KR.kv rr
        have em : (l'.map (·.1)).map At.tr = l'.map fun p => p.1.tr := by rw [List.map_map]; rfl
        exact dict rfl (.inl hH) e1 f1 (by rw [em]; exact ok) (by rw [em])
      · rw [if_neg ok] at e; cases e
    · cases e
  · cases e
noncomputable def mSort (fin : List T → List O → List O → R D) (f : ME) : ME := fun P ρ S => (f P ρ S).bind fun d S1 => match sortIn P S1 d with
  | some l => fin l P S1
  | none => .no
def rSortV (X : Cx) (W : WX) (fin : List T → List O → List O → R D) : List V → Hp → VK → Prop := fun xs H Q => ∃ c P S d v l, xs = [v] ∧ Sim X.K P S c H ∧ RD X.K c H d v ∧ sortIn P S d = some l ∧ Post X.K P c H (RD X.K) (fin l P S) W Q
theorem pm_sort {fin : List T → List O → List O → R D} {a : Expr} {f : ME} {p pos : Pos} (hf : MkOk X.K fin) (hcalm : X.calm = true) (hu : X.A.units + 65 < cLine) (hg : Gl X "sorted") (hm : X.mg "sorted" = none) (ha : PM X W a f)
    (he : starEach [a] X.env = (false, eval a X.env) :: starEach [] X.env := by rfl) (hpl : (backTo pos (starEach [] X.env)).any (·.1) = false := by rfl) : PM X W (.Call (.Name "sorted" p) [a] [] pos) (mSort fin f) := by
  have cr : CallR X (.builtin "sorted") (rSortV X W fin) := by
    intro pins s σ H xs us Q I rx h
    obtain ⟨c, P, S, d, v, l, rfl, hS, r, e, q⟩ := h
    obtain ⟨u, rfl, ru⟩ := vals1 rx
    exact sortG_ok hf hcalm hu I hS r ru e q
  refine ⟨pe_weak (pe_callB cr hg hm boot_sorted (pa_cons ha.run pa_nil he) (by decide) (by decide) he hpl) fun σ H Q h => ?_⟩
  obtain ⟨c, P, ρ, S, hE, hS, h⟩ := h
  refine tM_bind hE hS h fun d v S1 c1 H1 e1 E1 s1 r1 h1 => ?_
  cases es : sortIn P S1 d with
  | none => rw [es] at h1; exact h1.elim
  | some l =>
    rw [es] at h1
    exact ⟨c1, P, S1, d, v, l, rfl, s1, r1, es, h1⟩
end
end Fm

/-! FmK: calls with keywords. -/
namespace Fm
open PySem PySem.Spec PyProof.Rows L2
def pickI {α : Type} (ix : List Nat) (l : List α) : List α := ix.filterMap fun j => l[j]?
def gI {α : Type} (n m : Nat) (ix : List Nat) (us ws : List α) : List α := if us.length = n ∧ ws.length = m then pickI ix (us ++ ws) else []
theorem pickI_pair {α β : Type} {R : α → β → Prop} {l : List α} {m : List β} (h : Paired R l m) : ∀ ix : List Nat, Paired R (pickI ix l) (pickI ix m)
  | [] => .nil
  | j :: ix => by
    have ih := pickI_pair h ix
    unfold pickI at ih ⊢
    rw [List.filterMap_cons, List.filterMap_cons]
    have key : (∃ a b, l[j]? = some a ∧ m[j]? = some b ∧ R a b) ∨ (l[j]? = none ∧ m[j]? = none) := by
      clear ih
      induction h generalizing j with
      | nil => exact .inr ⟨by simp, by simp⟩
      | cons h1 _ ih2 =>
        cases j with
        | zero => exact .inl ⟨_, _, rfl, rfl, h1⟩
        | succ j => simpa using ih2 j
    rcases key with ⟨a, b, e1, e2, r⟩ | ⟨e1, e2⟩
    · rw [e1, e2]; exact .cons r ih
    · rw [e1, e2]; exact ih
theorem paired_len {α β : Type} {R : α → β → Prop} {l : List α} {m : List β} (h : Paired R l m) : l.length = m.length := by
  induction h with
  | nil => rfl
  | cons _ _ ih => rw [List.length_cons, List.length_cons, ih]
theorem paired_app {α β : Type} {R : α → β → Prop} {l l' : List α} {m m' : List β} (h : Paired R l m) (h' : Paired R l' m') : Paired R (l ++ l') (m ++ m') := by
  induction h with
  | nil => exact h'
  | cons a _ ih => exact .cons a ih
theorem gI_pair {α β : Type} {R : α → β → Prop} {l l' : List α} {m m' : List β} {a b : Nat} {ix : List Nat} (h : Paired R l m) (h' : Paired R l' m') : Paired R (gI a b ix l l') (gI a b ix m m') := by
  unfold gI
  rw [paired_len h, paired_len h']
  split
  · exact pickI_pair (paired_app h h') ix
  · exact .nil
theorem vals_paired : ∀ {vs : List V} {us : List Value}, Vals vs us ↔ Paired RelV vs us := by
  intro vs us
  constructor
  · intro h; induction h with
    | nil => exact .nil
    | cons a _ ih => exact .cons a ih
  · intro h; induction h with
    | nil => exact .nil
    | cons a _ ih => exact .cons a ih
section
variable {K : PySem.W.Frag}
theorem fun_kb {x qual : Str} {st : Stmt} {f : Addr} {fd : FuncData} (F : L2.Fun K x qual st f fd) {ps : List Str} (ks : List Str) (n m : Nat) (ix : List Nat) (hp : ps ≠ [])
    (h : ∀ (kV doc pm : Value) (an : Option Addr) (cdv ct : Value) (us ws : List Value), us.length = n → ws.length = m → bindArgs (PySem.W.fnOf x qual (defArgs st) (defBody st) (defScope st) .none kV doc pm an cdv ct) ⟨us, ks.zip ws⟩ = pure (ps.zip (pickI ix (us ++ ws)))) :
    KBinds K fd ps ks (gI n m ix) (gI n m ix) := by
  obtain ⟨oc, od, kV, doc, pm, an, cdv, ct, osl, rfl, lk, hcd⟩ := F.ex
  refine ⟨fun s us ws _ hl => ?_, fun a b => vals_paired.mpr (gI_pair (vals_paired.mp a) (vals_paired.mp b))⟩
  unfold gI at hl ⊢
  by_cases c : us.length = n ∧ ws.length = m
  · rw [if_pos c]
    exact .of_eq (h kV doc pm an cdv ct us ws c.1 c.2)
  · rw [if_neg c] at hl
    exact absurd (List.length_eq_zero_iff.mp hl.symm) hp
end
section
variable {X : Cx} {W : WX} {k n : Nat} {f : Addr} {fd : FuncData} {ps ks : List Str} {g : MF} {x : Str} {p pos kpos : Pos} {e : Expr} {es : List Expr} {fs fk : MA} {fa : ME} {kws : List Keyword} {nm : Option Str}
structure PMK (X : Cx) (W : WX) (kws : List Keyword) (f : MA) : Prop where
  run : PK X kws (tMA X.K W f)
theorem pmk_nil : PMK X W [] mNil := by
  refine ⟨⟨fun pos pins s σ H Q I h => ?_⟩⟩
  obtain ⟨c, P, ρ, S, hE, hS, h⟩ := h
  exact pk_nil.run pos pins s σ H Q I (h c [] H (Ev.refl hS) hS .nil)
theorem pmk_cons (ha : PM X W e fa) (hr : PMK X W kws fk) : PMK X W (⟨nm, e, kpos⟩ :: kws) (mCons fa fk) := by
  refine ⟨⟨fun pos pins s σ H Q I h => (pk_cons ha.run hr.run).run pos pins s σ H Q I ?_⟩⟩
  obtain ⟨c, P, ρ, S, hE, hS, h⟩ := h
  refine tM_bind hE hS h fun d v S1 c1 H1 e1 E1 s1 r1 h1 => ?_
  refine tMA_bind E1 s1 h1 fun ds vs S2 c2 H2 e2 E2 s2 r2 h2 => ?_
  exact h2 c2 (v :: vs) H2 (Ev.refl s2) s2 (.cons (r1.mono e2) r2)
def mCallK (g : MF) (n m : Nat) (ix : List Nat) (fs fk : MA) : ME := fun P ρ S => (fs P ρ S).bind fun ds S1 => (fk P ρ S1).bind fun zs S2 => if ds.length = n ∧ zs.length = m then (g (pickI ix (ds ++ zs)) P S2).nx else .no
theorem tCallK_of {n1 m1 : Nat} {ix : List Nat} {σ : L2.St} {H : Hp} {Q : VK} (hix : ∀ l : List D, l.length = n1 + m1 → (pickI ix l).length = n) (h : tM X.K W (mCallK g n1 m1 ix fs fk) σ H Q) {E : XK} : tCallK (spM X.K n g) (gI n1 m1 ix) E (tMA X.K W fs) (tMA X.K W fk) σ H Q := by
  obtain ⟨c, P, ρ, S, hE, hS, h⟩ := h
  refine tMA_bind hE hS h fun ds vs S1 c1 H1 e1 E1 s1 r1 h1 => ?_
  refine tMA_bind E1 s1 h1 fun zs ws S2 c2 H2 e2 E2 s2 r2 h2 => ?_
  by_cases hc : ds.length = n1 ∧ zs.length = m1
  · rw [if_pos hc] at h2
    have r1' := RDs.mono e2 r1
    have e : pickI ix (ds ++ zs) = gI n1 m1 ix ds zs := by unfold gI; rw [if_pos hc]
    have rr : RDs X.K c2 H2 (pickI ix (ds ++ zs)) (gI n1 m1 ix vs ws) := by
      rw [e]
      exact gI_pair r1' r2
    have hl : (pickI ix (ds ++ zs)).length = n := hix _ (by rw [List.length_append, hc.1, hc.2])
    have hl2 : (gI n1 m1 ix vs ws).length = n := by rw [← paired_len rr]; exact hl
    exact ⟨hl2, c2, P, S2, _, s2, rr, Post.nx h2⟩
  · rw [if_neg hc] at h2
    exact h2.elim
end
end Fm

/-! FmF: a cell that is changed no more is a tree. -/
namespace Fm
open PySem PySem.Spec PyProof.Rows L2
section
variable {K : PySem.W.Frag} {P S : List O} {c : Cf} {H : Hp}
theorem set_at {P S : List O} {j : Nat} {u : O} {i : Nat} {o : O} (h : (P ++ S.set j u)[i]? = some o) : (i = P.length + j ∧ o = u) ∨ (i ≠ P.length + j ∧ (P ++ S)[i]? = some o) := by
  by_cases hi : i < P.length
  · rw [List.getElem?_append_left hi] at h
    exact .inr ⟨by omega, by rw [List.getElem?_append_left hi]; exact h⟩
  · rw [List.getElem?_append_right (by omega)] at h
    by_cases e : i - P.length = j
    · rw [e] at h
      have hj : j < S.length := by
        have := (List.getElem?_eq_some_iff.mp h).1
        rw [List.length_set] at this
        exact this
      rw [List.getElem?_set_self hj] at h
      cases h
      exact .inl ⟨by omega, rfl⟩
    · rw [List.getElem?_set_ne (by omega)] at h
      exact .inr ⟨by omega, by rw [List.getElem?_append_right (by omega)]; exact h⟩
theorem Sim.kill (h : Sim K P S c H) (j : Nat) : Sim K P (S.set j .dead) c H where
  n := by rw [List.length_set]; exact h.n
  ro := fun i o e => by
    rcases set_at e with ⟨_, rfl⟩ | ⟨_, e⟩
    · trivial
    · exact h.ro i o e
  nz := fun i o e l => by
    rcases set_at e with ⟨_, rfl⟩ | ⟨_, e⟩
    · cases l
    · exact h.nz i o e l
  inj := fun i k o u e1 e2 l1 l2 hm => by
    rcases set_at e1 with ⟨_, rfl⟩ | ⟨_, e1⟩
    · cases l1
    · rcases set_at e2 with ⟨_, rfl⟩ | ⟨_, e2⟩
      · cases l2
      · exact h.inj i k o u e1 e2 l1 l2 hm
  z := h.z
  y := h.y
  yz := h.yz
  yc := fun i o e l => by
    rcases set_at e with ⟨_, rfl⟩ | ⟨_, e⟩
    · cases l
    · exact h.yc i o e l
/-- the cell j of the active ones becomes what never changes any more -/
theorem freeze (h : Sim K P S c H) {j : Nat} {w : O} (hj : S[j]? = some w) (hl : w.live = true) : Ev P c H (c.zed (c.m (P.length + j))) H ∧ Sim K P (S.set j .dead) (c.zed (c.m (P.length + j))) H := by
  have hk := h.kill j
  have hat : (P ++ S)[P.length + j]? = some w := by rw [List.getElem?_append_right (by omega), Nat.add_sub_cancel_left]; exact hj
  have hp : ∀ i u, (P ++ S.set j .dead)[i]? = some u → u.live = true → c.m i ≠ c.m (P.length + j) := fun i u e l => by
    rcases set_at e with ⟨_, rfl⟩ | ⟨ne, e⟩
    · cases l
    · exact fun q => ne (h.inj i _ u w e hat l hl q)
  obtain ⟨o, ho⟩ := (h.ro _ _ hat).there hl
  exact ⟨Ev.zed hk hp, Sim.zed hk hp (h.yc _ _ hat hl) ho⟩
/-- a list's cell, a dict's cell as a tree -/
def frzD (P : List O) : D → List O → Option (D × List O)
  | .t x, S => some (.t x, S)
  | .ref i, S => if P.length ≤ i then match S[i - P.length]? with
    | some (.lst l) => (trees l).map fun ts => (.t (.lst ts), S.set (i - P.length) .dead)
    | some (.dic l) => (treesK l).map fun ts => (.t (.dic ts), S.set (i - P.length) .dead)
    | _ => none else none
theorem frzD_ok {d d' : D} {S' : List O} {v : V} (h : Sim K P S c H) (r : RD K c H d v) (e : frzD P d S = some (d', S')) : ∃ c', Ev P c H c' H ∧ Sim K P S' c' H ∧ RD K c' H d' v := by
  cases d with
  | t x =>
    cases e
    exact ⟨c, Ev.refl h, h, r⟩
  | ref i =>
    obtain ⟨_, rfl⟩ := r
    unfold frzD at e
    dsimp only at e
    by_cases hi : P.length ≤ i
    · rw [if_pos hi] at e
      have hii : P.length + (i - P.length) = i := by omega
      split at e
      · rename_i l hj
        cases et : trees l with
        | none => rw [et] at e; cases e
        | some ts =>
          rw [et] at e
          cases e
          obtain ⟨e1, s1⟩ := freeze h hj rfl
          rw [hii] at e1 s1
          have hat : (P ++ S)[i]? = some (.lst l) := by rw [List.getElem?_append_right hi]; exact hj
          obtain ⟨vs, hH, hl, rr⟩ := h.ro _ _ hat
          exact ⟨_, e1, s1, RV.lst ts _ vs (.inr rfl) hH hl (RVs.mono' e1 (rr.trees et))⟩
      · rename_i l hj
        cases et : treesK l with
        | none => rw [et] at e; cases e
        | some ts =>
          rw [et] at e
          cases e
          obtain ⟨e1, s1⟩ := freeze h hj rfl
          rw [hii] at e1 s1
          have hat : (P ++ S)[i]? = some (.dic l) := by rw [List.getElem?_append_right hi]; exact hj
          obtain ⟨kvs, hH, rr⟩ := h.ro _ _ hat
          exact ⟨_, e1, s1, RV.dic ts _ kvs (.inr rfl) (.inl hH) (KR.trees (KR.mono e1 rr) et)⟩
      · cases e
    · rw [if_neg hi] at e; cases e
end
section
variable {X : Cx} {W : WX} {e : Expr} {f : ME} {sts : List Stmt} {g : MS}
/-- the slot's cell is a tree from here on -/
def sFrz (i : Nat) : MS := fun P ρ S => match ρ[i]? with
  | some (some d) => match frzD P d S with
    | some (d', S') => .nx (ρ.set i (some d')) S'
    | none => .no
  | _ => .no
theorem pmb_frz (i : Nat) (h : PMB X W sts g) : PMB X W sts (sSeq (sFrz i) g) := by
  refine ⟨pss_weak h.run fun D' σ H q => ?_⟩
  obtain ⟨c, P, ρ, S, hE, hS, q⟩ := q
  unfold sSeq sFrz at q
  cases e : ρ[i]? with
  | none => rw [e] at q; exact q.elim
  | some o =>
    cases o with
    | none => rw [e] at q; exact q.elim
    | some d =>
      rw [e] at q
      simp only at q
      obtain ⟨v, hv, r⟩ := hE.get i d e
      cases ef : frzD P d S with
      | none => rw [ef] at q; exact q.elim
      | some p =>
        obtain ⟨d', S'⟩ := p
        rw [ef] at q
        obtain ⟨c2, e2, s2, r2⟩ := frzD_ok hS r ef
        refine ⟨c2, P, _, S', ?_, s2, PostS.ev hS.pl e2 q⟩
        have := (hE.mono e2).set i r2
        have es : σ.set i (some v) = σ := by
          obtain ⟨hl, hg⟩ := List.getElem?_eq_some_iff.mp hv
          rw [← hg, List.set_getElem_self]
        rw [es] at this
        exact this
end
end Fm

/-! FmT: comparisons as tests; short names. -/
namespace Fm
open PySem PySem.Spec PyProof.Rows L2
section
variable {X : Cx} {W : WX} {a b d : Expr} {fa fb fc : ME} {pos : Pos}
def mB (f : ME) : MT := fun P ρ S => (f P ρ S).bind fun d S1 => match d with
  | .t (.bl b) => .ok b S1
  | _ => .no
theorem test_of {f : ME} {t : TE} (h : ∀ σ H Q, tM X.K W f σ H Q → t σ H Q) (σ : L2.St) (H : Hp) (Q : Bool → Hp → Prop) (q : tMT X.K W (mB f) σ H Q) : tTest t σ H Q := by
  obtain ⟨c, P, ρ, S, hE, hS, q⟩ := q
  refine h _ _ _ (tM_bind hE hS q fun d v S1 c1 H1 e1 E1 s1 r1 h1 => ?_)
  cases d with
  | ref i => exact h1.elim
  | t d =>
    cases d <;> first | exact h1.elim | skip
    cases r1
    exact ⟨_, rfl, h1 c1 _ H1 (Ev.refl s1) s1 rfl⟩
theorem pmt_cmp {op : CmpOp} {g : F2} (ho : OpM X (compareOp op) g) (ha : PM X W a fa) (hb : PM X W b fb) (hm : behindInMarks op b = false := by first | exact nomark _ | rfl) : PMT X W (.Compare a [op] [b] pos) (mB (mOp2 g fa fb)) :=
  ⟨pt_weak (pt_cmpR ho.run ha.run hb.run hm) (test_of fun _ _ _ h => tOp_of h)⟩
end
section
variable {X : Cx} {W : WX} {a b d : Expr} {fs : MA} {pos px py pz pt pt2 : Pos} {x y z : Str} {kt k2 : Nat}
/-- a, b = e, f with plain names -/
def sPar2 (i j : Nat) (fs : MA) : MS := fun P ρ S => (fs P ρ S).oc ρ fun ds S1 => match ds with
  | [u, v] => .nx ((ρ.set i (some u)).set j (some v)) S1
  | _ => .no
theorem pms_par2 (i j : Nat) (hc : X.calm = true) (hN : X.N.Nodup) (ha : PMA X W [a, b] fs) (hi : X.N[i]? = some x := by rfl) (hj : X.N[j]? = some y := by rfl) (hij : i ≠ j := by decide)
    (hx : X.env.scope.names.lookup x = some .local := by rfl) (hy : X.env.scope.names.lookup y = some .local := by rfl)
    (hw : swappedStores [.Tuple [.Name x px, .Name y py] kt pt] (.Tuple [a, b] k2 pt2) X.env = pure (some [x, y]) := by rfl)
    (hs : swapsWithSole [.Tuple [.Name x px, .Name y py] kt pt] (.Tuple [a, b] k2 pt2) pos.line X.env = pure false := by rfl) :
    PMS X W (.Assign [.Tuple [.Name x px, .Name y py] kt pt] (.Tuple [a, b] k2 pt2) pos) (sPar2 i j fs) := by
  refine ⟨ps_weak (ps_par hc hN hi hj hij hx hy ha.run hw hs) fun D σ H h => ?_⟩
  obtain ⟨c, P, ρ, S, hE, hS, h⟩ := h
  refine tMA_oc hE hS h fun ds vs S1 c1 H1 e1 E1 s1 r1 h1 => ?_
  match ds, vs, r1 with
  | [u, v], [u', v'], .cons q1 (.cons q2 .nil) => exact ⟨u', v', rfl, h1 c1 _ H1 (Ev.refl s1) s1 ((E1.set i q1).set j q2)⟩
  | [], _, _ => exact h1.elim
  | [_], _, _ => exact h1.elim
  | _ :: _ :: _ :: _, _, _ => exact h1.elim
def sPar3 (i j l : Nat) (fs : MA) : MS := fun P ρ S => (fs P ρ S).oc ρ fun ds S1 => match ds with
  | [u, v, w] => .nx (((ρ.set i (some u)).set j (some v)).set l (some w)) S1
  | _ => .no
end
theorem r65 {k : Nat} {A : Around} (hr : Room k A) : A.units + 65 < cLine := by have := hr.un; omega
theorem r64 {k : Nat} {A : Around} (hr : Room k A) : A.units + 64 < cLine := by have := hr.un; omega
theorem r1 {k : Nat} {A : Around} (hr : Room k A) : A.units + 1 < cLine := by have := hr.un; omega
theorem bt_len : bootBuiltins "len" = some (.builtin "len") := PySem.boot_len
theorem bt_abs : bootBuiltins "abs" = some (.builtin "abs") := by decide +kernel
theorem bt_max : bootBuiltins "max" = some (.builtin "max") := by decide +kernel
theorem bt_min : bootBuiltins "min" = some (.builtin "min") := by decide +kernel
theorem bt_all : bootBuiltins "all" = some (.builtin "all") := by decide +kernel
theorem bt_any : bootBuiltins "any" = some (.builtin "any") := by decide +kernel
theorem bt_repr : bootBuiltins "repr" = some (.builtin "repr") := by decide +kernel
theorem bt_isinstance : bootBuiltins "isinstance" = some (.builtin "isinstance") := by decide +kernel
theorem bt_int : bootBuiltins "int" = some (.type "int") := by decide +kernel
theorem bt_str : bootBuiltins "str" = some (.type "str") := by decide +kernel
theorem bt_bool : bootBuiltins "bool" = some (.type "bool") := by decide +kernel
theorem bt_list : bootBuiltins "list" = some (.type "list") := by decide +kernel
theorem bt_tuple : bootBuiltins "tuple" = some (.type "tuple") := by decide +kernel
structure Hd (K : PySem.W.Frag) (mg : Str → Option Value) (x : Str) (qual : Str) (st : Stmt) where
  f : Addr
  fd : FuncData
  F : L2.Fun K x qual st f fd
  m : mg x = some (.ref f)
section
variable {P : Program} {w : World} {K : PySem.W.Frag} {mg : Str → Option Value} {base : Heap}
theorem nil_at {i : Nat} {o : O} (e : (([] : List O) ++ [])[i]? = some o) : False := by simp at e
theorem law_start {g : MF} {H : Hp} {a : Addr} {ns : List Int} {n : Nat} {E : XK} (hg : ∀ l : List Int, l.length ≤ n → ∃ S, g [.t (.scr l)] [] [] = .ok (.t (.bl true)) S) (hl : ns.length ≤ n) (hn : n ≤ 63) (hO : Only H) (hS : SqL K H a (ns.map V.int)) : spM K 1 g [.ref a] H (fun v _ => v = .bl true) E := by
  obtain ⟨S', e⟩ := hg ns hl
  have hz : ns.length ≤ sizeLine := Nat.le_trans (Nat.le_trans hl hn) (by decide)
  have sim : ∀ Z : Addr → Prop, (∀ b, Z b → ∃ u, H b = some u) → Sim K [] [] ⟨0, fun _ => 0, Z, fun _ => False⟩ H := fun Z hZ =>
    { n := rfl, ro := fun i o e => (nil_at e).elim, nz := fun i o e => (nil_at e).elim, inj := fun i j o u e => (nil_at e).elim, z := hZ, y := fun a h => False.elim h, yz := fun a h => False.elim h, yc := fun i o e => (nil_at e).elim }
  have fin : ∀ Z : Addr → Prop, (∀ b, Z b → ∃ u, H b = some u) → RV K Z H (.scr ns) (.ref a) → spM K 1 g [.ref a] H (fun v _ => v = .bl true) E := fun Z hZ r => by
    refine ⟨rfl, ⟨0, fun _ => 0, Z, fun _ => False⟩, [], [], [.t (.scr ns)], sim Z hZ, .cons r .nil, ?_⟩
    rw [e]
    intro c' v H' _ _ rv
    cases rv
    rfl
  rcases hS with h | ⟨o, its, k, h1, h2, h3, h4, h5, h6⟩
  · refine fin (fun b => b = a) (fun b hb => ?_) ?_
    · rw [hb]
      rcases h with h | ⟨o, h⟩
      · exact ⟨_, h⟩
      · exact ⟨_, h⟩
    · rcases h with h | ⟨o, h⟩
      · exact .scr1 ns a hz rfl h
      · exact .scr ns a o hz rfl h
  · exact fin (fun _ => False) (fun b h => False.elim h) (.scrK ns a hz ⟨o, its, k, h1, h2, h3, h4, h5, h6⟩)
end
end Fm

/-! FmC: ways to see a call. -/
namespace Fm
open PySem PySem.Spec PyProof.Rows L2
/-- the caller's store is kept, what is handed back is a tree (or a cell that was made within, seen as a tree) -/
def pureZ (g : MF) : MF := fun ds P S => match g ds (P ++ S) [] with
  | .ok d S' => match frzD (P ++ S) d S' with
    | some (.t x, _) => .ok (.t x) S
    | _ => .no
  | _ => .no
/-- the callee sees the last cell alone as one that it may change -/
def lastF (g : MF) : MF := fun ds P S => match g ds (P ++ S.take (S.length - 1)) (S.drop (S.length - 1)) with
  | .ok d S' => .ok d (S.take (S.length - 1) ++ S')
  | .ex x S' => .ex x (S.take (S.length - 1) ++ S')
  | .no => .no
section
variable {K : PySem.W.Frag} {P S S1 S2 : List O} {c c' : Cf} {H H' : Hp} {n : Nat} {g : MF}
theorem sp_pureZ : ∀ vs H Q E, spM K n (pureZ g) vs H Q E → spM K n g vs H Q E := by
  rintro vs H Q E ⟨hn, c, P, S, ds, hS, hr, h⟩
  refine ⟨hn, c, P ++ S, [], ds, hS.lock, hr, ?_⟩
  unfold pureZ at h
  generalize g ds (P ++ S) [] = r at h
  cases r with
  | ex x S' => exact h.elim
  | no => exact h
  | ok d S' =>
    simp only at h
    cases ef : frzD (P ++ S) d S' with
    | none => rw [ef] at h; exact h.elim
    | some p =>
      obtain ⟨d', S2⟩ := p
      rw [ef] at h
      cases d' with
      | ref i => exact h.elim
      | t x =>
        intro c' v H' ev s' rd
        obtain ⟨c2, e2, s2, r2⟩ := frzD_ok s' rd ef
        have ev2 := ev.trans hS.lock.pl e2
        exact h { c2 with n := c.n } v H' (hS.forget ev2 s2).1 (hS.forget ev2 s2).2 r2
theorem Sim.assoc (h : Sim K P (S1 ++ S2) c H) : Sim K (P ++ S1) S2 c H where
  n := by have := h.n; rw [List.length_append] at this ⊢; omega
  ro := fun i o e => h.ro i o (by rw [← List.append_assoc]; exact e)
  nz := fun i o e => h.nz i o (by rw [← List.append_assoc]; exact e)
  inj := fun i j o u e1 e2 => h.inj i j o u (by rw [← List.append_assoc]; exact e1) (by rw [← List.append_assoc]; exact e2)
  z := h.z
  y := h.y
  yz := h.yz
  yc := fun i o e => h.yc i o (by rw [← List.append_assoc]; exact e)
theorem Sim.unassoc (h : Sim K (P ++ S1) S2 c H) : Sim K P (S1 ++ S2) c H where
  n := by have := h.n; rw [List.length_append] at this ⊢; omega
  ro := fun i o e => h.ro i o (by rw [List.append_assoc]; exact e)
  nz := fun i o e => h.nz i o (by rw [List.append_assoc]; exact e)
  inj := fun i j o u e1 e2 => h.inj i j o u (by rw [List.append_assoc]; exact e1) (by rw [List.append_assoc]; exact e2)
  z := h.z
  y := h.y
  yz := h.yz
  yc := fun i o e => h.yc i o (by rw [List.append_assoc]; exact e)
theorem Ev.less (h : Ev (P ++ S1) c H c' H') : Ev P c H c' H' :=
  ⟨h.z, h.rd, h.rdD, h.n, h.m, fun i o e l => h.b i o (by rw [List.getElem?_append_left (List.getElem?_eq_some_iff.mp e).1]; exact e) l, h.y, h.fz⟩
theorem sp_last : ∀ vs H Q E, spM K n (lastF g) vs H Q E → spM K n g vs H Q E := by
  rintro vs H Q E ⟨hn, c, P, S, ds, hS, hr, h⟩
  have e : S.take (S.length - 1) ++ S.drop (S.length - 1) = S := List.take_append_drop _ _
  refine ⟨hn, c, P ++ S.take (S.length - 1), S.drop (S.length - 1), ds, Sim.assoc (by rw [e]; exact hS), hr, ?_⟩
  unfold lastF at h
  generalize g ds (P ++ S.take (S.length - 1)) (S.drop (S.length - 1)) = r at h
  cases r with
  | ok d S' => exact fun c' v H' ev s' rd => h c' v H' ev.less s'.unassoc rd
  | ex x S' => exact fun c' H' ev s' => (h c' H' ev.less s'.unassoc)
  | no => exact h
variable {Pg : Program} {w : World} {mg : Str → Option Value} {base : Heap} {k : Nat} {f : Addr} {fd : FuncData} {ps : List Str}
end
end Fm

/-! FmR: e[::-1], min and max of lists, list(range(n)), d.get. -/
namespace Fm
open PySem PySem.Spec PyProof.Rows L2
section
variable {X : Cx} {W : WX} {e : Expr} {f : ME}
/-! ### e[::-1] -/
def tRevA (K : PySem.W.Frag) (te : TE) : TE := fun σ H Q => te σ H fun x H1 => (∃ a xs, x = .ref a ∧ SqL K H1 a xs ∧ ∀ p, H1 p = none → xs.length ≤ sizeLine → Q (.ref p) (upd H1 p (.lst xs.reverse))) ∨ ∃ z : Tx, x = .str (sv z) ∧ z.length ≤ sizeLine ∧ Q (.str (sv z.reverse)) H1
theorem rev_text (z : Tx) : (⟨((Builtin.Str.strSliceIndices none none (-1) (sv z).length).filterMap ((sv z).cps[·]?)).toArray⟩ : Str) = sv z.reverse := by
  show (⟨_⟩ : Str) = ⟨z.reverse.toArray⟩
  congr 1
  rw [sv_len, PyProof.Rows.picked_rev]
  congr 1
  apply List.ext_getElem?
  intro i
  rw [List.filterMap_map]
  have hs : ∀ l : List Nat, (∀ k ∈ l, k < z.length) → l.filterMap ((fun j => (sv z).cps[j]?) ∘ fun k => z.length - 1 - k) = l.map fun k => z.getD (z.length - 1 - k) 0 := by
    intro l
    induction l with
    | nil => exact fun _ => rfl
    | cons k l ih =>
      intro h
      have hk := h k List.mem_cons_self
      have hc : (sv z).cps[z.length - 1 - k]? = some (z.getD (z.length - 1 - k) 0) := by
        show (z.toArray)[z.length - 1 - k]? = _
        rw [List.getElem?_toArray, List.getD_eq_getElem?_getD, List.getElem?_eq_getElem (by omega)]
        rfl
      rw [List.filterMap_cons, List.map_cons, ih fun x hx => h x (List.mem_cons_of_mem _ hx)]
      simp only [Function.comp, hc]
  rw [hs _ fun k hk => List.mem_range.mp hk, List.getElem?_map]
  by_cases hi : i < z.length
  · rw [List.getElem?_range hi, List.getElem?_reverse hi]
    show some (z.getD (z.length - 1 - i) 0) = _
    rw [List.getD_eq_getElem?_getD, List.getElem?_eq_getElem (by omega)]
    rfl
  · rw [List.getElem?_eq_none (by rw [List.length_range]; omega), List.getElem?_eq_none (by rw [List.length_reverse]; omega)]
    rfl
theorem pe_revA {te : TE} {k : Nat} {p1 p2 p3 pos : Pos} (he : PE X e te) : PE X (.Subscript e (.Slice none none (some (.UnaryOp .USub (.Constant (.int 1) k p1) p2)) p3) pos) (tRevA X.K te) := by
  refine ⟨fun pins s σ H Q I h => ?_⟩
  refine Subscript_ (thn (he.run pins s σ H _ I h) fun v s1 ⟨x, H1, I1, r1, q1⟩ => ?_)
  have hst : PO X (some (.UnaryOp .USub (.Constant (.int 1) k p1) p2)) (tPart (tUn (rU fun i => .int (-i)) (tC (.int 1)))) := po_some (pe_un un_neg pe_int)
  refine wpAny_Slice (thn (po_none.run pins s1 σ H1 (fun o H2 => o = none ∧ H2 = H1) I1 ⟨rfl, rfl⟩) fun vl s2 ⟨l, H2, I2, pl, el, e2⟩ => ?_)
  subst el e2
  refine thn (po_none.run pins s2 σ H2 (fun o H3 => o = none ∧ H3 = H2) I2 ⟨rfl, rfl⟩) fun vu s3 ⟨u, H3, I3, pu, eu, e3⟩ => ?_
  subst eu e3
  refine thn (hst.run pins s3 σ H3 (fun o H4 => o = some (-1) ∧ H4 = H3) I3 ⟨1, rfl, -1, rfl, rfl, rfl⟩) fun vs s4 ⟨o, H4, I4, ps, eo, e4⟩ => ?_
  subst eo e4
  have I5 : Inv X pins σ H4 { s4 with heap := s4.heap.push { cls := .type "slice", data := .fields #[vl, vu, vs] } } := I4.kept (t' := s4.toks) fun b ob q => Heap.get?_push_of_some _ q
  rcases q1 with ⟨a, xs, ex, hx, q⟩ | ⟨z, ex, hz, q⟩
  · subst ex
    cases r1
    obtain ⟨its, r, ht, hz⟩ := I5.list hx
    have hlen := r.length
    show wpAny (model X.prog X.w) X.A (subscriptTail e (.Slice none none (some (.UnaryOp .USub (.Constant (.int 1) k p1) p2)) p3) (.ref a) (.ref s4.heap.objs.size)) (EP X pins σ Q) X.xe { s4 with heap := s4.heap.push { cls := .type "slice", data := .fields #[vl, vu, vs] } }
    refine tail_any (ops := [.ref a, .ref s4.heap.objs.size]) ht.isList.typeIs (PySem.slot_list_getitem.lookup) ?_ (by with_unfolding_all rfl)
    refine wpAny_getItem_list_slice ht.isList (Heap.IsSliceOf.new _ vl vu vs) pl pu ps (by decide) ?_ (by rw [List.size_toArray]; omega)
    rw [PySem.W.krv_pick]
    refine ⟨.ref _, _, I5.laid (t' := s4.toks) (o := .lst xs.reverse) (fun b ob q => Heap.get?_push_of_some _ q) (Nat.le_refl _) ?_, rfl, q _ (I5.hok.fresh (Nat.le_refl _)) hz⟩
    exact ⟨by rw [List.length_reverse]; exact hz, _, 0, r.reverse, Heap.get?_push_size _ rfl⟩
  · subst ex
    obtain ⟨t, rfl⟩ := r1
    obtain ⟨l', rfl, el⟩ := IsPart.raw pl
    obtain ⟨u', rfl, eu⟩ := IsPart.raw pu
    obtain ⟨w', rfl, ew⟩ := IsPart.raw ps
    show wpAny (model X.prog X.w) X.A (subscriptTail e (.Slice none none (some (.UnaryOp .USub (.Constant (.int 1) k p1) p2)) p3) (.str (sv z) t) (.ref s4.heap.objs.size)) (EP X pins σ Q) X.xe _
    refine tail_any (ops := [.str (sv z) t, .ref s4.heap.objs.size]) (typeIs_str _ _ _) (PySem.F.slot_str_getitem.lookup) ?_ (by with_unfolding_all rfl)
    refine wpAny_getItem_str_slice (l := l') (u := u') (st := w') ⟨_, Heap.get?_push_size _ rfl, rfl, rfl⟩ (by rw [ew]; rfl) ?_
    unfold sliceMade slicePicked
    rw [el, eu, ew]
    show Made.post (if ((-1 : Int) == 1 && (Builtin.Str.strSliceIndices none none (-1) (sv z).length).length == (sv z).length) = true then Made.val (.str (sv z) t)
      else Made.str ⟨((Builtin.Str.strSliceIndices none none (-1) (sv z).length).filterMap ((sv z).cps[·]?)).toArray⟩) (EP X pins σ Q) _
    rw [if_neg (by simp), rev_text]
    exact ⟨by show (sv z.reverse).length ≤ sizeLine; rw [sv_len, List.length_reverse]; exact hz, .str (sv z.reverse), H4, I5.tok _, ⟨_, rfl⟩, q⟩
/-- what is read from behind -/
def revIn (P S : List O) : D → Option T
  | .t (.str s) => some (.str s.reverse)
  | .t (.lst l) => some (.lst l.reverse)
  | .ref i => match (P ++ S)[i]? with
    | some (.lst l) => (trees l).map fun l => .lst l.reverse
    | _ => none
  | _ => none
def mRev (f : ME) : ME := fun P ρ S => (f P ρ S).bind fun d S1 => match revIn P S1 d with
  | some x => .ok (.t x) S1
  | none => .no
theorem RVs.revV {K : PySem.W.Frag} {Z : Addr → Prop} {H : Hp} {a : List T} {u : List V} (h : RVs K Z H a u) : RVs K Z H a.reverse u.reverse := by
  have app : ∀ {a b : List T} {u v : List V}, RVs K Z H a u → RVs K Z H b v → RVs K Z H (a ++ b) (u ++ v) := by
    intro a b u v h1 h2
    induction a generalizing u with
    | nil => cases h1; exact h2
    | cons x a ih =>
      cases h1 with
      | cons _ y _ _ q1 q2 => exact .cons _ _ _ _ q1 (ih q2)
  induction a generalizing u with
  | nil => cases h; exact .nil
  | cons x a ih =>
    cases h with
    | cons _ y _ _ q1 q2 =>
      rw [List.reverse_cons, List.reverse_cons]
      exact app (ih q2) (.cons _ _ _ _ q1 .nil)
theorem pm_rev {k : Nat} {p1 p2 p3 pos : Pos} (h : PM X W e f) : PM X W (.Subscript e (.Slice none none (some (.UnaryOp .USub (.Constant (.int 1) k p1) p2)) p3) pos) (mRev f) := by
  refine ⟨pe_weak (pe_revA h.run) fun σ H Q q => ?_⟩
  obtain ⟨c, P, ρ, S, hE, hS, q⟩ := q
  refine tM_bind hE hS q fun d v S1 c1 H1 e1 E1 s1 r1 h1 => ?_
  have lst : ∀ {l : List T} {vs : List V} {a : Addr}, v = .ref a → SqL X.K H1 a vs → RVs X.K c1.Z H1 l vs → revIn P S1 d = some (.lst l.reverse) → (∃ a xs, v = .ref a ∧ SqL X.K H1 a xs ∧ ∀ p, H1 p = none → xs.length ≤ sizeLine → Q (.ref p) (upd H1 p (.lst xs.reverse))) := fun {l vs a} ev hq r er => by
    rw [er] at h1
    refine ⟨a, vs, ev, hq, fun p hp hl => h1 (c1.zed p) (.ref p) _ (Ev.alloc s1 hp) (Sim.alloc s1 hp) (.lst _ p _ (.inr rfl) upd_same (by rw [List.length_reverse]; exact hl) (RVs.mono' (Ev.alloc s1 hp) r.revV))⟩
  cases d with
  | ref i =>
    obtain ⟨hi, rfl⟩ := r1
    cases eo : (P ++ S1)[i]? with
    | none => unfold revIn at h1; simp only [eo] at h1; exact h1.elim
    | some o =>
      cases o with
      | lst l =>
        obtain ⟨vs, hH, hl, rr⟩ := s1.ro _ _ eo
        cases et : trees l with
        | none => unfold revIn at h1; simp only [eo, et] at h1; exact h1.elim
        | some ts =>
          have er : revIn P S1 (.ref i) = some (.lst ts.reverse) := by unfold revIn; simp only [eo, et]; rfl
          exact .inl (lst rfl (SqL.of hH) (rr.trees et) er)
      | dead => unfold revIn at h1; simp only [eo] at h1; exact h1.elim
      | dic l => unfold revIn at h1; simp only [eo] at h1; exact h1.elim
      | dit l => unfold revIn at h1; simp only [eo] at h1; exact h1.elim
      | ins C fs => unfold revIn at h1; simp only [eo] at h1; exact h1.elim
  | t d =>
    cases d <;> first | exact h1.elim | skip
    · rename_i s
      cases r1 with
      | str _ hl => exact .inr ⟨s, rfl, hl, h1 c1 _ H1 (Ev.refl s1) s1 (.str _ (by rw [List.length_reverse]; exact hl))⟩
    · rename_i l
      cases r1 with
      | lst _ a vs g1 g2 g3 g4 => exact .inl (lst rfl (SqL.of g2) g4 rfl)
/-! ### min, max of a list of texts, of numbers -/
theorem depth_strs : ∀ bs : List Tx, PyData.depthAll (bs.map fun y => PyData.str (sv y)) ≤ 1
  | [] => Nat.zero_le _
  | b :: bs => by
    rw [List.map_cons, PyData.depthAll]
    have := depth_strs bs
    have e : (PyData.str (sv b)).depth ≤ 1 := by first | decide | simp [PyData.depth]
    omega
/-! ### list(range(n)) -/
end
end Fm

/-! FmD: d.get(k, x), {k: v}, d != {}, for k in d, min(a, b) of texts, freezing dicts of lists. -/
namespace Fm
open PySem PySem.Spec PyProof.Rows L2

/-! ### min of two -/
section
variable {prog : Program} {w : World} {A : Around} {E : Value → Shared → Prop} {s : Shared}
def strAt (a b : Str) (i : Nat) : Str := if i = 0 then a else b
theorem CmpOf_strs {A : Around} {a b : Str} {t u : Tok} : CmpOf prog w A .Lt (fun i v => #[Value.str a t, Value.str b u][i]? = some v) (fun i j => decide ((strAt a b i).cps.toList < (strAt a b j).cps.toList)) := fun i j vi vj s Q E hi hj h => by
  have key : ∀ {i : Nat} {v : Value}, #[Value.str a t, Value.str b u][i]? = some v → ∃ z, v = .str (strAt a b i) z := fun {i v} e => by
    match i, e with
    | 0, e => simp at e; exact ⟨t, e.symm⟩
    | 1, e => simp at e; exact ⟨u, e.symm⟩
  obtain ⟨t1, rfl⟩ := key hi
  obtain ⟨t2, rfl⟩ := key hj
  exact richCompare_gives (op := .Lt) (typeIs_str s _ t1) (typeIs_str s _ t2) PySem.F.slot_str_lt PySem.F.entry_str_lt (PySem.F.args_str_lt_2 _ _) (gives_str_lt _ _ t1 t2) (fun x => nomatch x) h
theorem min_two_strs {a b : Str} {t u : Tok} {Q : Value → Shared → Prop} (hh : A.handled = none)
    (h : ∀ h' tk, (∀ c o, s.heap.get? c = some o → h'.get? c = some o) → Q (if b.cps.toList < a.cps.toList then .str b u else .str a t) { s with heap := h', toks := tk }) :
    wpAny (model prog w) A (call (.builtin "min") [.str a t, .str b u]) Q E s := by
  have hT : (s.heap.push { cls := .type "tuple", data := .seq #[.str a t, .str b u] }).IsTuple s.heap.objs.size #[.str a t, .str b u] := ⟨_, Heap.get?_push_size _ rfl, rfl, 0, rfl⟩
  refine call_min_two (wpAny_pyIter_tuple hT ?_)
  have hsz : (s.heap.push { cls := .type "tuple", data := .seq #[.str a t, .str b u] }).objs.size = s.heap.objs.size + 1 := Heap.size_push ..
  refine ⟨_, [_, s.heap.objs.size], [_], _, _, _, _, rfl, Walks.tuple (A := A.in1) hh _ s.heap.objs.size (by rw [hsz]; exact Nat.ne_of_lt (Nat.lt_succ_self _)) #[.str a t, .str b u],
    ⟨⟨_, Heap.get?_push_size _ rfl, rfl, rfl⟩, hT.push _⟩, fun c hc => ?_, by simp, CmpOf_strs (a := a) (b := b) (t := t) (u := u), fun v h' tk hP hk => ?_⟩
  · show c < ((s.heap.push _).push _).objs.size
    rw [Heap.size_push, hsz]
    rcases List.mem_cons.mp hc with rfl | hc
    · rw [hsz]; exact Nat.lt_succ_self _
    · rcases List.mem_cons.mp hc with rfl | hc
      · exact Nat.lt_succ_of_lt (Nat.lt_succ_self _)
      · cases hc
  · have hold : ∀ c o, s.heap.get? c = some o → h'.get? c = some o := fun c o e => by
      refine hk c o (fun hm => ?_) (Heap.get?_push_of_some _ (Heap.get?_push_of_some _ e))
      rcases List.mem_cons.mp hm with e1 | hm
      · have := Heap.lt_size e; rw [e1, hsz] at this; exact Nat.lt_irrefl _ (Nat.lt_of_succ_lt this)
      · cases hm
    have := h h' tk hold
    have hv : v = if b.cps.toList < a.cps.toList then Value.str b u else Value.str a t := by
      have hP' : #[Value.str a t, Value.str b u][argBest (fun i j => decide ((strAt a b i).cps.toList < (strAt a b j).cps.toList)) 1]? = some v := hP
      by_cases hba : b.cps.toList < a.cps.toList
      · have e : argBest (fun i j => decide ((strAt a b i).cps.toList < (strAt a b j).cps.toList)) 1 = 1 := by simp [argBest, strAt, hba]
        rw [e] at hP'
        simpa [hba] using hP'.symm
      · have e : argBest (fun i j => decide ((strAt a b i).cps.toList < (strAt a b j).cps.toList)) 1 = 0 := by simp [argBest, strAt, hba]
        rw [e] at hP'
        simpa [hba] using hP'.symm
    rw [hv]; exact this
end
section
variable {X : Cx} {W : WX}
def min2X : List T → Option T
  | [.int i, .int j] => some (.int (if j < i then j else i))
  | [.str x, .str y] => some (.str (if y < x then y else x))
  | _ => none
theorem call_min2X (hc : X.calm = true) : CallM X (.builtin "min") (lTL min2X) := by
  refine callM_of fun pins s σ H xs us Q Z ts z I rx ra e q q2 up => ?_
  unfold min2X at e
  split at e
  · cases e
    obtain ⟨v, w, rfl, r, r'⟩ := ra.two
    cases r; cases r'
    exact call_min2 hc pins s σ H _ us Q I rx ⟨_, _, rfl, q _ (.int _)⟩
  · rename_i x y
    cases e
    obtain ⟨v, w, rfl, r, r'⟩ := ra.two
    cases r with
    | str _ h1 =>
      cases r' with
      | str _ h2 =>
        obtain ⟨u, w', rfl, ⟨t, rfl⟩, ⟨t', rfl⟩⟩ := vals2 rx
        refine min_two_strs (I.ok.hd hc) fun h' tk k => ?_
        rw [sv_list, sv_list]
        by_cases hj : y < x
        · rw [if_pos hj] at q ⊢
          exact ⟨.str (sv y), H, I.kept k, ⟨t', rfl⟩, q _ (.str _ h2)⟩
        · rw [if_neg hj] at q ⊢
          exact ⟨.str (sv x), H, I.kept k, ⟨t, rfl⟩, q _ (.str _ h1)⟩
  · cases e

/-! ### d.get(k, x) -/
def isDic (d : D) (P S : List O) : Bool := match d with
  | .t (.dic _) => true
  | .t (.dit _) => true
  | .ref i => match (P ++ S)[i]? with
    | some (.dic _) => true
    | some (.dit _) => true
    | _ => false
  | _ => false
theorem isDic_ok {K : PySem.W.Frag} {P S : List O} {c : Cf} {H : Hp} {d : D} {x : V} (hS : Sim K P S c H) (r : RD K c H d x) (h : isDic d P S = true) : ∃ a, x = .ref a ∧ IsD H a := by
  unfold isDic at h
  cases d with
  | t d =>
    cases d <;> first | exact Bool.noConfusion h | skip
    · cases r with
      | dic _ a kvs h1 h2 h3 => exact ⟨a, rfl, .inl ⟨kvs, h2⟩⟩
    · cases r with
      | dit _ a kvs h1 h2 h3 => exact ⟨a, rfl, .inr ⟨kvs, h2⟩⟩
  | ref i =>
    obtain ⟨_, rfl⟩ := r
    simp only at h
    cases z : (P ++ S)[i]? with
    | none => rw [z] at h; cases h
    | some o =>
      rw [z] at h
      have hro := hS.ro i o z
      cases o <;> first | exact Bool.noConfusion h | skip
      · obtain ⟨kvs, hH, _⟩ := hro
        exact ⟨_, rfl, .inl ⟨kvs, .inl hH⟩⟩
      · obtain ⟨kvs, hH, _⟩ := hro
        exact ⟨_, rfl, .inr ⟨kvs, .inl hH⟩⟩
def mGet2 (fo fk fx : ME) : ME := fun P ρ S => (fo P ρ S).bind fun d S1 => if isDic d P S1 then (fk P ρ S1).bind fun k S2 => (fx P ρ S2).bind fun x S3 => match k with
  | .ref _ => .no
  | .t k => match dGet P S3 d k with
    | some r => .ok (r.getD x) S3
    | none => .no
  else .no
theorem pm_get2 {o k x : Expr} {fo fk fx : ME} {apos cpos : Pos} (hu : X.A.units + 1 < cLine) (ho : PM X W o fo) (hk : PM X W k fk) (hx : PM X W x fx)
    (hbase : attributeBase o "get" X.env (eval o X.env) = eval o X.env := by rfl)
    (hfew : ((backTo cpos (starEach [k, x] X.env)).all (fun x => !x.1) && (backToKw cpos (keywordEach [] X.env)).all (fun x => x.1.isSome)
      && decide (([k, x] : List Expr).length + ([] : List Keyword).length + (if ([] : List Keyword).isEmpty then 0 else 1) < 30)) = true := by rfl)
    (hline : (apos.endLine == cpos.line) = true := by rfl) (htr : backTo cpos (starEach [k, x] X.env) = [(false, eval k X.env), (false, eval x X.env)] := by rfl) :
    PM X W (.Call (.Attribute o "get" apos) [k, x] [] cpos) (mGet2 fo fk fx) := by
  refine ⟨pe_weak (pe_dget2 hu ho.run hk.run hx.run ⟨hbase, hfew, hline, htr⟩) fun σ H Q h => ?_⟩
  obtain ⟨c, P, ρ, S, hE, hS, h⟩ := h
  refine tM_bind hE hS h fun d v S1 c1 H1 e1 E1 s1 r1 h1 => ?_
  by_cases hd : isDic d P S1 = true
  · rw [if_pos hd] at h1
    obtain ⟨a, rfl, ha⟩ := isDic_ok s1 r1 hd
    refine ⟨a, rfl, ha, ?_⟩
    refine tM_bind E1 s1 h1 fun kd kv S2 c2 H2 e2 E2 s2 r2 h2 => ?_
    refine tM_bind E2 s2 h2 fun xd xv S3 c3 H3 e3 E3 s3 r3 h3 => ?_
    cases kd with
    | ref i => exact h3.elim
    | t kt =>
      cases q : dGet P S3 d kt with
      | none => simp only [q] at h3; exact h3.elim
      | some r =>
        simp only [q] at h3
        obtain ⟨a', ov, ea, g, gr⟩ := dGet_ok s3 ((r1.mono e2).mono e3) (RV.mono' e3 r2) q
        cases ea
        refine ⟨ov, g, ?_⟩
        cases r with
        | none =>
          have : ov = none := gr
          subst this
          exact h3 c3 xv H3 (Ev.refl s3) s3 r3
        | some e =>
          obtain ⟨v, rfl, rv⟩ := gr
          exact h3 c3 v H3 (Ev.refl s3) s3 rv
  · rw [if_neg hd] at h1
    exact h1.elim

/-! ### {k: v} -/
def mDic1 (fin : List (At × D) → List O → List O → R D) (fk fv : ME) : ME := fun P ρ S => (fk P ρ S).nx.bind fun k S1 => (fv P ρ S1).nx.bind fun y S2 => match k with
  | .ref _ => .no
  | .t k => match k.at with
    | some k => fin [(k, y)] P S2
    | none => .no
theorem pm_dic1 {fin : List (At × D) → List O → List O → R D} {k v : Expr} {fk fv : ME} {pos : Pos} (hf : FinDOk X.K fin) (hk : PM X W0 k fk) (hv : PM X W0 v fv) : PM X W (.Dict [some k] [v] pos) (mDic1 fin fk fv) := by
  refine ⟨pe_weak (pe_disp (pps_cons hk.run hv.run pps_nil) rfl rfl (by simp) (by simp)) fun σ H Q h => ?_⟩
  obtain ⟨c, P, ρ, S, hE, hS, h⟩ := h
  intro p hp
  have ev0 := Ev.yed (o := .dK []) hS hp
  have s0 := Sim.yed (o := .dK []) hS hp
  refine ⟨c.yed p, P, ρ, S, hE.mono ev0, s0, ?_⟩
  unfold mDic1 at h
  generalize fk P ρ S = rk at h
  cases rk with
  | ex x S1 => exact h.elim
  | no => exact h.elim
  | ok kd S1 =>
    simp only [R.nx_ok, R.bind_ok] at h
    intro c1 kv H1 e1 s1 r1
    refine ⟨c1, P, ρ, S1, (hE.mono ev0).mono e1, s1, ?_⟩
    generalize fv P ρ S1 = rv at h
    cases rv with
    | ex x S1 => exact h.elim
    | no => exact h.elim
    | ok yd S2 =>
      simp only [R.nx_ok, R.bind_ok] at h
      intro c2 yv H2 e2 s2 r2
      cases kd with
      | ref i => exact h.elim
      | t kt =>
        simp only at h
        cases zk : kt.at with
        | none => rw [zk] at h; exact h.elim
        | some k' =>
          rw [zk] at h
          obtain ⟨rfl, hfit⟩ := RV.atom (RV.mono' e2 r1) zk
          have y1 := e1.y p (show c.Y p ∨ p = p from .inr rfl)
          have y2 := e2.y p y1.1
          have hH : H2 p = some (.dK []) := y2.2.trans (y1.2.trans upd_same)
          refine ⟨hH, [(k'.key, yv)], rfl, by simp, ?_⟩
          have ev : Ev P c H c2 H2 := (ev0.trans hS.pl e1).trans hS.pl e2
          have zn : ∀ {a}, c2.Z a → a ≠ p := fun z q => s2.yz p y2.1 (q ▸ z)
          have up : ∀ {d : D} {v : V}, RD X.K c2 H2 d v → RD X.K c2 (upd H2 p (.dK [(k'.key, yv)])) d v := fun {d v} rr => by
            cases d with
            | ref i => exact rr
            | t x => exact RV.mono (fun _ z => z) (fun a w z e _ => by rw [upd_ne (zn z)]; exact e) (fun a w z _ _ e => by unfold Rd; rw [upd_ne (zn z)]; exact e) rr
          exact hf P S S2 c2 c (upd H2 p (.dK [(k'.key, yv)])) H p [(k', yd)] [(k'.key, yv)] W Q hS hp (Ev.updY hS hp ev) (s2.updY y2.1) y2.1 upd_same (.cons ⟨⟨hfit, rfl⟩, up r2⟩ .nil) h

/-! ### d == {}, d != {} -/
def dLen (P S : List O) (d : D) : Option Nat := match d with
  | .t (.dic l) => some l.length
  | .ref i => match (P ++ S)[i]? with
    | some (.dic l) => some l.length
    | _ => none
  | _ => none
def mDicZ (neg : Bool) (fa : ME) : ME := fun P ρ S => (fa P ρ S).bind fun d S1 => match dLen P S1 d with
  | some n => .ok (.t (.bl (neg ^^ (n == 0)))) S1
  | none => .no
end
end Fm

/-! FmE: for k in d (a dict that is a tree); freezing lists and dicts of cells. -/
namespace Fm
open PySem PySem.Spec PyProof.Rows L2
section
variable {K : PySem.W.Frag} {P S S' : List O} {c c' : Cf} {H H' : Hp} {a : Addr} {u : HO} {od : Obj}
theorem Ev.lock (hS : Sim K P S c H) (hz : c.Z a) (hu : H a = some u) (hd : isD u = true) (pl : Pl u) : Ev P c H c (upd H a (.frz od u)) where
  z := fun _ z => z
  rd := fun x w z e i => by
    have : x ≠ a := fun q => by subst q; rw [hu] at e; cases e; rw [hd] at i; cases i
    rw [upd_ne this]; exact e
  rdD := fun x w z pw i e => by
    by_cases q : x = a
    · subst q
      rcases e with e | ⟨o, e⟩
      · rw [hu] at e; cases e
        exact .inr ⟨od, upd_same⟩
      · rw [hu] at e; cases e; exact pl.elim
    · unfold Rd; rw [upd_ne q]; exact e
  n := Nat.le_refl _
  m := fun _ _ => rfl
  b := fun i o e l => by
    have e' : (P ++ S)[i]? = some o := by rw [List.getElem?_append_left (List.getElem?_eq_some_iff.mp e).1]; exact e
    exact ⟨upd_ne fun q => h1 e' l q, hS.nz i o e' l, hS.yc i o e' l⟩
  y := fun x z => ⟨z, upd_ne fun q => hS.yz x z (q ▸ hz)⟩
  fz := fun x o w z e => by
    have : x ≠ a := fun q => by subst q; rw [hu] at e; cases e; exact pl.elim
    rw [upd_ne this]; exact e
where h1 {i : Nat} {o : O} (e : (P ++ S)[i]? = some o) (l : o.live = true) (q : c.m i = a) : False := hS.nz i o e l (q ▸ hz)
def Oc.noex : Oc → Oc
  | .ex _ _ _ => .no
  | o => o
@[simp] theorem Oc.noex_nx (ρ : En) (S : List O) : (Oc.nx ρ S).noex = .nx ρ S := rfl
@[simp] theorem Oc.noex_rt (d : D) (S : List O) : (Oc.rt d S).noex = .rt d S := rfl
def At.t : At → T
  | .int i => .int i
  | .str s => .str s
def keysD (l : List (At × T)) : List D := l.map fun p => .t p.1.t
theorem RKs.at : ∀ {l : List (At × T)} {kvs : List (Key × V)} {Z : Addr → Prop} {i : Nat} {p : At × T}, RKs K Z H l kvs → l[i]? = some p → ∃ v, kvs[i]? = some (p.1.key, v) ∧ p.1.Fit
  | _, _, _, _, _, .nil, h => by simp at h
  | _, _, _, 0, _, .cons k t v ts vs h0 h1 _, h => by simp at h; subst h; exact ⟨v, rfl, h0⟩
  | _, _, _, i + 1, _, .cons k t v ts vs _ _ h2, h => by simpa using RKs.at (i := i) h2 (by simpa using h)
end
section
variable {X : Cx} {W : WX}
def sForK (i : Nat) (g : MG) (fb : MS) : MS := fun P ρ S => match ρ[i]? with
  | some (some (.t (.dic l))) => if l.length ≤ sizeLine then (forGo g fb P (keysD l) ρ S).noex else .no
  | _ => .no
end

/-! ### freezing what holds cells -/
abbrev FZ := List O → D → List O → Option (D × List O)
def FzOk (K : PySem.W.Frag) (z : FZ) : Prop := ∀ (P S S' : List O) (c : Cf) (H : Hp) (d d' : D) (v : V), Sim K P S c H → RD K c H d v → z P d S = some (d', S') → ∃ c', Ev P c H c' H ∧ Sim K P S' c' H ∧ RD K c' H d' v
theorem fz_D {K : PySem.W.Frag} : FzOk K frzD := fun _ _ _ _ _ _ _ _ h r e => frzD_ok h r e
def frzL (z : FZ) (P : List O) : List D → List O → Option (List T × List O)
  | [], S => some ([], S)
  | d :: r, S => match z P d S with
    | some (.t x, S1) => (frzL z P r S1).map fun q => (x :: q.1, q.2)
    | _ => none
def frzK (z : FZ) (P : List O) : List (At × D) → List O → Option (List (At × T) × List O)
  | [], S => some ([], S)
  | (k, d) :: r, S => match z P d S with
    | some (.t x, S1) => (frzK z P r S1).map fun q => ((k, x) :: q.1, q.2)
    | _ => none
def frzW (z : FZ) : FZ := fun P d S => match d with
  | .t x => some (.t x, S)
  | .ref i => if P.length ≤ i then match S[i - P.length]? with
    | some (.lst l) => match frzL z P l S with
      | some (ts, S1) => match S1[i - P.length]? with
        | some (.lst _) => some (.t (.lst ts), S1.set (i - P.length) .dead)
        | _ => none
      | none => none
    | some (.dic l) => match frzK z P l S with
      | some (ts, S1) => match S1[i - P.length]? with
        | some (.dic _) => some (.t (.dic ts), S1.set (i - P.length) .dead)
        | _ => none
      | none => none
    | _ => none else none
section
variable {K : PySem.W.Frag} {z : FZ}
theorem frzL_ok (hz : FzOk K z) {P : List O} : ∀ {l : List D} {S S' : List O} {c : Cf} {H : Hp} {vs : List V} {ts : List T}, Sim K P S c H → RDs K c H l vs → frzL z P l S = some (ts, S') → ∃ c', Ev P c H c' H ∧ Sim K P S' c' H ∧ RVs K c'.Z H ts vs
  | [], S, S', c, H, _, ts, h, .nil, e => by cases e; exact ⟨c, Ev.refl h, h, .nil⟩
  | d :: r, S, S', c, H, v :: vs, ts, h, .cons r1 r2, e => by
    unfold frzL at e
    cases q : z P d S with
    | none => rw [q] at e; cases e
    | some p =>
      obtain ⟨d', S1⟩ := p
      rw [q] at e
      cases d' with
      | ref i => cases e
      | t x =>
        simp only at e
        obtain ⟨c1, e1, s1, q1⟩ := hz P S S1 c H d _ v h r1 q
        cases q2 : frzL z P r S1 with
        | none => rw [q2] at e; cases e
        | some p2 =>
          obtain ⟨ts2, S2⟩ := p2
          rw [q2] at e
          cases e
          obtain ⟨c2, e2, s2, q3⟩ := frzL_ok hz s1 (RDs.mono e1 r2) q2
          exact ⟨c2, e1.trans h.pl e2, s2, .cons _ _ _ _ (RV.mono' e2 q1) q3⟩
theorem frzK_ok (hz : FzOk K z) {P : List O} : ∀ {l : List (At × D)} {S S' : List O} {c : Cf} {H : Hp} {vs : List (Key × V)} {ts : List (At × T)}, Sim K P S c H → KR K c H l vs → frzK z P l S = some (ts, S') → ∃ c', Ev P c H c' H ∧ Sim K P S' c' H ∧ RKs K c'.Z H ts vs
  | [], S, S', c, H, _, ts, h, .nil, e => by cases e; exact ⟨c, Ev.refl h, h, .nil⟩
  | (k, d) :: r, S, S', c, H, (k', v) :: vs, ts, h, .cons r1 r2, e => by
    unfold frzK at e
    cases q : z P d S with
    | none => rw [q] at e; cases e
    | some p =>
      obtain ⟨d', S1⟩ := p
      rw [q] at e
      cases d' with
      | ref i => cases e
      | t x =>
        simp only at e
        obtain ⟨c1, e1, s1, q1⟩ := hz P S S1 c H d _ v h r1.2 q
        cases q2 : frzK z P r S1 with
        | none => rw [q2] at e; cases e
        | some p2 =>
          obtain ⟨ts2, S2⟩ := p2
          rw [q2] at e
          cases e
          obtain ⟨c2, e2, s2, q3⟩ := frzK_ok hz s1 (KR.mono e1 r2) q2
          have ek : k' = k.key := r1.1.2
          subst ek
          exact ⟨c2, e1.trans h.pl e2, s2, .cons _ _ _ _ _ r1.1.1 (RV.mono' e2 q1) q3⟩
theorem fz_W (hz : FzOk K z) : FzOk K (frzW z) := by
  intro P S S' c H d d' v h r e
  cases d with
  | t x => cases e; exact ⟨c, Ev.refl h, h, r⟩
  | ref i =>
    have hin := r.1
    obtain ⟨_, rfl⟩ := r
    unfold frzW at e
    dsimp only at e
    by_cases hi : P.length ≤ i
    · rw [if_pos hi] at e
      have hii : P.length + (i - P.length) = i := by omega
      split at e
      · rename_i l hj
        have hat : (P ++ S)[i]? = some (.lst l) := by rw [List.getElem?_append_right hi]; exact hj
        obtain ⟨vs, hH, hl, rr⟩ := h.ro _ _ hat
        split at e
        · rename_i ts S1 eq
          obtain ⟨c1, e1, s1, q1⟩ := frzL_ok hz h rr eq
          split at e
          · rename_i l2 hj2
            cases e
            obtain ⟨e2, s2⟩ := freeze s1 hj2 rfl
            rw [hii, e1.m i hin] at e2 s2
            exact ⟨_, e1.trans h.pl e2, s2, RV.lst ts _ vs (.inr rfl) hH hl (RVs.mono' e2 q1)⟩
          · cases e
        · cases e
      · rename_i l hj
        have hat : (P ++ S)[i]? = some (.dic l) := by rw [List.getElem?_append_right hi]; exact hj
        obtain ⟨kvs, hH, rr⟩ := h.ro _ _ hat
        split at e
        · rename_i ts S1 eq
          obtain ⟨c1, e1, s1, q1⟩ := frzK_ok hz h rr eq
          split at e
          · rename_i l2 hj2
            cases e
            obtain ⟨e2, s2⟩ := freeze s1 hj2 rfl
            rw [hii, e1.m i hin] at e2 s2
            exact ⟨_, e1.trans h.pl e2, s2, RV.dic ts _ kvs (.inr rfl) (.inl hH) (RKs.mono e2.z e2.rd e2.rdD q1)⟩
          · cases e
        · cases e
      · cases e
    · rw [if_neg hi] at e; cases e
variable {X : Cx} {W : WX} {e : Expr} {f : ME} {sts : List Stmt} {g : MS}
def sFrzZ (z : FZ) (i : Nat) : MS := fun P ρ S => match ρ[i]? with
  | some (some d) => match z P d S with
    | some (d', S') => .nx (ρ.set i (some d')) S'
    | none => .no
  | _ => .no
theorem pmb_frzZ {z : FZ} (hz : FzOk X.K z) (i : Nat) (h : PMB X W sts g) : PMB X W sts (sSeq (sFrzZ z i) g) := by
  refine ⟨pss_weak h.run fun D' σ H q => ?_⟩
  obtain ⟨c, P, ρ, S, hE, hS, q⟩ := q
  unfold sSeq sFrzZ at q
  cases e : ρ[i]? with
  | none => rw [e] at q; exact q.elim
  | some o =>
    cases o with
    | none => rw [e] at q; exact q.elim
    | some d =>
      rw [e] at q
      simp only at q
      obtain ⟨v, hv, r⟩ := hE.get i d e
      cases ef : z P d S with
      | none => rw [ef] at q; exact q.elim
      | some p =>
        obtain ⟨d', S'⟩ := p
        rw [ef] at q
        obtain ⟨c2, e2, s2, r2⟩ := hz _ _ _ _ _ _ _ _ hS r ef
        refine ⟨c2, P, _, S', ?_, s2, PostS.ev hS.pl e2 q⟩
        have := (hE.mono e2).set i r2
        have es : σ.set i (some v) = σ := by
          obtain ⟨hl, hg⟩ := List.getElem?_eq_some_iff.mp hv
          rw [← hg, List.set_getElem_self]
        rw [es] at this
        exact this
end
end Fm

/-! FmG: lists of cells added, extended, compared; x += e. -/
namespace Fm
open PySem PySem.Spec PyProof.Rows L2
section
variable {K : PySem.W.Frag} {P S : List O} {c : Cf} {H : Hp} {d : D} {v : V}
end
section
variable {X : Cx} {W : WX}
/-! lists compared, cells or not -/
def viewT (P S : List O) : D → Option T
  | .t x => some x
  | .ref i => match (P ++ S)[i]? with
    | some (.lst l) => (trees l).map .lst
    | _ => none
theorem viewT_dp {K : PySem.W.Frag} {P S : List O} {c : Cf} {H : Hp} {d : D} {v : V} {t : T} (hS : Sim K P S c H) (r : RD K c H d v) (h : viewT P S d = some t) (p : t.plain = true) : Dp K H v t.pd := by
  cases d with
  | t x => cases h; exact RV.dp r p
  | ref i =>
    obtain ⟨_, rfl⟩ := r
    unfold viewT at h
    simp only at h
    cases z : (P ++ S)[i]? with
    | none => rw [z] at h; cases h
    | some o =>
      rw [z] at h
      cases o <;> first | exact nomatch (show (none : Option T) = some t from h) | skip
      rename_i l
      simp only at h
      cases e : trees l with
      | none => rw [e] at h; cases h
      | some ts =>
        rw [e] at h
        cases h
        obtain ⟨vs, hH, hl, rs⟩ := hS.ro i _ z
        have : RV K (fun a => c.Z a ∨ a = c.m i) H (.lst ts) (.ref (c.m i)) := RV.lst ts _ vs (.inr rfl) hH hl (RVs.mono (fun _ z => .inl z) (fun _ _ _ z _ => z) (fun _ _ _ _ _ z => z) (rs.trees e))
        exact RV.dp this p
def eqVG (neg : Bool) : F2 := fun a b P S => match viewT P S a, viewT P S b with
  | some x, some y => if x.plain && y.plain && x.low then some (.t (.bl (neg ^^ T.eqv x y)), S) else none
  | _, _ => none
theorem op_eqV (neg : Bool) (hu : X.A.units + 64 < cLine) : OpM X (compareOp (if neg then .NotEq else .Eq)) (eqVG neg) := by
  refine ⟨fun pins s σ H x y v u Q I rx ry hh => ?_⟩
  obtain ⟨c, P, S, a, b, hS, ra, rb, q⟩ := hh
  unfold eqVG at q
  cases ea : viewT P S a with
  | none => rw [ea] at q; exact q.elim
  | some t =>
    cases eb : viewT P S b with
    | none => rw [ea, eb] at q; exact q.elim
    | some m =>
      rw [ea, eb] at q
      simp only at q
      by_cases hp : (t.plain && m.plain && t.low) = true
      · rw [if_pos hp] at q
        rw [Bool.and_eq_true, Bool.and_eq_true] at hp
        have d1 := viewT_dp hS ra ea hp.1.1
        have d2 := viewT_dp hS rb eb hp.1.2
        have fin := q c _ H (Ev.refl hS) hS (RV.bl _)
        have hd : t.pd.depth ≤ 40 := of_decide_eq_true hp.2
        have h3 : X.A.units + min t.pd.depth m.pd.depth < cLine := by omega
        obtain ⟨as, r1⟩ := Dp.reads I _ _ _ d1 rx
        obtain ⟨bs, r2⟩ := Dp.reads I _ _ _ d2 ry
        cases neg with
        | false => exact PySem.SeqAt.eq_plain r1 r2 (T.pd_plain _ hp.1.1) (T.pd_plain _ hp.1.2) h3 ⟨.bl _, H, I, rfl, by rw [Bool.false_xor] at fin; exact fin⟩
        | true => exact PySem.SeqAt.ne_plain r1 r2 (T.pd_plain _ hp.1.1) (T.pd_plain _ hp.1.2) h3 ⟨.bl _, H, I, rfl, by rw [Bool.true_xor] at fin; exact fin⟩
      · rw [if_neg hp] at q
        exact q.elim
/-! x += e, ints -/
def sAugI (i : Nat) (f : Int → Int → Int) (fe : ME) : MS := fun P ρ S => match ρ[i]? with
  | some (some (.t (.int x))) => (fe P ρ S).oc ρ fun y S1 => match y with
    | .t (.int y) => .nx (ρ.set i (some (.t (.int (f x y))))) S1
    | _ => .no
  | _ => .no
/-! a, b = e, f with names of any kind -/
theorem pms_tup2 {a b : Expr} {fs : MA} {px py pt pt2 pos : Pos} {x y : Str} {kt k2 : Nat} (i j : Nat) (hc : X.calm = true) (hN : X.N.Nodup) (ha : PMA X W [a, b] fs) (hi : X.N[i]? = some x := by rfl) (hj : X.N[j]? = some y := by rfl)
    (hx : Loc X.env.scope x := by first | exact .inl rfl | exact .inr rfl) (hfx : X.fn x = true ∨ X.env.scope.names.lookup x = some .local := by first | exact .inl rfl | exact .inr rfl)
    (hy : Loc X.env.scope y := by first | exact .inl rfl | exact .inr rfl) (hfy : X.fn y = true ∨ X.env.scope.names.lookup y = some .local := by first | exact .inl rfl | exact .inr rfl)
    (hs : swapsWithSole [.Tuple [.Name x px, .Name y py] kt pt] (.Tuple [a, b] k2 pt2) pos.line X.env = pure false := by rfl) (hw : swappedStores [.Tuple [.Name x px, .Name y py] kt pt] (.Tuple [a, b] k2 pt2) X.env = pure none := by rfl) :
    PMS X W (.Assign [.Tuple [.Name x px, .Name y py] kt pt] (.Tuple [a, b] k2 pt2) pos) (sPar2 i j fs) := by
  refine ⟨ps_weak (ps_asg (pe_tup ha.run) (pg_tup (n := 2) hc (pgs_cons (pg_name hN hi hx hfx) (pgs_cons (pg_name hN hj hy hfy) pgs_nil))) hs hw (h1 := rfl)) fun D σ H h => ?_⟩
  obtain ⟨c, P, ρ, S, hE, hS, h⟩ := h
  refine tMA_oc hE hS h fun ds vs S1 c1 H1 e1 E1 s1 r1 h1 => ?_
  match ds, vs, r1 with
  | [u, v], [u', v'], .cons q1 (.cons q2 .nil) =>
    refine ⟨by simp [sizeLine_eq], fun p hp => ⟨p, [u', v'], rfl, SqT.of upd_same, rfl, u', [v'], rfl, v', [], rfl, rfl, ?_⟩⟩
    have e2 := Ev.new (o := .tup [u', v']) s1 hp
    exact h1 c1 _ _ e2 (Sim.new s1 hp) (((E1.mono e2).set i (q1.mono e2)).set j (q2.mono e2))
  | [], _, _ => exact h1.elim
  | [_], _, _ => exact h1.elim
  | _ :: _ :: _ :: _, _, _ => exact h1.elim
end
end Fm

/-! FmH: min of a list of pairs (whole number, text). -/
namespace Fm
open PySem PySem.Spec PyProof.Rows L2
def pairT (p : Int × Tx) : T := .tup [.int p.1, .str p.2]
def pairsOf : List T → Option (List (Int × Tx))
  | [] => some []
  | .tup [.int i, .str s] :: r => (pairsOf r).map ((i, s) :: ·)
  | _ => none
@[simp] theorem pairsOf_map (ps : List (Int × Tx)) : pairsOf (ps.map pairT) = some ps := by
  induction ps with
  | nil => rfl
  | cons p ps ih => rw [List.map_cons]; show (pairsOf (ps.map pairT)).map _ = _; rw [ih]; rfl
end Fm

/-! FmI: a, b = [e, f]. -/
namespace Fm
open PySem PySem.Spec PyProof.Rows L2
end Fm

/-! FmJ: range(i, j, -1). -/
namespace Fm
open PySem PySem.Spec PyProof.Rows L2
section
variable {X : Cx} {W : WX} {tg a b d : Expr} {f : MA} {p pos : Pos} {it : Expr}
end
end Fm

/-! FmL: dicts that are looked at (their keys, values) in comprehensions and loops. -/
namespace Fm
open PySem PySem.Spec PyProof.Rows L2
def R.noex {α : Type} : R α → R α
  | .ex _ _ => .no
  | r => r
@[simp] theorem R.noex_ok {α : Type} (a : α) (S : List O) : (R.ok a S).noex = .ok a S := rfl
section
variable {K : PySem.W.Frag} {P S : List O} {c c1 : Cf} {H H1 : Hp} {a : Addr} {od : Obj} {u : HO}
end
theorem RJs.len {K : PySem.W.Frag} {Z : Addr → Prop} {H : Hp} : ∀ {l : List (List At × T)} {kvs : List (List Key × V)}, RJs K Z H l kvs → l.length = kvs.length
  | _, _, .nil => rfl
  | _, _, .cons _ _ _ _ _ _ _ h => congrArg (· + 1) (RJs.len h)
theorem RJs.at {K : PySem.W.Frag} {H : Hp} : ∀ {l : List (List At × T)} {kvs : List (List Key × V)} {Z : Addr → Prop} {i : Nat} {p : List At × T}, RJs K Z H l kvs → l[i]? = some p → ∃ v, kvs[i]? = some (p.1.map At.key, v) ∧ ∀ x ∈ p.1, x.Fit
  | _, _, _, _, _, .nil, h => by simp at h
  | _, _, _, 0, _, .cons k t v ts vs h0 h1 _, h => by simp at h; subst h; exact ⟨v, rfl, h0⟩
  | _, _, _, i + 1, _, .cons k t v ts vs _ _ h2, h => by simpa using RJs.at (i := i) h2 (by simpa using h)
section
variable {K : PySem.W.Frag} {P S : List O} {c : Cf} {H : Hp} {a : Addr} {od : Obj}
end
def sForS (f : T → Option (List D)) (i : Nat) (g : MG) (fb : MS) : MS := fun P ρ S => match ρ[i]? with
  | some (some (.t x)) => match f x with
    | some l => (forGo g fb P l ρ S).noex
    | none => .no
  | _ => .no
section
variable {X : Cx} {W : WX} {f : T → Option (List D)} {wi : TE → TI}
end
/-! freezing a dict with tuples as keys -/
/-! is, is not of bools -/
end Fm

/-! FmN: defs that are called where no text of a list is under way (so repr of lists may be asked). -/
namespace Fm
open PySem PySem.Spec PyProof.Rows L2
/-- a def keeps a promise wherever nothing is being shown -/
structure FnG (Pg : Program) (wd : World) (Kf : PySem.W.Frag) (mods : Str → Option Value) (bs : Heap) (Ct : CXT) (lev : Nat) (fa : Addr) (fdt : FuncData) (prs : List Str) (pr : Sp) : Prop where
  cnt : ∀ vs H Q E, pr vs H Q E → vs.length = prs.length
  go : ∀ (Ar : Around) (outs : List Env) (sh : Shared) (H : Hp) (ags : Args) (ws : List Value) (vs : List V) (Q : VK) (E : XK), Ar.guards = some [] → Room lev Ar → Env0 Pg wd Kf mods bs Ar outs sh H →
    BindsTo sh fdt ags (prs.zip ws) → Vals vs ws → pr vs H Q E → codeAny (model Pg wd) Ar (.call (.ref fa) ags) (CR Ct outs Pg wd H sh Q E) sh
section
variable {Pg : Program} {wd : World} {Kf : PySem.W.Frag} {mods : Str → Option Value} {bs : Heap} {Ct : CXT} {lev : Nat} {fa : Addr} {fdt : FuncData} {prs : List Str} {pr pr' : Sp}
theorem FnG.lift {l2 : Nat} (F : FnG Pg wd Kf mods bs Ct lev fa fdt prs pr) (h : lev ≤ l2) : FnG Pg wd Kf mods bs Ct l2 fa fdt prs pr :=
  ⟨F.cnt, fun Ar outs sh H ags ws vs Q E g r => F.go Ar outs sh H ags ws vs Q E g (r.mono h)⟩
theorem FnG.less (F : FnG Pg wd Kf mods bs Ct lev fa fdt prs pr) (h : ∀ vs H Q E, pr' vs H Q E → pr vs H Q E) : FnG Pg wd Kf mods bs Ct lev fa fdt prs pr' :=
  ⟨fun vs H Q E q => F.cnt vs H Q E (h _ _ _ _ q), fun Ar outs sh H ags ws vs Q E g r e b v q => F.go Ar outs sh H ags ws vs Q E g r e b v (h _ _ _ _ q)⟩
theorem FnG.no {n : Nat} : FnG Pg wd Kf mods bs Ct lev fa fdt prs (spM Kf n fun _ _ _ => .no) :=
  ⟨fun vs H Q E h => (by obtain ⟨_, _, _, _, _, _, _, h⟩ := h; exact h.elim), fun Ar outs sh H ags ws vs Q E _ _ _ _ _ h => (by obtain ⟨_, _, _, _, _, _, _, h⟩ := h; exact h.elim)⟩
end
section
variable {X : Cx} {Ct : CXT} {lev : Nat} {fa : Addr} {fdt : FuncData} {prs : List Str} {pr : Sp} {E : XK} {x : Str} {p pos : Pos} {e : Expr} {es : List Expr} {t : TA}
theorem FnG.inX (F : FnG X.prog X.w X.K X.mg X.base Ct lev fa fdt prs pr) (gd : X.A.guards = some []) (hr : Room lev X.A) (hx : Passes Ct X E) {pins : List (Addr × Obj)} {σ : L2.St} {H : Hp} {sh : Shared} {Q : VK} {us ws : List Value} {kw : List (Str × Value)} {vs : List V}
    (I : Inv X pins σ H sh) (b : BindsTo sh fdt ⟨us, kw⟩ (prs.zip ws)) (r : Vals vs ws) (h : pr vs H Q E) : wpAny (model X.prog X.w) X.A (call (.ref fa) us kw) (EP X pins σ Q) X.xe sh := by
  refine wpAny_call (codeAny_mono (F.go X.A X.stack sh H ⟨us, kw⟩ ws vs Q E gd hr I.env0 b r h) fun rs sh' hq => ?_)
  match rs, hq with
  | .error er, hq => exact hx pins σ H sh er sh' I hq
  | .ok (.ret u), hq => exact I.after hq
  | .ok .next, hq => exact False.elim hq
  | .ok .brk, hq => exact False.elim hq
  | .ok .cont, hq => exact False.elim hq
theorem FnG.args (F : FnG X.prog X.w X.K X.mg X.base Ct lev fa fdt prs pr) (gd : X.A.guards = some []) (hr : Room lev X.A) (hx : Passes Ct X E) (bd : Binds X.K fdt prs []) {pins : List (Addr × Obj)} {σ : L2.St} {H : Hp} {sh : Shared} {Q : VK} {us : List Value} {vs : List V}
    (I : Inv X pins σ H sh) (r : Vals vs us) (h : pr vs H Q E) : wpAny (model X.prog X.w) X.A (call (.ref fa) us) (EP X pins σ Q) X.xe sh := by
  have hl : (us ++ []).length = prs.length := by rw [List.append_nil, ← r.length]; exact F.cnt _ _ _ _ h
  have b := bd sh us I.kIn hl
  rw [List.append_nil] at b
  exact F.inX gd hr hx I b r h
def tCallG (pr : Sp) (E : XK) (t : TA) : TE := fun σ H Q => t σ H fun vs H1 => pr vs H1 Q E
theorem pe_callG (F : FnG X.prog X.w X.K X.mg X.base Ct lev fa fdt prs pr) (gd : X.A.guards = some []) (hr : Room lev X.A) (gl : Gl X x) (mm : X.mg x = some (.ref fa)) (kp : PySem.W.keepIn X.K (.ref fa) = true) (bd : Binds X.K fdt prs []) (hx : Passes Ct X E)
    (ha : PA X (e :: es) t) (nd : (x == ("__debug__" : Str)) = false) (se : starEach (e :: es) X.env = (false, eval e X.env) :: starEach es X.env) (sp : (backTo pos (starEach es X.env)).any (·.1) = false) : PE X (.Call (.Name x p) (e :: es) [] pos) (tCallG pr E t) :=
  ⟨fun pins sh σ H Q I h => wpAny_Call_Name_kw (ld_glob I gl mm (PySem.W.callWith_K (h₀ := X.base) I.ok.mod.kin kp (thn (ha.run pos pins sh σ H _ I h) fun us s2 ⟨vs, H2, I2, r2, q2⟩ => ⟨I2.kIn, F.args gd hr hx bd I2 r2 q2⟩) se sp) nd)⟩
end
section
variable {X : Cx} {W : WX} {k n : Nat} {f : Addr} {fd : FuncData} {ps ks : List Str} {g : MF} {x : Str} {p pos kpos : Pos} {e : Expr} {es : List Expr} {fs fk : MA} {kws : List Keyword}
theorem fng_tree {P : Program} {w : World} {K : PySem.W.Frag} {mg : Str → Option Value} {base : Heap} (F : FnG P w K mg base CX0 k f fd ps (spM K n g)) : FnG P w K mg base CX0 k f fd ps (spM K n (pureZ g)) := F.less sp_pureZ
theorem fng_new {P : Program} {w : World} {K : PySem.W.Frag} {mg : Str → Option Value} {base : Heap} (F : FnG P w K mg base CX0 k f fd ps (spM K n g)) : FnG P w K mg base CX0 k f fd ps (spM K n (newF g)) := F.less sp_new
theorem fng_last {P : Program} {w : World} {K : PySem.W.Frag} {mg : Str → Option Value} {base : Heap} (F : FnG P w K mg base CX0 k f fd ps (spM K n g)) : FnG P w K mg base CX0 k f fd ps (spM K n (lastF g)) := F.less sp_last
theorem pmG_call (F : FnG X.prog X.w X.K X.mg X.base CX0 k f fd ps (spM X.K n g)) (gd : X.A.guards = some []) (hr : Room k X.A) (hg : Gl X x) (hm : X.mg x = some (.ref f)) (hk : PySem.W.keepIn X.K (.ref f) = true) (hb : Binds X.K fd ps [])
    (ha : PMA X W (e :: es) fs) (hc : Cnt n fs) (hdb : (x == ("__debug__" : Str)) = false := by decide) (he : starEach (e :: es) X.env = (false, eval e X.env) :: starEach es X.env := by rfl) (hpl : (backTo pos (starEach es X.env)).any (·.1) = false := by rfl) :
    PM X W (.Call (.Name x p) (e :: es) [] pos) (mCall g fs) :=
  ⟨pe_weak (pe_callG F gd hr hg hm hk hb pass0 ha.run hdb he hpl) fun σ H Q h => by
    have := tCall_of (E := E0) h fun _ _ _ _ _ _ _ q => hc _ _ _ _ _ q
    unfold tCall at this
    unfold tCallG
    simpa using this⟩
theorem FnG.named {gi : List Value → List Value → List Value} {gv : List V → List V → List V} {pr : Sp} {E : XK} {Ct : CXT} (F : FnG X.prog X.w X.K X.mg X.base Ct k f fd ps pr) (gd : X.A.guards = some []) (hr : Room k X.A) (hx : Passes Ct X E) (kb : KBinds X.K fd ps ks gi gv)
    {pins : List (Addr × Obj)} {σ : L2.St} {H : Hp} {sh : Shared} {Q : VK} {us ws : List Value} {vs zs : List V} (I : Inv X pins σ H sh) (r : Vals vs us) (rz : Vals zs ws) (h : pr (gv vs zs) H Q E) : wpAny (model X.prog X.w) X.A (call (.ref f) us (ks.zip ws)) (EP X pins σ Q) X.xe sh := by
  have rr := kb.rel r rz
  exact F.inX gd hr hx I (kb.to sh us ws I.kIn (by rw [← rr.length]; exact F.cnt _ _ _ _ h)) rr h
theorem pmG_callK0 {m1 : Nat} {ix : List Nat} (F : FnG X.prog X.w X.K X.mg X.base CX0 k f fd ps (spM X.K n g)) (gd : X.A.guards = some []) (hr : Room k X.A) (hg : Gl X x) (hm : X.mg x = some (.ref f)) (hk : PySem.W.keepIn X.K (.ref f) = true) (hb : KBinds X.K fd ps ks (gI 0 m1 ix) (gI 0 m1 ix))
    (hkw : PMK X W kws fk) (hix : ∀ l : List D, l.length = 0 + m1 → (pickI ix l).length = n) (hall : (backToKw pos (keywordEach kws X.env)).all (·.1.isSome) = true := by rfl) (hks : (backToKw pos (keywordEach kws X.env)).filterMap (·.1) = ks := by rfl)
    (hdb : (x == ("__debug__" : Str)) = false := by decide) (hpl : ((backTo pos (starEach [] X.env)).any (·.1) || (backToKw pos (keywordEach kws X.env)).any (·.1.isNone)) = false := by rfl) :
    PM X W (.Call (.Name x p) [] kws pos) (mCallK g 0 m1 ix mNil fk) := by
  refine ⟨⟨fun pins sh σ H Q I h => ?_⟩⟩
  have q0 := tCallK_of (E := E0) hix h
  obtain ⟨c, P, ρ, S, hE, hS, q0⟩ := q0
  have q1 := q0 c [] H (Ev.refl hS) hS .nil
  refine wpAny_Call_Name_kw (ld_glob I hg hm (PySem.W.callWith_KW0 (h₀ := X.base) I.ok.mod.kin hk hall (thn (hkw.run.run pos pins sh σ H _ I q1) fun ws s2 ⟨zs, H2, I2, r2, q2⟩ => ⟨I2.kIn, ?_⟩) hpl) hdb)
  rw [hks]
  exact F.named gd hr pass0 hb I2 .nil r2 q2
end
/-! a def by its body -/
section
variable {Pg : Program} {wd : World} {Kf : PySem.W.Frag} {mods : Str → Option Value} {bs : Heap}
theorem fng_of {Ct : CXT} {lev : Nat} {x qual : Str} {st : Stmt} {fa : Addr} {fdt : FuncData} {Nm prs : List Str} {pr : Sp} (F : L2.Fun Kf x qual st fa fdt) (Sc : FnScope Nm prs (defScope st)) (cnt : ∀ vs H Q E, pr vs H Q E → vs.length = prs.length)
    (body : ∀ (cdv : Value) (Ar : Around) (outs : List Env) (sh : Shared) (H : Hp) (vs : List V) (Q : VK) (E : XK), Ar.guards = some [] → Room lev (Ar.deeper (envOfC qual (defScope st) sh.heap.objs.size fa cdv)) → pr vs H Q E →
      ∃ t, PSs (cxOf Ct Pg wd Kf mods bs Nm qual (defScope st) fa cdv Ar outs sh H E) (defBody st) t ∧ t { nx := fun _ H' => Q .non H', rt := Q } (start Nm vs) H) : FnG Pg wd Kf mods bs Ct (lev + 1) fa fdt prs pr := by
  obtain ⟨oc, od, kV, doc, pm, an, cdv, ct, osl, rfl, look, codeK⟩ := F.ex
  refine ⟨cnt, fun Ar outs sh H ags ws vs Q E gd room env bound vals want => ?_⟩
  have old : ∀ b o, bs.get? b = some o → sh.heap.get? b = some o := fun b o e => (env.bs b o e).1
  have inK : Kf.In sh.heap := env.mod.kin.keeps old
  have kinds : ∀ y ∈ prs.zip ws, (defScope st).names.lookup y.1 = some .local ∨ ((defScope st).names.lookup y.1 = some .cell ∧ ((cellsFrom (sh.heap.objs.size + 1) (defScope st).names []).lookup y.1).isSome = true) := by
    rintro ⟨nm, v⟩ hy
    rcases Sc.par nm (List.of_mem_zip hy).1 with q | q
    · exact Or.inl q
    · exact Or.inr ⟨q, PySem.W.cellsFrom_some _ _ _ (Or.inl q)⟩
  refine codeAny_call_function room.depth (inK _ _ look) rfl Sc.co Sc.gen rfl (PySem.W.codeRec_of inK codeK) (bound _ _ _ _ (wpAny_newFunctionEnv_cells Sc.kind kinds fun env1 he s1 made => ?_))
  subst he
  refine ⟨(env.mod.nolimit.keeps old).keeps made.toInCall.keep, codeAny_func ?_⟩
  obtain ⟨t, runs, got⟩ := body cdv Ar outs sh H vs Q E gd (room.deeper _) want
  have I : Inv (cxOf Ct Pg wd Kf mods bs Nm qual (defScope st) fa cdv Ar outs sh H E) [] (start Nm vs) H s1 := inv_start Sc room.hd env (cnt _ _ _ _ want) vals made
  have done : ∀ {s' : Shared} {σ' : L2.St} {H' : Hp} {v : V} {u : Value}, Inv (cxOf Ct Pg wd Kf mods bs Nm qual (defScope st) fa cdv Ar outs sh H E) [] σ' H' s' → RelV v u → Q v H' → CE outs Pg wd H sh Q u s' :=
    fun J rv q => ⟨_, _, J.os, J.bare, J.base, J.hok, rv, q⟩
  refine wpAny_mono (runs.run [] s1 _ H _ I got) (fun fl s' hs => ?_) fun er s' hs => hs
  match fl, hs with
  | .ret u, hs => obtain ⟨v, σ', H', J, rv, q⟩ := hs; exact done J rv q
  | .next, hs => obtain ⟨σ', H', J, q⟩ := hs; exact done (v := V.non) (u := Value.none) J rfl q
  | .brk, hs => obtain ⟨_, _, _, q⟩ := hs; exact False.elim q
  | .cont, hs => obtain ⟨_, _, _, q⟩ := hs; exact False.elim q
theorem fng_ok {x qual : Str} {st : Stmt} {fa : Addr} {fdt : FuncData} {N ps : List Str} {k : Nat} {fb : MS} (F : L2.Fun Kf x qual st fa fdt) (Sc : FnScope N ps (defScope st))
    (hb : ∀ (cdv : Value) (A : Around) (outer : List Env) (s : Shared) (H : Hp) (E : XK), A.guards = some [] → Room k (A.deeper (envOfC qual (defScope st) s.heap.objs.size fa cdv)) → PMB (cxOf CX0 Pg wd Kf mods bs N qual (defScope st) fa cdv A outer s H E).nox W0 (defBody st) fb) :
    FnG Pg wd Kf mods bs CX0 (k + 1) fa fdt ps (spM Kf ps.length (mDef N.length fb)) := by
  refine fng_of F Sc (fun vs H Q E h => h.1) fun cdv A outer s H vs Q E gd hr h => ?_
  obtain ⟨hn, c, P', S, ds, hS, r, h⟩ := h
  refine ⟨_, (hb cdv A outer s H E gd hr).run.nox, c, P', _, S, simE_start r N, hS, ?_⟩
  unfold mDef at h
  generalize fb P' (ds.map some ++ List.replicate (N.length - ds.length) none) S = o at h
  match o, h with
  | .nx ρ S', h => exact fun c' σ' H' e s E' => h c' .non H' e s RV.non
  | .rt d S', h => exact h
  | .bk ρ S', h => exact h.elim
  | .ct ρ S', h => exact h.elim
  | .ex x ρ S', h => exact h
  | .no, h => exact h
end
end Fm
namespace Fm
open PySem PySem.Spec PyProof.Rows L2
/-! the head -/
section
variable {Pg : Program} {wd : World} {Kf : PySem.W.Frag} {mods mbt : Str → Option Value} {lev n : Nat} {fa a : Addr} {fdt : FuncData} {x : Str} {g : MF} {s1 : Shared} {vs : List Value} {ns : List Int}
/-- the law's def, called with the script, where H is what is tracked: the script alone, or nothing (it is the module's own) -/
theorem head_run (inK : Kf.In s1.heap) (hm : s1.heap.Ns mainGlobals mods) (hb : s1.heap.Ns builtinsNs mbt) (bt : ∀ x : Str, x ≠ "__name__" → mbt x = bootBuiltins x) (nl : s1.heap.NoLimit) (gn : s1.gens = #[])
    (at_a : s1.heap.get? a = some { cls := .type "list", data := .seq vs.toArray }) (room : Room lev callerA) (F : ∀ bs : Heap, Kf.In bs → bs.Ns mainGlobals mods → FnG Pg wd Kf mods bs CX0 lev fa fdt [x] (spM Kf 1 g))
    (bd : ∀ (s : Shared) (u : Value), BindsTo s fdt ⟨[u], []⟩ [(x, u)]) (H : Hp) (only : L2.Only H) (good : spM Kf 1 g [.ref a] H (fun v _ => v = .bl true) E0) (hok : HOk Pg wd H s1.heap) (just : ∀ b, H b ≠ none → b = a) (mine : H a ≠ none → Kf.lookup a = none) :
    codeAny (model Pg wd) callerA (.call (.ref fa) ⟨[.ref a], []⟩) (fun r s' => r = .ok (.ret (.bool true)) ∧ OldK s1.heap s'.heap ∧ s'.os = s1.os ∧ AllBare s'.gens) s1 := by
  have none_of : ∀ {b : Addr}, b ≠ a → H b = none := fun {b} ne => Classical.byContradiction fun c => ne (just b c)
  have dictNo : ∀ {b : Addr} {m : Str → Option Value}, s1.heap.Ns b m → (hidT s1.heap H).Ns b m := by
    rintro b m ⟨o, es, ep, e, d, r⟩
    refine ⟨o, es, ep, hidT_get e (none_of ?_), d, r⟩
    rintro rfl
    rw [at_a] at e
    cases e
    cases d
  have inB : Kf.In (hidT s1.heap H) := fun b o e => hidT_get (inK b o e) (by
    by_cases c : b = a
    · subst c
      exact Classical.byContradiction fun q => by rw [mine q] at e; cases e
    · exact none_of c)
  have md : Mod Kf mods (hidT s1.heap H) := ⟨inB, dictNo hm, ⟨mbt, dictNo hb, bt⟩, (by obtain ⟨mc, h1, h2⟩ := nl; exact ⟨mc, dictNo h1, h2⟩)⟩
  have env : Env0 Pg wd Kf mods (hidT s1.heap H) callerA [] s1 H :=
    ⟨rfl, md, fun b o e => of_hidT e, Nat.le_of_eq (hidT_size _ _), trivial, fun b hb => absurd (show b ∈ ([] : List Addr) from hb) List.not_mem_nil, hok, .of_eq gn⟩
  refine codeAny_mono ((F _ inB (dictNo hm)).go callerA [] s1 H ⟨[.ref a], []⟩ [.ref a] [.ref a] _ E0 rfl room env (bd s1 (.ref a)) (.cons rfl .nil) good) fun r s' h => ?_
  match r, h with
  | .error er, h => exact h.elim
  | .ok .next, h => exact False.elim h
  | .ok .brk, h => exact False.elim h
  | .ok .cont, h => exact False.elim h
  | .ok (.ret u), h =>
    obtain ⟨v, H', os, bare, un, ok', rv, rfl⟩ := h
    obtain rfl : u = Value.bool true := rv
    refine ⟨rfl, OldK.of_keep fun b o e => ?_, os, bare⟩
    by_cases c : H b = none
    · exact un.keep b o e c (fun z => absurd (show b ∈ ([] : List Addr) from z) List.not_mem_nil) List.not_mem_nil
    · rcases only b with z | ⟨ob, xs, z⟩
      · exact absurd z c
      · obtain ⟨h1, _⟩ := hok b _ z
        obtain ⟨h2, _⟩ := ok' b _ (un.frzs b ob _ z)
        rw [e] at h1
        cases h1
        exact h2
theorem head_call (inK : Kf.In s1.heap) (hm : s1.heap.Ns mainGlobals mods) (hb : s1.heap.Ns builtinsNs mbt) (bt : ∀ x : Str, x ≠ "__name__" → mbt x = bootBuiltins x) (nl : s1.heap.NoLimit) (gn : s1.gens = #[])
    (at_a : s1.heap.get? a = some { cls := .type "list", data := .seq vs.toArray }) (itg : IntsAre vs ns) (hl : ns.length ≤ n) (n63 : n ≤ 63) (room : Room lev callerA)
    (F : ∀ bs : Heap, Kf.In bs → bs.Ns mainGlobals mods → FnG Pg wd Kf mods bs CX0 lev fa fdt [x] (spM Kf 1 g)) (bd : ∀ (s : Shared) (u : Value), BindsTo s fdt ⟨[u], []⟩ [(x, u)])
    (law : ∀ l : List Int, l.length ≤ n → ∃ S, g [.t (.scr l)] [] [] = .ok (.t (.bl true)) S) :
    codeAny (model Pg wd) callerA (.call (.ref fa) ⟨[.ref a], []⟩) (fun r s' => r = .ok (.ret (.bool true)) ∧ OldK s1.heap s'.heap ∧ s'.os = s1.os ∧ AllBare s'.gens) s1 := by
  have rv := vals_ints itg
  have lv := itg.length
  have small : ns.length ≤ sizeLine := Nat.le_trans (Nat.le_trans hl n63) (by decide)
  cases own : Kf.lookup a with
  | some o =>
    have e := inK a o own
    rw [at_a] at e
    cases e
    refine head_run inK hm hb bt nl gn at_a room F bd (fun _ => none) (fun _ => .inl rfl) (law_start law hl n63 (fun _ => .inl rfl) (.inr ⟨_, vs.toArray, _, own, rfl, rfl, rfl, by rw [List.size_toArray, lv]; exact small, by simpa using rv⟩)) ?_ (fun b z => absurd rfl z) (fun z => absurd rfl z)
    intro b u z
    cases (show (none : Option HO) = some u from z)
  | none =>
    have here : (fun b => if b = a then some (HO.frz { cls := .type "list", data := .seq vs.toArray } (.lst (ns.map V.int))) else none) a = some (HO.frz { cls := .type "list", data := .seq vs.toArray } (.lst (ns.map V.int))) := if_pos rfl
    have only : L2.Only (fun b => if b = a then some (HO.frz { cls := .type "list", data := .seq vs.toArray } (.lst (ns.map V.int))) else none) := fun b => by
      by_cases c : b = a
      · exact .inr ⟨_, _, if_pos c⟩
      · exact .inl (if_neg c)
    refine head_run inK hm hb bt nl gn at_a room F bd _ only (law_start law hl n63 only (.inl (.inr ⟨_, here⟩))) ?_ ?_ fun _ => own
    · intro b u z
      by_cases c : b = a
      · subst c
        cases here.symm.trans z
        exact ⟨at_a, by rw [List.length_map]; exact small, vs, _, rv, at_a⟩
      · cases (if_neg c).symm.trans z
    · intro b z
      by_cases c : b = a
      · exact c
      · exact absurd (if_neg c) z
end
theorem walkG {l : PySem.W.OpenLaw} {n k : Nat} {q : Program} {loose : List Str} {XP : (Str → Option Value) → Heap → Prop} {YP : World → Heap → Prop} {d : DefRec} {K : Params → PySem.W.Frag} {x : Str} {g : MF}
    (most : l.most = some n) (n63 : n ≤ 63) (nodef : d.params.defaults = []) (room : Room k callerA) (inY : ∀ (w : World) (h : Heap), YP w h → (K w.params).In h)
    (F : ∀ (w : World) (mg : Str → Option Value) (fa : Addr) (h : Heap), (K w.params).In h → h.Ns mainGlobals mg → mg d.name = some (.ref fa) →
      ∃ fd : FuncData, (∀ (s : Shared) (u : Value), BindsTo s fd ⟨[u], []⟩ [(x, u)]) ∧ ∀ bs : Heap, (K w.params).In bs → bs.Ns mainGlobals mg → FnG l.prog w (K w.params) mg bs CX0 k fa fd [x] (spM (K w.params) 1 g))
    (law : ∀ l : List Int, l.length ≤ n → ∃ S, g [.t (.scr l)] [] [] = .ok (.t (.bl true)) S) :
    PySem.W.WalkO q loose XP YP l.row.toRowW d [] (fun f vs => PySem.call f vs) := by
  refine Att.attach_call most nodef fun w s0 s1 mg mb fa o pm cd doc a vs ns G Y _ _ _ isf obj itg len gn => ?_
  obtain ⟨fd, bd, hF⟩ := F w mg fa _ (inY w _ Y) G.T.g isf
  exact head_call (inY w _ Y) G.T.g G.T.b G.T.builtins G.T.nolimit gn obj itg len n63 room hF bd law
end Fm

/-! FmO: repr of trees. -/
namespace Fm
open PySem PySem.Spec PyProof.Rows L2
mutual
theorem T.noDict : ∀ t : T, t.plain = true → t.pd.hasDict = false
  | .non, _ => by simp only [T.pd, PyData.hasDict]
  | .bl _, _ => by simp only [T.pd, PyData.hasDict]
  | .int _, _ => by simp only [T.pd, PyData.hasDict]
  | .str _, _ => by simp only [T.pd, PyData.hasDict]
  | .lst l, h => by simp only [T.pd, PyData.hasDict]; exact T.noDicts l (by simpa [T.plain] using h)
  | .tup l, h => by simp only [T.pd, PyData.hasDict]; exact T.noDicts l (by simpa [T.plain] using h)
  | .wtup l, h => by simp only [T.pd, PyData.hasDict]; exact T.noDicts l (by simpa [T.plain] using h)
  | .scr l, h => by
    clear h
    simp only [T.pd, PyData.hasDict]
    induction l with
    | nil => rfl
    | cons x l ih => simp only [List.map_cons, PyData.hasDictAll, PyData.hasDict, Bool.false_or]; exact ih
  | .dic _, h => by simp [T.plain] at h
  | .dit _, h => by simp [T.plain] at h
  | .ty _, h => by simp [T.plain] at h
theorem T.noDicts : ∀ l : List T, T.plains l = true → PyData.hasDictAll (T.pds l) = false
  | [], _ => by simp only [T.pds, PyData.hasDictAll]
  | x :: l, h => by
    rw [T.plains, Bool.and_eq_true] at h
    simp only [T.pds, PyData.hasDictAll, T.noDict x h.1, T.noDicts l h.2, Bool.or_self]
end
/-- the text of a tree -/
def rp (t : T) : Tx := t.pd.shown.cps.toList
theorem sv_rp (t : T) : sv (rp t) = t.pd.shown := sv_of _
theorem rp_len (t : T) : (rp t).length = t.pd.shown.length := by
  show t.pd.shown.cps.toList.length = t.pd.shown.cps.size
  rw [Array.length_toList]
/-- its text can be told -/
def T.tells (t : T) : Bool := t.plain && t.low && t.pd.showable && decide (t.pd.shown.length ≤ sizeLine)
def reprG : FL := fun ds P S => match ds with
  | [d] => match viewT P S d with
    | some t => if t.tells then some (.t (.str (rp t)), S) else none
    | none => none
  | _ => none
section
variable {X : Cx} {W : WX}
theorem call_reprM (gd : X.A.guards = some []) (hu : X.A.units + 65 < cLine) : CallM X (.builtin "repr") reprG := by
  refine ⟨fun pins s σ H xs us Q I rx hh => ?_⟩
  obtain ⟨c, P, S, ds, hS, ra, q⟩ := hh
  match ds, xs, ra with
  | [], _, _ => exact q.elim
  | _ :: _ :: _, _, _ => exact q.elim
  | [d], [v], .cons r .nil =>
    obtain ⟨u, rfl, ru⟩ := vals1 rx
    unfold reprG at q
    simp only at q
    cases ev : viewT P S d with
    | none => rw [ev] at q; exact q.elim
    | some t =>
      rw [ev] at q
      simp only at q
      by_cases ht : t.tells = true
      · rw [if_pos ht] at q
        have h1 : ((t.plain = true ∧ t.low = true) ∧ t.pd.showable = true) ∧ t.pd.shown.length ≤ sizeLine := by
          unfold T.tells at ht
          rw [Bool.and_eq_true, Bool.and_eq_true, Bool.and_eq_true, decide_eq_true_iff] at ht
          exact ht
        obtain ⟨⟨⟨pl, lo⟩, sh⟩, len⟩ := h1
        have dep : t.pd.depth ≤ 40 := of_decide_eq_true lo
        have dp := viewT_dp hS r ev pl
        have fin := q c (.str (sv (rp t))) H (Ev.refl hS) hS (RV.str (rp t) (by rw [rp_len]; exact len))
        rw [sv_rp] at fin
        obtain ⟨as, rd⟩ := Dp.reads I _ _ _ dp ru
        cases u with
        | ref a =>
          refine PySem.repr_of_reads' rd sh (PyData.noDict_hsm (T.noDict t pl)) gd (by omega) (fun _ _ e => e) (fun h' u tk hk => ?_) len
          exact ⟨.str t.pd.shown, H, I.kept hk, ⟨_, rfl⟩, fin⟩
        | none =>
          generalize t.pd = pd at *
          cases rd
          exact PySem.P.repr_of_none ⟨.str _, H, I.tok _, ⟨_, rfl⟩, by simpa only [PyData.shown] using fin⟩
        | bool b =>
          generalize t.pd = pd at *
          cases rd
          exact PySem.P.repr_of_bool ⟨.str _, H, I.tok _, ⟨_, rfl⟩, by simpa only [PyData.shown] using fin⟩
        | int i t' =>
          generalize t.pd = pd at *
          cases rd
          exact PySem.P.repr_of_int (by simpa [PyData.showable] using sh) ⟨.str _, H, I.tok _, ⟨_, rfl⟩, by simpa only [PyData.shown] using fin⟩
        | str x t' =>
          generalize t.pd = pd at *
          cases rd
          exact PySem.P.repr_of_str ⟨.str _, H, I.tok _, ⟨_, rfl⟩, by simpa only [PyData.shown] using fin⟩ (by simpa only [PyData.shown] using len)
        | _ =>
          generalize t.pd = pd at *
          cases rd
      · rw [if_neg ht] at q
        exact q.elim
end
/-! how long a text is at most -/
mutual
def T.okc : T → Bool
  | .int i => decide (i.natAbs < 10 ^ 500)
  | .str s => s.all fun c => decide (c < 16 ^ 8)
  | .lst l => T.okcs l
  | .tup l => T.okcs l
  | .wtup l => T.okcs l
  | .scr l => false
  | _ => true
def T.okcs : List T → Bool
  | [] => true
  | x :: l => x.okc && T.okcs l
end
mutual
def T.bk : T → Nat
  | .str s => s.length
  | .lst l => T.bks l
  | .tup l => T.bks l
  | .wtup l => T.bks l
  | _ => 0
def T.bks : List T → Nat
  | [] => 0
  | x :: l => x.bk + 1 + T.bks l
end
theorem log_500 {i : Int} (h : i.natAbs < 10 ^ 500) : i.natAbs.log2 < 1920 := by
  by_cases c : i.natAbs = 0
  · rw [c]; decide
  · rw [Nat.log2_lt c]
    refine Nat.lt_of_lt_of_le h ?_
    have e : (2 : Nat) ^ 1920 = (2 ^ 4) ^ 480 := by rw [← Nat.pow_mul]
    have h1 : (10 : Nat) ^ 500 = (10 ^ 25) ^ 20 := by rw [← Nat.pow_mul]
    have h2 : (2 : Nat) ^ 1920 = (2 ^ 96) ^ 20 := by rw [← Nat.pow_mul]
    rw [h1, h2]
    exact Nat.pow_le_pow_left (by decide) _
mutual
theorem T.shw : ∀ t : T, t.plain = true → t.okc = true → t.pd.showable = true ∧ t.pd.leavesShort 501 = true ∧ t.pd.bulk = t.bk
  | .non, _, _ => ⟨by simp only [T.pd, PyData.showable], by simp only [T.pd, PyData.leavesShort], by simp only [T.pd, PyData.bulk, T.bk]⟩
  | .bl _, _, _ => ⟨by simp only [T.pd, PyData.showable], by simp only [T.pd, PyData.leavesShort], by simp only [T.pd, PyData.bulk, T.bk]⟩
  | .int i, _, h => by
    have h : i.natAbs < 10 ^ 500 := of_decide_eq_true h
    refine ⟨by simp only [T.pd, PyData.showable]; exact decide_eq_true (log_500 h), ?_, by simp only [T.pd, PyData.bulk, T.bk]⟩
    simp only [T.pd, PyData.leavesShort, PyData.shown]
    refine decide_eq_true ?_
    have := PySem.int_text_length_le10 (k := 500) (by decide) h
    show (Str.ofString (toString i)).length ≤ 501
    rw [sv_cs, sv_len]
    unfold cs
    rw [List.length_map]
    rw [← String.length_toList] at this
    exact this
  | .str s, _, h => by
    refine ⟨by simp only [T.pd, PyData.showable], ?_, by simp only [T.pd, PyData.bulk, T.bk]; rfl⟩
    simp only [T.pd, PyData.leavesShort]
    rw [sv_list]; exact h
  | .lst l, p, h => by
    obtain ⟨h1, h2, h3⟩ := T.shws l (by simpa [T.plain] using p) (by simpa [T.okc] using h)
    exact ⟨by simp only [T.pd, PyData.showable]; exact h1, by simp only [T.pd, PyData.leavesShort]; exact h2, by simp only [T.pd, PyData.bulk, T.bk]; exact h3⟩
  | .tup l, p, h => by
    obtain ⟨h1, h2, h3⟩ := T.shws l (by simpa [T.plain] using p) (by simpa [T.okc] using h)
    exact ⟨by simp only [T.pd, PyData.showable]; exact h1, by simp only [T.pd, PyData.leavesShort]; exact h2, by simp only [T.pd, PyData.bulk, T.bk]; exact h3⟩
  | .wtup l, p, h => by
    obtain ⟨h1, h2, h3⟩ := T.shws l (by simpa [T.plain] using p) (by simpa [T.okc] using h)
    exact ⟨by simp only [T.pd, PyData.showable]; exact h1, by simp only [T.pd, PyData.leavesShort]; exact h2, by simp only [T.pd, PyData.bulk, T.bk]; exact h3⟩
  | .scr _, _, h => by simp [T.okc] at h
  | .dic _, h, _ => by simp [T.plain] at h
  | .dit _, h, _ => by simp [T.plain] at h
  | .ty _, h, _ => by simp [T.plain] at h
theorem T.shws : ∀ l : List T, T.plains l = true → T.okcs l = true → PyData.showableAll (T.pds l) = true ∧ PyData.leavesShortAll 501 (T.pds l) = true ∧ PyData.bulkAll (T.pds l) = T.bks l
  | [], _, _ => ⟨by simp only [T.pds, PyData.showableAll], by simp only [T.pds, PyData.leavesShortAll], by simp only [T.pds, PyData.bulkAll, T.bks]⟩
  | x :: l, p, h => by
    rw [T.plains, Bool.and_eq_true] at p
    rw [T.okcs, Bool.and_eq_true] at h
    obtain ⟨a1, a2, a3⟩ := T.shw x p.1 h.1
    obtain ⟨b1, b2, b3⟩ := T.shws l p.2 h.2
    refine ⟨?_, ?_, ?_⟩
    · simp only [T.pds, PyData.showableAll, a1, b1, Bool.and_self]
    · simp only [T.pds, PyData.leavesShortAll, a2, b2, Bool.and_self]
    · simp only [T.pds, PyData.bulkAll, a3, b3, T.bks]
end
theorem T.tells_of {t : T} (p : t.plain = true) (l : t.low = true) (c : t.okc = true) (b : t.bk ≤ 33000) : t.tells = true := by
  obtain ⟨h1, h2, h3⟩ := T.shw t p c
  have := PyData.shown_le_bulk 501 (by decide) t.pd h2
  unfold T.tells
  rw [p, l, h1]
  simp only [Bool.and_self, Bool.true_and]
  refine decide_eq_true ?_
  rw [sizeLine_eq]
  rw [h3] at this
  omega
theorem repr_t {t : T} (P S : List O) (h : t.tells = true) : reprG [.t t] P S = some (.t (.str (rp t)), S) := by
  show (if t.tells then some (D.t (.str (rp t)), S) else none) = _
  rw [if_pos h]
theorem repr_c {P S : List O} {i : Nat} {l : List T} (e : (P ++ S)[i]? = some (.lst (l.map D.t))) (h : (T.lst l).tells = true) : reprG [.ref i] P S = some (.t (.str (rp (.lst l))), S) := by
  have : viewT P S (.ref i) = some (.lst l) := by
    unfold viewT
    simp only [e]
    rw [trees_map]; rfl
  unfold reprG
  simp only [this, if_pos h]
end Fm

/-! FmP: methods of texts. -/
namespace Fm
open PySem PySem.Spec PyProof.Rows L2
section
variable {X : Cx}
end
end Fm

/-! FmQ: calls behind which what was made is forgotten; loops over dicts; {(a, b): v}; lists of the signs of a text. -/
namespace Fm
open PySem PySem.Spec PyProof.Rows L2
/-! ### what a call has made is forgotten, but what it hands back -/
def D.isT : D → Bool
  | .t _ => true
  | .ref _ => false
def O.flat : O → Bool
  | .dead => true
  | .lst l => l.all D.isT
  | .dic l => l.all fun p => p.2.isT
  | .dit l => l.all fun p => p.2.isT
  | .ins _ fs => fs.all fun p => p.2.isT
def keepF (g : MF) : MF := fun ds P S => match g ds P S with
  | .ok (.t x) S' => if S.length ≤ S'.length ∧ ((S'.take S.length).all O.flat = true) then .ok (.t x) (S'.take S.length) else .no
  | _ => .no
theorem RO.flat {K : PySem.W.Frag} {c c' : Cf} {H : Hp} {o : O} {a : Addr} (f : o.flat = true) (hz : c'.Z = c.Z) (h : RO K c H o a) : RO K c' H o a := by
  have tr : ∀ {d : D} {v : V}, d.isT = true → RD K c H d v → RD K c' H d v := fun {d v} f r => by
    cases d with
    | t x => show RV K c'.Z H x v; rw [hz]; exact r
    | ref i => cases f
  cases o with
  | dead => trivial
  | lst l =>
    obtain ⟨vs, h1, h0, h2⟩ := h
    refine ⟨vs, h1, h0, ?_⟩
    replace f : ∀ d ∈ l, d.isT = true := List.all_eq_true.mp f
    clear h1 h0
    unfold RDs at h2 ⊢
    induction h2 with
    | nil => exact .nil
    | cons r _ ih => exact .cons (tr (f _ List.mem_cons_self) r) (ih fun d hd => f d (List.mem_cons_of_mem _ hd))
  | dic l =>
    obtain ⟨kvs, h1, h2⟩ := h
    refine ⟨kvs, h1, ?_⟩
    replace f : ∀ d ∈ l, d.2.isT = true := List.all_eq_true.mp f
    clear h1
    induction h2 with
    | nil => exact .nil
    | cons r _ ih => exact .cons ⟨r.1, tr (f _ List.mem_cons_self) r.2⟩ (ih fun d hd => f d (List.mem_cons_of_mem _ hd))
  | dit l =>
    obtain ⟨kvs, h1, h2⟩ := h
    refine ⟨kvs, h1, ?_⟩
    replace f : ∀ d ∈ l, d.2.isT = true := List.all_eq_true.mp f
    clear h1
    induction h2 with
    | nil => exact .nil
    | cons r _ ih => exact .cons ⟨r.1, tr (f _ List.mem_cons_self) r.2⟩ (ih fun d hd => f d (List.mem_cons_of_mem _ hd))
  | ins C fs =>
    obtain ⟨A, dx, gs, h1, h2, h3, h4⟩ := h
    refine ⟨A, dx, gs, h1, by rw [hz]; exact h2, h3, ?_, h4.2⟩
    replace f : ∀ d ∈ fs, d.2.isT = true := List.all_eq_true.mp f
    replace h4 := h4.1
    clear h1 h2 h3
    induction h4 with
    | nil => exact .nil
    | cons r _ ih => exact .cons ⟨r.1, tr (f _ List.mem_cons_self) r.2⟩ (ih fun d hd => f d (List.mem_cons_of_mem _ hd))
theorem sp_keep {K : PySem.W.Frag} {n : Nat} {g : MF} : ∀ vs H Q E, spM K n (keepF g) vs H Q E → spM K n g vs H Q E := by
  rintro vs H Q E ⟨hn, c, P, S, ds, hS, hr, h⟩
  refine ⟨hn, c, P, S, ds, hS, hr, ?_⟩
  unfold keepF at h
  generalize g ds P S = r at h
  cases r with
  | ex x S' => exact h.elim
  | no => exact h.elim
  | ok d S' =>
    cases d with
    | ref i => exact h.elim
    | t x =>
      simp only at h
      by_cases hc : S.length ≤ S'.length ∧ ((S'.take S.length).all O.flat = true)
      · rw [if_pos hc] at h
        obtain ⟨hl, hf⟩ := hc
        intro c' v H' ev s' rd
        have cn : c.n = P.length + S.length := hS.n.symm
        have ev1 : Ev P c H { c' with n := c.n } H' := ⟨ev.z, ev.rd, ev.rdD, Nat.le_refl _, ev.m, ev.b, ev.y, ev.fz⟩
        have at' : ∀ {i : Nat} {o : O}, (P ++ S'.take S.length)[i]? = some o → (P ++ S')[i]? = some o ∧ (i < P.length ∨ o.flat = true) := fun {i o} e => by
          by_cases hi : i < P.length
          · rw [List.getElem?_append_left hi] at e ⊢
            exact ⟨e, .inl hi⟩
          · rw [List.getElem?_append_right (by omega)] at e ⊢
            have hm := List.mem_of_getElem? e
            have hi2 := (List.getElem?_eq_some_iff.mp e).1
            rw [List.length_take] at hi2
            rw [List.getElem?_take_of_lt (by omega)] at e
            exact ⟨e, .inr (List.all_eq_true.mp hf _ hm)⟩
        refine h { c' with n := c.n } v H' ev1 ⟨?_, fun i o e => ?_, fun i o e l => s'.nz i o (at' e).1 l, fun i j o u ei ej => s'.inj i j o u (at' ei).1 (at' ej).1, s'.z, s'.y, s'.yz, fun i o e l => s'.yc i o (at' e).1 l⟩ rd
        · show P.length + (S'.take S.length).length = c.n
          rw [List.length_take, cn]; omega
        · obtain ⟨e1, e2⟩ := at' e
          rcases e2 with hi | fl
          · show RO K _ H' o (c'.m i)
            have eP : P[i]? = some o := by rwa [List.getElem?_append_left hi] at e1
            have eS : (P ++ S)[i]? = some o := by rw [List.getElem?_append_left hi]; exact eP
            rw [ev.m i (by omega)]
            cases hlv : o.live with
            | false => cases o <;> first | trivial | cases hlv
            | true => exact (hS.ro i o eS).mono ev1 (ev.b i o eP hlv).1
          · exact RO.flat (c := c') fl rfl (s'.ro i o e1)
      · rw [if_neg hc] at h
        exact h.elim
theorem fng_keep {P : Program} {w : World} {K : PySem.W.Frag} {mg : Str → Option Value} {base : Heap} {k n : Nat} {f : Addr} {fd : FuncData} {ps : List Str} {g : MF} (F : FnG P w K mg base CX0 k f fd ps (spM K n g)) : FnG P w K mg base CX0 k f fd ps (spM K n (keepF g)) := F.less sp_keep
/-! ### loops over what stands in a variable -/
section
variable {X : Cx} {W : WX} {f : T → Option (List D)} {wi : TE → TI}
end
/-! ### {(a, b): v} -/
/-- {k: v} of a key that is a tuple, as a new cell -/
def mDit1 (fk fv : ME) : ME := fun P ρ S => (fk P ρ S).nx.bind fun k S1 => (fv P ρ S1).nx.bind fun y S2 => match k with
  | .ref _ => .no
  | .t k => match k.tat with
    | some ks => .ok (.ref (P.length + S2.length)) (S2 ++ [.dit [(ks, y)]])
    | none => .no
/-! ### the list of the signs of a text -/
end Fm

/-! FmU: loops over a list that may be changed elsewhere, but is not by the loop. -/
namespace Fm
open PySem PySem.Spec PyProof.Rows L2
open Classical in
noncomputable def forCo (g : MG) (fb : MS) (P : List O) (j : Nat) (l : List D) : List D → En → List O → Oc
  | [], ρ, S => .nx ρ S
  | d :: ds, ρ, S => match g d ρ with
    | none => .no
    | some ρ1 => match fb P ρ1 S with
      | .nx ρ2 S2 => if (P ++ S2)[j]? = some (.lst l) then forCo g fb P j l ds ρ2 S2 else .no
      | .ct ρ2 S2 => if (P ++ S2)[j]? = some (.lst l) then forCo g fb P j l ds ρ2 S2 else .no
      | .bk ρ2 S2 => .nx ρ2 S2
      | .rt d S2 => .rt d S2
      | .ex x ρ2 S2 => .ex x ρ2 S2
      | .no => .no
noncomputable def sForC (i : Nat) (g : MG) (fb : MS) : MS := fun P ρ S => match ρ[i]? with
  | some (some (.ref j)) => match (P ++ S)[j]? with
    | some (.lst l) => forCo g fb P j l l ρ S
    | _ => .no
  | _ => .no
section
variable {X : Cx} {W : WX}
def sPar4 (i j l m : Nat) (fs : MA) : MS := fun P ρ S => (fs P ρ S).oc ρ fun ds S1 => match ds with
  | [u, v, w, x] => .nx ((((ρ.set i (some u)).set j (some v)).set l (some w)).set m (some x)) S1
  | _ => .no
end
end Fm

/-! FmV: expressions that leave all cells as they are. -/
namespace Fm
open PySem PySem.Spec PyProof.Rows L2
section
variable {X : Cx} {W : WX}
/-! ### a < b < c < d -/
end
end Fm

/-! FmW: how often a text stands in a list of texts. -/
namespace Fm
open PySem PySem.Spec PyProof.Rows L2
section
variable {X : Cx}
end
end Fm

/-! FmX: dict comprehensions with two clauses. -/
namespace Fm
open PySem PySem.Spec PyProof.Rows L2
section
variable {prog : Program} {w : World} {A : Around} {R : Result → Shared → Prop} {s : Shared} {kx vx t0 i0 t1 i1 : Expr} {f0 f1 : List Expr} {scope : Scope} {pos : Pos} {it : Value} {D : Addr} {env : Env}
end
section
variable {X : Cx}
end
end Fm

/-! FmY: the mirror of dict comprehensions with two clauses; the new dict is a cell from the start (place q in S). -/
namespace Fm
open PySem PySem.Spec PyProof.Rows L2
section
variable {X : Cx} {W : WX}
end
end Fm

/-! FmZ: tuple[::-1], isinstance of dicts. -/
namespace Fm
open PySem PySem.Spec PyProof.Rows L2 HT
section
variable {prog : Program} {w : World} {A : Around} {E : Value → Shared → Prop} {s : Shared}
end
section
variable {X : Cx} {W : WX} {e : Expr} {f : ME}
/-! ### isinstance of dicts too -/
end
end Fm

/-! FmZ2: the alphabet's index; a[i], b[j] = x, y. -/
namespace Fm
open PySem PySem.Spec PyProof.Rows L2
section
variable {X : Cx} {W : WX}
variable {o i o2 i2 e : Expr} {fo fi fo2 fi2 fe : ME} {pos p1 p2 p3 : Pos} {kt : Nat}
end
end Fm

/-! FmZ3: slices of lists in cells. -/
namespace Fm
open PySem PySem.Spec PyProof.Rows L2
section
variable {X : Cx} {W : WX} {e : Expr} {fo : ME} {pos p2 : Pos}
end
end Fm

/-! FmZ4: isinstance of all trees; x == (). -/
namespace Fm
open PySem PySem.Spec PyProof.Rows L2
/-- the name of a tree's type -/
def T.kind : T → Option String
  | .non => some "NoneType"
  | .bl _ => some "bool"
  | .int _ => some "int"
  | .str _ => some "str"
  | .lst _ => some "list"
  | .tup _ => some "tuple"
  | .dic _ => some "dict"
  | .dit _ => some "dict"
  | _ => none
def fiveN (n : String) : Bool := n = "tuple" ∨ n = "str" ∨ n = "int" ∨ n = "bool" ∨ n = "list"
def isKind (k n : String) : Bool := k = n ∨ (k = "bool" ∧ n = "int")
def isiX : FL := fun ds P S => match ds with
  | [.t x, .t (.ty n)] => match x.kind with
    | some k => if fiveN n then some (.t (.bl (isKind k n)), S) else none
    | none => none
  | ds => isiG ds P S
section
variable {X : Cx} {W : WX}
@[simp] theorem isiX_ss (s : Tx) (P S : List O) : isiX [.t (.str s), .t (.ty "str")] P S = some (.t (.bl true), S) := rfl
@[simp] theorem isiX_ii (i : Int) (P S : List O) : isiX [.t (.int i), .t (.ty "int")] P S = some (.t (.bl true), S) := rfl
@[simp] theorem isiX_ib (i : Int) (P S : List O) : isiX [.t (.int i), .t (.ty "bool")] P S = some (.t (.bl false), S) := rfl
@[simp] theorem isiX_tt (l : List T) (P S : List O) : isiX [.t (.tup l), .t (.ty "tuple")] P S = some (.t (.bl true), S) := rfl
end
end Fm

/-! FmZ5: tuple(text). -/
namespace Fm
open PySem PySem.Spec PyProof.Rows L2
end Fm

set_option maxHeartbeats 4000000
/-! FmZ6: for a, b in d.items() over a dict that is a tree; dict comprehensions with two clauses, as cells -/
namespace Fm
open PySem PySem.Spec PyProof.Rows L2
section
variable {K : PySem.W.Frag} {P S : List O} {c : Cf} {H : Hp} {a : Addr} {od : Obj}
end
section
variable {X : Cx} {W : WX}
end
end Fm

set_option maxHeartbeats 4000000
/-! FmZ7: dict comprehensions with two clauses over what stands in a variable -/
namespace Fm
open PySem PySem.Spec PyProof.Rows L2
section
variable {X : Cx} {W : WX} {f : T → Option (List D)} {wi : TE → TI}
end
end Fm

set_option maxHeartbeats 4000000
/-! FmZ8: a walk over the keys of a dict that an expression gives (the dict stays locked) -/
namespace Fm
open PySem PySem.Spec PyProof.Rows L2
section
variable {X : Cx} {tg e : Expr} {td : TE}
end
section
variable {X : Cx} {W : WX} {tg e : Expr} {f : ME}
end
end Fm

set_option maxHeartbeats 4000000
/-! FmZ9: name = {k: v for ..} where the name is a local -/
namespace Fm
open PySem PySem.Spec PyProof.Rows L2
section
variable {X : Cx}
variable {W : WX}
end
end Fm

set_option maxHeartbeats 4000000
/-! FmZ10: name = {k: v for ..} over a cell that stands: all cells protected -/
namespace Fm
open PySem PySem.Spec PyProof.Rows L2
section
variable {X : Cx} {W : WX}
end
end Fm

/-! FmZ11: calls that see the last three cells. -/
namespace Fm
open PySem PySem.Spec PyProof.Rows L2
end Fm

/-! FmZ12: the mirror of list comprehensions with two clauses; the new list is a cell from the start (place q in S). -/
namespace Fm
open PySem PySem.Spec PyProof.Rows L2
section
variable {X : Cx} {W : WX}
end
end Fm

/-! FmZ13: max of a tuple of whole numbers -/
namespace Fm
open PySem PySem.Spec PyProof.Rows L2
section
variable {X : Cx}
end
end Fm

/-! FmZ14: list(d) of a dict -/
namespace Fm
open PySem PySem.Spec PyProof.Rows L2
end Fm

/-! FmZ15: powers of great numbers by small ones -/
namespace Fm
open PySem PySem.Spec PyProof.Rows L2
end Fm

/-! FmZ16: enumerate of the script -/
namespace Fm
open PySem PySem.Spec PyProof.Rows L2
def enumsS : List D → Option (List D)
  | [.t (.scr l)] => some (enumOf 0 (l.map T.int))
  | _ => none
theorem enumsS_some {ds l : List D} (h : enumsS ds = some l) : ∃ m, ds = [.t (.scr m)] ∧ l = enumOf 0 (m.map T.int) := by
  unfold enumsS at h
  split at h
  · cases h; exact ⟨_, rfl, rfl⟩
  · cases h
section
variable {X : Cx} {W : WX} {a : Expr} {f : MA} {p pos : Pos} {q : List (Str × Expr)}
theorem pmi_enumS {elts : List Expr} {kk : Nat} {tpos : Pos} (hg : Gl X "enumerate") (hm : X.mg "enumerate" = none) (ha : PMA X W [a] f) (hs : starEach [a] X.env = [(false, eval a X.env)] := by rfl) :
    PMI X W (.Tuple elts kk tpos) (.Call (.Name "enumerate" p) [a] [] pos) (mI enumsS f) := by
  refine pmi_of ha (fun t h => pi_enum hg hm h hs) fun t σ H Rr h mono => mono _ _ (fun vs H1 h => ?_) h
  obtain ⟨ds, c1, P, S, l', hS, r, q, k⟩ := h
  obtain ⟨l, rfl, rfl⟩ := enumsS_some q
  cases r with
  | cons r rr =>
    cases rr
    obtain ⟨a, rfl, g1, g2, g3⟩ := RD.scrE r
    refine ⟨a, l.map V.int, rfl, g2, k _ ⟨by rw [enumOf_len, List.length_map]; exact g3, fun c2 H2 e2 => ⟨l.map V.int, g1 e2, by rw [enumOf_len, List.length_map, List.length_map]; exact Nat.le_refl _⟩, fun i d c2 H2 S2 qi e2 s2 => ?_⟩⟩
    rw [enumOf_at, List.getElem?_map] at qi
    cases z : l[i]? with
    | none => rw [z] at qi; cases qi
    | some t =>
      rw [z] at qi
      cases qi
      have g1' : (l.map V.int)[i]? = some (V.int t) := by rw [List.getElem?_map, z]; rfl
      have hS2 : SqL X.K H2 a (l.map V.int) := g1 e2
      refine ⟨⟨l.map V.int, V.int t, hS2, g1'⟩, fun x H3 y => ?_⟩
      obtain ⟨TT, x', rfl, hT, rfl, y⟩ := y
      have := y (l.map V.int) hS2
      rw [g1'] at this
      cases this
      refine ⟨c2.zed TT, Ev.alloc s2 hT, Sim.alloc s2 hT, RV.tup _ TT _ (.inr rfl) upd_same (by show 2 ≤ sizeLine; decide) (.cons _ _ _ _ ?_ (.cons _ _ _ _ (.int _) .nil))⟩
      rw [Nat.zero_add]
      exact .int _
end
end Fm

/-! FmZ17: slices of lists in cells, as cells. -/
namespace Fm
open PySem PySem.Spec PyProof.Rows L2
section
variable {X : Cx} {W : WX} {e : Expr} {fo : ME} {pos p2 : Pos}
def mSlCC (fo : ME) (fl fh : Option ME) : ME := fun P ρ S => (fo P ρ S).bind fun d S1 => (mPart fl P ρ S1).bind fun lo S2 => (mPart fh P ρ S2).bind fun hi S3 => match d with
  | .ref i => match (P ++ S3)[i]? with
    | some (.lst l) => match trees l with
      | some ts => .ok (.ref (P.length + S3.length)) (S3 ++ [.lst ((cutL ts lo hi).map D.t)])
      | none => .no
    | _ => .no
  | _ => .no
theorem pm_slCC {fl fh : Option ME} {lo hi : Option Expr} (ho : PM X W e fo) (hl : PMP X W lo fl) (hh : PMP X W hi fh) : PM X W (.Subscript e (.Slice lo hi none p2) pos) (mSlCC fo fl fh) := by
  obtain ⟨tl, pl, kl⟩ := hl.run
  obtain ⟨th, ph, kh⟩ := hh.run
  refine ⟨pe_weak (pe_slice (sl_str.or (sl_list.or sl_tupA)) ho.run pl ph) fun σ H Q h => ?_⟩
  obtain ⟨c, P, ρ, S, hE, hS, h⟩ := h
  refine tM_bind hE hS h fun d v S1 c1 H1 e1 E1 s1 r1 h1 => ?_
  refine kl c1 P ρ S1 σ H1 _ E1 s1 ?_
  generalize mPart fl P ρ S1 = rl at h1
  cases rl with
  | ex x S' => exact h1
  | no => exact h1
  | ok l S2 =>
    intro c2 l' H2 e2 s2 rl
    cases (show l = l' from rl)
    have h2 := Post.ev s1.pl e2 h1
    refine kh c2 P ρ S2 σ H2 _ (E1.mono e2) s2 ?_
    simp only [R.bind_ok] at h2
    generalize mPart fh P ρ S2 = rh at h2
    cases rh with
    | ex x S' => exact h2
    | no => exact h2
    | ok u S3 =>
      intro c3 u' H3 e3 s3 ru
      cases (show u = u' from ru)
      have h3 := Post.ev s2.pl e3 h2
      have r3 := (r1.mono e2).mono e3
      simp only [R.bind_ok] at h3
      cases d with
      | t x => exact h3.elim
      | ref i =>
        obtain ⟨hi, rfl⟩ := r3
        cases eo : (P ++ S3)[i]? with
        | none => simp only [eo] at h3; exact h3.elim
        | some o =>
          cases o with
          | lst l' =>
            obtain ⟨vs, hH, hl, rr⟩ := s3.ro _ _ eo
            cases et : trees l' with
            | none => simp only [eo, et] at h3; exact h3.elim
            | some ts =>
              simp only [eo, et] at h3
              have g4 := rr.trees et
              exact .inr (.inl ⟨_, vs, rfl, SqL.of hH, fun p hp => by
                have hn := s3.n
                refine h3 (c3.cell p) _ _ (Ev.cellE s3 hp) (Sim.cell s3 hp ⟨_, upd_same, Nat.le_trans (cutV_length _ _ _) hl, (g4.cutL l u).rds.cell s3 hp⟩) ⟨by show _ < c3.n + 1; omega, ?_⟩
                show V.ref p = V.ref (if P.length + S3.length = c3.n then p else _)
                rw [if_pos hn]⟩)
          | dead => simp only [eo] at h3; exact h3.elim
          | dic l => simp only [eo] at h3; exact h3.elim
          | dit l => simp only [eo] at h3; exact h3.elim
          | ins C fs => simp only [eo] at h3; exact h3.elim
end
theorem x_slCC {f : ME} {P : List O} {ρ : En} {S S1 S2 S3 : List O} {k : Nat} {l : List T} {lo hi : Option ME} {i j : Option Int} (h : f P ρ S = .ok (.ref k) S1) (hl : mPart lo P ρ S1 = .ok i S2) (hh : mPart hi P ρ S2 = .ok j S3) (hc : (P ++ S3)[k]? = some (.lst (l.map D.t))) : mSlCC f lo hi P ρ S = .ok (.ref (P.length + S3.length)) (S3 ++ [.lst ((cutL l i j).map D.t)]) := by
  have ht : trees (l.map D.t) = some l := by
    clear hc
    induction l with
    | nil => rfl
    | cons x l ih => rw [List.map_cons]; unfold trees; rw [ih]; rfl
  unfold mSlCC
  rw [h]
  show (mPart lo P ρ S1).bind _ = _
  rw [hl]
  show (mPart hi P ρ S2).bind _ = _
  rw [hh]
  show (match (P ++ S3)[k]? with | some (.lst l) => _ | _ => _) = _
  rw [hc]
  simp only [ht]
end Fm

/-! FmZ18: max of a list of pairs (whole number, text). -/
namespace Fm
open PySem PySem.Spec PyProof.Rows L2
end Fm

/-! FmZ19: tuple(range(n)) -/
namespace Fm
open PySem PySem.Spec PyProof.Rows L2
section
variable {X : Cx} {W : WX} {a : Expr} {f : ME} {p p2 pos pos2 : Pos}
end
section
variable {P S S1 : List O} {ρ : En}
end
end Fm

/-! FmZ20: an expression to which all that stands is locked -/
namespace Fm
open PySem PySem.Spec PyProof.Rows L2
end Fm

/-! FmZ21: classes of one's own: instances, fields, methods -/
namespace Fm
open PySem PySem.Spec PyProof.Rows L2
section
variable {K : PySem.W.Frag} {P S : List O} {c : Cf} {H : Hp} {C : Str} {A : Addr} {d : D} {v : V} {fs : List (Str × D)} {f : Str}
end
/-! ### o.f -/
section
variable {X : Cx} {W : WX} {o e : Expr} {es : List Expr} {fo fe : ME} {fs : MA} {C m f : Str} {A fa : Addr} {pos pos' apos p : Pos} {k n : Nat} {fd : FuncData} {ps : List Str} {g : MF} {x : Str}
/-! ### o.f = e -/
/-! ### o.m(..) -/
/-! ### C(..) -/
end
end Fm

/-! FmZ22: list(d.values()) -/
namespace Fm
open PySem PySem.Spec PyProof.Rows L2
section
variable {X : Cx} {e : Expr} {te : TE} {p apos cpos pos : Pos}
end
section
variable {X : Cx} {W : WX} {e : Expr} {f : ME} {p apos cpos pos : Pos}
end
section
variable {P S S1 : List O} {ρ : En}
end
end Fm

/-! FmZ23: list(l) of a list or a tuple, as a new cell -/
namespace Fm
open PySem PySem.Spec PyProof.Rows L2
end Fm

/-! FmZ24: enumerate of a tuple -/
namespace PySem
open Sem (wp)
open AutoSeq1 (wpAny_loadPart')
section
variable {prog : Program} {w : World} {A : Around} {E : Value → Shared → Prop} {s : Shared}
end
end PySem
namespace Fm
open PySem PySem.Spec PyProof.Rows L2
end Fm

set_option maxHeartbeats 4000000
/-! FmZ25: set(a) == set(b), set(a) != set(b), of texts -/
namespace Fm
open PySem PySem.Spec PyProof.Rows L2
section
variable {P : Program} {w : World} {A : Around} {E : Value → Shared → Prop} {s : Shared} {a b : Addr} {l m : List Str}
end
section
variable {X : Cx} {W : WX} {a b : Expr} {ta tb : TE} {fa fb : ME} {neg : Bool} {p p2 q q2 pos : Pos}
end
section
variable {P S S1 S2 : List O} {ρ : En}
end
end Fm

set_option maxHeartbeats 4000000
/-! FmZ26: sum of lists -/
namespace Fm
open PySem PySem.Spec PyProof.Rows L2
section
variable {prog : Program} {w : World} {A : Around} {R : Result → Shared → Prop} {I : Addr} {fp wr : List Addr} {n : Nat} {Pv : Nat → Value → Prop} {St : Nat → Heap → Prop}
end
section
variable {prog : Program} {w : World} {A : Around} {E : Value → Shared → Prop} {s : Shared}
end
end Fm

/-! FmZ27: list comprehensions over d.values() of a dict that is a tree -/
namespace Fm
open PySem PySem.Spec PyProof.Rows L2
section
variable {X : Cx} {W : WX}
end
end Fm

/-! Pl: plain rules of mirrors, for reading what a mirror gives. -/
namespace Fm
open PySem PySem.Spec PyProof.Rows L2
section
variable (P : List O) (ρ : En) (S : List O)
@[simp] theorem e_var (i : Nat) : mVar i P ρ S = (match ρ[i]? with | some (some d) => .ok d S | _ => .no) := rfl
@[simp] theorem e_c (x : T) : mC x P ρ S = .ok (.t x) S := rfl
@[simp] theorem e_op2 (g : F2) (fa fb : ME) : mOp2 g fa fb P ρ S = (fa P ρ S).bind fun x S1 => (fb P ρ S1).bind fun y S2 => lift (g x y P S2) := rfl
@[simp] theorem e_op1 (g : F1) (fa : ME) : mOp1 g fa P ρ S = (fa P ρ S).bind fun x S1 => lift (g x P S1) := rfl
@[simp] theorem e_call (g : MF) (fs : MA) : mCall g fs P ρ S = (fs P ρ S).bind fun ds S1 => (g ds P S1).nx := rfl
@[simp] theorem e_callB (g : FL) (fs : MA) : mCallB g fs P ρ S = (fs P ρ S).bind fun ds S1 => lift (g ds P S1) := rfl
@[simp] theorem e_nil : mNil P ρ S = .ok [] S := rfl
@[simp] theorem e_cons (f : ME) (g : MA) : mCons f g P ρ S = (f P ρ S).bind fun d S1 => (g P ρ S1).bind fun ds S2 => .ok (d :: ds) S2 := rfl
@[simp] theorem e_if (ft : MT) (fa fb : ME) : mIf ft fa fb P ρ S = (ft P ρ S).bind fun b S1 => if b then fa P ρ S1 else fb P ρ S1 := rfl
@[simp] theorem e_T (f : ME) : mT f P ρ S = (f P ρ S).bind fun d S1 => match isTrueD d with
  | some b => .ok b S1
  | none => .no := rfl
@[simp] theorem e_B (f : ME) : mB f P ρ S = (f P ρ S).bind fun d S1 => match d with
  | .t (.bl b) => .ok b S1
  | _ => .no := rfl
@[simp] theorem e_andT (f g : MT) : mAndT f g P ρ S = (f P ρ S).bind fun b S1 => if b then g P ρ S1 else .ok false S1 := rfl
@[simp] theorem e_orT (f g : MT) : mOrT f g P ρ S = (f P ρ S).bind fun b S1 => if b then .ok true S1 else g P ρ S1 := rfl
@[simp] theorem e_notT (f : MT) : mNotT f P ρ S = (f P ρ S).bind fun b S1 => .ok (!b) S1 := rfl
@[simp] theorem e_and (fa fb : ME) : mAnd fa fb P ρ S = (fa P ρ S).bind fun d S1 => match isTrueD d with
  | some true => fb P ρ S1
  | some false => .ok (.t (.bl false)) S1
  | none => .no := rfl
@[simp] theorem e_or (fa fb : ME) : mOr fa fb P ρ S = (fa P ρ S).bind fun d S1 => match isTrueD d with
  | some true => .ok (.t (.bl true)) S1
  | some false => fb P ρ S1
  | none => .no := rfl
@[simp] theorem e_not (fa : ME) : mNot fa P ρ S = (fa P ρ S).bind fun d S1 => match isTrueD d with
  | some b => .ok (.t (.bl !b)) S1
  | none => .no := rfl
@[simp] theorem e_tup (fs : MA) : mTup fs P ρ S = (fs P ρ S).bind fun ds S1 => match trees ds with
  | some ts => if ts.length ≤ sizeLine then .ok (.t (.tup ts)) S1 else .no
  | none => .no := rfl
@[simp] theorem e_lst (fs : MA) : mLst fs P ρ S = (fs P ρ S).bind fun ds S1 => match trees ds with
  | some ts => if ts.length ≤ sizeLine then .ok (.t (.lst ts)) S1 else .no
  | none => .no := rfl
@[simp] theorem e_lstC (fs : MA) : mLstC fs P ρ S = (fs P ρ S).bind fun ds S1 => if ds.length ≤ sizeLine then .ok (.ref (P.length + S1.length)) (S1 ++ [.lst ds]) else .no := rfl
@[simp] theorem e_chain (g g' : F2) (fa fb fc : ME) : mChain g g' fa fb fc P ρ S = (fa P ρ S).bind fun x S1 => (fb P ρ S1).bind fun y S2 => (lift (g x y P S2)).bind fun z S3 => match isTrueD z with
  | some true => (fc P ρ S3).bind fun u S4 => lift (g' y u P S4)
  | some false => .ok (.t (.bl false)) S3
  | none => .no := rfl
@[simp] theorem e_partN : mPart none P ρ S = .ok none S := rfl
@[simp] theorem e_partS (f : ME) : mPart (some f) P ρ S = (f P ρ S).bind fun d S1 => match d with
  | .t (.int i) => .ok (some i) S1
  | _ => .no := rfl
@[simp] theorem e_sl (fo : ME) (fl fh : Option ME) : mSl fo fl fh P ρ S = (fo P ρ S).bind fun d S1 => (mPart fl P ρ S1).bind fun lo S2 => (mPart fh P ρ S2).bind fun hi S3 => match d with
  | .t (.str s) => .ok (.t (.str (cutL s lo hi))) S3
  | .t (.lst l) => .ok (.t (.lst (cutL l lo hi))) S3
  | .t (.tup l) => .ok (.t (.tup (cutL l lo hi))) S3
  | .t (.scr l) => .ok (.t (.lst ((cutL l lo hi).map .int))) S3
  | _ => .no := rfl
@[simp] theorem e_sNil : sNil P ρ S = .nx ρ S := rfl
@[simp] theorem e_seq (f g : MS) : sSeq f g P ρ S = (f P ρ S).sq fun ρ1 S1 => g P ρ1 S1 := rfl
@[simp] theorem e_set (i : Nat) (f : ME) : sSet i f P ρ S = (f P ρ S).oc ρ fun d S1 => .nx (ρ.set i (some d)) S1 := rfl
@[simp] theorem e_ret (f : ME) : sRet f P ρ S = (f P ρ S).oc ρ fun d S1 => .rt d S1 := rfl
@[simp] theorem e_retN : sRetN P ρ S = .rt (.t .non) S := rfl
@[simp] theorem e_expr (f : ME) : sExpr f P ρ S = (f P ρ S).oc ρ fun _ S1 => .nx ρ S1 := rfl
@[simp] theorem e_sif (ft : MT) (f g : MS) : sIf ft f g P ρ S = (ft P ρ S).oc ρ fun b S1 => if b then f P ρ S1 else g P ρ S1 := rfl
@[simp] theorem e_brk : sBreak P ρ S = .bk ρ S := rfl
@[simp] theorem e_cnt : sCont P ρ S = .ct ρ S := rfl
@[simp] theorem e_asg (g : MG) (f : ME) : sAsg g f P ρ S = (f P ρ S).oc ρ fun d S1 => match g d ρ with
  | some ρ1 => .nx ρ1 S1
  | none => .no := rfl
@[simp] theorem e_par2 (i j : Nat) (fs : MA) : sPar2 i j fs P ρ S = (fs P ρ S).oc ρ fun ds S1 => match ds with
  | [u, v] => .nx ((ρ.set i (some u)).set j (some v)) S1
  | _ => .no := rfl
@[simp] theorem e_par3 (i j l : Nat) (fs : MA) : sPar3 i j l fs P ρ S = (fs P ρ S).oc ρ fun ds S1 => match ds with
  | [u, v, w] => .nx (((ρ.set i (some u)).set j (some v)).set l (some w)) S1
  | _ => .no := rfl
@[simp] theorem e_put (fo fi fe : ME) : sPut fo fi fe P ρ S = (fe P ρ S).oc ρ fun v S1 => (fo P ρ S1).oc ρ fun d S2 => (fi P ρ S2).oc ρ fun i S3 => match setG d i v P S3 with
  | some S4 => .nx ρ S4
  | none => .no := rfl
@[simp] theorem e_gN (i : Nat) (d : D) : gN i d ρ = some (ρ.set i (some d)) := rfl
@[simp] theorem e_dicC : mDicC P ρ S = .ok (.ref (P.length + S.length)) (S ++ [.dic []]) := rfl
@[simp] theorem e_it (f : ME) : mIt f P ρ S = (f P ρ S).bind fun d S1 => match itemsOf P d with
  | some l => .ok l S1
  | none => .no := rfl
@[simp] theorem e_I (g : List D → Option (List D)) (f : MA) : mI g f P ρ S = (f P ρ S).bind fun ds S1 => match g ds with
  | some l => .ok l S1
  | none => .no := rfl
@[simp] theorem e_lenSet (f : ME) : mLenSet f P ρ S = (f P ρ S).bind fun d S1 => match setSrc P S1 d with
  | some xs => if (onceM xs).length + 1 < scanBound then .ok (.t (.int (onceM xs).length)) S1 else .no
  | none => .no := rfl
@[simp] theorem e_sortSet (fin : List T → List O → List O → R D) (f : ME) : mSortSet fin f P ρ S = (f P ρ S).bind fun d S1 => match setSrc P S1 d with
  | some xs => if (onceM xs).length + 1 < scanBound then fin ((sortTx (onceM xs)).map T.str) P S1 else .no
  | none => .no := rfl
@[simp] theorem e_sort (fin : List T → List O → List O → R D) (f : ME) : mSort fin f P ρ S = (f P ρ S).bind fun d S1 => match sortIn P S1 d with
  | some l => fin l P S1
  | none => .no := rfl
@[simp] theorem e_mkT (l : List T) : mkT l P S = .ok (.t (.lst l)) S := rfl
@[simp] theorem e_mkC (l : List T) : mkC l P S = .ok (.ref (P.length + S.length)) (S ++ [.lst (l.map D.t)]) := rfl
@[simp] theorem e_meth (kd : Kd) (g : FM) (fo : ME) (fs : MA) : mMeth kd g fo fs P ρ S = (fo P ρ S).bind fun d S1 => if kd d P S1 then (fs P ρ S1).bind fun ds S2 => lift (g d ds P S2) else .no := rfl
@[simp] theorem e_for (fi : MI) (g : MG) (fb : MS) : sFor fi g fb P ρ S = (fi P ρ S).oc ρ fun ds S1 => forGo g fb P ds ρ S1 := rfl
@[simp] theorem e_while (ft : MT) (fb : MS) : sWhile ft fb P ρ S = whileGo ft fb P bigN ρ S := rfl
@[simp] theorem e_lc (fin : List D → List O → List O → R D) (fi : MI) (g : MG) (vs : List Nat) (ft : MT) (fe : ME) : mLcG fin fi g vs ft fe P ρ S = (fi P ρ S).bind fun ds S1 => (lcGo g ft fe P (wipeE ρ vs) ds S1).bind fun r S2 => fin r P S2 := rfl
@[simp] theorem e_dc (fin : List (At × D) → List O → List O → R D) (fi : MI) (g : MG) (vs : List Nat) (ft : MT) (fk fv : ME) : mDcG fin fi g vs ft fk fv P ρ S = (fi P ρ S).bind fun ds S1 => (dcGo g ft fk fv P (wipeE ρ vs) ds S1 []).bind fun r S2 => fin r P S2 := rfl
@[simp] theorem e_callK (g : MF) (n m : Nat) (ix : List Nat) (fs fk : MA) : mCallK g n m ix fs fk P ρ S = (fs P ρ S).bind fun ds S1 => (fk P ρ S1).bind fun zs S2 => if ds.length = n ∧ zs.length = m then (g (pickI ix (ds ++ zs)) P S2).nx else .no := rfl
@[simp] theorem e_yes : mYes P ρ S = .ok true S := rfl
@[simp] theorem e_finT (r : List D) : finT r P S = (match trees r with | some ts => .ok (.t (.lst ts)) S | none => .no) := rfl
@[simp] theorem e_finC (r : List D) : finC r P S = .ok (.ref (P.length + S.length)) (S ++ [.lst r]) := rfl
@[simp] theorem e_wipe0 : wipeE ρ [] = ρ := rfl
@[simp] theorem e_wipe (v : Nat) (vs : List Nat) : wipeE ρ (v :: vs) = (wipeE ρ vs).set v none := rfl
theorem e_def (n : Nat) (fb : MS) (ds : List D) : mDef n fb ds P S = (match fb P (ds.map some ++ List.replicate (n - ds.length) none) S with
  | .rt d S' => .ok d S'
  | .nx _ S' => .ok (.t .non) S'
  | .ex x _ S' => .ex x S'
  | _ => .no) := rfl
@[simp] theorem nx_ok {α : Type} (a : α) : (R.ok a S).nx = .ok a S := rfl
end
@[simp] theorem szl : PySem.sizeLine = 16777216 := rfl
@[simp] theorem pick_nil {α : Type} (l : List α) : pickI [] l = [] := rfl
@[simp] theorem pick_cons {α : Type} (j : Nat) (ix : List Nat) (l : List α) : pickI (j :: ix) l = (match l[j]? with | some a => a :: pickI ix l | none => pickI ix l) := by
  unfold pickI
  rw [List.filterMap_cons]
  cases l[j]? <;> rfl
@[simp] theorem isTrueD_bl (b : Bool) : isTrueD (.t (.bl b)) = some b := rfl
@[simp] theorem addT_int (i j : Int) : addT (.int i) (.int j) = some (.int (i + j)) := rfl
@[simp] theorem subT_int (i j : Int) : subT (.int i) (.int j) = some (.int (i - j)) := rfl
@[simp] theorem negT_int (i : Int) : negT (.int i) = some (.int (-i)) := rfl
@[simp] theorem intT_int (i : Int) : intT [.int i] = some (.int i) := rfl
@[simp] theorem intT_bl (b : Bool) : intT [.bl b] = some (.int (if b then 1 else 0)) := rfl
@[simp] theorem absT_int (i : Int) : absT [.int i] = some (.int (if i < 0 then -i else i)) := rfl
@[simp] theorem max2T_int (i j : Int) : max2T [.int i, .int j] = some (.int (if j > i then j else i)) := rfl
@[simp] theorem min2T_int (i j : Int) : min2T [.int i, .int j] = some (.int (if j < i then j else i)) := rfl
@[simp] theorem lTL_one (h : List T → Option T) (x : T) (P S : List O) : lTL h [.t x] P S = (h [x]).map fun z => (.t z, S) := rfl
@[simp] theorem lTL_two (h : List T → Option T) (x y : T) (P S : List O) : lTL h [.t x, .t y] P S = (h [x, y]).map fun z => (.t z, S) := rfl
theorem addT_str {a b : Tx} (h : a.length + b.length ≤ sizeLine) : addT (.str a) (.str b) = some (.str (a ++ b)) := if_pos h
theorem mulT_int {i j : Int} (h : mulOk i j) : mulT (.int i) (.int j) = some (.int (i * j)) := if_pos h
theorem modT_int {i j : Int} (h : 0 < j) : modT (.int i) (.int j) = some (.int (i % j)) := if_pos h
theorem fdivT_int {i j : Int} (h : 0 < j) (h2 : j.natAbs < 2 ^ 4000) : fdivT (.int i) (.int j) = some (.int (i / j)) := if_pos ⟨h, h2⟩
theorem powT_int {i : Int} {n : Nat} (h : n ≤ 1000000) (h2 : i.natAbs < 2 ^ 60) : powT (.int i) (.int n) = some (.int (i ^ n)) := by
  show (if (0 : Int) ≤ n ∧ (n : Int) ≤ 1000000 ∧ i.natAbs < 2 ^ 60 then some (T.int (i ^ (n : Int).toNat)) else none) = _
  rw [if_pos ⟨by omega, by omega, h2⟩]; rfl
theorem big60 : (2 : Nat) ^ 60 = 1152921504606846976 := by decide
theorem mulOk_l {i j : Int} (h : i.natAbs < 1152921504606846976) : mulOk i j := .inl (by rw [big60]; exact h)
theorem mulOk_r {i j : Int} (h : j.natAbs < 1152921504606846976) : mulOk i j := .inr (.inl (by rw [big60]; exact h))
theorem big_lt {n : Nat} (h : n < 10 ^ 1000) : n < 2 ^ 4000 := Nat.lt_of_lt_of_le h (by
  have : (10 : Nat) ^ 1000 ≤ 16 ^ 1000 := Nat.pow_le_pow_left (by decide) _
  have e : (16 : Nat) ^ 1000 = 2 ^ 4000 := by rw [show (16 : Nat) = 2 ^ 4 from rfl, ← Nat.pow_mul]
  rw [← e]; exact this)
theorem mulOk_b {i j : Int} (h : i.natAbs < 10 ^ 1000) (h2 : j.natAbs < 10 ^ 1000) : mulOk i j := .inr (.inr ⟨big_lt h, big_lt h2⟩)
end Fm

/-! Pl2: loops, comprehensions, subscripts: what is known behind them. -/
namespace Fm
open PySem PySem.Spec PyProof.Rows L2
theorem lc_inv {g : MG} {ft : MT} {fe : ME} {P : List O} {ρ : En} (I : Nat → List O → Prop) (Rl : D → Prop) (K : Nat) : ∀ (ds : List D) (k : Nat) (S : List O), k + ds.length ≤ K →
    (∀ d ∈ ds, ∀ k S, k < K → I k S → ∃ ρ1 y S', g d ρ = some ρ1 ∧ ft P ρ1 S = .ok true S ∧ fe P ρ1 S = .ok y S' ∧ I (k + 1) S' ∧ Rl y) → I k S →
    ∃ ys S', lcGo g ft fe P ρ ds S = .ok ys S' ∧ I (k + ds.length) S' ∧ ys.length = ds.length ∧ ∀ y ∈ ys, Rl y
  | [], k, S, _, _, h => ⟨[], S, rfl, h, rfl, fun _ z => nomatch z⟩
  | d :: ds, k, S, hK, st, h => by
    obtain ⟨ρ1, y, S1, e1, e2, e3, h1, r1⟩ := st d List.mem_cons_self k S (by rw [List.length_cons] at hK; omega) h
    obtain ⟨ys, S2, e4, h2, hl, hr⟩ := lc_inv I Rl K ds (k + 1) S1 (by rw [List.length_cons] at hK; omega) (fun d hd => st d (List.mem_cons_of_mem _ hd)) h1
    refine ⟨y :: ys, S2, ?_, ?_, by rw [List.length_cons, hl, List.length_cons], fun z hz => ?_⟩
    · simp [lcGo, e1, e2, e3, e4, R.nx, R.bind]
    · rw [List.length_cons, show k + (ds.length + 1) = k + 1 + ds.length by omega]; exact h2
    · rcases List.mem_cons.mp hz with rfl | hz
      · exact r1
      · exact hr z hz
/-- no effect: a map -/
theorem lc_map {g : MG} {ft : MT} {fe : ME} {P : List O} {ρ : En} {S : List O} (F : D → D) : ∀ ds : List D, (∀ d ∈ ds, ∃ ρ1, g d ρ = some ρ1 ∧ ft P ρ1 S = .ok true S ∧ fe P ρ1 S = .ok (F d) S) → lcGo g ft fe P ρ ds S = .ok (ds.map F) S
  | [], _ => rfl
  | d :: ds, h => by
    obtain ⟨ρ1, e1, e2, e3⟩ := h d List.mem_cons_self
    simp [lcGo, e1, e2, e3, lc_map F ds fun d hd => h d (List.mem_cons_of_mem _ hd), R.nx, R.bind]
theorem choice_map {α β : Type} {F : α → β} {p : α → Prop} : ∀ ys : List β, (∀ y ∈ ys, ∃ x, y = F x ∧ p x) → ∃ xs : List α, ys = xs.map F ∧ ∀ x ∈ xs, p x
  | [], _ => ⟨[], rfl, fun _ h => nomatch h⟩
  | y :: ys, h => by
    obtain ⟨x, e, hx⟩ := h y List.mem_cons_self
    obtain ⟨xs, e2, hxs⟩ := choice_map ys fun z hz => h z (List.mem_cons_of_mem _ hz)
    refine ⟨x :: xs, by rw [e, e2]; rfl, fun z hz => ?_⟩
    rcases List.mem_cons.mp hz with rfl | hz
    · exact hx
    · exact hxs z hz
theorem for_inv {g : MG} {fb : MS} {P : List O} (J : Nat → En → List O → Prop) : ∀ (ds : List D) (i : Nat) (ρ : En) (S : List O),
    (∀ k d ρ S, ds[k]? = some d → J (i + k) ρ S → ∃ ρ1, g d ρ = some ρ1 ∧ ∃ ρ2 S2, (fb P ρ1 S = .nx ρ2 S2 ∨ fb P ρ1 S = .ct ρ2 S2) ∧ J (i + k + 1) ρ2 S2) → J i ρ S → ∃ ρ' S', forGo g fb P ds ρ S = .nx ρ' S' ∧ J (i + ds.length) ρ' S'
  | [], i, ρ, S, _, h => ⟨ρ, S, rfl, h⟩
  | d :: ds, i, ρ, S, st, h => by
    obtain ⟨ρ1, e1, ρ2, S2, e2, h2⟩ := st 0 d ρ S rfl h
    obtain ⟨ρ', S', e3, h3⟩ := for_inv J ds (i + 1) ρ2 S2 (fun k d ρ S hk hJ => by
      have := st (k + 1) d ρ S (by simpa using hk) (by rw [show i + (k + 1) = i + 1 + k by omega]; exact hJ)
      rw [show i + (k + 1) + 1 = i + 1 + k + 1 by omega] at this
      exact this) h2
    refine ⟨ρ', S', ?_, by rw [List.length_cons, show i + (ds.length + 1) = i + 1 + ds.length by omega]; exact h3⟩
    rcases e2 with e2 | e2 <;> simp [forGo, e1, e2, e3]
theorem while_inv {ft : MT} {fb : MS} {P : List O} (J : Nat → En → List O → Prop) (Dn : En → List O → Prop) : ∀ (n m : Nat) (ρ : En) (S : List O), m < n →
    (∀ m ρ S, J m ρ S → (∃ S1, ft P ρ S = .ok false S1 ∧ Dn ρ S1) ∨ ∃ S1 ρ2 S2, ft P ρ S = .ok true S1 ∧ fb P ρ S1 = .nx ρ2 S2 ∧ ∃ m', m' < m ∧ J m' ρ2 S2) → J m ρ S → ∃ ρ' S', whileGo ft fb P n ρ S = .nx ρ' S' ∧ Dn ρ' S'
  | 0, m, ρ, S, h, _, _ => absurd h (Nat.not_lt_zero _)
  | n + 1, m, ρ, S, h, st, hJ => by
    rcases st m ρ S hJ with ⟨S1, e1, d⟩ | ⟨S1, ρ2, S2, e1, e2, m', hm, hJ2⟩
    · exact ⟨ρ, S1, by simp [whileGo, e1, R.oc], d⟩
    · obtain ⟨ρ', S', e3, d⟩ := while_inv J Dn n m' ρ2 S2 (by omega) st hJ2
      exact ⟨ρ', S', by simp [whileGo, e1, e2, e3, R.oc], d⟩
theorem lt_bigN {m : Nat} (h : m < 10 ^ 100) : m < bigN := Nat.lt_of_lt_of_le h (Nat.pow_le_pow_right (by decide) (by decide))
theorem sub_str (P S : List O) {s : Tx} {r : Int} (h0 : 0 ≤ r) (h1 : r < s.length) : ∃ c, c ∈ s ∧ s[r.toNat]? = some c ∧ subG (.t (.str s)) (.t (.int r)) P S = some (.t (.str [c]), S) := by
  have hl : r.toNat < s.length := by omega
  refine ⟨s[r.toNat], List.getElem_mem hl, List.getElem?_eq_getElem hl, ?_⟩
  simp [subG, seqIx, L2.atI, L2.ixN, h0, h1, hl]
theorem sub_lst (P S : List O) {l : List T} {r : Int} (h0 : 0 ≤ r) (h1 : r < l.length) : ∃ x, x ∈ l ∧ l[r.toNat]? = some x ∧ subG (.t (.lst l)) (.t (.int r)) P S = some (.t x, S) := by
  have hl : r.toNat < l.length := by omega
  refine ⟨l[r.toNat], List.getElem_mem hl, List.getElem?_eq_getElem hl, ?_⟩
  simp [subG, seqIx, L2.atI, L2.ixN, h0, h1, hl]
theorem rngOf_mem {i j : Int} {d : D} (h : d ∈ rngOf i j) : ∃ k : Int, d = .t (.int k) ∧ i ≤ k ∧ k < j := by
  obtain ⟨k, hk, rfl⟩ := List.mem_map.mp h
  have := List.mem_range.mp hk
  exact ⟨_, rfl, by omega, by omega⟩
theorem rngOf_len (i j : Int) : (rngOf i j).length = (j - i).toNat := by
  unfold rngOf
  rw [List.length_map, List.length_range]
theorem rngOf_at {i j : Int} {k : Nat} {d : D} (h : (rngOf i j)[k]? = some d) : d = .t (.int (i + k)) ∧ (k : Int) < j - i := by
  unfold rngOf at h
  rw [List.getElem?_map] at h
  cases e : (List.range (j - i).toNat)[k]? with
  | none => rw [e] at h; cases h
  | some x =>
    rw [e] at h
    cases h
    obtain ⟨h1, h2⟩ := List.getElem?_eq_some_iff.mp e
    rw [List.length_range] at h1
    rw [List.getElem_range] at h2
    exact ⟨by rw [h2], by omega⟩
theorem rng1_ok {j : Int} (h : -(2 ^ 62) ≤ j ∧ j ≤ 16777216) : rng1Of [.t (.int j)] = some (rngOf 0 j) := if_pos h
theorem join_one (cs : List Nat) : joinTx [] (cs.map fun c => [c]) = cs := by
  induction cs with
  | nil => rfl
  | cons c r ih =>
    cases r with
    | nil => rfl
    | cons d r =>
      rw [List.map_cons, List.map_cons, joinTx]
      rw [List.map_cons] at ih
      rw [ih]; rfl
theorem join_ok (P S : List O) (cs : List Nat) (h : cs.length ≤ 16777216) : joinG (.t (.str [])) [.t (.lst (cs.map fun c => T.str [c]))] P S = some (.t (.str cs), S) := by
  have e : strsOf (cs.map fun c => T.str [c]) = some (cs.map fun c => [c]) := strsOf_mapf (fun c => [c]) cs
  have hl : ((cs.map fun c => [c]).map List.length).sum = cs.length := by
    clear h e
    induction cs with
    | nil => rfl
    | cons c r ih => rw [List.map_cons, List.map_cons, List.sum_cons, ih, List.length_cons]; simp; omega
  unfold joinG
  simp only [e, hl]
  rw [if_pos (show cs.length + (cs.map fun c => [c]).length * ([] : Tx).length ≤ sizeLine by simp; exact h), join_one]
theorem sIx_pos {n d : Nat} {i : Int} (h : 0 ≤ i) : HT.sIx n d (some i) = min i.toNat n := by
  obtain ⟨k, rfl⟩ : ∃ k : Nat, i = k := ⟨i.toNat, by omega⟩
  exact HT.sIx_nat n d k
theorem cutL_to {α : Type} (l : List α) {j : Int} (h : 0 ≤ j) : cutL l none (some j) = l.take j.toNat := by
  unfold cutL
  rw [HT.sIx_none, sIx_pos h, List.drop_zero, Nat.sub_zero]
  by_cases c : j.toNat ≤ l.length
  · rw [Nat.min_eq_left c]
  · rw [Nat.min_eq_right (by omega), List.take_of_length_le (Nat.le_refl _), List.take_of_length_le (by omega)]
theorem cutL_mid {α : Type} (l : List α) {i j : Int} (hi : 0 ≤ i) (h : 0 ≤ j) : cutL l (some i) (some j) = (l.drop i.toNat).take (j.toNat - i.toNat) := by
  unfold cutL
  rw [sIx_pos hi, sIx_pos h]
  by_cases c1 : i.toNat ≤ l.length
  · rw [Nat.min_eq_left c1]
    by_cases c : j.toNat ≤ l.length
    · rw [Nat.min_eq_left c]
    · rw [Nat.min_eq_right (by omega), List.take_of_length_le (by rw [List.length_drop]; omega), List.take_of_length_le (by rw [List.length_drop]; omega)]
  · rw [Nat.min_eq_right (by omega : l.length ≤ i.toNat), List.drop_of_length_le (Nat.le_refl _), List.drop_of_length_le (by omega)]
    simp
theorem cutL_from {α : Type} (l : List α) {i : Int} (hi : 0 ≤ i) : cutL l (some i) none = l.drop i.toNat := by
  unfold cutL
  rw [sIx_pos hi, HT.sIx_none]
  by_cases c1 : i.toNat ≤ l.length
  · rw [Nat.min_eq_left c1, List.take_of_length_le (by rw [List.length_drop]; omega)]
  · rw [Nat.min_eq_right (by omega : l.length ≤ i.toNat), List.drop_of_length_le (Nat.le_refl _), List.drop_of_length_le (by omega)]
    simp
@[simp] theorem cs_nil : cs "" = [] := rfl
theorem trees_mapF {α : Type} (F : α → T) (l : List α) : trees (l.map fun x => D.t (F x)) = some (l.map F) := by
  have := trees_map (l.map F)
  rw [List.map_map] at this
  exact this
/-! ### calls seen from without -/
theorem pureZ_t {g : MF} {ds : List D} {P S S' : List O} {x : T} (h : g ds (P ++ S) [] = .ok (.t x) S') : pureZ g ds P S = .ok (.t x) S := by
  simp [pureZ, h, frzD]
theorem newF_l {g : MF} {ds : List D} {P S S' : List O} {l : List D} {ts : List T} {i : Nat} (h : g ds (P ++ S) [] = .ok (.ref i) S') (hi : (P ++ S).length ≤ i) (hS : S'[i - (P ++ S).length]? = some (.lst l)) (ht : trees l = some ts) : newF g ds P S = .ok (.ref (P.length + S.length)) (S ++ [.lst l]) := by
  unfold newF
  rw [h]
  simp only
  rw [if_pos hi, hS]
  simp only [ht]
/-! ### letters -/
@[simp] theorem isi_tree (x : T) (n : String) (P S : List O) : isiG [.t x, .t (.ty n)] P S = (if x.plain then (isiB x n).map T.bl else none).map fun z => (.t z, S) := rfl
@[simp] theorem len_str (s : Tx) (P S : List O) : lenG [.t (.str s)] P S = some (.t (.int s.length), S) := rfl
@[simp] theorem len_lst (l : List T) (P S : List O) : lenG [.t (.lst l)] P S = some (.t (.int l.length), S) := rfl
@[simp] theorem len_scr (l : List Int) (P S : List O) : lenG [.t (.scr l)] P S = some (.t (.int l.length), S) := rfl
@[simp] theorem len_tup (l : List T) (P S : List O) : lenG [.t (.tup l)] P S = some (.t (.int l.length), S) := rfl
@[simp] theorem isiB_lst (l : List T) (n : String) : isiB (.lst l) "list" = some true := rfl
@[simp] theorem plain_str (s : Tx) : (T.str s).plain = true := rfl
@[simp] theorem plain_int (i : Int) : (T.int i).plain = true := rfl
@[simp] theorem plain_bl (i : Bool) : (T.bl i).plain = true := rfl
@[simp] theorem plain_non : T.non.plain = true := rfl
@[simp] theorem plain_lst (l : List T) : (T.lst l).plain = T.plains l := rfl
@[simp] theorem plain_tup (l : List T) : (T.tup l).plain = T.plains l := rfl
/-! ### sets of texts -/
theorem nodup_sort {a b : List Tx} (ha : a.Nodup) (hb : b.Nodup) (h : ∀ x, x ∈ a ↔ x ∈ b) : sortTx a = sortTx b := sortTx_of_perm ((List.perm_ext_iff_of_nodup ha hb).mpr h)
/-- the texts of a list, ascending, each once -/
def setTx (l : List Tx) : List Tx := sortTx (onceM l)
theorem setTx_of {a l : List Tx} (ha : a.Nodup) (h : ∀ x, x ∈ a ↔ x ∈ l) : sortTx a = setTx l := nodup_sort ha (onceM_nodup l) fun x => (h x).trans (onceM_mem x l).symm
theorem keys_nodup {a : List Tx} (h : a.Nodup) (k : Tx) : (if k ∈ a then a else a ++ [k]).Nodup := by
  split
  · exact h
  · rename_i c
    rw [List.nodup_append]
    refine ⟨h, by simp, fun x hx y hy => ?_⟩
    rw [List.mem_singleton.mp hy]
    rintro rfl
    exact c hx
theorem keys_mem (a : List Tx) (k x : Tx) : x ∈ (if k ∈ a then a else a ++ [k]) ↔ x ∈ a ∨ x = k := by
  split
  · rename_i c
    constructor
    · exact .inl
    · rintro (h | rfl)
      · exact h
      · exact c
  · simp
theorem keys_tr {α : Type} {d : List (At × α)} {a : List Tx} (h : d.map (·.1) = a.map At.str) : (d.map fun p => p.1.tr) = a.map T.str := by
  have : (d.map fun p => p.1.tr) = (d.map (·.1)).map At.tr := by rw [List.map_map]; rfl
  rw [this, h, List.map_map]; rfl
open Classical in
theorem sort_dic {P S : List O} {d : List (At × T)} {a : List Tx} (h : d.map (·.1) = a.map At.str) : sortIn P S (.t (.dic d)) = some ((sortTx a).map T.str) := by
  have ok := sortOk_strs a
  have e := keys_tr h
  unfold sortIn
  simp only
  rw [e, if_pos ok, sortL_str]
open Classical in
theorem sort_cell {P S : List O} {d : List (At × D)} {a : List Tx} {i : Nat} (hi : (P ++ S)[i]? = some (.dic d)) (h : d.map (·.1) = a.map At.str) : sortIn P S (.ref i) = some ((sortTx a).map T.str) := by
  have ok := sortOk_strs a
  have e := keys_tr h
  unfold sortIn
  simp only [hi]
  rw [e, if_pos ok, sortL_str]
theorem isi_strs (l : List Tx) : T.plains (l.map T.str) = true := by simp [T.plain]
theorem strs_at' {ws : List Tx} {k : Nat} {P S : List O} (h : k < ws.length) : subG (.t (.lst (ws.map T.str))) (.t (.int k)) P S = some (.t (.str (ws[k]'h)), S) := by
  obtain ⟨x, _, x2, x3⟩ := sub_lst P S (l := ws.map T.str) (r := k) (by omega) (by simp; exact h)
  rw [x3]
  simp [h] at x2
  rw [← x2]
end Fm

/-! Pl3: plain rules for FmD, FmE, FmG. -/
namespace Fm
open PySem PySem.Spec PyProof.Rows L2
section
variable (P : List O) (ρ : En) (S : List O)
@[simp] theorem e_get2 (fo fk fx : ME) : mGet2 fo fk fx P ρ S = (fo P ρ S).bind fun d S1 => if isDic d P S1 then (fk P ρ S1).bind fun k S2 => (fx P ρ S2).bind fun x S3 => match k with
  | .ref _ => .no
  | .t k => match dGet P S3 d k with
    | some r => .ok (r.getD x) S3
    | none => .no
  else .no := rfl
@[simp] theorem e_dic1 (fin : List (At × D) → List O → List O → R D) (fk fv : ME) : mDic1 fin fk fv P ρ S = (fk P ρ S).nx.bind fun k S1 => (fv P ρ S1).nx.bind fun y S2 => match k with
  | .ref _ => .no
  | .t k => match k.at with
    | some k => fin [(k, y)] P S2
    | none => .no := rfl
@[simp] theorem e_dicZ (neg : Bool) (fa : ME) : mDicZ neg fa P ρ S = (fa P ρ S).bind fun d S1 => match dLen P S1 d with
  | some n => .ok (.t (.bl (neg ^^ (n == 0)))) S1
  | none => .no := rfl
@[simp] theorem e_forK (i : Nat) (g : MG) (fb : MS) : sForK i g fb P ρ S = (match ρ[i]? with
  | some (some (.t (.dic l))) => if l.length ≤ sizeLine then (forGo g fb P (keysD l) ρ S).noex else .no
  | _ => .no) := rfl
@[simp] theorem e_frz (i : Nat) : sFrz i P ρ S = (match ρ[i]? with
  | some (some d) => match frzD P d S with
    | some (d', S') => .nx (ρ.set i (some d')) S'
    | none => .no
  | _ => .no) := rfl
@[simp] theorem e_frzZ (z : FZ) (i : Nat) : sFrzZ z i P ρ S = (match ρ[i]? with
  | some (some d) => match z P d S with
    | some (d', S') => .nx (ρ.set i (some d')) S'
    | none => .no
  | _ => .no) := rfl
@[simp] theorem e_augI (i : Nat) (f : Int → Int → Int) (fe : ME) : sAugI i f fe P ρ S = (match ρ[i]? with
  | some (some (.t (.int x))) => (fe P ρ S).oc ρ fun y S1 => match y with
    | .t (.int y) => .nx (ρ.set i (some (.t (.int (f x y))))) S1
    | _ => .no
  | _ => .no) := rfl
@[simp] theorem e_finDC (r : List (At × D)) : finDC r P S = .ok (.ref (P.length + S.length)) (S ++ [.dic r]) := rfl
@[simp] theorem e_finD (r : List (At × D)) : finD r P S = (match treesK r with | some ts => .ok (.t (.dic ts)) S | none => .no) := rfl
end
@[simp] theorem min2X_int (i j : Int) : min2X [.int i, .int j] = some (.int (if j < i then j else i)) := rfl
@[simp] theorem min2X_str (i j : Tx) : min2X [.str i, .str j] = some (.str (if j < i then j else i)) := rfl
end Fm

/-! Pl4: loops that may return. -/
namespace Fm
open PySem PySem.Spec PyProof.Rows L2
theorem for_ret {g : MG} {fb : MS} {P : List O} (J : Nat → En → List O → Prop) (Dn : D → List O → Prop) : ∀ (ds : List D) (i : Nat) (ρ : En) (S : List O),
    (∀ k d ρ S, ds[k]? = some d → J (i + k) ρ S → ∃ ρ1, g d ρ = some ρ1 ∧ ((∃ ρ2 S2, fb P ρ1 S = .nx ρ2 S2 ∧ J (i + k + 1) ρ2 S2) ∨ ∃ r S2, fb P ρ1 S = .rt r S2 ∧ Dn r S2)) → J i ρ S →
    (∃ ρ' S', forGo g fb P ds ρ S = .nx ρ' S' ∧ J (i + ds.length) ρ' S') ∨ ∃ r S', forGo g fb P ds ρ S = .rt r S' ∧ Dn r S'
  | [], i, ρ, S, _, h => .inl ⟨ρ, S, rfl, h⟩
  | d :: ds, i, ρ, S, st, h => by
    obtain ⟨ρ1, e1, h2⟩ := st 0 d ρ S rfl h
    rcases h2 with ⟨ρ2, S2, e2, h2⟩ | ⟨r, S2, e2, h2⟩
    · rcases for_ret J Dn ds (i + 1) ρ2 S2 (fun k d ρ S hk hJ => by
        have := st (k + 1) d ρ S (by simpa using hk) (by rw [show i + (k + 1) = i + 1 + k by omega]; exact hJ)
        rw [show i + (k + 1) + 1 = i + 1 + k + 1 by omega] at this
        exact this) h2 with ⟨ρ', S', e3, h3⟩ | ⟨r, S', e3, h3⟩
      · refine .inl ⟨ρ', S', by simp [forGo, e1, e2, e3], ?_⟩
        rw [List.length_cons, show i + (ds.length + 1) = i + 1 + ds.length by omega]; exact h3
      · exact .inr ⟨r, S', by simp [forGo, e1, e2, e3], h3⟩
    · exact .inr ⟨r, S2, by simp [forGo, e1, e2], h2⟩
@[simp] theorem len_dic (l : List (At × T)) (P S : List O) : lenG [.t (.dic l)] P S = some (.t (.int l.length), S) := rfl
theorem eqV_cell {neg : Bool} {P S : List O} {i : Nat} {ws : List Tx} (h : (P ++ S)[i]? = some (.lst (ws.map fun x => D.t (.str x)))) : eqVG neg (.ref i) (.t (.lst [])) P S = some (.t (.bl (neg ^^ decide (ws = []))), S) := by
  have e1 : viewT P S (.ref i) = some (.lst (ws.map T.str)) := by
    unfold viewT
    simp only [h]
    rw [trees_mapF T.str ws]; rfl
  have hl : (T.lst (ws.map T.str)).low = true := by
    unfold T.low
    apply decide_eq_true
    show (PySem.PyData.list (T.pds (ws.map T.str))).depth ≤ 40
    rw [pds_map]
    have := depth_strs ws
    have e : (ws.map fun x => (T.str x).pd) = ws.map fun y => PySem.PyData.str (sv y) := rfl
    rw [e]
    simp only [PySem.PyData.depth]
    omega
  unfold eqVG
  rw [e1]
  show (if (T.lst (ws.map T.str)).plain && (T.lst []).plain && (T.lst (ws.map T.str)).low then _ else _) = _
  rw [hl, show (T.lst (ws.map T.str)).plain = true from isi_strs ws]
  show some (D.t (T.bl (neg ^^ T.eqv _ _)), S) = _
  cases ws <;> rfl
end Fm

/-! Df: a def that returns -/
namespace Fm
open PySem PySem.Spec PyProof.Rows L2
theorem def_rt {n : Nat} {fb : MS} {ds : List D} {P S S' : List O} {d : D} (h : fb P (ds.map some ++ List.replicate (n - ds.length) none) S = .rt d S') : mDef n fb ds P S = .ok d S' := by
  rw [e_def, h]
theorem set_ok {i : Nat} {f : ME} {P : List O} {ρ : En} {S S' : List O} {d : D} (h : f P ρ S = .ok d S') : sSet i f P ρ S = .nx (ρ.set i (some d)) S' := by
  rw [e_set, h]; rfl
theorem ret_ok {f : ME} {P : List O} {ρ : En} {S S' : List O} {d : D} (h : f P ρ S = .ok d S') : sRet f P ρ S = .rt d S' := by
  rw [e_ret, h]; rfl
theorem for_ok {fi : MI} {g : MG} {fb : MS} {P : List O} {ρ : En} {S S1 : List O} {ds : List D} {r : Oc} (h : fi P ρ S = .ok ds S1) (h2 : forGo g fb P ds ρ S1 = r) : sFor fi g fb P ρ S = r := by
  rw [e_for, h]; exact h2
theorem if_nx {ft : MT} {f g : MS} {P : List O} {ρ : En} {S S1 : List O} {b : Bool} {r : Oc} (h : ft P ρ S = .ok b S1) (h2 : (if b then f P ρ S1 else g P ρ S1) = r) : sIf ft f g P ρ S = r := by
  rw [e_sif, h]; exact h2
theorem seq_rt {a b : MS} {P : List O} {ρ : En} {S S' : List O} {d : D} (h : a P ρ S = .rt d S') : sSeq a b P ρ S = .rt d S' := by
  rw [e_seq, h]; rfl
theorem seq_nx' {a b : MS} {P : List O} {ρ ρ' : En} {S S' : List O} {r : Oc} (h : a P ρ S = .nx ρ' S') (h2 : b P ρ' S' = r) : sSeq a b P ρ S = r := by
  rw [e_seq, h]; exact h2
@[simp] theorem e_forS (f : T → Option (List D)) (i : Nat) (g : MG) (fb : MS) (P : List O) (ρ : En) (S : List O) : sForS f i g fb P ρ S = (match ρ[i]? with
  | some (some (.t x)) => match f x with
    | some l => (forGo g fb P l ρ S).noex
    | none => .no
  | _ => .no) := rfl
@[simp] theorem e_dit1 (fk fv : ME) (P : List O) (ρ : En) (S : List O) : mDit1 fk fv P ρ S = (fk P ρ S).nx.bind fun k S1 => (fv P ρ S1).nx.bind fun y S2 => match k with
  | .ref _ => .no
  | .t k => match k.tat with
    | some ks => .ok (.ref (P.length + S2.length)) (S2 ++ [.dit [(ks, y)]])
    | none => .no := rfl
@[simp] theorem e_forC (i : Nat) (g : MG) (fb : MS) (P : List O) (ρ : En) (S : List O) : sForC i g fb P ρ S = (match ρ[i]? with
  | some (some (.ref j)) => match (P ++ S)[j]? with
    | some (.lst l) => forCo g fb P j l l ρ S
    | _ => .no
  | _ => .no) := rfl
@[simp] theorem e_par4 (i j l m : Nat) (fs : MA) (P : List O) (ρ : En) (S : List O) : sPar4 i j l m fs P ρ S = (fs P ρ S).oc ρ fun ds S1 => match ds with
  | [u, v, w, x] => .nx ((((ρ.set i (some u)).set j (some v)).set l (some w)).set m (some x)) S1
  | _ => .no := rfl
theorem keep_ok {g : MF} {ds : List D} {P S S1 X : List O} {x : T} (h : g ds P S = .ok (.t x) (S1 ++ X)) (hl : S1.length = S.length) (hf : S1.all O.flat = true) : keepF g ds P S = .ok (.t x) S1 := by
  unfold keepF
  rw [h]
  simp only
  rw [← hl, List.take_left' rfl, if_pos ⟨by rw [List.length_append]; omega, hf⟩]
end Fm

/-! Tm: rules as terms; depth of trees; great letters -/
namespace Fm
open PySem PySem.Spec PyProof.Rows L2
section
variable {P : List O} {ρ : En} {S S1 S2 S3 S4 : List O}
theorem x_cons {f : ME} {g : MA} {d : D} {ds : List D} (h1 : f P ρ S = .ok d S1) (h2 : g P ρ S1 = .ok ds S2) : mCons f g P ρ S = .ok (d :: ds) S2 := by
  rw [e_cons, h1, R.bind_ok, h2, R.bind_ok]
theorem x_call {g : MF} {fs : MA} {ds : List D} {d : D} (h1 : fs P ρ S = .ok ds S1) (h2 : g ds P S1 = .ok d S2) : mCall g fs P ρ S = .ok d S2 := by
  rw [e_call, h1, R.bind_ok, h2, nx_ok]
theorem x_op2 {g : F2} {fa fb : ME} {x y d : D} (ha : fa P ρ S = .ok x S1) (hb : fb P ρ S1 = .ok y S2) (h : g x y P S2 = some (d, S3)) : mOp2 g fa fb P ρ S = .ok d S3 := by
  rw [e_op2, ha, R.bind_ok, hb, R.bind_ok, h, lift_some]
theorem x_T2 {g : T → T → Option T} {fa fb : ME} {x y v : T} (ha : fa P ρ S = .ok (.t x) S1) (hb : fb P ρ S1 = .ok (.t y) S2) (h : g x y = some v) : mOp2 (lT2 g) fa fb P ρ S = .ok (.t v) S2 :=
  x_op2 ha hb (by rw [lT2_t, h]; rfl)
theorem x_tup {fs : MA} {ts : List T} (h : fs P ρ S = .ok (ts.map D.t) S1) (hl : ts.length ≤ 16777216) : mTup fs P ρ S = .ok (.t (.tup ts)) S1 := by
  rw [e_tup, h, R.bind_ok, trees_map]; exact if_pos (by rw [szl]; exact hl)
theorem x_lst {fs : MA} {ts : List T} (h : fs P ρ S = .ok (ts.map D.t) S1) (hl : ts.length ≤ 16777216) : mLst fs P ρ S = .ok (.t (.lst ts)) S1 := by
  rw [e_lst, h, R.bind_ok, trees_map]; exact if_pos (by rw [szl]; exact hl)
theorem x_B {g : FL} {fs : MA} {ds : List D} {d : D} (h : fs P ρ S = .ok ds S1) (hg : g ds P S1 = some (d, S2)) : mCallB g fs P ρ S = .ok d S2 := by
  rw [e_callB, h, R.bind_ok, hg, lift_some]
theorem x_B1 {h : List T → Option T} {f : ME} {x v : T} (hf : f P ρ S = .ok (.t x) S1) (hg : h [x] = some v) : mCallB (lTL h) (mCons f mNil) P ρ S = .ok (.t v) S1 :=
  x_B (x_cons hf rfl) (by rw [lTL_one, hg]; rfl)
theorem x_B2 {h : List T → Option T} {f g : ME} {x y v : T} (hf : f P ρ S = .ok (.t x) S1) (hg' : g P ρ S1 = .ok (.t y) S2) (hg : h [x, y] = some v) : mCallB (lTL h) (mCons f (mCons g mNil)) P ρ S = .ok (.t v) S2 :=
  x_B (x_cons hf (x_cons hg' rfl)) (by rw [lTL_two, hg]; rfl)
theorem x_meth {kd : Kd} {g : FM} {fo : ME} {fs : MA} {d r : D} {ds : List D} (h : fo P ρ S = .ok d S1) (k : kd d P S1 = true) (ha : fs P ρ S1 = .ok ds S2) (hg : g d ds P S2 = some (r, S3)) : mMeth kd g fo fs P ρ S = .ok r S3 := by
  rw [e_meth, h, R.bind_ok, if_pos k, ha, R.bind_ok, hg, lift_some]
theorem x_Tt {f : ME} {b : Bool} (h : f P ρ S = .ok (.t (.bl b)) S1) : mT f P ρ S = .ok b S1 := by
  rw [e_T, h]; rfl
theorem x_Bt {f : ME} {b : Bool} (h : f P ρ S = .ok (.t (.bl b)) S1) : mB f P ρ S = .ok b S1 := by
  rw [e_B, h]; rfl
theorem x_notT {f : MT} {b : Bool} (h : f P ρ S = .ok b S1) : mNotT f P ρ S = .ok (!b) S1 := by
  rw [e_notT, h]; rfl
theorem x_not {f : ME} {b : Bool} (h : f P ρ S = .ok (.t (.bl b)) S1) : mNot f P ρ S = .ok (.t (.bl (!b))) S1 := by
  rw [e_not, h]; rfl
theorem x_orT0 {f g : MT} {b : Bool} (h : f P ρ S = .ok false S1) (h2 : g P ρ S1 = .ok b S2) : mOrT f g P ρ S = .ok b S2 := by
  rw [e_orT, h, R.bind_ok, if_neg Bool.false_ne_true, h2]
theorem x_and1 {f g : ME} {d : D} (h : f P ρ S = .ok (.t (.bl true)) S1) (h2 : g P ρ S1 = .ok d S2) : mAnd f g P ρ S = .ok d S2 := by
  rw [e_and, h, R.bind_ok]; exact h2
theorem x_and0 {f g : ME} (h : f P ρ S = .ok (.t (.bl false)) S1) : mAnd f g P ρ S = .ok (.t (.bl false)) S1 := by
  rw [e_and, h, R.bind_ok]; rfl
theorem x_if {ft : MT} {fa fb : ME} {b : Bool} {d : D} (h : ft P ρ S = .ok b S1) (h2 : (if b then fa P ρ S1 else fb P ρ S1) = .ok d S2) : mIf ft fa fb P ρ S = .ok d S2 := by
  rw [e_if, h, R.bind_ok]; exact h2
theorem x_callK {g : MF} {n m : Nat} {ix : List Nat} {fs fk : MA} {ds zs : List D} {d : D} (h1 : fs P ρ S = .ok ds S1) (h2 : fk P ρ S1 = .ok zs S2) (hn : ds.length = n ∧ zs.length = m) (h3 : g (pickI ix (ds ++ zs)) P S2 = .ok d S3) : mCallK g n m ix fs fk P ρ S = .ok d S3 := by
  rw [e_callK, h1, R.bind_ok, h2, R.bind_ok, if_pos hn, h3, nx_ok]
theorem x_I {g : List D → Option (List D)} {f : MA} {ds l : List D} (h : f P ρ S = .ok ds S1) (hg : g ds = some l) : mI g f P ρ S = .ok l S1 := by
  rw [e_I, h, R.bind_ok, hg]
theorem x_It {f : ME} {d : D} {l : List D} (h : f P ρ S = .ok d S1) (hg : itemsOf P d = some l) : mIt f P ρ S = .ok l S1 := by
  rw [e_it, h, R.bind_ok, hg]
theorem x_lc {fi : MI} {g : MG} {vs : List Nat} {ft : MT} {fe : ME} {ds : List D} {ts : List T} (h : fi P ρ S = .ok ds S1) (hl : lcGo g ft fe P (wipeE ρ vs) ds S1 = .ok (ts.map D.t) S2) : mLcG finT fi g vs ft fe P ρ S = .ok (.t (.lst ts)) S2 := by
  rw [e_lc, h, R.bind_ok, hl, R.bind_ok, e_finT, trees_map]
theorem x_lcC {fi : MI} {g : MG} {vs : List Nat} {ft : MT} {fe : ME} {ds r : List D} (h : fi P ρ S = .ok ds S1) (hl : lcGo g ft fe P (wipeE ρ vs) ds S1 = .ok r S2) : mLcG finC fi g vs ft fe P ρ S = .ok (.ref (P.length + S2.length)) (S2 ++ [.lst r]) := by
  rw [e_lc, h, R.bind_ok, hl, R.bind_ok, e_finC]
theorem x_expr {f : ME} {d : D} (h : f P ρ S = .ok d S1) : sExpr f P ρ S = .nx ρ S1 := by
  rw [e_expr, h]; rfl
theorem x_asg {g : MG} {f : ME} {d : D} {ρ1 : En} (h : f P ρ S = .ok d S1) (hg : g d ρ = some ρ1) : sAsg g f P ρ S = .nx ρ1 S1 := by
  rw [e_asg, h, R.oc_ok, hg]
theorem x_par2 {i j : Nat} {fs : MA} {u v : D} (h : fs P ρ S = .ok [u, v] S1) : sPar2 i j fs P ρ S = .nx ((ρ.set i (some u)).set j (some v)) S1 := by
  rw [e_par2, h]; rfl
theorem x_put {fo fi fe : ME} {v d i : D} (h1 : fe P ρ S = .ok v S1) (h2 : fo P ρ S1 = .ok d S2) (h3 : fi P ρ S2 = .ok i S3) (h4 : setG d i v P S3 = some S4) : sPut fo fi fe P ρ S = .nx ρ S4 := by
  rw [e_put, h1, R.oc_ok, h2, R.oc_ok, h3, R.oc_ok, h4]
theorem x_lT {f : ME} {x : T} {i : Nat} (h : f P ρ S = .ok (.t x) S1) : sSet i f P ρ S = .nx (ρ.set i (some (.t x))) S1 := set_ok h
end
/-! ### the last cell -/
section
variable (P S : List O)
theorem end_at (o : O) : (P ++ (S ++ [o]))[P.length + S.length]? = some o := by
  rw [← List.append_assoc, List.getElem?_append_right (by rw [List.length_append]; omega), List.length_append, Nat.sub_self]; rfl
theorem x_frz {ρ : En} {i : Nat} {d d' : D} {S' : List O} (h : ρ[i]? = some (some d)) (e : frzD P d S = some (d', S')) : sFrz i P ρ S = .nx (ρ.set i (some d')) S' := by
  rw [e_frz, h]
  simp only [e]
end
@[simp] theorem leT_str (i j : Tx) : leT (.str i) (.str j) = some (.bl (decide (i ≤ j))) := by
  unfold leT; rw [if_pos (show alk (.str i) (.str j) = true by rfl), lt_str']
  by_cases h : j < i
  · rw [decide_eq_true h, decide_eq_false (List.not_le.mpr h)]; rfl
  · rw [decide_eq_false h, decide_eq_true (List.not_lt.mp h)]; rfl
@[simp] theorem geT_str (i j : Tx) : geT (.str i) (.str j) = some (.bl (decide (j ≤ i))) := by
  unfold geT; rw [if_pos (show alk (.str i) (.str j) = true by rfl), lt_str']
  by_cases h : i < j
  · rw [decide_eq_true h, decide_eq_false (List.not_le.mpr h)]; rfl
  · rw [decide_eq_false h, decide_eq_true (List.not_lt.mp h)]; rfl
/-! ### depth -/
theorem dep_all : ∀ {l : List T} {n : Nat}, (∀ x ∈ l, x.pd.depth ≤ n) → PyData.depthAll (T.pds l) ≤ n
  | [], _, _ => Nat.zero_le _
  | x :: l, n, h => by
    show PyData.depthAll (x.pd :: T.pds l) ≤ n
    rw [PyData.depthAll]
    have h1 := h x List.mem_cons_self
    have h2 := dep_all fun y hy => h y (List.mem_cons_of_mem _ hy)
    omega
theorem dep_tup {l : List T} {n : Nat} (h : ∀ x ∈ l, x.pd.depth ≤ n) : (T.tup l).pd.depth ≤ n + 1 := by
  show (PyData.tuple (T.pds l)).depth ≤ n + 1
  have := dep_all h
  simp only [PyData.depth]
  omega
theorem dep_lst {l : List T} {n : Nat} (h : ∀ x ∈ l, x.pd.depth ≤ n) : (T.lst l).pd.depth ≤ n + 1 := by
  show (PyData.list (T.pds l)).depth ≤ n + 1
  have := dep_all h
  simp only [PyData.depth]
  omega
/-- data of little depth -/
def Dat (n : Nat) (x : T) : Prop := x.plain = true ∧ x.pd.depth ≤ n
theorem Dat.mono {n m : Nat} {x : T} (h : Dat n x) (k : n ≤ m) : Dat m x := ⟨h.1, Nat.le_trans h.2 k⟩
theorem dat_str {n : Nat} (s : Tx) (h : 1 ≤ n) : Dat n (.str s) := by
  have e : (T.str s).pd.depth ≤ 1 := by first | exact Nat.le_refl _ | simp [T.pd, PyData.depth]
  exact ⟨rfl, by omega⟩
theorem dat_int {n : Nat} (i : Int) (h : 1 ≤ n) : Dat n (.int i) := by
  have e : (T.int i).pd.depth ≤ 1 := by first | exact Nat.le_refl _ | simp [T.pd, PyData.depth]
  exact ⟨rfl, by omega⟩
theorem dat_bl {n : Nat} (i : Bool) (h : 1 ≤ n) : Dat n (.bl i) := by
  have e : (T.bl i).pd.depth ≤ 1 := by first | exact Nat.le_refl _ | simp [T.pd, PyData.depth]
  exact ⟨rfl, by omega⟩
theorem dat_tup {n : Nat} {l : List T} (h : ∀ x ∈ l, Dat n x) : Dat (n + 1) (.tup l) := ⟨(plains_iff l).mpr fun x hx => (h x hx).1, dep_tup fun x hx => (h x hx).2⟩
theorem dat_lst {n : Nat} {l : List T} (h : ∀ x ∈ l, Dat n x) : Dat (n + 1) (.lst l) := ⟨(plains_iff l).mpr fun x hx => (h x hx).1, dep_lst fun x hx => (h x hx).2⟩
theorem dat_strs {n : Nat} {l : List Tx} (h : 1 ≤ n) : ∀ x ∈ l.map T.str, Dat n x := fun x hx => by
  obtain ⟨s, _, rfl⟩ := List.mem_map.mp hx
  exact dat_str s h
theorem Dat.low {n : Nat} {x : T} (h : Dat n x) (k : n ≤ 40) : x.low = true := decide_eq_true (Nat.le_trans h.2 k)
/-! ### great letters -/
end Fm

set_option maxHeartbeats 4000000
/-! Xc1: errors of the package are made: super().__init__ with a text, then the value is kept. -/
namespace Fm
namespace Pe
open PySem PySem.W PySem.Calls PyProof.Rows PySem.HandSPX
def iA (p1 p2 : Pos) : Arguments := { posonlyargs := [], args := [{ arg := "self", annotation := none, pos := p1 }, { arg := "value", annotation := none, pos := p2 }], vararg := none, kwonlyargs := [], kw_defaults := [], kwarg := none, defaults := [] }
def iB (q1 q2 q3 q4 q5 q6 q7 q8 q9 q10 : Pos) (j : Nat) : List Stmt :=
  [.Expr (.Call (.Attribute (.Call (.Name "super" q1) [] [] q2) "__init__" q3) [.Constant (.str "surepieces") j q4] [] q5) q6, .Assign [.Attribute (.Name "self" q7) "value" q8] (.Name "value" q9) q10]
def iS : Scope := { kind := .function, names := [(Str.ofString "self", .local), (Str.ofString "value", .local), (Str.ofString "__class__", .free), (Str.ofString "super", .globalImplicit)], isGenerator := false, isCoroutine := false, more := [] }
theorem super_form {q1 q2 q3 q4 q5 : Pos} {j : Nat} {env : Env} (h : (q3.endLine == q5.line) = true) :
    eval (.Call (.Attribute (.Call (.Name "super" q1) [] [] q2) "__init__" q3) [.Constant (.str "surepieces") j q4] [] q5) env = (do
      let ov ← attributeBase (.Call (.Name "super" q1) [] [] q2) "__init__" env (eval (.Call (.Name "super" q1) [] [] q2) env)
      standAt q3.atName
      let (f, first) ← holding [ov] (getMethod ov "__init__" (do return (← importBound (.Call (.Name "super" q1) [] [] q2) env).getD true))
      callWith q5 f first (backTo q5 (starEach [.Constant (.str "surepieces") j q4] env)) []) := by
  show (do
    let ov ← attributeBase (.Call (.Name "super" q1) [] [] q2) "__init__" env (eval (.Call (.Name "super" q1) [] [] q2) env)
    standAt q3.atName
    methodCall (.Call (.Name "super" q1) [] [] q2) "__init__" q3 q5 env ov 1 (backTo q5 (starEach [.Constant (.str "surepieces") j q4] env)) []) = _
  have hf : methodCallForm 1 (backTo q5 (starEach [.Constant (.str "surepieces") j q4] env)) [] = true := rfl
  unfold methodCall
  simp only [hf, methodCallPos, h, Bool.not_true, Bool.false_or, if_true, pure_bind]
  rfl
/-- the def that makes them, at fI, of the class at D -/
structure PieceF (Pg : Program) (K : Frag) (D fI : Addr) : Prop where
  fn : ∃ (oc doc pm ct : Value) (od an : Option Addr) (osl : Array (Option Value)) (p1 p2 q1 q2 q3 q4 q5 q6 q7 q8 q9 q10 : Pos) (j : Nat) (cda cc : Addr),
    K.lookup fI = some ⟨oc, od, .func (ksFn "__init__" "PieceError.__init__" (iA p1 p2) (iB q1 q2 q3 q4 q5 q6 q7 q8 q9 q10 j) iS .none .none doc pm an (.ref cda) ct cc), osl⟩ ∧ codeIn K (.ref cda) "PieceError.__init__" = true ∧ (q3.endLine == q5.line) = true ∧
    (∃ (ccl : Value) (cdd : Option Addr) (ccs : Array (Option Value)) (vs : Array Value) (file : Str) (tf : Tok), K.lookup cda = some ⟨ccl, cdd, .fields vs, ccs⟩ ∧ vs[2]? = some (.str file tf) ∧ ((Pg.main.file : Str) == file) = true) ∧
    ∃ (cl : Value) (cld : Option Addr) (csl : Array (Option Value)), K.lookup cc = some ⟨cl, cld, .cell (some (.ref D)), csl⟩
  cls : ∃ cd, clsIn K D = some cd
  sup : nsIn K mainGlobals "super" = some none
  top : (Pg.main.scope.names.lookup ("super" : Str)).isSome = false
  opq : nsIn K cStatics "thirdparty.any" = some none
/-- one class of them, at C -/
structure PieceC (K : Frag) (D fI C : Addr) : Prop where
  cls : ∃ nm q N bs bm sn sub ab col dd k0 k1 k2 k3 k5, K.lookup C = some (excClassObj nm q C N bs bm true sn sub ab col dd k0 k1 k2 k3 k5 "ValueError.__new__") ∧ refsVE bm = true
  sa : findIn K (.ref C) "__setattr__" = some (some (.builtin "object.__setattr__"))
  noV : findIn K (.ref C) "value" = some none
  iC : findIn K (.ref C) "__init__" = some (some (.ref fI))
  tC : typeIn K (.ref fI) = some (.type "function")
  kC : keepIn K (.ref C) = true
  exC : subIn K (.ref C) (.type "BaseException") = some true
  tyC : typeIn K (.ref C) = some (.type "type")
  sub : mroIn K C (.ref D) = some true
  hm : ks_superIn K C D "__init__" = some (some (.builtin "ValueError.__init__"))
  hB : subIn K (.ref C) (.type "ValueError") = some true
theorem one_size (v : Value) : [v].length ≤ sizeLine := by
  rw [sizeLine_eq]
  exact (by decide : 1 ≤ 16777216)
/-- what the making leaves of a fresh one at x -/
structure InitEnd (h h' : Heap) (x C dx : Addr) (v : Value) : Prop where
  keep : ∀ b o, b ≠ x → h.get? b = some o → h'.get? b = some o
  obj : ∃ t1 : Addr, h'.get? x = some { cls := .ref C, dict := some dx, data := .fields #[.ref t1, .none, .none, .none, .bool false, .none] }
  dbig : h.objs.size ≤ dx
  dne : dx ≠ x
  ns : h'.Ns1 dx (fun y => if y = "value" then some v else none)
/-- a made one -/
structure OwnMade (h h' : Heap) (e C d : Addr) (v : Value) : Prop where
  keep : ∀ b o, h.get? b = some o → h'.get? b = some o
  new : h.objs.size ≤ e
  obj : ∃ t1 : Addr, h'.get? e = some { cls := .ref C, dict := some d, data := .fields #[.ref t1, .none, .none, .none, .bool false, .none] }
  dbig : h.objs.size ≤ d
  dne : d ≠ e
  ns : h'.Ns1 d (fun y => if y = "value" then some v else none)
section
variable {prog : Program} {w : World} {A : Around} {E : Value → Shared → Prop} {R : Result → Shared → Prop} {s : Shared} {K : Frag} {mg mb : Str → Option Value} {D C fI : Addr}
/-- super().__init__(..), its wrapper at u -/
theorem wrapper_call {u x : Addr} {as : List Value} {nm q : Str} {N : Addr} {bs bm : List Value} {sn : List Str} {sub : List Value} {ab : Bool} {col : Option Bool} {dd : Option Addr} {k0 k1 k2 k3 k5 : Option Value} {Q : Value → Shared → Prop} {t0 : Addr}
    (hC : s.heap.get? C = some (excClassObj nm q C N bs bm true sn sub ab col dd k0 k1 k2 k3 k5 "ValueError.__new__")) (hx : s.heap.get? x = some (excO C t0)) (hu : s.heap.get? u = some (kxs_mw "ValueError.__init__" x)) (hl : as.length ≤ sizeLine)
    (hq : ∀ h' t1, (∀ b o, b ≠ x → s.heap.get? b = some o → h'.get? b = some o) → h'.get? x = some (excO C t1) → Q .none { s with heap := h' }) : wpAny (model prog w) A (call (.ref u) as) Q E s := by
  obtain ⟨hh, gs, dr, tk, os⟩ := s
  refine wpAny_call (codeAny_of_tree ?_); show wpAny _ A.in1 (callAny (.ref u) ⟨as, []⟩) _ _ _
  simp only [callAny]; refine wpAny_bind (wpAny_load hu ?_)
  simp only [kxs_mw, show ((Value.type "method-wrapper" == Value.type "method") || (Value.type "method-wrapper" == Value.type "builtin_function_or_method") || (Value.type "method-wrapper" == Value.type "method-wrapper")) = true by decide, if_true]
  refine KFB.if_so (by decide) (wpAny_bind (check_bound_init F.excBase_ValueError.toExcCallFacts hC hx rfl (wpAny_bind (wpAny_pure (wpAny_pure ?_)))))
  refine ⟨plainId_quiet F.excBase_ValueError.init.plain _, codeAny_builtin F.excBase_ValueError.initEntry ?_⟩
  exact exc_init_tree (cls := .ref C) (t0 := t0) (dv := none) (c2 := .none) (c3 := .none) (b4 := .bool false) hx hl fun h' k e' _ => hq h' _ k e'
theorem piece_init (PF : PieceF prog K D fI) (T : PieceC K D fI C) {x t0 : Addr} {v : Value} (X : K.In s.heap) (G : s.heap.Ns mainGlobals mg) (B : s.heap.Ns builtinsNs mb) (hB : ∀ x : Str, x ≠ "__name__" → mb x = bootBuiltins x) (hlim : s.heap.NoLimit)
    (hx : s.heap.get? x = some (excO C t0)) (hnx : K.lookup x = none) (hroom : A.depth < recursionLimit) (hq : ∀ h' tk dx, InitEnd s.heap h' x C dx v → R (.ok (.ret .none)) { s with heap := h', toks := tk }) :
    codeAny (model prog w) A (.call (.ref fI) ⟨[.ref x, v], []⟩) R s := by
  obtain ⟨oc, doc, pm, ct, od, an, osl, p1, p2, q1, q2, q3, q4, q5, q6, q7, q8, q9, q10, j, cda, cc, ho, hcd, hln, ⟨ccl, cdd, ccs, vs, file, tf, hco, hvs, hfile⟩, cl, cld, csl, hcell⟩ := PF.fn
  obtain ⟨nm, q, N, bs, bm, sn, sub, ab, col, dd, k0, k1, k2, k3, k5, hC, hbm⟩ := T.cls
  have hcl : clsIn K C = some { name := nm, bases := bs, mro := .ref C :: bm, ns := N, qualname := q, hasDict := true, slotNames := sn, subclasses := sub, abstract := ab, collection := col, hasDel := false } := by unfold clsIn; rw [hC] <;> rfl
  obtain ⟨cdD, hD⟩ := PF.cls
  refine ks_codeAny_call_defAt (fd := ksFn "__init__" "PieceError.__init__" (iA p1 p2) (iB q1 q2 q3 q4 q5 q6 q7 q8 q9 q10 j) iS .none .none doc pm an (.ref cda) ct cc) (binds := [("self", .ref x), ("value", v)])
    hroom (X _ _ ho) rfl hlim (codeRec_of X hcd) rfl (BindsTo.of_eq (by first | rfl | with_unfolding_all rfl)) (show ∀ z ∈ iS.names, z.2 ≠ .cell by decide) (fun y hy => by simp only [List.mem_cons, List.not_mem_nil, or_false] at hy; rcases hy with rfl | rfl <;> rfl) (fun h₁ hns k => ?_) rfl rfl rfl
  have X1 : K.In h₁ := X.keeps k
  obtain ⟨oD, hD1, hD2⟩ : ∃ oD, h₁.get? D = some oD ∧ oD.data = .cls cdD := by
    unfold clsIn at hD
    split at hD
    · rename_i c d cd' sl hl; cases hD; exact ⟨_, X1 _ _ hl, rfl⟩
    · cases hD
  have hx1 := k _ _ hx
  have hxL : s.heap.objs.size ≠ x := Nat.ne_of_gt (Heap.lt_size hx)
  have hloc : ∀ {hh : Heap}, (∀ b o, b ≠ x → h₁.get? b = some o → hh.get? b = some o) → hh.Ns s.heap.objs.size (fun y => List.lookup y (List.reverse [(("self" : Str), Value.ref x), ("value", v)])) := fun {hh} kk => by
    obtain ⟨oL, es, ep, e1, r⟩ := hns
    exact ⟨oL, es, ep, kk _ _ hxL e1, r⟩
  have hne : x ≠ C := fun z => by
    have e := X1 _ _ hC
    rw [← z, hx1] at e; injection e with e; cases e
  refine ks_wpAt_execs_cons (ks_wpAt_Expr_any (ks_wpAt_MethodCall (he := super_form hln) ?_))
  refine ks_wpAt_super_base rfl rfl rfl rfl (X1 _ _ ho) rfl rfl rfl (X1 _ _ hco) rfl hvs hfile PF.top ?_
  refine ks_loadName_global rfl rfl (loadGlobal_builtin (G.keeps k) (mg_none_of X G PF.sup) (B.keeps k) ((hB _ (by decide)).trans (by first | boot_by_name | rfl | kernel_rfl)) ⟨rfl, ?_⟩)
  refine wpAny_loadName_free rfl rfl rfl ⟨_, X1 _ _ hcell, rfl⟩ (wpAny_loadName_local rfl rfl hns rfl (ks_wpAny_isType_cls hD1 hD2 ⟨rfl, ?_⟩))
  refine ks_wpAny_call_super hD1 hD2 hx1 rfl (fun c e => by cases e) (looks_mroIn X1 T.sub) fun h2 e2 kk2 => ?_
  have X2 : K.In h2 := X1.keeps kk2
  have hI : Looks (model prog w) h2 (isInstance (.ref x) (.type "ValueError")) true := (show InstAt h2 x (excO C t0) C none from ⟨kk2 _ _ hx1, rfl, rfl, trivial⟩).type.andThen (looks_subIn X2 T.hB)
  have hm := T.hm
  unfold ks_superIn at hm
  rw [hcl] at hm
  refine kxs_getMethod kxs_ValueError e2 (looks_opaque X2 PF.opq) (l₀ := .ref C :: bm) (fun A Q E s k q => wpAny_bind ((looks_clsIn X2 hcl) A _ E s k (wpAny_pure q))) rfl X2 hm hI hne (by decide) ?_
  refine kxs_callWith (i := "ValueError.__init__") (x := x) (by rfl) ?_
  refine evalArgs_plain (Calls.spliced_cons (Calls.Constant_str (k := j) (pos := q4) (Calls.spliced_nil ⟨Heap.get?_push_at rfl rfl, ?_⟩)))
  refine wrapper_call (C := C) (t0 := t0) (Heap.get?_push_of_some _ (X2 _ _ hC)) (Heap.get?_push_of_some _ (kk2 _ _ hx1)) (Heap.get?_push_at rfl rfl) (one_size _) fun h3 t1 kk3 e3 => ?_
  have k3 : ∀ b o, b ≠ x → h₁.get? b = some o → h3.get? b = some o := fun b o hb e => kk3 b o hb (Heap.get?_push_of_some _ (kk2 b o e))
  have X3 : K.In h3 := fun b o e => k3 b o (fun z => by rw [z, hnx] at e; cases e) (X1 b o e)
  have hn3 := hloc k3
  refine ks_wpAt_execs_cons (wpAt_of_wpAny (plainObj_wpAny_Assign_Attribute ?_))
  refine wpAny_Name (wpAny_loadName_local rfl rfl hn3 (v := v) rfl ?_) (by decide)
  refine wpAny_Name (wpAny_loadName_local rfl rfl hn3 (v := .ref x) rfl ?_) (by decide)
  refine set_plain X3 (ox := excO C t1) (od := none) ⟨e3, rfl, rfl, trivial⟩ T.sa ?_
  refine exc_osa X3 e3 hcl (show refsVE (.ref C :: bm) = true from hbm) rfl T.noV (fun h4 tk4 dx k4 dn dne hx4 hn4 => ?_)
  refine wpAt_of_wpAny (wpAny_execs_nil (hq h4 tk4 dx ⟨fun b o hb e => k4 b o hb (k3 b o hb (k b o e)), ⟨_, hx4⟩, ?_, dne, hn4⟩))
  have z3 : s.heap.objs.size < h3.objs.size := hn3.lt
  exact Nat.le_of_lt (Nat.lt_of_lt_of_le z3 dn)
theorem piece_made (PF : PieceF prog K D fI) (T : PieceC K D fI C) {v : Value} (X : K.In s.heap) (G : s.heap.Ns mainGlobals mg) (B : s.heap.Ns builtinsNs mb) (hB : ∀ x : Str, x ≠ "__name__" → mb x = bootBuiltins x) (hlim : s.heap.NoLimit)
    (hroom : A.depth + 1 < recursionLimit) (hq : ∀ h' tk e d, OwnMade s.heap h' e C d v → R (.ok (.ret (.ref e))) { s with heap := h', toks := tk }) :
    codeAny (model prog w) A (.call (.ref C) ⟨[v], []⟩) R s := by
  obtain ⟨nm, q, N, bs, bm, sn, sub, ab, col, dd, k0, k1, k2, k3, k5, hC, hbm⟩ := T.cls
  obtain ⟨hp, g, dr, tk, os⟩ := s
  have k : ∀ b o, hp.get? b = some o → ((hp.push (kdv_tup [v])).push (excO C hp.objs.size)).get? b = some o := fun b o e => Heap.get?_push_of_some _ (Heap.get?_push_of_some _ e)
  have hget : ((hp.push (kdv_tup [v])).push (excO C hp.objs.size)).get? (hp.objs.size + 1) = some (excO C hp.objs.size) := by heap_get
  have hnx : K.lookup (hp.objs.size + 1) = none := by
    cases e : K.lookup (hp.objs.size + 1) with
    | none => rfl
    | some o =>
      have z : hp.get? (hp.objs.size + 1) = some o := X _ _ e
      exact absurd (Nat.lt_of_succ_lt (Heap.lt_size z)) (Nat.lt_irrefl _)
  refine call_own F.excBase_ValueError (fun X => refsVE_contains X bm hbm) (X _ _ hC) (looks_findIn X T.iC) (fun self => bind_fn X self T.tC) (one_size v) ?_
  refine piece_init (s := ⟨(hp.push (kdv_tup [v])).push (excO C hp.objs.size), g, dr, tk, os⟩) PF T (X.keeps k) (G.keeps k) (B.keeps k) hB (hlim.keeps k) hget hnx ?_ fun h' tk' dx ⟨k', hx, dn, dne, hns⟩ => ?_
  · show A.depth + 1 < recursionLimit
    exact hroom
  · have old : ∀ b o, hp.get? b = some o → h'.get? b = some o := fun b o e => k' b o (Nat.ne_of_lt (Nat.lt_succ_of_lt (Heap.lt_size e))) (k b o e)
    have z : hp.objs.size + 1 + 1 ≤ dx := by
      first
        | (simpa only [Heap.size_push] using dn)
        | exact dn
        | (have q := dn; rw [Heap.size_push, Heap.size_push] at q; exact q)
    exact ⟨rfl, hq h' tk' (hp.objs.size + 1) dx ⟨old, Nat.le_succ _, hx, Nat.le_trans (Nat.le_trans (Nat.le_succ _) (Nat.le_succ _)) z, dne, hns⟩⟩
end
end Pe
end Fm

set_option maxHeartbeats 4000000
/-! Xc2: raising the package's errors; defs that may raise; their calls. -/
namespace Fm
open PySem PySem.Spec PyProof.Rows L2 Pe
/-- the dict that an error's value stands in -/
theorem xf_rel {v : V} {v' : Value} (r : RelV v v') (f : Str) : RelO (List.lookup f (xf v)) (if f = "value" then some v' else none) := by
  by_cases hw : f = "value"
  · subst hw
    rw [if_pos rfl, show List.lookup ("value" : Str) (xf v) = some v by simp [xf, List.lookup]]
    exact r
  · have qw : (f == ("value" : Str)) = false := by simpa using hw
    rw [if_neg hw, show List.lookup f (xf v) = none by simp [xf, List.lookup, qw]]
    trivial
section
variable {X : Cx} {D fI C : Addr}
/-- C(e), C a class of the package's errors -/
def tMkP (C : Addr) (ta : TA) : L2.St → Hp → XK → Prop := fun σ H Q => ta σ H fun vs H1 => ∃ v, vs = [v] ∧ ∀ d, H1 d = none → Q (.ref C) (some d) (upd H1 d (.xd (xf v)))
theorem pmk_piece {x : Str} {a : Expr} {ta : TA} {p pos : Pos} {k : Nat} (PF : PieceF X.prog X.K D fI) (T : PieceC X.K D fI C) (gC : X.mg x = some (.ref C)) (hr : Room (k + 1) X.A) (ha : PA X [a] ta) (hg : Gl X x) (hdb : (x == ("__debug__" : Str)) = false)
    (he : starEach (a :: []) X.env = (false, eval a X.env) :: starEach [] X.env := by rfl) (hpl : (backTo pos (starEach [] X.env)).any (·.1) = false := by rfl) :
    PMk X (.Call (.Name x p) [a] [] pos) (tMkP C ta) := by
  intro pins s σ H Q I h
  refine wpAny_Call_Name_kw (ld_glob I hg gC ?_ hdb)
  refine PySem.W.callWith_K (h₀ := X.base) I.ok.mod.kin T.kC (thn (ha.run pos pins s σ H _ I h) fun us s1 ⟨vs, H1, I1, r1, v, ev, q1⟩ => ?_) he hpl
  subst ev
  refine ⟨I1.kIn, ?_⟩
  cases r1 with
  | cons rv rn =>
    rename_i v' us'
    cases rn
    obtain ⟨mb, b1, b2⟩ := I1.mod.blt
    have hlim := I1.nolimit
    have hglob := I1.mod.glob.keeps I1.bk
    have hblt := b1.keeps I1.bk
    obtain ⟨hp, g, dr, tk, os⟩ := s1
    refine wpAny_call (piece_made PF T I1.kIn hglob hblt b2 hlim (by have := hr.dp; omega) fun h' tk' e d M => ?_)
    show MkP X pins σ Q (.ref e) ⟨h', g, dr, tk', os⟩
    obtain ⟨t1, hoe⟩ := M.obj
    have hns := M.ns
    obtain ⟨Hw, g1, g2⟩ := restrict h' fun b => decide (b ≠ e)
    have gk : ∀ b, b ≠ e → Hw.get? b = h'.get? b := fun b hb => g1 b (decide_eq_true hb)
    have ge : Hw.get? e = none := g2 e (by simp)
    have old : ∀ b o, hp.get? b = some o → Hw.get? b = some o := fun b o q => (gk b (Nat.ne_of_lt (Nat.lt_of_lt_of_le (Heap.lt_size q) M.new))).trans (M.keep b o q)
    have ob : ObjOk X.prog X.w (upd H1 d (.xd (xf v))) Hw d (.xd (xf v)) := ⟨_, hns.at (fun o q => (gk d M.dne).trans q), fun f => xf_rel rv f⟩
    have J : Inv X pins σ (upd H1 d (.xd (xf v))) ⟨Hw, g, dr, tk', os⟩ := I1.laid (t' := tk') old M.dbig ob
    refine ⟨e, _, _, ⟨Hw, g, dr, tk', os⟩, _, .ref C, some d, rfl, J, fun b o q => ?_, ge, hoe, ⟨rfl, rfl⟩, rfl, rfl, ?_, rfl, I1.bare, raises_own T.exC T.tyC, q1 d (I1.hok.fresh M.dbig)⟩
    · by_cases hb : b = e
      · have q' : Hw.get? b = some o := q
        rw [hb, ge] at q'; cases q'
      · exact (gk b hb).symm.trans q
    · rw [upd_ne (Ne.symm M.dne)]
      exact I1.hok.fresh M.new
end

/-! ### what is wished of an error, by its mirror -/
/-- at the slots that the mirror knows -/
def wOf (K : PySem.W.Frag) (Wl : L2.WX) : WX := fun x c S H => ∀ (σ : L2.St) (C d : Addr) (v : V), SimE K c H x.e σ → PySem.W.nsIn K mainGlobals x.c = some (some (.ref C)) → c.Z d → H d = some (.xd (xf v)) → RV K c.Z H x.v v → Wl (.ref C) (some d) σ H
/-- of a def -/
def wEx (K : PySem.W.Frag) (E : XK) : WX := fun x c S H => ∀ (C d : Addr) (v : V), PySem.W.nsIn K mainGlobals x.c = some (some (.ref C)) → c.Z d → H d = some (.xd (xf v)) → RV K c.Z H x.v v → E (.ref C) (some d) H
/-- the promise of a def that may raise -/
def spX (K : PySem.W.Frag) (n : Nat) (g : MF) : Sp := fun vs H Q E => vs.length = n ∧ ∃ c P S ds, Sim K P S c H ∧ RDs K c H ds vs ∧ Post K P c H (RD K) (g ds P S) (wEx K E) Q
/-- what the package's class of this name is -/
structure PieceX (X : Cx) (c : String) where
  D : Addr
  fI : Addr
  C : Addr
  PF : PieceF X.prog X.K D fI
  PC : PieceC X.K D fI C
  ns : PySem.W.nsIn X.K mainGlobals c = some (some (.ref C))
  mg : X.mg c = some (.ref C)
def sRaise (c : String) (fs : MA) : MS := fun P ρ S => (fs P ρ S).oc ρ fun ds S1 => match ds with
  | [.t x] => .ex ⟨c, x, ρ⟩ ρ S1
  | _ => .no
theorem pms_raise {X : Cx} {Wl : L2.WX} {c : String} {a : Expr} {fe : ME} {p pos pos2 : Pos} {k : Nat} (hc : X.calm = true) (tk : Takes X Wl) (T : PieceX X c) (hr : Room (k + 1) X.A) (ha : PM X (wOf X.K Wl) a fe) (hg : Gl X c) (hdb : ((c : Str) == ("__debug__" : Str)) = false := by decide)
    (he : starEach (a :: []) X.env = (false, eval a X.env) :: starEach [] X.env := by rfl) (hpl : (backTo pos (starEach [] X.env)).any (·.1) = false := by rfl) :
    PMS X (wOf X.K Wl) (.Raise (some (.Call (.Name c p) [a] [] pos)) none pos2) (sRaise c (mCons fe mNil)) := by
  have hA : PMA X (wOf X.K Wl) [a] (mCons fe mNil) := pma_cons ha pma_nil he
  refine ⟨ps_weak (ps_raise hc tk (pmk_piece T.PF T.PC T.mg hr hA.run hg hdb he hpl)) fun D σ H h => ?_⟩
  obtain ⟨c0, P, ρ, S, hE, hS, h⟩ := h
  refine tMA_oc hE hS h fun ds vs S1 c1 H1 e1 E1 s1 r1 h1 => ?_
  match ds, r1, h1 with
  | [.t x], .cons r .nil, h1 =>
    rename_i v
    refine ⟨v, rfl, fun d hd => ?_⟩
    have ev := Ev.alloc (o := .xd (xf v)) s1 hd
    have q := h1 (c1.zed d) (upd H1 d (.xd (xf v))) ev (Sim.alloc s1 hd)
    exact q σ T.C d v (E1.mono ev) T.ns (.inr rfl) upd_same (RV.mono ev.z ev.rd ev.rdD r)
  | [], _, h1 => exact h1.elim
  | [.ref _], _, h1 => exact h1.elim
  | .t _ :: _ :: _, _, h1 => exact h1.elim
  | .ref _ :: _ :: _, _, h1 => exact h1.elim

/-! ### calls of defs that may raise -/
def R.at {α : Type} (ρ : En) : R α → R α
  | .ex x S => .ex { x with e := ρ } S
  | r => r
@[simp] theorem R.at_ok {α : Type} (ρ : En) (a : α) (S : List O) : (R.ok a S).at ρ = .ok a S := rfl
@[simp] theorem R.at_ex {α : Type} (ρ : En) (x : Xv) (S : List O) : (R.ex x S : R α).at ρ = .ex { x with e := ρ } S := rfl
def mCallX (g : MF) (fs : MA) : ME := fun P ρ S => (fs P ρ S).bind fun ds S1 => (g ds P S1).at ρ
theorem Post.wex {α β : Type} {K : PySem.W.Frag} {P : List O} {c : Cf} {H : Hp} {rel : Cf → Hp → α → β → Prop} {r : R α} {Wl : L2.WX} {Q : β → Hp → Prop} {ρ : En} {σ : L2.St} (hE : SimE K c H ρ σ) (h : Post K P c H rel (r.at ρ) (wOf K Wl) Q) : Post K P c H rel r (wEx K (WE Wl σ)) Q := by
  cases r with
  | ok a S => exact h
  | no => exact h
  | ex x S => exact fun c' H' e s C d v n z hd rv => h c' H' e s σ C d v (hE.mono e) n z hd rv
theorem tCallX_of {X : Cx} {Wl : L2.WX} {n : Nat} {g : MF} {fs : MA} {σ : L2.St} {H : Hp} {Q : VK} (h : tM X.K (wOf X.K Wl) (mCallX g fs) σ H Q) (hn : Cnt n fs) : tCallS (spX X.K n g) (WE Wl) (tMA X.K (wOf X.K Wl) fs) σ H Q := by
  obtain ⟨c, P, ρ, S, hE, hS, h⟩ := h
  have hn' := fun ds S' => hn P ρ S ds S'
  refine ⟨c, P, ρ, S, hE, hS, ?_⟩
  unfold mCallX at h
  generalize fs P ρ S = r at h hn'
  cases r with
  | ok ds S1 =>
    intro c1 vs H1 e1 s1 r1
    exact ⟨by rw [← r1.len]; exact hn' ds S1 rfl, c1, P, S1, ds, s1, r1, Post.wex (hE.mono e1) (Post.ev hS.pl e1 h)⟩
  | ex x S' => exact h
  | no => exact h
section
variable {X : Cx} {Wl : L2.WX} {k n : Nat} {f : Addr} {fd : FuncData} {ps ks : List Str} {g : MF} {x : Str} {p pos : Pos} {e : Expr} {es : List Expr} {fs fk : MA} {kws : List Keyword}
theorem FnG.inS {Ct : CXT} {pr : Sp} {E : L2.St → XK} (F : FnG X.prog X.w X.K X.mg X.base Ct k f fd ps pr) (gd : X.A.guards = some []) (hr : Room k X.A) {pins : List (Addr × Obj)} {σ : L2.St} (hx : PassesAt Ct X σ (E σ)) {H : Hp} {sh : Shared} {Q : VK} {us ws : List Value} {kw : List (Str × Value)} {vs : List V}
    (I : Inv X pins σ H sh) (b : BindsTo sh fd ⟨us, kw⟩ (ps.zip ws)) (r : Vals vs ws) (h : pr vs H Q (E σ)) : wpAny (model X.prog X.w) X.A (call (.ref f) us kw) (EP X pins σ Q) X.xe sh := by
  refine wpAny_call (codeAny_mono (F.go X.A X.stack sh H ⟨us, kw⟩ ws vs Q (E σ) gd hr I.env0 b r h) fun rs sh' hq => ?_)
  match rs, hq with
  | .error er, hq => exact hx pins H sh er sh' I hq
  | .ok (.ret u), hq => exact I.after hq
  | .ok .next, hq => exact False.elim hq
  | .ok .brk, hq => exact False.elim hq
  | .ok .cont, hq => exact False.elim hq
theorem pmX_call (F : FnG X.prog X.w X.K X.mg X.base (L2.CX X.prog X.w) k f fd ps (spX X.K n g)) (gd : X.A.guards = some []) (hr : Room k X.A) (hg : Gl X x) (hm : X.mg x = some (.ref f)) (hk : PySem.W.keepIn X.K (.ref f) = true) (hb : Binds X.K fd ps []) (tk : Takes X Wl)
    (ha : PMA X (wOf X.K Wl) (e :: es) fs) (hc : Cnt n fs) (hdb : (x == ("__debug__" : Str)) = false := by decide) (he : starEach (e :: es) X.env = (false, eval e X.env) :: starEach es X.env := by rfl) (hpl : (backTo pos (starEach es X.env)).any (·.1) = false := by rfl) :
    PM X (wOf X.K Wl) (.Call (.Name x p) (e :: es) [] pos) (mCallX g fs) := by
  refine ⟨⟨fun pins sh σ H Q I h => ?_⟩⟩
  have q0 := tCallX_of h hc
  refine wpAny_Call_Name_kw (ld_glob I hg hm (PySem.W.callWith_K (h₀ := X.base) I.ok.mod.kin hk (thn (ha.run.run pos pins sh σ H _ I q0) fun us s2 ⟨vs, H2, I2, r2, q2⟩ => ⟨I2.kIn, ?_⟩) he hpl) hdb)
  have hl : (us ++ []).length = ps.length := by rw [List.append_nil, ← r2.length]; exact F.cnt _ _ _ _ q2
  have b := hb sh us
  have b2 := hb s2 us I2.kIn hl
  rw [List.append_nil] at b2
  exact FnG.inS (E := WE Wl) F gd hr (passAt tk σ) I2 b2 r2 q2
end
/-! ### a def that may raise, by its body -/
section
variable {Pg : Program} {wd : World} {Kf : PySem.W.Frag} {mods : Str → Option Value} {bs : Heap}
theorem fngX_ok {x qual : Str} {st : Stmt} {fa : Addr} {fdt : FuncData} {N ps : List Str} {k : Nat} {fb : MS} (F : L2.Fun Kf x qual st fa fdt) (Sc : FnScope N ps (defScope st))
    (hb : ∀ (cdv : Value) (A : Around) (outer : List Env) (s : Shared) (H : Hp) (E : XK), A.guards = some [] → Room k (A.deeper (envOfC qual (defScope st) s.heap.objs.size fa cdv)) →
      Takes (cxOf (L2.CX Pg wd) Pg wd Kf mods bs N qual (defScope st) fa cdv A outer s H E) (fun cls d _ H => E cls d H) →
      PMB (cxOf (L2.CX Pg wd) Pg wd Kf mods bs N qual (defScope st) fa cdv A outer s H E) (wOf Kf fun cls d _ H => E cls d H) (defBody st) fb) :
    FnG Pg wd Kf mods bs (L2.CX Pg wd) (k + 1) fa fdt ps (spX Kf ps.length (mDef N.length fb)) := by
  refine fng_of F Sc (fun vs H Q E h => h.1) fun cdv A outer s H vs Q E gd hr h => ?_
  obtain ⟨hn, c, P', S, ds, hS, r, h⟩ := h
  refine ⟨_, (hb cdv A outer s H E gd hr (takes_of rfl rfl rfl rfl)).run, c, P', _, S, simE_start r N, hS, ?_⟩
  unfold mDef at h
  generalize fb P' (ds.map some ++ List.replicate (N.length - ds.length) none) S = o at h
  match o, h with
  | .nx ρ S', h => exact fun c' σ' H' e s E' => h c' .non H' e s RV.non
  | .rt d S', h => exact h
  | .bk ρ S', h => exact h.elim
  | .ct ρ S', h => exact h.elim
  | .ex x ρ S', h => exact fun c' H' e s σ C d v _ n z hd rv => h c' H' e s C d v n z hd rv
  | .no, h => exact h
end
end Fm

set_option maxHeartbeats 4000000
/-! Xc3: try: .. except X as n: y = n; the error is kept as a value. -/
namespace Fm
open PySem PySem.Spec PyProof.Rows L2 Pe
theorem xob_ok {P : Program} {w : World} {H : Hp} {h : Heap} {a d : Addr} {cls : Value} {oe : Obj} {vs : Array Value} (e : h.get? a = some oe) (z : Zc cls (some d) oe) (dt : oe.data = .fields vs) : ObjOk P w H h a (xob cls d a) :=
  ⟨⟨oe, vs, e, z, dt⟩, ⟨oe, e⟩, fun _ _ ⟨o, v, q, r⟩ k => ⟨o, v, k o q, r⟩⟩
theorem xob_at {P : Program} {w : World} {H : Hp} {h : Heap} {a d : Addr} {cls : Value} (ok : HOk P w H h) (e : H a = some (xob cls d a)) : ∃ (oe : Obj) (vs : Array Value), h.get? a = some oe ∧ Zc cls (some d) oe ∧ oe.data = .fields vs := by
  have x : ObjOk P w H h a (.ext fun h => ∃ (oe : Obj) (vs : Array Value), h.get? a = some oe ∧ Zc cls (some d) oe ∧ oe.data = .fields vs) := ok a _ e
  exact x.1
section
variable {X : Cx} {pins : List (Addr × Obj)} {σ : L2.St} {H : Hp} {s : Shared}
/-- an object that was not there at the entry, and that nothing tracks, is tracked from now on -/
theorem inv_track {a d : Addr} {cls : Value} {oe : Obj} {vs : Array Value} (I : Inv X pins σ H s) (ea : s.heap.get? a = some oe) (z : Zc cls (some d) oe) (dt : oe.data = .fields vs) (na : H a = none) (n0 : X.s_0.heap.get? a = none) (nL : a ≠ X.env.locals) (np : ∀ p ∈ X.pn ++ pins, p.1 ≠ a) :
    Inv X pins σ (upd H a (xob cls d a)) s := by
  have ne0 : ∀ {b : Addr} {o : Obj}, X.s_0.heap.get? b = some o → b ≠ a := fun {b o} e q => by rw [q, n0] at e; cases e
  have neS : ∀ {b : Addr} {o : HO}, H b = some o → b ≠ a := fun {b o} e => ne_of_none e na
  refine ⟨I.ok, I.os, I.bare, ⟨I.base.keep, I.base.slot, fun b o e n hx => ?_, I.base.there, fun b xs e => ?_, fun b o u e => ?_, fun b ps e => ?_⟩, I.loc, I.cell, ?_, fun x c e => ?_, fun p hp => ?_, fun b o e => ?_, I.len⟩
  · rw [upd_ne (ne0 e)]; exact I.base.free b o e n hx
  · have q := I.base.tups b xs e; rw [upd_ne (neS q)]; exact q
  · have q := I.base.frzs b o u e; rw [upd_ne (neS q)]; exact q
  · obtain ⟨m, q⟩ := I.base.tbls b ps e; exact ⟨m, by rw [upd_ne (neS q)]; exact q⟩
  · rw [upd_ne (Ne.symm nL)]; exact I.free
  · have hc : c ≠ a := fun q => by
      obtain ⟨v, o, ho, hd⟩ := I.cell x c e
      rw [q, ea] at ho; cases ho; rw [dt] at hd; cases hd
    rw [upd_ne hc]; exact I.freeC x c e
  · obtain ⟨e1, e2, e3, e4, e5⟩ := I.pin p hp
    exact ⟨e1, by rw [upd_ne (np p hp)]; exact e2, e3, e4, e5⟩
  · by_cases hb : b = a
    · subst hb; rw [upd_same] at e; cases e; exact xob_ok ea z dt
    · rw [upd_ne hb] at e
      exact (I.hok b o e).stay (fun _ _ _ q => q) (fun c q => by rw [upd_ne (neS q)]; exact q) fun c xs q => by rw [upd_ne (neS q)]; exact q
end
/-- what is wished of an error that is caught and kept in slot j (i: the clause's name) -/
def wKeep (K : PySem.W.Frag) (c : Value) (i j : Nat) (D : Ends) : L2.WX := fun cls d σ H => PySem.W.exmOne K cls c = some true ∧ ∃ dd, d = some dd ∧ (i < σ.length → ∀ a, H a = none → D.nx (((σ.set i (some (.ref a))).set j (some (.ref a))).set i none) (upd H a (xob cls dd a)))
section
variable {X : Cx} {x n y : Str} {c : Value} {i j : Nat} {body : List Stmt} {np pos pos' q1 q2 q3 : Pos} {tb : L2.WX → TS}
theorem ps_tryK (hex : X.ex = []) (hs : X.stack = X.env :: X.outer) (hf : X.env.frame = some X.env.locals) (hN : X.N.Nodup) (hi : X.N[i]? = some n) (hln : X.env.kindOf n = some .local) (hj : X.N[j]? = some y) (hy : Loc X.env.scope y) (hfn : X.fn y = true ∨ X.env.scope.names.lookup y = some .local) (hc : Names X x c)
    (hd : (n == ("__debug__" : Str)) = false) (hcd : (n == ("__classdict__" : Str)) = false) (hsw : swapsWith (.Name n q2) (some (.Name y q1)) q3.line X.env = pure false)
    (hb : ∀ (W : L2.WX) (pn : List (Addr × Obj)) (xe : Value → Shared → Prop), Takes (X.tr pn xe) W → PassesOwn (model X.prog X.w) X.A X.env xe → PSs (X.tr pn xe) body (tb W)) :
    PS X (.Try body [.ExceptHandler (some (.Name x np)) (some n) [.Assign [.Name y q1] (.Name n q2) q3] pos'] [] [] pos) (fun D σ H => tb (wKeep X.K c i j D) D σ H) := by
  refine ⟨fun pins s σ H D Iv h => ?_⟩
  have okX := Iv.ok; have frA : X.A.frames = some (X.env :: X.outer) := by rw [okX.frames, hs]
  refine wpAny_Try_except (wpAny_mono ((hb (wKeep X.K c i j D) (X.pn ++ pins) (fun e s₁ => wpAny (model X.prog X.w) X.A (noteFrame e X.env) (fun _ s₂ => wpAny (model X.prog X.w) X.A (setFlight e none) (fun _ s₃ =>
    wpAny (model X.prog X.w) X.A (handleBy e X.env [.ExceptHandler (some (.Name x np)) (some n) [.Assign [.Name y q1] (.Name n q2) q3] pos']) (SP X pins D) X.xe s₃) X.xe s₂) X.xe s₁) (fun u s' xx => ?_) PassesOwn.looking).run [] s σ H D (Iv.toTry _) h) (fun f s1 hsp => ?_) (fun e s1 he => he))
  · obtain ⟨a, B, sI, pins', σ', H', cls, d, rfl, Jn, nb, up, sky, na, os, ag, hm1, dd, rfl, hyes⟩ := xx
    have J : Inv X pins σ' H' sI := Jn.ofTry okX
    have skyB : Sky B (X.env :: X.outer) a (Zc cls (some dd)) X.env.locals s'.heap := by rw [← hs]; exact sky
    show wpAny (model X.prog X.w) X.A (noteFrame (.ref a) X.env) _ _ _; refine Sky.land Zc.steady frA hf skyB fun hp3 fl3 up3 => ?_
    have J3 : Inv X pins σ' H' { s' with heap := hp3 } := J.landed nb fl3.1 (up.trans up3) os ag
    obtain ⟨oe3, vs3, he3, hz3, hd3⟩ := fl3.there
    have nfr : a ∉ frs (X.env :: X.outer) := fun hm => by
      obtain ⟨_, o', e', hnf⟩ := fl3.2.2.1.mem hm
      rw [he3] at e'; cases e'; exact hnf _ hd3
    have nL : a ≠ X.env.locals := fun z => nfr (List.mem_filterMap.mpr ⟨X.env, List.mem_cons_self, by rw [hf, z]⟩)
    have nF : a ∉ X.fs := fun hm => by
      obtain ⟨e, he, q⟩ := List.mem_filterMap.mp hm; exact nfr (List.mem_filterMap.mpr ⟨e, List.mem_cons_of_mem _ he, q⟩)
    have nB : B.get? a = none := fl3.2.1
    have nI : sI.heap.get? a = none := by
      cases q : sI.heap.get? a with
      | none => rfl
      | some o =>
        have z := nb a o q (by rw [hs]; exact nfr)
        rw [nB] at z; cases z
    have n0 : X.s_0.heap.get? a = none := by
      cases q : X.s_0.heap.get? a with
      | none => rfl
      | some o =>
        obtain ⟨o', q'⟩ := J.base.there a o q (by rw [hex]; exact fun z => nomatch z)
        rw [nI] at q'; cases q'
    have npn : ∀ p ∈ X.pn ++ pins, p.1 ≠ a := fun p hp z => by
      obtain ⟨e1, _⟩ := J.pin p hp
      rw [z, nI] at e1; cases e1
    have S3 := J3.suite he3 hd3 na nL nF
    refine wpAny_handleBy_cons (codeAny_handlers_test ?_) (by intro q; cases q)
    have LT : PySem.W.Looks (model X.prog X.w) hp3 (typeOf (.ref a)) cls := fun A Q E s k q => wpAny_typeOf_ref (k _ _ he3) (by rw [hz3.1]; exact q)
    have LM := PySem.W.exm_one (M := model X.prog X.w) (J3.kIn) LT hm1
    have test : ∀ {Q : Value → Shared → Prop} {E : Value → Shared → Prop}, Q c { s' with heap := hp3 } → wpAny (model X.prog X.w) (X.A.mark (some (.ref a))) (eval (.Name x np) X.env) Q E { s' with heap := hp3 } := fun {Q E} q => by
      obtain ⟨hg, hdbg, hm | ⟨hm, hv, hnn⟩⟩ := hc; exact ld_glob (X := X.suite a ((a, oe3) :: (X.pn ++ pins))) S3 hg hm q hdbg
      exact ld_blt (X := X.suite a ((a, oe3) :: (X.pn ++ pins))) S3 hg hm hv q hnn hdbg
    refine test (LM.here (codeAny_handlers_suite_as (HandSPX.lands_againZ fl3 fun hp4 fl4 up4 => ?_)))
    have J4 : Inv X pins σ' H' { s' with heap := hp4 } := J.landed nb fl4.1 ((up.trans up3).trans up4) os ag
    obtain ⟨oe4, vs4, he4, hz4, hd4⟩ := fl4.there
    have S4 := J4.suite he4 hd4 na nL nF
    have il : i < σ'.length := by rw [J.len]; exact (List.getElem?_eq_some_iff.mp hi).1
    refine store_ok (X := X.suite a ((a, oe4) :: (X.pn ++ pins))) (v := .ref a) S4 hN hi (.inl hln) rfl (fun s5 S5 => ?_) (.inr hln)
    have suite := pss_one (ps_set (X := X.suite a ((a, oe4) :: (X.pn ++ pins))) (i := j) (pos := q3) (pos' := q1) hN hj hy (pe_var (i := i) (pos := q2) hi (Or.inl hln) hd hcd) hsw hfn)
    refine wpAny_mono (suite.run [] s5 _ H' { nx := fun σ7 H7 => D.nx (σ7.set i none) (upd H7 a (xob cls dd a)), rt := D.rt, bk := fun _ _ => False, ct := fun _ _ => False } S5 ⟨.ref a, List.getElem?_set_self il, hyes il a na⟩) (fun f s6 hsp => ?_) (fun _ _ z => False.elim z)
    match f, hsp with
    | .next, hsp =>
      obtain ⟨σ6, H6, S6, q6⟩ := hsp
      obtain ⟨ea6, na6, _⟩ := S6.pin (a, oe4) (List.mem_append_left _ List.mem_cons_self)
      have J6 := inv_track (S6.unsuite okX) ea6 hz4 hd4 na6 n0 nL npn
      exact gone_ok J6 hN hi hln fun s7 J7 => ⟨_, _, J7, q6⟩
    | .brk, hsp => obtain ⟨_, _, _, q⟩ := hsp; exact q.elim
    | .cont, hsp => obtain ⟨_, _, _, q⟩ := hsp; exact q.elim
    | .ret u, hsp =>
      obtain ⟨v6, σ6, H6, S6, r6, q6⟩ := hsp
      exact gone_ok (S6.unsuite okX) hN hi hln fun s7 J7 => ⟨_, _, _, J7, r6, q6⟩
  · match f, hsp with
    | .next, ⟨σ', H', J', q⟩ => exact wpAny_execs_nil ⟨σ', H', J'.ofTry okX, q⟩
    | .brk, ⟨σ', H', J', q⟩ => exact ⟨σ', H', J'.ofTry okX, q⟩
    | .cont, ⟨σ', H', J', q⟩ => exact ⟨σ', H', J'.ofTry okX, q⟩
    | .ret u, ⟨v, σ', H', J', r, q⟩ => exact ⟨v, σ', H', J'.ofTry okX, r, q⟩
end
end Fm

set_option maxHeartbeats 4000000
/-! Xc4: mirrors of try, isinstance of errors, their values; defs that may raise, seen where they do not. -/
namespace Fm
open PySem PySem.Spec PyProof.Rows L2 Pe
/-! ### what is said of the classes -/
structure ExcK (K : PySem.W.Frag) (C : Addr) : Prop where
  cl : (PySem.W.clsIn K C).isSome = true
  ga : PySem.W.findIn K (.ref C) "__getattribute__" = some (some (.builtin "BaseException.__getattribute__"))
  gg : PySem.W.findIn K (.ref C) "__getattr__" = some none
  sb : PySem.W.subIn K (.ref C) (.type "BaseException") = some true
  ca : PySem.W.findIn K (.ref C) "__class__" = some (some (.builtin "object.__class__"))
  sp : PySem.W.specialIn K (.builtin "object.__class__") "__get__" = some (some (.builtin "getset_descriptor.__get__"))
  tk : PySem.W.takesIn K (.builtin "object.__class__") = some true
  mo : PySem.W.mroIn K C (.type "object") = some true
  hd : PySem.W.hasDictIn K C = true
  nv : PySem.W.findIn K (.ref C) "value" = some none
/-- all classes by name -/
inductive XL (K : PySem.W.Frag) : List String → Prop where
  | nil : XL K []
  | cons {c : String} {C : Addr} {l : List String} : PySem.W.nsIn K mainGlobals c = some (some (.ref C)) → ExcK K C → XL K l → XL K (c :: l)
theorem XL.get {K : PySem.W.Frag} {l : List String} (h : XL K l) {c : String} {C : Addr} (hc : c ∈ l) (n : PySem.W.nsIn K mainGlobals c = some (some (.ref C))) : ExcK K C := by
  induction h with
  | nil => cases hc
  | cons n' e _ ih =>
    rcases List.mem_cons.mp hc with rfl | hc
    · rw [n'] at n; cases n; exact e
    · exact ih hc
/-- those that an except clause takes -/
inductive ExL (K : PySem.W.Frag) (cv : Value) : List String → Prop where
  | nil : ExL K cv []
  | cons {c : String} {C : Addr} {l : List String} : PySem.W.nsIn K mainGlobals c = some (some (.ref C)) → PySem.W.exmOne K (.ref C) cv = some true → ExL K cv l → ExL K cv (c :: l)
theorem ExL.get {K : PySem.W.Frag} {cv : Value} {l : List String} (h : ExL K cv l) {c : String} {C : Addr} (hc : c ∈ l) (n : PySem.W.nsIn K mainGlobals c = some (some (.ref C))) : PySem.W.exmOne K (.ref C) cv = some true := by
  induction h with
  | nil => cases hc
  | cons n' e _ ih =>
    rcases List.mem_cons.mp hc with rfl | hc
    · rw [n'] at n; cases n; exact e
    · exact ih hc
/-- what isinstance answers, class by class -/
inductive IsL (K : PySem.W.Frag) (cv : Value) : List (String × Bool) → Prop where
  | nil : PySem.W.kitOne K (.type "NoneType") cv = some false → IsL K cv []
  | cons {c : String} {C : Addr} {b : Bool} {l : List (String × Bool)} : PySem.W.nsIn K mainGlobals c = some (some (.ref C)) → ExcK K C → PySem.W.kitOne K (.ref C) cv = some b → IsL K cv l → IsL K cv ((c, b) :: l)
theorem IsL.non {K : PySem.W.Frag} {cv : Value} {l : List (String × Bool)} (h : IsL K cv l) : PySem.W.kitOne K (.type "NoneType") cv = some false := by
  induction h with
  | nil h => exact h
  | cons _ _ _ _ ih => exact ih
theorem IsL.get {K : PySem.W.Frag} {cv : Value} {l : List (String × Bool)} (h : IsL K cv l) {c : String} {C : Addr} {b : Bool} (hc : l.lookup c = some b) (n : PySem.W.nsIn K mainGlobals c = some (some (.ref C))) : ExcK K C ∧ PySem.W.kitOne K (.ref C) cv = some b := by
  induction h with
  | nil => cases hc
  | @cons c' C' b' l' n' e k _ ih =>
    rw [List.lookup_cons] at hc
    by_cases q : c = c'
    · subst q
      rw [n'] at n; cases n
      simp at hc; subst hc
      exact ⟨e, k⟩
    · have : (c == c') = false := by simpa using q
      rw [this] at hc
      exact ih hc
/-- an error's object, as the machine sees it -/
theorem xcp_inst {X : Cx} {pins : List (Addr × Obj)} {σ : L2.St} {H : Hp} {s : Shared} {a d C : Addr} {v : V} (I : Inv X pins σ H s) (ea : H a = some (xob (.ref C) d a)) (ed : H d = some (.xd (xf v))) :
    ∃ (oe od : Obj) (u : Value), PySem.W.InstAt s.heap a oe C (some od) ∧ PySem.W.lookIn "value" od = some (some u) ∧ RelV v u := by
  obtain ⟨oe, vs, ho, hz, hd⟩ := xob_at I.hok ea
  have hx : ObjOk X.prog X.w H s.heap d (.xd (xf v)) := I.hok d _ ed
  obtain ⟨mA, hns, hr⟩ := hx
  obtain ⟨od, ho2, hl⟩ := lookIn_ns hns
  have l : List.lookup ("value" : Str) (xf v) = some v := by simp [xf, List.lookup]
  obtain ⟨u, hu, ru⟩ := RelO.some_of (v := v) (o := mA "value") (by rw [← l]; exact hr "value")
  exact ⟨oe, od, u, ⟨ho, hz.1, by unfold PySem.W.notCls; rw [hd] <;> rfl, by rw [hz.2]; exact ho2⟩, by rw [hl, hu], ru⟩
/-! ### isinstance(e, C) -/
section
variable {X : Cx} {W : WX} {a b : Expr} {fa : ME} {x : Str} {p pos : Pos} {l : List (String × Bool)} {cv : Value}
/-! ### e.value -/
def mVal (l : List String) (fe : ME) : ME := fun P ρ S => (fe P ρ S).bind fun d S1 => match d with
  | .t (.xcp c v) => if c ∈ l then .ok (.t v) S1 else .no
  | _ => .no
def tXv (K : PySem.W.Frag) (te : TE) : TE := fun σ H Q => te σ H fun x H1 => ∃ (a d C : Addr) (v : V), x = .ref a ∧ H1 a = some (xob (.ref C) d a) ∧ H1 d = some (.xd (xf v)) ∧ ExcK K C ∧ Q v H1
theorem pe_xv {e : Expr} {te : TE} (he : PE X e te) (hb : attributeBase e "value" X.env (eval e X.env) = eval e X.env) : PE X (.Attribute e "value" pos) (tXv X.K te) := by
  refine ⟨fun pins s σ H Q I h => attr_of hb (thn (he.run pins s σ H _ I h) fun u s1 hh => ?_)⟩
  obtain ⟨x, H1, I1, rx, a, d, C, v, rfl, ea, ed, E, q⟩ := hh
  obtain rfl : u = Value.ref a := rx
  obtain ⟨oe, od, u, J, hl, ru⟩ := xcp_inst I1 ea ed
  exact HandSPX.exc_get I1.kIn J E.ga E.gg E.sb (PySem.W.findObj_own E.hd E.nv rfl hl) (handed_of ru) ⟨v, H1, I1.tok _, ru, q⟩
theorem pm_val {l : List String} (L : XL X.K l) (ha : PM X W a fa) (hb : attributeBase a "value" X.env (eval a X.env) = eval a X.env := by rfl) : PM X W (.Attribute a "value" pos) (mVal l fa) := by
  refine ⟨pe_weak (pe_xv ha.run hb) fun σ H Q h => ?_⟩
  obtain ⟨c, P, ρ, S, hE, hS, h⟩ := h
  refine tM_bind hE hS h fun d v S1 c1 H1 e1 E1 s1 r1 h1 => ?_
  match d, r1, h1 with
  | .t (.xcp k y), r, h1 =>
    simp only at h1
    by_cases q : k ∈ l
    · rw [if_pos q] at h1
      cases r with
      | xcp _ _ a d C w z1 z2 h3 h4 h5 h6 => exact ⟨a, d, C, w, rfl, h3, h4, L.get q h5, h1 c1 _ H1 (Ev.refl s1) s1 h6⟩
    · rw [if_neg q] at h1; exact h1.elim
  | .t .non, _, h1 => exact h1.elim
  | .t (.bl _), _, h1 => exact h1.elim
  | .t (.int _), _, h1 => exact h1.elim
  | .t (.str _), _, h1 => exact h1.elim
  | .t (.lst _), _, h1 => exact h1.elim
  | .t (.tup _), _, h1 => exact h1.elim
  | .t (.dic _), _, h1 => exact h1.elim
  | .t (.dit _), _, h1 => exact h1.elim
  | .t (.scr _), _, h1 => exact h1.elim
  | .t (.ty _), _, h1 => exact h1.elim
  | .t (.wtup _), _, h1 => exact h1.elim
  | .ref _, _, h1 => exact h1.elim
end
/-! ### try: .. except X as n: y = n -/
def sTryK (l : List String) (fb : MS) (i j : Nat) : MS := fun P ρ S => match fb P ρ S with
  | .ex x _ S1 => if x.c ∈ l then .nx (((x.e.set i (some (.t (.xcp x.c x.v)))).set j (some (.t (.xcp x.c x.v)))).set i none) S1 else .no
  | o => o
theorem pms_tryK {X : Cx} {W : WX} {x n y : Str} {c : Value} {l : List String} (i j : Nat) {body : List Stmt} {np pos pos' q1 q2 q3 : Pos} {fb : MS} (L : ExL X.K c l) (hex : X.ex = []) (hs : X.stack = X.env :: X.outer) (hf : X.env.frame = some X.env.locals) (hN : X.N.Nodup) (hc : Names X x c)
    (hb : ∀ (Wl : L2.WX) (pn : List (Addr × Obj)) (xe : Value → Shared → Prop), Takes (X.tr pn xe) Wl → PassesOwn (model X.prog X.w) X.A X.env xe → PMB (X.tr pn xe) (wOf X.K Wl) body fb)
    (hi : X.N[i]? = some n := by rfl) (hln : X.env.kindOf n = some .local := by rfl) (hj : X.N[j]? = some y := by rfl) (hy : Loc X.env.scope y := by first | exact .inl rfl | exact .inr rfl) (hfn : X.fn y = true ∨ X.env.scope.names.lookup y = some .local := by first | exact .inl rfl | exact .inr rfl)
    (hd : (n == ("__debug__" : Str)) = false := by decide) (hcd : (n == ("__classdict__" : Str)) = false := by decide) (hsw : swapsWith (.Name n q2) (some (.Name y q1)) q3.line X.env = pure false := by rfl) :
    PMS X W (.Try body [.ExceptHandler (some (.Name x np)) (some n) [.Assign [.Name y q1] (.Name n q2) q3] pos'] [] [] pos) (sTryK l fb i j) := by
  refine ⟨ps_weak (ps_tryK (i := i) (j := j) (tb := fun Wl => tMS X.K (wOf X.K Wl) fb) hex hs hf hN hi hln hj hy hfn hc hd hcd hsw fun Wl pn xe tk pa => (hb Wl pn xe tk pa).run) fun Dd σ H h => ?_⟩
  obtain ⟨c0, P, ρ, S, hE, hS, h⟩ := h
  refine ⟨c0, P, ρ, S, hE, hS, ?_⟩
  unfold sTryK at h
  generalize fb P ρ S = o at h
  cases o with
  | nx _ _ => exact h
  | rt _ _ => exact h
  | bk _ _ => exact h
  | ct _ _ => exact h
  | no => exact h
  | ex xv ρ' S1 =>
    simp only at h
    by_cases q : xv.c ∈ l
    · rw [if_pos q] at h
      intro c1 H1 e1 s1 σ1 C d v E1 hn hz hd1 rv
      refine ⟨L.get q hn, d, rfl, fun _ a ha => ?_⟩
      have ev := Ev.alloc (o := xob (.ref C) d a) s1 ha
      have hda : d ≠ a := ne_of_none hd1 ha
      have r : RV X.K (c1.zed a).Z (upd H1 a (xob (.ref C) d a)) (.xcp xv.c xv.v) (.ref a) :=
        .xcp _ _ a d C v (.inr rfl) (.inl hz) upd_same (by rw [upd_ne hda]; exact hd1) hn (RV.mono ev.z ev.rd ev.rdD rv)
      have E2 := E1.mono ev
      exact h (c1.zed a) _ _ (e1.trans hS.pl ev) (Sim.alloc s1 ha) (((E2.set i (d := .t (.xcp xv.c xv.v)) r).set j (d := .t (.xcp xv.c xv.v)) r).clr i none)
    · rw [if_neg q] at h; exact h.elim
/-! ### defs that may raise, where they don't; what they leave -/
def nxF (g : MF) : MF := fun ds P S => (g ds P S).nx
section
variable {Pg : Program} {wd : World} {Kf : PySem.W.Frag} {mods : Str → Option Value} {bs : Heap} {lev n : Nat} {fa : Addr} {fdt : FuncData} {prs : List Str} {g : MF}
theorem fngX_nx (F : FnG Pg wd Kf mods bs (L2.CX Pg wd) lev fa fdt prs (spX Kf n g)) : FnG Pg wd Kf mods bs CX0 lev fa fdt prs (spM Kf n (nxF g)) := by
  have low : ∀ {vs : List V} {H : Hp} {Q : VK} {E : XK}, spM Kf n (nxF g) vs H Q E → spX Kf n g vs H Q (fun _ _ _ => False) := fun {vs H Q E} ⟨hn, c, P, S, ds, hS, r, h⟩ => by
    refine ⟨hn, c, P, S, ds, hS, r, ?_⟩
    unfold nxF at h
    generalize g ds P S = o at h
    cases o with
    | ok d S' => exact h
    | ex x S' => exact h.elim
    | no => exact h
  refine ⟨fun vs H Q E h => F.cnt vs H Q _ (low h), fun Ar outs sh H ags ws vs Q E gd room env bd vals h => ?_⟩
  refine codeAny_mono (F.go Ar outs sh H ags ws vs Q (fun _ _ _ => False) gd room env bd vals (low h)) fun r s' hq => ?_
  match r, hq with
  | .error er, hq => obtain ⟨_, _, _, _, _, _, _, _, _, _, _, _, z⟩ := hq; exact z.elim
  | .ok (.ret u), hq => exact hq
  | .ok .next, hq => exact hq
  | .ok .brk, hq => exact hq
  | .ok .cont, hq => exact hq
/-- the caller's store is kept -/
def pureX (g : MF) : MF := fun ds P S => match g ds (P ++ S) [] with
  | .ok d S' => match frzD (P ++ S) d S' with
    | some (.t x, _) => .ok (.t x) S
    | _ => .no
  | .ex x _ => .ex x S
  | .no => .no
theorem sp_pureX {K : PySem.W.Frag} : ∀ vs H Q E, spX K n (pureX g) vs H Q E → spX K n g vs H Q E := by
  rintro vs H Q E ⟨hn, c, P, S, ds, hS, hr, h⟩
  refine ⟨hn, c, P ++ S, [], ds, hS.lock, hr, ?_⟩
  unfold pureX at h
  generalize g ds (P ++ S) [] = r at h
  cases r with
  | ex x S' => exact fun c' H' ev s' => h { c' with n := c.n } H' (hS.forget ev s').1 (hS.forget ev s').2
  | no => exact h
  | ok d S' =>
    simp only at h
    cases ef : frzD (P ++ S) d S' with
    | none => rw [ef] at h; exact h.elim
    | some p =>
      obtain ⟨d', S2⟩ := p
      rw [ef] at h
      cases d' with
      | ref i => exact h.elim
      | t x =>
        intro c' v H' ev s' rd
        obtain ⟨c2, e2, s2, r2⟩ := frzD_ok s' rd ef
        have ev2 := ev.trans hS.lock.pl e2
        exact h { c2 with n := c.n } v H' (hS.forget ev2 s2).1 (hS.forget ev2 s2).2 r2
theorem fngX_tree (F : FnG Pg wd Kf mods bs (L2.CX Pg wd) lev fa fdt prs (spX Kf n g)) : FnG Pg wd Kf mods bs (L2.CX Pg wd) lev fa fdt prs (spX Kf n (pureX g)) := F.less sp_pureX
end
/-- a class's facts, for a raise in X -/
def PieceX.mk' {X : Cx} {c : String} {D fI C : Addr} (PF : PieceF X.prog X.K D fI) (PC : PieceC X.K D fI C) (ns : PySem.W.nsIn X.K mainGlobals c = some (some (.ref C))) (mg : X.mg c = some (.ref C)) : PieceX X c := ⟨D, fI, C, PF, PC, ns, mg⟩
end Fm

set_option maxHeartbeats 4000000
/-! Xc5: facts on classes out of simpler ones. -/
namespace Fm
open PySem PySem.Spec PyProof.Rows L2 Pe
section
variable {K : PySem.W.Frag} {D : Addr} {t : Value} {b : Bool}
theorem exm_of (h0 : PySem.W.subIn K (.ref D) (.type "BaseException") = some true) (h1 : PySem.W.isClsIn K D = true) (h2 : PySem.W.typeIn K (.ref D) = some (.type "type")) (h : PySem.W.subIn K t (.ref D) = some true) : PySem.W.exmOne K t (.ref D) = some true := by
  have e1 : (PySem.W.subIn K (.ref D) (.type "BaseException") == some true) = true := by rw [h0] <;> rfl
  have e2 : ((PySem.W.clsIn K D).isSome && PySem.W.typeIn K (.ref D) == some (.type "type")) = true := by
    have h1' : (PySem.W.clsIn K D).isSome = true := h1
    rw [h1', h2] <;> rfl
  show (if (PySem.W.subIn K (.ref D) (.type "BaseException") == some true) = true then (if ((PySem.W.clsIn K D).isSome && PySem.W.typeIn K (.ref D) == some (.type "type")) = true then PySem.W.subIn K t (.ref D) else none) else none) = some true
  rw [if_pos e1, if_pos e2]; exact h
end
end Fm

/-! Xt: plain rules for what may raise. -/
namespace Fm
section
variable {P S S1 S2 : List O} {ρ ρ' : En} {f g : MS} {fe : ME} {fs fk : MA} {ds zs : List D} {d : D} {x : T} {xv : Xv} {gf : MF} {n : Nat} {c : String} {l : List String}
theorem pureX_of (h : pureZ gf ds P S = .ok (.t x) S) : pureX gf ds P S = .ok (.t x) S := by
  unfold pureZ at h
  unfold pureX
  generalize gf ds (P ++ S) [] = r at h
  cases r with
  | ok d S' => exact h
  | ex x S' => cases h
  | no => cases h
theorem pureX_ex {S' : List O} (h : gf ds (P ++ S) [] = .ex xv S') : pureX gf ds P S = .ex xv S := by
  unfold pureX
  rw [h]
@[simp] theorem pureZ_nx : pureZ (nxF gf) = pureZ gf := by
  funext ds P S
  unfold pureZ nxF
  generalize gf ds (P ++ S) [] = r
  cases r <;> rfl
@[simp] theorem newF_nx : newF (nxF gf) = newF gf := by
  funext ds P S
  unfold newF nxF
  generalize gf ds (P ++ S) [] = r
  cases r <;> rfl
theorem x_callX (h1 : fs P ρ S = .ok ds S1) (h2 : gf ds P S1 = .ok d S2) : mCallX gf fs P ρ S = .ok d S2 := by
  unfold mCallX
  rw [h1, R.bind_ok, h2, R.at_ok]
theorem x_callXZ (h1 : fs P ρ S = .ok ds S1) (h2 : pureZ gf ds P S1 = .ok (.t x) S1) : mCallX (pureX gf) fs P ρ S = .ok (.t x) S1 := x_callX h1 (pureX_of h2)
theorem x_callXe (h1 : fs P ρ S = .ok ds S1) (h2 : gf ds P S1 = .ex xv S2) : mCallX gf fs P ρ S = .ex { xv with e := ρ } S2 := by
  unfold mCallX
  rw [h1, R.bind_ok, h2, R.at_ex]
theorem raise_ex (h : fe P ρ S = .ok (.t x) S1) : sRaise c (mCons fe mNil) P ρ S = .ex ⟨c, x, ρ⟩ ρ S1 := by
  unfold sRaise mCons mNil
  rw [h]; rfl
theorem expr_ex (h : fe P ρ S = .ex xv S1) : sExpr fe P ρ S = .ex xv ρ S1 := by
  unfold sExpr
  rw [h]; rfl
theorem seq_ex (h : f P ρ S = .ex xv ρ' S1) : sSeq f g P ρ S = .ex xv ρ' S1 := by
  unfold sSeq
  rw [h]; rfl
theorem def_ex {fb : MS} (h : fb P (ds.map some ++ List.replicate (n - ds.length) none) S = .ex xv ρ' S1) : mDef n fb ds P S = .ex xv S1 := by
  unfold mDef
  rw [h]
theorem defX_nx {fb : MS} (h : fb P (ds.map some ++ List.replicate (n - ds.length) none) S = .nx ρ' S1) : mDef n fb ds P S = .ok (.t .non) S1 := by
  unfold mDef
  rw [h]
theorem try_ex {i j : Nat} (h : f P ρ S = .ex xv ρ' S1) (hc : xv.c ∈ l) : sTryK l f i j P ρ S = .nx (((xv.e.set i (some (.t (.xcp xv.c xv.v)))).set j (some (.t (.xcp xv.c xv.v)))).set i none) S1 := by
  unfold sTryK
  rw [h]
  exact if_pos hc
theorem x_val (h : fe P ρ S = .ok (.t (.xcp c x)) S1) (hc : c ∈ l) : mVal l fe P ρ S = .ok (.t x) S1 := by
  unfold mVal
  rw [h]
  exact if_pos hc
end
end Fm

set_option maxHeartbeats 4000000
namespace Lw
open PySem PySem.Spec PyProof.Rows L2 Fm
def top (i : Nat) : Stmt := PySem.Challenge.pw_surepieces_k63_whole_what_may_go.main.body.getD i (.Pass ⟨0, 0, 0, 0⟩)
structure Wd (P : Program) (K : PySem.W.Frag) (mg : Str → Option Value) where
  x_PieceError : Addr
  x_InvalidBook : Addr
  x_NoRing : Addr
  x_InvalidWindows : Addr
  x_fI : Addr
  PF : Pe.PieceF P K x_PieceError x_fI
  ns_PieceError : PySem.W.nsIn K mainGlobals "PieceError" = some (some (.ref x_PieceError))
  mg_PieceError : mg "PieceError" = some (.ref x_PieceError)
  pc_PieceError : Pe.PieceC K x_PieceError x_fI x_PieceError
  xk_PieceError : ExcK K x_PieceError
  ns_InvalidBook : PySem.W.nsIn K mainGlobals "InvalidBook" = some (some (.ref x_InvalidBook))
  mg_InvalidBook : mg "InvalidBook" = some (.ref x_InvalidBook)
  pc_InvalidBook : Pe.PieceC K x_PieceError x_fI x_InvalidBook
  xk_InvalidBook : ExcK K x_InvalidBook
  ns_NoRing : PySem.W.nsIn K mainGlobals "NoRing" = some (some (.ref x_NoRing))
  mg_NoRing : mg "NoRing" = some (.ref x_NoRing)
  pc_NoRing : Pe.PieceC K x_PieceError x_fI x_NoRing
  xk_NoRing : ExcK K x_NoRing
  ns_InvalidWindows : PySem.W.nsIn K mainGlobals "InvalidWindows" = some (some (.ref x_InvalidWindows))
  mg_InvalidWindows : mg "InvalidWindows" = some (.ref x_InvalidWindows)
  pc_InvalidWindows : Pe.PieceC K x_PieceError x_fI x_InvalidWindows
  xk_InvalidWindows : ExcK K x_InvalidWindows
  xl : XL K ["PieceError", "InvalidBook", "NoRing", "InvalidWindows"]
  ex_NoRing : ExL K (.ref x_NoRing) ["NoRing"]
  _law_well : Hd K mg "_law_well" "_law_well" (top 33)
  _law_pick : Hd K mg "_law_pick" "_law_pick" (top 34)
  _law_one_of : Hd K mg "_law_one_of" "_law_one_of" (top 35)
  _law_tally : Hd K mg "_law_tally" "_law_tally" (top 37)
  _law_round : Hd K mg "_law_round" "_law_round" (top 36)
  _law_without : Hd K mg "_law_without" "_law_without" (top 41)
  _law_wide_book : Hd K mg "_law_wide_book" "_law_wide_book" (top 42)
  is_integer : Hd K mg "is_integer" "is_integer" (top 9)
  is_size : Hd K mg "is_size" "is_size" (top 13)
  is_word : Hd K mg "is_word" "is_word" (top 12)
  are_ascending : Hd K mg "are_ascending" "are_ascending" (top 11)
  are_windows : Hd K mg "are_windows" "are_windows" (top 14)
  is_a_book : Hd K mg "is_a_book" "is_a_book" (top 15)
  anew : Hd K mg "anew" "anew" (top 10)
  need_book : Hd K mg "need_book" "need_book" (top 17)
  book_without : Hd K mg "book_without" "book_without" (top 27)
  places_of : Hd K mg "places_of" "places_of" (top 16)
  begin_of : Hd K mg "begin_of" "begin_of" (top 19)
  end_of : Hd K mg "end_of" "end_of" (top 20)
  windows_out : Hd K mg "windows_out" "windows_out" (top 21)
  places_from : Hd K mg "places_from" "places_from" (top 23)
  a_closed_lot : Hd K mg "a_closed_lot" "a_closed_lot" (top 24)
  can_go : Hd K mg "can_go" "can_go" (top 28)
  may_go : Hd K mg "may_go" "may_go" (top 30)
  _law_ways_out : Hd K mg "_law_ways_out" "_law_ways_out" (top 38)
  _law_come_to : Hd K mg "_law_come_to" "_law_come_to" (top 39)
  _law_hangs : Hd K mg "_law_hangs" "_law_hangs" (top 40)
  _law_lots_right : Hd K mg "_law_lots_right" "_law_lots_right" (top 45)
  need_some_ring : Hd K mg "need_some_ring" "need_some_ring" (top 26)
  needed : Hd K mg "needed" "needed" (top 29)
  _law_needed_right : Hd K mg "_law_needed_right" "_law_needed_right" (top 47)
  _law_rest_right : Hd K mg "_law_rest_right" "_law_rest_right" (top 48)
  rest : Hd K mg "rest" "rest" (top 31)
  _law_caught : Hd K mg "_law_caught" "_law_caught" (top 46)
  _law_book_right : Hd K mg "_law_book_right" "_law_book_right" (top 49)
  _law_all_lots : Hd K mg "_law_all_lots" "_law_all_lots" (top 43)
  _law_some_lots : Hd K mg "_law_some_lots" "_law_some_lots" (top 44)
  law : Hd K mg "law" "law" (top 50)
  n_abs : mg "abs" = none
  n_all : mg "all" = none
  n_any : mg "any" = none
  n_bool : mg "bool" = none
  n_enumerate : mg "enumerate" = none
  n_int : mg "int" = none
  n_isinstance : mg "isinstance" = none
  n_len : mg "len" = none
  n_list : mg "list" = none
  n_max : mg "max" = none
  n_min : mg "min" = none
  n_range : mg "range" = none
  n_repr : mg "repr" = none
  n_sorted : mg "sorted" = none
  n_str : mg "str" = none
  n_tuple : mg "tuple" = none
  t_LEAST_SIZE : Tok
  c_LEAST_SIZE : mg "LEAST_SIZE" = some (.int 2 t_LEAST_SIZE)
  t_LETTERS : Tok
  c_LETTERS : mg "LETTERS" = some (.str (Str.ofString "abcdefghijklmnopqrstuvwxyz") t_LETTERS)
  t_MOST_SIZE : Tok
  c_MOST_SIZE : mg "MOST_SIZE" = some (.int 6 t_MOST_SIZE)
section
variable {P : Program} {w : World} {K : PySem.W.Frag} {mg : Str → Option Value} {base : Heap}
abbrev st__law_well : Stmt := top 33
theorem sc__law_well : FnScope ["script", "k", "total", "at", "cell", "great"] ["script", "k"] (defScope st__law_well) := ⟨rfl, rfl, rfl, by decide +kernel, rfl, by decide +kernel, by decide +kernel⟩
noncomputable def b__law_well : MS := (sSeq (sSet 2 (mC (.int 4099))) (sSeq (sFor (mI enumsS (mCons (mVar 0) mNil)) (gT 2 (gsCons (gN 3) (gsCons (gN 4) gsNil))) (sSet 2 (mOp2 (lT2 modT) (mCallB (lTL intT) (mCons (mOp2 (lT2 addT) (mOp2 (lT2 addT) (mOp2 (lT2 mulT) (mVar 2) (mC (.int 31))) (mOp2 (lT2 mulT) (mCallB (lTL intT) (mCons (mVar 4) mNil)) (mOp2 (lT2 addT) (mOp2 (lT2 mulT) (mC (.int 2)) (mVar 3)) (mC (.int 5))))) (mC (.int 17))) mNil)) (mOp2 (lT2 addT) (mOp2 (lT2 powT) (mC (.int 10)) (mC (.int 27))) (mC (.int 103)))))) (sSeq (sSet 4 (mIf (mB (mOp2 (lT2 ltT) (mVar 1) (mCallB lenG (mCons (mVar 0) mNil)))) (mOp2 subG (mVar 0) (mVar 1)) (mOp2 (lT2 mulT) (mVar 2) (mOp2 (lT2 addT) (mVar 1) (mC (.int 3)))))) (sSeq (sSet 5 (mIf (mB (mOp2 (lT2 ltT) (mVar 1) (mCallB lenG (mCons (mVar 0) mNil)))) (mCallB (lTL max2T) (mCons (mC (.int 0)) (mCons (mOp2 (lT2 subT) (mVar 4) (mOp2 (lT2 powT) (mC (.int 10)) (mC (.int 18)))) mNil))) (mC (.int 0)))) (sRet (mLstC (mCons (mVar 5) (mCons (mOp2 (lT2 modT) (mCallB (lTL intT) (mCons (mOp2 (lT2 addT) (mOp2 (lT2 addT) (mVar 2) (mOp2 (lT2 mulT) (mC (.int 7919)) (mVar 1))) (mCallB (lTL absT) (mCons (mVar 4) mNil))) mNil)) (mOp2 (lT2 addT) (mOp2 (lT2 powT) (mC (.int 10)) (mC (.int 30))) (mC (.int 57)))) (mCons (mC (.int 0)) mNil)))))))))
noncomputable def m__law_well : MF := mDef 6 b__law_well
theorem ok__law_well (T : Wd P K mg) : FnG P w K mg base CX0 1 T._law_well.f T._law_well.fd ["script", "k"] (spM K 2 m__law_well) :=
  fng_ok (fb := b__law_well) (N := ["script", "k", "total", "at", "cell", "great"]) (ps := ["script", "k"]) (k := 0) T._law_well.F sc__law_well fun cdv A outer s H E gd hr => (pmb_cons (pms_set 2 sc__law_well.nd pm_int) (pmb_cons (pms_for PassesOwn.never rfl (pmi_enumS (by rfl) T.n_enumerate (pma_cons (pm_var 0) pma_nil)) (pmg_tup rfl (pmgs_cons (pmg_name 3 sc__law_well.nd) (pmgs_cons (pmg_name 4 sc__law_well.nd) pmgs_nil))) (pmb_one (pms_set 2 sc__law_well.nd (pm_bin op_modM (pm_callTy call_intM (by rfl) T.n_int bt_int (pma_cons (pm_bin op_addM (pm_bin op_addM (pm_bin op_mulM (pm_var 2) pm_int) (pm_bin op_mulM (pm_callTy call_intM (by rfl) T.n_int bt_int (pma_cons (pm_var 4) pma_nil)) (pm_bin op_addM (pm_bin op_mulM pm_int (pm_var 3)) pm_int))) pm_int) pma_nil)) (pm_bin op_addM (pm_bin op_powM pm_int pm_int) pm_int))))) (pmb_cons (pms_set 4 sc__law_well.nd (pm_if (pmt_cmp (op_ltM (r64 hr)) (pm_var 1) (pm_callB call_lenM (by rfl) T.n_len bt_len (pma_cons (pm_var 0) pma_nil))) (ix_M (r1 hr) (fun _ _ => rfl) (fun _ _ => rfl) (pm_var 0) (pm_var 1)) (pm_bin op_mulM (pm_var 2) (pm_bin op_addM (pm_var 1) pm_int)))) (pmb_cons (pms_set 5 sc__law_well.nd (pm_if (pmt_cmp (op_ltM (r64 hr)) (pm_var 1) (pm_callB call_lenM (by rfl) T.n_len bt_len (pma_cons (pm_var 0) pma_nil))) (pm_callB (call_max2M rfl) (by rfl) T.n_max bt_max (pma_cons pm_int (pma_cons (pm_bin op_subM (pm_var 4) (pm_bin op_powM pm_int pm_int)) pma_nil))) pm_int)) (pmb_one (pms_ret (pm_lstC (pma_cons (pm_var 5) (pma_cons (pm_bin op_modM (pm_callTy call_intM (by rfl) T.n_int bt_int (pma_cons (pm_bin op_addM (pm_bin op_addM (pm_var 2) (pm_bin op_mulM pm_int (pm_var 1))) (pm_callB call_absM (by rfl) T.n_abs bt_abs (pma_cons (pm_var 4) pma_nil))) pma_nil)) (pm_bin op_addM (pm_bin op_powM pm_int pm_int) pm_int)) (pma_cons pm_int pma_nil))))))))))
abbrev st__law_pick : Stmt := top 34
theorem sc__law_pick : FnScope ["well", "ways", "found", "mixed"] ["well", "ways"] (defScope st__law_pick) := ⟨rfl, rfl, rfl, by decide +kernel, rfl, by decide +kernel, by decide +kernel⟩
noncomputable def b__law_pick : MS := (sSeq (sIf (mB (mOp2 (lT2 gtT) (mOp2 subG (mVar 0) (mC (.int 0))) (mC (.int 0)))) (sSeq (sSet 2 (mOp2 (lT2 modT) (mCallB (lTL intT) (mCons (mOp2 subG (mVar 0) (mC (.int 0))) mNil)) (mVar 1))) (sSeq (sPut (mVar 0) (mC (.int 0)) (mOp2 (lT2 fdivT) (mOp2 subG (mVar 0) (mC (.int 0))) (mVar 1))) (sRet (mVar 2)))) sNil) (sSeq (sPut (mVar 0) (mC (.int 2)) (mOp2 (lT2 addT) (mOp2 subG (mVar 0) (mC (.int 2))) (mC (.int 1)))) (sSeq (sSet 3 (mOp2 (lT2 modT) (mCallB (lTL intT) (mCons (mOp2 (lT2 addT) (mOp2 (lT2 addT) (mOp2 subG (mVar 0) (mC (.int 1))) (mOp2 (lT2 mulT) (mOp2 (lT2 mulT) (mC (.int 97531)) (mOp2 subG (mVar 0) (mC (.int 2)))) (mOp2 subG (mVar 0) (mC (.int 2))))) (mC (.int 13))) mNil)) (mOp2 (lT2 addT) (mOp2 (lT2 powT) (mC (.int 10)) (mC (.int 29))) (mC (.int 319))))) (sSeq (sSet 3 (mOp2 (lT2 modT) (mCallB (lTL intT) (mCons (mOp2 (lT2 addT) (mOp2 (lT2 mulT) (mOp2 (lT2 mulT) (mVar 3) (mVar 3)) (mVar 3)) (mOp2 (lT2 mulT) (mC (.int 271)) (mOp2 subG (mVar 0) (mC (.int 2))))) mNil)) (mOp2 (lT2 addT) (mOp2 (lT2 powT) (mC (.int 10)) (mC (.int 30))) (mC (.int 57))))) (sRet (mOp2 (lT2 modT) (mCallB (lTL intT) (mCons (mOp2 (lT2 fdivT) (mVar 3) (mC (.int 100003))) mNil)) (mVar 1)))))))
noncomputable def m__law_pick : MF := mDef 4 b__law_pick
theorem ok__law_pick (T : Wd P K mg) : FnG P w K mg base CX0 1 T._law_pick.f T._law_pick.fd ["well", "ways"] (spM K 2 m__law_pick) :=
  fng_ok (fb := b__law_pick) (N := ["well", "ways", "found", "mixed"]) (ps := ["well", "ways"]) (k := 0) T._law_pick.F sc__law_pick fun cdv A outer s H E gd hr => (pmb_cons (pms_if (pmt_cmp (op_gtM (r64 hr)) (ix_M (r1 hr) (fun _ _ => rfl) (fun _ _ => rfl) (pm_var 0) pm_int) pm_int) (pmb_cons (pms_set 2 sc__law_pick.nd (pm_bin op_modM (pm_callTy call_intM (by rfl) T.n_int bt_int (pma_cons (ix_M (r1 hr) (fun _ _ => rfl) (fun _ _ => rfl) (pm_var 0) pm_int) pma_nil)) (pm_var 1))) (pmb_cons (pms_put (r1 hr) (pm_var 0) pm_int (pm_bin op_fdivM (ix_M (r1 hr) (fun _ _ => rfl) (fun _ _ => rfl) (pm_var 0) pm_int) (pm_var 1))) (pmb_one (pms_ret (pm_var 2))))) pmb_nil) (pmb_cons (pms_put (r1 hr) (pm_var 0) pm_int (pm_bin op_addM (ix_M (r1 hr) (fun _ _ => rfl) (fun _ _ => rfl) (pm_var 0) pm_int) pm_int)) (pmb_cons (pms_set 3 sc__law_pick.nd (pm_bin op_modM (pm_callTy call_intM (by rfl) T.n_int bt_int (pma_cons (pm_bin op_addM (pm_bin op_addM (ix_M (r1 hr) (fun _ _ => rfl) (fun _ _ => rfl) (pm_var 0) pm_int) (pm_bin op_mulM (pm_bin op_mulM pm_int (ix_M (r1 hr) (fun _ _ => rfl) (fun _ _ => rfl) (pm_var 0) pm_int)) (ix_M (r1 hr) (fun _ _ => rfl) (fun _ _ => rfl) (pm_var 0) pm_int))) pm_int) pma_nil)) (pm_bin op_addM (pm_bin op_powM pm_int pm_int) pm_int))) (pmb_cons (pms_set 3 sc__law_pick.nd (pm_bin op_modM (pm_callTy call_intM (by rfl) T.n_int bt_int (pma_cons (pm_bin op_addM (pm_bin op_mulM (pm_bin op_mulM (pm_var 3) (pm_var 3)) (pm_var 3)) (pm_bin op_mulM pm_int (ix_M (r1 hr) (fun _ _ => rfl) (fun _ _ => rfl) (pm_var 0) pm_int))) pma_nil)) (pm_bin op_addM (pm_bin op_powM pm_int pm_int) pm_int))) (pmb_one (pms_ret (pm_bin op_modM (pm_callTy call_intM (by rfl) T.n_int bt_int (pma_cons (pm_bin op_fdivM (pm_var 3) pm_int) pma_nil)) (pm_var 1))))))))
abbrev st__law_one_of : Stmt := top 35
theorem sc__law_one_of : FnScope ["well", "things"] ["well", "things"] (defScope st__law_one_of) := ⟨rfl, rfl, rfl, by decide +kernel, rfl, by decide +kernel, by decide +kernel⟩
noncomputable def b__law_one_of : MS := (sRet (mOp2 subG (mVar 1) (mCall m__law_pick (mCons (mVar 0) (mCons (mCallB lenG (mCons (mVar 1) mNil)) mNil)))))
noncomputable def m__law_one_of : MF := mDef 2 b__law_one_of
theorem ok__law_one_of (T : Wd P K mg) : FnG P w K mg base CX0 2 T._law_one_of.f T._law_one_of.fd ["well", "things"] (spM K 2 m__law_one_of) :=
  fng_ok (fb := b__law_one_of) (N := ["well", "things"]) (ps := ["well", "things"]) (k := 1) T._law_one_of.F sc__law_one_of fun cdv A outer s H E gd hr => (pmb_one (pms_ret (ix_M (r1 hr) (fun _ _ => rfl) (fun _ _ => rfl) (pm_var 1) (pmG_call (ok__law_pick T) gd (hr.mono (by decide)) (by rfl) T._law_pick.m T._law_pick.F.kp (L2.Fun.binds (ps := ["well", "ways"]) T._law_pick.F fun _ _ _ _ _ _ us hl => match us, hl with | [_, _], _ => rfl) (pma_cons (pm_var 0) (pma_cons (pm_callB call_lenM (by rfl) T.n_len bt_len (pma_cons (pm_var 1) pma_nil)) pma_nil)) (cnt_cons (cnt_cons cnt_nil))))))
abbrev st__law_tally : Stmt := top 37
theorem sc__law_tally : FnScope ["steps", "found", "step"] ["steps"] (defScope st__law_tally) := ⟨rfl, rfl, rfl, by decide +kernel, rfl, by decide +kernel, by decide +kernel⟩
noncomputable def b__law_tally : MS := (sSeq (sSet 1 mDicC) (sSeq (sFor (mIt (mVar 0)) (gN 2) (sPut (mVar 1) (mVar 2) (mOp2 (lT2 addT) (mGet2 (mVar 1) (mVar 2) (mC (.int 0))) (mC (.int 1))))) (sSeq (sFrz 1) (sRet (mVar 1)))))
noncomputable def m__law_tally : MF := mDef 3 b__law_tally
theorem ok__law_tally (T : Wd P K mg) : FnG P w K mg base CX0 1 T._law_tally.f T._law_tally.fd ["steps"] (spM K 1 m__law_tally) :=
  fng_ok (fb := b__law_tally) (N := ["steps", "found", "step"]) (ps := ["steps"]) (k := 0) T._law_tally.F sc__law_tally fun cdv A outer s H E gd hr => (pmb_cons (pms_set 1 sc__law_tally.nd pm_dicC) (pmb_cons (pms_for PassesOwn.never rfl (pmi_seq (pm_var 0)) (pmg_name 2 sc__law_tally.nd) (pmb_one (pms_put (r1 hr) (pm_var 1) (pm_var 2) (pm_bin op_addM (pm_get2 (r1 hr) (pm_var 1) (pm_var 2) pm_int) pm_int)))) (pmb_frz 1 (pmb_one (pms_ret (pm_var 1))))))
abbrev st__law_round : Stmt := top 36
theorem sc__law_round : FnScope ["size", "ring", "longer", "at"] ["size", "ring"] (defScope st__law_round) := ⟨rfl, rfl, rfl, by decide +kernel, rfl, by decide +kernel, by decide +kernel⟩
noncomputable def b__law_round : MS := (sSeq (sSet 2 (mVar 1)) (sSeq (sWhile (mB (mOp2 (lT2 ltT) (mCallB lenG (mCons (mVar 2) mNil)) (mOp2 (lT2 addT) (mCallB lenG (mCons (mVar 1) mNil)) (mVar 0)))) (sSet 2 (mOp2 (lT2 addT) (mVar 2) (mVar 1)))) (sRet (mLcG finT (mI rng1Of (mCons (mCallB lenG (mCons (mVar 1) mNil)) mNil)) (gN 3) [3] mYes (mSl (mVar 2) (some (mVar 3)) (some (mOp2 (lT2 addT) (mVar 3) (mVar 0))))))))
noncomputable def m__law_round : MF := mDef 4 b__law_round
theorem ok__law_round (T : Wd P K mg) : FnG P w K mg base CX0 1 T._law_round.f T._law_round.fd ["size", "ring"] (spM K 2 m__law_round) :=
  fng_ok (fb := b__law_round) (N := ["size", "ring", "longer", "at"]) (ps := ["size", "ring"]) (k := 0) T._law_round.F sc__law_round fun cdv A outer s H E gd hr => (pmb_cons (pms_set 2 sc__law_round.nd (pm_var 1)) (pmb_cons (pms_while PassesOwn.never (pmt_cmp (op_ltM (r64 hr)) (pm_callB call_lenM (by rfl) T.n_len bt_len (pma_cons (pm_var 2) pma_nil)) (pm_bin op_addM (pm_callB call_lenM (by rfl) T.n_len bt_len (pma_cons (pm_var 1) pma_nil)) (pm_var 0))) (pmb_one (pms_set 2 sc__law_round.nd (pm_bin op_addM (pm_var 2) (pm_var 1))))) (pmb_one (pms_ret (pm_lcG (own := [(("at" : Str), 3)]) (ow := [3]) fin_T rfl sc__law_round.nd (pmi_range1 (by rfl) T.n_range (pma_cons (pm_callB call_lenM (by rfl) T.n_len bt_len (pma_cons (pm_var 1) pma_nil)) pma_nil)) ⟨rfl, of_decide_eq_true (by kernel_rfl), of_decide_eq_true (by kernel_rfl), of_decide_eq_true (by kernel_rfl), of_decide_eq_true (by kernel_rfl)⟩ (fun s H C cl fp => (pmg_name 3 sc__law_round.nd)) (fun s H C cl fp => pmts_nil) (fun s H C cl fp => (pm_sl (pm_var 2) (pmp_some (pm_var 3)) (pmp_some (pm_bin op_addM (pm_var 3) (pm_var 0))))))))))
abbrev st__law_without : Stmt := top 41
theorem sc__law_without : FnScope ["windows", "lot", "window"] ["windows", "lot"] (defScope st__law_without) := ⟨rfl, rfl, rfl, by decide +kernel, rfl, by decide +kernel, by decide +kernel⟩
noncomputable def b__law_without : MS := (sRet (mLcG finT (mIt (mVar 0)) (gN 2) [2] (mB (mOp2 (inG true) (mVar 2) (mVar 1))) (mVar 2)))
noncomputable def m__law_without : MF := mDef 3 b__law_without
theorem ok__law_without (T : Wd P K mg) : FnG P w K mg base CX0 1 T._law_without.f T._law_without.fd ["windows", "lot"] (spM K 2 m__law_without) :=
  fng_ok (fb := b__law_without) (N := ["windows", "lot", "window"]) (ps := ["windows", "lot"]) (k := 0) T._law_without.F sc__law_without fun cdv A outer s H E gd hr => (pmb_one (pms_ret (pm_lcG (own := [(("window" : Str), 2)]) (ow := [2]) fin_T rfl sc__law_without.nd (pmi_seq (pm_var 0)) ⟨rfl, of_decide_eq_true (by kernel_rfl), of_decide_eq_true (by kernel_rfl), of_decide_eq_true (by kernel_rfl), of_decide_eq_true (by kernel_rfl)⟩ (fun s H C cl fp => (pmg_name 2 sc__law_without.nd)) (fun s H C cl fp => (pmts_one (pmt_cmp (op_inM true (r65 hr)) (pm_var 2) (pm_var 1)))) (fun s H C cl fp => (pm_var 2)))))
abbrev st__law_wide_book : Stmt := top 42
theorem sc__law_wide_book : FnScope ["well", "most", "size", "letters", "steps", "rings", "turn", "some", "ring", "letter", "windows", "known"] ["well", "most"] (defScope st__law_wide_book) := ⟨rfl, rfl, rfl, by decide +kernel, rfl, by decide +kernel, by decide +kernel⟩
noncomputable def b__law_wide_book : MS := (sSeq (sPar2 2 3 (mCons (mOp2 (lT2 addT) (mC (.int 2)) (mCall m__law_pick (mCons (mVar 0) (mCons (mC (.int 5)) mNil)))) (mCons (mCall m__law_one_of (mCons (mVar 0) (mCons (mLst (mCons (mC (.str (cs "ab"))) (mCons (mC (.str (cs "abc"))) (mCons (mC (.str (cs "abcd"))) (mCons (mC (.str (cs "bdfhz"))) (mCons (mC (.str (cs "acegikmo"))) mNil)))))) mNil))) mNil))) (sSeq (sPar2 4 5 (mCons (mLst mNil) (mCons (mLstC mNil) mNil))) (sSeq (sFor (mI rng1Of (mCons (mOp2 (lT2 addT) (mC (.int 1)) (mCall m__law_pick (mCons (mVar 0) (mCons (mC (.int 5)) mNil)))) mNil)) (gN 6) (sSeq (sSet 7 (mCall m__law_one_of (mCons (mVar 0) (mCons (mLst (mCons (mVar 3) (mCons (mVar 3) (mCons (mSl (mVar 3) none (some (mC (.int 2)))) (mCons (mOp2 (lT2 addT) (mSl (mVar 3) (some (mC (.int 1))) none) (mC (.str (cs "k")))) mNil))))) mNil)))) (sSeq (sSet 8 (mMeth kdStr joinG (mC (.str (cs ""))) (mCons (mLcG finT (mI rng1Of (mCons (mOp2 (lT2 addT) (mC (.int 1)) (mCall m__law_pick (mCons (mVar 0) (mCons (mVar 1) mNil)))) mNil)) (gN 9) [9] mYes (mCall m__law_one_of (mCons (mVar 0) (mCons (mVar 7) mNil)))) mNil))) (sIf (mB (mOp2 (lT2 leT) (mCallB lenG (mCons (mCall (pureZ m__law_tally) (mCons (mOp2 (lT2 addT) (mVar 4) (mCall (pureZ m__law_round) (mCons (mVar 2) (mCons (mVar 8) mNil)))) mNil)) mNil)) (mVar 1))) (sSeq (sSet 4 (mOp2 (lT2 addT) (mVar 4) (mCall (pureZ m__law_round) (mCons (mVar 2) (mCons (mVar 8) mNil))))) (sExpr (mMeth kdLst appendG (mVar 5) (mCons (mVar 8) mNil)))) sNil)))) (sSeq (sFor (mI rng1Of (mCons (mCall m__law_one_of (mCons (mVar 0) (mCons (mLst (mCons (mC (.int 0)) (mCons (mC (.int 0)) (mCons (mC (.int 0)) (mCons (mC (.int 1)) (mCons (mC (.int 3)) mNil)))))) mNil))) mNil)) (gN 6) (sSet 4 (mOp2 (lT2 addT) (mVar 4) (mLst (mCons (mMeth kdStr joinG (mC (.str (cs ""))) (mCons (mLcG finT (mI rng1Of (mCons (mVar 2) mNil)) (gN 9) [9] mYes (mCall m__law_one_of (mCons (mVar 0) (mCons (mVar 3) mNil)))) mNil)) mNil))))) (sSeq (sSet 10 (mSlCC (mSort mkC (mCall (pureZ m__law_tally) (mCons (mVar 4) mNil))) none (some (mVar 1)))) (sSeq (sFor (mI rng1Of (mCons (mCall m__law_one_of (mCons (mVar 0) (mCons (mLst (mCons (mC (.int 0)) (mCons (mC (.int 0)) (mCons (mC (.int 0)) (mCons (mC (.int 1)) (mCons (mC (.int 2)) mNil)))))) mNil))) mNil)) (gN 6) (sIf (mB (mOp2 (lT2 gtT) (mCallB lenG (mCons (mVar 10) mNil)) (mC (.int 1)))) (sExpr (mMeth kdLst popG (mVar 10) (mCons (mCall m__law_pick (mCons (mVar 0) (mCons (mCallB lenG (mCons (mVar 10) mNil)) mNil))) mNil))) sNil)) (sSeq (sFrz 10) (sSeq (sFrz 5) (sSeq (sSet 11 (mLcG finT (mIt (mVar 5)) (gN 8) [8] (mB (mOp2 (lT2 eqT) (mCallB lenG (mCons (mCall (pureZ m__law_without) (mCons (mCall (pureZ m__law_round) (mCons (mVar 2) (mCons (mVar 8) mNil))) (mCons (mVar 10) mNil))) mNil)) (mC (.int 0)))) (mVar 8))) (sRet (mTup (mCons (mTup (mCons (mVar 2) (mCons (mCallB (lTL tupOfT) (mCons (mVar 10) mNil)) mNil))) (mCons (mVar 11) mNil)))))))))))))
noncomputable def m__law_wide_book : MF := mDef 12 b__law_wide_book
theorem ok__law_wide_book (T : Wd P K mg) : FnG P w K mg base CX0 3 T._law_wide_book.f T._law_wide_book.fd ["well", "most"] (spM K 2 m__law_wide_book) :=
  fng_ok (fb := b__law_wide_book) (N := ["well", "most", "size", "letters", "steps", "rings", "turn", "some", "ring", "letter", "windows", "known"]) (ps := ["well", "most"]) (k := 2) T._law_wide_book.F sc__law_wide_book fun cdv A outer s H E gd hr => (pmb_cons (pms_tup2 2 3 rfl sc__law_wide_book.nd (pma_cons (pm_bin op_addM pm_int (pmG_call (ok__law_pick T) gd (hr.mono (by decide)) (by rfl) T._law_pick.m T._law_pick.F.kp (L2.Fun.binds (ps := ["well", "ways"]) T._law_pick.F fun _ _ _ _ _ _ us hl => match us, hl with | [_, _], _ => rfl) (pma_cons (pm_var 0) (pma_cons pm_int pma_nil)) (cnt_cons (cnt_cons cnt_nil)))) (pma_cons (pmG_call (ok__law_one_of T) gd (hr.mono (by decide)) (by rfl) T._law_one_of.m T._law_one_of.F.kp (L2.Fun.binds (ps := ["well", "things"]) T._law_one_of.F fun _ _ _ _ _ _ us hl => match us, hl with | [_, _], _ => rfl) (pma_cons (pm_var 0) (pma_cons (pm_lst (pma_cons (pm_str (cs "ab") (sv_cs _) (by decide)) (pma_cons (pm_str (cs "abc") (sv_cs _) (by decide)) (pma_cons (pm_str (cs "abcd") (sv_cs _) (by decide)) (pma_cons (pm_str (cs "bdfhz") (sv_cs _) (by decide)) (pma_cons (pm_str (cs "acegikmo") (sv_cs _) (by decide)) pma_nil)))))) pma_nil)) (cnt_cons (cnt_cons cnt_nil))) pma_nil))) (pmb_cons (pms_par2 4 5 rfl sc__law_wide_book.nd (pma_cons (pm_lst pma_nil) (pma_cons (pm_lstC pma_nil) pma_nil))) (pmb_cons (pms_for PassesOwn.never rfl (pmi_range1 (by rfl) T.n_range (pma_cons (pm_bin op_addM pm_int (pmG_call (ok__law_pick T) gd (hr.mono (by decide)) (by rfl) T._law_pick.m T._law_pick.F.kp (L2.Fun.binds (ps := ["well", "ways"]) T._law_pick.F fun _ _ _ _ _ _ us hl => match us, hl with | [_, _], _ => rfl) (pma_cons (pm_var 0) (pma_cons pm_int pma_nil)) (cnt_cons (cnt_cons cnt_nil)))) pma_nil)) (pmg_name 6 sc__law_wide_book.nd) (pmb_cons (pms_set 7 sc__law_wide_book.nd (pmG_call (ok__law_one_of T) gd (hr.mono (by decide)) (by rfl) T._law_one_of.m T._law_one_of.F.kp (L2.Fun.binds (ps := ["well", "things"]) T._law_one_of.F fun _ _ _ _ _ _ us hl => match us, hl with | [_, _], _ => rfl) (pma_cons (pm_var 0) (pma_cons (pm_lst (pma_cons (pm_var 3) (pma_cons (pm_var 3) (pma_cons (pm_sl (pm_var 3) pmp_none (pmp_some pm_int)) (pma_cons (pm_bin op_addM (pm_sl (pm_var 3) (pmp_some pm_int) pmp_none) (pm_str (cs "k") (sv_cs _) (by decide))) pma_nil))))) pma_nil)) (cnt_cons (cnt_cons cnt_nil)))) (pmb_cons (pms_set 8 sc__law_wide_book.nd (pm_meth PySem.F.plainAttrs_str PySem.F.slot_str_join PySem.F.type_str_join kd_str mt_joinM (pm_str (cs "") (sv_cs _) (by decide)) (pma_cons (pm_lcG (own := [(("letter" : Str), 9)]) (ow := [9]) fin_T rfl sc__law_wide_book.nd (pmi_range1 (by rfl) T.n_range (pma_cons (pm_bin op_addM pm_int (pmG_call (ok__law_pick T) gd (hr.mono (by decide)) (by rfl) T._law_pick.m T._law_pick.F.kp (L2.Fun.binds (ps := ["well", "ways"]) T._law_pick.F fun _ _ _ _ _ _ us hl => match us, hl with | [_, _], _ => rfl) (pma_cons (pm_var 0) (pma_cons (pm_var 1) pma_nil)) (cnt_cons (cnt_cons cnt_nil)))) pma_nil)) ⟨rfl, of_decide_eq_true (by kernel_rfl), of_decide_eq_true (by kernel_rfl), of_decide_eq_true (by kernel_rfl), of_decide_eq_true (by kernel_rfl)⟩ (fun s H C cl fp => (pmg_name 9 sc__law_wide_book.nd)) (fun s H C cl fp => pmts_nil) (fun s H C cl fp => (pmG_call (ok__law_one_of T) gd (hr.mono (by decide)) (by rfl) T._law_one_of.m T._law_one_of.F.kp (L2.Fun.binds (ps := ["well", "things"]) T._law_one_of.F fun _ _ _ _ _ _ us hl => match us, hl with | [_, _], _ => rfl) (pma_cons (pm_var 0) (pma_cons (pm_var 7) pma_nil)) (cnt_cons (cnt_cons cnt_nil))))) pma_nil))) (pmb_one (pms_if (pmt_cmp (op_leM (r64 hr)) (pm_callB call_lenM (by rfl) T.n_len bt_len (pma_cons (pmG_call (fng_tree (ok__law_tally T)) gd (hr.mono (by decide)) (by rfl) T._law_tally.m T._law_tally.F.kp (L2.Fun.binds (ps := ["steps"]) T._law_tally.F fun _ _ _ _ _ _ us hl => match us, hl with | [_], _ => rfl) (pma_cons (pm_bin op_addM (pm_var 4) (pmG_call (fng_tree (ok__law_round T)) gd (hr.mono (by decide)) (by rfl) T._law_round.m T._law_round.F.kp (L2.Fun.binds (ps := ["size", "ring"]) T._law_round.F fun _ _ _ _ _ _ us hl => match us, hl with | [_, _], _ => rfl) (pma_cons (pm_var 2) (pma_cons (pm_var 8) pma_nil)) (cnt_cons (cnt_cons cnt_nil)))) pma_nil) (cnt_cons cnt_nil)) pma_nil)) (pm_var 1)) (pmb_cons (pms_set 4 sc__law_wide_book.nd (pm_bin op_addM (pm_var 4) (pmG_call (fng_tree (ok__law_round T)) gd (hr.mono (by decide)) (by rfl) T._law_round.m T._law_round.F.kp (L2.Fun.binds (ps := ["size", "ring"]) T._law_round.F fun _ _ _ _ _ _ us hl => match us, hl with | [_, _], _ => rfl) (pma_cons (pm_var 2) (pma_cons (pm_var 8) pma_nil)) (cnt_cons (cnt_cons cnt_nil))))) (pmb_one (pms_expr (pm_meth PySem.F.plainAttrs_list PySem.F.slot_list_append PySem.F.type_list_append kd_lst mt_appendM (pm_var 5) (pma_cons (pm_var 8) pma_nil))))) pmb_nil))))) (pmb_cons (pms_for PassesOwn.never rfl (pmi_range1 (by rfl) T.n_range (pma_cons (pmG_call (ok__law_one_of T) gd (hr.mono (by decide)) (by rfl) T._law_one_of.m T._law_one_of.F.kp (L2.Fun.binds (ps := ["well", "things"]) T._law_one_of.F fun _ _ _ _ _ _ us hl => match us, hl with | [_, _], _ => rfl) (pma_cons (pm_var 0) (pma_cons (pm_lst (pma_cons pm_int (pma_cons pm_int (pma_cons pm_int (pma_cons pm_int (pma_cons pm_int pma_nil)))))) pma_nil)) (cnt_cons (cnt_cons cnt_nil))) pma_nil)) (pmg_name 6 sc__law_wide_book.nd) (pmb_one (pms_set 4 sc__law_wide_book.nd (pm_bin op_addM (pm_var 4) (pm_lst (pma_cons (pm_meth PySem.F.plainAttrs_str PySem.F.slot_str_join PySem.F.type_str_join kd_str mt_joinM (pm_str (cs "") (sv_cs _) (by decide)) (pma_cons (pm_lcG (own := [(("letter" : Str), 9)]) (ow := [9]) fin_T rfl sc__law_wide_book.nd (pmi_range1 (by rfl) T.n_range (pma_cons (pm_var 2) pma_nil)) ⟨rfl, of_decide_eq_true (by kernel_rfl), of_decide_eq_true (by kernel_rfl), of_decide_eq_true (by kernel_rfl), of_decide_eq_true (by kernel_rfl)⟩ (fun s H C cl fp => (pmg_name 9 sc__law_wide_book.nd)) (fun s H C cl fp => pmts_nil) (fun s H C cl fp => (pmG_call (ok__law_one_of T) gd (hr.mono (by decide)) (by rfl) T._law_one_of.m T._law_one_of.F.kp (L2.Fun.binds (ps := ["well", "things"]) T._law_one_of.F fun _ _ _ _ _ _ us hl => match us, hl with | [_, _], _ => rfl) (pma_cons (pm_var 0) (pma_cons (pm_var 3) pma_nil)) (cnt_cons (cnt_cons cnt_nil))))) pma_nil)) pma_nil)))))) (pmb_cons (pms_set 10 sc__law_wide_book.nd (pm_slCC (pm_sort mk_C rfl (r65 hr) (by rfl) T.n_sorted (pmG_call (fng_tree (ok__law_tally T)) gd (hr.mono (by decide)) (by rfl) T._law_tally.m T._law_tally.F.kp (L2.Fun.binds (ps := ["steps"]) T._law_tally.F fun _ _ _ _ _ _ us hl => match us, hl with | [_], _ => rfl) (pma_cons (pm_var 4) pma_nil) (cnt_cons cnt_nil))) pmp_none (pmp_some (pm_var 1)))) (pmb_cons (pms_for PassesOwn.never rfl (pmi_range1 (by rfl) T.n_range (pma_cons (pmG_call (ok__law_one_of T) gd (hr.mono (by decide)) (by rfl) T._law_one_of.m T._law_one_of.F.kp (L2.Fun.binds (ps := ["well", "things"]) T._law_one_of.F fun _ _ _ _ _ _ us hl => match us, hl with | [_, _], _ => rfl) (pma_cons (pm_var 0) (pma_cons (pm_lst (pma_cons pm_int (pma_cons pm_int (pma_cons pm_int (pma_cons pm_int (pma_cons pm_int pma_nil)))))) pma_nil)) (cnt_cons (cnt_cons cnt_nil))) pma_nil)) (pmg_name 6 sc__law_wide_book.nd) (pmb_one (pms_if (pmt_cmp (op_gtM (r64 hr)) (pm_callB call_lenM (by rfl) T.n_len bt_len (pma_cons (pm_var 10) pma_nil)) pm_int) (pmb_one (pms_expr (pm_meth PySem.F.plainAttrs_list PySem.F.slot_list_pop PySem.F.type_list_pop kd_lst mt_popM (pm_var 10) (pma_cons (pmG_call (ok__law_pick T) gd (hr.mono (by decide)) (by rfl) T._law_pick.m T._law_pick.F.kp (L2.Fun.binds (ps := ["well", "ways"]) T._law_pick.F fun _ _ _ _ _ _ us hl => match us, hl with | [_, _], _ => rfl) (pma_cons (pm_var 0) (pma_cons (pm_callB call_lenM (by rfl) T.n_len bt_len (pma_cons (pm_var 10) pma_nil)) pma_nil)) (cnt_cons (cnt_cons cnt_nil))) pma_nil)))) pmb_nil))) (pmb_frz 10 (pmb_frz 5 (pmb_cons (pms_setLcG 11 (own := [(("ring" : Str), 8)]) (ow := [8]) fin_T rfl sc__law_wide_book.nd (pmi_seq (pm_var 5)) ⟨rfl, of_decide_eq_true (by kernel_rfl), of_decide_eq_true (by kernel_rfl), of_decide_eq_true (by kernel_rfl), of_decide_eq_true (by kernel_rfl)⟩ (fun s H C cl fp => (pmg_name 8 sc__law_wide_book.nd)) (fun s H C cl fp => (pmts_one (pmt_cmp (op_eqM (r64 hr)) (pm_callB call_lenM (by rfl) T.n_len bt_len (pma_cons (pmG_call (fng_tree (ok__law_without T)) gd (hr.mono (by decide)) (by rfl) T._law_without.m T._law_without.F.kp (L2.Fun.binds (ps := ["windows", "lot"]) T._law_without.F fun _ _ _ _ _ _ us hl => match us, hl with | [_, _], _ => rfl) (pma_cons (pmG_call (fng_tree (ok__law_round T)) gd (hr.mono (by decide)) (by rfl) T._law_round.m T._law_round.F.kp (L2.Fun.binds (ps := ["size", "ring"]) T._law_round.F fun _ _ _ _ _ _ us hl => match us, hl with | [_, _], _ => rfl) (pma_cons (pm_var 2) (pma_cons (pm_var 8) pma_nil)) (cnt_cons (cnt_cons cnt_nil))) (pma_cons (pm_var 10) pma_nil)) (cnt_cons (cnt_cons cnt_nil))) pma_nil)) pm_int))) (fun s H C cl fp => (pm_var 8))) (pmb_one (pms_ret (pm_tup (pma_cons (pm_tup (pma_cons (pm_var 2) (pma_cons (pm_callTy call_tupM (by rfl) T.n_tuple bt_tuple (pma_cons (pm_var 10) pma_nil)) pma_nil))) (pma_cons (pm_var 11) pma_nil))))))))))))))
abbrev st_is_integer : Stmt := top 9
theorem sc_is_integer : FnScope ["value"] ["value"] (defScope st_is_integer) := ⟨rfl, rfl, rfl, by decide +kernel, rfl, by decide +kernel, by decide +kernel⟩
noncomputable def b_is_integer : MS := (sRet (mAnd (mCallB isiG (mCons (mVar 0) (mCons (mC (.ty "int")) mNil))) (mNot (mCallB isiG (mCons (mVar 0) (mCons (mC (.ty "bool")) mNil))))))
noncomputable def m_is_integer : MF := mDef 1 b_is_integer
theorem ok_is_integer (T : Wd P K mg) : FnG P w K mg base CX0 1 T.is_integer.f T.is_integer.fd ["value"] (spM K 1 m_is_integer) :=
  fng_ok (fb := b_is_integer) (N := ["value"]) (ps := ["value"]) (k := 0) T.is_integer.F sc_is_integer fun cdv A outer s H E gd hr => (pmb_one (pms_ret (pm_and (pm_callB call_isiM (by rfl) T.n_isinstance bt_isinstance (pma_cons (pm_var 0) (pma_cons (pm_ty (by rfl) T.n_int bt_int) pma_nil))) (pm_one (pm_not (pm_callB call_isiM (by rfl) T.n_isinstance bt_isinstance (pma_cons (pm_var 0) (pma_cons (pm_ty (by rfl) T.n_bool bt_bool) pma_nil))))))))
abbrev st_is_size : Stmt := top 13
theorem sc_is_size : FnScope ["value"] ["value"] (defScope st_is_size) := ⟨rfl, rfl, rfl, by decide +kernel, rfl, by decide +kernel, by decide +kernel⟩
noncomputable def b_is_size : MS := (sRet (mAnd (mCall (pureZ m_is_integer) (mCons (mVar 0) mNil)) (mChain (lT2 leT) (lT2 leT) (mC (.int 2)) (mVar 0) (mC (.int 6)))))
noncomputable def m_is_size : MF := mDef 1 b_is_size
theorem ok_is_size (T : Wd P K mg) : FnG P w K mg base CX0 2 T.is_size.f T.is_size.fd ["value"] (spM K 1 m_is_size) :=
  fng_ok (fb := b_is_size) (N := ["value"]) (ps := ["value"]) (k := 1) T.is_size.F sc_is_size fun cdv A outer s H E gd hr => (pmb_one (pms_ret (pm_and (pmG_call (fng_tree (ok_is_integer T)) gd (hr.mono (by decide)) (by rfl) T.is_integer.m T.is_integer.F.kp (L2.Fun.binds (ps := ["value"]) T.is_integer.F fun _ _ _ _ _ _ us hl => match us, hl with | [_], _ => rfl) (pma_cons (pm_var 0) pma_nil) (cnt_cons cnt_nil)) (pm_one (pm_chain (op_leM (r64 hr)) (op_leM (r64 hr)) (pm_globI (by rfl) T.c_LEAST_SIZE) (pm_var 0) (pm_globI (by rfl) T.c_MOST_SIZE))))))
abbrev st_is_word : Stmt := top 12
theorem sc_is_word : FnScope ["value", "sign"] ["value"] (defScope st_is_word) := ⟨rfl, rfl, rfl, by decide +kernel, rfl, by decide +kernel, by decide +kernel⟩
noncomputable def b_is_word : MS := (sRet (mAnd (mCallB isiG (mCons (mVar 0) (mCons (mC (.ty "str")) mNil))) (mCallB (lTL allT) (mCons (mLcG finT (mIt (mVar 0)) (gN 1) [1] mYes (mOp2 (inG false) (mVar 1) (mC (.str (cs "abcdefghijklmnopqrstuvwxyz"))))) mNil))))
noncomputable def m_is_word : MF := mDef 2 b_is_word
theorem ok_is_word (T : Wd P K mg) : FnG P w K mg base CX0 1 T.is_word.f T.is_word.fd ["value"] (spM K 1 m_is_word) :=
  fng_ok (fb := b_is_word) (N := ["value", "sign"]) (ps := ["value"]) (k := 0) T.is_word.F sc_is_word fun cdv A outer s H E gd hr => (pmb_one (pms_ret (pm_and (pm_callB call_isiM (by rfl) T.n_isinstance bt_isinstance (pma_cons (pm_var 0) (pma_cons (pm_ty (by rfl) T.n_str bt_str) pma_nil))) (pm_one (pm_callB (call_allM rfl) (by rfl) T.n_all bt_all (pma_cons (pm_lcG (own := [(("sign" : Str), 1)]) (ow := [1]) fin_T rfl sc_is_word.nd (pmi_seq (pm_var 0)) ⟨rfl, of_decide_eq_true (by kernel_rfl), of_decide_eq_true (by kernel_rfl), of_decide_eq_true (by kernel_rfl), of_decide_eq_true (by kernel_rfl)⟩ (fun s H C cl fp => (pmg_name 1 sc_is_word.nd)) (fun s H C cl fp => pmts_nil) (fun s H C cl fp => (pm_cmp (op_inM false (r65 hr)) (pm_var 1) (pm_globS (cs "abcdefghijklmnopqrstuvwxyz") (by rfl) T.c_LETTERS (sv_cs _) (by decide))))) pma_nil))))))
abbrev st_are_ascending : Stmt := top 11
theorem sc_are_ascending : FnScope ["values", "at"] ["values"] (defScope st_are_ascending) := ⟨rfl, rfl, rfl, by decide +kernel, rfl, by decide +kernel, by decide +kernel⟩
noncomputable def b_are_ascending : MS := (sRet (mCallB (lTL allT) (mCons (mLcG finT (mI rng1Of (mCons (mOp2 (lT2 subT) (mCallB lenG (mCons (mVar 0) mNil)) (mC (.int 1))) mNil)) (gN 1) [1] mYes (mOp2 (lT2 ltT) (mOp2 subG (mVar 0) (mVar 1)) (mOp2 subG (mVar 0) (mOp2 (lT2 addT) (mVar 1) (mC (.int 1)))))) mNil)))
noncomputable def m_are_ascending : MF := mDef 2 b_are_ascending
theorem ok_are_ascending (T : Wd P K mg) : FnG P w K mg base CX0 1 T.are_ascending.f T.are_ascending.fd ["values"] (spM K 1 m_are_ascending) :=
  fng_ok (fb := b_are_ascending) (N := ["values", "at"]) (ps := ["values"]) (k := 0) T.are_ascending.F sc_are_ascending fun cdv A outer s H E gd hr => (pmb_one (pms_ret (pm_callB (call_allM rfl) (by rfl) T.n_all bt_all (pma_cons (pm_lcG (own := [(("at" : Str), 1)]) (ow := [1]) fin_T rfl sc_are_ascending.nd (pmi_range1 (by rfl) T.n_range (pma_cons (pm_bin op_subM (pm_callB call_lenM (by rfl) T.n_len bt_len (pma_cons (pm_var 0) pma_nil)) pm_int) pma_nil)) ⟨rfl, of_decide_eq_true (by kernel_rfl), of_decide_eq_true (by kernel_rfl), of_decide_eq_true (by kernel_rfl), of_decide_eq_true (by kernel_rfl)⟩ (fun s H C cl fp => (pmg_name 1 sc_are_ascending.nd)) (fun s H C cl fp => pmts_nil) (fun s H C cl fp => (pm_cmp (op_ltM (r64 hr)) (ix_M (r1 hr) (fun _ _ => rfl) (fun _ _ => rfl) (pm_var 0) (pm_var 1)) (ix_M (r1 hr) (fun _ _ => rfl) (fun _ _ => rfl) (pm_var 0) (pm_bin op_addM (pm_var 1) pm_int))))) pma_nil))))
abbrev st_are_windows : Stmt := top 14
theorem sc_are_windows : FnScope ["size", "value", "window"] ["size", "value"] (defScope st_are_windows) := ⟨rfl, rfl, rfl, by decide +kernel, rfl, by decide +kernel, by decide +kernel⟩
noncomputable def b_are_windows : MS := (sSeq (sIf (mOrT (mNotT (mT (mCallB isiG (mCons (mVar 1) (mCons (mC (.ty "tuple")) mNil))))) (mNotT (mT (mCallB (lTL allT) (mCons (mLcG finT (mIt (mVar 1)) (gN 2) [2] mYes (mAnd (mCall (pureZ m_is_word) (mCons (mVar 2) mNil)) (mOp2 (lT2 eqT) (mCallB lenG (mCons (mVar 2) mNil)) (mVar 0)))) mNil))))) (sRet (mC (.bl false))) sNil) (sRet (mCall (pureZ m_are_ascending) (mCons (mVar 1) mNil))))
noncomputable def m_are_windows : MF := mDef 3 b_are_windows
theorem ok_are_windows (T : Wd P K mg) : FnG P w K mg base CX0 2 T.are_windows.f T.are_windows.fd ["size", "value"] (spM K 2 m_are_windows) :=
  fng_ok (fb := b_are_windows) (N := ["size", "value", "window"]) (ps := ["size", "value"]) (k := 1) T.are_windows.F sc_are_windows fun cdv A outer s H E gd hr => (pmb_cons (pms_if ((pmw_or (pmt_not (pmt_val (pm_callB call_isiM (by rfl) T.n_isinstance bt_isinstance (pma_cons (pm_var 1) (pma_cons (pm_ty (by rfl) T.n_tuple bt_tuple) pma_nil))))) (pmw_or1 (pmt_not (pmt_val (pm_callB (call_allM rfl) (by rfl) T.n_all bt_all (pma_cons (pm_lcG (own := [(("window" : Str), 2)]) (ow := [2]) fin_T rfl sc_are_windows.nd (pmi_seq (pm_var 1)) ⟨rfl, of_decide_eq_true (by kernel_rfl), of_decide_eq_true (by kernel_rfl), of_decide_eq_true (by kernel_rfl), of_decide_eq_true (by kernel_rfl)⟩ (fun s H C cl fp => (pmg_name 2 sc_are_windows.nd)) (fun s H C cl fp => pmts_nil) (fun s H C cl fp => (pm_and (pmG_call (fng_tree (ok_is_word T)) gd (hr.mono (by decide)) (by rfl) T.is_word.m T.is_word.F.kp (L2.Fun.binds (ps := ["value"]) T.is_word.F fun _ _ _ _ _ _ us hl => match us, hl with | [_], _ => rfl) (pma_cons (pm_var 2) pma_nil) (cnt_cons cnt_nil)) (pm_one (pm_cmp (op_eqM (r64 hr)) (pm_callB call_lenM (by rfl) T.n_len bt_len (pma_cons (pm_var 2) pma_nil)) (pm_var 0)))))) pma_nil))))))).pt (pmb_one (pms_ret pm_bl)) pmb_nil) (pmb_one (pms_ret (pmG_call (fng_tree (ok_are_ascending T)) gd (hr.mono (by decide)) (by rfl) T.are_ascending.m T.are_ascending.F.kp (L2.Fun.binds (ps := ["values"]) T.are_ascending.F fun _ _ _ _ _ _ us hl => match us, hl with | [_], _ => rfl) (pma_cons (pm_var 1) pma_nil) (cnt_cons cnt_nil)))))
abbrev st_is_a_book : Stmt := top 15
theorem sc_is_a_book : FnScope ["value"] ["value"] (defScope st_is_a_book) := ⟨rfl, rfl, rfl, by decide +kernel, rfl, by decide +kernel, by decide +kernel⟩
noncomputable def b_is_a_book : MS := (sSeq (sIf (mOrT (mNotT (mT (mCallB isiG (mCons (mVar 0) (mCons (mC (.ty "tuple")) mNil))))) (mOrT (mB (mOp2 (lT2 neT) (mCallB lenG (mCons (mVar 0) mNil)) (mC (.int 2)))) (mNotT (mT (mCall (pureZ m_is_size) (mCons (mOp2 subG (mVar 0) (mC (.int 0))) mNil)))))) (sRet (mC (.bl false))) sNil) (sRet (mAnd (mCall (pureZ m_are_windows) (mCons (mOp2 subG (mVar 0) (mC (.int 0))) (mCons (mOp2 subG (mVar 0) (mC (.int 1))) mNil))) (mOp2 (lT2 gtT) (mCallB lenG (mCons (mOp2 subG (mVar 0) (mC (.int 1))) mNil)) (mC (.int 0))))))
noncomputable def m_is_a_book : MF := mDef 1 b_is_a_book
theorem ok_is_a_book (T : Wd P K mg) : FnG P w K mg base CX0 3 T.is_a_book.f T.is_a_book.fd ["value"] (spM K 1 m_is_a_book) :=
  fng_ok (fb := b_is_a_book) (N := ["value"]) (ps := ["value"]) (k := 2) T.is_a_book.F sc_is_a_book fun cdv A outer s H E gd hr => (pmb_cons (pms_if ((pmw_or (pmt_not (pmt_val (pm_callB call_isiM (by rfl) T.n_isinstance bt_isinstance (pma_cons (pm_var 0) (pma_cons (pm_ty (by rfl) T.n_tuple bt_tuple) pma_nil))))) (pmw_or (pmt_cmp (op_neM (r64 hr)) (pm_callB call_lenM (by rfl) T.n_len bt_len (pma_cons (pm_var 0) pma_nil)) pm_int) (pmw_or1 (pmt_not (pmt_val (pmG_call (fng_tree (ok_is_size T)) gd (hr.mono (by decide)) (by rfl) T.is_size.m T.is_size.F.kp (L2.Fun.binds (ps := ["value"]) T.is_size.F fun _ _ _ _ _ _ us hl => match us, hl with | [_], _ => rfl) (pma_cons (ix_M (r1 hr) (fun _ _ => rfl) (fun _ _ => rfl) (pm_var 0) pm_int) pma_nil) (cnt_cons cnt_nil)))))))).pt (pmb_one (pms_ret pm_bl)) pmb_nil) (pmb_one (pms_ret (pm_and (pmG_call (fng_tree (ok_are_windows T)) gd (hr.mono (by decide)) (by rfl) T.are_windows.m T.are_windows.F.kp (L2.Fun.binds (ps := ["size", "value"]) T.are_windows.F fun _ _ _ _ _ _ us hl => match us, hl with | [_, _], _ => rfl) (pma_cons (ix_M (r1 hr) (fun _ _ => rfl) (fun _ _ => rfl) (pm_var 0) pm_int) (pma_cons (ix_M (r1 hr) (fun _ _ => rfl) (fun _ _ => rfl) (pm_var 0) pm_int) pma_nil)) (cnt_cons (cnt_cons cnt_nil))) (pm_one (pm_cmp (op_gtM (r64 hr)) (pm_callB call_lenM (by rfl) T.n_len bt_len (pma_cons (ix_M (r1 hr) (fun _ _ => rfl) (fun _ _ => rfl) (pm_var 0) pm_int) pma_nil)) pm_int))))))
abbrev st_anew : Stmt := top 10
theorem sc_anew : FnScope ["value", "part"] ["value"] (defScope st_anew) := ⟨rfl, rfl, rfl, by decide +kernel, rfl, by decide +kernel, by decide +kernel⟩
noncomputable def m_anew : Nat → MF
  | 0 => fun _ _ _ => .no
  | k + 1 => mDef 2 ((sSeq (sIf (mT (mCallB isiG (mCons (mVar 0) (mCons (mC (.ty "list")) mNil)))) (sRet (mLcG finT (mIt (mVar 0)) (gN 1) [1] mYes (mCall (pureZ (m_anew k)) (mCons (mVar 1) mNil)))) sNil) (sSeq (sIf (mT (mCallB isiG (mCons (mVar 0) (mCons (mC (.ty "tuple")) mNil)))) (sRet (mCallB (lTL tupOfT) (mCons (mLcG finT (mIt (mVar 0)) (gN 1) [1] mYes (mCall (pureZ (m_anew k)) (mCons (mVar 1) mNil))) mNil))) sNil) (sRet (mVar 0)))))
theorem ok_anew (T : Wd P K mg) : ∀ k : Nat, FnG P w K mg base CX0 (k + 0 + 1) T.anew.f T.anew.fd ["value"] (spM K 1 (m_anew k))
  | 0 => FnG.no
  | k + 1 => by
    have ih := ok_anew T k
    exact fng_ok (N := ["value", "part"]) (ps := ["value"]) (k := k + 0 + 1) T.anew.F sc_anew fun cdv A outer s H E gd hr => (pmb_cons (pms_if (pmt_val (pm_callB call_isiM (by rfl) T.n_isinstance bt_isinstance (pma_cons (pm_var 0) (pma_cons (pm_ty (by rfl) T.n_list bt_list) pma_nil)))) (pmb_one (pms_ret (pm_lcG (own := [(("part" : Str), 1)]) (ow := [1]) fin_T rfl sc_anew.nd (pmi_seq (pm_var 0)) ⟨rfl, of_decide_eq_true (by kernel_rfl), of_decide_eq_true (by kernel_rfl), of_decide_eq_true (by kernel_rfl), of_decide_eq_true (by kernel_rfl)⟩ (fun s H C cl fp => (pmg_name 1 sc_anew.nd)) (fun s H C cl fp => pmts_nil) (fun s H C cl fp => (pmG_call (fng_tree ih) gd hr (by rfl) T.anew.m T.anew.F.kp (L2.Fun.binds (ps := ["value"]) T.anew.F fun _ _ _ _ _ _ us hl => match us, hl with | [_], _ => rfl) (pma_cons (pm_var 1) pma_nil) (cnt_cons cnt_nil)))))) pmb_nil) (pmb_cons (pms_if (pmt_val (pm_callB call_isiM (by rfl) T.n_isinstance bt_isinstance (pma_cons (pm_var 0) (pma_cons (pm_ty (by rfl) T.n_tuple bt_tuple) pma_nil)))) (pmb_one (pms_ret (pm_callTy call_tupM (by rfl) T.n_tuple bt_tuple (pma_cons (pm_lcG (own := [(("part" : Str), 1)]) (ow := [1]) fin_T rfl sc_anew.nd (pmi_seq (pm_var 0)) ⟨rfl, of_decide_eq_true (by kernel_rfl), of_decide_eq_true (by kernel_rfl), of_decide_eq_true (by kernel_rfl), of_decide_eq_true (by kernel_rfl)⟩ (fun s H C cl fp => (pmg_name 1 sc_anew.nd)) (fun s H C cl fp => pmts_nil) (fun s H C cl fp => (pmG_call (fng_tree ih) gd hr (by rfl) T.anew.m T.anew.F.kp (L2.Fun.binds (ps := ["value"]) T.anew.F fun _ _ _ _ _ _ us hl => match us, hl with | [_], _ => rfl) (pma_cons (pm_var 1) pma_nil) (cnt_cons cnt_nil)))) pma_nil)))) pmb_nil) (pmb_one (pms_ret (pm_var 0)))))
abbrev st_need_book : Stmt := top 17
theorem sc_need_book : FnScope ["book"] ["book"] (defScope st_need_book) := ⟨rfl, rfl, rfl, by decide +kernel, rfl, by decide +kernel, by decide +kernel⟩
noncomputable def b_need_book : MS := (sIf (mNotT (mT (mCall (pureZ m_is_a_book) (mCons (mVar 0) mNil)))) (sRaise "InvalidBook" (mCons (mCall (pureZ (m_anew 6)) (mCons (mVar 0) mNil)) mNil)) sNil)
noncomputable def m_need_book : MF := mDef 1 b_need_book
theorem ok_need_book (T : Wd P K mg) : FnG P w K mg base (L2.CX P w) 8 T.need_book.f T.need_book.fd ["book"] (spX K 1 m_need_book) :=
  fngX_ok (fb := b_need_book) (N := ["book"]) (ps := ["book"]) (k := 7) T.need_book.F sc_need_book fun cdv A outer s H E gd hr tk => (pmb_one (pms_if (pmt_not (pmt_val (pmG_call (fng_tree (ok_is_a_book T)) gd (hr.mono (by decide)) (by rfl) T.is_a_book.m T.is_a_book.F.kp (L2.Fun.binds (ps := ["value"]) T.is_a_book.F fun _ _ _ _ _ _ us hl => match us, hl with | [_], _ => rfl) (pma_cons (pm_var 0) pma_nil) (cnt_cons cnt_nil)))) (pmb_one (pms_raise (k := 0) rfl tk (PieceX.mk' T.PF T.pc_InvalidBook T.ns_InvalidBook T.mg_InvalidBook) (hr.mono (by decide)) (pmG_call (fng_tree (ok_anew T 6)) gd (hr.mono (by decide)) (by rfl) T.anew.m T.anew.F.kp (L2.Fun.binds (ps := ["value"]) T.anew.F fun _ _ _ _ _ _ us hl => match us, hl with | [_], _ => rfl) (pma_cons (pm_var 0) pma_nil) (cnt_cons cnt_nil)) (by rfl))) pmb_nil))
abbrev st_book_without : Stmt := top 27
theorem sc_book_without : FnScope ["book", "windows", "window"] ["book", "windows"] (defScope st_book_without) := ⟨rfl, rfl, rfl, by decide +kernel, rfl, by decide +kernel, by decide +kernel⟩
noncomputable def b_book_without : MS := (sRet (mTup (mCons (mOp2 subG (mVar 0) (mC (.int 0))) (mCons (mCallB (lTL tupOfT) (mCons (mLcG finT (mIt (mOp2 subG (mVar 0) (mC (.int 1)))) (gN 2) [2] (mB (mOp2 (inG true) (mVar 2) (mVar 1))) (mVar 2)) mNil)) mNil))))
noncomputable def m_book_without : MF := mDef 3 b_book_without
theorem ok_book_without (T : Wd P K mg) : FnG P w K mg base CX0 1 T.book_without.f T.book_without.fd ["book", "windows"] (spM K 2 m_book_without) :=
  fng_ok (fb := b_book_without) (N := ["book", "windows", "window"]) (ps := ["book", "windows"]) (k := 0) T.book_without.F sc_book_without fun cdv A outer s H E gd hr => (pmb_one (pms_ret (pm_tup (pma_cons (ix_M (r1 hr) (fun _ _ => rfl) (fun _ _ => rfl) (pm_var 0) pm_int) (pma_cons (pm_callTy call_tupM (by rfl) T.n_tuple bt_tuple (pma_cons (pm_lcG (own := [(("window" : Str), 2)]) (ow := [2]) fin_T rfl sc_book_without.nd (pmi_seq (ix_M (r1 hr) (fun _ _ => rfl) (fun _ _ => rfl) (pm_var 0) pm_int)) ⟨rfl, of_decide_eq_true (by kernel_rfl), of_decide_eq_true (by kernel_rfl), of_decide_eq_true (by kernel_rfl), of_decide_eq_true (by kernel_rfl)⟩ (fun s H C cl fp => (pmg_name 2 sc_book_without.nd)) (fun s H C cl fp => (pmts_one (pmt_cmp (op_inM true (r65 hr)) (pm_var 2) (pm_var 1)))) (fun s H C cl fp => (pm_var 2))) pma_nil)) pma_nil)))))
abbrev st_places_of : Stmt := top 16
theorem sc_places_of : FnScope ["book", "found", "window"] ["book"] (defScope st_places_of) := ⟨rfl, rfl, rfl, by decide +kernel, rfl, by decide +kernel, by decide +kernel⟩
noncomputable def b_places_of : MS := (sSeq (sSet 1 mDicC) (sSeq (sFor (mIt (mOp2 subG (mVar 0) (mC (.int 1)))) (gN 2) (sSeq (sPut (mVar 1) (mSl (mVar 2) none (some (mOp1 (lT1 negT) (mC (.int 1))))) (mC (.bl true))) (sPut (mVar 1) (mSl (mVar 2) (some (mC (.int 1))) none) (mC (.bl true))))) (sRet (mSort mkC (mVar 1)))))
noncomputable def m_places_of : MF := mDef 3 b_places_of
theorem ok_places_of (T : Wd P K mg) : FnG P w K mg base CX0 1 T.places_of.f T.places_of.fd ["book"] (spM K 1 m_places_of) :=
  fng_ok (fb := b_places_of) (N := ["book", "found", "window"]) (ps := ["book"]) (k := 0) T.places_of.F sc_places_of fun cdv A outer s H E gd hr => (pmb_cons (pms_set 1 sc_places_of.nd pm_dicC) (pmb_cons (pms_for PassesOwn.never rfl (pmi_seq (ix_M (r1 hr) (fun _ _ => rfl) (fun _ _ => rfl) (pm_var 0) pm_int)) (pmg_name 2 sc_places_of.nd) (pmb_cons (pms_put (r1 hr) (pm_var 1) (pm_sl (pm_var 2) pmp_none (pmp_some (pm_un un_negM pm_int))) pm_bl) (pmb_one (pms_put (r1 hr) (pm_var 1) (pm_sl (pm_var 2) (pmp_some pm_int) pmp_none) pm_bl)))) (pmb_one (pms_ret (pm_sort mk_C rfl (r65 hr) (by rfl) T.n_sorted (pm_var 1))))))
abbrev st_begin_of : Stmt := top 19
theorem sc_begin_of : FnScope ["window"] ["window"] (defScope st_begin_of) := ⟨rfl, rfl, rfl, by decide +kernel, rfl, by decide +kernel, by decide +kernel⟩
noncomputable def b_begin_of : MS := (sRet (mSl (mVar 0) none (some (mOp1 (lT1 negT) (mC (.int 1))))))
noncomputable def m_begin_of : MF := mDef 1 b_begin_of
theorem ok_begin_of (T : Wd P K mg) : FnG P w K mg base CX0 1 T.begin_of.f T.begin_of.fd ["window"] (spM K 1 m_begin_of) :=
  fng_ok (fb := b_begin_of) (N := ["window"]) (ps := ["window"]) (k := 0) T.begin_of.F sc_begin_of fun cdv A outer s H E gd hr => (pmb_one (pms_ret (pm_sl (pm_var 0) pmp_none (pmp_some (pm_un un_negM pm_int)))))
abbrev st_end_of : Stmt := top 20
theorem sc_end_of : FnScope ["window"] ["window"] (defScope st_end_of) := ⟨rfl, rfl, rfl, by decide +kernel, rfl, by decide +kernel, by decide +kernel⟩
noncomputable def b_end_of : MS := (sRet (mSl (mVar 0) (some (mC (.int 1))) none))
noncomputable def m_end_of : MF := mDef 1 b_end_of
theorem ok_end_of (T : Wd P K mg) : FnG P w K mg base CX0 1 T.end_of.f T.end_of.fd ["window"] (spM K 1 m_end_of) :=
  fng_ok (fb := b_end_of) (N := ["window"]) (ps := ["window"]) (k := 0) T.end_of.F sc_end_of fun cdv A outer s H E gd hr => (pmb_one (pms_ret (pm_sl (pm_var 0) (pmp_some pm_int) pmp_none)))
abbrev st_windows_out : Stmt := top 21
theorem sc_windows_out : FnScope ["book", "found", "window", "spot", "row"] ["book"] (defScope st_windows_out) := ⟨rfl, rfl, rfl, by decide +kernel, rfl, by decide +kernel, by decide +kernel⟩
noncomputable def b_windows_out : MS := (sSeq (sSet 1 mDicC) (sSeq (sFor (mIt (mOp2 subG (mVar 0) (mC (.int 1)))) (gN 2) (sSeq (sFor (mIt (mTup (mCons (mCall (pureZ m_begin_of) (mCons (mVar 2) mNil)) (mCons (mCall (pureZ m_end_of) (mCons (mVar 2) mNil)) mNil)))) (gN 3) (sIf (mB (mOp2 (inG true) (mVar 3) (mVar 1))) (sPut (mVar 1) (mVar 3) (mLstC mNil)) sNil)) (sSeq (sSet 4 (mOp2 subG (mVar 1) (mCall (pureZ m_begin_of) (mCons (mVar 2) mNil)))) (sExpr (mMeth kdLst appendG (mVar 4) (mCons (mVar 2) mNil)))))) (sSeq (sFrzZ (frzW frzD) 1) (sRet (mVar 1)))))
noncomputable def m_windows_out : MF := mDef 5 b_windows_out
theorem ok_windows_out (T : Wd P K mg) : FnG P w K mg base CX0 2 T.windows_out.f T.windows_out.fd ["book"] (spM K 1 m_windows_out) :=
  fng_ok (fb := b_windows_out) (N := ["book", "found", "window", "spot", "row"]) (ps := ["book"]) (k := 1) T.windows_out.F sc_windows_out fun cdv A outer s H E gd hr => (pmb_cons (pms_set 1 sc_windows_out.nd pm_dicC) (pmb_cons (pms_for PassesOwn.never rfl (pmi_seq (ix_M (r1 hr) (fun _ _ => rfl) (fun _ _ => rfl) (pm_var 0) pm_int)) (pmg_name 2 sc_windows_out.nd) (pmb_cons (pms_for PassesOwn.never rfl (pmi_seq (pm_tup (pma_cons (pmG_call (fng_tree (ok_begin_of T)) gd (hr.mono (by decide)) (by rfl) T.begin_of.m T.begin_of.F.kp (L2.Fun.binds (ps := ["window"]) T.begin_of.F fun _ _ _ _ _ _ us hl => match us, hl with | [_], _ => rfl) (pma_cons (pm_var 2) pma_nil) (cnt_cons cnt_nil)) (pma_cons (pmG_call (fng_tree (ok_end_of T)) gd (hr.mono (by decide)) (by rfl) T.end_of.m T.end_of.F.kp (L2.Fun.binds (ps := ["window"]) T.end_of.F fun _ _ _ _ _ _ us hl => match us, hl with | [_], _ => rfl) (pma_cons (pm_var 2) pma_nil) (cnt_cons cnt_nil)) pma_nil)))) (pmg_name 3 sc_windows_out.nd) (pmb_one (pms_if (pmt_cmp (op_inM true (r65 hr)) (pm_var 3) (pm_var 1)) (pmb_one (pms_put (r1 hr) (pm_var 1) (pm_var 3) (pm_lstC pma_nil))) pmb_nil))) (pmb_cons (pms_set 4 sc_windows_out.nd (ix_M (r1 hr) (fun _ _ => rfl) (fun _ _ => rfl) (pm_var 1) (pmG_call (fng_tree (ok_begin_of T)) gd (hr.mono (by decide)) (by rfl) T.begin_of.m T.begin_of.F.kp (L2.Fun.binds (ps := ["window"]) T.begin_of.F fun _ _ _ _ _ _ us hl => match us, hl with | [_], _ => rfl) (pma_cons (pm_var 2) pma_nil) (cnt_cons cnt_nil)))) (pmb_one (pms_expr (pm_meth PySem.F.plainAttrs_list PySem.F.slot_list_append PySem.F.type_list_append kd_lst mt_appendM (pm_var 4) (pma_cons (pm_var 2) pma_nil))))))) (pmb_frzZ (fz_W fz_D) 1 (pmb_one (pms_ret (pm_var 1))))))
abbrev st_places_from : Stmt := top 23
theorem sc_places_from : FnScope ["book", "spot", "ways_out", "found", "waiting", "window"] ["book", "spot"] (defScope st_places_from) := ⟨rfl, rfl, rfl, by decide +kernel, rfl, by decide +kernel, by decide +kernel⟩
noncomputable def b_places_from : MS := (sSeq (sSet 2 (mCall (pureZ m_windows_out) (mCons (mVar 0) mNil))) (sSeq (sPar2 3 4 (mCons (mDic1 finDC (mVar 1) (mC (.bl true))) (mCons (mLstC (mCons (mVar 1) mNil)) mNil))) (sSeq (sWhile (mB (mOp2 (eqVG true) (mVar 4) (mLst mNil))) (sFor (mIt (mOp2 subG (mVar 2) (mMeth kdLst popG (mVar 4) mNil))) (gN 5) (sIf (mB (mOp2 (inG true) (mCall (pureZ m_end_of) (mCons (mVar 5) mNil)) (mVar 3))) (sSeq (sPut (mVar 3) (mCall (pureZ m_end_of) (mCons (mVar 5) mNil)) (mC (.bl true))) (sExpr (mMeth kdLst appendG (mVar 4) (mCons (mCall (pureZ m_end_of) (mCons (mVar 5) mNil)) mNil)))) sNil))) (sSeq (sFrz 3) (sRet (mVar 3))))))
noncomputable def m_places_from : MF := mDef 6 b_places_from
theorem ok_places_from (T : Wd P K mg) : FnG P w K mg base CX0 3 T.places_from.f T.places_from.fd ["book", "spot"] (spM K 2 m_places_from) :=
  fng_ok (fb := b_places_from) (N := ["book", "spot", "ways_out", "found", "waiting", "window"]) (ps := ["book", "spot"]) (k := 2) T.places_from.F sc_places_from fun cdv A outer s H E gd hr => (pmb_cons (pms_set 2 sc_places_from.nd (pmG_call (fng_tree (ok_windows_out T)) gd (hr.mono (by decide)) (by rfl) T.windows_out.m T.windows_out.F.kp (L2.Fun.binds (ps := ["book"]) T.windows_out.F fun _ _ _ _ _ _ us hl => match us, hl with | [_], _ => rfl) (pma_cons (pm_var 0) pma_nil) (cnt_cons cnt_nil))) (pmb_cons (pms_par2 3 4 rfl sc_places_from.nd (pma_cons (pm_dic1 fin_DC (pm_var 1) pm_bl) (pma_cons (pm_lstC (pma_cons (pm_var 1) pma_nil)) pma_nil))) (pmb_cons (pms_while PassesOwn.never (pmt_cmp (op_eqV true (r64 hr)) (pm_var 4) (pm_lst pma_nil)) (pmb_one (pms_for PassesOwn.never rfl (pmi_seq (ix_M (r1 hr) (fun _ _ => rfl) (fun _ _ => rfl) (pm_var 2) (pm_meth0 PySem.F.plainAttrs_list PySem.F.slot_list_pop PySem.F.type_list_pop kd_lst mt_popM (pm_var 4)))) (pmg_name 5 sc_places_from.nd) (pmb_one (pms_if (pmt_cmp (op_inM true (r65 hr)) (pmG_call (fng_tree (ok_end_of T)) gd (hr.mono (by decide)) (by rfl) T.end_of.m T.end_of.F.kp (L2.Fun.binds (ps := ["window"]) T.end_of.F fun _ _ _ _ _ _ us hl => match us, hl with | [_], _ => rfl) (pma_cons (pm_var 5) pma_nil) (cnt_cons cnt_nil)) (pm_var 3)) (pmb_cons (pms_put (r1 hr) (pm_var 3) (pmG_call (fng_tree (ok_end_of T)) gd (hr.mono (by decide)) (by rfl) T.end_of.m T.end_of.F.kp (L2.Fun.binds (ps := ["window"]) T.end_of.F fun _ _ _ _ _ _ us hl => match us, hl with | [_], _ => rfl) (pma_cons (pm_var 5) pma_nil) (cnt_cons cnt_nil)) pm_bl) (pmb_one (pms_expr (pm_meth PySem.F.plainAttrs_list PySem.F.slot_list_append PySem.F.type_list_append kd_lst mt_appendM (pm_var 4) (pma_cons (pmG_call (fng_tree (ok_end_of T)) gd (hr.mono (by decide)) (by rfl) T.end_of.m T.end_of.F.kp (L2.Fun.binds (ps := ["window"]) T.end_of.F fun _ _ _ _ _ _ us hl => match us, hl with | [_], _ => rfl) (pma_cons (pm_var 5) pma_nil) (cnt_cons cnt_nil)) pma_nil))))) pmb_nil))))) (pmb_frz 3 (pmb_one (pms_ret (pm_var 3)))))))
abbrev st_a_closed_lot : Stmt := top 24
theorem sc_a_closed_lot : FnScope ["book", "every", "spot", "found"] ["book"] (defScope st_a_closed_lot) := ⟨rfl, rfl, rfl, by decide +kernel, rfl, by decide +kernel, by decide +kernel⟩
noncomputable def b_a_closed_lot : MS := (sSeq (sSet 1 (mCall (pureZ m_places_of) (mCons (mVar 0) mNil))) (sSeq (sFor (mIt (mVar 1)) (gN 2) (sSeq (sSet 3 (mCall (pureZ m_places_from) (mCons (mVar 0) (mCons (mVar 2) mNil)))) (sIf (mB (mOp2 (lT2 ltT) (mCallB lenG (mCons (mVar 3) mNil)) (mCallB lenG (mCons (mVar 1) mNil)))) (sRet (mCallB (lTL tupOfT) (mCons (mSort mkT (mVar 3)) mNil))) sNil))) (sRet (mC .non))))
noncomputable def m_a_closed_lot : MF := mDef 4 b_a_closed_lot
theorem ok_a_closed_lot (T : Wd P K mg) : FnG P w K mg base CX0 4 T.a_closed_lot.f T.a_closed_lot.fd ["book"] (spM K 1 m_a_closed_lot) :=
  fng_ok (fb := b_a_closed_lot) (N := ["book", "every", "spot", "found"]) (ps := ["book"]) (k := 3) T.a_closed_lot.F sc_a_closed_lot fun cdv A outer s H E gd hr => (pmb_cons (pms_set 1 sc_a_closed_lot.nd (pmG_call (fng_tree (ok_places_of T)) gd (hr.mono (by decide)) (by rfl) T.places_of.m T.places_of.F.kp (L2.Fun.binds (ps := ["book"]) T.places_of.F fun _ _ _ _ _ _ us hl => match us, hl with | [_], _ => rfl) (pma_cons (pm_var 0) pma_nil) (cnt_cons cnt_nil))) (pmb_cons (pms_for PassesOwn.never rfl (pmi_seq (pm_var 1)) (pmg_name 2 sc_a_closed_lot.nd) (pmb_cons (pms_set 3 sc_a_closed_lot.nd (pmG_call (fng_tree (ok_places_from T)) gd (hr.mono (by decide)) (by rfl) T.places_from.m T.places_from.F.kp (L2.Fun.binds (ps := ["book", "spot"]) T.places_from.F fun _ _ _ _ _ _ us hl => match us, hl with | [_, _], _ => rfl) (pma_cons (pm_var 0) (pma_cons (pm_var 2) pma_nil)) (cnt_cons (cnt_cons cnt_nil)))) (pmb_one (pms_if (pmt_cmp (op_ltM (r64 hr)) (pm_callB call_lenM (by rfl) T.n_len bt_len (pma_cons (pm_var 3) pma_nil)) (pm_callB call_lenM (by rfl) T.n_len bt_len (pma_cons (pm_var 1) pma_nil))) (pmb_one (pms_ret (pm_callTy call_tupM (by rfl) T.n_tuple bt_tuple (pma_cons (pm_sort mk_T rfl (r65 hr) (by rfl) T.n_sorted (pm_var 3)) pma_nil)))) pmb_nil)))) (pmb_one (pms_ret pm_non))))
abbrev st_can_go : Stmt := top 28
theorem sc_can_go : FnScope ["book", "windows", "left"] ["book", "windows"] (defScope st_can_go) := ⟨rfl, rfl, rfl, by decide +kernel, rfl, by decide +kernel, by decide +kernel⟩
noncomputable def b_can_go : MS := (sSeq (sSet 2 (mCall (pureZ m_book_without) (mCons (mVar 0) (mCons (mVar 1) mNil)))) (sRet (mAnd (mOp2 (lT2 neT) (mOp2 subG (mVar 2) (mC (.int 1))) (mTup mNil)) (mOp2 (isNoneG false) (mCall (pureZ m_a_closed_lot) (mCons (mVar 2) mNil)) (mC .non)))))
noncomputable def m_can_go : MF := mDef 3 b_can_go
theorem ok_can_go (T : Wd P K mg) : FnG P w K mg base CX0 5 T.can_go.f T.can_go.fd ["book", "windows"] (spM K 2 m_can_go) :=
  fng_ok (fb := b_can_go) (N := ["book", "windows", "left"]) (ps := ["book", "windows"]) (k := 4) T.can_go.F sc_can_go fun cdv A outer s H E gd hr => (pmb_cons (pms_set 2 sc_can_go.nd (pmG_call (fng_tree (ok_book_without T)) gd (hr.mono (by decide)) (by rfl) T.book_without.m T.book_without.F.kp (L2.Fun.binds (ps := ["book", "windows"]) T.book_without.F fun _ _ _ _ _ _ us hl => match us, hl with | [_, _], _ => rfl) (pma_cons (pm_var 0) (pma_cons (pm_var 1) pma_nil)) (cnt_cons (cnt_cons cnt_nil)))) (pmb_one (pms_ret (pm_and (pm_cmp (op_neM (r64 hr)) (ix_M (r1 hr) (fun _ _ => rfl) (fun _ _ => rfl) (pm_var 2) pm_int) (pm_tup pma_nil)) (pm_one (pm_cmp (op_isM false) (pmG_call (fng_tree (ok_a_closed_lot T)) gd (hr.mono (by decide)) (by rfl) T.a_closed_lot.m T.a_closed_lot.F.kp (L2.Fun.binds (ps := ["book"]) T.a_closed_lot.F fun _ _ _ _ _ _ us hl => match us, hl with | [_], _ => rfl) (pma_cons (pm_var 2) pma_nil) (cnt_cons cnt_nil)) pm_non))))))
abbrev st_may_go : Stmt := top 30
theorem sc_may_go : FnScope ["book", "windows", "window"] ["book", "windows"] (defScope st_may_go) := ⟨rfl, rfl, rfl, by decide +kernel, rfl, by decide +kernel, by decide +kernel⟩
noncomputable def b_may_go : MS := (sSeq (sExpr (mCallX (pureX m_need_book) (mCons (mVar 0) mNil))) (sSeq (sIf (mOrT (mNotT (mT (mCall (pureZ m_are_windows) (mCons (mOp2 subG (mVar 0) (mC (.int 0))) (mCons (mVar 1) mNil))))) (mNotT (mT (mCallB (lTL allT) (mCons (mLcG finT (mIt (mVar 1)) (gN 2) [2] mYes (mOp2 (inG false) (mVar 2) (mOp2 subG (mVar 0) (mC (.int 1))))) mNil))))) (sRaise "InvalidWindows" (mCons (mCall (pureZ (m_anew 6)) (mCons (mVar 1) mNil)) mNil)) sNil) (sSeq (sIf (mB (mOp2 (lT2 eqT) (mCallB lenG (mCons (mVar 1) mNil)) (mCallB lenG (mCons (mOp2 subG (mVar 0) (mC (.int 1))) mNil)))) (sRaise "InvalidWindows" (mCons (mCall (pureZ (m_anew 6)) (mCons (mVar 1) mNil)) mNil)) sNil) (sRet (mCall (pureZ m_can_go) (mCons (mVar 0) (mCons (mVar 1) mNil)))))))
noncomputable def m_may_go : MF := mDef 3 b_may_go
theorem ok_may_go (T : Wd P K mg) : FnG P w K mg base (L2.CX P w) 9 T.may_go.f T.may_go.fd ["book", "windows"] (spX K 2 m_may_go) :=
  fngX_ok (fb := b_may_go) (N := ["book", "windows", "window"]) (ps := ["book", "windows"]) (k := 8) T.may_go.F sc_may_go fun cdv A outer s H E gd hr tk => (pmb_cons (pms_expr (pmX_call (fngX_tree (ok_need_book T)) gd (hr.mono (by decide)) (by rfl) T.need_book.m T.need_book.F.kp (L2.Fun.binds (ps := ["book"]) T.need_book.F fun _ _ _ _ _ _ us hl => match us, hl with | [_], _ => rfl) tk (pma_cons (pm_var 0) pma_nil) (cnt_cons cnt_nil))) (pmb_cons (pms_if ((pmw_or (pmt_not (pmt_val (pmG_call (fng_tree (ok_are_windows T)) gd (hr.mono (by decide)) (by rfl) T.are_windows.m T.are_windows.F.kp (L2.Fun.binds (ps := ["size", "value"]) T.are_windows.F fun _ _ _ _ _ _ us hl => match us, hl with | [_, _], _ => rfl) (pma_cons (ix_M (r1 hr) (fun _ _ => rfl) (fun _ _ => rfl) (pm_var 0) pm_int) (pma_cons (pm_var 1) pma_nil)) (cnt_cons (cnt_cons cnt_nil))))) (pmw_or1 (pmt_not (pmt_val (pm_callB (call_allM rfl) (by rfl) T.n_all bt_all (pma_cons (pm_lcG (own := [(("window" : Str), 2)]) (ow := [2]) fin_T rfl sc_may_go.nd (pmi_seq (pm_var 1)) ⟨rfl, of_decide_eq_true (by kernel_rfl), of_decide_eq_true (by kernel_rfl), of_decide_eq_true (by kernel_rfl), of_decide_eq_true (by kernel_rfl)⟩ (fun s H C cl fp => (pmg_name 2 sc_may_go.nd)) (fun s H C cl fp => pmts_nil) (fun s H C cl fp => (pm_cmp (op_inM false (r65 hr)) (pm_var 2) (ix_M (r1 hr) (fun _ _ => rfl) (fun _ _ => rfl) (pm_var 0) pm_int)))) pma_nil))))))).pt (pmb_one (pms_raise (k := 0) rfl tk (PieceX.mk' T.PF T.pc_InvalidWindows T.ns_InvalidWindows T.mg_InvalidWindows) (hr.mono (by decide)) (pmG_call (fng_tree (ok_anew T 6)) gd (hr.mono (by decide)) (by rfl) T.anew.m T.anew.F.kp (L2.Fun.binds (ps := ["value"]) T.anew.F fun _ _ _ _ _ _ us hl => match us, hl with | [_], _ => rfl) (pma_cons (pm_var 1) pma_nil) (cnt_cons cnt_nil)) (by rfl))) pmb_nil) (pmb_cons (pms_if (pmt_cmp (op_eqM (r64 hr)) (pm_callB call_lenM (by rfl) T.n_len bt_len (pma_cons (pm_var 1) pma_nil)) (pm_callB call_lenM (by rfl) T.n_len bt_len (pma_cons (ix_M (r1 hr) (fun _ _ => rfl) (fun _ _ => rfl) (pm_var 0) pm_int) pma_nil))) (pmb_one (pms_raise (k := 0) rfl tk (PieceX.mk' T.PF T.pc_InvalidWindows T.ns_InvalidWindows T.mg_InvalidWindows) (hr.mono (by decide)) (pmG_call (fng_tree (ok_anew T 6)) gd (hr.mono (by decide)) (by rfl) T.anew.m T.anew.F.kp (L2.Fun.binds (ps := ["value"]) T.anew.F fun _ _ _ _ _ _ us hl => match us, hl with | [_], _ => rfl) (pma_cons (pm_var 1) pma_nil) (cnt_cons cnt_nil)) (by rfl))) pmb_nil) (pmb_one (pms_ret (pmG_call (fng_tree (ok_can_go T)) gd (hr.mono (by decide)) (by rfl) T.can_go.m T.can_go.F.kp (L2.Fun.binds (ps := ["book", "windows"]) T.can_go.F fun _ _ _ _ _ _ us hl => match us, hl with | [_, _], _ => rfl) (pma_cons (pm_var 0) (pma_cons (pm_var 1) pma_nil)) (cnt_cons (cnt_cons cnt_nil))))))))
abbrev st__law_ways_out : Stmt := top 38
theorem sc__law_ways_out : FnScope ["windows", "found", "window", "spot", "row"] ["windows"] (defScope st__law_ways_out) := ⟨rfl, rfl, rfl, by decide +kernel, rfl, by decide +kernel, by decide +kernel⟩
noncomputable def b__law_ways_out : MS := (sSeq (sSet 1 mDicC) (sSeq (sFor (mIt (mVar 0)) (gN 2) (sSeq (sFor (mIt (mLst (mCons (mSl (mVar 2) none (some (mOp1 (lT1 negT) (mC (.int 1))))) (mCons (mSl (mVar 2) (some (mC (.int 1))) none) mNil)))) (gN 3) (sIf (mB (mOp2 (inG true) (mVar 3) (mVar 1))) (sPut (mVar 1) (mVar 3) (mLstC mNil)) sNil)) (sSeq (sSet 4 (mOp2 subG (mVar 1) (mSl (mVar 2) none (some (mOp1 (lT1 negT) (mC (.int 1))))))) (sExpr (mMeth kdLst appendG (mVar 4) (mCons (mSl (mVar 2) (some (mC (.int 1))) none) mNil)))))) (sSeq (sFrzZ (frzW frzD) 1) (sRet (mVar 1)))))
noncomputable def m__law_ways_out : MF := mDef 5 b__law_ways_out
theorem ok__law_ways_out (T : Wd P K mg) : FnG P w K mg base CX0 1 T._law_ways_out.f T._law_ways_out.fd ["windows"] (spM K 1 m__law_ways_out) :=
  fng_ok (fb := b__law_ways_out) (N := ["windows", "found", "window", "spot", "row"]) (ps := ["windows"]) (k := 0) T._law_ways_out.F sc__law_ways_out fun cdv A outer s H E gd hr => (pmb_cons (pms_set 1 sc__law_ways_out.nd pm_dicC) (pmb_cons (pms_for PassesOwn.never rfl (pmi_seq (pm_var 0)) (pmg_name 2 sc__law_ways_out.nd) (pmb_cons (pms_for PassesOwn.never rfl (pmi_seq (pm_lst (pma_cons (pm_sl (pm_var 2) pmp_none (pmp_some (pm_un un_negM pm_int))) (pma_cons (pm_sl (pm_var 2) (pmp_some pm_int) pmp_none) pma_nil)))) (pmg_name 3 sc__law_ways_out.nd) (pmb_one (pms_if (pmt_cmp (op_inM true (r65 hr)) (pm_var 3) (pm_var 1)) (pmb_one (pms_put (r1 hr) (pm_var 1) (pm_var 3) (pm_lstC pma_nil))) pmb_nil))) (pmb_cons (pms_set 4 sc__law_ways_out.nd (ix_M (r1 hr) (fun _ _ => rfl) (fun _ _ => rfl) (pm_var 1) (pm_sl (pm_var 2) pmp_none (pmp_some (pm_un un_negM pm_int))))) (pmb_one (pms_expr (pm_meth PySem.F.plainAttrs_list PySem.F.slot_list_append PySem.F.type_list_append kd_lst mt_appendM (pm_var 4) (pma_cons (pm_sl (pm_var 2) (pmp_some pm_int) pmp_none) pma_nil))))))) (pmb_frzZ (fz_W fz_D) 1 (pmb_one (pms_ret (pm_var 1))))))
abbrev st__law_come_to : Stmt := top 39
theorem sc__law_come_to : FnScope ["ways", "start", "found", "left", "spot"] ["ways", "start"] (defScope st__law_come_to) := ⟨rfl, rfl, rfl, by decide +kernel, rfl, by decide +kernel, by decide +kernel⟩
noncomputable def b__law_come_to : MS := (sSeq (sPar2 2 3 (mCons (mDic1 finDC (mVar 1) (mC (.bl true))) (mCons (mLstC (mCons (mVar 1) mNil)) mNil))) (sSeq (sWhile (mB (mOp2 (eqVG true) (mVar 3) (mLst mNil))) (sFor (mIt (mOp2 subG (mVar 0) (mMeth kdLst popG (mVar 3) mNil))) (gN 4) (sIf (mB (mOp2 (inG true) (mVar 4) (mVar 2))) (sSeq (sPut (mVar 2) (mVar 4) (mC (.bl true))) (sExpr (mMeth kdLst appendG (mVar 3) (mCons (mVar 4) mNil)))) sNil))) (sSeq (sFrz 2) (sRet (mVar 2)))))
noncomputable def m__law_come_to : MF := mDef 5 b__law_come_to
theorem ok__law_come_to (T : Wd P K mg) : FnG P w K mg base CX0 1 T._law_come_to.f T._law_come_to.fd ["ways", "start"] (spM K 2 m__law_come_to) :=
  fng_ok (fb := b__law_come_to) (N := ["ways", "start", "found", "left", "spot"]) (ps := ["ways", "start"]) (k := 0) T._law_come_to.F sc__law_come_to fun cdv A outer s H E gd hr => (pmb_cons (pms_par2 2 3 rfl sc__law_come_to.nd (pma_cons (pm_dic1 fin_DC (pm_var 1) pm_bl) (pma_cons (pm_lstC (pma_cons (pm_var 1) pma_nil)) pma_nil))) (pmb_cons (pms_while PassesOwn.never (pmt_cmp (op_eqV true (r64 hr)) (pm_var 3) (pm_lst pma_nil)) (pmb_one (pms_for PassesOwn.never rfl (pmi_seq (ix_M (r1 hr) (fun _ _ => rfl) (fun _ _ => rfl) (pm_var 0) (pm_meth0 PySem.F.plainAttrs_list PySem.F.slot_list_pop PySem.F.type_list_pop kd_lst mt_popM (pm_var 3)))) (pmg_name 4 sc__law_come_to.nd) (pmb_one (pms_if (pmt_cmp (op_inM true (r65 hr)) (pm_var 4) (pm_var 2)) (pmb_cons (pms_put (r1 hr) (pm_var 2) (pm_var 4) pm_bl) (pmb_one (pms_expr (pm_meth PySem.F.plainAttrs_list PySem.F.slot_list_append PySem.F.type_list_append kd_lst mt_appendM (pm_var 3) (pma_cons (pm_var 4) pma_nil))))) pmb_nil))))) (pmb_frz 2 (pmb_one (pms_ret (pm_var 2))))))
abbrev st__law_hangs : Stmt := top 40
theorem sc__law_hangs : FnScope ["windows", "ways", "back", "window", "start"] ["windows"] (defScope st__law_hangs) := ⟨rfl, rfl, rfl, by decide +kernel, rfl, by decide +kernel, by decide +kernel⟩
noncomputable def b__law_hangs : MS := (sSeq (sIf (mB (mOp2 (lT2 eqT) (mCallB lenG (mCons (mVar 0) mNil)) (mC (.int 0)))) (sRet (mC (.bl false))) sNil) (sSeq (sPar2 1 2 (mCons (mCall (pureZ m__law_ways_out) (mCons (mVar 0) mNil)) (mCons (mCall (pureZ m__law_ways_out) (mCons (mLcG finT (mIt (mVar 0)) (gN 3) [3] mYes (mRev (mVar 3))) mNil)) mNil))) (sSeq (sSet 4 (mSl (mOp2 subG (mVar 0) (mC (.int 0))) (some (mC (.int 1))) none)) (sRet (mChain (lT2 eqT) (lT2 eqT) (mCallB lenG (mCons (mCall (pureZ m__law_come_to) (mCons (mVar 1) (mCons (mVar 4) mNil))) mNil)) (mCallB lenG (mCons (mVar 1) mNil)) (mCallB lenG (mCons (mCall (pureZ m__law_come_to) (mCons (mVar 2) (mCons (mRev (mVar 4)) mNil))) mNil)))))))
noncomputable def m__law_hangs : MF := mDef 5 b__law_hangs
theorem ok__law_hangs (T : Wd P K mg) : FnG P w K mg base CX0 2 T._law_hangs.f T._law_hangs.fd ["windows"] (spM K 1 m__law_hangs) :=
  fng_ok (fb := b__law_hangs) (N := ["windows", "ways", "back", "window", "start"]) (ps := ["windows"]) (k := 1) T._law_hangs.F sc__law_hangs fun cdv A outer s H E gd hr => (pmb_cons (pms_if (pmt_cmp (op_eqM (r64 hr)) (pm_callB call_lenM (by rfl) T.n_len bt_len (pma_cons (pm_var 0) pma_nil)) pm_int) (pmb_one (pms_ret pm_bl)) pmb_nil) (pmb_cons (pms_par2 1 2 rfl sc__law_hangs.nd (pma_cons (pmG_call (fng_tree (ok__law_ways_out T)) gd (hr.mono (by decide)) (by rfl) T._law_ways_out.m T._law_ways_out.F.kp (L2.Fun.binds (ps := ["windows"]) T._law_ways_out.F fun _ _ _ _ _ _ us hl => match us, hl with | [_], _ => rfl) (pma_cons (pm_var 0) pma_nil) (cnt_cons cnt_nil)) (pma_cons (pmG_call (fng_tree (ok__law_ways_out T)) gd (hr.mono (by decide)) (by rfl) T._law_ways_out.m T._law_ways_out.F.kp (L2.Fun.binds (ps := ["windows"]) T._law_ways_out.F fun _ _ _ _ _ _ us hl => match us, hl with | [_], _ => rfl) (pma_cons (pm_lcG (own := [(("window" : Str), 3)]) (ow := [3]) fin_T rfl sc__law_hangs.nd (pmi_seq (pm_var 0)) ⟨rfl, of_decide_eq_true (by kernel_rfl), of_decide_eq_true (by kernel_rfl), of_decide_eq_true (by kernel_rfl), of_decide_eq_true (by kernel_rfl)⟩ (fun s H C cl fp => (pmg_name 3 sc__law_hangs.nd)) (fun s H C cl fp => pmts_nil) (fun s H C cl fp => (pm_rev (pm_var 3)))) pma_nil) (cnt_cons cnt_nil)) pma_nil))) (pmb_cons (pms_set 4 sc__law_hangs.nd (pm_sl (ix_M (r1 hr) (fun _ _ => rfl) (fun _ _ => rfl) (pm_var 0) pm_int) (pmp_some pm_int) pmp_none)) (pmb_one (pms_ret (pm_chain (op_eqM (r64 hr)) (op_eqM (r64 hr)) (pm_callB call_lenM (by rfl) T.n_len bt_len (pma_cons (pmG_call (fng_tree (ok__law_come_to T)) gd (hr.mono (by decide)) (by rfl) T._law_come_to.m T._law_come_to.F.kp (L2.Fun.binds (ps := ["ways", "start"]) T._law_come_to.F fun _ _ _ _ _ _ us hl => match us, hl with | [_, _], _ => rfl) (pma_cons (pm_var 1) (pma_cons (pm_var 4) pma_nil)) (cnt_cons (cnt_cons cnt_nil))) pma_nil)) (pm_callB call_lenM (by rfl) T.n_len bt_len (pma_cons (pm_var 1) pma_nil)) (pm_callB call_lenM (by rfl) T.n_len bt_len (pma_cons (pmG_call (fng_tree (ok__law_come_to T)) gd (hr.mono (by decide)) (by rfl) T._law_come_to.m T._law_come_to.F.kp (L2.Fun.binds (ps := ["ways", "start"]) T._law_come_to.F fun _ _ _ _ _ _ us hl => match us, hl with | [_, _], _ => rfl) (pma_cons (pm_var 2) (pma_cons (pm_rev (pm_var 4)) pma_nil)) (cnt_cons (cnt_cons cnt_nil))) pma_nil))))))))
abbrev st__law_lots_right : Stmt := top 45
theorem sc__law_lots_right : FnScope ["book", "lots", "at", "lot", "told"] ["book", "lots"] (defScope st__law_lots_right) := ⟨rfl, rfl, rfl, by decide +kernel, rfl, by decide +kernel, by decide +kernel⟩
noncomputable def b__law_lots_right : MS := (sSeq (sFor (mI enumsOf (mCons (mVar 1) mNil)) (gT 2 (gsCons (gN 2) (gsCons (gN 3) gsNil))) (sSeq (sSet 4 (mIf (mB (mOp2 (lT2 eqT) (mOp2 (lT2 modT) (mCallB (lTL intT) (mCons (mVar 2) mNil)) (mC (.int 3))) (mC (.int 0)))) (mCallK (pureZ (nxF m_may_go)) 0 2 [1, 0] mNil (mCons (mVar 3) (mCons (mVar 0) mNil))) (mCall (pureZ (nxF m_may_go)) (mCons (mVar 0) (mCons (mVar 3) mNil))))) (sIf (mB (mOp2 (lT2 neT) (mCallB reprG (mCons (mVar 4) mNil)) (mCallB reprG (mCons (mCall (pureZ m__law_hangs) (mCons (mCall (pureZ m__law_without) (mCons (mOp2 subG (mVar 0) (mC (.int 1))) (mCons (mVar 3) mNil))) mNil)) mNil)))) (sRet (mC (.bl false))) sNil))) (sRet (mC (.bl true))))
noncomputable def m__law_lots_right : MF := mDef 5 b__law_lots_right
theorem ok__law_lots_right (T : Wd P K mg) : FnG P w K mg base CX0 10 T._law_lots_right.f T._law_lots_right.fd ["book", "lots"] (spM K 2 m__law_lots_right) :=
  fng_ok (fb := b__law_lots_right) (N := ["book", "lots", "at", "lot", "told"]) (ps := ["book", "lots"]) (k := 9) T._law_lots_right.F sc__law_lots_right fun cdv A outer s H E gd hr => (pmb_cons (pms_for PassesOwn.never rfl (pmi_enum (by rfl) T.n_enumerate (pma_cons (pm_var 1) pma_nil)) (pmg_tup rfl (pmgs_cons (pmg_name 2 sc__law_lots_right.nd) (pmgs_cons (pmg_name 3 sc__law_lots_right.nd) pmgs_nil))) (pmb_cons (pms_set 4 sc__law_lots_right.nd (pm_if (pmt_cmp (op_eqM (r64 hr)) (pm_bin op_modM (pm_callTy call_intM (by rfl) T.n_int bt_int (pma_cons (pm_var 2) pma_nil)) pm_int) pm_int) (pmG_callK0 (n := 2) (m1 := 2) (ix := [1, 0]) (fng_tree (fngX_nx (ok_may_go T))) gd (hr.mono (by decide)) (by rfl) T.may_go.m T.may_go.F.kp (fun_kb (ps := ["book", "windows"]) T.may_go.F ["windows", "book"] 0 2 [1, 0] (by decide) (fun _ _ _ _ _ _ us ws h1 h2 => match us, ws, h1, h2 with | [], [_, _], _, _ => rfl)) (pmk_cons (pm_var 3) (pmk_cons (pm_var 0) pmk_nil)) (fun l hl => match l, hl with | [_, _], _ => rfl)) (pmG_call (fng_tree (fngX_nx (ok_may_go T))) gd (hr.mono (by decide)) (by rfl) T.may_go.m T.may_go.F.kp (L2.Fun.binds (ps := ["book", "windows"]) T.may_go.F fun _ _ _ _ _ _ us hl => match us, hl with | [_, _], _ => rfl) (pma_cons (pm_var 0) (pma_cons (pm_var 3) pma_nil)) (cnt_cons (cnt_cons cnt_nil))))) (pmb_one (pms_if (pmt_cmp (op_neM (r64 hr)) (pm_callB (call_reprM gd (r65 hr)) (by rfl) T.n_repr bt_repr (pma_cons (pm_var 4) pma_nil)) (pm_callB (call_reprM gd (r65 hr)) (by rfl) T.n_repr bt_repr (pma_cons (pmG_call (fng_tree (ok__law_hangs T)) gd (hr.mono (by decide)) (by rfl) T._law_hangs.m T._law_hangs.F.kp (L2.Fun.binds (ps := ["windows"]) T._law_hangs.F fun _ _ _ _ _ _ us hl => match us, hl with | [_], _ => rfl) (pma_cons (pmG_call (fng_tree (ok__law_without T)) gd (hr.mono (by decide)) (by rfl) T._law_without.m T._law_without.F.kp (L2.Fun.binds (ps := ["windows", "lot"]) T._law_without.F fun _ _ _ _ _ _ us hl => match us, hl with | [_, _], _ => rfl) (pma_cons (ix_M (r1 hr) (fun _ _ => rfl) (fun _ _ => rfl) (pm_var 0) pm_int) (pma_cons (pm_var 3) pma_nil)) (cnt_cons (cnt_cons cnt_nil))) pma_nil) (cnt_cons cnt_nil)) pma_nil))) (pmb_one (pms_ret pm_bl)) pmb_nil)))) (pmb_one (pms_ret pm_bl)))
abbrev st_need_some_ring : Stmt := top 26
theorem sc_need_some_ring : FnScope ["book"] ["book"] (defScope st_need_some_ring) := ⟨rfl, rfl, rfl, by decide +kernel, rfl, by decide +kernel, by decide +kernel⟩
noncomputable def b_need_some_ring : MS := (sSeq (sExpr (mCallX (pureX m_need_book) (mCons (mVar 0) mNil))) (sIf (mB (mOp2 (isNoneG true) (mCall (pureZ m_a_closed_lot) (mCons (mVar 0) mNil)) (mC .non))) (sRaise "NoRing" (mCons (mVar 0) mNil)) sNil))
noncomputable def m_need_some_ring : MF := mDef 1 b_need_some_ring
theorem ok_need_some_ring (T : Wd P K mg) : FnG P w K mg base (L2.CX P w) 9 T.need_some_ring.f T.need_some_ring.fd ["book"] (spX K 1 m_need_some_ring) :=
  fngX_ok (fb := b_need_some_ring) (N := ["book"]) (ps := ["book"]) (k := 8) T.need_some_ring.F sc_need_some_ring fun cdv A outer s H E gd hr tk => (pmb_cons (pms_expr (pmX_call (fngX_tree (ok_need_book T)) gd (hr.mono (by decide)) (by rfl) T.need_book.m T.need_book.F.kp (L2.Fun.binds (ps := ["book"]) T.need_book.F fun _ _ _ _ _ _ us hl => match us, hl with | [_], _ => rfl) tk (pma_cons (pm_var 0) pma_nil) (cnt_cons cnt_nil))) (pmb_one (pms_if (pmt_cmp (op_isM true) (pmG_call (fng_tree (ok_a_closed_lot T)) gd (hr.mono (by decide)) (by rfl) T.a_closed_lot.m T.a_closed_lot.F.kp (L2.Fun.binds (ps := ["book"]) T.a_closed_lot.F fun _ _ _ _ _ _ us hl => match us, hl with | [_], _ => rfl) (pma_cons (pm_var 0) pma_nil) (cnt_cons cnt_nil)) pm_non) (pmb_one (pms_raise (k := 0) rfl tk (PieceX.mk' T.PF T.pc_NoRing T.ns_NoRing T.mg_NoRing) (hr.mono (by decide)) (pm_var 0) (by rfl))) pmb_nil)))
abbrev st_needed : Stmt := top 29
theorem sc_needed : FnScope ["book", "window"] ["book"] (defScope st_needed) := ⟨rfl, rfl, rfl, by decide +kernel, rfl, by decide +kernel, by decide +kernel⟩
noncomputable def b_needed : MS := (sSeq (sExpr (mCallX (pureX m_need_some_ring) (mCons (mVar 0) mNil))) (sRet (mLcG finC (mIt (mOp2 subG (mVar 0) (mC (.int 1)))) (gN 1) [1] (mNotT (mT (mCall (pureZ m_can_go) (mCons (mVar 0) (mCons (mTup (mCons (mVar 1) mNil)) mNil))))) (mVar 1))))
noncomputable def m_needed : MF := mDef 2 b_needed
theorem ok_needed (T : Wd P K mg) : FnG P w K mg base (L2.CX P w) 10 T.needed.f T.needed.fd ["book"] (spX K 1 m_needed) :=
  fngX_ok (fb := b_needed) (N := ["book", "window"]) (ps := ["book"]) (k := 9) T.needed.F sc_needed fun cdv A outer s H E gd hr tk => (pmb_cons (pms_expr (pmX_call (fngX_tree (ok_need_some_ring T)) gd (hr.mono (by decide)) (by rfl) T.need_some_ring.m T.need_some_ring.F.kp (L2.Fun.binds (ps := ["book"]) T.need_some_ring.F fun _ _ _ _ _ _ us hl => match us, hl with | [_], _ => rfl) tk (pma_cons (pm_var 0) pma_nil) (cnt_cons cnt_nil))) (pmb_one (pms_ret (pm_lcG (own := [(("window" : Str), 1)]) (ow := [1]) fin_C rfl sc_needed.nd (pmi_seq (ix_M (r1 hr) (fun _ _ => rfl) (fun _ _ => rfl) (pm_var 0) pm_int)) ⟨rfl, of_decide_eq_true (by kernel_rfl), of_decide_eq_true (by kernel_rfl), of_decide_eq_true (by kernel_rfl), of_decide_eq_true (by kernel_rfl)⟩ (fun s H C cl fp => (pmg_name 1 sc_needed.nd)) (fun s H C cl fp => (pmts_one (pmt_not (pmt_val (pmG_call (fng_tree (ok_can_go T)) gd (hr.mono (by decide)) (by rfl) T.can_go.m T.can_go.F.kp (L2.Fun.binds (ps := ["book", "windows"]) T.can_go.F fun _ _ _ _ _ _ us hl => match us, hl with | [_, _], _ => rfl) (pma_cons (pm_var 0) (pma_cons (pm_tup (pma_cons (pm_var 1) pma_nil)) pma_nil)) (cnt_cons (cnt_cons cnt_nil))))))) (fun s H C cl fp => (pm_var 1))))))
abbrev st__law_needed_right : Stmt := top 47
theorem sc__law_needed_right : FnScope ["book", "due", "window", "found"] ["book"] (defScope st__law_needed_right) := ⟨rfl, rfl, rfl, by decide +kernel, rfl, by decide +kernel, by decide +kernel⟩
noncomputable def b__law_needed_right : MS := (sSeq (sSet 1 (mCallB reprG (mCons (mLcG finT (mIt (mOp2 subG (mVar 0) (mC (.int 1)))) (gN 2) [2] (mNotT (mT (mCall (pureZ m__law_hangs) (mCons (mCall (pureZ m__law_without) (mCons (mOp2 subG (mVar 0) (mC (.int 1))) (mCons (mTup (mCons (mVar 2) mNil)) mNil))) mNil)))) (mVar 2)) mNil))) (sSeq (sSet 3 (mCall (newF (nxF m_needed)) (mCons (mVar 0) mNil))) (sSeq (sIf (mB (mOp2 (lT2 neT) (mCallB reprG (mCons (mVar 3) mNil)) (mVar 1))) (sRet (mC (.bl false))) sNil) (sSeq (sExpr (mMeth kdLst appendG (mVar 3) (mCons (mC (.str (cs "later"))) mNil))) (sSeq (sPut (mVar 3) (mC (.int 0)) (mC (.str (cs "sooner")))) (sRet (mOp2 (lT2 eqT) (mCallB reprG (mCons (mCallK (pureZ (nxF m_needed)) 0 1 [0] mNil (mCons (mVar 0) mNil)) mNil)) (mVar 1))))))))
noncomputable def m__law_needed_right : MF := mDef 4 b__law_needed_right
theorem ok__law_needed_right (T : Wd P K mg) : FnG P w K mg base CX0 11 T._law_needed_right.f T._law_needed_right.fd ["book"] (spM K 1 m__law_needed_right) :=
  fng_ok (fb := b__law_needed_right) (N := ["book", "due", "window", "found"]) (ps := ["book"]) (k := 10) T._law_needed_right.F sc__law_needed_right fun cdv A outer s H E gd hr => (pmb_cons (pms_set 1 sc__law_needed_right.nd (pm_callB (call_reprM gd (r65 hr)) (by rfl) T.n_repr bt_repr (pma_cons (pm_lcG (own := [(("window" : Str), 2)]) (ow := [2]) fin_T rfl sc__law_needed_right.nd (pmi_seq (ix_M (r1 hr) (fun _ _ => rfl) (fun _ _ => rfl) (pm_var 0) pm_int)) ⟨rfl, of_decide_eq_true (by kernel_rfl), of_decide_eq_true (by kernel_rfl), of_decide_eq_true (by kernel_rfl), of_decide_eq_true (by kernel_rfl)⟩ (fun s H C cl fp => (pmg_name 2 sc__law_needed_right.nd)) (fun s H C cl fp => (pmts_one (pmt_not (pmt_val (pmG_call (fng_tree (ok__law_hangs T)) gd (hr.mono (by decide)) (by rfl) T._law_hangs.m T._law_hangs.F.kp (L2.Fun.binds (ps := ["windows"]) T._law_hangs.F fun _ _ _ _ _ _ us hl => match us, hl with | [_], _ => rfl) (pma_cons (pmG_call (fng_tree (ok__law_without T)) gd (hr.mono (by decide)) (by rfl) T._law_without.m T._law_without.F.kp (L2.Fun.binds (ps := ["windows", "lot"]) T._law_without.F fun _ _ _ _ _ _ us hl => match us, hl with | [_, _], _ => rfl) (pma_cons (ix_M (r1 hr) (fun _ _ => rfl) (fun _ _ => rfl) (pm_var 0) pm_int) (pma_cons (pm_tup (pma_cons (pm_var 2) pma_nil)) pma_nil)) (cnt_cons (cnt_cons cnt_nil))) pma_nil) (cnt_cons cnt_nil)))))) (fun s H C cl fp => (pm_var 2))) pma_nil))) (pmb_cons (pms_set 3 sc__law_needed_right.nd (pmG_call (fng_new (fngX_nx (ok_needed T))) gd (hr.mono (by decide)) (by rfl) T.needed.m T.needed.F.kp (L2.Fun.binds (ps := ["book"]) T.needed.F fun _ _ _ _ _ _ us hl => match us, hl with | [_], _ => rfl) (pma_cons (pm_var 0) pma_nil) (cnt_cons cnt_nil))) (pmb_cons (pms_if (pmt_cmp (op_neM (r64 hr)) (pm_callB (call_reprM gd (r65 hr)) (by rfl) T.n_repr bt_repr (pma_cons (pm_var 3) pma_nil)) (pm_var 1)) (pmb_one (pms_ret pm_bl)) pmb_nil) (pmb_cons (pms_expr (pm_meth PySem.F.plainAttrs_list PySem.F.slot_list_append PySem.F.type_list_append kd_lst mt_appendM (pm_var 3) (pma_cons (pm_str (cs "later") (sv_cs _) (by decide)) pma_nil))) (pmb_cons (pms_put (r1 hr) (pm_var 3) pm_int (pm_str (cs "sooner") (sv_cs _) (by decide))) (pmb_one (pms_ret (pm_cmp (op_eqM (r64 hr)) (pm_callB (call_reprM gd (r65 hr)) (by rfl) T.n_repr bt_repr (pma_cons (pmG_callK0 (n := 1) (m1 := 1) (ix := [0]) (fng_tree (fngX_nx (ok_needed T))) gd (hr.mono (by decide)) (by rfl) T.needed.m T.needed.F.kp (fun_kb (ps := ["book"]) T.needed.F ["book"] 0 1 [0] (by decide) (fun _ _ _ _ _ _ us ws h1 h2 => match us, ws, h1, h2 with | [], [_], _, _ => rfl)) (pmk_cons (pm_var 0) pmk_nil) (fun l hl => match l, hl with | [_], _ => rfl)) pma_nil)) (pm_var 1)))))))))
abbrev st__law_rest_right : Stmt := top 48
theorem sc__law_rest_right : FnScope ["book", "found", "window", "left"] ["book", "found"] (defScope st__law_rest_right) := ⟨rfl, rfl, rfl, by decide +kernel, rfl, by decide +kernel, by decide +kernel⟩
noncomputable def b__law_rest_right : MS := (sSeq (sIf (mOrT (mNotT (mT (mCallB isiG (mCons (mVar 1) (mCons (mC (.ty "tuple")) mNil))))) (mB (mOp2 (lT2 neT) (mCallB (lTL lstOfT) (mCons (mVar 1) mNil)) (mLcG finT (mIt (mOp2 subG (mVar 0) (mC (.int 1)))) (gN 2) [2] (mB (mOp2 (inG false) (mVar 2) (mVar 1))) (mVar 2))))) (sRet (mC (.bl false))) sNil) (sSeq (sSet 3 (mCall (pureZ m__law_without) (mCons (mOp2 subG (mVar 0) (mC (.int 1))) (mCons (mVar 1) mNil)))) (sSeq (sIf (mNotT (mT (mCall (pureZ m__law_hangs) (mCons (mVar 3) mNil)))) (sRet (mC (.bl false))) sNil) (sRet (mNot (mCallB (lTL anyT) (mCons (mLcG finT (mIt (mVar 3)) (gN 2) [2] mYes (mCall (pureZ m__law_hangs) (mCons (mCall (pureZ m__law_without) (mCons (mVar 3) (mCons (mTup (mCons (mVar 2) mNil)) mNil))) mNil))) mNil)))))))
noncomputable def m__law_rest_right : MF := mDef 4 b__law_rest_right
theorem ok__law_rest_right (T : Wd P K mg) : FnG P w K mg base CX0 3 T._law_rest_right.f T._law_rest_right.fd ["book", "found"] (spM K 2 m__law_rest_right) :=
  fng_ok (fb := b__law_rest_right) (N := ["book", "found", "window", "left"]) (ps := ["book", "found"]) (k := 2) T._law_rest_right.F sc__law_rest_right fun cdv A outer s H E gd hr => (pmb_cons (pms_if ((pmw_or (pmt_not (pmt_val (pm_callB call_isiM (by rfl) T.n_isinstance bt_isinstance (pma_cons (pm_var 1) (pma_cons (pm_ty (by rfl) T.n_tuple bt_tuple) pma_nil))))) (pmw_or1 (pmt_cmp (op_neM (r64 hr)) (pm_callTy call_lstM (by rfl) T.n_list bt_list (pma_cons (pm_var 1) pma_nil)) (pm_lcG (own := [(("window" : Str), 2)]) (ow := [2]) fin_T rfl sc__law_rest_right.nd (pmi_seq (ix_M (r1 hr) (fun _ _ => rfl) (fun _ _ => rfl) (pm_var 0) pm_int)) ⟨rfl, of_decide_eq_true (by kernel_rfl), of_decide_eq_true (by kernel_rfl), of_decide_eq_true (by kernel_rfl), of_decide_eq_true (by kernel_rfl)⟩ (fun s H C cl fp => (pmg_name 2 sc__law_rest_right.nd)) (fun s H C cl fp => (pmts_one (pmt_cmp (op_inM false (r65 hr)) (pm_var 2) (pm_var 1)))) (fun s H C cl fp => (pm_var 2))))))).pt (pmb_one (pms_ret pm_bl)) pmb_nil) (pmb_cons (pms_set 3 sc__law_rest_right.nd (pmG_call (fng_tree (ok__law_without T)) gd (hr.mono (by decide)) (by rfl) T._law_without.m T._law_without.F.kp (L2.Fun.binds (ps := ["windows", "lot"]) T._law_without.F fun _ _ _ _ _ _ us hl => match us, hl with | [_, _], _ => rfl) (pma_cons (ix_M (r1 hr) (fun _ _ => rfl) (fun _ _ => rfl) (pm_var 0) pm_int) (pma_cons (pm_var 1) pma_nil)) (cnt_cons (cnt_cons cnt_nil)))) (pmb_cons (pms_if (pmt_not (pmt_val (pmG_call (fng_tree (ok__law_hangs T)) gd (hr.mono (by decide)) (by rfl) T._law_hangs.m T._law_hangs.F.kp (L2.Fun.binds (ps := ["windows"]) T._law_hangs.F fun _ _ _ _ _ _ us hl => match us, hl with | [_], _ => rfl) (pma_cons (pm_var 3) pma_nil) (cnt_cons cnt_nil)))) (pmb_one (pms_ret pm_bl)) pmb_nil) (pmb_one (pms_ret (pm_not (pm_callB (call_anyM rfl) (by rfl) T.n_any bt_any (pma_cons (pm_lcG (own := [(("window" : Str), 2)]) (ow := [2]) fin_T rfl sc__law_rest_right.nd (pmi_seq (pm_var 3)) ⟨rfl, of_decide_eq_true (by kernel_rfl), of_decide_eq_true (by kernel_rfl), of_decide_eq_true (by kernel_rfl), of_decide_eq_true (by kernel_rfl)⟩ (fun s H C cl fp => (pmg_name 2 sc__law_rest_right.nd)) (fun s H C cl fp => pmts_nil) (fun s H C cl fp => (pmG_call (fng_tree (ok__law_hangs T)) gd (hr.mono (by decide)) (by rfl) T._law_hangs.m T._law_hangs.F.kp (L2.Fun.binds (ps := ["windows"]) T._law_hangs.F fun _ _ _ _ _ _ us hl => match us, hl with | [_], _ => rfl) (pma_cons (pmG_call (fng_tree (ok__law_without T)) gd (hr.mono (by decide)) (by rfl) T._law_without.m T._law_without.F.kp (L2.Fun.binds (ps := ["windows", "lot"]) T._law_without.F fun _ _ _ _ _ _ us hl => match us, hl with | [_, _], _ => rfl) (pma_cons (pm_var 3) (pma_cons (pm_tup (pma_cons (pm_var 2) pma_nil)) pma_nil)) (cnt_cons (cnt_cons cnt_nil))) pma_nil) (cnt_cons cnt_nil)))) pma_nil))))))))
abbrev st_rest : Stmt := top 31
theorem sc_rest : FnScope ["book", "found", "window"] ["book"] (defScope st_rest) := ⟨rfl, rfl, rfl, by decide +kernel, rfl, by decide +kernel, by decide +kernel⟩
noncomputable def b_rest : MS := (sSeq (sExpr (mCallX (pureX m_need_some_ring) (mCons (mVar 0) mNil))) (sSeq (sSet 1 (mTup mNil)) (sSeq (sFor (mIt (mOp2 subG (mVar 0) (mC (.int 1)))) (gN 2) (sIf (mT (mCall (pureZ m_can_go) (mCons (mVar 0) (mCons (mOp2 (lT2 addT) (mVar 1) (mTup (mCons (mVar 2) mNil))) mNil)))) (sSet 1 (mOp2 (lT2 addT) (mVar 1) (mTup (mCons (mVar 2) mNil)))) sNil)) (sRet (mVar 1)))))
noncomputable def m_rest : MF := mDef 3 b_rest
theorem ok_rest (T : Wd P K mg) : FnG P w K mg base (L2.CX P w) 10 T.rest.f T.rest.fd ["book"] (spX K 1 m_rest) :=
  fngX_ok (fb := b_rest) (N := ["book", "found", "window"]) (ps := ["book"]) (k := 9) T.rest.F sc_rest fun cdv A outer s H E gd hr tk => (pmb_cons (pms_expr (pmX_call (fngX_tree (ok_need_some_ring T)) gd (hr.mono (by decide)) (by rfl) T.need_some_ring.m T.need_some_ring.F.kp (L2.Fun.binds (ps := ["book"]) T.need_some_ring.F fun _ _ _ _ _ _ us hl => match us, hl with | [_], _ => rfl) tk (pma_cons (pm_var 0) pma_nil) (cnt_cons cnt_nil))) (pmb_cons (pms_set 1 sc_rest.nd (pm_tup pma_nil)) (pmb_cons (pms_for (passes_of rfl) rfl (pmi_seq (ix_M (r1 hr) (fun _ _ => rfl) (fun _ _ => rfl) (pm_var 0) pm_int)) (pmg_name 2 sc_rest.nd) (pmb_one (pms_if (pmt_val (pmG_call (fng_tree (ok_can_go T)) gd (hr.mono (by decide)) (by rfl) T.can_go.m T.can_go.F.kp (L2.Fun.binds (ps := ["book", "windows"]) T.can_go.F fun _ _ _ _ _ _ us hl => match us, hl with | [_, _], _ => rfl) (pma_cons (pm_var 0) (pma_cons (pm_bin op_addM (pm_var 1) (pm_tup (pma_cons (pm_var 2) pma_nil))) pma_nil)) (cnt_cons (cnt_cons cnt_nil)))) (pmb_one (pms_set 1 sc_rest.nd (pm_bin op_addM (pm_var 1) (pm_tup (pma_cons (pm_var 2) pma_nil))))) pmb_nil))) (pmb_one (pms_ret (pm_var 1))))))
abbrev st__law_caught : Stmt := top 46
theorem sc__law_caught : FnScope ["book", "asks_rest", "caught", "told", "e"] ["book", "asks_rest"] (defScope st__law_caught) := ⟨rfl, rfl, rfl, by decide +kernel, rfl, by decide +kernel, by decide +kernel⟩
noncomputable def b__law_caught : MS := (sSeq (sSet 2 (mC .non)) (sSeq (sTryK ["NoRing"] (sSet 3 (mIf (mT (mVar 1)) (mCallX (pureX m_rest) (mCons (mVar 0) mNil)) (mCallX (pureX m_needed) (mCons (mVar 0) mNil)))) 4 2) (sRet (mVar 2))))
noncomputable def m__law_caught : MF := mDef 5 b__law_caught
theorem ok__law_caught (T : Wd P K mg) : FnG P w K mg base CX0 11 T._law_caught.f T._law_caught.fd ["book", "asks_rest"] (spM K 2 m__law_caught) :=
  fng_ok (fb := b__law_caught) (N := ["book", "asks_rest", "caught", "told", "e"]) (ps := ["book", "asks_rest"]) (k := 10) T._law_caught.F sc__law_caught fun cdv A outer s H E gd hr => (pmb_cons (pms_set 2 sc__law_caught.nd pm_non) (pmb_cons (pms_tryK 4 2 T.ex_NoRing rfl rfl rfl sc__law_caught.nd ⟨by rfl, by decide, .inl T.mg_NoRing⟩ (fun Wl pn xe tk pa => (pmb_one (pms_set 3 sc__law_caught.nd (pm_if (pmt_val (pm_var 1)) (pmX_call (fngX_tree (ok_rest T)) gd (hr.mono (by decide)) (by rfl) T.rest.m T.rest.F.kp (L2.Fun.binds (ps := ["book"]) T.rest.F fun _ _ _ _ _ _ us hl => match us, hl with | [_], _ => rfl) tk (pma_cons (pm_var 0) pma_nil) (cnt_cons cnt_nil)) (pmX_call (fngX_tree (ok_needed T)) gd (hr.mono (by decide)) (by rfl) T.needed.m T.needed.F.kp (L2.Fun.binds (ps := ["book"]) T.needed.F fun _ _ _ _ _ _ us hl => match us, hl with | [_], _ => rfl) tk (pma_cons (pm_var 0) pma_nil) (cnt_cons cnt_nil))))))) (pmb_one (pms_ret (pm_var 2)))))
abbrev st__law_book_right : Stmt := top 49
theorem sc__law_book_right : FnScope ["book", "lots", "asks_rest", "caught"] ["book", "lots"] (defScope st__law_book_right) := ⟨rfl, rfl, rfl, by decide +kernel, rfl, by decide +kernel, by decide +kernel⟩
noncomputable def b__law_book_right : MS := (sSeq (sIf (mNotT (mT (mCall (pureZ m__law_lots_right) (mCons (mVar 0) (mCons (mVar 1) mNil))))) (sRet (mC (.bl false))) sNil) (sSeq (sIf (mT (mCall (pureZ m__law_hangs) (mCons (mOp2 subG (mVar 0) (mC (.int 1))) mNil))) (sSeq (sIf (mNotT (mT (mCall (pureZ m__law_needed_right) (mCons (mVar 0) mNil)))) (sRet (mC (.bl false))) sNil) (sRet (mAnd (mCall (pureZ m__law_rest_right) (mCons (mVar 0) (mCons (mCall (pureZ (nxF m_rest)) (mCons (mVar 0) mNil)) mNil))) (mCall (pureZ m__law_rest_right) (mCons (mVar 0) (mCons (mCallK (pureZ (nxF m_rest)) 0 1 [0] mNil (mCons (mVar 0) mNil)) mNil)))))) sNil) (sSeq (sFor (mIt (mLst (mCons (mC (.bl true)) (mCons (mC (.bl false)) mNil)))) (gN 2) (sSeq (sSet 3 (mCall (pureZ m__law_caught) (mCons (mVar 0) (mCons (mVar 2) mNil)))) (sIf (mOrT (mB (mOp2 (isNoneG false) (mVar 3) (mC .non))) (mB (mOp2 (lT2 neT) (mCallB reprG (mCons (mVal ["PieceError", "InvalidBook", "NoRing", "InvalidWindows"] (mVar 3)) mNil)) (mCallB reprG (mCons (mVar 0) mNil))))) (sRet (mC (.bl false))) sNil))) (sRet (mC (.bl true))))))
noncomputable def m__law_book_right : MF := mDef 4 b__law_book_right
theorem ok__law_book_right (T : Wd P K mg) : FnG P w K mg base CX0 12 T._law_book_right.f T._law_book_right.fd ["book", "lots"] (spM K 2 m__law_book_right) :=
  fng_ok (fb := b__law_book_right) (N := ["book", "lots", "asks_rest", "caught"]) (ps := ["book", "lots"]) (k := 11) T._law_book_right.F sc__law_book_right fun cdv A outer s H E gd hr => (pmb_cons (pms_if (pmt_not (pmt_val (pmG_call (fng_tree (ok__law_lots_right T)) gd (hr.mono (by decide)) (by rfl) T._law_lots_right.m T._law_lots_right.F.kp (L2.Fun.binds (ps := ["book", "lots"]) T._law_lots_right.F fun _ _ _ _ _ _ us hl => match us, hl with | [_, _], _ => rfl) (pma_cons (pm_var 0) (pma_cons (pm_var 1) pma_nil)) (cnt_cons (cnt_cons cnt_nil))))) (pmb_one (pms_ret pm_bl)) pmb_nil) (pmb_cons (pms_if (pmt_val (pmG_call (fng_tree (ok__law_hangs T)) gd (hr.mono (by decide)) (by rfl) T._law_hangs.m T._law_hangs.F.kp (L2.Fun.binds (ps := ["windows"]) T._law_hangs.F fun _ _ _ _ _ _ us hl => match us, hl with | [_], _ => rfl) (pma_cons (ix_M (r1 hr) (fun _ _ => rfl) (fun _ _ => rfl) (pm_var 0) pm_int) pma_nil) (cnt_cons cnt_nil))) (pmb_cons (pms_if (pmt_not (pmt_val (pmG_call (fng_tree (ok__law_needed_right T)) gd (hr.mono (by decide)) (by rfl) T._law_needed_right.m T._law_needed_right.F.kp (L2.Fun.binds (ps := ["book"]) T._law_needed_right.F fun _ _ _ _ _ _ us hl => match us, hl with | [_], _ => rfl) (pma_cons (pm_var 0) pma_nil) (cnt_cons cnt_nil)))) (pmb_one (pms_ret pm_bl)) pmb_nil) (pmb_one (pms_ret (pm_and (pmG_call (fng_tree (ok__law_rest_right T)) gd (hr.mono (by decide)) (by rfl) T._law_rest_right.m T._law_rest_right.F.kp (L2.Fun.binds (ps := ["book", "found"]) T._law_rest_right.F fun _ _ _ _ _ _ us hl => match us, hl with | [_, _], _ => rfl) (pma_cons (pm_var 0) (pma_cons (pmG_call (fng_tree (fngX_nx (ok_rest T))) gd (hr.mono (by decide)) (by rfl) T.rest.m T.rest.F.kp (L2.Fun.binds (ps := ["book"]) T.rest.F fun _ _ _ _ _ _ us hl => match us, hl with | [_], _ => rfl) (pma_cons (pm_var 0) pma_nil) (cnt_cons cnt_nil)) pma_nil)) (cnt_cons (cnt_cons cnt_nil))) (pm_one (pmG_call (fng_tree (ok__law_rest_right T)) gd (hr.mono (by decide)) (by rfl) T._law_rest_right.m T._law_rest_right.F.kp (L2.Fun.binds (ps := ["book", "found"]) T._law_rest_right.F fun _ _ _ _ _ _ us hl => match us, hl with | [_, _], _ => rfl) (pma_cons (pm_var 0) (pma_cons (pmG_callK0 (n := 1) (m1 := 1) (ix := [0]) (fng_tree (fngX_nx (ok_rest T))) gd (hr.mono (by decide)) (by rfl) T.rest.m T.rest.F.kp (fun_kb (ps := ["book"]) T.rest.F ["book"] 0 1 [0] (by decide) (fun _ _ _ _ _ _ us ws h1 h2 => match us, ws, h1, h2 with | [], [_], _, _ => rfl)) (pmk_cons (pm_var 0) pmk_nil) (fun l hl => match l, hl with | [_], _ => rfl)) pma_nil)) (cnt_cons (cnt_cons cnt_nil)))))))) pmb_nil) (pmb_cons (pms_for PassesOwn.never rfl (pmi_seq (pm_lst (pma_cons pm_bl (pma_cons pm_bl pma_nil)))) (pmg_name 2 sc__law_book_right.nd) (pmb_cons (pms_set 3 sc__law_book_right.nd (pmG_call (fng_tree (ok__law_caught T)) gd (hr.mono (by decide)) (by rfl) T._law_caught.m T._law_caught.F.kp (L2.Fun.binds (ps := ["book", "asks_rest"]) T._law_caught.F fun _ _ _ _ _ _ us hl => match us, hl with | [_, _], _ => rfl) (pma_cons (pm_var 0) (pma_cons (pm_var 2) pma_nil)) (cnt_cons (cnt_cons cnt_nil)))) (pmb_one (pms_if ((pmw_or (pmt_cmp (op_isM false) (pm_var 3) pm_non) (pmw_or1 (pmt_cmp (op_neM (r64 hr)) (pm_callB (call_reprM gd (r65 hr)) (by rfl) T.n_repr bt_repr (pma_cons (pm_val T.xl (pm_var 3)) pma_nil)) (pm_callB (call_reprM gd (r65 hr)) (by rfl) T.n_repr bt_repr (pma_cons (pm_var 0) pma_nil)))))).pt (pmb_one (pms_ret pm_bl)) pmb_nil)))) (pmb_one (pms_ret pm_bl)))))
abbrev st__law_all_lots : Stmt := top 43
theorem sc__law_all_lots : FnScope ["windows", "found", "window", "lot"] ["windows"] (defScope st__law_all_lots) := ⟨rfl, rfl, rfl, by decide +kernel, rfl, by decide +kernel, by decide +kernel⟩
noncomputable def b__law_all_lots : MS := (sSeq (sSet 1 (mLst (mCons (mTup mNil) mNil))) (sSeq (sFor (mIt (mVar 0)) (gN 2) (sSet 1 (mOp2 (lT2 addT) (mVar 1) (mLcG finT (mIt (mVar 1)) (gN 3) [3] mYes (mOp2 (lT2 addT) (mVar 3) (mTup (mCons (mVar 2) mNil))))))) (sRet (mLcG finT (mIt (mVar 1)) (gN 3) [3] (mB (mOp2 (lT2 ltT) (mCallB lenG (mCons (mVar 3) mNil)) (mCallB lenG (mCons (mVar 0) mNil)))) (mVar 3)))))
noncomputable def m__law_all_lots : MF := mDef 4 b__law_all_lots
theorem ok__law_all_lots (T : Wd P K mg) : FnG P w K mg base CX0 1 T._law_all_lots.f T._law_all_lots.fd ["windows"] (spM K 1 m__law_all_lots) :=
  fng_ok (fb := b__law_all_lots) (N := ["windows", "found", "window", "lot"]) (ps := ["windows"]) (k := 0) T._law_all_lots.F sc__law_all_lots fun cdv A outer s H E gd hr => (pmb_cons (pms_set 1 sc__law_all_lots.nd (pm_lst (pma_cons (pm_tup pma_nil) pma_nil))) (pmb_cons (pms_for PassesOwn.never rfl (pmi_seq (pm_var 0)) (pmg_name 2 sc__law_all_lots.nd) (pmb_one (pms_set 1 sc__law_all_lots.nd (pm_bin op_addM (pm_var 1) (pm_lcG (own := [(("lot" : Str), 3)]) (ow := [3]) fin_T rfl sc__law_all_lots.nd (pmi_seq (pm_var 1)) ⟨rfl, of_decide_eq_true (by kernel_rfl), of_decide_eq_true (by kernel_rfl), of_decide_eq_true (by kernel_rfl), of_decide_eq_true (by kernel_rfl)⟩ (fun s H C cl fp => (pmg_name 3 sc__law_all_lots.nd)) (fun s H C cl fp => pmts_nil) (fun s H C cl fp => (pm_bin op_addM (pm_var 3) (pm_tup (pma_cons (pm_var 2) pma_nil))))))))) (pmb_one (pms_ret (pm_lcG (own := [(("lot" : Str), 3)]) (ow := [3]) fin_T rfl sc__law_all_lots.nd (pmi_seq (pm_var 1)) ⟨rfl, of_decide_eq_true (by kernel_rfl), of_decide_eq_true (by kernel_rfl), of_decide_eq_true (by kernel_rfl), of_decide_eq_true (by kernel_rfl)⟩ (fun s H C cl fp => (pmg_name 3 sc__law_all_lots.nd)) (fun s H C cl fp => (pmts_one (pmt_cmp (op_ltM (r64 hr)) (pm_callB call_lenM (by rfl) T.n_len bt_len (pma_cons (pm_var 3) pma_nil)) (pm_callB call_lenM (by rfl) T.n_len bt_len (pma_cons (pm_var 0) pma_nil))))) (fun s H C cl fp => (pm_var 3)))))))
abbrev st__law_some_lots : Stmt := top 44
theorem sc__law_some_lots : FnScope ["well", "book", "rings", "size", "windows", "found", "turn", "share", "window", "kept", "lot"] ["well", "book", "rings"] (defScope st__law_some_lots) := ⟨rfl, rfl, rfl, by decide +kernel, rfl, by decide +kernel, by decide +kernel⟩
noncomputable def b__law_some_lots : MS := (sSeq (sAsg (gT 2 (gsCons (gN 3) (gsCons (gN 4) gsNil))) (mVar 1)) (sSeq (sSet 5 (mLstC (mCons (mTup mNil) (mCons (mTup (mCons (mCall m__law_one_of (mCons (mVar 0) (mCons (mVar 4) mNil))) mNil)) mNil)))) (sSeq (sFor (mI rng1Of (mCons (mC (.int 4)) mNil)) (gN 6) (sSeq (sSet 7 (mCall m__law_one_of (mCons (mVar 0) (mCons (mLst (mCons (mC (.int 2)) (mCons (mC (.int 3)) (mCons (mC (.int 8)) (mCons (mC (.int 20)) mNil))))) mNil)))) (sExpr (mMeth kdLst appendG (mVar 5) (mCons (mCallB (lTL tupOfT) (mCons (mLcG finT (mIt (mVar 4)) (gN 8) [8] (mB (mOp2 (lT2 eqT) (mCall m__law_pick (mCons (mVar 0) (mCons (mVar 7) mNil))) (mC (.int 0)))) (mVar 8)) mNil)) mNil))))) (sSeq (sFor (mI rng1Of (mCons (mCallB (lTL min2X) (mCons (mC (.int 3)) (mCons (mCallB lenG (mCons (mVar 2) mNil)) mNil))) mNil)) (gN 6) (sSeq (sSet 9 (mOp2 (lT2 addT) (mCall (pureZ m__law_round) (mCons (mVar 3) (mCons (mCall m__law_one_of (mCons (mVar 0) (mCons (mVar 2) mNil))) mNil))) (mCall (pureZ m__law_round) (mCons (mVar 3) (mCons (mCall m__law_one_of (mCons (mVar 0) (mCons (mVar 2) mNil))) mNil))))) (sSeq (sIf (mB (mOp2 (lT2 eqT) (mVar 6) (mC (.int 0)))) (sSet 9 (mCall (pureZ m__law_round) (mCons (mVar 3) (mCons (mOp2 subG (mVar 2) (mC (.int 0))) mNil)))) sNil) (sExpr (mMeth kdLst appendG (mVar 5) (mCons (mCallB (lTL tupOfT) (mCons (mCall (pureZ m__law_without) (mCons (mVar 4) (mCons (mVar 9) mNil))) mNil)) mNil)))))) (sSeq (sFrz 5) (sRet (mLcG finT (mIt (mVar 5)) (gN 10) [10] (mB (mOp2 (lT2 ltT) (mCallB lenG (mCons (mVar 10) mNil)) (mCallB lenG (mCons (mVar 4) mNil)))) (mVar 10))))))))
noncomputable def m__law_some_lots : MF := mDef 11 b__law_some_lots
theorem ok__law_some_lots (T : Wd P K mg) : FnG P w K mg base CX0 3 T._law_some_lots.f T._law_some_lots.fd ["well", "book", "rings"] (spM K 3 m__law_some_lots) :=
  fng_ok (fb := b__law_some_lots) (N := ["well", "book", "rings", "size", "windows", "found", "turn", "share", "window", "kept", "lot"]) (ps := ["well", "book", "rings"]) (k := 2) T._law_some_lots.F sc__law_some_lots fun cdv A outer s H E gd hr => (pmb_cons (pms_asg (pm_var 1) (pmg_tup rfl (pmgs_cons (pmg_name 3 sc__law_some_lots.nd) (pmgs_cons (pmg_name 4 sc__law_some_lots.nd) pmgs_nil)))) (pmb_cons (pms_set 5 sc__law_some_lots.nd (pm_lstC (pma_cons (pm_tup pma_nil) (pma_cons (pm_tup (pma_cons (pmG_call (ok__law_one_of T) gd (hr.mono (by decide)) (by rfl) T._law_one_of.m T._law_one_of.F.kp (L2.Fun.binds (ps := ["well", "things"]) T._law_one_of.F fun _ _ _ _ _ _ us hl => match us, hl with | [_, _], _ => rfl) (pma_cons (pm_var 0) (pma_cons (pm_var 4) pma_nil)) (cnt_cons (cnt_cons cnt_nil))) pma_nil)) pma_nil)))) (pmb_cons (pms_for PassesOwn.never rfl (pmi_range1 (by rfl) T.n_range (pma_cons pm_int pma_nil)) (pmg_name 6 sc__law_some_lots.nd) (pmb_cons (pms_set 7 sc__law_some_lots.nd (pmG_call (ok__law_one_of T) gd (hr.mono (by decide)) (by rfl) T._law_one_of.m T._law_one_of.F.kp (L2.Fun.binds (ps := ["well", "things"]) T._law_one_of.F fun _ _ _ _ _ _ us hl => match us, hl with | [_, _], _ => rfl) (pma_cons (pm_var 0) (pma_cons (pm_lst (pma_cons pm_int (pma_cons pm_int (pma_cons pm_int (pma_cons pm_int pma_nil))))) pma_nil)) (cnt_cons (cnt_cons cnt_nil)))) (pmb_one (pms_expr (pm_meth PySem.F.plainAttrs_list PySem.F.slot_list_append PySem.F.type_list_append kd_lst mt_appendM (pm_var 5) (pma_cons (pm_callTy call_tupM (by rfl) T.n_tuple bt_tuple (pma_cons (pm_lcG (own := [(("window" : Str), 8)]) (ow := [8]) fin_T rfl sc__law_some_lots.nd (pmi_seq (pm_var 4)) ⟨rfl, of_decide_eq_true (by kernel_rfl), of_decide_eq_true (by kernel_rfl), of_decide_eq_true (by kernel_rfl), of_decide_eq_true (by kernel_rfl)⟩ (fun s H C cl fp => (pmg_name 8 sc__law_some_lots.nd)) (fun s H C cl fp => (pmts_one (pmt_cmp (op_eqM (r64 hr)) (pmG_call (ok__law_pick T) gd (hr.mono (by decide)) (by rfl) T._law_pick.m T._law_pick.F.kp (L2.Fun.binds (ps := ["well", "ways"]) T._law_pick.F fun _ _ _ _ _ _ us hl => match us, hl with | [_, _], _ => rfl) (pma_cons (pm_var 0) (pma_cons (pm_var 7) pma_nil)) (cnt_cons (cnt_cons cnt_nil))) pm_int))) (fun s H C cl fp => (pm_var 8))) pma_nil)) pma_nil)))))) (pmb_cons (pms_for PassesOwn.never rfl (pmi_range1 (by rfl) T.n_range (pma_cons (pm_callB (call_min2X rfl) (by rfl) T.n_min bt_min (pma_cons pm_int (pma_cons (pm_callB call_lenM (by rfl) T.n_len bt_len (pma_cons (pm_var 2) pma_nil)) pma_nil))) pma_nil)) (pmg_name 6 sc__law_some_lots.nd) (pmb_cons (pms_set 9 sc__law_some_lots.nd (pm_bin op_addM (pmG_call (fng_tree (ok__law_round T)) gd (hr.mono (by decide)) (by rfl) T._law_round.m T._law_round.F.kp (L2.Fun.binds (ps := ["size", "ring"]) T._law_round.F fun _ _ _ _ _ _ us hl => match us, hl with | [_, _], _ => rfl) (pma_cons (pm_var 3) (pma_cons (pmG_call (ok__law_one_of T) gd (hr.mono (by decide)) (by rfl) T._law_one_of.m T._law_one_of.F.kp (L2.Fun.binds (ps := ["well", "things"]) T._law_one_of.F fun _ _ _ _ _ _ us hl => match us, hl with | [_, _], _ => rfl) (pma_cons (pm_var 0) (pma_cons (pm_var 2) pma_nil)) (cnt_cons (cnt_cons cnt_nil))) pma_nil)) (cnt_cons (cnt_cons cnt_nil))) (pmG_call (fng_tree (ok__law_round T)) gd (hr.mono (by decide)) (by rfl) T._law_round.m T._law_round.F.kp (L2.Fun.binds (ps := ["size", "ring"]) T._law_round.F fun _ _ _ _ _ _ us hl => match us, hl with | [_, _], _ => rfl) (pma_cons (pm_var 3) (pma_cons (pmG_call (ok__law_one_of T) gd (hr.mono (by decide)) (by rfl) T._law_one_of.m T._law_one_of.F.kp (L2.Fun.binds (ps := ["well", "things"]) T._law_one_of.F fun _ _ _ _ _ _ us hl => match us, hl with | [_, _], _ => rfl) (pma_cons (pm_var 0) (pma_cons (pm_var 2) pma_nil)) (cnt_cons (cnt_cons cnt_nil))) pma_nil)) (cnt_cons (cnt_cons cnt_nil))))) (pmb_cons (pms_if (pmt_cmp (op_eqM (r64 hr)) (pm_var 6) pm_int) (pmb_one (pms_set 9 sc__law_some_lots.nd (pmG_call (fng_tree (ok__law_round T)) gd (hr.mono (by decide)) (by rfl) T._law_round.m T._law_round.F.kp (L2.Fun.binds (ps := ["size", "ring"]) T._law_round.F fun _ _ _ _ _ _ us hl => match us, hl with | [_, _], _ => rfl) (pma_cons (pm_var 3) (pma_cons (ix_M (r1 hr) (fun _ _ => rfl) (fun _ _ => rfl) (pm_var 2) pm_int) pma_nil)) (cnt_cons (cnt_cons cnt_nil))))) pmb_nil) (pmb_one (pms_expr (pm_meth PySem.F.plainAttrs_list PySem.F.slot_list_append PySem.F.type_list_append kd_lst mt_appendM (pm_var 5) (pma_cons (pm_callTy call_tupM (by rfl) T.n_tuple bt_tuple (pma_cons (pmG_call (fng_tree (ok__law_without T)) gd (hr.mono (by decide)) (by rfl) T._law_without.m T._law_without.F.kp (L2.Fun.binds (ps := ["windows", "lot"]) T._law_without.F fun _ _ _ _ _ _ us hl => match us, hl with | [_, _], _ => rfl) (pma_cons (pm_var 4) (pma_cons (pm_var 9) pma_nil)) (cnt_cons (cnt_cons cnt_nil))) pma_nil)) pma_nil))))))) (pmb_frz 5 (pmb_one (pms_ret (pm_lcG (own := [(("lot" : Str), 10)]) (ow := [10]) fin_T rfl sc__law_some_lots.nd (pmi_seq (pm_var 5)) ⟨rfl, of_decide_eq_true (by kernel_rfl), of_decide_eq_true (by kernel_rfl), of_decide_eq_true (by kernel_rfl), of_decide_eq_true (by kernel_rfl)⟩ (fun s H C cl fp => (pmg_name 10 sc__law_some_lots.nd)) (fun s H C cl fp => (pmts_one (pmt_cmp (op_ltM (r64 hr)) (pm_callB call_lenM (by rfl) T.n_len bt_len (pma_cons (pm_var 10) pma_nil)) (pm_callB call_lenM (by rfl) T.n_len bt_len (pma_cons (pm_var 4) pma_nil))))) (fun s H C cl fp => (pm_var 10))))))))))
abbrev st_law : Stmt := top 50
theorem sc_law : FnScope ["script", "k", "well", "small", "rings", "wide"] ["script"] (defScope st_law) := ⟨rfl, rfl, rfl, by decide +kernel, rfl, by decide +kernel, by decide +kernel⟩
noncomputable def b_law : MS := (sSeq (sFor (mI rng1Of (mCons (mCallB (lTL max2T) (mCons (mC (.int 2)) (mCons (mCallB (lTL min2X) (mCons (mC (.int 3)) (mCons (mCallB lenG (mCons (mVar 0) mNil)) mNil))) mNil))) mNil)) (gN 1) (sSeq (sSet 2 (mCall (newF m__law_well) (mCons (mVar 0) (mCons (mVar 1) mNil)))) (sSeq (sAsg (gT 2 (gsCons (gN 3) (gsCons (gN 4) gsNil))) (mCall (lastF (keepF m__law_wide_book)) (mCons (mVar 2) (mCons (mC (.int 7)) mNil)))) (sSeq (sIf (mNotT (mT (mCall (pureZ m__law_book_right) (mCons (mVar 3) (mCons (mCall (pureZ m__law_all_lots) (mCons (mOp2 subG (mVar 3) (mC (.int 1))) mNil)) mNil))))) (sRet (mC (.bl false))) sNil) (sSeq (sAsg (gT 2 (gsCons (gN 5) (gsCons (gN 4) gsNil))) (mCall (lastF (keepF m__law_wide_book)) (mCons (mVar 2) (mCons (mCall (lastF m__law_one_of) (mCons (mVar 2) (mCons (mLst (mCons (mC (.int 12)) (mCons (mC (.int 25)) (mCons (mC (.int 40)) mNil)))) mNil))) mNil)))) (sIf (mNotT (mT (mCall (pureZ m__law_book_right) (mCons (mVar 5) (mCons (mCall (lastF (keepF m__law_some_lots)) (mCons (mVar 2) (mCons (mVar 5) (mCons (mVar 4) mNil)))) mNil))))) (sRet (mC (.bl false))) sNil)))))) (sRet (mC (.bl true))))
noncomputable def m_law : MF := mDef 6 b_law
theorem ok_law (T : Wd P K mg) : FnG P w K mg base CX0 13 T.law.f T.law.fd ["script"] (spM K 1 m_law) :=
  fng_ok (fb := b_law) (N := ["script", "k", "well", "small", "rings", "wide"]) (ps := ["script"]) (k := 12) T.law.F sc_law fun cdv A outer s H E gd hr => (pmb_cons (pms_for PassesOwn.never rfl (pmi_range1 (by rfl) T.n_range (pma_cons (pm_callB (call_max2M rfl) (by rfl) T.n_max bt_max (pma_cons pm_int (pma_cons (pm_callB (call_min2X rfl) (by rfl) T.n_min bt_min (pma_cons pm_int (pma_cons (pm_callB call_lenM (by rfl) T.n_len bt_len (pma_cons (pm_var 0) pma_nil)) pma_nil))) pma_nil))) pma_nil)) (pmg_name 1 sc_law.nd) (pmb_cons (pms_set 2 sc_law.nd (pmG_call (fng_new (ok__law_well T)) gd (hr.mono (by decide)) (by rfl) T._law_well.m T._law_well.F.kp (L2.Fun.binds (ps := ["script", "k"]) T._law_well.F fun _ _ _ _ _ _ us hl => match us, hl with | [_, _], _ => rfl) (pma_cons (pm_var 0) (pma_cons (pm_var 1) pma_nil)) (cnt_cons (cnt_cons cnt_nil)))) (pmb_cons (pms_asg (pmG_call (fng_last (fng_keep (ok__law_wide_book T))) gd (hr.mono (by decide)) (by rfl) T._law_wide_book.m T._law_wide_book.F.kp (L2.Fun.binds (ps := ["well", "most"]) T._law_wide_book.F fun _ _ _ _ _ _ us hl => match us, hl with | [_, _], _ => rfl) (pma_cons (pm_var 2) (pma_cons pm_int pma_nil)) (cnt_cons (cnt_cons cnt_nil))) (pmg_tup rfl (pmgs_cons (pmg_name 3 sc_law.nd) (pmgs_cons (pmg_name 4 sc_law.nd) pmgs_nil)))) (pmb_cons (pms_if (pmt_not (pmt_val (pmG_call (fng_tree (ok__law_book_right T)) gd (hr.mono (by decide)) (by rfl) T._law_book_right.m T._law_book_right.F.kp (L2.Fun.binds (ps := ["book", "lots"]) T._law_book_right.F fun _ _ _ _ _ _ us hl => match us, hl with | [_, _], _ => rfl) (pma_cons (pm_var 3) (pma_cons (pmG_call (fng_tree (ok__law_all_lots T)) gd (hr.mono (by decide)) (by rfl) T._law_all_lots.m T._law_all_lots.F.kp (L2.Fun.binds (ps := ["windows"]) T._law_all_lots.F fun _ _ _ _ _ _ us hl => match us, hl with | [_], _ => rfl) (pma_cons (ix_M (r1 hr) (fun _ _ => rfl) (fun _ _ => rfl) (pm_var 3) pm_int) pma_nil) (cnt_cons cnt_nil)) pma_nil)) (cnt_cons (cnt_cons cnt_nil))))) (pmb_one (pms_ret pm_bl)) pmb_nil) (pmb_cons (pms_asg (pmG_call (fng_last (fng_keep (ok__law_wide_book T))) gd (hr.mono (by decide)) (by rfl) T._law_wide_book.m T._law_wide_book.F.kp (L2.Fun.binds (ps := ["well", "most"]) T._law_wide_book.F fun _ _ _ _ _ _ us hl => match us, hl with | [_, _], _ => rfl) (pma_cons (pm_var 2) (pma_cons (pmG_call (fng_last (ok__law_one_of T)) gd (hr.mono (by decide)) (by rfl) T._law_one_of.m T._law_one_of.F.kp (L2.Fun.binds (ps := ["well", "things"]) T._law_one_of.F fun _ _ _ _ _ _ us hl => match us, hl with | [_, _], _ => rfl) (pma_cons (pm_var 2) (pma_cons (pm_lst (pma_cons pm_int (pma_cons pm_int (pma_cons pm_int pma_nil)))) pma_nil)) (cnt_cons (cnt_cons cnt_nil))) pma_nil)) (cnt_cons (cnt_cons cnt_nil))) (pmg_tup rfl (pmgs_cons (pmg_name 5 sc_law.nd) (pmgs_cons (pmg_name 4 sc_law.nd) pmgs_nil)))) (pmb_one (pms_if (pmt_not (pmt_val (pmG_call (fng_tree (ok__law_book_right T)) gd (hr.mono (by decide)) (by rfl) T._law_book_right.m T._law_book_right.F.kp (L2.Fun.binds (ps := ["book", "lots"]) T._law_book_right.F fun _ _ _ _ _ _ us hl => match us, hl with | [_, _], _ => rfl) (pma_cons (pm_var 5) (pma_cons (pmG_call (fng_last (fng_keep (ok__law_some_lots T))) gd (hr.mono (by decide)) (by rfl) T._law_some_lots.m T._law_some_lots.F.kp (L2.Fun.binds (ps := ["well", "book", "rings"]) T._law_some_lots.F fun _ _ _ _ _ _ us hl => match us, hl with | [_, _, _], _ => rfl) (pma_cons (pm_var 2) (pma_cons (pm_var 5) (pma_cons (pm_var 4) pma_nil))) (cnt_cons (cnt_cons (cnt_cons cnt_nil)))) pma_nil)) (cnt_cons (cnt_cons cnt_nil))))) (pmb_one (pms_ret pm_bl)) pmb_nil))))))) (pmb_one (pms_ret pm_bl)))
end
theorem all_mk {l : PySem.W.OpenLaw} {w : World} {K : PySem.W.Frag} {h : Heap} {mg : Str → Option Value} {fa f1 f2 f3 f4 f5 f6 f7 f8 f9 f10 f11 f12 f13 f14 f15 f16 f17 f18 f19 f20 f21 f22 f23 f24 f25 f26 f27 f28 f29 f30 f31 f32 f33 f34 f35 f36 f37 f38 xPieceError xInvalidBook xNoRing xInvalidWindows xfI xcda xcc : Addr} (X : K.In h) (G : h.Ns mainGlobals mg) (hfa : mg "law" = some (.ref fa))
    {od1 an1 od2 an2 od3 an3 od4 an4 od5 an5 od6 an6 od7 an7 od8 an8 od9 an9 od10 an10 od11 an11 od12 an12 od13 an13 od14 an14 od15 an15 od16 an16 od17 an17 od18 an18 od19 an19 od20 an20 od21 an21 od22 an22 od23 an23 od24 an24 od25 an25 od26 an26 od27 an27 od28 an28 od29 an29 od30 an30 od31 an31 od32 an32 od33 an33 od34 an34 od35 an35 od36 an36 od37 an37 od38 an38 : Option Addr} {sl1 sl2 sl3 sl4 sl5 sl6 sl7 sl8 sl9 sl10 sl11 sl12 sl13 sl14 sl15 sl16 sl17 sl18 sl19 sl20 sl21 sl22 sl23 sl24 sl25 sl26 sl27 sl28 sl29 sl30 sl31 sl32 sl33 sl34 sl35 sl36 sl37 sl38 : Array (Option Value)} {oc1 kV1 dc1 pm1 cd1 ct1 oc2 kV2 dc2 pm2 cd2 ct2 oc3 kV3 dc3 pm3 cd3 ct3 oc4 kV4 dc4 pm4 cd4 ct4 oc5 kV5 dc5 pm5 cd5 ct5 oc6 kV6 dc6 pm6 cd6 ct6 oc7 kV7 dc7 pm7 cd7 ct7 oc8 kV8 dc8 pm8 cd8 ct8 oc9 kV9 dc9 pm9 cd9 ct9 oc10 kV10 dc10 pm10 cd10 ct10 oc11 kV11 dc11 pm11 cd11 ct11 oc12 kV12 dc12 pm12 cd12 ct12 oc13 kV13 dc13 pm13 cd13 ct13 oc14 kV14 dc14 pm14 cd14 ct14 oc15 kV15 dc15 pm15 cd15 ct15 oc16 kV16 dc16 pm16 cd16 ct16 oc17 kV17 dc17 pm17 cd17 ct17 oc18 kV18 dc18 pm18 cd18 ct18 oc19 kV19 dc19 pm19 cd19 ct19 oc20 kV20 dc20 pm20 cd20 ct20 oc21 kV21 dc21 pm21 cd21 ct21 oc22 kV22 dc22 pm22 cd22 ct22 oc23 kV23 dc23 pm23 cd23 ct23 oc24 kV24 dc24 pm24 cd24 ct24 oc25 kV25 dc25 pm25 cd25 ct25 oc26 kV26 dc26 pm26 cd26 ct26 oc27 kV27 dc27 pm27 cd27 ct27 oc28 kV28 dc28 pm28 cd28 ct28 oc29 kV29 dc29 pm29 cd29 ct29 oc30 kV30 dc30 pm30 cd30 ct30 oc31 kV31 dc31 pm31 cd31 ct31 oc32 kV32 dc32 pm32 cd32 ct32 oc33 kV33 dc33 pm33 cd33 ct33 oc34 kV34 dc34 pm34 cd34 ct34 oc35 kV35 dc35 pm35 cd35 ct35 oc36 kV36 dc36 pm36 cd36 ct36 oc37 kV37 dc37 pm37 cd37 ct37 oc38 kV38 dc38 pm38 cd38 ct38 : Value} {t_LEAST_SIZE t_LETTERS t_MOST_SIZE : Tok}
    {xoc xdoc xpm xct xccl xcl : Value} {xod xan xcdd xcld : Option Addr} {xosl xccs xcsl : Array (Option Value)} {xvs : Array Value} {xfile : Str} {xtf : Tok} {nm_PieceError q_PieceError : Str} {N_PieceError : Addr} {bs_PieceError sub_PieceError : List Value} {sn_PieceError : List Str} {ab_PieceError : Bool} {col_PieceError : Option Bool} {dd_PieceError : Option Addr} {k0_PieceError k1_PieceError k2_PieceError k3_PieceError k5_PieceError : Option Value} {nm_InvalidBook q_InvalidBook : Str} {N_InvalidBook : Addr} {bs_InvalidBook sub_InvalidBook : List Value} {sn_InvalidBook : List Str} {ab_InvalidBook : Bool} {col_InvalidBook : Option Bool} {dd_InvalidBook : Option Addr} {k0_InvalidBook k1_InvalidBook k2_InvalidBook k3_InvalidBook k5_InvalidBook : Option Value} {nm_NoRing q_NoRing : Str} {N_NoRing : Addr} {bs_NoRing sub_NoRing : List Value} {sn_NoRing : List Str} {ab_NoRing : Bool} {col_NoRing : Option Bool} {dd_NoRing : Option Addr} {k0_NoRing k1_NoRing k2_NoRing k3_NoRing k5_NoRing : Option Value} {nm_InvalidWindows q_InvalidWindows : Str} {N_InvalidWindows : Addr} {bs_InvalidWindows sub_InvalidWindows : List Value} {sn_InvalidWindows : List Str} {ab_InvalidWindows : Bool} {col_InvalidWindows : Option Bool} {dd_InvalidWindows : Option Addr} {k0_InvalidWindows k1_InvalidWindows k2_InvalidWindows k3_InvalidWindows k5_InvalidWindows : Option Value}
    (a1 : PySem.W.nsIn K mainGlobals "_law_well" = some (some (.ref f1))) (l1 : K.lookup f1 = some ⟨oc1, od1, .func (PySem.W.fnOf "_law_well" "_law_well" (defArgs st__law_well) (defBody st__law_well) (defScope st__law_well) .none kV1 dc1 pm1 an1 cd1 ct1), sl1⟩) (c1 : PySem.W.codeIn K cd1 "_law_well" = true) (k1 : PySem.W.keepIn K (.ref f1) = true)
    (a2 : PySem.W.nsIn K mainGlobals "_law_pick" = some (some (.ref f2))) (l2 : K.lookup f2 = some ⟨oc2, od2, .func (PySem.W.fnOf "_law_pick" "_law_pick" (defArgs st__law_pick) (defBody st__law_pick) (defScope st__law_pick) .none kV2 dc2 pm2 an2 cd2 ct2), sl2⟩) (c2 : PySem.W.codeIn K cd2 "_law_pick" = true) (k2 : PySem.W.keepIn K (.ref f2) = true)
    (a3 : PySem.W.nsIn K mainGlobals "_law_one_of" = some (some (.ref f3))) (l3 : K.lookup f3 = some ⟨oc3, od3, .func (PySem.W.fnOf "_law_one_of" "_law_one_of" (defArgs st__law_one_of) (defBody st__law_one_of) (defScope st__law_one_of) .none kV3 dc3 pm3 an3 cd3 ct3), sl3⟩) (c3 : PySem.W.codeIn K cd3 "_law_one_of" = true) (k3 : PySem.W.keepIn K (.ref f3) = true)
    (a4 : PySem.W.nsIn K mainGlobals "_law_tally" = some (some (.ref f4))) (l4 : K.lookup f4 = some ⟨oc4, od4, .func (PySem.W.fnOf "_law_tally" "_law_tally" (defArgs st__law_tally) (defBody st__law_tally) (defScope st__law_tally) .none kV4 dc4 pm4 an4 cd4 ct4), sl4⟩) (c4 : PySem.W.codeIn K cd4 "_law_tally" = true) (k4 : PySem.W.keepIn K (.ref f4) = true)
    (a5 : PySem.W.nsIn K mainGlobals "_law_round" = some (some (.ref f5))) (l5 : K.lookup f5 = some ⟨oc5, od5, .func (PySem.W.fnOf "_law_round" "_law_round" (defArgs st__law_round) (defBody st__law_round) (defScope st__law_round) .none kV5 dc5 pm5 an5 cd5 ct5), sl5⟩) (c5 : PySem.W.codeIn K cd5 "_law_round" = true) (k5 : PySem.W.keepIn K (.ref f5) = true)
    (a6 : PySem.W.nsIn K mainGlobals "_law_without" = some (some (.ref f6))) (l6 : K.lookup f6 = some ⟨oc6, od6, .func (PySem.W.fnOf "_law_without" "_law_without" (defArgs st__law_without) (defBody st__law_without) (defScope st__law_without) .none kV6 dc6 pm6 an6 cd6 ct6), sl6⟩) (c6 : PySem.W.codeIn K cd6 "_law_without" = true) (k6 : PySem.W.keepIn K (.ref f6) = true)
    (a7 : PySem.W.nsIn K mainGlobals "_law_wide_book" = some (some (.ref f7))) (l7 : K.lookup f7 = some ⟨oc7, od7, .func (PySem.W.fnOf "_law_wide_book" "_law_wide_book" (defArgs st__law_wide_book) (defBody st__law_wide_book) (defScope st__law_wide_book) .none kV7 dc7 pm7 an7 cd7 ct7), sl7⟩) (c7 : PySem.W.codeIn K cd7 "_law_wide_book" = true) (k7 : PySem.W.keepIn K (.ref f7) = true)
    (a8 : PySem.W.nsIn K mainGlobals "is_integer" = some (some (.ref f8))) (l8 : K.lookup f8 = some ⟨oc8, od8, .func (PySem.W.fnOf "is_integer" "is_integer" (defArgs st_is_integer) (defBody st_is_integer) (defScope st_is_integer) .none kV8 dc8 pm8 an8 cd8 ct8), sl8⟩) (c8 : PySem.W.codeIn K cd8 "is_integer" = true) (k8 : PySem.W.keepIn K (.ref f8) = true)
    (a9 : PySem.W.nsIn K mainGlobals "is_size" = some (some (.ref f9))) (l9 : K.lookup f9 = some ⟨oc9, od9, .func (PySem.W.fnOf "is_size" "is_size" (defArgs st_is_size) (defBody st_is_size) (defScope st_is_size) .none kV9 dc9 pm9 an9 cd9 ct9), sl9⟩) (c9 : PySem.W.codeIn K cd9 "is_size" = true) (k9 : PySem.W.keepIn K (.ref f9) = true)
    (a10 : PySem.W.nsIn K mainGlobals "is_word" = some (some (.ref f10))) (l10 : K.lookup f10 = some ⟨oc10, od10, .func (PySem.W.fnOf "is_word" "is_word" (defArgs st_is_word) (defBody st_is_word) (defScope st_is_word) .none kV10 dc10 pm10 an10 cd10 ct10), sl10⟩) (c10 : PySem.W.codeIn K cd10 "is_word" = true) (k10 : PySem.W.keepIn K (.ref f10) = true)
    (a11 : PySem.W.nsIn K mainGlobals "are_ascending" = some (some (.ref f11))) (l11 : K.lookup f11 = some ⟨oc11, od11, .func (PySem.W.fnOf "are_ascending" "are_ascending" (defArgs st_are_ascending) (defBody st_are_ascending) (defScope st_are_ascending) .none kV11 dc11 pm11 an11 cd11 ct11), sl11⟩) (c11 : PySem.W.codeIn K cd11 "are_ascending" = true) (k11 : PySem.W.keepIn K (.ref f11) = true)
    (a12 : PySem.W.nsIn K mainGlobals "are_windows" = some (some (.ref f12))) (l12 : K.lookup f12 = some ⟨oc12, od12, .func (PySem.W.fnOf "are_windows" "are_windows" (defArgs st_are_windows) (defBody st_are_windows) (defScope st_are_windows) .none kV12 dc12 pm12 an12 cd12 ct12), sl12⟩) (c12 : PySem.W.codeIn K cd12 "are_windows" = true) (k12 : PySem.W.keepIn K (.ref f12) = true)
    (a13 : PySem.W.nsIn K mainGlobals "is_a_book" = some (some (.ref f13))) (l13 : K.lookup f13 = some ⟨oc13, od13, .func (PySem.W.fnOf "is_a_book" "is_a_book" (defArgs st_is_a_book) (defBody st_is_a_book) (defScope st_is_a_book) .none kV13 dc13 pm13 an13 cd13 ct13), sl13⟩) (c13 : PySem.W.codeIn K cd13 "is_a_book" = true) (k13 : PySem.W.keepIn K (.ref f13) = true)
    (a14 : PySem.W.nsIn K mainGlobals "anew" = some (some (.ref f14))) (l14 : K.lookup f14 = some ⟨oc14, od14, .func (PySem.W.fnOf "anew" "anew" (defArgs st_anew) (defBody st_anew) (defScope st_anew) .none kV14 dc14 pm14 an14 cd14 ct14), sl14⟩) (c14 : PySem.W.codeIn K cd14 "anew" = true) (k14 : PySem.W.keepIn K (.ref f14) = true)
    (a15 : PySem.W.nsIn K mainGlobals "need_book" = some (some (.ref f15))) (l15 : K.lookup f15 = some ⟨oc15, od15, .func (PySem.W.fnOf "need_book" "need_book" (defArgs st_need_book) (defBody st_need_book) (defScope st_need_book) .none kV15 dc15 pm15 an15 cd15 ct15), sl15⟩) (c15 : PySem.W.codeIn K cd15 "need_book" = true) (k15 : PySem.W.keepIn K (.ref f15) = true)
    (a16 : PySem.W.nsIn K mainGlobals "book_without" = some (some (.ref f16))) (l16 : K.lookup f16 = some ⟨oc16, od16, .func (PySem.W.fnOf "book_without" "book_without" (defArgs st_book_without) (defBody st_book_without) (defScope st_book_without) .none kV16 dc16 pm16 an16 cd16 ct16), sl16⟩) (c16 : PySem.W.codeIn K cd16 "book_without" = true) (k16 : PySem.W.keepIn K (.ref f16) = true)
    (a17 : PySem.W.nsIn K mainGlobals "places_of" = some (some (.ref f17))) (l17 : K.lookup f17 = some ⟨oc17, od17, .func (PySem.W.fnOf "places_of" "places_of" (defArgs st_places_of) (defBody st_places_of) (defScope st_places_of) .none kV17 dc17 pm17 an17 cd17 ct17), sl17⟩) (c17 : PySem.W.codeIn K cd17 "places_of" = true) (k17 : PySem.W.keepIn K (.ref f17) = true)
    (a18 : PySem.W.nsIn K mainGlobals "begin_of" = some (some (.ref f18))) (l18 : K.lookup f18 = some ⟨oc18, od18, .func (PySem.W.fnOf "begin_of" "begin_of" (defArgs st_begin_of) (defBody st_begin_of) (defScope st_begin_of) .none kV18 dc18 pm18 an18 cd18 ct18), sl18⟩) (c18 : PySem.W.codeIn K cd18 "begin_of" = true) (k18 : PySem.W.keepIn K (.ref f18) = true)
    (a19 : PySem.W.nsIn K mainGlobals "end_of" = some (some (.ref f19))) (l19 : K.lookup f19 = some ⟨oc19, od19, .func (PySem.W.fnOf "end_of" "end_of" (defArgs st_end_of) (defBody st_end_of) (defScope st_end_of) .none kV19 dc19 pm19 an19 cd19 ct19), sl19⟩) (c19 : PySem.W.codeIn K cd19 "end_of" = true) (k19 : PySem.W.keepIn K (.ref f19) = true)
    (a20 : PySem.W.nsIn K mainGlobals "windows_out" = some (some (.ref f20))) (l20 : K.lookup f20 = some ⟨oc20, od20, .func (PySem.W.fnOf "windows_out" "windows_out" (defArgs st_windows_out) (defBody st_windows_out) (defScope st_windows_out) .none kV20 dc20 pm20 an20 cd20 ct20), sl20⟩) (c20 : PySem.W.codeIn K cd20 "windows_out" = true) (k20 : PySem.W.keepIn K (.ref f20) = true)
    (a21 : PySem.W.nsIn K mainGlobals "places_from" = some (some (.ref f21))) (l21 : K.lookup f21 = some ⟨oc21, od21, .func (PySem.W.fnOf "places_from" "places_from" (defArgs st_places_from) (defBody st_places_from) (defScope st_places_from) .none kV21 dc21 pm21 an21 cd21 ct21), sl21⟩) (c21 : PySem.W.codeIn K cd21 "places_from" = true) (k21 : PySem.W.keepIn K (.ref f21) = true)
    (a22 : PySem.W.nsIn K mainGlobals "a_closed_lot" = some (some (.ref f22))) (l22 : K.lookup f22 = some ⟨oc22, od22, .func (PySem.W.fnOf "a_closed_lot" "a_closed_lot" (defArgs st_a_closed_lot) (defBody st_a_closed_lot) (defScope st_a_closed_lot) .none kV22 dc22 pm22 an22 cd22 ct22), sl22⟩) (c22 : PySem.W.codeIn K cd22 "a_closed_lot" = true) (k22 : PySem.W.keepIn K (.ref f22) = true)
    (a23 : PySem.W.nsIn K mainGlobals "can_go" = some (some (.ref f23))) (l23 : K.lookup f23 = some ⟨oc23, od23, .func (PySem.W.fnOf "can_go" "can_go" (defArgs st_can_go) (defBody st_can_go) (defScope st_can_go) .none kV23 dc23 pm23 an23 cd23 ct23), sl23⟩) (c23 : PySem.W.codeIn K cd23 "can_go" = true) (k23 : PySem.W.keepIn K (.ref f23) = true)
    (a24 : PySem.W.nsIn K mainGlobals "may_go" = some (some (.ref f24))) (l24 : K.lookup f24 = some ⟨oc24, od24, .func (PySem.W.fnOf "may_go" "may_go" (defArgs st_may_go) (defBody st_may_go) (defScope st_may_go) .none kV24 dc24 pm24 an24 cd24 ct24), sl24⟩) (c24 : PySem.W.codeIn K cd24 "may_go" = true) (k24 : PySem.W.keepIn K (.ref f24) = true)
    (a25 : PySem.W.nsIn K mainGlobals "_law_ways_out" = some (some (.ref f25))) (l25 : K.lookup f25 = some ⟨oc25, od25, .func (PySem.W.fnOf "_law_ways_out" "_law_ways_out" (defArgs st__law_ways_out) (defBody st__law_ways_out) (defScope st__law_ways_out) .none kV25 dc25 pm25 an25 cd25 ct25), sl25⟩) (c25 : PySem.W.codeIn K cd25 "_law_ways_out" = true) (k25 : PySem.W.keepIn K (.ref f25) = true)
    (a26 : PySem.W.nsIn K mainGlobals "_law_come_to" = some (some (.ref f26))) (l26 : K.lookup f26 = some ⟨oc26, od26, .func (PySem.W.fnOf "_law_come_to" "_law_come_to" (defArgs st__law_come_to) (defBody st__law_come_to) (defScope st__law_come_to) .none kV26 dc26 pm26 an26 cd26 ct26), sl26⟩) (c26 : PySem.W.codeIn K cd26 "_law_come_to" = true) (k26 : PySem.W.keepIn K (.ref f26) = true)
    (a27 : PySem.W.nsIn K mainGlobals "_law_hangs" = some (some (.ref f27))) (l27 : K.lookup f27 = some ⟨oc27, od27, .func (PySem.W.fnOf "_law_hangs" "_law_hangs" (defArgs st__law_hangs) (defBody st__law_hangs) (defScope st__law_hangs) .none kV27 dc27 pm27 an27 cd27 ct27), sl27⟩) (c27 : PySem.W.codeIn K cd27 "_law_hangs" = true) (k27 : PySem.W.keepIn K (.ref f27) = true)
    (a28 : PySem.W.nsIn K mainGlobals "_law_lots_right" = some (some (.ref f28))) (l28 : K.lookup f28 = some ⟨oc28, od28, .func (PySem.W.fnOf "_law_lots_right" "_law_lots_right" (defArgs st__law_lots_right) (defBody st__law_lots_right) (defScope st__law_lots_right) .none kV28 dc28 pm28 an28 cd28 ct28), sl28⟩) (c28 : PySem.W.codeIn K cd28 "_law_lots_right" = true) (k28 : PySem.W.keepIn K (.ref f28) = true)
    (a29 : PySem.W.nsIn K mainGlobals "need_some_ring" = some (some (.ref f29))) (l29 : K.lookup f29 = some ⟨oc29, od29, .func (PySem.W.fnOf "need_some_ring" "need_some_ring" (defArgs st_need_some_ring) (defBody st_need_some_ring) (defScope st_need_some_ring) .none kV29 dc29 pm29 an29 cd29 ct29), sl29⟩) (c29 : PySem.W.codeIn K cd29 "need_some_ring" = true) (k29 : PySem.W.keepIn K (.ref f29) = true)
    (a30 : PySem.W.nsIn K mainGlobals "needed" = some (some (.ref f30))) (l30 : K.lookup f30 = some ⟨oc30, od30, .func (PySem.W.fnOf "needed" "needed" (defArgs st_needed) (defBody st_needed) (defScope st_needed) .none kV30 dc30 pm30 an30 cd30 ct30), sl30⟩) (c30 : PySem.W.codeIn K cd30 "needed" = true) (k30 : PySem.W.keepIn K (.ref f30) = true)
    (a31 : PySem.W.nsIn K mainGlobals "_law_needed_right" = some (some (.ref f31))) (l31 : K.lookup f31 = some ⟨oc31, od31, .func (PySem.W.fnOf "_law_needed_right" "_law_needed_right" (defArgs st__law_needed_right) (defBody st__law_needed_right) (defScope st__law_needed_right) .none kV31 dc31 pm31 an31 cd31 ct31), sl31⟩) (c31 : PySem.W.codeIn K cd31 "_law_needed_right" = true) (k31 : PySem.W.keepIn K (.ref f31) = true)
    (a32 : PySem.W.nsIn K mainGlobals "_law_rest_right" = some (some (.ref f32))) (l32 : K.lookup f32 = some ⟨oc32, od32, .func (PySem.W.fnOf "_law_rest_right" "_law_rest_right" (defArgs st__law_rest_right) (defBody st__law_rest_right) (defScope st__law_rest_right) .none kV32 dc32 pm32 an32 cd32 ct32), sl32⟩) (c32 : PySem.W.codeIn K cd32 "_law_rest_right" = true) (k32 : PySem.W.keepIn K (.ref f32) = true)
    (a33 : PySem.W.nsIn K mainGlobals "rest" = some (some (.ref f33))) (l33 : K.lookup f33 = some ⟨oc33, od33, .func (PySem.W.fnOf "rest" "rest" (defArgs st_rest) (defBody st_rest) (defScope st_rest) .none kV33 dc33 pm33 an33 cd33 ct33), sl33⟩) (c33 : PySem.W.codeIn K cd33 "rest" = true) (k33 : PySem.W.keepIn K (.ref f33) = true)
    (a34 : PySem.W.nsIn K mainGlobals "_law_caught" = some (some (.ref f34))) (l34 : K.lookup f34 = some ⟨oc34, od34, .func (PySem.W.fnOf "_law_caught" "_law_caught" (defArgs st__law_caught) (defBody st__law_caught) (defScope st__law_caught) .none kV34 dc34 pm34 an34 cd34 ct34), sl34⟩) (c34 : PySem.W.codeIn K cd34 "_law_caught" = true) (k34 : PySem.W.keepIn K (.ref f34) = true)
    (a35 : PySem.W.nsIn K mainGlobals "_law_book_right" = some (some (.ref f35))) (l35 : K.lookup f35 = some ⟨oc35, od35, .func (PySem.W.fnOf "_law_book_right" "_law_book_right" (defArgs st__law_book_right) (defBody st__law_book_right) (defScope st__law_book_right) .none kV35 dc35 pm35 an35 cd35 ct35), sl35⟩) (c35 : PySem.W.codeIn K cd35 "_law_book_right" = true) (k35 : PySem.W.keepIn K (.ref f35) = true)
    (a36 : PySem.W.nsIn K mainGlobals "_law_all_lots" = some (some (.ref f36))) (l36 : K.lookup f36 = some ⟨oc36, od36, .func (PySem.W.fnOf "_law_all_lots" "_law_all_lots" (defArgs st__law_all_lots) (defBody st__law_all_lots) (defScope st__law_all_lots) .none kV36 dc36 pm36 an36 cd36 ct36), sl36⟩) (c36 : PySem.W.codeIn K cd36 "_law_all_lots" = true) (k36 : PySem.W.keepIn K (.ref f36) = true)
    (a37 : PySem.W.nsIn K mainGlobals "_law_some_lots" = some (some (.ref f37))) (l37 : K.lookup f37 = some ⟨oc37, od37, .func (PySem.W.fnOf "_law_some_lots" "_law_some_lots" (defArgs st__law_some_lots) (defBody st__law_some_lots) (defScope st__law_some_lots) .none kV37 dc37 pm37 an37 cd37 ct37), sl37⟩) (c37 : PySem.W.codeIn K cd37 "_law_some_lots" = true) (k37 : PySem.W.keepIn K (.ref f37) = true)
    (a38 : PySem.W.nsIn K mainGlobals "law" = some (some (.ref f38))) (l38 : K.lookup f38 = some ⟨oc38, od38, .func (PySem.W.fnOf "law" "law" (defArgs st_law) (defBody st_law) (defScope st_law) .none kV38 dc38 pm38 an38 cd38 ct38), sl38⟩) (c38 : PySem.W.codeIn K cd38 "law" = true) (k38 : PySem.W.keepIn K (.ref f38) = true)
    (z_abs : PySem.W.nsIn K mainGlobals "abs" = some none)
    (z_all : PySem.W.nsIn K mainGlobals "all" = some none)
    (z_any : PySem.W.nsIn K mainGlobals "any" = some none)
    (z_bool : PySem.W.nsIn K mainGlobals "bool" = some none)
    (z_enumerate : PySem.W.nsIn K mainGlobals "enumerate" = some none)
    (z_int : PySem.W.nsIn K mainGlobals "int" = some none)
    (z_isinstance : PySem.W.nsIn K mainGlobals "isinstance" = some none)
    (z_len : PySem.W.nsIn K mainGlobals "len" = some none)
    (z_list : PySem.W.nsIn K mainGlobals "list" = some none)
    (z_max : PySem.W.nsIn K mainGlobals "max" = some none)
    (z_min : PySem.W.nsIn K mainGlobals "min" = some none)
    (z_range : PySem.W.nsIn K mainGlobals "range" = some none)
    (z_repr : PySem.W.nsIn K mainGlobals "repr" = some none)
    (z_sorted : PySem.W.nsIn K mainGlobals "sorted" = some none)
    (z_str : PySem.W.nsIn K mainGlobals "str" = some none)
    (z_tuple : PySem.W.nsIn K mainGlobals "tuple" = some none)
    (v_LEAST_SIZE : PySem.W.nsIn K mainGlobals "LEAST_SIZE" = some (some (.int 2 t_LEAST_SIZE)))
    (v_LETTERS : PySem.W.nsIn K mainGlobals "LETTERS" = some (some (.str (Str.ofString "abcdefghijklmnopqrstuvwxyz") t_LETTERS)))
    (v_MOST_SIZE : PySem.W.nsIn K mainGlobals "MOST_SIZE" = some (some (.int 6 t_MOST_SIZE)))
    (xa_PieceError : PySem.W.nsIn K mainGlobals "PieceError" = some (some (.ref xPieceError)))
    (xL_PieceError : K.lookup xPieceError = some (excClassObj nm_PieceError q_PieceError xPieceError N_PieceError bs_PieceError [.type "ValueError", .type "Exception", .type "BaseException", .type "object"] true sn_PieceError sub_PieceError ab_PieceError col_PieceError dd_PieceError k0_PieceError k1_PieceError k2_PieceError k3_PieceError k5_PieceError "ValueError.__new__"))
    (xs_PieceError : PySem.W.findIn K (.ref xPieceError) "__setattr__" = some (some (.builtin "object.__setattr__")))
    (xv_PieceError : PySem.W.findIn K (.ref xPieceError) "value" = some none)
    (xi_PieceError : PySem.W.findIn K (.ref xPieceError) "__init__" = some (some (.ref xfI)))
    (xk_PieceError : PySem.W.keepIn K (.ref xPieceError) = true)
    (xb_PieceError : PySem.W.subIn K (.ref xPieceError) (.type "BaseException") = some true)
    (xt_PieceError : PySem.W.typeIn K (.ref xPieceError) = some (.type "type"))
    (xm_PieceError : PySem.W.mroIn K xPieceError (.ref xPieceError) = some true)
    (xu_PieceError : PySem.W.ks_superIn K xPieceError xPieceError "__init__" = some (some (.builtin "ValueError.__init__")))
    (xB_PieceError : PySem.W.subIn K (.ref xPieceError) (.type "ValueError") = some true)
    (xc_PieceError : PySem.W.isClsIn K xPieceError = true)
    (xg_PieceError : PySem.W.findIn K (.ref xPieceError) "__getattribute__" = some (some (.builtin "BaseException.__getattribute__")))
    (xG_PieceError : PySem.W.findIn K (.ref xPieceError) "__getattr__" = some none)
    (xC_PieceError : PySem.W.findIn K (.ref xPieceError) "__class__" = some (some (.builtin "object.__class__")))
    (xo_PieceError : PySem.W.mroIn K xPieceError (.type "object") = some true)
    (xh_PieceError : PySem.W.hasDictIn K xPieceError = true)
    (xa_InvalidBook : PySem.W.nsIn K mainGlobals "InvalidBook" = some (some (.ref xInvalidBook)))
    (xL_InvalidBook : K.lookup xInvalidBook = some (excClassObj nm_InvalidBook q_InvalidBook xInvalidBook N_InvalidBook bs_InvalidBook [.ref xPieceError, .type "ValueError", .type "Exception", .type "BaseException", .type "object"] true sn_InvalidBook sub_InvalidBook ab_InvalidBook col_InvalidBook dd_InvalidBook k0_InvalidBook k1_InvalidBook k2_InvalidBook k3_InvalidBook k5_InvalidBook "ValueError.__new__"))
    (xs_InvalidBook : PySem.W.findIn K (.ref xInvalidBook) "__setattr__" = some (some (.builtin "object.__setattr__")))
    (xv_InvalidBook : PySem.W.findIn K (.ref xInvalidBook) "value" = some none)
    (xi_InvalidBook : PySem.W.findIn K (.ref xInvalidBook) "__init__" = some (some (.ref xfI)))
    (xk_InvalidBook : PySem.W.keepIn K (.ref xInvalidBook) = true)
    (xb_InvalidBook : PySem.W.subIn K (.ref xInvalidBook) (.type "BaseException") = some true)
    (xt_InvalidBook : PySem.W.typeIn K (.ref xInvalidBook) = some (.type "type"))
    (xm_InvalidBook : PySem.W.mroIn K xInvalidBook (.ref xPieceError) = some true)
    (xu_InvalidBook : PySem.W.ks_superIn K xInvalidBook xPieceError "__init__" = some (some (.builtin "ValueError.__init__")))
    (xB_InvalidBook : PySem.W.subIn K (.ref xInvalidBook) (.type "ValueError") = some true)
    (xc_InvalidBook : PySem.W.isClsIn K xInvalidBook = true)
    (xg_InvalidBook : PySem.W.findIn K (.ref xInvalidBook) "__getattribute__" = some (some (.builtin "BaseException.__getattribute__")))
    (xG_InvalidBook : PySem.W.findIn K (.ref xInvalidBook) "__getattr__" = some none)
    (xC_InvalidBook : PySem.W.findIn K (.ref xInvalidBook) "__class__" = some (some (.builtin "object.__class__")))
    (xo_InvalidBook : PySem.W.mroIn K xInvalidBook (.type "object") = some true)
    (xh_InvalidBook : PySem.W.hasDictIn K xInvalidBook = true)
    (xa_NoRing : PySem.W.nsIn K mainGlobals "NoRing" = some (some (.ref xNoRing)))
    (xL_NoRing : K.lookup xNoRing = some (excClassObj nm_NoRing q_NoRing xNoRing N_NoRing bs_NoRing [.ref xPieceError, .type "ValueError", .type "Exception", .type "BaseException", .type "object"] true sn_NoRing sub_NoRing ab_NoRing col_NoRing dd_NoRing k0_NoRing k1_NoRing k2_NoRing k3_NoRing k5_NoRing "ValueError.__new__"))
    (xs_NoRing : PySem.W.findIn K (.ref xNoRing) "__setattr__" = some (some (.builtin "object.__setattr__")))
    (xv_NoRing : PySem.W.findIn K (.ref xNoRing) "value" = some none)
    (xi_NoRing : PySem.W.findIn K (.ref xNoRing) "__init__" = some (some (.ref xfI)))
    (xk_NoRing : PySem.W.keepIn K (.ref xNoRing) = true)
    (xb_NoRing : PySem.W.subIn K (.ref xNoRing) (.type "BaseException") = some true)
    (xt_NoRing : PySem.W.typeIn K (.ref xNoRing) = some (.type "type"))
    (xm_NoRing : PySem.W.mroIn K xNoRing (.ref xPieceError) = some true)
    (xu_NoRing : PySem.W.ks_superIn K xNoRing xPieceError "__init__" = some (some (.builtin "ValueError.__init__")))
    (xB_NoRing : PySem.W.subIn K (.ref xNoRing) (.type "ValueError") = some true)
    (xc_NoRing : PySem.W.isClsIn K xNoRing = true)
    (xg_NoRing : PySem.W.findIn K (.ref xNoRing) "__getattribute__" = some (some (.builtin "BaseException.__getattribute__")))
    (xG_NoRing : PySem.W.findIn K (.ref xNoRing) "__getattr__" = some none)
    (xC_NoRing : PySem.W.findIn K (.ref xNoRing) "__class__" = some (some (.builtin "object.__class__")))
    (xo_NoRing : PySem.W.mroIn K xNoRing (.type "object") = some true)
    (xh_NoRing : PySem.W.hasDictIn K xNoRing = true)
    (xa_InvalidWindows : PySem.W.nsIn K mainGlobals "InvalidWindows" = some (some (.ref xInvalidWindows)))
    (xL_InvalidWindows : K.lookup xInvalidWindows = some (excClassObj nm_InvalidWindows q_InvalidWindows xInvalidWindows N_InvalidWindows bs_InvalidWindows [.ref xPieceError, .type "ValueError", .type "Exception", .type "BaseException", .type "object"] true sn_InvalidWindows sub_InvalidWindows ab_InvalidWindows col_InvalidWindows dd_InvalidWindows k0_InvalidWindows k1_InvalidWindows k2_InvalidWindows k3_InvalidWindows k5_InvalidWindows "ValueError.__new__"))
    (xs_InvalidWindows : PySem.W.findIn K (.ref xInvalidWindows) "__setattr__" = some (some (.builtin "object.__setattr__")))
    (xv_InvalidWindows : PySem.W.findIn K (.ref xInvalidWindows) "value" = some none)
    (xi_InvalidWindows : PySem.W.findIn K (.ref xInvalidWindows) "__init__" = some (some (.ref xfI)))
    (xk_InvalidWindows : PySem.W.keepIn K (.ref xInvalidWindows) = true)
    (xb_InvalidWindows : PySem.W.subIn K (.ref xInvalidWindows) (.type "BaseException") = some true)
    (xt_InvalidWindows : PySem.W.typeIn K (.ref xInvalidWindows) = some (.type "type"))
    (xm_InvalidWindows : PySem.W.mroIn K xInvalidWindows (.ref xPieceError) = some true)
    (xu_InvalidWindows : PySem.W.ks_superIn K xInvalidWindows xPieceError "__init__" = some (some (.builtin "ValueError.__init__")))
    (xB_InvalidWindows : PySem.W.subIn K (.ref xInvalidWindows) (.type "ValueError") = some true)
    (xc_InvalidWindows : PySem.W.isClsIn K xInvalidWindows = true)
    (xg_InvalidWindows : PySem.W.findIn K (.ref xInvalidWindows) "__getattribute__" = some (some (.builtin "BaseException.__getattribute__")))
    (xG_InvalidWindows : PySem.W.findIn K (.ref xInvalidWindows) "__getattr__" = some none)
    (xC_InvalidWindows : PySem.W.findIn K (.ref xInvalidWindows) "__class__" = some (some (.builtin "object.__class__")))
    (xo_InvalidWindows : PySem.W.mroIn K xInvalidWindows (.type "object") = some true)
    (xh_InvalidWindows : PySem.W.hasDictIn K xInvalidWindows = true)
    (xl1 : K.lookup xfI = some ⟨xoc, xod, .func (PySem.W.ksFn "__init__" "PieceError.__init__" (Pe.iA ⟨4, 17, 4, 21⟩ ⟨4, 23, 4, 28⟩) (Pe.iB ⟨5, 8, 5, 13⟩ ⟨5, 8, 5, 15⟩ ⟨5, 8, 5, 24⟩ ⟨5, 25, 5, 37⟩ ⟨5, 8, 5, 38⟩ ⟨5, 8, 5, 38⟩ ⟨6, 8, 6, 12⟩ ⟨6, 8, 6, 18⟩ ⟨6, 21, 6, 26⟩ ⟨6, 8, 6, 26⟩ 0) Pe.iS .none .none xdoc xpm xan (.ref xcda) xct xcc), xosl⟩)
    (xc1 : PySem.W.codeIn K (.ref xcda) "PieceError.__init__" = true)
    (xlc : K.lookup xcda = some ⟨xccl, xcdd, .fields xvs, xccs⟩)
    (xvf : xvs[2]? = some (.str xfile xtf))
    (xff : ((l.prog.main.file : Str) == xfile) = true)
    (xcl1 : K.lookup xcc = some ⟨xcl, xcld, .cell (some (.ref xPieceError)), xcsl⟩)
    (xsup : PySem.W.nsIn K mainGlobals "super" = some none)
    (xtop : (l.prog.main.scope.names.lookup ("super" : Str)).isSome = false)
    (xopq : PySem.W.nsIn K cStatics "thirdparty.any" = some none)
    (xtI : PySem.W.typeIn K (.ref xfI) = some (.type "function"))
    (xsp : PySem.W.specialIn K (.builtin "object.__class__") "__get__" = some (some (.builtin "getset_descriptor.__get__")))
    (xtk : PySem.W.takesIn K (.builtin "object.__class__") = some true)
    (xS_NoRing_PieceError : PySem.W.subIn K (.ref xPieceError) (.ref xNoRing) = some false)
    (xS_NoRing_InvalidBook : PySem.W.subIn K (.ref xInvalidBook) (.ref xNoRing) = some false)
    (xS_NoRing_NoRing : PySem.W.subIn K (.ref xNoRing) (.ref xNoRing) = some true)
    (xS_NoRing_InvalidWindows : PySem.W.subIn K (.ref xInvalidWindows) (.ref xNoRing) = some false)
    : ∃ fd : FuncData, (∀ (s : Shared) (v : Value), BindsTo s fd ⟨[v], []⟩ [("script", v)]) ∧ ∀ base : Heap, K.In base → base.Ns mainGlobals mg → FnG l.prog w K mg base CX0 13 fa fd ["script"] (spM K 1 m_law) := by
  have e := hfa.symm.trans (PySem.W.mg_of X G a38)
  cases e
  let T : Wd l.prog K mg := { _law_well := ⟨f1, _, fun_mk (st := st__law_well) l1 c1 k1, PySem.W.mg_of X G a1⟩, _law_pick := ⟨f2, _, fun_mk (st := st__law_pick) l2 c2 k2, PySem.W.mg_of X G a2⟩, _law_one_of := ⟨f3, _, fun_mk (st := st__law_one_of) l3 c3 k3, PySem.W.mg_of X G a3⟩, _law_tally := ⟨f4, _, fun_mk (st := st__law_tally) l4 c4 k4, PySem.W.mg_of X G a4⟩, _law_round := ⟨f5, _, fun_mk (st := st__law_round) l5 c5 k5, PySem.W.mg_of X G a5⟩, _law_without := ⟨f6, _, fun_mk (st := st__law_without) l6 c6 k6, PySem.W.mg_of X G a6⟩, _law_wide_book := ⟨f7, _, fun_mk (st := st__law_wide_book) l7 c7 k7, PySem.W.mg_of X G a7⟩, is_integer := ⟨f8, _, fun_mk (st := st_is_integer) l8 c8 k8, PySem.W.mg_of X G a8⟩, is_size := ⟨f9, _, fun_mk (st := st_is_size) l9 c9 k9, PySem.W.mg_of X G a9⟩, is_word := ⟨f10, _, fun_mk (st := st_is_word) l10 c10 k10, PySem.W.mg_of X G a10⟩, are_ascending := ⟨f11, _, fun_mk (st := st_are_ascending) l11 c11 k11, PySem.W.mg_of X G a11⟩, are_windows := ⟨f12, _, fun_mk (st := st_are_windows) l12 c12 k12, PySem.W.mg_of X G a12⟩, is_a_book := ⟨f13, _, fun_mk (st := st_is_a_book) l13 c13 k13, PySem.W.mg_of X G a13⟩, anew := ⟨f14, _, fun_mk (st := st_anew) l14 c14 k14, PySem.W.mg_of X G a14⟩, need_book := ⟨f15, _, fun_mk (st := st_need_book) l15 c15 k15, PySem.W.mg_of X G a15⟩, book_without := ⟨f16, _, fun_mk (st := st_book_without) l16 c16 k16, PySem.W.mg_of X G a16⟩, places_of := ⟨f17, _, fun_mk (st := st_places_of) l17 c17 k17, PySem.W.mg_of X G a17⟩, begin_of := ⟨f18, _, fun_mk (st := st_begin_of) l18 c18 k18, PySem.W.mg_of X G a18⟩, end_of := ⟨f19, _, fun_mk (st := st_end_of) l19 c19 k19, PySem.W.mg_of X G a19⟩, windows_out := ⟨f20, _, fun_mk (st := st_windows_out) l20 c20 k20, PySem.W.mg_of X G a20⟩, places_from := ⟨f21, _, fun_mk (st := st_places_from) l21 c21 k21, PySem.W.mg_of X G a21⟩, a_closed_lot := ⟨f22, _, fun_mk (st := st_a_closed_lot) l22 c22 k22, PySem.W.mg_of X G a22⟩, can_go := ⟨f23, _, fun_mk (st := st_can_go) l23 c23 k23, PySem.W.mg_of X G a23⟩, may_go := ⟨f24, _, fun_mk (st := st_may_go) l24 c24 k24, PySem.W.mg_of X G a24⟩, _law_ways_out := ⟨f25, _, fun_mk (st := st__law_ways_out) l25 c25 k25, PySem.W.mg_of X G a25⟩, _law_come_to := ⟨f26, _, fun_mk (st := st__law_come_to) l26 c26 k26, PySem.W.mg_of X G a26⟩, _law_hangs := ⟨f27, _, fun_mk (st := st__law_hangs) l27 c27 k27, PySem.W.mg_of X G a27⟩, _law_lots_right := ⟨f28, _, fun_mk (st := st__law_lots_right) l28 c28 k28, PySem.W.mg_of X G a28⟩, need_some_ring := ⟨f29, _, fun_mk (st := st_need_some_ring) l29 c29 k29, PySem.W.mg_of X G a29⟩, needed := ⟨f30, _, fun_mk (st := st_needed) l30 c30 k30, PySem.W.mg_of X G a30⟩, _law_needed_right := ⟨f31, _, fun_mk (st := st__law_needed_right) l31 c31 k31, PySem.W.mg_of X G a31⟩, _law_rest_right := ⟨f32, _, fun_mk (st := st__law_rest_right) l32 c32 k32, PySem.W.mg_of X G a32⟩, rest := ⟨f33, _, fun_mk (st := st_rest) l33 c33 k33, PySem.W.mg_of X G a33⟩, _law_caught := ⟨f34, _, fun_mk (st := st__law_caught) l34 c34 k34, PySem.W.mg_of X G a34⟩, _law_book_right := ⟨f35, _, fun_mk (st := st__law_book_right) l35 c35 k35, PySem.W.mg_of X G a35⟩, _law_all_lots := ⟨f36, _, fun_mk (st := st__law_all_lots) l36 c36 k36, PySem.W.mg_of X G a36⟩, _law_some_lots := ⟨f37, _, fun_mk (st := st__law_some_lots) l37 c37 k37, PySem.W.mg_of X G a37⟩, law := ⟨fa, _, fun_mk (st := st_law) l38 c38 k38, PySem.W.mg_of X G a38⟩, n_abs := PySem.W.mg_none_of X G z_abs, n_all := PySem.W.mg_none_of X G z_all, n_any := PySem.W.mg_none_of X G z_any, n_bool := PySem.W.mg_none_of X G z_bool, n_enumerate := PySem.W.mg_none_of X G z_enumerate, n_int := PySem.W.mg_none_of X G z_int, n_isinstance := PySem.W.mg_none_of X G z_isinstance, n_len := PySem.W.mg_none_of X G z_len, n_list := PySem.W.mg_none_of X G z_list, n_max := PySem.W.mg_none_of X G z_max, n_min := PySem.W.mg_none_of X G z_min, n_range := PySem.W.mg_none_of X G z_range, n_repr := PySem.W.mg_none_of X G z_repr, n_sorted := PySem.W.mg_none_of X G z_sorted, n_str := PySem.W.mg_none_of X G z_str, n_tuple := PySem.W.mg_none_of X G z_tuple, t_LEAST_SIZE := t_LEAST_SIZE, c_LEAST_SIZE := PySem.W.mg_of X G v_LEAST_SIZE, t_LETTERS := t_LETTERS, c_LETTERS := PySem.W.mg_of X G v_LETTERS, t_MOST_SIZE := t_MOST_SIZE, c_MOST_SIZE := PySem.W.mg_of X G v_MOST_SIZE, x_PieceError := xPieceError, ns_PieceError := xa_PieceError, mg_PieceError := PySem.W.mg_of X G xa_PieceError, pc_PieceError := ⟨⟨_, _, _, _, _, _, _, _, _, _, _, _, _, _, _, xL_PieceError, by rfl⟩, xs_PieceError, xv_PieceError, xi_PieceError, xtI, xk_PieceError, xb_PieceError, xt_PieceError, xm_PieceError, xu_PieceError, xB_PieceError⟩, xk_PieceError := ⟨xc_PieceError, xg_PieceError, xG_PieceError, xb_PieceError, xC_PieceError, xsp, xtk, xo_PieceError, xh_PieceError, xv_PieceError⟩, x_InvalidBook := xInvalidBook, ns_InvalidBook := xa_InvalidBook, mg_InvalidBook := PySem.W.mg_of X G xa_InvalidBook, pc_InvalidBook := ⟨⟨_, _, _, _, _, _, _, _, _, _, _, _, _, _, _, xL_InvalidBook, by rfl⟩, xs_InvalidBook, xv_InvalidBook, xi_InvalidBook, xtI, xk_InvalidBook, xb_InvalidBook, xt_InvalidBook, xm_InvalidBook, xu_InvalidBook, xB_InvalidBook⟩, xk_InvalidBook := ⟨xc_InvalidBook, xg_InvalidBook, xG_InvalidBook, xb_InvalidBook, xC_InvalidBook, xsp, xtk, xo_InvalidBook, xh_InvalidBook, xv_InvalidBook⟩, x_NoRing := xNoRing, ns_NoRing := xa_NoRing, mg_NoRing := PySem.W.mg_of X G xa_NoRing, pc_NoRing := ⟨⟨_, _, _, _, _, _, _, _, _, _, _, _, _, _, _, xL_NoRing, by rfl⟩, xs_NoRing, xv_NoRing, xi_NoRing, xtI, xk_NoRing, xb_NoRing, xt_NoRing, xm_NoRing, xu_NoRing, xB_NoRing⟩, xk_NoRing := ⟨xc_NoRing, xg_NoRing, xG_NoRing, xb_NoRing, xC_NoRing, xsp, xtk, xo_NoRing, xh_NoRing, xv_NoRing⟩, x_InvalidWindows := xInvalidWindows, ns_InvalidWindows := xa_InvalidWindows, mg_InvalidWindows := PySem.W.mg_of X G xa_InvalidWindows, pc_InvalidWindows := ⟨⟨_, _, _, _, _, _, _, _, _, _, _, _, _, _, _, xL_InvalidWindows, by rfl⟩, xs_InvalidWindows, xv_InvalidWindows, xi_InvalidWindows, xtI, xk_InvalidWindows, xb_InvalidWindows, xt_InvalidWindows, xm_InvalidWindows, xu_InvalidWindows, xB_InvalidWindows⟩, xk_InvalidWindows := ⟨xc_InvalidWindows, xg_InvalidWindows, xG_InvalidWindows, xb_InvalidWindows, xC_InvalidWindows, xsp, xtk, xo_InvalidWindows, xh_InvalidWindows, xv_InvalidWindows⟩, x_fI := xfI, PF := ⟨⟨_, _, _, _, _, _, _, _, _, _, _, _, _, _, _, _, _, _, _, _, _, _, xl1, xc1, by rfl, ⟨_, _, _, _, _, _, xlc, xvf, xff⟩, _, _, _, xcl1⟩, Option.isSome_iff_exists.mp xc_PieceError, xsup, xtop, xopq⟩, xl := (.cons xa_PieceError ⟨xc_PieceError, xg_PieceError, xG_PieceError, xb_PieceError, xC_PieceError, xsp, xtk, xo_PieceError, xh_PieceError, xv_PieceError⟩ (.cons xa_InvalidBook ⟨xc_InvalidBook, xg_InvalidBook, xG_InvalidBook, xb_InvalidBook, xC_InvalidBook, xsp, xtk, xo_InvalidBook, xh_InvalidBook, xv_InvalidBook⟩ (.cons xa_NoRing ⟨xc_NoRing, xg_NoRing, xG_NoRing, xb_NoRing, xC_NoRing, xsp, xtk, xo_NoRing, xh_NoRing, xv_NoRing⟩ (.cons xa_InvalidWindows ⟨xc_InvalidWindows, xg_InvalidWindows, xG_InvalidWindows, xb_InvalidWindows, xC_InvalidWindows, xsp, xtk, xo_InvalidWindows, xh_InvalidWindows, xv_InvalidWindows⟩ .nil)))), ex_NoRing := (.cons xa_NoRing (exm_of xb_NoRing xc_NoRing xt_NoRing xS_NoRing_NoRing) .nil) }
  exact ⟨PySem.W.fnOf "law" "law" (defArgs st_law) (defBody st_law) (defScope st_law) .none kV38 dc38 pm38 an38 cd38 ct38, fun s v => .of_eq rfl, fun base _ _ => ok_law T⟩
end Lw

/-! Rt: texts that are read round. -/
namespace Fm
open PySem PySem.Spec PyProof.Rows L2
/-- the sign at place i, read round -/
def rd (s : Tx) (i : Nat) : Nat := s.getD (i % s.length) 0
/-- n signs from place a on, read round -/
def readTx (s : Tx) (a n : Nat) : Tx := (List.range n).map fun j => rd s (a + j)
@[simp] theorem readTx_len (s : Tx) (a n : Nat) : (readTx s a n).length = n := by simp [readTx]
theorem readTx_at (s : Tx) (a n i : Nat) (h : i < n) : (readTx s a n).getD i 0 = rd s (a + i) := by
  simp [readTx, List.getD_eq_getElem?_getD, h]
theorem rd_congr {s : Tx} {i j : Nat} (h : i % s.length = j % s.length) : rd s i = rd s j := by
  unfold rd
  rw [h]
theorem rd_lt {s : Tx} {i : Nat} (h : i < s.length) : rd s i = s.getD i 0 := by
  unfold rd
  rw [Nat.mod_eq_of_lt h]
theorem tx_ext {s t : Tx} (hl : s.length = t.length) (h : ∀ i, i < s.length → s.getD i 0 = t.getD i 0) : s = t := by
  apply List.ext_getElem hl
  intro i h1 h2
  have := h i h1
  rw [List.getD_eq_getElem?_getD, List.getD_eq_getElem?_getD, List.getElem?_eq_getElem h1, List.getElem?_eq_getElem h2] at this
  exact this
/-! ### s * k -/
def rep (k : Nat) (s : Tx) : Tx := (List.replicate k s).flatten
@[simp] theorem rep_length (k : Nat) (s : Tx) : (rep k s).length = k * s.length := by simp [rep]
theorem rep_getD (s : Tx) : ∀ (k i : Nat), i < k * s.length → (rep k s).getD i 0 = rd s i
  | 0, i, h => by simp at h
  | k + 1, i, h => by
    have e : rep (k + 1) s = s ++ rep k s := by unfold rep; rw [List.replicate_succ, List.flatten_cons]
    rw [e]
    by_cases c : i < s.length
    · rw [rd_lt c]
      simp [List.getD_eq_getElem?_getD, List.getElem?_append_left c]
    · have ih := rep_getD s k (i - s.length) (by rw [Nat.succ_mul] at h; omega)
      have e2 : rd s (i - s.length) = rd s i := rd_congr (Nat.mod_eq_sub_mod (by omega)).symm
      rw [← e2, ← ih]
      simp [List.getD_eq_getElem?_getD, List.getElem?_append_right (show s.length ≤ i by omega)]
/-! ### from behind -/
/-! ### parts -/
end Fm

/-! Rt2: turns, the least one; filters. -/
namespace Fm
open PySem PySem.Spec PyProof.Rows L2
/-- a comprehension with a test, no effect -/
theorem lc_filter {α : Type} {g : MG} {ft : MT} {fe : ME} {P : List O} {ρ : En} {S : List O} (G : α → D) (p : α → Bool) (F : α → D) : ∀ l : List α, (∀ x ∈ l, ∃ ρ1, g (G x) ρ = some ρ1 ∧ ft P ρ1 S = .ok (p x) S ∧ (p x = true → fe P ρ1 S = .ok (F x) S)) →
    lcGo g ft fe P ρ (l.map G) S = .ok ((l.filter p).map F) S
  | [], _ => rfl
  | x :: l, h => by
    obtain ⟨ρ1, e1, e2, e3⟩ := h x List.mem_cons_self
    have ih := lc_filter G p F l fun y hy => h y (List.mem_cons_of_mem _ hy)
    rw [List.map_cons]
    cases c : p x with
    | true =>
      rw [c] at e2
      simp [lcGo, e1, e2, e3 c, ih, R.nx, R.bind, c]
    | false =>
      rw [c] at e2
      simp [lcGo, e1, e2, ih, R.nx, R.bind, c]
theorem low_strs (l : List Tx) : (T.lst (l.map T.str)).low = true := by
  unfold T.low
  apply decide_eq_true
  show (PyData.list (T.pds (l.map T.str))).depth ≤ 40
  rw [pds_map]
  have := depth_strs l
  have e : (l.map fun x => (T.str x).pd) = l.map fun y => PyData.str (sv y) := rfl
  rw [e]
  simp only [PyData.depth]
  omega
@[simp] theorem e_rev (f : ME) (P : List O) (ρ : En) (S : List O) : mRev f P ρ S = (f P ρ S).bind fun d S1 => match revIn P S1 d with
  | some x => .ok (.t x) S1
  | none => .no := rfl
@[simp] theorem rev_str (P S : List O) (s : Tx) : revIn P S (.t (.str s)) = some (.str s.reverse) := rfl
@[simp] theorem rev_lst (P S : List O) (s : List T) : revIn P S (.t (.lst s)) = some (.lst s.reverse) := rfl
/-! ### turns -/
/-! ### the least -/
/-! ### the law's own look at what stands -/
end Fm

/-! Rt3: turns of repeated texts. -/
namespace Fm
open PySem PySem.Spec PyProof.Rows L2
end Fm

/-! As: dicts with texts as keys, plain. -/
namespace Fm
open PySem PySem.Spec PyProof.Rows L2
section
variable {α : Type}
def getA (l : List (Tx × α)) (k : Tx) : Option α := (l.find? fun p => decide (p.1 = k)).map (·.2)
def putA (l : List (Tx × α)) (k : Tx) (v : α) : List (Tx × α) := if l.any (fun p => decide (p.1 = k)) then l.map fun p => if p.1 = k then (p.1, v) else p else l ++ [(k, v)]
def keyA (l : List (Tx × α)) : List Tx := l.map (·.1)
def encD (f : α → D) (l : List (Tx × α)) : List (At × D) := l.map fun p => (At.str p.1, f p.2)
def encT (f : α → T) (l : List (Tx × α)) : List (At × T) := l.map fun p => (At.str p.1, f p.2)
theorem at_str_dec (a b : Tx) : decide (At.str a = At.str b) = decide (a = b) := by
  by_cases h : a = b
  · subst h; simp
  · simp [h]
theorem celGet_enc (f : α → D) (l : List (Tx × α)) (k : Tx) : celGet (encD f l) (.str k) = (getA l k).map f := by
  unfold celGet encD getA
  rw [List.find?_map]
  have : (fun p : At × D => decide (p.1 = At.str k)) ∘ (fun p : Tx × α => (At.str p.1, f p.2)) = fun p : Tx × α => decide (p.1 = k) := by
    funext p; exact at_str_dec p.1 k
  rw [this]
  cases l.find? fun p => decide (p.1 = k) <;> rfl
theorem dicGet_enc (f : α → T) (l : List (Tx × α)) (k : Tx) : dicGet (encT f l) (.str k) = (getA l k).map f := by
  unfold dicGet encT getA
  rw [List.find?_map]
  have : (fun p : At × T => decide (p.1 = At.str k)) ∘ (fun p : Tx × α => (At.str p.1, f p.2)) = fun p : Tx × α => decide (p.1 = k) := by
    funext p; exact at_str_dec p.1 k
  rw [this]
  cases l.find? fun p => decide (p.1 = k) <;> rfl
theorem putD_enc (f : α → D) (l : List (Tx × α)) (k : Tx) (v : α) : putD (encD f l) (.str k) (f v) = encD f (putA l k v) := by
  unfold putD encD putA
  rw [List.any_map]
  have : (fun p : At × D => decide (p.1 = At.str k)) ∘ (fun p : Tx × α => (At.str p.1, f p.2)) = fun p : Tx × α => decide (p.1 = k) := by
    funext p; exact at_str_dec p.1 k
  rw [this]
  split
  · rw [List.map_map, List.map_map]
    apply List.map_congr_left
    intro p _
    simp only [Function.comp]
    by_cases c : p.1 = k
    · rw [if_pos c, if_pos (by rw [c])]
    · rw [if_neg c, if_neg (fun e => c (by injection e))]
  · rw [List.map_append]; rfl
theorem treesK_enc (f : α → T) : ∀ l : List (Tx × α), treesK (encD (fun x => D.t (f x)) l) = some (encT f l)
  | [] => rfl
  | p :: l => by
    show (treesK (encD (fun x => D.t (f x)) l)).map _ = _
    rw [treesK_enc f l]; rfl
theorem keyA_enc (f : α → T) (l : List (Tx × α)) : (encT f l).map (·.1) = (keyA l).map At.str := by
  unfold encT keyA
  rw [List.map_map, List.map_map]; rfl
theorem keyA_encD (f : α → D) (l : List (Tx × α)) : (encD f l).map (·.1) = (keyA l).map At.str := by
  unfold encD keyA
  rw [List.map_map, List.map_map]; rfl
theorem getA_mem {l : List (Tx × α)} {k : Tx} {v : α} (h : getA l k = some v) : (k, v) ∈ l := by
  unfold getA at h
  cases e : l.find? fun p => decide (p.1 = k) with
  | none => rw [e] at h; cases h
  | some p =>
    rw [e] at h
    cases h
    have := List.find?_some e
    have h2 : p.1 = k := of_decide_eq_true this
    rw [← h2]
    exact List.mem_of_find?_eq_some e
theorem getA_key {l : List (Tx × α)} {k : Tx} : k ∈ keyA l ↔ ∃ v, getA l k = some v := by
  constructor
  · intro h
    obtain ⟨p, hp, e⟩ := List.mem_map.mp h
    unfold getA
    cases q : l.find? fun p => decide (p.1 = k) with
    | none =>
      have := List.find?_eq_none.mp q p hp
      simp [e] at this
    | some r => exact ⟨r.2, rfl⟩
  · rintro ⟨v, h⟩
    exact List.mem_map.mpr ⟨_, getA_mem h, rfl⟩
theorem getA_none {l : List (Tx × α)} {k : Tx} (h : k ∉ keyA l) : getA l k = none := by
  cases e : getA l k with
  | none => rfl
  | some v => exact absurd (getA_key.mpr ⟨v, e⟩) h
theorem keyA_put (l : List (Tx × α)) (k : Tx) (v : α) : keyA (putA l k v) = if k ∈ keyA l then keyA l else keyA l ++ [k] := by
  unfold putA
  have hm : (l.any fun p => decide (p.1 = k)) = true ↔ k ∈ keyA l := by
    rw [List.any_eq_true]
    constructor
    · rintro ⟨p, hp, e⟩
      exact List.mem_map.mpr ⟨p, hp, of_decide_eq_true e⟩
    · intro h
      obtain ⟨p, hp, e⟩ := List.mem_map.mp h
      exact ⟨p, hp, decide_eq_true e⟩
  by_cases c : k ∈ keyA l
  · rw [if_pos (hm.mpr c), if_pos c]
    unfold keyA
    rw [List.map_map]
    apply List.map_congr_left
    intro p _
    simp only [Function.comp]
    split <;> rfl
  · rw [if_neg (fun h => c (hm.mp h)), if_neg c]
    unfold keyA
    rw [List.map_append]; rfl
theorem nodup_put {l : List (Tx × α)} (h : (keyA l).Nodup) (k : Tx) (v : α) : (keyA (putA l k v)).Nodup := by
  rw [keyA_put]; exact keys_nodup h k
theorem mem_put {l : List (Tx × α)} {k : Tx} {v : α} {x : Tx} : x ∈ keyA (putA l k v) ↔ x ∈ keyA l ∨ x = k := by
  rw [keyA_put]; exact keys_mem _ _ _
theorem len_keyA (l : List (Tx × α)) : (keyA l).length = l.length := List.length_map ..
theorem len_put (l : List (Tx × α)) (k : Tx) (v : α) : (putA l k v).length ≤ l.length + 1 := by
  rw [← len_keyA, ← len_keyA, keyA_put]
  split
  · omega
  · rw [List.length_append]; simp
theorem len_encD (f : α → D) (l : List (Tx × α)) : (encD f l).length = l.length := List.length_map ..
theorem len_encT (f : α → T) (l : List (Tx × α)) : (encT f l).length = l.length := List.length_map ..
end
section
variable {α : Type} (P S : List O)
theorem dget_tree (f : α → T) (l : List (Tx × α)) (k : Tx) : dGet P S (.t (.dic (encT f l))) (.str k) = some ((getA l k).map fun v => D.t (f v)) := by
  show some ((dicGet (encT f l) (.str k)).map D.t) = _
  rw [dicGet_enc, Option.map_map]; rfl
theorem dget_cell {i : Nat} (f : α → D) (l : List (Tx × α)) (h : (P ++ S)[i]? = some (.dic (encD f l))) (k : Tx) : dGet P S (.ref i) (.str k) = some ((getA l k).map f) := by
  unfold dGet
  simp only [h]
  show some (celGet (encD f l) (.str k)) = _
  rw [celGet_enc]
theorem dsub_tree (f : α → T) (l : List (Tx × α)) {k : Tx} {v : α} (h : getA l k = some v) : subG (.t (.dic (encT f l))) (.t (.str k)) P S = some (.t (f v), S) := by
  have := dget_tree P S f l k
  rw [h] at this
  simp [subG, seqIx, this]
theorem dsub_cell {i : Nat} (f : α → D) (l : List (Tx × α)) (hi : (P ++ S)[i]? = some (.dic (encD f l))) {k : Tx} {v : α} (h : getA l k = some v) : subG (.ref i) (.t (.str k)) P S = some (f v, S) := by
  have := dget_cell P S f l hi k
  rw [h] at this
  simp [subG, seqIx, hi, this]
theorem din_cell {i : Nat} (neg : Bool) (f : α → D) (l : List (Tx × α)) (hi : (P ++ S)[i]? = some (.dic (encD f l))) (k : Tx) : inG neg (.t (.str k)) (.ref i) P S = some (.t (.bl (neg ^^ decide (k ∈ keyA l))), S) := by
  have := dget_cell P S f l hi k
  have e : ((getA l k).map f).isSome = decide (k ∈ keyA l) := by
    rw [Bool.eq_iff_iff, decide_eq_true_iff, getA_key]
    cases getA l k <;> simp
  unfold inG
  simp only [this]
  show some (D.t (.bl (neg ^^ ((getA l k).map f).isSome)), S) = _
  rw [e]
end
end Fm

/-! Wb: books as webs, plain. -/
namespace Lw
open Fm
def bgn (w : Tx) : Tx := w.take (w.length - 1)
def fin (w : Tx) : Tx := w.drop 1
def lst (w : Tx) : Nat := w.getD (w.length - 1) 0
/-- the places -/
def spotsTx (W : List Tx) : List Tx := setTx (W.map bgn ++ W.map fin)
inductive Rch (W : List Tx) : Tx → Tx → Prop
  | refl (a : Tx) : Rch W a a
  | step {a : Tx} {w : Tx} : Rch W a (bgn w) → w ∈ W → Rch W a (fin w)
theorem Rch.trans {W : List Tx} {a b c : Tx} (h : Rch W a b) (k : Rch W b c) : Rch W a c := by
  induction k with
  | refl => exact h
  | step _ hw ih => exact .step ih hw
theorem Rch.one {W : List Tx} {w : Tx} (h : w ∈ W) : Rch W (bgn w) (fin w) := .step (.refl _) h
theorem Rch.head {W : List Tx} {a b : Tx} (h : Rch W a b) : a = b ∨ ∃ w ∈ W, bgn w = a ∧ Rch W (fin w) b := by
  induction h with
  | refl => exact .inl rfl
  | step k hw ih =>
    rename_i w
    rcases ih with e | ⟨v, hv, e, r⟩
    · exact .inr ⟨w, hw, e.symm, .refl _⟩
    · exact .inr ⟨v, hv, e, .step r hw⟩
def Joined (W : List Tx) : Prop := ∀ a ∈ spotsTx W, ∀ b ∈ spotsTx W, Rch W a b
theorem spots_mem {W : List Tx} {x : Tx} : x ∈ spotsTx W ↔ ∃ w ∈ W, x = bgn w ∨ x = fin w := by
  unfold spotsTx
  rw [show (x ∈ setTx (W.map bgn ++ W.map fin) ↔ x ∈ W.map bgn ++ W.map fin) from ((sortTx_perm _).mem_iff).trans (onceM_mem x _), List.mem_append, List.mem_map, List.mem_map]
  constructor
  · rintro (⟨w, h, e⟩ | ⟨w, h, e⟩)
    · exact ⟨w, h, .inl e.symm⟩
    · exact ⟨w, h, .inr e.symm⟩
  · rintro ⟨w, h, e | e⟩
    · exact .inl ⟨w, h, e.symm⟩
    · exact .inr ⟨w, h, e.symm⟩
theorem spots_bgn {W : List Tx} {w : Tx} (h : w ∈ W) : bgn w ∈ spotsTx W := spots_mem.mpr ⟨w, h, .inl rfl⟩
theorem spots_fin {W : List Tx} {w : Tx} (h : w ∈ W) : fin w ∈ spotsTx W := spots_mem.mpr ⟨w, h, .inr rfl⟩
theorem spots_nodup (W : List Tx) : (spotsTx W).Nodup := (sortTx_perm _).nodup_iff.mpr (onceM_nodup _)
theorem rch_spot {W : List Tx} {a b : Tx} (h : Rch W a b) (ha : a ∈ spotsTx W) : b ∈ spotsTx W := by
  cases h with
  | refl => exact ha
  | step _ hw => exact spots_fin hw
theorem spots_len (W : List Tx) : (spotsTx W).length ≤ 2 * W.length := by
  have h := (sortTx_perm (onceM (W.map bgn ++ W.map fin))).length_eq
  have h2 : (onceM (W.map bgn ++ W.map fin)).length ≤ (W.map bgn ++ W.map fin).length := (onceM_nodup _).length_le_of_subset fun x hx => (onceM_mem x _).mp hx
  rw [List.length_append, List.length_map, List.length_map] at h2
  unfold spotsTx setTx
  omega
/-! ### walks from a window -/
/-- the text t is read along n further steps from the window a to the window v -/
inductive Wk (W : List Tx) (a : Tx) : Nat → Tx → Tx → Prop
  | nil : Wk W a 0 a a
  | step {n : Nat} {u t v : Tx} : Wk W a n u t → v ∈ W → bgn v = fin u → Wk W a (n + 1) v (t ++ [lst v])
theorem Wk.len {W : List Tx} {a v t : Tx} {n : Nat} (h : Wk W a n v t) : t.length = a.length + n := by
  induction h with
  | nil => rfl
  | step _ _ _ ih => rw [List.length_append, ih]; rfl
theorem Wk.mem {W : List Tx} {a v t : Tx} {n : Nat} (h : Wk W a n v t) (ha : a ∈ W) : v ∈ W := by
  cases h with
  | nil => exact ha
  | step _ hv _ => exact hv
/-- as few steps as can be -/
def Dst (W : List Tx) (a v : Tx) (n : Nat) : Prop := (∃ t, Wk W a n v t) ∧ ∀ m, m < n → ¬ ∃ t, Wk W a m v t
/-- a window that is come to with n + 1 steps is come to from one with n -/
theorem Dst.pred {W : List Tx} {a v : Tx} {n : Nat} (h : Dst W a v (n + 1)) : ∃ u, Dst W a u n ∧ v ∈ W ∧ bgn v = fin u := by
  obtain ⟨⟨t, k⟩, hm⟩ := h
  cases k with
  | step k hv e =>
    rename_i u t'
    refine ⟨u, ⟨⟨t', k⟩, fun m hlt ⟨t2, k2⟩ => hm (m + 1) (by omega) ⟨_, .step k2 hv e⟩⟩, hv, e⟩
theorem Dst.all {W : List Tx} {a v : Tx} {n : Nat} (h : Dst W a v n) : ∀ m, m ≤ n → ∃ u, Dst W a u m := by
  induction n generalizing v with
  | zero => intro m hm; exact ⟨v, by rw [show m = 0 by omega]; exact h⟩
  | succ n ih =>
    intro m hm
    by_cases c : m = n + 1
    · exact ⟨v, c ▸ h⟩
    · obtain ⟨u, hu, _⟩ := h.pred
      exact ih hu m (by omega)
theorem joined_next {W : List Tx} (h : Joined W) {a : Tx} (ha : a ∈ W) : ∃ v ∈ W, bgn v = fin a := by
  rcases (h _ (spots_fin ha) _ (spots_bgn ha)).head with e | ⟨w, hw, e, _⟩
  · exact ⟨a, ha, e.symm⟩
  · exact ⟨w, hw, e⟩
theorem Wk.small {W : List Tx} {a v t : Tx} {n : Nat} {p : Nat → Prop} (hp : ∀ x ∈ W, ∀ c ∈ x, p c) (hne : ∀ x ∈ W, x ≠ []) (ha : a ∈ W) (h : Wk W a n v t) : ∀ c ∈ t, p c := by
  induction h with
  | nil => exact hp a ha
  | step k hv e ih =>
    rename_i n u t v
    intro c hc
    rcases List.mem_append.mp hc with hc | hc
    · exact ih c hc
    · rw [List.mem_singleton.mp hc]
      refine hp v hv _ ?_
      have := List.length_pos_iff.mpr (hne v hv)
      unfold lst
      rw [List.getD_eq_getElem?_getD, List.getElem?_eq_getElem (by omega)]
      exact List.getElem_mem _
end Lw

namespace Lw
open Fm
def pot (a b c : Int) : O := .lst [.t (.int a), .t (.int b), .t (.int c)]
@[simp] theorem at_len (P R : List O) (o : O) : (P ++ o :: R)[P.length]? = some o := by
  rw [List.getElem?_append_right (Nat.le_refl _), Nat.sub_self]; rfl
theorem sub_pot0 (P R : List O) (a b c : Int) : subG (.ref P.length) (.t (.int 0)) P (pot a b c :: R) = some (.t (.int a), pot a b c :: R) := by
  simp [subG, seqIx, pot, L2.atI, L2.ixN]
theorem sub_pot1 (P R : List O) (a b c : Int) : subG (.ref P.length) (.t (.int 1)) P (pot a b c :: R) = some (.t (.int b), pot a b c :: R) := by
  simp [subG, seqIx, pot, L2.atI, L2.ixN]
theorem sub_pot2 (P R : List O) (a b c : Int) : subG (.ref P.length) (.t (.int 2)) P (pot a b c :: R) = some (.t (.int c), pot a b c :: R) := by
  simp [subG, seqIx, pot, L2.atI, L2.ixN]
theorem set_pot0 (P R : List O) (a b c x : Int) : setG (.ref P.length) (.t (.int 0)) (.t (.int x)) P (pot a b c :: R) = some (pot x b c :: R) := by
  simp [setG, pot, L2.ixN]
theorem set_pot2 (P R : List O) (a b c x : Int) : setG (.ref P.length) (.t (.int 2)) (.t (.int x)) P (pot a b c :: R) = some (pot a b x :: R) := by
  simp [setG, pot, L2.ixN]
theorem p18 : powT (.int 10) (.int 18) = some (.int 1000000000000000000) := powT_int (n := 18) (by decide) (by decide)
theorem p30 : powT (.int 10) (.int 30) = some (.int (10 ^ 30)) := powT_int (n := 30) (by decide) (by decide)
theorem p27 : powT (.int 10) (.int 27) = some (.int (10 ^ 27)) := powT_int (n := 27) (by decide) (by decide)
theorem p29 : powT (.int 10) (.int 29) = some (.int (10 ^ 29)) := powT_int (n := 29) (by decide) (by decide)
theorem nab_big {i : Int} (h1 : -(10 ^ 200 : Int) < i) (h2 : i < 10 ^ 200) : i.natAbs < 10 ^ 1000 := Nat.lt_of_lt_of_le (show i.natAbs < 10 ^ 200 by
  have e : ((10 ^ 200 : Nat) : Int) = (10 ^ 200 : Int) := by norm_cast
  omega) (Nat.pow_le_pow_right (by decide) (by decide))
set_option maxHeartbeats 1000000
theorem draw_ok (P R : List O) (a b c top : Int) (hb : 0 ≤ b ∧ b < 10 ^ 40) (hc : 0 ≤ c) (hc2 : c < 10 ^ 20) (ht : 0 < top) (ht2 : top < 10 ^ 20) :
    ∃ r a' c', m__law_pick [.ref P.length, .t (.int top)] P (pot a b c :: R) = .ok (.t (.int r)) (pot a' b c' :: R) ∧ 0 ≤ r ∧ r < top ∧ 0 ≤ c' ∧ c' ≤ c + 1 := by
  have htop : ∀ i : Int, modT (.int i) (.int top) = some (.int (i % top)) := fun i => modT_int ht
  by_cases h : 0 < a
  · refine ⟨a % top, a / top, c, ?_, Int.emod_nonneg _ (by omega), Int.emod_lt_of_pos _ ht, hc, by omega⟩
    have hbt : top.natAbs < 2 ^ 4000 := big_lt (nab_big (by omega) (by omega))
    have hg : gtT (.int a) (.int 0) = some (.bl true) := by rw [Fm.gtT_int]; congr 2; exact decide_eq_true h
    have hd : fdivT (.int a) (.int top) = some (.int (a / top)) := fdivT_int ht hbt
    rw [m__law_pick]
    refine def_rt ?_
    show b__law_pick P [some (.ref P.length), some (.t (.int top)), none, none] (pot a b c :: R) = _
    unfold b__law_pick
    refine seq_rt (if_nx (b := true) (x_Bt (x_T2 (S1 := pot a b c :: R) (S2 := pot a b c :: R) (x_op2 rfl rfl (sub_pot0 P R a b c)) rfl hg)) ?_)
    refine seq_nx' (x_lT (x_T2 (S1 := pot a b c :: R) (x_B1 (x_op2 rfl rfl (sub_pot0 P R a b c)) (intT_int a)) rfl (htop a))) ?_
    exact seq_nx' (x_put (v := .t (.int (a / top))) (d := .ref P.length) (i := .t (.int 0)) (x_T2 (S1 := pot a b c :: R) (x_op2 rfl rfl (sub_pot0 P R a b c)) rfl hd) rfl rfl (set_pot0 P R a b c (a / top))) (ret_ok rfl)
  · have hg : gtT (.int a) (.int 0) = some (.bl false) := by rw [Fm.gtT_int]; congr 2; exact decide_eq_false (by omega)
    have e1 : mulT (.int 97531) (.int (c + 1)) = some (.int (97531 * (c + 1))) := mulT_int (mulOk_l (by decide))
    have e2 : mulT (.int (97531 * (c + 1))) (.int (c + 1)) = some (.int (97531 * (c + 1) * (c + 1))) := mulT_int (mulOk_b (nab_big (by omega) (by omega)) (nab_big (by omega) (by omega)))
    have e3 : mulT (.int 271) (.int (c + 1)) = some (.int (271 * (c + 1))) := mulT_int (mulOk_l (by decide))
    have e4 : ∀ i : Int, modT (.int i) (.int (10 ^ 29 + 319)) = some (.int (i % (10 ^ 29 + 319))) := fun i => modT_int (by decide)
    obtain ⟨m, hm⟩ : ∃ m : Int, m = (b + 97531 * (c + 1) * (c + 1) + 13) % (10 ^ 29 + 319) := ⟨_, rfl⟩
    have m1 : 0 ≤ m := by rw [hm]; exact Int.emod_nonneg _ (by decide)
    have m2 : m < 10 ^ 29 + 319 := by rw [hm]; exact Int.emod_lt_of_pos _ (by decide)
    have mm1 : 0 ≤ m * m := Int.mul_nonneg m1 m1
    have mm2 : m * m ≤ 10 ^ 30 * 10 ^ 30 := Int.mul_le_mul (by omega) (by omega) m1 (by decide)
    have e5 : mulT (.int m) (.int m) = some (.int (m * m)) := mulT_int (mulOk_b (nab_big (by omega) (by omega)) (nab_big (by omega) (by omega)))
    have e6 : mulT (.int (m * m)) (.int m) = some (.int (m * m * m)) := mulT_int (mulOk_b (nab_big (by omega) (by omega)) (nab_big (by omega) (by omega)))
    have e7 : ∀ i : Int, modT (.int i) (.int (10 ^ 30 + 57)) = some (.int (i % (10 ^ 30 + 57))) := fun i => modT_int (by decide)
    obtain ⟨k, hk⟩ : ∃ k : Int, k = (m * m * m + 271 * (c + 1)) % (10 ^ 30 + 57) := ⟨_, rfl⟩
    have e8 : fdivT (.int k) (.int 100003) = some (.int (k / 100003)) := fdivT_int (by decide) (big_lt (nab_big (by decide) (by decide)))
    have q29 : ∀ ρ S, mOp2 (lT2 addT) (mOp2 (lT2 powT) (mC (.int 10)) (mC (.int 29))) (mC (.int 319)) P ρ S = .ok (.t (.int (10 ^ 29 + 319))) S := fun ρ S => x_T2 (S1 := S) (x_T2 (S1 := S) rfl rfl p29) rfl (addT_int _ 319)
    have q30 : ∀ ρ S, mOp2 (lT2 addT) (mOp2 (lT2 powT) (mC (.int 10)) (mC (.int 30))) (mC (.int 57)) P ρ S = .ok (.t (.int (10 ^ 30 + 57))) S := fun ρ S => x_T2 (S1 := S) (x_T2 (S1 := S) rfl rfl p30) rfl (addT_int _ 57)
    refine ⟨k / 100003 % top, a, c + 1, ?_, Int.emod_nonneg _ (by omega), Int.emod_lt_of_pos _ ht, by omega, by omega⟩
    have sb1 : ∀ ρ, ρ[0]? = some (some (D.ref P.length)) → mOp2 subG (mVar 0) (mC (.int 1)) P ρ (pot a b (c + 1) :: R) = .ok (.t (.int b)) (pot a b (c + 1) :: R) := fun ρ h0 => x_op2 (x := .ref P.length) (S1 := pot a b (c + 1) :: R) (by rw [e_var, h0]) rfl (sub_pot1 P R a b (c + 1))
    have sb2 : ∀ (ρ : En) (c' : Int), ρ[0]? = some (some (D.ref P.length)) → mOp2 subG (mVar 0) (mC (.int 2)) P ρ (pot a b c' :: R) = .ok (.t (.int c')) (pot a b c' :: R) := fun ρ c' h0 => x_op2 (x := .ref P.length) (S1 := pot a b c' :: R) (by rw [e_var, h0]) rfl (sub_pot2 P R a b c')
    rw [m__law_pick]
    refine def_rt ?_
    show b__law_pick P [some (.ref P.length), some (.t (.int top)), none, none] (pot a b c :: R) = _
    unfold b__law_pick
    refine seq_nx' (ρ' := [some (.ref P.length), some (.t (.int top)), none, none]) (S' := pot a b c :: R) (if_nx (b := false) (x_Bt (x_T2 (S1 := pot a b c :: R) (S2 := pot a b c :: R) (x_op2 rfl rfl (sub_pot0 P R a b c)) rfl hg)) rfl) ?_
    refine seq_nx' (x_put (v := .t (.int (c + 1))) (d := .ref P.length) (i := .t (.int 2)) (x_T2 (S1 := pot a b c :: R) (sb2 _ c rfl) rfl (addT_int c 1)) rfl rfl (set_pot2 P R a b c (c + 1))) ?_
    refine seq_nx' (ρ' := [some (.ref P.length), some (.t (.int top)), none, some (.t (.int m))]) (S' := pot a b (c + 1) :: R) (x_lT ?_) ?_
    · rw [hm]
      refine x_T2 (S1 := pot a b (c + 1) :: R) (x_B1 (x_T2 (S1 := pot a b (c + 1) :: R) (x_T2 (S1 := pot a b (c + 1) :: R) (sb1 _ rfl) (x_T2 (S1 := pot a b (c + 1) :: R) (x_T2 (S1 := pot a b (c + 1) :: R) rfl (sb2 _ (c + 1) rfl) e1) (sb2 _ (c + 1) rfl) e2) (addT_int b _)) rfl (addT_int _ 13)) (intT_int _)) (q29 _ _) (e4 _)
    refine seq_nx' (ρ' := [some (.ref P.length), some (.t (.int top)), none, some (.t (.int k))]) (S' := pot a b (c + 1) :: R) (x_lT ?_) ?_
    · rw [hk]
      refine x_T2 (S1 := pot a b (c + 1) :: R) (x_B1 (x_T2 (S1 := pot a b (c + 1) :: R) (x_T2 (S1 := pot a b (c + 1) :: R) (x_T2 (S1 := pot a b (c + 1) :: R) rfl rfl e5) rfl e6) (x_T2 (S1 := pot a b (c + 1) :: R) rfl (sb2 _ (c + 1) rfl) e3) (addT_int _ _)) (intT_int _)) (q30 _ _) (e7 _)
    exact ret_ok (x_T2 (S1 := pot a b (c + 1) :: R) (x_B1 (x_T2 (S1 := pot a b (c + 1) :: R) rfl rfl e8) (intT_int _)) rfl (htop _))
def Pt (n : Nat) (R S : List O) : Prop := ∃ a b c, S = pot a b c :: R ∧ 0 ≤ c ∧ c ≤ n ∧ 0 ≤ b ∧ b < 10 ^ 40
theorem Pt.mono {n m : Nat} {R S : List O} (h : Pt n R S) (hm : n ≤ m) : Pt m R S := by
  obtain ⟨a, b, c, e, h1, h2, h3⟩ := h
  exact ⟨a, b, c, e, h1, by omega, h3⟩
theorem draw_pt (P : List O) {n : Nat} {R S : List O} {top : Int} (h : Pt n R S) (hn : n < 10 ^ 15) (ht : 0 < top) (ht2 : top < 10 ^ 15) :
    ∃ r S', m__law_pick [.ref P.length, .t (.int top)] P S = .ok (.t (.int r)) S' ∧ 0 ≤ r ∧ r < top ∧ Pt (n + 1) R S' := by
  obtain ⟨a, b, c, rfl, h1, h2, h3⟩ := h
  obtain ⟨r, a', c', e, r1, r2, c1, c2⟩ := draw_ok P R a b c top h3 h1 (by omega) ht (by omega)
  exact ⟨r, _, e, r1, r2, a', b, c', rfl, c1, by omega, h3⟩
def Small (s : Tx) : Prop := ∀ c ∈ s, 97 ≤ c ∧ c ≤ 122
instance (s : Tx) : Decidable (Small s) := inferInstanceAs (Decidable (∀ c ∈ s, 97 ≤ c ∧ c ≤ 122))
end Lw

/-! Cm: what several laws ask of ring texts and books -/
namespace Lw
open Fm
theorem small_letters {c : Nat} (h : 97 ≤ c ∧ c ≤ 122) : c ∈ cs "abcdefghijklmnopqrstuvwxyz" := by
  have e : cs "abcdefghijklmnopqrstuvwxyz" = (List.range 26).map (97 + ·) := by decide
  rw [e]
  exact List.mem_map.mpr ⟨c - 97, List.mem_range.mpr (by omega), by omega⟩
theorem rng_nat {j : Int} : rngOf 0 j = (List.range j.toNat).map fun k : Nat => D.t (.int (k : Int)) := by
  unfold rngOf
  rw [Int.sub_zero]
  apply List.map_congr_left
  intro k _
  rw [Int.zero_add]
theorem isword (P S : List O) {s : Tx} (h : Small s) : pureZ m_is_word [.t (.str s)] P S = .ok (.t (.bl true)) S := by
  refine pureZ_t (S' := []) ?_
  have e := lc_map (g := gN 1) (ft := mYes) (P := P ++ S) (S := []) (ρ := [some (.t (.str s)), none]) (fe := mOp2 (inG false) (mVar 1) (mC (.str (cs "abcdefghijklmnopqrstuvwxyz")))) (fun _ => D.t (.bl true)) (s.map fun c => D.t (.str [c])) (fun d hd => by
    obtain ⟨c, hc, rfl⟩ := List.mem_map.mp hd
    refine ⟨_, rfl, rfl, ?_⟩
    simp [inG, isSub_one, small_letters (h c hc)])
  rw [List.map_map] at e
  have et := trees_mapF (fun _ : Nat => T.bl true) s
  have eb := bls_mapf (fun _ : Nat => true) s
  have e2 : lcGo (gN 1) mYes (mOp2 (inG false) (mVar 1) (mC (.str (cs "abcdefghijklmnopqrstuvwxyz")))) (P ++ S) [some (.t (.str s)), none] (s.map fun c => D.t (.str [c])) [] = .ok (s.map fun _ => D.t (.bl true)) [] := e
  simp [m_is_word, e_def, b_is_word, isiB, itemsOf, e2, et, allT, eb]
/-! ### what is the same -/
/-! ### stands_in -/
theorem cutL_m1 {α : Type} (l : List α) : cutL l none (some (-1)) = l.take (l.length - 1) := by
  unfold cutL
  have e : HT.sIx l.length l.length (some (-1)) = ((-1 : Int) + (l.length : Int)).toNat := by
    unfold HT.sIx
    simp only
    rw [if_pos (by decide)]
  rw [HT.sIx_none, e, List.drop_zero, Nat.sub_zero]
  congr 1
  omega
theorem addT_lst {a b : List T} (h : a.length + b.length ≤ 16777216) : addT (.lst a) (.lst b) = some (.lst (a ++ b)) := if_pos h
theorem small_app {a b : Tx} (ha : Small a) (hb : Small b) : Small (a ++ b) := fun c hc => by
  rcases List.mem_append.mp hc with h | h
  · exact ha c h
  · exact hb c h
theorem small_take {a : Tx} {n : Nat} (h : Small a) : Small (a.take n) := fun c hc => h c (List.mem_of_mem_take hc)
theorem small_drop {a : Tx} {n : Nat} (h : Small a) : Small (a.drop n) := fun c hc => h c (List.mem_of_mem_drop hc)
theorem small_read {s : Tx} (h0 : s ≠ []) (h : Small s) (a n : Nat) : Small (readTx s a n) := fun c hc => by
  obtain ⟨j, _, rfl⟩ := List.mem_map.mp hc
  have hp : 0 < s.length := List.length_pos_iff.mpr h0
  have hm := Nat.mod_lt (a + j) hp
  unfold rd
  rw [List.getD_eq_getElem?_getD, List.getElem?_eq_getElem hm]
  exact h _ (List.getElem_mem hm)
def roundTx (z : Nat) (s : Tx) : List Tx := (List.range s.length).map fun i => (List.range z).map fun m => rd s (i + m)
theorem round_read (z : Nat) (s : Tx) : roundTx z s = (List.range s.length).map fun i => readTx s i z := rfl
theorem round_mem {z : Nat} {s x : Tx} (h : x ∈ roundTx z s) : ∃ i, i < s.length ∧ x = readTx s i z := by
  rw [round_read] at h
  obtain ⟨i, hi, rfl⟩ := List.mem_map.mp h
  exact ⟨i, List.mem_range.mp hi, rfl⟩
theorem round_len (z : Nat) (s : Tx) : (roundTx z s).length = s.length := by simp [roundTx]
theorem low_str (x : Tx) : (T.str x).low = true := by
  unfold T.low
  apply decide_eq_true
  show (PySem.PyData.str (sv x)).depth ≤ 40
  simp [PySem.PyData.depth]
theorem inAny_str (x : Tx) (l : List Tx) : inAny (.str x) (l.map T.str) = decide (x ∈ l) := by
  unfold inAny
  rw [List.any_map]
  by_cases h : x ∈ l
  · rw [decide_eq_true h, List.any_eq_true]
    exact ⟨x, h, by simp⟩
  · rw [decide_eq_false h]
    apply Bool.eq_false_iff.mpr
    intro z
    obtain ⟨y, hy, e⟩ := List.any_eq_true.mp z
    have : y = x := by simpa using e
    exact h (this ▸ hy)
theorem in_lst (neg : Bool) (x : Tx) (l : List Tx) (P S : List O) : inG neg (.t (.str x)) (.t (.lst (l.map T.str))) P S = some (.t (.bl (neg ^^ decide (x ∈ l))), S) := by
  unfold inG
  simp only [plain_str, isi_strs, low_str, Bool.and_self, if_true, inAny_str]
theorem isint (P S : List O) (z : Int) : pureZ m_is_integer [.t (.int z)] P S = .ok (.t (.bl true)) S :=
  pureZ_t (S' := []) (by simp [m_is_integer, e_def, b_is_integer, isiB])
theorem issize (P S : List O) {z : Int} (h : 2 ≤ z ∧ z ≤ 6) : pureZ m_is_size [.t (.int z)] P S = .ok (.t (.bl true)) S :=
  pureZ_t (S' := []) (by simp [m_is_size, e_def, b_is_size, isint, h.1, h.2])
/-- what a book's windows are -/
structure Wins (z : Nat) (W : List Tx) : Prop where
  asc : W.Pairwise (· < ·)
  len : ∀ x ∈ W, x.length = z
  sm : ∀ x ∈ W, Small x
  ne : W ≠ []
  few : W.length ≤ 10 ^ 6
theorem sub_tup (P S : List O) {l : List T} {k : Nat} (h : k < l.length) : subG (.t (.tup l)) (.t (.int k)) P S = some (.t (l[k]'h), S) := by
  have h1 : (k : Int) < l.length := by omega
  simp [subG, seqIx, L2.atI, L2.ixN, h, h1]
theorem ascend (P S : List O) {z : Nat} {W : List Tx} (w : Wins z W) : pureZ m_are_ascending [.t (.tup (W.map T.str))] P S = .ok (.t (.bl true)) S := by
  refine pureZ_t (S' := []) ?_
  generalize P ++ S = P'
  have few := w.few
  have hl : (W.map T.str).length = W.length := List.length_map ..
  have e := lc_map (g := gN 1) (ft := mYes) (P := P') (S := []) (ρ := [some (.t (.tup (W.map T.str))), none]) (fe := mOp2 (lT2 ltT) (mOp2 subG (mVar 0) (mVar 1)) (mOp2 subG (mVar 0) (mOp2 (lT2 addT) (mVar 1) (mC (.int 1))))) (fun _ => D.t (.bl true)) (rngOf 0 ((W.length : Int) - 1)) (fun d hd => by
    obtain ⟨k, rfl, h1, h2⟩ := rngOf_mem hd
    obtain ⟨k, rfl⟩ : ∃ n : Nat, k = n := ⟨k.toNat, by omega⟩
    have k1 : k < W.length := by omega
    have k2 : k + 1 < W.length := by omega
    have s1 := sub_tup P' [] (l := W.map T.str) (k := k) (by rw [hl]; exact k1)
    have s2 := sub_tup P' [] (l := W.map T.str) (k := k + 1) (by rw [hl]; exact k2)
    have ek : (k : Int) + 1 = ((k + 1 : Nat) : Int) := by omega
    have hlt := List.pairwise_iff_getElem.mp w.asc k (k + 1) k1 k2 (by omega)
    refine ⟨_, rfl, rfl, ?_⟩
    rw [List.getElem_map] at s1 s2
    simp only [e_op2, e_var, e_c, gN, List.set, List.getElem?_cons_zero, List.getElem?_cons_succ, R.bind_ok, s1, lift_some, lT2_t, addT_int, Option.map]
    rw [ek, s2]
    simp only [R.bind_ok, lift_some, lT2_t, ltT_str, Option.map, decide_eq_true hlt])
  have et := trees_mapF (fun _ : D => T.bl true) (rngOf 0 ((W.length : Int) - 1))
  have eb := bls_mapf (fun _ : D => true) (rngOf 0 ((W.length : Int) - 1))
  simp [m_are_ascending, e_def, b_are_ascending, rng1_ok (j := (W.length : Int) - 1) ⟨by omega, by omega⟩, e, et, allT, eb]
theorem arewindows (P S : List O) {z : Nat} {W : List Tx} (w : Wins z W) : pureZ m_are_windows [.t (.int z), .t (.tup (W.map T.str))] P S = .ok (.t (.bl true)) S := by
  refine pureZ_t (S' := []) ?_
  generalize P ++ S = P'
  have e := lc_map (g := gN 2) (ft := mYes) (P := P') (S := []) (ρ := [some (.t (.int z)), some (.t (.tup (W.map T.str))), none]) (fe := mAnd (mCall (pureZ m_is_word) (mCons (mVar 2) mNil)) (mOp2 (lT2 eqT) (mCallB lenG (mCons (mVar 2) mNil)) (mVar 0))) (fun _ => D.t (.bl true)) ((W.map T.str).map D.t) (fun d hd => by
    obtain ⟨y, hy, rfl⟩ := List.mem_map.mp hd
    obtain ⟨x, hx, rfl⟩ := List.mem_map.mp hy
    refine ⟨_, rfl, rfl, ?_⟩
    have hl := w.len x hx
    simp [isword P' [] (w.sm x hx), hl])
  have et := trees_mapF (fun _ : D => T.bl true) ((W.map T.str).map D.t)
  have eb := bls_mapf (fun _ : D => true) ((W.map T.str).map D.t)
  have hp : T.plains (W.map T.str) = true := isi_strs W
  generalize hL : (W.map T.str).map D.t = L at *
  simp [m_are_windows, e_def, b_are_windows, isiB, hp, itemsOf, hL, e, et, allT, eb, ascend P' [] w]
theorem isbook (P S : List O) {z : Nat} {W : List Tx} (w : Wins z W) (hz : 2 ≤ z ∧ z ≤ 6) : pureZ m_is_a_book [.t (.tup [.int z, .tup (W.map T.str)])] P S = .ok (.t (.bl true)) S := by
  refine pureZ_t (S' := []) ?_
  generalize P ++ S = P'
  have s0 := sub_tup P' [] (l := [T.int z, .tup (W.map T.str)]) (k := 0) (by simp)
  have s1 := sub_tup P' [] (l := [T.int z, .tup (W.map T.str)]) (k := 1) (by simp)
  simp only [List.getElem_cons_zero, List.getElem_cons_succ] at s0 s1
  have hp : T.plains [T.int z, .tup (W.map T.str)] = true := by simp [T.plains]
  have hpos : 0 < W.length := List.length_pos_iff.mpr w.ne
  simp at s0 s1
  simp [m_is_a_book, e_def, b_is_a_book, isiB, hp, s0, s1, issize P' [] (z := z) ⟨by omega, by omega⟩, arewindows P' [] w, hpos, w.ne]
theorem needbook (P S : List O) {z : Nat} {W : List Tx} (w : Wins z W) (hz : 2 ≤ z ∧ z ≤ 6) : pureZ m_need_book [.t (.tup [.int z, .tup (W.map T.str)])] P S = .ok (.t .non) S :=
  pureZ_t (S' := []) (by simp [m_need_book, e_def, b_need_book, isbook _ _ w hz])
theorem set_mem {l : List Tx} {x : Tx} : x ∈ setTx l ↔ x ∈ l := ((sortTx_perm _).mem_iff).trans (onceM_mem x l)
end Lw

/-! Bk: the drawn books -/
namespace Lw
open Fm
theorem strs_pick (P S : List O) {L : List Tx} {r : Int} (h0 : 0 ≤ r) (h1 : r < L.length) : ∃ x ∈ L, subG (.t (.lst (L.map T.str))) (.t (.int r)) P S = some (.t (.str x), S) := by
  have hl : r.toNat < L.length := by omega
  refine ⟨L[r.toNat], List.getElem_mem hl, ?_⟩
  have := strs_at' (ws := L) (k := r.toNat) (P := P) (S := S) hl
  rw [show ((r.toNat : Nat) : Int) = r by omega] at this
  exact this
theorem neT_str (x y : Tx) : neT (.str x) (.str y) = some (.bl (!decide (x = y))) := by
  unfold neT
  rw [if_pos (show (T.plain (.str x) && T.plain (.str y) && T.low (.str x)) = true by rfl), eqv_str]
def bookT (z : Nat) (W : List Tx) : T := .tup [.int z, .tup (W.map T.str)]
theorem once_len (L : List Tx) : (onceM L).length ≤ L.length := (onceM_nodup L).length_le_of_subset fun x hx => (onceM_mem x L).mp hx
end Lw

set_option maxHeartbeats 4000000
/-! S1: the well -/
namespace Lw
open Fm
theorem wellS_ok (P S : List O) (l : List Int) (k : Nat) (hk : k < 64) (hl : l.length ≤ 63) : ∃ a b, newF m__law_well [.t (.scr l), .t (.int k)] P S = .ok (.ref (P.length + S.length)) (S ++ [pot a b 0]) ∧ 0 ≤ b ∧ b < 10 ^ 40 := by
  have key : ∃ a b S', m__law_well [.t (.scr l), .t (.int k)] (P ++ S) [] = .ok (.ref (P ++ S).length) [pot a b 0] ∧ S' = S ∧ 0 ≤ b ∧ b < 10 ^ 40 := by
    generalize P ++ S = P'
    have hlen : lenG [.t (.scr l)] P' [] = some (.t (.int (l.length : Nat)), []) := len_scr ..
    have hlt : ltT (.int k) (.int (l.length : Nat)) = some (.bl (decide ((k : Int) < (l.length : Nat)))) := Fm.ltT_int ..
    obtain ⟨ρ', S', e, total, o3, o4, rfl, rfl⟩ := for_inv (g := gT 2 (gsCons (gN 3) (gsCons (gN 4) gsNil))) (P := P') (fb := sSet 2 (mOp2 (lT2 modT) (mCallB (lTL intT) (mCons (mOp2 (lT2 addT) (mOp2 (lT2 addT) (mOp2 (lT2 mulT) (mVar 2) (mC (.int 31))) (mOp2 (lT2 mulT) (mCallB (lTL intT) (mCons (mVar 4) mNil)) (mOp2 (lT2 addT) (mOp2 (lT2 mulT) (mC (.int 2)) (mVar 3)) (mC (.int 5))))) (mC (.int 17))) mNil)) (mOp2 (lT2 addT) (mOp2 (lT2 powT) (mC (.int 10)) (mC (.int 27))) (mC (.int 103)))))
      (fun n ρ S' => ∃ (total : Int) (o3 o4 : Option D), ρ = [some (.t (.scr l)), some (.t (.int k)), some (.t (.int total)), o3, o4, none] ∧ S' = [])
      (enumOf 0 (l.map T.int)) 0 [some (.t (.scr l)), some (.t (.int k)), some (.t (.int 4099)), none, none, none] [] (fun n d ρ S' hd hj => by
        obtain ⟨total, o3, o4, rfl, rfl⟩ := hj
        rw [enumOf_at, List.getElem?_map] at hd
        cases q : l[n]? with
        | none => rw [q] at hd; cases hd
        | some x =>
          rw [q] at hd
          cases hd
          have n1 : n < l.length := (List.getElem?_eq_some_iff.mp q).1
          have m1 : mulT (.int total) (.int 31) = some (.int (total * 31)) := mulT_int (mulOk_r (by decide))
          have m2 : mulT (.int 2) (.int ((0 + n : Nat) : Int)) = some (.int (2 * ((0 + n : Nat) : Int))) := mulT_int (mulOk_l (by decide))
          have m3 : mulT (.int x) (.int (2 * ((0 + n : Nat) : Int) + 5)) = some (.int (x * (2 * ((0 + n : Nat) : Int) + 5))) := mulT_int (mulOk_r (by omega))
          refine ⟨[some (.t (.scr l)), some (.t (.int k)), some (.t (.int total)), some (.t (.int ((0 + n : Nat) : Int))), some (.t (.int x)), none], rfl, _, _, .inl (x_lT (x_T2 (S1 := []) (x_B1 (x_T2 (S1 := []) (x_T2 (S1 := []) (x_T2 (S1 := []) rfl rfl m1) (x_T2 (S1 := []) (x_B1 rfl (intT_int x)) (x_T2 (S1 := []) (x_T2 (S1 := []) rfl rfl m2) rfl (addT_int _ 5)) m3) (addT_int _ _)) rfl (addT_int _ 17)) (intT_int _)) (x_T2 (S1 := []) (x_T2 (S1 := []) rfl rfl p27) rfl (addT_int _ 103)) (modT_int (by decide)))), _, _, _, rfl, rfl⟩) ⟨_, none, none, rfl, rfl⟩
    have hm : mulT (.int total) (.int ((k : Int) + 3)) = some (.int (total * ((k : Int) + 3))) := mulT_int (mulOk_r (by omega))
    have ht : ∀ ρ : En, ρ[0]? = some (some (.t (.scr l))) → ρ[1]? = some (some (.t (.int k))) → mB (mOp2 (lT2 ltT) (mVar 1) (mCallB lenG (mCons (mVar 0) mNil))) P' ρ [] = .ok (decide ((k : Int) < (l.length : Nat))) [] := fun ρ h0 h1 =>
      x_Bt (x_T2 (S1 := []) (x := .int k) (y := .int (l.length : Nat)) (by rw [e_var, h1]) (x_B (ds := [.t (.scr l)]) (x_cons (by rw [e_var, h0]) rfl) hlen) hlt)
    obtain ⟨cell, hcell⟩ : ∃ cell : Int, sSet 4 (mIf (mB (mOp2 (lT2 ltT) (mVar 1) (mCallB lenG (mCons (mVar 0) mNil)))) (mOp2 subG (mVar 0) (mVar 1)) (mOp2 (lT2 mulT) (mVar 2) (mOp2 (lT2 addT) (mVar 1) (mC (.int 3))))) P' [some (.t (.scr l)), some (.t (.int k)), some (.t (.int total)), o3, o4, none] [] = .nx [some (.t (.scr l)), some (.t (.int k)), some (.t (.int total)), o3, some (.t (.int cell)), none] [] := by
      have ht := ht [some (.t (.scr l)), some (.t (.int k)), some (.t (.int total)), o3, o4, none] rfl rfl
      by_cases c : (k : Int) < (l.length : Nat)
      · have hk' : k < l.length := by omega
        have hs : subG (.t (.scr l)) (.t (.int k)) P' [] = some (.t (.int l[k]), []) := by simp [subG, seqIx, L2.atI, L2.ixN, hk']
        refine ⟨l[k], x_lT (x_if ht ?_)⟩
        rw [decide_eq_true c]
        exact x_op2 (S1 := []) (S2 := []) rfl rfl hs
      · refine ⟨total * ((k : Int) + 3), x_lT (x_if ht ?_)⟩
        rw [decide_eq_false c]
        exact x_T2 (S1 := []) rfl (x_T2 (S1 := []) rfl rfl (addT_int _ 3)) hm
    obtain ⟨great, hgreat⟩ : ∃ great : Int, sSet 5 (mIf (mB (mOp2 (lT2 ltT) (mVar 1) (mCallB lenG (mCons (mVar 0) mNil)))) (mCallB (lTL max2T) (mCons (mC (.int 0)) (mCons (mOp2 (lT2 subT) (mVar 4) (mOp2 (lT2 powT) (mC (.int 10)) (mC (.int 18)))) mNil))) (mC (.int 0))) P' [some (.t (.scr l)), some (.t (.int k)), some (.t (.int total)), o3, some (.t (.int cell)), none] [] = .nx [some (.t (.scr l)), some (.t (.int k)), some (.t (.int total)), o3, some (.t (.int cell)), some (.t (.int great))] [] := by
      have ht := ht [some (.t (.scr l)), some (.t (.int k)), some (.t (.int total)), o3, some (.t (.int cell)), none] rfl rfl
      by_cases c : (k : Int) < (l.length : Nat)
      · rw [decide_eq_true c] at ht
        exact ⟨_, x_lT (x_if ht (x_B2 (S1 := []) rfl (x_T2 (S1 := []) rfl (x_T2 (S1 := []) rfl rfl p18) (subT_int _ _)) (max2T_int _ _)))⟩
      · rw [decide_eq_false c] at ht
        exact ⟨0, x_lT (x_if ht rfl)⟩
    have h2 : mulT (.int 7919) (.int k) = some (.int (7919 * k)) := mulT_int (mulOk_l (by decide))
    have hmod : ∀ i : Int, modT (.int i) (.int (10 ^ 30 + 57)) = some (.int (i % (10 ^ 30 + 57))) := fun i => modT_int (by decide)
    refine ⟨great, (total + 7919 * k + (if cell < 0 then -cell else cell)) % (10 ^ 30 + 57), S, ?_, rfl, Int.emod_nonneg _ (by decide), Int.lt_trans (Int.emod_lt_of_pos _ (by decide)) (by decide)⟩
    rw [m__law_well]
    refine def_rt ?_
    show b__law_well P' [some (.t (.scr l)), some (.t (.int k)), none, none, none, none] [] = _
    unfold b__law_well
    refine seq_nx' (ρ' := [some (.t (.scr l)), some (.t (.int k)), some (.t (.int 4099)), none, none, none]) (S' := []) (x_lT rfl) ?_
    refine seq_nx' (for_ok (x_I (ds := [.t (.scr l)]) (S1 := []) (x_cons rfl rfl) rfl) e) ?_
    refine seq_nx' hcell (seq_nx' hgreat ?_)
    refine ret_ok ?_
    have hd := x_T2 (P := P') (ρ := [some (.t (.scr l)), some (.t (.int k)), some (.t (.int total)), o3, some (.t (.int cell)), some (.t (.int great))]) (S := []) (S1 := []) (S2 := []) (x_B1 (x_T2 (S1 := []) (x_T2 (S1 := []) (fa := mVar 2) rfl (x_T2 (S1 := []) (fa := mC (.int 7919)) (fb := mVar 1) rfl rfl h2) (addT_int _ _)) (x_B1 (f := mVar 4) rfl (absT_int cell)) (addT_int _ _)) (intT_int _)) (x_T2 (S1 := []) (x_T2 (S1 := []) (fa := mC (.int 10)) (fb := mC (.int 30)) rfl rfl p30) (fb := mC (.int 57)) rfl (addT_int _ 57)) (hmod _)
    rw [e_lstC, x_cons (d := .t (.int great)) (S1 := []) rfl (x_cons hd (x_cons rfl rfl)), Fm.R.bind_ok]
    rfl
  obtain ⟨a, b, _, e, _, h⟩ := key
  exact ⟨a, b, newF_l (l := [.t (.int a), .t (.int b), .t (.int 0)]) e (Nat.le_refl _) (by simp [pot]) rfl, h⟩
end Lw

/-! WbS: small rules for books -/
namespace Lw
open Fm
theorem bk0 (P S : List O) (z : Nat) (W : List Tx) : subG (.t (bookT z W)) (.t (.int 0)) P S = some (.t (.int z), S) := by
  have := sub_tup P S (l := [T.int z, .tup (W.map T.str)]) (k := 0) (by simp)
  simpa [bookT] using this
theorem bk1 (P S : List O) (z : Nat) (W : List Tx) : subG (.t (bookT z W)) (.t (.int 1)) P S = some (.t (.tup (W.map T.str)), S) := by
  have := sub_tup P S (l := [T.int z, .tup (W.map T.str)]) (k := 1) (by simp)
  simpa [bookT] using this
theorem cut_fin (x : Tx) : cutL x (some 1) none = fin x := cutL_from x (by decide)
theorem cut_bgn (x : Tx) : cutL x none (some (-1)) = bgn x := cutL_m1 x
theorem items_tup (P : List O) (W : List Tx) : itemsOf P (.t (.tup (W.map T.str))) = some (W.map fun x => D.t (.str x)) := by
  show some ((W.map T.str).map D.t) = _
  rw [List.map_map]; rfl
theorem items_lst (P : List O) (W : List Tx) : itemsOf P (.t (.lst (W.map T.str))) = some (W.map fun x => D.t (.str x)) := by
  show some ((W.map T.str).map D.t) = _
  rw [List.map_map]; rfl
theorem lc_all {α : Type} {g : MG} {fe : ME} {P : List O} {ρ : En} {S : List O} (G : α → D) (F : α → T) (l : List α) (h : ∀ x ∈ l, ∃ ρ1, g (G x) ρ = some ρ1 ∧ fe P ρ1 S = .ok (.t (F x)) S) : lcGo g mYes fe P ρ (l.map G) S = .ok (l.map fun x => D.t (F x)) S := by
  have := lc_filter (g := g) (ft := mYes) (fe := fe) (P := P) (ρ := ρ) (S := S) G (fun _ => true) (fun x => D.t (F x)) l (fun x hx => let ⟨ρ1, e1, e2⟩ := h x hx; ⟨ρ1, e1, rfl, fun _ => e2⟩)
  rwa [List.filter_eq_self.mpr (fun _ _ => rfl)] at this
theorem take_mem {W : List Tx} {k : Nat} {v : Tx} (h : W[k]? = some v) (x : Tx) : x ∈ W.take (k + 1) ↔ x ∈ W.take k ∨ x = v := by
  rw [List.take_add_one, h, List.mem_append]
  simp
theorem sub_back {F G : List Tx} (n : F.Nodup) (h : ∀ x ∈ F, x ∈ G) (l : G.length ≤ F.length) {b : Tx} (hb : b ∈ G) : b ∈ F := Classical.byContradiction fun c => by
  have : (b :: F).length ≤ G.length := (List.nodup_cons.mpr ⟨c, n⟩).length_le_of_subset fun x hx => by
    rcases List.mem_cons.mp hx with rfl | hx
    · exact hb
    · exact h x hx
  rw [List.length_cons] at this
  omega
theorem grown_all0 {W F : List Tx} {a : Tx} (nd : F.Nodup) (g : ∀ x, x ∈ F ↔ Rch W a x) (ha : a ∈ spotsTx W) : F.length = (spotsTx W).length ↔ ∀ b ∈ spotsTx W, Rch W a b := by
  have sub : ∀ x ∈ F, x ∈ spotsTx W := fun x hx => rch_spot ((g x).mp hx) ha
  constructor
  · intro h b hb
    exact (g b).mp (sub_back nd sub (by omega) hb)
  · intro h
    exact Nat.le_antisymm (nd.length_le_of_subset sub) ((spots_nodup W).length_le_of_subset fun x hx => (g x).mpr (h x hx))
end Lw

/-! WbP: steps of texts, walks one behind another -/
namespace Lw
open Fm
theorem Wk.head {W : List Tx} {a v t : Tx} {n : Nat} (h : Wk W a n v t) : ∃ x, t = a ++ x := by
  induction h with
  | nil => exact ⟨[], (List.append_nil _).symm⟩
  | step _ _ _ ih =>
    obtain ⟨x, e⟩ := ih
    exact ⟨x ++ [_], by rw [e, List.append_assoc]⟩
end Lw

/-! St: cells at the head and at the end of a store -/
namespace Lw
open Fm
abbrev St (x : Tx) : D := D.t (.str x)
theorem at_last (P R : List O) (o p : O) : (P ++ p :: (R ++ [o]))[P.length + (R.length + 1)]? = some o := by
  rw [List.getElem?_append_right (by omega), Nat.add_sub_cancel_left, List.getElem?_cons_succ, List.getElem?_append_right (Nat.le_refl _), Nat.sub_self]
  rfl
theorem at_last2 (P R : List O) (o p : O) : (p :: (R ++ [o]))[P.length + (R.length + 1) - P.length]? = some o := by
  rw [Nat.add_sub_cancel_left, List.getElem?_cons_succ, List.getElem?_append_right (Nat.le_refl _), Nat.sub_self]
  rfl
theorem set_last (P R : List O) (o p u : O) : (p :: (R ++ [o])).set (P.length + (R.length + 1) - P.length) u = p :: (R ++ [u]) := by
  rw [Nat.add_sub_cancel_left, List.set_cons_succ, List.set_append_right _ _ (Nat.le_refl _), Nat.sub_self]
  rfl
theorem app_last (P R : List O) (p : O) (l : List D) (x : D) (h : l.length < 16777216) : appendG (.ref (P.length + (R.length + 1))) [x] P (p :: (R ++ [.lst l])) = some (.t .non, p :: (R ++ [.lst (l ++ [x])])) := by
  unfold appendG cellL
  simp only
  rw [if_pos (by omega), at_last2]
  simp only
  rw [if_pos (show l.length < PySem.sizeLine by rw [szl]; exact h), set_last]
theorem kd_last (P R : List O) (p : O) (l : List D) : kdLst (.ref (P.length + (R.length + 1))) P (p :: (R ++ [.lst l])) = true := by
  unfold kdLst
  simp only [at_last]
theorem put_head (P R : List O) (l : List (At × D)) (k : Tx) (v : D) (h : l.length < 16777216) : setG (.ref P.length) (.t (.str k)) v P (.dic l :: R) = some (.dic (putD l (.str k) v) :: R) := by
  unfold setG
  simp only
  rw [if_pos (Nat.le_refl _), Nat.sub_self, List.getElem?_cons_zero]
  simp only [T.at]
  rw [if_pos (show l.length < PySem.sizeLine by rw [szl]; exact h)]
  rfl
end Lw

/-! Us: small rules that many laws use -/
namespace Lw
open Fm
theorem seq_nx {a b : MS} {P : List O} {ρ ρ' : En} {S S' : List O} (h : a P ρ S = .nx ρ' S') : sSeq a b P ρ S = b P ρ' S' := by rw [e_seq, h]; rfl
theorem neT_strs (l m : List Tx) : neT (.lst (l.map T.str)) (.lst (m.map T.str)) = some (.bl (!decide (l = m))) := by
  unfold neT
  rw [low_strs, plain_lst, plain_lst, isi_strs, isi_strs, eqv_lst, eqvs_str]
  rfl
end Lw

/-! Wo: the program's webs: windows by the place where they begin, by the place where they end -/
namespace Lw
open Fm
abbrev Web := List (Tx × List Tx)
def num (k : Nat) : Web → List (Tx × Nat)
  | [] => []
  | b :: r => (b.1, k) :: num (k + 1) r
def cellOf (b : Tx × List Tx) : O := .lst (b.2.map St)
def rowT (r : List Tx) : T := .lst (r.map T.str)
theorem num_key : ∀ (k : Nat) (B : Web), keyA (num k B) = keyA B
  | _, [] => rfl
  | k, b :: r => by
    show b.1 :: keyA (num (k + 1) r) = b.1 :: keyA r
    rw [num_key (k + 1) r]
theorem num_app : ∀ (k : Nat) (B : Web) (b : Tx × List Tx), num k (B ++ [b]) = num k B ++ [(b.1, k + B.length)]
  | k, [], b => rfl
  | k, c :: r, b => by
    show (c.1, k) :: num (k + 1) (r ++ [b]) = (c.1, k) :: (num (k + 1) r ++ [(b.1, k + (r.length + 1))])
    rw [num_app (k + 1) r b, show k + 1 + r.length = k + (r.length + 1) by omega]
theorem num_get {s : Tx} {j : Nat} : ∀ {k : Nat} {B : Web}, getA (num k B) s = some j → ∃ i row, j = k + i ∧ B[i]? = some (s, row)
  | k, [], h => by simp [num, getA] at h
  | k, b :: r, h => by
    by_cases c : b.1 = s
    · have : getA (num k (b :: r)) s = some k := by simp [num, getA, c]
      rw [this] at h
      cases h
      exact ⟨0, b.2, rfl, by rw [← c]; rfl⟩
    · have : getA (num k (b :: r)) s = getA (num (k + 1) r) s := by simp [num, getA, c]
      rw [this] at h
      obtain ⟨i, row, e1, e2⟩ := num_get h
      exact ⟨i + 1, row, by omega, by rw [List.getElem?_cons_succ]; exact e2⟩
theorem num_set {s : Tx} {r0 r1 : List Tx} : ∀ {k i : Nat} {B : Web}, B[i]? = some (s, r0) → num k (B.set i (s, r1)) = num k B
  | k, i, [], h => by simp at h
  | k, 0, b :: r, h => by simp at h; subst h; rfl
  | k, i + 1, b :: r, h => by
    show (b.1, k) :: num (k + 1) (r.set i (s, r1)) = _
    rw [num_set (by simpa using h)]; rfl
theorem getA_set {s x : Tx} {r0 r1 : List Tx} : ∀ {i : Nat} {B : Web}, (keyA B).Nodup → B[i]? = some (s, r0) → getA (B.set i (s, r1)) x = if x = s then some r1 else getA B x
  | i, [], _, h => by simp at h
  | 0, b :: r, n, h => by
    simp at h; subst h
    by_cases c : s = x
    · simp [getA, c]
    · simp [getA, c, Ne.symm c]
  | i + 1, b :: r, n, h => by
    have n' : (keyA r).Nodup := (List.nodup_cons.mp n).2
    have ih := getA_set (x := x) (r1 := r1) n' (show r[i]? = some (s, r0) by simpa using h)
    have hb : b.1 ≠ s := fun e => by
      have : s ∈ keyA r := List.mem_map.mpr ⟨(s, r0), List.mem_of_getElem? (show r[i]? = some (s, r0) by simpa using h), rfl⟩
      exact (List.nodup_cons.mp n).1 (by show b.1 ∈ keyA r; rw [e]; exact this)
    by_cases c : b.1 = x
    · have : x ≠ s := fun e => hb (c.trans e)
      rw [if_neg this]
      simp [getA, c]
    · have e1 : getA ((b :: r).set (i + 1) (s, r1)) x = getA (r.set i (s, r1)) x := by simp [getA, c]
      have e2 : getA (b :: r) x = getA r x := by simp [getA, c]
      rw [e1, e2, ih]
theorem key_set {s : Tx} {r0 r1 : List Tx} {i : Nat} {B : Web} (h : B[i]? = some (s, r0)) : keyA (B.set i (s, r1)) = keyA B := by
  rw [← num_key 0, num_set h, num_key]
def mkW (p : Nat) (B : Web) : List O := .dic (encD D.ref (num (p + 1) B)) :: B.map cellOf
def addK (B : Web) (s : Tx) : Web := if s ∈ keyA B then B else B ++ [(s, [])]
noncomputable abbrev woS : MS := (sIf (mB (mOp2 (inG true) (mVar 3) (mVar 1))) (sPut (mVar 1) (mVar 3) (mLstC mNil)) sNil)
theorem woS_ok (P : List O) {d0 d2 o4 : Option D} {B : Web} {s : Tx} (lB : B.length ≤ 10 ^ 6) :
    woS P [d0, some (.ref P.length), d2, some (St s), o4] (mkW P.length B) = .nx [d0, some (.ref P.length), d2, some (St s), o4] (mkW P.length (addK B s)) := by
  have i1 := din_cell P (mkW P.length B) true D.ref (num (P.length + 1) B) (at_len P _ _) s
  rw [num_key] at i1
  by_cases c : s ∈ keyA B
  · unfold addK
    rw [if_pos c]
    simp only [woS, e_sif, e_B, e_op2, e_var, List.getElem?_cons_zero, List.getElem?_cons_succ, Fm.R.bind_ok, i1, decide_eq_true c, Bool.xor_self, lift_some, Fm.R.oc_ok, Bool.false_eq_true, if_false, e_sNil]
  · have hk : s ∉ keyA (num (P.length + 1) B) := by rw [num_key]; exact c
    have hput := put_head P (B.map cellOf ++ [.lst []]) (encD D.ref (num (P.length + 1) B)) s (.ref (P.length + (B.length + 1))) (by rw [len_encD, ← len_keyA, num_key, len_keyA]; omega)
    rw [putD_enc] at hput
    have hp : putA (num (P.length + 1) B) s (P.length + (B.length + 1)) = num (P.length + 1) (B ++ [(s, [])]) := by
      rw [num_app]
      unfold putA
      rw [if_neg]
      · rw [show P.length + (B.length + 1) = P.length + 1 + B.length by omega]
      · intro h
        obtain ⟨q, hq, e⟩ := List.any_eq_true.mp h
        exact hk (List.mem_map.mpr ⟨q, hq, of_decide_eq_true e⟩)
    rw [hp] at hput
    have hm : mkW P.length (addK B s) = .dic (encD D.ref (num (P.length + 1) (B ++ [(s, [])]))) :: (B.map cellOf ++ [.lst []]) := by
      unfold addK mkW
      rw [if_neg c, List.map_append]; rfl
    rw [hm]
    have hl : (mkW P.length B).length = B.length + 1 := by unfold mkW; rw [List.length_cons, List.length_map]
    have ha : mkW P.length B ++ [O.lst []] = .dic (encD D.ref (num (P.length + 1) B)) :: (B.map cellOf ++ [.lst []]) := rfl
    simp only [woS, e_sif, e_B, e_op2, e_var, List.getElem?_cons_zero, List.getElem?_cons_succ, Fm.R.bind_ok, i1, decide_eq_false c, Bool.xor_false, lift_some, Fm.R.oc_ok, if_true, e_put, e_lstC, e_nil, List.length_nil, szl, Nat.zero_le, hl, ha, hput]
theorem addK_len (B : Web) (s : Tx) : (addK B s).length ≤ B.length + 1 := by
  unfold addK
  split
  · omega
  · rw [List.length_append]; simp
theorem addK_key (B : Web) (s x : Tx) : x ∈ keyA (addK B s) ↔ x ∈ keyA B ∨ x = s := by
  unfold addK
  split
  · rename_i c
    exact ⟨.inl, fun h => by
      rcases h with h | h
      · exact h
      · rw [h]; exact c⟩
  · unfold keyA; rw [List.map_append, List.mem_append]; simp
theorem addK_nodup {B : Web} (h : (keyA B).Nodup) (s : Tx) : (keyA (addK B s)).Nodup := by
  unfold addK
  split
  · exact h
  · rename_i c
    unfold keyA at *
    rw [List.map_append, List.nodup_append]
    refine ⟨h, by simp, fun x hx y hy => ?_⟩
    simp at hy
    rw [hy]
    rintro rfl
    exact c hx
theorem addK_get (B : Web) (s x : Tx) : getA (addK B s) x = if x ∈ keyA B then getA B x else if x = s then some [] else none := by
  unfold addK
  by_cases c : s ∈ keyA B
  · rw [if_pos c]
    by_cases d : x ∈ keyA B
    · rw [if_pos d]
    · rw [if_neg d, getA_none d, if_neg (fun e => d (by rw [e]; exact c))]
  · rw [if_neg c]
    by_cases d : x ∈ keyA B
    · rw [if_pos d]
      obtain ⟨v, hv⟩ := getA_key.mp d
      unfold getA at hv ⊢
      rw [List.find?_append]
      cases q : List.find? (fun p => decide (p.1 = x)) B with
      | none => rw [q] at hv; cases hv
      | some p => rfl
    · rw [if_neg d]
      have hn := getA_none d
      unfold getA at hn ⊢
      rw [List.find?_append]
      cases q : List.find? (fun p => decide (p.1 = x)) B with
      | some p => rw [q] at hn; cases hn
      | none =>
        by_cases e : s = x
        · simp [e]
        · simp [e, Ne.symm e]
open Classical in
noncomputable def OutI (key : Tx → Tx) (V : List Tx) (B : Web) : Prop := (keyA B).Nodup ∧ (∀ s, getA B s = if (∃ v ∈ V, s = bgn v ∨ s = fin v) then some (V.filter fun v => decide (key v = s)) else none)
theorem outI_step {key : Tx → Tx} {V : List Tx} {B : Web} {w : Tx} (hk : key w = bgn w ∨ key w = fin w) (hkV : ∀ v ∈ V, key v = bgn v ∨ key v = fin v) (h : OutI key V B) :
    ∃ i row, (addK (addK B (bgn w)) (fin w))[i]? = some (key w, row) ∧ row.length ≤ V.length ∧ OutI key (V ++ [w]) ((addK (addK B (bgn w)) (fin w)).set i (key w, row ++ [w])) := by
  obtain ⟨nd, hg⟩ := h
  have nd2 := addK_nodup (addK_nodup nd (bgn w)) (fin w)
  have g2 : ∀ x, getA (addK (addK B (bgn w)) (fin w)) x = if (∃ v ∈ V ++ [w], x = bgn v ∨ x = fin v) then some (V.filter fun v => decide (key v = x)) else none := fun x => by
    have nil : ¬ (∃ v ∈ V, x = bgn v ∨ x = fin v) → V.filter (fun v => decide (key v = x)) = [] := fun c => by
      apply List.filter_eq_nil_iff.mpr
      intro v hv q
      have q : key v = x := of_decide_eq_true q
      rcases hkV v hv with e | e
      · exact c ⟨v, hv, .inl (q.symm.trans e)⟩
      · exact c ⟨v, hv, .inr (q.symm.trans e)⟩
    have mB : x ∈ keyA B ↔ ∃ v ∈ V, x = bgn v ∨ x = fin v := by
      rw [getA_key, hg x]
      constructor
      · rintro ⟨v, e⟩
        by_cases c : ∃ v ∈ V, x = bgn v ∨ x = fin v
        · exact c
        · rw [if_neg c] at e; cases e
      · intro c; exact ⟨_, if_pos c⟩
    have kx := addK_key B (bgn w) x
    rw [addK_get]
    by_cases c : ∃ v ∈ V, x = bgn v ∨ x = fin v
    · have : ∃ v ∈ V ++ [w], x = bgn v ∨ x = fin v := c.elim fun v h => ⟨v, List.mem_append_left _ h.1, h.2⟩
      rw [if_pos this, if_pos (kx.mpr (.inl (mB.mpr c))), addK_get, if_pos (mB.mpr c), hg x, if_pos c]
    · have cB : x ∉ keyA B := fun h => c (mB.mp h)
      rw [nil c]
      by_cases d1 : x = bgn w
      · have : ∃ v ∈ V ++ [w], x = bgn v ∨ x = fin v := ⟨w, by simp, .inl d1⟩
        rw [if_pos this, if_pos (kx.mpr (.inr d1)), addK_get, if_neg cB, if_pos d1]
      · by_cases d2 : x = fin w
        · have : ∃ v ∈ V ++ [w], x = bgn v ∨ x = fin v := ⟨w, by simp, .inr d2⟩
          rw [if_pos this, if_neg (fun h => (kx.mp h).elim cB d1), if_pos d2]
        · have : ¬ ∃ v ∈ V ++ [w], x = bgn v ∨ x = fin v := by
            rintro ⟨v, hv, e⟩
            rcases List.mem_append.mp hv with hv | hv
            · exact c ⟨v, hv, e⟩
            · rw [List.mem_singleton.mp hv] at e
              exact e.elim d1 d2
          rw [if_neg this, if_neg (fun h => (kx.mp h).elim cB d1), if_neg d2]
  have hw : ∃ v ∈ V ++ [w], key w = bgn v ∨ key w = fin v := ⟨w, by simp, hk⟩
  have gk := g2 (key w)
  rw [if_pos hw] at gk
  obtain ⟨i, hi⟩ := List.getElem?_of_mem (getA_mem gk)
  refine ⟨i, _, hi, List.length_filter_le _ _, by rw [key_set hi]; exact nd2, fun x => ?_⟩
  rw [getA_set nd2 hi, g2 x]
  by_cases c : x = key w
  · subst c
    rw [if_pos rfl, if_pos hw, List.filter_append]
    simp
  · rw [if_neg c, List.filter_append]
    have : [w].filter (fun v => decide (key v = x)) = [] := by simp [Ne.symm c]
    rw [this, List.append_nil]
theorem app_row (P : List O) {B : Web} {i : Nat} {s w : Tx} {row : List Tx} (h : B[i]? = some (s, row)) (hl : row.length ≤ 10 ^ 6) : appendG (.ref (P.length + 1 + i)) [St w] P (mkW P.length B) = some (.t .non, mkW P.length (B.set i (s, row ++ [w]))) := by
  have hi := (List.getElem?_eq_some_iff.mp h).1
  have e1 : (mkW P.length B)[P.length + 1 + i - P.length]? = some (.lst (row.map St)) := by
    unfold mkW
    rw [show P.length + 1 + i - P.length = i + 1 by omega, List.getElem?_cons_succ, List.getElem?_map, h]; rfl
  unfold appendG cellL
  simp only
  rw [if_pos (by omega), e1]
  simp only
  rw [if_pos (by rw [List.length_map, szl]; omega)]
  unfold mkW
  rw [num_set h, show P.length + 1 + i - P.length = i + 1 by omega, List.set_cons_succ, List.map_set]
  show some (_, _ :: (B.map cellOf).set i _) = some (_, _ :: (B.map cellOf).set i _)
  congr 4
  show O.lst _ = O.lst _
  rw [List.map_append]; rfl
theorem kd_row (P : List O) {B : Web} {i : Nat} {s : Tx} {row : List Tx} (h : B[i]? = some (s, row)) : kdLst (.ref (P.length + 1 + i)) P (mkW P.length B) = true := by
  unfold kdLst
  have e1 : (P ++ mkW P.length B)[P.length + 1 + i]? = some (.lst (row.map St)) := by
    rw [List.getElem?_append_right (by omega)]
    unfold mkW
    rw [show P.length + 1 + i - P.length = i + 1 by omega, List.getElem?_cons_succ, List.getElem?_map, h]; rfl
  simp only [e1]
/-- all cells of the web become trees -/
theorem frz_web (P : List O) (X : O) : ∀ (B1 B2 : Web), frzK frzD P (encD D.ref (num (P.length + 1 + B1.length) B2)) (X :: (B1.map (fun _ => O.dead) ++ B2.map cellOf)) = some (encT rowT B2, X :: ((B1 ++ B2).map fun _ => O.dead))
  | B1, [] => by simp [num, encD, encT, frzK]
  | B1, b :: r => by
    have hl : (B1.map fun _ => O.dead).length = B1.length := List.length_map ..
    have e1 : (X :: (B1.map (fun _ => O.dead) ++ cellOf b :: r.map cellOf))[P.length + 1 + B1.length - P.length]? = some (cellOf b) := by
      rw [show P.length + 1 + B1.length - P.length = B1.length + 1 by omega, List.getElem?_cons_succ, List.getElem?_append_right (by omega), hl, Nat.sub_self]; rfl
    have e2 : frzD P (.ref (P.length + 1 + B1.length)) (X :: (B1.map (fun _ => O.dead) ++ cellOf b :: r.map cellOf)) = some (.t (rowT b.2), X :: ((B1 ++ [b]).map (fun _ => O.dead) ++ r.map cellOf)) := by
      unfold frzD
      simp only
      rw [if_pos (by omega), e1]
      simp only [cellOf]
      rw [show trees (b.2.map St) = some (b.2.map T.str) from trees_mapF T.str b.2]
      simp only [Option.map]
      rw [show P.length + 1 + B1.length - P.length = B1.length + 1 by omega, List.set_cons_succ, List.set_append_right _ _ (by omega), hl, Nat.sub_self]
      simp [rowT]
    have ih := frz_web P X (B1 ++ [b]) r
    rw [show P.length + 1 + (B1 ++ [b]).length = P.length + 1 + B1.length + 1 by rw [List.length_append]; rfl] at ih
    show frzK frzD P ((At.str b.1, D.ref (P.length + 1 + B1.length)) :: encD D.ref (num (P.length + 1 + B1.length + 1) r)) _ = _
    rw [List.map_cons, frzK, e2]
    simp only
    rw [ih]
    simp [encT, rowT]
theorem frz_all (P : List O) (B : Web) : frzW frzD P (.ref P.length) (mkW P.length B) = some (.t (.dic (encT rowT B)), O.dead :: (B.map fun _ => O.dead)) := by
  have h := frz_web P (.dic (encD D.ref (num (P.length + 1) B))) [] B
  simp only [List.length_nil, Nat.add_zero, List.map_nil, List.nil_append] at h
  unfold frzW
  simp only
  rw [if_pos (Nat.le_refl _), Nat.sub_self]
  unfold mkW
  rw [List.getElem?_cons_zero]
  simp only
  rw [h]
  simp only [List.getElem?_cons_zero, List.set_cons_zero]
end Lw

/-! Wx: the program's webs, what the mirrors give -/
namespace Lw
open Fm
theorem begin_at (P S : List O) (w : Tx) : pureZ m_begin_of [St w] P S = .ok (St (bgn w)) S := by
  refine pureZ_t (S' := []) ?_
  rw [m_begin_of, e_def]
  show (match b_begin_of (P ++ S) [some (St w)] [] with | .rt d S' => Fm.R.ok d S' | .nx _ S' => .ok (.t .non) S' | .ex x _ S' => .ex x S' | _ => .no) = _
  unfold b_begin_of
  simp only [e_ret, e_sl, e_var, e_partN, e_partS, e_op1, e_c, List.getElem?_cons_zero, List.getElem?_cons_succ, Fm.R.bind_ok, lT1_t, negT_int, Option.map, lift_some, cut_bgn, Fm.R.oc_ok]
theorem end_at (P S : List O) (w : Tx) : pureZ m_end_of [St w] P S = .ok (St (fin w)) S := by
  refine pureZ_t (S' := []) ?_
  rw [m_end_of, e_def]
  show (match b_end_of (P ++ S) [some (St w)] [] with | .rt d S' => Fm.R.ok d S' | .nx _ S' => .ok (.t .non) S' | .ex x _ S' => .ex x S' | _ => .no) = _
  unfold b_end_of
  simp only [e_ret, e_sl, e_var, e_partN, e_partS, e_c, List.getElem?_cons_zero, List.getElem?_cons_succ, Fm.R.bind_ok, cut_fin, Fm.R.oc_ok]
theorem spots2 (P : List O) {d0 d2 o3 o4 : Option D} {B : Web} {a b : Tx} (lB : B.length ≤ 10 ^ 5) : forGo (gN 3) woS P [St a, St b] [d0, some (.ref P.length), d2, o3, o4] (mkW P.length B) = .nx [d0, some (.ref P.length), d2, some (St b), o4] (mkW P.length (addK (addK B a) b)) := by
  have l1 := addK_len B a
  have h1 := woS_ok P (d0 := d0) (d2 := d2) (o4 := o4) (B := B) (s := a) (by omega)
  have h2 := woS_ok P (d0 := d0) (d2 := d2) (o4 := o4) (B := addK B a) (s := b) (by omega)
  simp only [forGo, gN, List.set, h1, h2]
noncomputable abbrev woutB : MS := (sSeq (sFor (mIt (mTup (mCons (mCall (pureZ m_begin_of) (mCons (mVar 2) mNil)) (mCons (mCall (pureZ m_end_of) (mCons (mVar 2) mNil)) mNil)))) (gN 3) woS) (sSeq (sSet 4 (mOp2 subG (mVar 1) (mCall (pureZ m_begin_of) (mCons (mVar 2) mNil)))) (sExpr (mMeth kdLst appendG (mVar 4) (mCons (mVar 2) mNil)))))
theorem woutB_ok (P : List O) {d0 o3 o4 : Option D} {V : List Tx} {B : Web} {w : Tx} (lB : B.length ≤ 10 ^ 5) (lV : V.length ≤ 10 ^ 5) (h : OutI bgn V B) :
    ∃ B' o3' o4', woutB P [d0, some (.ref P.length), some (St w), o3, o4] (mkW P.length B) = .nx [d0, some (.ref P.length), some (St w), o3', o4'] (mkW P.length B') ∧ OutI bgn (V ++ [w]) B' ∧ B'.length ≤ B.length + 2 := by
  obtain ⟨i, row, hi, hr, ho⟩ := outI_step (key := bgn) (w := w) (.inl rfl) (fun v _ => (.inl rfl)) h
  have l1 := addK_len B (bgn w)
  have l2 := addK_len (addK B (bgn w)) (fin w)
  refine ⟨_, some (St (fin w)), some (.ref (P.length + 1 + i)), ?_, ho, by rw [List.length_set]; omega⟩
  have hs := spots2 P (d0 := d0) (d2 := some (St w)) (o3 := o3) (o4 := o4) (B := B) (a := bgn w) (b := fin w) lB
  generalize addK (addK B (bgn w)) (fin w) = B2 at hi hs l2 ho
  have hk : bgn w ∈ keyA (num (P.length + 1) B2) := by
    rw [num_key]; exact List.mem_map.mpr ⟨_, List.mem_of_getElem? hi, rfl⟩
  obtain ⟨j, hj⟩ := getA_key.mp hk
  obtain ⟨i2, row2, e1, e2⟩ := num_get hj
  have nd : (keyA B2).Nodup := by have := ho.1; rwa [key_set hi] at this
  have e3 : i2 = i := by
    have H1 : (keyA B2)[i]? = some (bgn w) := by unfold keyA; rw [List.getElem?_map, hi]; rfl
    have h2 : (keyA B2)[i2]? = some (bgn w) := by unfold keyA; rw [List.getElem?_map, e2]; rfl
    obtain ⟨k1, g1⟩ := List.getElem?_eq_some_iff.mp H1
    obtain ⟨k2, g2⟩ := List.getElem?_eq_some_iff.mp h2
    exact (List.getElem_inj nd).mp (g2.trans g1.symm)
  subst e3
  subst e1
  have es := dsub_cell P (mkW P.length B2) D.ref (num (P.length + 1) B2) (at_len P _ _) hj
  have ek := kd_row P hi
  have ea := app_row P (w := w) hi (by omega)
  have ep : itemsOf P (.t (.tup [T.str (bgn w), T.str (fin w)])) = some [St (bgn w), St (fin w)] := rfl
  simp only [woutB, e_seq, e_for, e_it, e_tup, e_cons, e_nil, e_call, e_var, List.getElem?_cons_zero, List.getElem?_cons_succ, Fm.R.bind_ok, begin_at, end_at, nx_ok, trees_cons, trees_nil, Option.map, List.length_cons, List.length_nil, szl, Nat.zero_add, Nat.reduceAdd, Nat.reduceLeDiff, if_true, ep, Fm.R.oc_ok]
  rw [hs]
  simp only [Fm.Oc.sq_nx, e_set, e_op2, e_var, e_call, e_cons, e_nil, List.getElem?_cons_zero, List.getElem?_cons_succ, Fm.R.bind_ok, begin_at, nx_ok, es, lift_some, Fm.R.oc_ok, List.set, e_expr, e_meth, ek, if_true, ea]
open Classical in
theorem wout_at (P S : List O) {z : Nat} {W : List Tx} (few : W.length ≤ 1000) : ∃ B, pureZ m_windows_out [.t (bookT z W)] P S = .ok (.t (.dic (encT rowT B))) S ∧ OutI bgn W B := by
  suffices h : ∃ B S', m_windows_out [.t (bookT z W)] (P ++ S) [] = .ok (.t (.dic (encT rowT B))) S' ∧ OutI bgn W B by
    obtain ⟨B, S', e, g⟩ := h
    exact ⟨B, pureZ_t e, g⟩
  generalize P ++ S = P'
  obtain ⟨ρ', S', e, B, o2, o3, o4, rfl, rfl, hB, lB⟩ := for_inv (g := gN 2) (fb := woutB) (P := P')
    (fun k ρ S => ∃ B o2 o3 o4, ρ = [some (.t (bookT z W)), some (.ref P'.length), o2, o3, o4] ∧ S = mkW P'.length B ∧ OutI bgn (W.take k) B ∧ B.length ≤ 2 * k)
    (W.map fun x => D.t (.str x)) 0 [some (.t (bookT z W)), some (.ref P'.length), none, none, none] (mkW P'.length []) (fun k d ρ S hk ⟨B, o2, o3, o4, hρ, hS, hB, lB⟩ => by
      subst hρ hS
      rw [Nat.zero_add] at hB lB
      rw [List.getElem?_map] at hk
      cases q : W[k]? with
      | none => rw [q] at hk; cases hk
      | some w =>
        rw [q] at hk
        cases hk
        have hkl := (List.getElem?_eq_some_iff.mp q).1
        obtain ⟨B', o3', o4', e, h1, h2⟩ := woutB_ok P' (d0 := some (.t (bookT z W))) (o3 := o3) (o4 := o4) (w := w) (by omega) (by rw [List.length_take]; omega) hB
        refine ⟨_, rfl, _, _, .inl e, B', _, _, _, rfl, rfl, ?_, by omega⟩
        rw [Nat.zero_add, List.take_add_one, q]
        exact h1) ⟨[], none, none, none, rfl, rfl, ⟨by simp [keyA], fun s => by simp [getA]⟩, by simp⟩
  rw [List.length_map, Nat.zero_add, List.take_length] at hB
  have hf := frz_all P' B
  refine ⟨B, O.dead :: (B.map fun _ => O.dead), ?_, hB⟩
  rw [m_windows_out, e_def]
  show (match b_windows_out P' [some (.t (bookT z W)), none, none, none, none] [] with | .rt d S' => Fm.R.ok d S' | .nx _ S' => .ok (.t .non) S' | .ex x _ S' => .ex x S' | _ => .no) = _
  unfold b_windows_out
  unfold woutB woS at e
  simp only [e_seq, e_set, e_dicC, List.length_nil, Nat.add_zero, List.nil_append, Fm.R.oc_ok, List.set, Fm.Oc.sq_nx, e_for, e_it, e_op2, e_var, e_c, List.getElem?_cons_zero, List.getElem?_cons_succ, Fm.R.bind_ok, bk1, lift_some, items_tup] at e ⊢
  rw [show ([O.dic []] : List O) = mkW P'.length [] from rfl, e]
  simp only [Fm.Oc.sq_nx, e_frzZ, List.getElem?_cons_zero, List.getElem?_cons_succ, hf, List.set, e_ret, e_var, Fm.R.oc_ok]
end Lw

/-! Pf: the places of a book, the places that are come to -/
namespace Lw
open Fm
theorem out_row0 {key : Tx → Tx} {W : List Tx} {B : Web} (h : OutI key W B) {s : Tx} (hs : ∃ v ∈ W, s = bgn v ∨ s = fin v) : getA B s = some (W.filter fun v => decide (key v = s)) := by
  rw [h.2 s, if_pos hs]
abbrev Marks := List (Tx × Unit)
def encM (l : Marks) : List (At × D) := encD (fun _ => D.t (.bl true)) l
def encMT (l : Marks) : List (At × T) := encT (fun _ => T.bl true) l
theorem put_enc (l : Marks) (k : Tx) : putD (encM l) (.str k) (.t (.bl true)) = encM (putA l k ()) := putD_enc (fun _ => D.t (.bl true)) l k ()
theorem len_encM (l : Marks) : (encM l).length = l.length := len_encD _ l
theorem placesofC (P' : List O) {z : Nat} {W : List Tx} (few : W.length ≤ 1000) : ∃ o, m_places_of [.t (bookT z W)] P' [] = .ok (.ref (P'.length + 1)) [o, .lst (((spotsTx W).map T.str).map D.t)] := by
  obtain ⟨ρ', S', e, F, o2, rfl, rfl, nd, lF, hm⟩ := for_inv (g := gN 2) (fb := (sSeq (sPut (mVar 1) (mSl (mVar 2) none (some (mOp1 (lT1 negT) (mC (.int 1))))) (mC (.bl true))) (sPut (mVar 1) (mSl (mVar 2) (some (mC (.int 1))) none) (mC (.bl true))))) (P := P')
    (fun k ρ S => ∃ (F : Marks) (o2 : Option D), ρ = [some (.t (bookT z W)), some (.ref P'.length), o2] ∧ S = [.dic (encM F)] ∧ (keyA F).Nodup ∧ F.length ≤ 2 * k ∧ ∀ x, x ∈ keyA F ↔ ∃ w ∈ W.take k, x = bgn w ∨ x = fin w)
    (W.map fun x => D.t (.str x)) 0 [some (.t (bookT z W)), some (.ref P'.length), none] [.dic (encM [])] (fun k d ρ S hk ⟨F, o2, hρ, hS, nd, lF, hm⟩ => by
      subst hρ hS
      rw [Nat.zero_add] at hm lF
      rw [List.getElem?_map] at hk
      cases q : W[k]? with
      | none => rw [q] at hk; cases hk
      | some w =>
        rw [q] at hk
        cases hk
        have hkl := (List.getElem?_eq_some_iff.mp q).1
        have l1 := len_put F (bgn w) ()
        have l2 := len_put (putA F (bgn w) ()) (fin w) ()
        have p1 := put_head P' [] (encM F) (bgn w) (.t (.bl true)) (by rw [len_encM]; omega)
        have p2 := put_head P' [] (encM (putA F (bgn w) ())) (fin w) (.t (.bl true)) (by rw [len_encM]; omega)
        rw [put_enc] at p1 p2
        refine ⟨_, rfl, [some (.t (bookT z W)), some (.ref P'.length), some (St w)], [.dic (encM (putA (putA F (bgn w) ()) (fin w) ()))], .inl ?_, _, _, rfl, rfl, nodup_put (nodup_put nd _ _) _ _, by omega, fun x => ?_⟩
        · simp only [e_seq, e_put, e_sl, e_var, e_partN, e_partS, e_op1, e_c, gN, List.set, List.getElem?_cons_zero, List.getElem?_cons_succ, Fm.R.bind_ok, lT1_t, negT_int, Option.map, lift_some, cut_bgn, Fm.R.oc_ok, p1, Fm.Oc.sq_nx, cut_fin, p2]
        · rw [mem_put, mem_put, hm x, Nat.zero_add]
          constructor
          · rintro ((⟨v, hv, e⟩ | e) | e)
            · exact ⟨v, (take_mem q v).mpr (.inl hv), e⟩
            · exact ⟨w, (take_mem q w).mpr (.inr rfl), .inl e⟩
            · exact ⟨w, (take_mem q w).mpr (.inr rfl), .inr e⟩
          · rintro ⟨v, hv, e⟩
            rcases (take_mem q v).mp hv with hv | rfl
            · exact .inl (.inl ⟨v, hv, e⟩)
            · exact e.elim (fun e => .inl (.inr e)) .inr) ⟨[], none, rfl, rfl, by simp [keyA], by simp, fun x => by simp [keyA]⟩
  rw [List.length_map, Nat.zero_add, List.take_length] at hm
  have hs := sort_cell (P := P') (S := [.dic (encM F)]) (at_len P' [] _) (keyA_encD (fun _ => D.t (.bl true)) F)
  have hsp : sortTx (keyA F) = spotsTx W := by
    unfold spotsTx
    refine setTx_of nd fun x => ?_
    rw [hm x, List.mem_append, List.mem_map, List.mem_map]
    constructor
    · rintro ⟨v, hv, e | e⟩
      · exact .inl ⟨v, hv, e.symm⟩
      · exact .inr ⟨v, hv, e.symm⟩
    · rintro (⟨v, hv, e⟩ | ⟨v, hv, e⟩)
      · exact ⟨v, hv, .inl e.symm⟩
      · exact ⟨v, hv, .inr e.symm⟩
  rw [hsp] at hs
  refine ⟨.dic (encM F), ?_⟩
  rw [m_places_of, e_def]
  show (match b_places_of P' [some (.t (bookT z W)), none, none] [] with | .rt d S' => Fm.R.ok d S' | .nx _ S' => .ok (.t .non) S' | .ex x _ S' => .ex x S' | _ => .no) = _
  unfold b_places_of
  simp only [e_seq, e_set, e_dicC, List.length_nil, Nat.add_zero, List.nil_append, Fm.R.oc_ok, List.set, Fm.Oc.sq_nx, e_for, e_it, e_op2, e_var, e_c, List.getElem?_cons_zero, List.getElem?_cons_succ, Fm.R.bind_ok, bk1, lift_some, items_tup] at e ⊢
  rw [show ([O.dic []] : List O) = [.dic (encM [])] from rfl, e]
  simp only [Fm.Oc.sq_nx, e_ret, e_sort, e_var, List.getElem?_cons_zero, List.getElem?_cons_succ, Fm.R.bind_ok, hs, e_mkC, Fm.R.oc_ok]
  rfl
theorem placesof_at (P S : List O) {z : Nat} {W : List Tx} (few : W.length ≤ 1000) : pureZ m_places_of [.t (bookT z W)] P S = .ok (.t (.lst ((spotsTx W).map T.str))) S := by
  obtain ⟨o, e⟩ := placesofC (P ++ S) (z := z) (W := W) few
  unfold pureZ
  rw [e]
  simp only
  have hf : frzD (P ++ S) (.ref ((P ++ S).length + 1)) [o, .lst (((spotsTx W).map T.str).map D.t)] = some (.t (.lst ((spotsTx W).map T.str)), [o, .dead]) := by
    unfold frzD
    simp only
    rw [if_pos (by omega), show (P ++ S).length + 1 - (P ++ S).length = 1 by omega]
    simp only [List.getElem?_cons_succ, List.getElem?_cons_zero, trees_map]
    rfl
  rw [hf]
/-! ### places_from -/
def stM (F : Marks) (Q : List Tx) : List O := [.dic (encM F), .lst (Q.map St)]
def gapM (W : List Tx) (F : Marks) : Nat := ((spotsTx W).filter fun x => !decide (x ∈ keyA F)).length
theorem gap_put {W : List Tx} {F : Marks} {x : Tx} (hx : x ∈ spotsTx W) (nx : x ∉ keyA F) : gapM W (putA F x ()) + 1 ≤ gapM W F := by
  unfold gapM
  have e : ((spotsTx W).filter fun y => !decide (y ∈ keyA (putA F x ()))) = ((spotsTx W).filter fun y => !decide (y ∈ keyA F)).filter fun y => !decide (y = x) := by
    rw [List.filter_filter]
    apply List.filter_congr
    intro y _
    simp [mem_put]
    exact Bool.and_comm _ _
  rw [e]
  refine Nat.lt_of_le_of_ne (List.length_filter_le _ _) fun q => ?_
  have := List.length_filter_eq_length_iff.mp q x (List.mem_filter.mpr ⟨hx, by simp [nx]⟩)
  simp at this
noncomputable abbrev pfI : MS := (sIf (mB (mOp2 (inG true) (mCall (pureZ m_end_of) (mCons (mVar 5) mNil)) (mVar 3))) (sSeq (sPut (mVar 3) (mCall (pureZ m_end_of) (mCons (mVar 5) mNil)) (mC (.bl true))) (sExpr (mMeth kdLst appendG (mVar 4) (mCons (mCall (pureZ m_end_of) (mCons (mVar 5) mNil)) mNil)))) sNil)
theorem at_2 (P : List O) (o p : O) : (P ++ [p, o])[P.length + 1]? = some o := at_last P [] o p
theorem app_2 (P : List O) (p : O) (l : List D) (x : D) (h : l.length < 16777216) : appendG (.ref (P.length + 1)) [x] P [p, .lst l] = some (.t .non, [p, .lst (l ++ [x])]) := app_last P [] p l x h
theorem kd_2 (P : List O) (p : O) (l : List D) : kdLst (.ref (P.length + 1)) P [p, .lst l] = true := kd_last P [] p l
theorem pfI_ok (P : List O) {d0 d1 d2 : Option D} {F : Marks} {Q : List Tx} {w : Tx} (lF : F.length ≤ 10 ^ 6) (lQ : Q.length ≤ 10 ^ 6) :
    pfI P [d0, d1, d2, some (.ref P.length), some (.ref (P.length + 1)), some (St w)] (stM F Q) =
      .nx [d0, d1, d2, some (.ref P.length), some (.ref (P.length + 1)), some (St w)] (if fin w ∈ keyA F then stM F Q else stM (putA F (fin w) ()) (Q ++ [fin w])) := by
  have i1 := din_cell P (stM F Q) true (fun _ => D.t (.bl true)) F (at_len P _ _) (fin w)
  by_cases c : fin w ∈ keyA F
  · rw [if_pos c]
    simp only [pfI, e_sif, e_B, e_op2, e_call, e_cons, e_nil, e_var, List.getElem?_cons_zero, List.getElem?_cons_succ, Fm.R.bind_ok, end_at, nx_ok, i1, decide_eq_true c, Bool.xor_self, lift_some, Fm.R.oc_ok, Bool.false_eq_true, if_false, e_sNil]
  · rw [if_neg c]
    have hst : stM F Q = [.dic (encM F), .lst (Q.map St)] := rfl
    have p1 := put_head P [.lst (Q.map St)] (encM F) (fin w) (.t (.bl true)) (by rw [len_encM]; omega)
    rw [put_enc] at p1
    have hk := kd_2 P (.dic (encM (putA F (fin w) ()))) (Q.map St)
    have ha := app_2 P (.dic (encM (putA F (fin w) ()))) (Q.map St) (St (fin w)) (by rw [List.length_map]; omega)
    have he : stM (putA F (fin w) ()) (Q ++ [fin w]) = [.dic (encM (putA F (fin w) ())), .lst (Q.map St ++ [St (fin w)])] := by
      unfold stM; rw [List.map_append]; rfl
    rw [he]
    simp only [pfI, e_sif, e_B, e_op2, e_call, e_cons, e_nil, e_var, e_c, List.getElem?_cons_zero, List.getElem?_cons_succ, Fm.R.bind_ok, end_at, nx_ok, i1, decide_eq_false c, Bool.xor_false, lift_some, Fm.R.oc_ok, if_true, e_seq, e_put]
    rw [hst, p1]
    simp only [Fm.Oc.sq_nx, e_expr, e_meth, e_var, e_cons, e_nil, e_call, List.getElem?_cons_zero, List.getElem?_cons_succ, Fm.R.bind_ok, hk, if_true, end_at, nx_ok, ha, lift_some, Fm.R.oc_ok]
noncomputable abbrev pfB : MS := (sFor (mIt (mOp2 subG (mVar 2) (mMeth kdLst popG (mVar 4) mNil))) (gN 5) pfI)
structure FI (W : List Tx) (s : Tx) (F : Marks) (Q : List Tx) (x : Option Tx) (done : Tx → Prop) : Prop where
  nd : (keyA F).Nodup
  st : s ∈ keyA F
  rc : ∀ y ∈ keyA F, Rch W s y
  qf : ∀ y ∈ Q, y ∈ keyA F
  cl : ∀ y ∈ keyA F, y ∉ Q → some y = x ∨ ∀ w ∈ W, bgn w = y → fin w ∈ keyA F
  dn : ∀ w ∈ W, done w → fin w ∈ keyA F
theorem fi_len {W : List Tx} {s : Tx} {F : Marks} {Q : List Tx} {x : Option Tx} {dn : Tx → Prop} (hs : s ∈ spotsTx W) (h : FI W s F Q x dn) : F.length ≤ 2 * W.length := by
  rw [← len_keyA]
  have := h.nd.length_le_of_subset fun y hy => rch_spot (h.rc y hy) hs
  have := spots_len W
  omega
theorem pop_2 (P : List O) (p : O) (Q : List Tx) (x : Tx) : popG (.ref (P.length + 1)) [] P [p, .lst ((Q ++ [x]).map St)] = some (St x, [p, .lst (Q.map St)]) := by
  unfold popG cellL
  simp only
  rw [if_pos (by omega)]
  rw [show P.length + 1 - P.length = 1 by omega]
  simp
theorem placesfrom_at (P S : List O) {z : Nat} {W : List Tx} {s : Tx} (few : W.length ≤ 1000) (hs : s ∈ spotsTx W) :
    ∃ F : Marks, pureZ m_places_from [.t (bookT z W), St s] P S = .ok (.t (.dic (encMT F))) S ∧ (keyA F).Nodup ∧ ∀ x, x ∈ keyA F ↔ Rch W s x := by
  suffices h : ∃ (F : Marks) (S' : List O), m_places_from [.t (bookT z W), St s] (P ++ S) [] = .ok (.t (.dic (encMT F))) S' ∧ (keyA F).Nodup ∧ ∀ x, x ∈ keyA F ↔ Rch W s x by
    obtain ⟨F, S', e, q⟩ := h
    exact ⟨F, pureZ_t e, q⟩
  generalize P ++ S = P'
  obtain ⟨B, eB, hB⟩ := wout_at P' [] (z := z) few
  have spW : ∀ x, x ∈ spotsTx W → ∃ v ∈ W, x = bgn v ∨ x = fin v := fun x hx => spots_mem.mp hx
  obtain ⟨ρ', S', e, F, o5, rfl, rfl, hF⟩ := while_inv (ft := mB (mOp2 (eqVG true) (mVar 4) (mLst mNil))) (fb := pfB) (P := P')
    (fun m ρ S => ∃ (F : Marks) (Q : List Tx) (o5 : Option D), ρ = [some (.t (bookT z W)), some (St s), some (.t (.dic (encT rowT B))), some (.ref P'.length), some (.ref (P'.length + 1)), o5] ∧ S = stM F Q ∧ FI W s F Q none (fun _ => False) ∧ m = 2 * gapM W F + Q.length ∧ m ≤ 4001)
    (fun ρ S => ∃ (F : Marks) (o5 : Option D), ρ = [some (.t (bookT z W)), some (St s), some (.t (.dic (encT rowT B))), some (.ref P'.length), some (.ref (P'.length + 1)), o5] ∧ S = stM F [] ∧ FI W s F [] none (fun _ => False))
    bigN (2 * gapM W [(s, ())] + 1) [some (.t (bookT z W)), some (St s), some (.t (.dic (encT rowT B))), some (.ref P'.length), some (.ref (P'.length + 1)), none] (stM [(s, ())] [s]) (lt_bigN (by
      have h1 : gapM W [(s, ())] ≤ (spotsTx W).length := List.length_filter_le _ _
      have h2 := spots_len W
      omega)) (fun m ρ S ⟨F, Q, o5, hρ, hS, h, hm, hm4⟩ => by
      subst hρ hS
      have ev := eqV_cell (neg := true) (P := P') (S := stM F Q) (at_2 P' (.lst (Q.map St)) (.dic (encM F)))
      have ht : mB (mOp2 (eqVG true) (mVar 4) (mLst mNil)) P' [some (.t (bookT z W)), some (St s), some (.t (.dic (encT rowT B))), some (.ref P'.length), some (.ref (P'.length + 1)), o5] (stM F Q) = .ok (!decide (Q = [])) (stM F Q) := by
        simp only [e_B, e_op2, e_var, e_lst, e_nil, List.getElem?_cons_zero, List.getElem?_cons_succ, Fm.R.bind_ok, trees_nil, List.length_nil, szl, Nat.zero_le, if_true, ev, lift_some, Bool.true_xor]
      by_cases c : Q = []
      · rw [decide_eq_true c] at ht
        subst c
        exact .inl ⟨_, ht, F, o5, rfl, rfl, h⟩
      · rw [decide_eq_false c] at ht
        obtain ⟨Q0, x, rfl⟩ : ∃ Q0 x, Q = Q0 ++ [x] := ⟨Q.dropLast, Q.getLast c, (List.dropLast_concat_getLast c).symm⟩
        have hxF : x ∈ keyA F := h.qf x (by simp)
        have hxs : x ∈ spotsTx W := rch_spot (h.rc x hxF) hs
        have row := out_row0 hB (spW x hxs)
        have hmem : ∀ w, w ∈ W.filter (fun v => decide (bgn v = x)) ↔ w ∈ W ∧ bgn w = x := fun w => by rw [List.mem_filter, decide_eq_true_iff]
        generalize (W.filter fun v => decide (bgn v = x)) = L at row hmem
        have hpop := pop_2 P' (.dic (encM F)) Q0 x
        have hkd := kd_2 P' (.dic (encM F)) ((Q0 ++ [x]).map St)
        have hsub := dsub_tree P' (stM F Q0) rowT B row
        obtain ⟨ρ', S', e, F', Q', o5', rfl, rfl, h', hg⟩ := for_inv (g := gN 5) (fb := pfI) (P := P')
          (fun k ρ S => ∃ (F' : Marks) (Q' : List Tx) (o5 : Option D), ρ = [some (.t (bookT z W)), some (St s), some (.t (.dic (encT rowT B))), some (.ref P'.length), some (.ref (P'.length + 1)), o5] ∧ S = stM F' Q' ∧ FI W s F' Q' (some x) (fun w => w ∈ L.take k) ∧ 2 * gapM W F' + Q'.length ≤ 2 * gapM W F + Q0.length)
          (L.map fun x => D.t (.str x)) 0 [some (.t (bookT z W)), some (St s), some (.t (.dic (encT rowT B))), some (.ref P'.length), some (.ref (P'.length + 1)), o5] (stM F Q0) (fun k d ρ S hk ⟨F', Q', o5, hρ, hS, h', hg⟩ => by
            subst hρ hS
            rw [Nat.zero_add] at h'
            rw [List.getElem?_map] at hk
            cases q : L[k]? with
            | none => rw [q] at hk; cases hk
            | some w =>
              rw [q] at hk
              cases hk
              obtain ⟨wW, we⟩ := (hmem w).mp (List.mem_of_getElem? q)
              have lF := fi_len hs h'
              have lg : gapM W F ≤ (spotsTx W).length := List.length_filter_le _ _
              have ls := spots_len W
              have lQ0 : (Q0 ++ [x]).length = Q0.length + 1 := by rw [List.length_append]; rfl
              have e := pfI_ok P' (d0 := some (.t (bookT z W))) (d1 := some (St s)) (d2 := some (.t (.dic (encT rowT B)))) (F := F') (Q := Q') (w := w) (by omega) (by omega)
              refine ⟨_, rfl, _, _, .inl e, ?_⟩
              rw [Nat.zero_add]
              by_cases cw : fin w ∈ keyA F'
              · rw [if_pos cw]
                refine ⟨F', Q', _, rfl, rfl, ⟨h'.nd, h'.st, h'.rc, h'.qf, h'.cl, fun v hv hd => ?_⟩, hg⟩
                rcases (take_mem q v).mp hd with hd | rfl
                · exact h'.dn v hv hd
                · exact cw
              · rw [if_neg cw]
                have hxr : Rch W s x := h.rc x hxF
                have hfr : Rch W s (fin w) := .step (by rw [we]; exact hxr) wW
                refine ⟨putA F' (fin w) (), Q' ++ [fin w], _, rfl, rfl, ⟨nodup_put h'.nd _ _, mem_put.mpr (.inl h'.st), fun y hy => ?_, fun y hy => ?_, fun y hy hq => ?_, fun v hv hd => ?_⟩, ?_⟩
                · rcases mem_put.mp hy with hy | rfl
                  · exact h'.rc y hy
                  · exact hfr
                · rcases List.mem_append.mp hy with hy | hy
                  · exact mem_put.mpr (.inl (h'.qf y hy))
                  · exact mem_put.mpr (.inr (List.mem_singleton.mp hy))
                · rcases mem_put.mp hy with hy | rfl
                  · rcases h'.cl y hy (fun hh => hq (List.mem_append_left _ hh)) with r | r
                    · exact .inl r
                    · exact .inr fun v hv hb => mem_put.mpr (.inl (r v hv hb))
                  · exact absurd (List.mem_append_right _ (List.mem_singleton.mpr rfl)) hq
                · rcases (take_mem q v).mp hd with hd | rfl
                  · exact mem_put.mpr (.inl (h'.dn v hv hd))
                  · exact mem_put.mpr (.inr rfl)
                · have := gap_put (rch_spot hfr hs) cw
                  rw [List.length_append, List.length_singleton]
                  omega) ⟨F, Q0, o5, rfl, rfl, ⟨h.nd, h.st, h.rc, fun y hy => h.qf y (List.mem_append_left _ hy), fun y hy hq => by
            by_cases cy : y = x
            · exact .inl (by rw [cy])
            · rcases h.cl y hy (fun hh => (List.mem_append.mp hh).elim hq fun hh => cy (List.mem_singleton.mp hh)) with r | r
              · cases r
              · exact .inr r, fun w _ hd => by simp at hd⟩, Nat.le_refl _⟩
        rw [Nat.zero_add, List.length_map, List.take_length] at h'
        refine .inr ⟨stM F (Q0 ++ [x]), [some (.t (bookT z W)), some (St s), some (.t (.dic (encT rowT B))), some (.ref P'.length), some (.ref (P'.length + 1)), o5'], stM F' Q', ht, ?_, 2 * gapM W F' + Q'.length, by rw [List.length_append] at hm; simp at hm; omega, F', Q', o5', rfl, rfl, ⟨h'.nd, h'.st, h'.rc, h'.qf, fun y hy hq => ?_, fun _ _ hd => hd.elim⟩, rfl, by rw [List.length_append] at hm; simp at hm; omega⟩
        · simp only [pfB, e_for, e_it, e_op2, e_var, e_meth, e_nil, List.getElem?_cons_zero, List.getElem?_cons_succ, Fm.R.bind_ok]
          rw [show stM F (Q0 ++ [x]) = [.dic (encM F), .lst ((Q0 ++ [x]).map St)] from rfl, hkd]
          simp only [if_true, hpop, lift_some, Fm.R.bind_ok]
          rw [show ([O.dic (encM F), .lst (Q0.map St)] : List O) = stM F Q0 from rfl, hsub]
          simp only [lift_some, Fm.R.bind_ok, rowT, items_lst, Fm.R.oc_ok]
          exact e
        · rcases h'.cl y hy hq with r | r
          · cases r
            exact .inr fun w hw hb => h'.dn w hw ((hmem w).mpr ⟨hw, hb⟩)
          · exact .inr r) ⟨[(s, ())], [s], none, rfl, rfl, ⟨by simp [keyA], by simp [keyA], fun y hy => by
        have : y = s := by simpa [keyA] using hy
        rw [this]; exact .refl _, fun y hy => by simpa [keyA] using hy, fun y hy hq => by
        have : y = s := by simpa [keyA] using hy
        exact absurd (by rw [this]; simp) hq, fun _ _ hd => hd.elim⟩, rfl, by
        have h1 : gapM W [(s, ())] ≤ (spotsTx W).length := List.length_filter_le _ _
        have h2 := spots_len W
        show 2 * gapM W [(s, ())] + 1 ≤ 4001
        omega⟩
  have hf : frzD P' (.ref P'.length) (stM F []) = some (.t (.dic (encMT F)), [.dead, .lst []]) := by
    unfold frzD stM
    simp only
    rw [if_pos (Nat.le_refl _), Nat.sub_self, List.getElem?_cons_zero]
    simp only
    rw [show encM F = encD (fun _ => D.t (.bl true)) F from rfl, treesK_enc (fun _ => T.bl true) F]
    rfl
  refine ⟨F, [.dead, .lst []], ?_, hF.nd, fun x => ⟨hF.rc x, fun h => ?_⟩⟩
  · rw [m_places_from, e_def]
    show (match b_places_from P' [some (.t (bookT z W)), some (St s), none, none, none, none] [] with | .rt d S' => Fm.R.ok d S' | .nx _ S' => .ok (.t .non) S' | .ex x _ S' => .ex x S' | _ => .no) = _
    unfold b_places_from
    unfold pfB pfI at e
    simp only [e_seq, e_set, e_call, e_cons, e_nil, e_var, e_c, List.getElem?_cons_zero, List.getElem?_cons_succ, Fm.R.bind_ok, eB, nx_ok, Fm.R.oc_ok, List.set, Fm.Oc.sq_nx, e_par2, e_dic1, T.at, e_finDC, e_lstC, List.length_nil, List.length_cons, Nat.add_zero, Nat.zero_add, Nat.reduceAdd, szl, Nat.reduceLeDiff, if_true, List.nil_append, List.cons_append, e_while]
    rw [show ([O.dic [(At.str s, D.t (T.bl true))], O.lst [D.t (T.str s)]] : List O) = stM [(s, ())] [s] from rfl, e]
    simp only [Fm.Oc.sq_nx, e_frz, List.getElem?_cons_zero, List.getElem?_cons_succ, hf, List.set, e_ret, e_var, Fm.R.oc_ok]
  · induction h with
    | refl => exact hF.st
    | step k hw ih =>
      rename_i w
      rcases hF.cl (bgn w) ih (by simp) with r | r
      · cases r
      · exact r w hw rfl
end Lw

/-! Cl: a_closed_lot -/
namespace Lw
open Fm
/-- a closed lot that is told -/
def Lot (W : List Tx) (V : List Tx) : Prop := ∃ a ∈ spotsTx W, ∃ F : List Tx, F.Nodup ∧ (∀ x, x ∈ F ↔ Rch W a x) ∧ F.length < (spotsTx W).length ∧ V = sortTx F
theorem len_all {W F : List Tx} {a : Tx} (nd : F.Nodup) (g : ∀ x, x ∈ F ↔ Rch W a x) (ha : a ∈ spotsTx W) : ¬ F.length < (spotsTx W).length ↔ ∀ b ∈ spotsTx W, Rch W a b := by
  have sub : ∀ x ∈ F, x ∈ spotsTx W := fun x hx => rch_spot ((g x).mp hx) ha
  have h1 := nd.length_le_of_subset sub
  have := grown_all0 nd g ha
  constructor
  · intro h; exact this.mp (by omega)
  · intro h; have := this.mpr h; omega
theorem aclosedlot_at (P S : List O) {z : Nat} {W : List Tx} (few : W.length ≤ 1000) :
    ∃ r, pureZ m_a_closed_lot [.t (bookT z W)] P S = .ok (.t r) S ∧ ((Joined W ∧ r = .non) ∨ (¬ Joined W ∧ ∃ V, Lot W V ∧ r = .tup (V.map T.str))) := by
  suffices h : ∃ r S', m_a_closed_lot [.t (bookT z W)] (P ++ S) [] = .ok (.t r) S' ∧ ((Joined W ∧ r = .non) ∨ (¬ Joined W ∧ ∃ V, Lot W V ∧ r = .tup (V.map T.str))) by
    obtain ⟨r, S', e, q⟩ := h
    exact ⟨r, pureZ_t e, q⟩
  generalize P ++ S = P'
  have e0 := placesof_at P' [] (z := z) (W := W) few
  have key := for_ret (g := gN 2) (fb := (sSeq (sSet 3 (mCall (pureZ m_places_from) (mCons (mVar 0) (mCons (mVar 2) mNil)))) (sIf (mB (mOp2 (lT2 ltT) (mCallB lenG (mCons (mVar 3) mNil)) (mCallB lenG (mCons (mVar 1) mNil)))) (sRet (mCallB (lTL tupOfT) (mCons (mSort mkT (mVar 3)) mNil))) sNil))) (P := P')
    (fun k ρ S => (∃ o2 o3, ρ = [some (.t (bookT z W)), some (.t (.lst ((spotsTx W).map T.str))), o2, o3]) ∧ S = [] ∧ ∀ a ∈ (spotsTx W).take k, ∀ b ∈ spotsTx W, Rch W a b)
    (fun r S => S = [] ∧ ¬ Joined W ∧ ∃ V, Lot W V ∧ r = .t (.tup (V.map T.str)))
    ((spotsTx W).map fun x => D.t (.str x)) 0 [some (.t (bookT z W)), some (.t (.lst ((spotsTx W).map T.str))), none, none] [] (fun k d ρ S hk ⟨⟨o2, o3, hρ⟩, hS, ha⟩ => by
      subst hρ hS
      rw [Nat.zero_add] at ha
      rw [List.getElem?_map] at hk
      cases q : (spotsTx W)[k]? with
      | none => rw [q] at hk; cases hk
      | some a =>
        rw [q] at hk
        cases hk
        have haW := List.mem_of_getElem? q
        obtain ⟨F, eF, nd, hF⟩ := placesfrom_at P' [] (z := z) few haW
        have la := len_all nd hF haW
        have lk : (encMT F).length = (keyA F).length := by rw [len_keyA]; exact len_encT _ F
        have hs := sort_dic (P := P') (S := []) (keyA_enc (fun _ => T.bl true) F)
        have htup : tupOfT [.lst ((sortTx (keyA F)).map T.str)] = some (.tup ((sortTx (keyA F)).map T.str)) := rfl
        have lsp : ((spotsTx W).map T.str).length = (spotsTx W).length := List.length_map ..
        refine ⟨_, rfl, ?_⟩
        by_cases c : (keyA F).length < (spotsTx W).length
        · have c' : ((keyA F).length : Int) < (spotsTx W).length := by omega
          refine .inr ⟨.t (.tup ((sortTx (keyA F)).map T.str)), [], ?_, rfl, fun h => la.mpr (fun b hb => h a haW b hb) c, sortTx (keyA F), ⟨a, haW, keyA F, nd, hF, c, rfl⟩, rfl⟩
          simp only [e_seq, e_set, e_call, e_cons, e_nil, e_var, gN, List.set, List.getElem?_cons_zero, List.getElem?_cons_succ, Fm.R.bind_ok, eF, nx_ok, Fm.R.oc_ok, Fm.Oc.sq_nx, e_sif, e_B, e_op2, e_callB, len_dic, lk, lift_some, len_lst, lsp, lT2_t, ltT_int, Option.map, decide_eq_true c', if_true, e_ret, e_sort]
          rw [show sortIn P' [] (.t (.dic (encMT F))) = some ((sortTx (keyA F)).map T.str) from hs]
          simp only [e_mkT, Fm.R.bind_ok, lTL_one, htup, Option.map, lift_some, Fm.R.oc_ok]
        · have c' : ¬ ((keyA F).length : Int) < (spotsTx W).length := by omega
          refine .inl ⟨[some (.t (bookT z W)), some (.t (.lst ((spotsTx W).map T.str))), some (St a), some (.t (.dic (encMT F)))], [], ?_, ⟨_, _, rfl⟩, rfl, fun y hy => ?_⟩
          · simp only [e_seq, e_set, e_call, e_cons, e_nil, e_var, gN, List.set, List.getElem?_cons_zero, List.getElem?_cons_succ, Fm.R.bind_ok, eF, nx_ok, Fm.R.oc_ok, Fm.Oc.sq_nx, e_sif, e_B, e_op2, e_callB, len_dic, lk, lift_some, len_lst, lsp, lT2_t, ltT_int, Option.map, decide_eq_false c', Bool.false_eq_true, if_false, e_sNil]
          · rw [Nat.zero_add] at hy
            rcases (take_mem q y).mp hy with hy | rfl
            · exact ha y hy
            · exact la.mp c) ⟨⟨none, none, rfl⟩, rfl, fun a ha => by simp at ha⟩
  have unf : ∀ {r : Fm.R D}, (match b_a_closed_lot P' [some (.t (bookT z W)), none, none, none] [] with | .rt d S' => Fm.R.ok d S' | .nx _ S' => .ok (.t .non) S' | .ex x _ S' => .ex x S' | _ => .no) = r → m_a_closed_lot [.t (bookT z W)] P' [] = r := fun hr => by
    rw [← hr, m_a_closed_lot, e_def]; rfl
  rcases key with ⟨ρ', S', e, ⟨o2, o3, rfl⟩, rfl, hj⟩ | ⟨r, S', e, rfl, hj, V, hV, rfl⟩
  · rw [Nat.zero_add, List.length_map, List.take_length] at hj
    refine ⟨.non, [], unf ?_, .inl ⟨hj, rfl⟩⟩
    unfold b_a_closed_lot
    simp only [e_seq, e_set, e_call, e_cons, e_nil, e_var, List.getElem?_cons_zero, List.getElem?_cons_succ, Fm.R.bind_ok, e0, nx_ok, Fm.R.oc_ok, List.set, Fm.Oc.sq_nx, e_for, e_it, items_lst] at e ⊢
    rw [e]
    simp only [Fm.Oc.sq_nx, e_ret, e_c, Fm.R.oc_ok]
  · refine ⟨.tup (V.map T.str), [], unf ?_, .inr ⟨hj, V, hV, rfl⟩⟩
    unfold b_a_closed_lot
    simp only [e_seq, e_set, e_call, e_cons, e_nil, e_var, List.getElem?_cons_zero, List.getElem?_cons_succ, Fm.R.bind_ok, e0, nx_ok, Fm.R.oc_ok, List.set, Fm.Oc.sq_nx, e_for, e_it, items_lst] at e ⊢
    rw [e]
    simp only [Fm.Oc.sq_rt]
end Lw

set_option maxHeartbeats 4000000
/-! A0: small rules -/
namespace Lw
open Fm
def abc : Tx := cs "abcdefghijklmnopqrstuvwxyz"
theorem rep_cut {s : Tx} {k i n : Nat} (h : i + n ≤ k * s.length) : ((rep k s).drop i).take n = readTx s i n := by
  refine tx_ext (by rw [List.length_take, List.length_drop, rep_length, readTx_len]; omega) fun j hj => ?_
  rw [List.length_take, List.length_drop, rep_length] at hj
  rw [readTx_at _ _ _ _ (by omega), ← rep_getD s k (i + j) (by omega), List.getD_eq_getElem?_getD, List.getElem?_take_of_lt (by omega), List.getElem?_drop, ← List.getD_eq_getElem?_getD]
theorem ints_pick (P S : List O) {l : List Int} {r : Int} (h0 : 0 ≤ r) (h1 : r < l.length) : ∃ x ∈ l, subG (.t (.lst (l.map T.int))) (.t (.int r)) P S = some (.t (.int x), S) := by
  obtain ⟨y, y1, _, y3⟩ := sub_lst P S (l := l.map T.int) h0 (by rw [List.length_map]; exact h1)
  obtain ⟨x, hx, rfl⟩ := List.mem_map.mp y1
  exact ⟨x, hx, y3⟩
theorem sl_ok {fo fl fh : ME} {P : List O} {ρ : En} {S S1 S2 S3 : List O} {s : Tx} {i j : Int} (h : fo P ρ S = .ok (St s) S1) (hl : fl P ρ S1 = .ok (.t (.int i)) S2) (hh : fh P ρ S2 = .ok (.t (.int j)) S3) : mSl fo (some fl) (some fh) P ρ S = .ok (St (cutL s (some i) (some j))) S3 := by
  rw [e_sl, h, Fm.R.bind_ok, e_partS, hl]
  simp only [Fm.R.bind_ok]
  rw [e_partS, hh]; rfl
theorem slTo_ok {fo fh : ME} {P : List O} {ρ : En} {S S1 S3 : List O} {s : Tx} {j : Int} (h : fo P ρ S = .ok (St s) S1) (hh : fh P ρ S1 = .ok (.t (.int j)) S3) : mSl fo none (some fh) P ρ S = .ok (St (cutL s none (some j))) S3 := by
  rw [e_sl, h, Fm.R.bind_ok, e_partN]
  simp only [Fm.R.bind_ok]
  rw [e_partS, hh]; rfl
theorem slFrom_ok {fo fl : ME} {P : List O} {ρ : En} {S S1 S3 : List O} {s : Tx} {i : Int} (h : fo P ρ S = .ok (St s) S1) (hl : fl P ρ S1 = .ok (.t (.int i)) S3) : mSl fo (some fl) none P ρ S = .ok (St (cutL s (some i) none)) S3 := by
  rw [e_sl, h, Fm.R.bind_ok, e_partS, hl]
  simp only [Fm.R.bind_ok, e_partN]
theorem cut_map {l : List Tx} (i j : Option Int) : cutL (l.map T.str) i j = (cutL l i j).map T.str := by
  unfold cutL
  simp only [List.length_map, List.map_drop, List.map_take]
theorem addL {a b : List Tx} (h : a.length + b.length ≤ 10 ^ 6) : addT (.lst (a.map T.str)) (.lst (b.map T.str)) = some (.lst ((a ++ b).map T.str)) := by
  rw [addT_lst (by rw [List.length_map, List.length_map]; omega), List.map_append]
theorem lastF_ok {g : MF} {ds : List D} {S S' : List O} {o : O} {d : D} (h : g ds S [o] = .ok d S') : lastF g ds [] (S ++ [o]) = .ok d (S ++ S') := by
  unfold lastF
  simp [h]
/-- the pot stands last -/
def PS (S : List O) (n : Nat) (X : List O) : Prop := ∃ a b c, X = S ++ [pot a b c] ∧ 0 ≤ c ∧ c ≤ n ∧ 0 ≤ b ∧ b < 10 ^ 40
theorem PS.mono {S X : List O} {n m : Nat} (h : PS S n X) (q : n ≤ m) : PS S m X := by
  obtain ⟨a, b, c, e, h1, h2, h3⟩ := h
  exact ⟨a, b, c, e, h1, by omega, h3⟩
theorem ps_open {S X : List O} {n : Nat} (h : PS S n X) : ∃ o, X = S ++ [o] ∧ Pt n [] [o] := by
  obtain ⟨a, b, c, rfl, h1⟩ := h
  exact ⟨_, rfl, a, b, c, rfl, h1⟩
theorem ps_of {S S' : List O} {n : Nat} (h : Pt n [] S') : PS S n (S ++ S') := by
  obtain ⟨a, b, c, rfl, h1⟩ := h
  exact ⟨a, b, c, rfl, h1⟩
end Lw

set_option maxHeartbeats 4000000
/-! A1: the law's own ways out, and what is come to -/
namespace Lw
open Fm
theorem in_tup (neg : Bool) (x : Tx) (l : List Tx) (P S : List O) : inG neg (.t (.str x)) (.t (.tup (l.map T.str))) P S = some (.t (.bl (neg ^^ decide (x ∈ l))), S) := by
  simp [inG, inAny_str, low_str]
/-- the web of places: where its windows lead -/
def rowF (B : Web) : Web := B.map fun b => (b.1, b.2.map fin)
theorem rowF_key (B : Web) : keyA (rowF B) = keyA B := by
  unfold keyA rowF; rw [List.map_map]; rfl
theorem rowF_len (B : Web) : (rowF B).length = B.length := List.length_map ..
theorem rowF_get {B : Web} {s : Tx} {row : List Tx} (h : getA B s = some row) : getA (rowF B) s = some (row.map fin) := by
  unfold getA rowF at *
  rw [List.find?_map]
  cases q : List.find? (fun p => decide (p.1 = s)) B with
  | none => rw [q] at h; cases h
  | some p =>
    rw [q] at h
    cases h
    rw [show List.find? ((fun p : Tx × List Tx => decide (p.1 = s)) ∘ fun b : Tx × List Tx => (b.1, b.2.map fin)) B = some p from q]
    rfl
theorem rowF_addK (B : Web) (s : Tx) : addK (rowF B) s = rowF (addK B s) := by
  unfold addK
  rw [rowF_key]
  split
  · rfl
  · unfold rowF; rw [List.map_append]; rfl
theorem rowF_at {B : Web} {i : Nat} {s : Tx} {row : List Tx} (h : B[i]? = some (s, row)) : (rowF B)[i]? = some (s, row.map fin) := by
  unfold rowF; rw [List.getElem?_map, h]; rfl
theorem rowF_set (B : Web) (i : Nat) (s w : Tx) (row : List Tx) : (rowF B).set i (s, row.map fin ++ [fin w]) = rowF (B.set i (s, row ++ [w])) := by
  unfold rowF; rw [List.map_set, List.map_append]; rfl
noncomputable abbrev lwoB : MS := (sSeq (sFor (mIt (mLst (mCons (mSl (mVar 2) none (some (mOp1 (lT1 negT) (mC (.int 1))))) (mCons (mSl (mVar 2) (some (mC (.int 1))) none) mNil)))) (gN 3) woS) (sSeq (sSet 4 (mOp2 subG (mVar 1) (mSl (mVar 2) none (some (mOp1 (lT1 negT) (mC (.int 1))))))) (sExpr (mMeth kdLst appendG (mVar 4) (mCons (mSl (mVar 2) (some (mC (.int 1))) none) mNil)))))
theorem lwoB_ok (P : List O) {d0 o3 o4 : Option D} {V : List Tx} {B : Web} {w : Tx} (lB : B.length ≤ 10 ^ 5) (lV : V.length ≤ 10 ^ 5) (h : OutI bgn V B) :
    ∃ B' o3' o4', lwoB P [d0, some (.ref P.length), some (St w), o3, o4] (mkW P.length (rowF B)) = .nx [d0, some (.ref P.length), some (St w), o3', o4'] (mkW P.length (rowF B')) ∧ OutI bgn (V ++ [w]) B' ∧ B'.length ≤ B.length + 2 := by
  obtain ⟨i, row, hi, hr, ho⟩ := outI_step (key := bgn) (w := w) (.inl rfl) (fun v _ => (.inl rfl)) h
  have l1 := addK_len B (bgn w)
  have l2 := addK_len (addK B (bgn w)) (fin w)
  refine ⟨_, some (St (fin w)), some (.ref (P.length + 1 + i)), ?_, ho, by rw [List.length_set]; omega⟩
  have hs := spots2 P (d0 := d0) (d2 := some (St w)) (o3 := o3) (o4 := o4) (B := rowF B) (a := bgn w) (b := fin w) (by rw [rowF_len]; exact lB)
  rw [rowF_addK, rowF_addK] at hs
  generalize addK (addK B (bgn w)) (fin w) = B2 at hi hs l2 ho
  have hi' := rowF_at hi
  have nd : (keyA B2).Nodup := by have := ho.1; rwa [key_set hi] at this
  rw [← rowF_set]
  have nd' : (keyA (rowF B2)).Nodup := by rw [rowF_key]; exact nd
  generalize rowF B2 = B3 at hi' hs nd'
  have hk : bgn w ∈ keyA (num (P.length + 1) B3) := by
    rw [num_key]; exact List.mem_map.mpr ⟨_, List.mem_of_getElem? hi', rfl⟩
  obtain ⟨j, hj⟩ := getA_key.mp hk
  obtain ⟨i2, row2, e1, e2⟩ := num_get hj
  have e3 : i2 = i := by
    have H1 : (keyA B3)[i]? = some (bgn w) := by unfold keyA; rw [List.getElem?_map, hi']; rfl
    have h2 : (keyA B3)[i2]? = some (bgn w) := by unfold keyA; rw [List.getElem?_map, e2]; rfl
    obtain ⟨k1, g1⟩ := List.getElem?_eq_some_iff.mp H1
    obtain ⟨k2, g2⟩ := List.getElem?_eq_some_iff.mp h2
    exact (List.getElem_inj nd').mp (g2.trans g1.symm)
  subst e3
  subst e1
  have es := dsub_cell P (mkW P.length B3) D.ref (num (P.length + 1) B3) (at_len P _ _) hj
  have ek := kd_row P hi'
  have ea := app_row P (w := fin w) hi' (by rw [List.length_map]; omega)
  have ep : itemsOf P (.t (.lst [T.str (bgn w), T.str (fin w)])) = some [St (bgn w), St (fin w)] := rfl
  simp only [lwoB, e_seq, e_for, e_it, e_lst, e_cons, e_nil, e_sl, e_partN, e_partS, e_op1, e_c, e_var, List.getElem?_cons_zero, List.getElem?_cons_succ, Fm.R.bind_ok, lT1_t, negT_int, Option.map, lift_some, cut_bgn, cut_fin, trees_cons, trees_nil, List.length_cons, List.length_nil, szl, Nat.zero_add, Nat.reduceAdd, Nat.reduceLeDiff, if_true, ep, Fm.R.oc_ok]
  rw [hs]
  simp only [Fm.Oc.sq_nx, e_set, e_op2, e_var, e_sl, e_partN, e_partS, e_op1, e_c, e_cons, e_nil, List.getElem?_cons_zero, List.getElem?_cons_succ, Fm.R.bind_ok, lT1_t, negT_int, Option.map, cut_bgn, cut_fin, es, lift_some, Fm.R.oc_ok, List.set, e_expr, e_meth, ek, if_true, ea]
open Classical in
theorem waysOut_at (P S : List O) {x : T} {V : List Tx} (hit : ∀ P, itemsOf P (.t x) = some (V.map fun w => D.t (.str w))) (few : V.length ≤ 1000) : ∃ B, pureZ m__law_ways_out [.t x] P S = .ok (.t (.dic (encT rowT (rowF B)))) S ∧ OutI bgn V B := by
  suffices h : ∃ B S', m__law_ways_out [.t x] (P ++ S) [] = .ok (.t (.dic (encT rowT (rowF B)))) S' ∧ OutI bgn V B by
    obtain ⟨B, S', e, g⟩ := h
    exact ⟨B, pureZ_t e, g⟩
  generalize P ++ S = P'
  obtain ⟨ρ', S', e, B, o2, o3, o4, rfl, rfl, hB, lB⟩ := for_inv (g := gN 2) (fb := lwoB) (P := P')
    (fun k ρ S => ∃ B o2 o3 o4, ρ = [some (.t x), some (.ref P'.length), o2, o3, o4] ∧ S = mkW P'.length (rowF B) ∧ OutI bgn (V.take k) B ∧ B.length ≤ 2 * k)
    (V.map fun x => D.t (.str x)) 0 [some (.t x), some (.ref P'.length), none, none, none] (mkW P'.length []) (fun k d ρ S hk ⟨B, o2, o3, o4, hρ, hS, hB, lB⟩ => by
      subst hρ hS
      rw [Nat.zero_add] at hB lB
      rw [List.getElem?_map] at hk
      cases q : V[k]? with
      | none => rw [q] at hk; cases hk
      | some w =>
        rw [q] at hk
        cases hk
        have hkl := (List.getElem?_eq_some_iff.mp q).1
        obtain ⟨B', o3', o4', e, h1, h2⟩ := lwoB_ok P' (d0 := some (.t x)) (o3 := o3) (o4 := o4) (w := w) (by omega) (by rw [List.length_take]; omega) hB
        refine ⟨_, rfl, _, _, .inl e, B', _, _, _, rfl, rfl, ?_, by omega⟩
        rw [Nat.zero_add, List.take_add_one, q]
        exact h1) ⟨[], none, none, none, rfl, rfl, ⟨by simp [keyA], fun s => by simp [getA]⟩, by simp⟩
  rw [List.length_map, Nat.zero_add, List.take_length] at hB
  have hf := frz_all P' (rowF B)
  refine ⟨B, O.dead :: ((rowF B).map fun _ => O.dead), ?_, hB⟩
  rw [m__law_ways_out, e_def]
  show (match b__law_ways_out P' [some (.t x), none, none, none, none] [] with | .rt d S' => Fm.R.ok d S' | .nx _ S' => .ok (.t .non) S' | .ex x _ S' => .ex x S' | _ => .no) = _
  unfold b__law_ways_out
  unfold lwoB woS at e
  simp only [e_seq, e_set, e_dicC, List.length_nil, Nat.add_zero, List.nil_append, Fm.R.oc_ok, List.set, Fm.Oc.sq_nx, e_for, e_it, e_var, List.getElem?_cons_zero, List.getElem?_cons_succ, Fm.R.bind_ok, hit] at e ⊢
  rw [show ([O.dic []] : List O) = mkW P'.length [] from rfl, e]
  simp only [Fm.Oc.sq_nx, e_frzZ, List.getElem?_cons_zero, List.getElem?_cons_succ, hf, List.set, e_ret, e_var, Fm.R.oc_ok]
noncomputable abbrev cmI : MS := (sIf (mB (mOp2 (inG true) (mVar 4) (mVar 2))) (sSeq (sPut (mVar 2) (mVar 4) (mC (.bl true))) (sExpr (mMeth kdLst appendG (mVar 3) (mCons (mVar 4) mNil)))) sNil)
theorem cmI_ok (P : List O) {d0 d1 : Option D} {F : Marks} {Q : List Tx} {x : Tx} (lF : F.length ≤ 10 ^ 6) (lQ : Q.length ≤ 10 ^ 6) :
    cmI P [d0, d1, some (.ref P.length), some (.ref (P.length + 1)), some (St x)] (stM F Q) =
      .nx [d0, d1, some (.ref P.length), some (.ref (P.length + 1)), some (St x)] (if x ∈ keyA F then stM F Q else stM (putA F x ()) (Q ++ [x])) := by
  have i1 := din_cell P (stM F Q) true (fun _ => D.t (.bl true)) F (at_len P _ _) x
  by_cases c : x ∈ keyA F
  · rw [if_pos c]
    simp only [cmI, e_sif, e_B, e_op2, e_var, List.getElem?_cons_zero, List.getElem?_cons_succ, Fm.R.bind_ok, i1, decide_eq_true c, Bool.xor_self, lift_some, Fm.R.oc_ok, Bool.false_eq_true, if_false, e_sNil]
  · rw [if_neg c]
    have hst : stM F Q = [.dic (encM F), .lst (Q.map St)] := rfl
    have p1 := put_head P [.lst (Q.map St)] (encM F) x (.t (.bl true)) (by rw [len_encM]; omega)
    rw [put_enc] at p1
    have hk := kd_2 P (.dic (encM (putA F x ()))) (Q.map St)
    have ha := app_2 P (.dic (encM (putA F x ()))) (Q.map St) (St x) (by rw [List.length_map]; omega)
    have he : stM (putA F x ()) (Q ++ [x]) = [.dic (encM (putA F x ())), .lst (Q.map St ++ [St x])] := by
      unfold stM; rw [List.map_append]; rfl
    rw [he]
    simp only [cmI, e_sif, e_B, e_op2, e_cons, e_nil, e_var, e_c, List.getElem?_cons_zero, List.getElem?_cons_succ, Fm.R.bind_ok, i1, decide_eq_false c, Bool.xor_false, lift_some, Fm.R.oc_ok, if_true, e_seq, e_put]
    rw [hst, p1]
    simp only [Fm.Oc.sq_nx, e_expr, e_meth, e_var, e_cons, e_nil, List.getElem?_cons_zero, List.getElem?_cons_succ, Fm.R.bind_ok, hk, if_true, ha, lift_some, Fm.R.oc_ok]
noncomputable abbrev cmB : MS := (sFor (mIt (mOp2 subG (mVar 0) (mMeth kdLst popG (mVar 3) mNil))) (gN 4) cmI)
theorem comeTo_at (P S : List O) {W : List Tx} {B : Web} {s : Tx} (hB : OutI bgn W B) (few : W.length ≤ 1000) (hs : s ∈ spotsTx W) :
    ∃ F : Marks, pureZ m__law_come_to [.t (.dic (encT rowT (rowF B))), St s] P S = .ok (.t (.dic (encMT F))) S ∧ (keyA F).Nodup ∧ ∀ x, x ∈ keyA F ↔ Rch W s x := by
  suffices h : ∃ (F : Marks) (S' : List O), m__law_come_to [.t (.dic (encT rowT (rowF B))), St s] (P ++ S) [] = .ok (.t (.dic (encMT F))) S' ∧ (keyA F).Nodup ∧ ∀ x, x ∈ keyA F ↔ Rch W s x by
    obtain ⟨F, S', e, q⟩ := h
    exact ⟨F, pureZ_t e, q⟩
  generalize P ++ S = P'
  have spW : ∀ x, x ∈ spotsTx W → ∃ v ∈ W, x = bgn v ∨ x = fin v := fun x hx => spots_mem.mp hx
  obtain ⟨ρ', S', e, F, o5, rfl, rfl, hF⟩ := while_inv (ft := mB (mOp2 (eqVG true) (mVar 3) (mLst mNil))) (fb := cmB) (P := P')
    (fun m ρ S => ∃ (F : Marks) (Q : List Tx) (o5 : Option D), ρ = [some (.t (.dic (encT rowT (rowF B)))), some (St s), some (.ref P'.length), some (.ref (P'.length + 1)), o5] ∧ S = stM F Q ∧ FI W s F Q none (fun _ => False) ∧ m = 2 * gapM W F + Q.length ∧ m ≤ 4001)
    (fun ρ S => ∃ (F : Marks) (o5 : Option D), ρ = [some (.t (.dic (encT rowT (rowF B)))), some (St s), some (.ref P'.length), some (.ref (P'.length + 1)), o5] ∧ S = stM F [] ∧ FI W s F [] none (fun _ => False))
    bigN (2 * gapM W [(s, ())] + 1) [some (.t (.dic (encT rowT (rowF B)))), some (St s), some (.ref P'.length), some (.ref (P'.length + 1)), none] (stM [(s, ())] [s]) (lt_bigN (by
      have h1 : gapM W [(s, ())] ≤ (spotsTx W).length := List.length_filter_le _ _
      have h2 := spots_len W
      omega)) (fun m ρ S ⟨F, Q, o5, hρ, hS, h, hm, hm4⟩ => by
      subst hρ hS
      have ev := eqV_cell (neg := true) (P := P') (S := stM F Q) (at_2 P' (.lst (Q.map St)) (.dic (encM F)))
      have ht : mB (mOp2 (eqVG true) (mVar 3) (mLst mNil)) P' [some (.t (.dic (encT rowT (rowF B)))), some (St s), some (.ref P'.length), some (.ref (P'.length + 1)), o5] (stM F Q) = .ok (!decide (Q = [])) (stM F Q) := by
        simp only [e_B, e_op2, e_var, e_lst, e_nil, List.getElem?_cons_zero, List.getElem?_cons_succ, Fm.R.bind_ok, trees_nil, List.length_nil, szl, Nat.zero_le, if_true, ev, lift_some, Bool.true_xor]
      by_cases c : Q = []
      · rw [decide_eq_true c] at ht
        subst c
        exact .inl ⟨_, ht, F, o5, rfl, rfl, h⟩
      · rw [decide_eq_false c] at ht
        obtain ⟨Q0, x, rfl⟩ : ∃ Q0 x, Q = Q0 ++ [x] := ⟨Q.dropLast, Q.getLast c, (List.dropLast_concat_getLast c).symm⟩
        have hxF : x ∈ keyA F := h.qf x (by simp)
        have hxs : x ∈ spotsTx W := rch_spot (h.rc x hxF) hs
        have row := out_row0 hB (spW x hxs)
        have hmem : ∀ w, w ∈ W.filter (fun v => decide (bgn v = x)) ↔ w ∈ W ∧ bgn w = x := fun w => by rw [List.mem_filter, decide_eq_true_iff]
        generalize (W.filter fun v => decide (bgn v = x)) = L at row hmem
        have hpop := pop_2 P' (.dic (encM F)) Q0 x
        have hkd := kd_2 P' (.dic (encM F)) ((Q0 ++ [x]).map St)
        have hsub := dsub_tree P' (stM F Q0) rowT (rowF B) (rowF_get row)
        obtain ⟨ρ', S', e, F', Q', o5', rfl, rfl, h', hg⟩ := for_inv (g := gN 4) (fb := cmI) (P := P')
          (fun k ρ S => ∃ (F' : Marks) (Q' : List Tx) (o5 : Option D), ρ = [some (.t (.dic (encT rowT (rowF B)))), some (St s), some (.ref P'.length), some (.ref (P'.length + 1)), o5] ∧ S = stM F' Q' ∧ FI W s F' Q' (some x) (fun w => w ∈ L.take k) ∧ 2 * gapM W F' + Q'.length ≤ 2 * gapM W F + Q0.length)
          (L.map fun x => D.t (.str (fin x))) 0 [some (.t (.dic (encT rowT (rowF B)))), some (St s), some (.ref P'.length), some (.ref (P'.length + 1)), o5] (stM F Q0) (fun k d ρ S hk ⟨F', Q', o5, hρ, hS, h', hg⟩ => by
            subst hρ hS
            rw [Nat.zero_add] at h'
            rw [List.getElem?_map] at hk
            cases q : L[k]? with
            | none => rw [q] at hk; cases hk
            | some w =>
              rw [q] at hk
              cases hk
              obtain ⟨wW, we⟩ := (hmem w).mp (List.mem_of_getElem? q)
              have lF := fi_len hs h'
              have lg : gapM W F ≤ (spotsTx W).length := List.length_filter_le _ _
              have ls := spots_len W
              have lQ0 : (Q0 ++ [x]).length = Q0.length + 1 := by rw [List.length_append]; rfl
              have e := cmI_ok P' (d0 := some (.t (.dic (encT rowT (rowF B))))) (d1 := some (St s)) (F := F') (Q := Q') (x := fin w) (by omega) (by omega)
              refine ⟨_, rfl, _, _, .inl e, ?_⟩
              rw [Nat.zero_add]
              by_cases cw : fin w ∈ keyA F'
              · rw [if_pos cw]
                refine ⟨F', Q', _, rfl, rfl, ⟨h'.nd, h'.st, h'.rc, h'.qf, h'.cl, fun v hv hd => ?_⟩, hg⟩
                rcases (take_mem q v).mp hd with hd | rfl
                · exact h'.dn v hv hd
                · exact cw
              · rw [if_neg cw]
                have hxr : Rch W s x := h.rc x hxF
                have hfr : Rch W s (fin w) := .step (by rw [we]; exact hxr) wW
                refine ⟨putA F' (fin w) (), Q' ++ [fin w], _, rfl, rfl, ⟨nodup_put h'.nd _ _, mem_put.mpr (.inl h'.st), fun y hy => ?_, fun y hy => ?_, fun y hy hq => ?_, fun v hv hd => ?_⟩, ?_⟩
                · rcases mem_put.mp hy with hy | rfl
                  · exact h'.rc y hy
                  · exact hfr
                · rcases List.mem_append.mp hy with hy | hy
                  · exact mem_put.mpr (.inl (h'.qf y hy))
                  · exact mem_put.mpr (.inr (List.mem_singleton.mp hy))
                · rcases mem_put.mp hy with hy | rfl
                  · rcases h'.cl y hy (fun hh => hq (List.mem_append_left _ hh)) with r | r
                    · exact .inl r
                    · exact .inr fun v hv hb => mem_put.mpr (.inl (r v hv hb))
                  · exact absurd (List.mem_append_right _ (List.mem_singleton.mpr rfl)) hq
                · rcases (take_mem q v).mp hd with hd | rfl
                  · exact mem_put.mpr (.inl (h'.dn v hv hd))
                  · exact mem_put.mpr (.inr rfl)
                · have := gap_put (rch_spot hfr hs) cw
                  rw [List.length_append, List.length_singleton]
                  omega) ⟨F, Q0, o5, rfl, rfl, ⟨h.nd, h.st, h.rc, fun y hy => h.qf y (List.mem_append_left _ hy), fun y hy hq => by
            by_cases cy : y = x
            · exact .inl (by rw [cy])
            · rcases h.cl y hy (fun hh => (List.mem_append.mp hh).elim hq fun hh => cy (List.mem_singleton.mp hh)) with r | r
              · cases r
              · exact .inr r, fun w _ hd => by simp at hd⟩, Nat.le_refl _⟩
        rw [Nat.zero_add, List.length_map, List.take_length] at h'
        refine .inr ⟨stM F (Q0 ++ [x]), [some (.t (.dic (encT rowT (rowF B)))), some (St s), some (.ref P'.length), some (.ref (P'.length + 1)), o5'], stM F' Q', ht, ?_, 2 * gapM W F' + Q'.length, by rw [List.length_append] at hm; simp at hm; omega, F', Q', o5', rfl, rfl, ⟨h'.nd, h'.st, h'.rc, h'.qf, fun y hy hq => ?_, fun _ _ hd => hd.elim⟩, rfl, by rw [List.length_append] at hm; simp at hm; omega⟩
        · simp only [cmB, e_for, e_it, e_op2, e_var, e_meth, e_nil, List.getElem?_cons_zero, List.getElem?_cons_succ, Fm.R.bind_ok]
          rw [show stM F (Q0 ++ [x]) = [.dic (encM F), .lst ((Q0 ++ [x]).map St)] from rfl, hkd]
          simp only [if_true, hpop, lift_some, Fm.R.bind_ok]
          rw [show ([O.dic (encM F), .lst (Q0.map St)] : List O) = stM F Q0 from rfl, hsub]
          have hitems : itemsOf P' (.t (rowT (L.map fin))) = some (L.map fun x => D.t (.str (fin x))) := by
            rw [show itemsOf P' (.t (rowT (L.map fin))) = some ((L.map fin).map fun x => D.t (.str x)) from items_lst P' (L.map fin), List.map_map]; rfl
          simp only [lift_some, Fm.R.bind_ok, hitems, Fm.R.oc_ok]
          exact e
        · rcases h'.cl y hy hq with r | r
          · cases r
            exact .inr fun w hw hb => h'.dn w hw ((hmem w).mpr ⟨hw, hb⟩)
          · exact .inr r) ⟨[(s, ())], [s], none, rfl, rfl, ⟨by simp [keyA], by simp [keyA], fun y hy => by
        have : y = s := by simpa [keyA] using hy
        rw [this]; exact .refl _, fun y hy => by simpa [keyA] using hy, fun y hy hq => by
        have : y = s := by simpa [keyA] using hy
        exact absurd (by rw [this]; simp) hq, fun _ _ hd => hd.elim⟩, rfl, by
        have h1 : gapM W [(s, ())] ≤ (spotsTx W).length := List.length_filter_le _ _
        have h2 := spots_len W
        show 2 * gapM W [(s, ())] + 1 ≤ 4001
        omega⟩
  have hf : frzD P' (.ref P'.length) (stM F []) = some (.t (.dic (encMT F)), [.dead, .lst []]) := by
    unfold frzD stM
    simp only
    rw [if_pos (Nat.le_refl _), Nat.sub_self, List.getElem?_cons_zero]
    simp only
    rw [show encM F = encD (fun _ => D.t (.bl true)) F from rfl, treesK_enc (fun _ => T.bl true) F]
    rfl
  refine ⟨F, [.dead, .lst []], ?_, hF.nd, fun x => ⟨hF.rc x, fun h => ?_⟩⟩
  · rw [m__law_come_to, e_def]
    show (match b__law_come_to P' [some (.t (.dic (encT rowT (rowF B)))), some (St s), none, none, none] [] with | .rt d S' => Fm.R.ok d S' | .nx _ S' => .ok (.t .non) S' | .ex x _ S' => .ex x S' | _ => .no) = _
    unfold b__law_come_to
    unfold cmB cmI at e
    simp only [e_seq, e_set, e_call, e_cons, e_nil, e_var, e_c, List.getElem?_cons_zero, List.getElem?_cons_succ, Fm.R.bind_ok, nx_ok, Fm.R.oc_ok, List.set, Fm.Oc.sq_nx, e_par2, e_dic1, T.at, e_finDC, e_lstC, List.length_nil, List.length_cons, Nat.add_zero, Nat.zero_add, Nat.reduceAdd, szl, Nat.reduceLeDiff, if_true, List.nil_append, List.cons_append, e_while]
    rw [show ([O.dic [(At.str s, D.t (T.bl true))], O.lst [D.t (T.str s)]] : List O) = stM [(s, ())] [s] from rfl, e]
    simp only [Fm.Oc.sq_nx, e_frz, List.getElem?_cons_zero, List.getElem?_cons_succ, hf, List.set, e_ret, e_var, Fm.R.oc_ok]
  · induction h with
    | refl => exact hF.st
    | step k hw ih =>
      rename_i w
      rcases hF.cl (bgn w) ih (by simp) with r | r
      · cases r
      · exact r w hw rfl
end Lw

set_option maxHeartbeats 4000000
/-! A2: whether windows hang together -/
namespace Lw
open Fm
/-- some texts in a list or a tuple -/
structure Sq (x : T) (V : List Tx) : Prop where
  it : ∀ P : List O, itemsOf P (.t x) = some (V.map fun w => D.t (.str w))
  ln : ∀ P S : List O, lenG [.t x] P S = some (.t (.int (V.length : Nat)), S)
  hd : ∀ (P S : List O) (v : Tx) (r : List Tx), V = v :: r → subG (.t x) (.t (.int 0)) P S = some (St v, S)
  mem : ∀ (neg : Bool) (w : Tx) (P S : List O), inG neg (.t (.str w)) (.t x) P S = some (.t (.bl (neg ^^ decide (w ∈ V))), S)
theorem sq_lst (V : List Tx) : Sq (.lst (V.map T.str)) V where
  it := fun P => items_lst P V
  ln := fun P S => by rw [len_lst, List.length_map]
  hd := fun P S v r e => by
    subst e
    simp [subG, seqIx, L2.atI, L2.ixN]
  mem := fun neg w P S => in_lst neg w V P S
theorem sq_tup (V : List Tx) : Sq (.tup (V.map T.str)) V where
  it := fun P => items_tup P V
  ln := fun P S => by rw [len_tup, List.length_map]
  hd := fun P S v r e => by
    subst e
    simp [subG, seqIx, L2.atI, L2.ixN]
  mem := fun neg w P S => in_tup neg w V P S
/-- windows that hang together -/
def HG (V : List Tx) : Prop := V ≠ [] ∧ Joined V
theorem rev_bgn (w : Tx) : bgn w.reverse = (fin w).reverse := by
  unfold bgn fin
  rw [List.length_reverse, List.take_reverse]
  cases w with
  | nil => rfl
  | cons a r => simp
theorem rev_fin (w : Tx) : fin w.reverse = (bgn w).reverse := by
  unfold bgn fin
  rw [List.drop_reverse]
theorem map_rev2 (V : List Tx) : (V.map List.reverse).map List.reverse = V := by
  rw [List.map_map]
  rw [show (List.reverse ∘ List.reverse : Tx → Tx) = id from funext fun x => List.reverse_reverse x, List.map_id]
theorem rch_rev {V : List Tx} {a b : Tx} (h : Rch V a b) : Rch (V.map List.reverse) b.reverse a.reverse := by
  induction h with
  | refl => exact .refl _
  | @step w h1 hw ih =>
    have := Rch.one (W := V.map List.reverse) (w := w.reverse) (List.mem_map_of_mem hw)
    rw [rev_bgn, rev_fin] at this
    exact this.trans ih
theorem rch_rev' {V : List Tx} {a b : Tx} (h : Rch (V.map List.reverse) a.reverse b.reverse) : Rch V b a := by
  have := rch_rev h
  rwa [map_rev2, List.reverse_reverse, List.reverse_reverse] at this
theorem spots_rev {V : List Tx} {x : Tx} : x ∈ spotsTx (V.map List.reverse) ↔ x.reverse ∈ spotsTx V := by
  rw [spots_mem, spots_mem]
  constructor
  · rintro ⟨w, hw, e⟩
    obtain ⟨v, hv, rfl⟩ := List.mem_map.mp hw
    rw [rev_bgn, rev_fin] at e
    refine ⟨v, hv, ?_⟩
    rcases e with e | e
    · exact .inr (by rw [e, List.reverse_reverse])
    · exact .inl (by rw [e, List.reverse_reverse])
  · rintro ⟨v, hv, e⟩
    refine ⟨v.reverse, List.mem_map_of_mem hv, ?_⟩
    rw [rev_bgn, rev_fin]
    rcases e with e | e
    · exact .inr (by rw [← e, List.reverse_reverse])
    · exact .inl (by rw [← e, List.reverse_reverse])
theorem nodup_rev {L : List Tx} (h : L.Nodup) : (L.map List.reverse).Nodup := by
  unfold List.Nodup at *
  rw [List.pairwise_map]
  exact h.imp fun {a b} ne e => ne (by have := congrArg List.reverse e; rwa [List.reverse_reverse, List.reverse_reverse] at this)
theorem spots_rlen (V : List Tx) : (spotsTx (V.map List.reverse)).length = (spotsTx V).length := by
  have h1 := (nodup_rev (spots_nodup (V.map List.reverse))).length_le_of_subset (l₂ := spotsTx V) fun x hx => by
    obtain ⟨y, hy, rfl⟩ := List.mem_map.mp hx
    exact spots_rev.mp hy
  have h2 := (nodup_rev (spots_nodup V)).length_le_of_subset (l₂ := spotsTx (V.map List.reverse)) fun x hx => by
    obtain ⟨y, hy, rfl⟩ := List.mem_map.mp hx
    exact spots_rev.mpr (by rw [List.reverse_reverse]; exact hy)
  rw [List.length_map] at h1 h2
  omega
theorem web_len {V : List Tx} {B : Web} (h : OutI bgn V B) : B.length = (spotsTx V).length := by
  have m : ∀ x, x ∈ keyA B ↔ x ∈ spotsTx V := fun x => by
    rw [getA_key, h.2 x, spots_mem]
    constructor
    · rintro ⟨v, e⟩
      by_cases c : ∃ v ∈ V, x = bgn v ∨ x = fin v
      · exact c
      · rw [if_neg c] at e; cases e
    · intro c; exact ⟨_, if_pos c⟩
  rw [← len_keyA]
  exact Nat.le_antisymm (h.1.length_le_of_subset fun x hx => (m x).mp hx) ((spots_nodup V).length_le_of_subset fun x hx => (m x).mpr hx)
theorem chain_eq (P S : List O) (ρ : En) {fa fb fc : ME} {a b c : Nat} (ha : fa P ρ S = .ok (.t (.int (a : Nat))) S) (hb : fb P ρ S = .ok (.t (.int (b : Nat))) S) (hc : fc P ρ S = .ok (.t (.int (c : Nat))) S) : mChain (lT2 eqT) (lT2 eqT) fa fb fc P ρ S = .ok (.t (.bl (decide (a = b ∧ b = c)))) S := by
  rw [e_chain, ha, Fm.R.bind_ok, hb, Fm.R.bind_ok, lT2_t, Fm.eqT_int]
  show (match some (decide ((a : Int) = (b : Nat))) with | some true => (fc P ρ S).bind fun u S4 => lift (lT2 eqT (D.t (.int (b : Nat))) u P S4) | some false => Fm.R.ok (D.t (.bl false)) S | none => .no) = _
  by_cases e : a = b
  · rw [decide_eq_true (by omega)]
    show (fc P ρ S).bind _ = _
    rw [hc, Fm.R.bind_ok, lT2_t, Fm.eqT_int]
    show Fm.R.ok (D.t (T.bl (decide ((b : Int) = (c : Nat))))) S = _
    congr 3; exact decide_eq_decide.mpr (by omega)
  · rw [decide_eq_false (by omega), decide_eq_false (by omega)]
open Classical in
theorem hangs_at (P S : List O) {x : T} {V : List Tx} (q : Sq x V) (few : V.length ≤ 1000) : pureZ m__law_hangs [.t x] P S = .ok (.t (.bl (decide (HG V)))) S := by
  refine pureZ_t (S' := []) ?_
  generalize P ++ S = P'
  rw [m__law_hangs]
  refine def_rt ?_
  show b__law_hangs P' [some (.t x), none, none, none, none] [] = _
  unfold b__law_hangs
  have c0 : mB (mOp2 (lT2 eqT) (mCallB lenG (mCons (mVar 0) mNil)) (mC (.int 0))) P' [some (.t x), none, none, none, none] [] = .ok (decide (((V.length : Nat) : Int) = 0)) [] :=
    x_Bt (x_T2 (S1 := []) (x_B (ds := [.t x]) (x_cons rfl rfl) (q.ln P' [])) rfl (Fm.eqT_int ..))
  cases hV : V with
  | nil =>
    rw [hV] at c0
    rw [decide_eq_false (fun h => h.1 rfl)]
    exact seq_rt (if_nx (b := true) c0 (ret_ok rfl))
  | cons v r =>
    rw [← hV]
    have vV : v ∈ V := by rw [hV]; exact List.mem_cons_self
    have ne : V ≠ [] := by rw [hV]; exact List.cons_ne_nil _ _
    rw [decide_eq_false (by rw [hV, List.length_cons]; omega)] at c0
    obtain ⟨B, eB, hB⟩ := waysOut_at P' [] q.it few
    obtain ⟨B', eB', hB'⟩ := waysOut_at P' [] (sq_lst (V.map List.reverse)).it (by rw [List.length_map]; exact few)
    have el := lc_all (g := gN 3) (fe := mRev (mVar 3)) (P := P') (S := []) (ρ := [some (.t x), none, none, none, none]) (fun w : Tx => D.t (.str w)) (fun w : Tx => T.str w.reverse) V (fun w _ => ⟨_, rfl, by rw [e_rev]; rfl⟩)
    have e2 : mLcG finT (mIt (mVar 0)) (gN 3) [3] mYes (mRev (mVar 3)) P' [some (.t x), none, none, none, none] [] = .ok (.t (.lst ((V.map List.reverse).map T.str))) [] :=
      x_lc (ts := (V.map List.reverse).map T.str) (x_It rfl (q.it P')) (el.trans (by rw [List.map_map, List.map_map]; rfl))
    have sp : fin v ∈ spotsTx V := spots_fin vV
    have sp' : (fin v).reverse ∈ spotsTx (V.map List.reverse) := spots_rev.mpr (by rw [List.reverse_reverse]; exact sp)
    obtain ⟨F, eF, nF, hF⟩ := comeTo_at P' [] hB few sp
    obtain ⟨F', eF', nF', hF'⟩ := comeTo_at P' [] hB' (by rw [List.length_map]; exact few) sp'
    have lF := grown_all0 nF hF sp
    have lF' := grown_all0 nF' hF' sp'
    rw [len_keyA] at lF lF'
    rw [spots_rlen] at lF'
    refine seq_nx' (if_nx (b := false) c0 rfl) ?_
    refine seq_nx' (ρ' := [some (.t x), some (.t (.dic (encT rowT (rowF B)))), some (.t (.dic (encT rowT (rowF B')))), none, none]) (S' := []) (x_par2 (x_cons (x_call (ds := [.t x]) (x_cons rfl rfl) eB) (x_cons (x_call (ds := [.t (.lst ((V.map List.reverse).map T.str))]) (x_cons e2 rfl) eB') rfl))) ?_
    have e4 : sSet 4 (mSl (mOp2 subG (mVar 0) (mC (.int 0))) (some (mC (.int 1))) none) P' [some (.t x), some (.t (.dic (encT rowT (rowF B)))), some (.t (.dic (encT rowT (rowF B')))), none, none] [] = .nx [some (.t x), some (.t (.dic (encT rowT (rowF B)))), some (.t (.dic (encT rowT (rowF B')))), none, some (St (fin v))] [] := by
      have := slFrom_ok (fo := mOp2 subG (mVar 0) (mC (.int 0))) (fl := mC (.int 1)) (P := P') (ρ := [some (.t x), some (.t (.dic (encT rowT (rowF B)))), some (.t (.dic (encT rowT (rowF B')))), none, none]) (S := []) (S1 := []) (S3 := []) (s := v) (i := 1) (x_op2 rfl rfl (q.hd P' [] v r hV)) rfl
      rw [cut_fin] at this
      exact set_ok this
    refine seq_nx' e4 (ret_ok ?_)
    have g1 := x_B (P := P') (ρ := [some (.t x), some (.t (.dic (encT rowT (rowF B)))), some (.t (.dic (encT rowT (rowF B')))), none, some (St (fin v))]) (S := []) (S1 := []) (fs := mCons (mCall (pureZ m__law_come_to) (mCons (mVar 1) (mCons (mVar 4) mNil))) mNil) (ds := [.t (.dic (encMT F))]) (x_cons (x_call (ds := [.t (.dic (encT rowT (rowF B))), St (fin v)]) (x_cons rfl (x_cons rfl rfl)) eF) rfl) (len_dic _ P' [])
    have g2 := x_B (P := P') (ρ := [some (.t x), some (.t (.dic (encT rowT (rowF B)))), some (.t (.dic (encT rowT (rowF B')))), none, some (St (fin v))]) (S := []) (S1 := []) (fs := mCons (mVar 1) mNil) (ds := [.t (.dic (encT rowT (rowF B)))]) (x_cons rfl rfl) (len_dic _ P' [])
    have g3 := x_B (P := P') (ρ := [some (.t x), some (.t (.dic (encT rowT (rowF B)))), some (.t (.dic (encT rowT (rowF B')))), none, some (St (fin v))]) (S := []) (S1 := []) (fs := mCons (mCall (pureZ m__law_come_to) (mCons (mVar 2) (mCons (mRev (mVar 4)) mNil))) mNil) (ds := [.t (.dic (encMT F'))]) (x_cons (x_call (ds := [.t (.dic (encT rowT (rowF B'))), St (fin v).reverse]) (x_cons rfl (x_cons (by rw [e_rev]; rfl) rfl)) eF') rfl) (len_dic _ P' [])
    have n1 : (encMT F).length = F.length := len_encT _ F
    have n2 : (encT rowT (rowF B)).length = (spotsTx V).length := by rw [len_encT, rowF_len, web_len hB]
    have n3 : (encMT F').length = F'.length := len_encT _ F'
    rw [n1] at g1
    rw [n2] at g2
    rw [n3] at g3
    refine (chain_eq P' [] _ g1 g2 g3).trans ?_
    congr 3
    refine decide_eq_decide.mpr ?_
    constructor
    · rintro ⟨h1, h2⟩
      refine ⟨ne, fun a ha b hb => ?_⟩
      have f1 := lF.mp h1 b hb
      have f2 := lF'.mp h2.symm a.reverse (spots_rev.mpr (by rw [List.reverse_reverse]; exact ha))
      exact (rch_rev' f2).trans f1
    · rintro ⟨_, hj⟩
      refine ⟨lF.mpr fun b hb => hj _ sp b hb, (lF'.mpr fun b hb => ?_).symm⟩
      have := rch_rev (hj _ (spots_rev.mp hb) _ sp)
      rwa [List.reverse_reverse] at this
/-- the windows but some -/
def wo (V L : List Tx) : List Tx := V.filter fun w => !decide (w ∈ L)
theorem without_at (P S : List O) {x y : T} {V L : List Tx} (q : Sq x V) (u : Sq y L) (few : V.length ≤ 16777216) : pureZ m__law_without [.t x, .t y] P S = .ok (.t (.lst ((wo V L).map T.str))) S := by
  refine pureZ_t (S' := []) ?_
  generalize P ++ S = P'
  rw [m__law_without]
  refine def_rt ?_
  show b__law_without P' [some (.t x), some (.t y), none] [] = _
  unfold b__law_without
  have el := lc_filter (g := gN 2) (ft := mB (mOp2 (inG true) (mVar 2) (mVar 1))) (fe := mVar 2) (P := P') (S := []) (ρ := [some (.t x), some (.t y), none]) (fun w : Tx => D.t (.str w)) (fun w => !decide (w ∈ L)) (fun w : Tx => D.t (.str w)) V (fun w _ => ⟨_, rfl, by
    have := x_Bt (P := P') (ρ := [some (.t x), some (.t y), some (St w)]) (S := []) (S1 := []) (f := mOp2 (inG true) (mVar 2) (mVar 1)) (x_op2 (S1 := []) (S2 := []) rfl rfl (u.mem true w P' []))
    rw [Bool.true_xor] at this
    exact this, fun _ => rfl⟩)
  refine ret_ok (x_lc (ts := (wo V L).map T.str) (x_It rfl (q.it P')) ?_)
  rw [List.map_map]
  exact el
end Lw

set_option maxHeartbeats 4000000
/-! Aa: small rules: what can be told, cells -/
namespace Lw
open Fm
/-- data of little depth and size, whose text can be told -/
structure Tel (n b : Nat) (t : T) : Prop where
  dat : Dat n t
  ok : t.okc = true
  bk : t.bk ≤ b
theorem Tel.tells {n b : Nat} {t : T} (h : Tel n b t) (hn : n ≤ 40) (hb : b ≤ 33000) : t.tells = true := T.tells_of h.dat.1 (h.dat.low hn) h.ok (Nat.le_trans h.bk hb)
theorem Tel.mono {n m b c : Nat} {t : T} (h : Tel n b t) (hn : n ≤ m) (hb : b ≤ c) : Tel m c t := ⟨h.dat.mono hn, h.ok, Nat.le_trans h.bk hb⟩
theorem tel_int {n : Nat} {i : Int} (hn : 1 ≤ n) (h : i.natAbs < 10 ^ 500) : Tel n 0 (.int i) := ⟨dat_int i hn, decide_eq_true h, Nat.le_refl _⟩
theorem tel_nat {n i : Nat} (hn : 1 ≤ n) (h : i < 10 ^ 6) : Tel n 0 (.int (i : Nat)) := tel_int hn (Nat.lt_of_lt_of_le (show (i : Int).natAbs < 10 ^ 6 by omega) (Nat.pow_le_pow_right (by decide) (by decide)))
theorem tel_bl {n : Nat} (b : Bool) (hn : 1 ≤ n) : Tel n 0 (.bl b) := ⟨dat_bl b hn, rfl, Nat.le_refl _⟩
theorem tel_str {n b : Nat} {s : Tx} (hn : 1 ≤ n) (hs : Small s) (hb : s.length ≤ b) : Tel n b (.str s) := ⟨dat_str s hn, List.all_eq_true.mpr fun c hc => decide_eq_true (by have := hs c hc; omega), hb⟩
theorem okcs_iff : ∀ l : List T, T.okcs l = true ↔ ∀ x ∈ l, x.okc = true
  | [] => by simp [T.okcs]
  | x :: l => by
    rw [T.okcs, Bool.and_eq_true, okcs_iff l]
    simp
theorem bks_le {b : Nat} : ∀ {l : List T}, (∀ x ∈ l, x.bk ≤ b) → T.bks l ≤ l.length * (b + 1)
  | [], _ => by simp [T.bks]
  | x :: l, h => by
    have h1 := h x List.mem_cons_self
    have h2 := bks_le (l := l) fun y hy => h y (List.mem_cons_of_mem _ hy)
    rw [T.bks, List.length_cons, Nat.succ_mul]
    omega
theorem tel_lst {n b c : Nat} {l : List T} (h : ∀ x ∈ l, Tel n b x) (hc : l.length * (b + 1) ≤ c) : Tel (n + 1) c (.lst l) :=
  ⟨dat_lst fun x hx => (h x hx).dat, by rw [T.okc, okcs_iff]; exact fun x hx => (h x hx).ok, by rw [T.bk]; exact Nat.le_trans (bks_le fun x hx => (h x hx).bk) hc⟩
theorem tel_tup {n b c : Nat} {l : List T} (h : ∀ x ∈ l, Tel n b x) (hc : l.length * (b + 1) ≤ c) : Tel (n + 1) c (.tup l) :=
  ⟨dat_tup fun x hx => (h x hx).dat, by rw [T.okc, okcs_iff]; exact fun x hx => (h x hx).ok, by rw [T.bk]; exact Nat.le_trans (bks_le fun x hx => (h x hx).bk) hc⟩
/-! ### cells by their places -/
section
variable {P S : List O} {j : Nat}
theorem gc_at {o : O} (h : S[j]? = some o) : (P ++ S)[P.length + j]? = some o := by
  rw [List.getElem?_append_right (by omega), Nat.add_sub_cancel_left]; exact h
theorem gc_cell {l : List D} (h : S[j]? = some (.lst l)) : cellL P S (.ref (P.length + j)) = some (j, l) := by
  unfold cellL
  simp only
  rw [if_pos (by omega), Nat.add_sub_cancel_left, h]
theorem gc_kd {l : List D} (h : S[j]? = some (.lst l)) : kdLst (.ref (P.length + j)) P S = true := by
  unfold kdLst
  simp only [gc_at (P := P) h]
theorem gc_app {l : List D} (h : S[j]? = some (.lst l)) (x : D) (hl : l.length ≤ 10 ^ 6) : appendG (.ref (P.length + j)) [x] P S = some (.t .non, S.set j (.lst (l ++ [x]))) := by
  unfold appendG
  rw [gc_cell h]
  simp only
  rw [if_pos (by rw [szl]; omega)]
theorem gc_frz {ts : List T} (h : S[j]? = some (.lst (ts.map D.t))) : frzD P (.ref (P.length + j)) S = some (.t (.lst ts), S.set j .dead) := by
  unfold frzD
  simp only
  rw [if_pos (by omega), Nat.add_sub_cancel_left, h]
  simp only [trees_map]; rfl
end
theorem pureZ_ref {g : MF} {ds : List D} {P S : List O} {l : List T} (h : g ds (P ++ S) [] = .ok (.ref (P ++ S).length) [.lst (l.map D.t)]) : pureZ g ds P S = .ok (.t (.lst l)) S := by
  have e := gc_frz (P := P ++ S) (S := [O.lst (l.map D.t)]) (j := 0) (ts := l) rfl
  rw [Nat.add_zero] at e
  unfold pureZ
  rw [h]
  simp only [e]
section
variable {z : Nat} {W Q : List Tx}
end
end Lw

set_option maxHeartbeats 4000000
/-! A3: what may go, what is needed -/
namespace Lw
open Fm
section
variable {z : Nat} {W L : List Tx}
theorem ne_nilU (l : List Tx) : neT (.tup (l.map T.str)) (.tup []) = some (.bl (!decide (l = []))) := by
  have hd : Dat 2 (.tup (l.map T.str)) := dat_tup (dat_strs (by omega))
  unfold neT
  rw [if_pos (by rw [hd.1, hd.low (by omega)]; rfl)]
  cases l <;> rfl
theorem wo_mem {V L : List Tx} {x : Tx} : x ∈ wo V L ↔ x ∈ V ∧ x ∉ L := by
  unfold wo
  rw [List.mem_filter]
  simp
theorem wo_len (V L : List Tx) : (wo V L).length ≤ V.length := List.length_filter_le _ _
theorem bookwithout_at (P S : List O) {y : T} (u : Sq y L) : pureZ m_book_without [.t (bookT z W), .t y] P S = .ok (.t (bookT z (wo W L))) S := by
  refine pureZ_t (S' := []) ?_
  generalize P ++ S = P'
  rw [m_book_without]
  refine def_rt ?_
  show b_book_without P' [some (.t (bookT z W)), some (.t y), none] [] = _
  unfold b_book_without
  have el := lc_filter (g := gN 2) (ft := mB (mOp2 (inG true) (mVar 2) (mVar 1))) (fe := mVar 2) (P := P') (S := []) (ρ := [some (.t (bookT z W)), some (.t y), none]) (fun w : Tx => D.t (.str w)) (fun w => !decide (w ∈ L)) (fun w : Tx => D.t (.str w)) W (fun w _ => ⟨_, rfl, by
    have := x_Bt (P := P') (ρ := [some (.t (bookT z W)), some (.t y), some (St w)]) (S := []) (S1 := []) (f := mOp2 (inG true) (mVar 2) (mVar 1)) (x_op2 (S1 := []) (S2 := []) rfl rfl (u.mem true w P' []))
    rw [Bool.true_xor] at this
    exact this, fun _ => rfl⟩)
  have e1 : mLcG finT (mIt (mOp2 subG (mVar 0) (mC (.int 1)))) (gN 2) [2] (mB (mOp2 (inG true) (mVar 2) (mVar 1))) (mVar 2) P' [some (.t (bookT z W)), some (.t y), none] [] = .ok (.t (.lst ((wo W L).map T.str))) [] :=
    x_lc (ts := (wo W L).map T.str) (x_It (x_op2 rfl rfl (bk1 P' [] z W)) (items_tup P' W)) (by rw [List.map_map]; exact el)
  exact ret_ok (x_tup (ts := [.int z, .tup ((wo W L).map T.str)]) (x_cons (x_op2 (S1 := []) rfl rfl (bk0 P' [] z W)) (x_cons (x_B1 (x := .lst ((wo W L).map T.str)) e1 rfl) rfl)) (by simp))
open Classical in
theorem cango_at (P S : List O) {y : T} (u : Sq y L) (few : W.length ≤ 1000) : pureZ m_can_go [.t (bookT z W), .t y] P S = .ok (.t (.bl (decide (HG (wo W L))))) S := by
  refine pureZ_t (S' := []) ?_
  generalize P ++ S = P'
  have e1 := bookwithout_at P' [] (z := z) (W := W) u
  obtain ⟨V, hV⟩ : ∃ V, V = wo W L := ⟨_, rfl⟩
  have fV : V.length ≤ 1000 := by rw [hV]; exact Nat.le_trans (wo_len W L) few
  rw [← hV] at e1 ⊢
  rw [m_can_go]
  refine def_rt ?_
  show b_can_go P' [some (.t (bookT z W)), some (.t y), none] [] = _
  unfold b_can_go
  refine seq_nx' (set_ok (x_call (ds := [.t (bookT z W), .t y]) (x_cons rfl (x_cons rfl rfl)) e1)) (ret_ok ?_)
  have f1 : mOp2 (lT2 neT) (mOp2 subG (mVar 2) (mC (.int 1))) (mTup mNil) P' [some (.t (bookT z W)), some (.t y), some (.t (bookT z V))] [] = .ok (.t (.bl (!decide (V = [])))) [] :=
    x_T2 (S1 := []) (x_op2 rfl rfl (bk1 P' [] z V)) (x_tup (ts := []) rfl (by simp)) (ne_nilU V)
  obtain ⟨r, er, hr⟩ := aclosedlot_at P' [] (z := z) (W := V) fV
  have f2 : ∀ b : Bool, isNoneG false (.t r) (.t .non) P' [] = some (.t (.bl b), []) → mOp2 (isNoneG false) (mCall (pureZ m_a_closed_lot) (mCons (mVar 2) mNil)) (mC .non) P' [some (.t (bookT z W)), some (.t y), some (.t (bookT z V))] [] = .ok (.t (.bl b)) [] := fun b hb =>
    x_op2 (x_call (ds := [.t (bookT z V)]) (x_cons rfl rfl) er) rfl hb
  by_cases c : V = []
  · rw [decide_eq_true c] at f1
    rw [decide_eq_false (fun h => h.1 c)]
    exact x_and0 f1
  · rw [decide_eq_false c] at f1
    rcases hr with ⟨hj, rfl⟩ | ⟨hj, U, _, rfl⟩
    · rw [decide_eq_true ⟨c, hj⟩]
      exact x_and1 f1 (f2 true rfl)
    · rw [decide_eq_false (fun h => hj h.2)]
      exact x_and1 f1 (f2 false rfl)
theorem wins_subl {V : List Tx} (w : Wins z W) (h : V.Sublist W) (ne : V ≠ []) : Wins z V := ⟨w.asc.sublist h, fun x hx => w.len x (h.subset hx), fun x hx => w.sm x (h.subset hx), ne, Nat.le_trans h.length_le w.few⟩
theorem arewins (P S : List O) {V : List Tx} (w : Wins z W) (h : V.Sublist W) : pureZ m_are_windows [.t (.int z), .t (.tup (V.map T.str))] P S = .ok (.t (.bl true)) S := by
  by_cases c : V = []
  · subst c
    refine pureZ_t (S' := []) ?_
    generalize P ++ S = P'
    have ha : pureZ m_are_ascending [.t (.tup [])] P' [] = .ok (.t (.bl true)) [] := by
      refine pureZ_t (S' := []) ?_
      rw [m_are_ascending]
      refine def_rt ?_
      show b_are_ascending (P' ++ []) [some (.t (.tup [])), none] [] = _
      unfold b_are_ascending
      exact ret_ok (x_B1 (x := .lst []) (x_lc (ts := []) (ds := []) (S1 := []) (x_I (ds := [.t (.int (-1))]) (x_cons (x_T2 (S1 := []) (x := .int 0) (y := .int 1) (x_B (ds := [.t (.tup [])]) (x_cons rfl rfl) rfl) rfl (show subT (.int 0) (.int 1) = some (.int (-1)) from by rw [subT_int]; rfl)) rfl) (rng1_ok ⟨by omega, by omega⟩)) rfl) rfl)
    have hi : isiG [.t (.tup []), .t (.ty "tuple")] P' [] = some (.t (.bl true), []) := by rw [isi_tree, if_pos (by rfl)]; rfl
    rw [m_are_windows]
    refine def_rt ?_
    show b_are_windows P' [some (.t (.int z)), some (.t (.tup [])), none] [] = _
    unfold b_are_windows
    exact seq_nx' (if_nx (b := false) (x_orT0 (x_notT (b := true) (x_Tt (x_B (ds := [.t (.tup []), .t (.ty "tuple")]) (x_cons rfl (x_cons rfl rfl)) hi))) (x_notT (b := true) (x_Tt (x_B1 (x := .lst []) (x_lc (ts := []) (ds := []) (S1 := []) (x_It rfl rfl) rfl) rfl)))) rfl) (ret_ok (x_call (ds := [.t (.tup [])]) (x_cons rfl rfl) ha))
  · exact arewindows P S (wins_subl w h c)
theorem all_true {α : Type} (l : List α) : allT [.lst (l.map fun _ => T.bl true)] = some (.bl true) := by
  have eb := bls_mapf (fun _ : α => true) l
  simp [allT, eb]
theorem maygo_ok (P' : List O) (w : Wins z W) (hz : 2 ≤ z ∧ z ≤ 6) (few : W.length ≤ 1000) (sub : L.Sublist W) (ll : L.length < W.length) {d : D} (hd : pureZ m_can_go [.t (bookT z W), .t (.tup (L.map T.str))] P' [] = .ok d []) : m_may_go [.t (bookT z W), .t (.tup (L.map T.str))] P' [] = .ok d [] := by
  have nb : pureZ m_need_book [.t (bookT z W)] P' [] = .ok (.t .non) [] := needbook P' [] w hz
  have ew := arewins P' [] w sub
  have u := sq_tup L
  rw [m_may_go]
  refine def_rt ?_
  show b_may_go P' [some (.t (bookT z W)), some (.t (.tup (L.map T.str))), none] [] = _
  unfold b_may_go
  refine seq_nx' (x_expr (x_callXZ (ds := [.t (bookT z W)]) (x_cons rfl rfl) nb)) ?_
  have el := lc_all (g := gN 2) (fe := mOp2 (inG false) (mVar 2) (mOp2 subG (mVar 0) (mC (.int 1)))) (P := P') (S := []) (ρ := [some (.t (bookT z W)), some (.t (.tup (L.map T.str))), none]) (fun x : Tx => D.t (.str x)) (fun _ => T.bl true) L (fun x hx => ⟨_, rfl, by
    have := x_op2 (P := P') (ρ := [some (.t (bookT z W)), some (.t (.tup (L.map T.str))), some (St x)]) (S := []) (S1 := []) (S2 := []) (fa := mVar 2) (fb := mOp2 subG (mVar 0) (mC (.int 1))) rfl (x_op2 rfl rfl (bk1 P' [] z W)) ((sq_tup W).mem false x P' [])
    rw [Bool.false_xor, decide_eq_true (sub.subset hx)] at this
    exact this⟩)
  have c1 : mNotT (mT (mCall (pureZ m_are_windows) (mCons (mOp2 subG (mVar 0) (mC (.int 0))) (mCons (mVar 1) mNil)))) P' [some (.t (bookT z W)), some (.t (.tup (L.map T.str))), none] [] = .ok false [] :=
    x_notT (b := true) (x_Tt (x_call (ds := [.t (.int z), .t (.tup (L.map T.str))]) (x_cons (x_op2 (S1 := []) rfl rfl (bk0 P' [] z W)) (x_cons rfl rfl)) ew))
  have c2 : mNotT (mT (mCallB (lTL allT) (mCons (mLcG finT (mIt (mVar 1)) (gN 2) [2] mYes (mOp2 (inG false) (mVar 2) (mOp2 subG (mVar 0) (mC (.int 1))))) mNil))) P' [some (.t (bookT z W)), some (.t (.tup (L.map T.str))), none] [] = .ok false [] :=
    x_notT (b := true) (x_Tt (x_B1 (x := .lst (L.map fun _ => T.bl true)) (x_lc (ts := L.map fun _ => T.bl true) (x_It rfl (u.it P')) (el.trans (by rw [List.map_map]; rfl))) (all_true L)))
  have c3 : mB (mOp2 (lT2 eqT) (mCallB lenG (mCons (mVar 1) mNil)) (mCallB lenG (mCons (mOp2 subG (mVar 0) (mC (.int 1))) mNil))) P' [some (.t (bookT z W)), some (.t (.tup (L.map T.str))), none] [] = .ok false [] := by
    have := x_Bt (P := P') (ρ := [some (.t (bookT z W)), some (.t (.tup (L.map T.str))), none]) (S := []) (x_T2 (S1 := []) (S2 := []) (fa := mCallB lenG (mCons (mVar 1) mNil)) (fb := mCallB lenG (mCons (mOp2 subG (mVar 0) (mC (.int 1))) mNil)) (x_B (ds := [.t (.tup (L.map T.str))]) (x_cons rfl rfl) (u.ln P' [])) (x_B (x_cons (x_op2 rfl rfl (bk1 P' [] z W)) rfl) ((sq_tup W).ln P' [])) (Fm.eqT_int ..))
    rw [decide_eq_false (by omega)] at this
    exact this
  refine seq_nx' (if_nx (b := false) (x_orT0 c1 c2) rfl) (seq_nx' (if_nx (b := false) c3 rfl) (ret_ok ?_))
  exact x_call (ds := [.t (bookT z W), .t (.tup (L.map T.str))]) (x_cons rfl (x_cons rfl rfl)) hd
open Classical in
theorem maygo_at (P S : List O) (w : Wins z W) (hz : 2 ≤ z ∧ z ≤ 6) (few : W.length ≤ 1000) (sub : L.Sublist W) (ll : L.length < W.length) : pureZ m_may_go [.t (bookT z W), .t (.tup (L.map T.str))] P S = .ok (.t (.bl (decide (HG (wo W L))))) S :=
  pureZ_t (S' := []) (maygo_ok (P ++ S) w hz few sub ll (cango_at (P ++ S) [] (sq_tup L) few))
/-! some ring -/
noncomputable abbrev xN (z : Nat) (W : List Tx) (e : En) : Xv := ⟨"NoRing", bookT z W, e⟩
theorem nsr_ok (P S : List O) (w : Wins z W) (hz : 2 ≤ z ∧ z ≤ 6) (few : W.length ≤ 1000) (hj : Joined W) : pureX m_need_some_ring [.t (bookT z W)] P S = .ok (.t .non) S := by
  refine pureX_of (pureZ_t (S' := []) ?_)
  generalize P ++ S = P'
  have nb : pureZ m_need_book [.t (bookT z W)] P' [] = .ok (.t .non) [] := needbook P' [] w hz
  obtain ⟨r, e, h⟩ := aclosedlot_at P' [] (z := z) (W := W) few
  rcases h with ⟨_, rfl⟩ | ⟨q, _⟩
  · rw [m_need_some_ring]
    refine defX_nx (ρ' := [some (.t (bookT z W))]) ?_
    show b_need_some_ring P' [some (.t (bookT z W))] [] = _
    unfold b_need_some_ring
    have hn : isNoneG true (.t .non) (.t .non) P' [] = some (.t (.bl false), []) := rfl
    exact seq_nx' (x_expr (x_callXZ (ds := [.t (bookT z W)]) (x_cons rfl rfl) nb)) (if_nx (b := false) (x_Bt (x_op2 (x := .t .non) (y := .t .non) (x_call (ds := [.t (bookT z W)]) (x_cons rfl rfl) e) rfl hn)) rfl)
  · exact absurd hj q
theorem nsr_ex (P S : List O) (w : Wins z W) (hz : 2 ≤ z ∧ z ≤ 6) (few : W.length ≤ 1000) (hj : ¬ Joined W) : ∃ e, pureX m_need_some_ring [.t (bookT z W)] P S = .ex (xN z W e) S := by
  have nb : pureZ m_need_book [.t (bookT z W)] (P ++ S) [] = .ok (.t .non) [] := needbook (P ++ S) [] w hz
  obtain ⟨r, e, h⟩ := aclosedlot_at (P ++ S) [] (z := z) (W := W) few
  rcases h with ⟨q, _⟩ | ⟨_, V, _, rfl⟩
  · exact absurd q hj
  · refine ⟨[some (.t (bookT z W))], pureX_ex (S' := []) ?_⟩
    rw [m_need_some_ring]
    refine def_ex (ρ' := [some (.t (bookT z W))]) ?_
    show b_need_some_ring (P ++ S) [some (.t (bookT z W))] [] = _
    unfold b_need_some_ring
    have hn : isNoneG true (.t (.tup (V.map T.str))) (.t .non) (P ++ S) [] = some (.t (.bl true), []) := rfl
    exact seq_nx' (x_expr (x_callXZ (ds := [.t (bookT z W)]) (x_cons rfl rfl) nb)) (if_nx (b := true) (x_Bt (x_op2 (y := .t .non) (x_call (ds := [.t (bookT z W)]) (x_cons rfl rfl) e) rfl hn)) (raise_ex rfl))
/-! what is needed -/
open Classical in
noncomputable def ndL (W : List Tx) : List Tx := W.filter fun w => !decide (HG (wo W [w]))
theorem needed_c (P' : List O) (w : Wins z W) (hz : 2 ≤ z ∧ z ≤ 6) (few : W.length ≤ 1000) (hj : Joined W) : m_needed [.t (bookT z W)] P' [] = .ok (.ref P'.length) [.lst (((ndL W).map T.str).map D.t)] := by
  classical
  rw [m_needed]
  refine def_rt ?_
  show b_needed P' [some (.t (bookT z W)), none] [] = _
  unfold b_needed
  refine seq_nx' (x_expr (x_callX (ds := [.t (bookT z W)]) (x_cons rfl rfl) (nsr_ok P' [] w hz few hj))) (ret_ok ?_)
  have el := lc_filter (g := gN 1) (ft := mNotT (mT (mCall (pureZ m_can_go) (mCons (mVar 0) (mCons (mTup (mCons (mVar 1) mNil)) mNil))))) (fe := mVar 1) (P := P') (S := []) (ρ := [some (.t (bookT z W)), none]) (fun x : Tx => D.t (.str x)) (fun x => !decide (HG (wo W [x]))) (fun x : Tx => D.t (.str x)) W (fun x _ => ⟨_, rfl, x_notT (x_Tt (x_call (ds := [.t (bookT z W), .t (.tup ([x].map T.str))]) (x_cons rfl (x_cons (x_tup (ts := [.str x]) (x_cons rfl rfl) (by simp)) rfl)) (cango_at P' [] (sq_tup [x]) few))), fun _ => rfl⟩)
  have := x_lcC (P := P') (ρ := [some (.t (bookT z W)), none]) (S := []) (S1 := []) (S2 := []) (vs := [1]) (fi := mIt (mOp2 subG (mVar 0) (mC (.int 1)))) (x_It (x_op2 rfl rfl (bk1 P' [] z W)) (items_tup P' W)) el
  rw [this, List.map_map]; rfl
theorem needed_at (P S : List O) (w : Wins z W) (hz : 2 ≤ z ∧ z ≤ 6) (few : W.length ≤ 1000) (hj : Joined W) : pureZ m_needed [.t (bookT z W)] P S = .ok (.t (rowT (ndL W))) S := pureZ_ref (needed_c (P ++ S) w hz few hj)
theorem needed_new (P S : List O) (w : Wins z W) (hz : 2 ≤ z ∧ z ≤ 6) (few : W.length ≤ 1000) (hj : Joined W) : newF m_needed [.t (bookT z W)] P S = .ok (.ref (P.length + S.length)) (S ++ [.lst (((ndL W).map T.str).map D.t)]) :=
  newF_l (g := m_needed) (ds := [.t (bookT z W)]) (P := P) (S := S) (l := ((ndL W).map T.str).map D.t) (ts := (ndL W).map T.str) (needed_c (P ++ S) w hz few hj) (Nat.le_refl _) (by rw [Nat.sub_self]; rfl) (trees_map _)
theorem needed_ex (P S : List O) (w : Wins z W) (hz : 2 ≤ z ∧ z ≤ 6) (few : W.length ≤ 1000) (hj : ¬ Joined W) : ∃ e, pureX m_needed [.t (bookT z W)] P S = .ex (xN z W e) S := by
  obtain ⟨e, q⟩ := nsr_ex (P ++ S) [] w hz few hj
  refine ⟨[some (.t (bookT z W)), none], pureX_ex (S' := []) ?_⟩
  rw [m_needed]
  refine def_ex (ρ' := [some (.t (bookT z W)), none]) ?_
  show b_needed (P ++ S) [some (.t (bookT z W)), none] [] = _
  unfold b_needed
  exact seq_ex (expr_ex (x_callXe (ds := [.t (bookT z W)]) (x_cons rfl rfl) q))
theorem rest_ex (P S : List O) (w : Wins z W) (hz : 2 ≤ z ∧ z ≤ 6) (few : W.length ≤ 1000) (hj : ¬ Joined W) : ∃ e, pureX m_rest [.t (bookT z W)] P S = .ex (xN z W e) S := by
  obtain ⟨e, q⟩ := nsr_ex (P ++ S) [] w hz few hj
  refine ⟨[some (.t (bookT z W)), none, none], pureX_ex (S' := []) ?_⟩
  rw [m_rest]
  refine def_ex (ρ' := [some (.t (bookT z W)), none, none]) ?_
  show b_rest (P ++ S) [some (.t (bookT z W)), none, none] [] = _
  unfold b_rest
  exact seq_ex (expr_ex (x_callXe (ds := [.t (bookT z W)]) (x_cons rfl rfl) q))
end
end Lw

set_option maxHeartbeats 4000000
/-! A4: the rest: windows that may go together -/
namespace Lw
open Fm
section
variable {z : Nat} {W F L V : List Tx}
theorem asc_nodup {W : List Tx} (h : W.Pairwise (· < ·)) : W.Nodup := h.imp fun h e => by rw [e] at h; exact absurd h (List.lt_irrefl _)
theorem rch_sub (h : ∀ x ∈ V, x ∈ W) {a b : Tx} (r : Rch V a b) : Rch W a b := by
  induction r with
  | refl => exact .refl _
  | step _ hw ih => exact .step ih (h _ hw)
theorem spots_sub (h : ∀ x ∈ V, x ∈ W) {a : Tx} (r : a ∈ spotsTx V) : a ∈ spotsTx W := by
  obtain ⟨w, hw, e⟩ := spots_mem.mp r
  exact spots_mem.mpr ⟨w, h w hw, e⟩
theorem wo_wo (W F L : List Tx) : wo (wo W F) L = wo W (F ++ L) := by
  unfold wo
  rw [List.filter_filter]
  apply List.filter_congr
  intro x _
  simp only [List.mem_append]
  by_cases a : x ∈ F <;> by_cases b : x ∈ L <;> simp [a, b]
theorem wo_nil (W : List Tx) : wo W [] = W := by
  unfold wo
  rw [List.filter_eq_self]
  intro x _
  simp
theorem prev_of (h : Joined V) {u : Tx} (hu : u ∈ V) : ∃ v ∈ V, fin v = bgn u := by
  have key : ∀ {a b : Tx}, Rch V a b → a = b ∨ ∃ v ∈ V, fin v = b := fun r => by
    cases r with
    | refl => exact .inl rfl
    | step _ hw => exact .inr ⟨_, hw, rfl⟩
  rcases key (h _ (spots_fin hu) _ (spots_bgn hu)) with e | e
  · exact ⟨u, hu, e⟩
  · exact e
/-- where the others hang together, too, no place is lost -/
theorem spots_keep {w : Tx} (h : HG V) (k : HG (wo V [w])) {x : Tx} (hx : x ∈ spotsTx V) : x ∈ spotsTx (wo V [w]) := Classical.byContradiction fun c => by
  have only : ∀ u ∈ V, x = bgn u ∨ x = fin u → u = w := fun u hu e => Classical.byContradiction fun ne => c (spots_mem.mpr ⟨u, wo_mem.mpr ⟨hu, by simpa using ne⟩, e⟩)
  obtain ⟨b, hb, eb⟩ : ∃ v ∈ V, bgn v = x := by
    obtain ⟨u, hu, e | e⟩ := spots_mem.mp hx
    · exact ⟨u, hu, e.symm⟩
    · obtain ⟨v, hv, ev⟩ := joined_next h.2 hu
      exact ⟨v, hv, by rw [ev, e]⟩
  obtain ⟨d, hd, ed⟩ : ∃ v ∈ V, fin v = x := by
    obtain ⟨u, hu, e | e⟩ := spots_mem.mp hx
    · obtain ⟨v, hv, ev⟩ := prev_of h.2 hu
      exact ⟨v, hv, by rw [ev, e]⟩
    · exact ⟨u, hu, e.symm⟩
  have ebw := only b hb (.inl eb.symm)
  have edw := only d hd (.inr ed.symm)
  subst ebw
  subst edw
  obtain ⟨u, hu⟩ := List.exists_mem_of_ne_nil _ k.1
  have uV := (wo_mem.mp hu).1
  have stay : ∀ {a y : Tx}, Rch V a y → a = x → y = x := fun r => by
    induction r with
    | refl => exact id
    | @step u' _ hu' ih =>
      intro e
      have := only u' hu' (.inl (ih e).symm)
      rw [this]; exact ed
  have := stay (h.2 x hx _ (spots_bgn uV)) rfl
  exact c (by rw [← this]; exact spots_bgn hu)
theorem hg_more (h : HG (wo W F)) (hs : ∀ x, x ∈ spotsTx W → x ∈ spotsTx (wo W F)) (sub : ∀ x ∈ L, x ∈ F) : HG (wo W L) := by
  have m : ∀ x ∈ wo W F, x ∈ wo W L := fun x hx => wo_mem.mpr ⟨(wo_mem.mp hx).1, fun q => (wo_mem.mp hx).2 (sub x q)⟩
  refine ⟨fun q => ?_, fun a ha b hb => ?_⟩
  · obtain ⟨u, hu⟩ := List.exists_mem_of_ne_nil _ h.1
    have := m u hu
    rw [q] at this; cases this
  · have toW : ∀ x, x ∈ spotsTx (wo W L) → x ∈ spotsTx (wo W F) := fun x hx => hs x (spots_sub (fun y hy => (wo_mem.mp hy).1) hx)
    exact rch_sub m (h.2 a (toW a ha) b (toW b hb))
/-- some that may go together, and beside them no other of those that were asked -/
structure RestI (W A F : List Tx) : Prop where
  sub : F.Sublist A
  hg : HG (wo W F)
  sp : ∀ x, x ∈ spotsTx W → x ∈ spotsTx (wo W F)
  no : ∀ u ∈ A, u ∉ F → ¬ HG (wo W (F ++ [u]))
theorem rest_yes {A : List Tx} {w : Tx} (h : RestI W A F) (k : HG (wo W (F ++ [w]))) : RestI W (A ++ [w]) (F ++ [w]) := by
  have sp : ∀ x, x ∈ spotsTx W → x ∈ spotsTx (wo W (F ++ [w])) := fun x hx => by
    have := spots_keep h.hg (w := w) (by rw [wo_wo]; exact k) (h.sp x hx)
    rwa [wo_wo] at this
  refine ⟨h.sub.append (List.Sublist.refl _), k, sp, fun u hu nu q => ?_⟩
  rcases List.mem_append.mp hu with hu | hu
  · have sp2 : ∀ x, x ∈ spotsTx W → x ∈ spotsTx (wo W (F ++ [w] ++ [u])) := fun x hx => by
      have := spots_keep k (w := u) (by rw [wo_wo]; exact q) (sp x hx)
      rwa [wo_wo] at this
    refine h.no u hu (fun e => nu (List.mem_append_left _ e)) (hg_more q sp2 fun x hx => ?_)
    rcases List.mem_append.mp hx with hx | hx
    · exact List.mem_append_left _ (List.mem_append_left _ hx)
    · exact List.mem_append_right _ hx
  · exact nu (List.mem_append_right _ hu)
theorem rest_no {A : List Tx} {w : Tx} (h : RestI W A F) (k : ¬ HG (wo W (F ++ [w]))) : RestI W (A ++ [w]) F := by
  refine ⟨h.sub.trans (List.sublist_append_left A [w]), h.hg, h.sp, fun u hu nu => ?_⟩
  rcases List.mem_append.mp hu with hu | hu
  · exact h.no u hu nu
  · rw [List.mem_singleton.mp hu]; exact k
noncomputable abbrev rsB : MS := (sIf (mT (mCall (pureZ m_can_go) (mCons (mVar 0) (mCons (mOp2 (lT2 addT) (mVar 1) (mTup (mCons (mVar 2) mNil))) mNil)))) (sSet 1 (mOp2 (lT2 addT) (mVar 1) (mTup (mCons (mVar 2) mNil)))) sNil)
theorem addU {a b : List T} (h : a.length + b.length ≤ 16777216) : addT (.tup a) (.tup b) = some (.tup (a ++ b)) := if_pos h
theorem rest_at (P S : List O) (w : Wins z W) (hz : 2 ≤ z ∧ z ≤ 6) (few : W.length ≤ 1000) (hj : Joined W) : ∃ F, pureZ m_rest [.t (bookT z W)] P S = .ok (.t (.tup (F.map T.str))) S ∧ RestI W W F := by
  classical
  suffices hh : ∀ P' : List O, ∃ F, m_rest [.t (bookT z W)] P' [] = .ok (.t (.tup (F.map T.str))) [] ∧ RestI W W F by
    obtain ⟨F, e, r⟩ := hh (P ++ S)
    exact ⟨F, pureZ_t e, r⟩
  intro P'
  have r0 : RestI W [] [] := ⟨List.Sublist.refl _, by rw [wo_nil]; exact ⟨w.ne, hj⟩, fun x hx => by rw [wo_nil]; exact hx, fun u hu => (nomatch hu)⟩
  obtain ⟨ρ', S', e, F, o2, rfl, rfl, hF⟩ := for_inv (g := gN 2) (fb := rsB) (P := P')
    (fun k ρ S => ∃ (F : List Tx) (o2 : Option D), ρ = [some (.t (bookT z W)), some (.t (.tup (F.map T.str))), o2] ∧ S = [] ∧ RestI W (W.take k) F)
    (W.map fun x => D.t (.str x)) 0 [some (.t (bookT z W)), some (.t (.tup [])), none] [] (fun k d ρ S hk ⟨F, o2, hρ, hS, hF⟩ => by
      subst hρ hS
      rw [Nat.zero_add] at hF ⊢
      rw [List.getElem?_map] at hk
      cases q : W[k]? with
      | none => rw [q] at hk; cases hk
      | some v =>
        rw [q] at hk
        cases hk
        have lF : F.length ≤ W.length := Nat.le_trans hF.sub.length_le (by rw [List.length_take]; omega)
        have ea : ∀ ρ : En, ρ[1]? = some (some (.t (.tup (F.map T.str)))) → ρ[2]? = some (some (St v)) → mOp2 (lT2 addT) (mVar 1) (mTup (mCons (mVar 2) mNil)) P' ρ [] = .ok (.t (.tup ((F ++ [v]).map T.str))) [] := fun ρ h1 h2 => by
          rw [List.map_append]
          exact x_T2 (S1 := []) (by rw [e_var, h1]) (x_tup (ts := [.str v]) (x_cons (by rw [e_var, h2]) rfl) (by simp)) (addU (by rw [List.length_map, List.length_singleton]; omega))
        have ec := cango_at P' [] (z := z) (sq_tup (F ++ [v])) few
        have tk : W.take (k + 1) = W.take k ++ [v] := by rw [List.take_add_one, q]; rfl
        rw [tk]
        refine ⟨[some (.t (bookT z W)), some (.t (.tup (F.map T.str))), some (St v)], rfl, ?_⟩
        have hc : mT (mCall (pureZ m_can_go) (mCons (mVar 0) (mCons (mOp2 (lT2 addT) (mVar 1) (mTup (mCons (mVar 2) mNil))) mNil))) P' [some (.t (bookT z W)), some (.t (.tup (F.map T.str))), some (St v)] [] = .ok (decide (HG (wo W (F ++ [v])))) [] :=
          x_Tt (x_call (ds := [.t (bookT z W), .t (.tup ((F ++ [v]).map T.str))]) (x_cons rfl (x_cons (ea _ rfl rfl) rfl)) ec)
        by_cases c : HG (wo W (F ++ [v]))
        · rw [decide_eq_true c] at hc
          exact ⟨[some (.t (bookT z W)), some (.t (.tup ((F ++ [v]).map T.str))), some (St v)], [], .inl (if_nx (b := true) hc (set_ok (ea _ rfl rfl))), F ++ [v], _, rfl, rfl, rest_yes hF c⟩
        · rw [decide_eq_false c] at hc
          exact ⟨_, [], .inl (if_nx (b := false) hc rfl), F, _, rfl, rfl, rest_no hF c⟩) ⟨[], none, rfl, rfl, r0⟩
  rw [List.length_map, Nat.zero_add, List.take_length] at hF
  refine ⟨F, ?_, hF⟩
  rw [m_rest]
  refine def_rt ?_
  show b_rest P' [some (.t (bookT z W)), none, none] [] = _
  unfold b_rest
  refine seq_nx' (x_expr (x_callX (ds := [.t (bookT z W)]) (x_cons rfl rfl) (nsr_ok P' [] w hz few hj))) ?_
  refine seq_nx' (ρ' := [some (.t (bookT z W)), some (.t (.tup [])), none]) (S' := []) (set_ok (x_tup (ts := []) rfl (by simp))) ?_
  exact seq_nx' (for_ok (x_It (x_op2 rfl rfl (bk1 P' [] z W)) (items_tup P' W)) e) (ret_ok rfl)
theorem filter_sub (nd : W.Nodup) (h : F.Sublist W) : W.filter (fun w => decide (w ∈ F)) = F := by
  induction h with
  | slnil => rfl
  | @cons l1 l2 a h ih =>
    have n2 := List.nodup_cons.mp nd
    rw [List.filter_cons, if_neg (by simpa using fun q => n2.1 (h.subset q))]
    exact ih n2.2
  | @cons_cons l1 l2 a h ih =>
    have n2 := List.nodup_cons.mp nd
    rw [List.filter_cons, if_pos (by simp)]
    congr 1
    rw [show l2.filter (fun w => decide (w ∈ a :: l1)) = l2.filter (fun w => decide (w ∈ l1)) from List.filter_congr fun x hx => by
      have : x ≠ a := fun e => n2.1 (e ▸ hx)
      simp [this]]
    exact ih n2.2
end
end Lw

set_option maxHeartbeats 4000000
/-! A5: the law's judges -/
namespace Lw
open Fm
section
variable {z : Nat} {W F L V : List Tx}
theorem tel_row (w : Wins z W) (hz : 2 ≤ z ∧ z ≤ 6) (h : ∀ x ∈ L, x ∈ W) (l : L.length ≤ 1000) : (rowT L).tells = true := by
  refine (tel_lst (n := 1) (b := 6) (c := 7000) (fun x hx => ?_) (by rw [List.length_map]; omega)).tells (by omega) (by omega)
  obtain ⟨q, hq, rfl⟩ := List.mem_map.mp hx
  exact tel_str (Nat.le_refl _) (w.sm q (h q hq)) (by rw [w.len q (h q hq)]; omega)
theorem tel_book (w : Wins z W) (hz : 2 ≤ z ∧ z ≤ 6) (few : W.length ≤ 1000) : (bookT z W).tells = true := by
  refine (tel_tup (n := 2) (b := 7000) (c := 14002) (l := [.int z, .tup (W.map T.str)]) (fun x hx => ?_) (by simp)).tells (by omega) (by omega)
  rcases List.mem_cons.mp hx with rfl | hx
  · exact (tel_nat (n := 1) (Nat.le_refl _) (by omega)).mono (by omega) (by omega)
  · rw [List.mem_singleton.mp hx]
    refine tel_tup (n := 1) (b := 6) (c := 7000) (fun y hy => ?_) (by rw [List.length_map]; omega)
    obtain ⟨v, hv, rfl⟩ := List.mem_map.mp hy
    exact tel_str (Nat.le_refl _) (w.sm v hv) (by rw [w.len v hv]; omega)
theorem tells_bl (b : Bool) : (T.bl b).tells = true := (tel_bl (n := 1) b (by omega)).tells (by omega) (by omega)
theorem ne_self (s : Tx) : neT (.str s) (.str s) = some (.bl false) := by
  rw [neT_str, decide_eq_true rfl]; rfl
theorem eq_self (s : Tx) : eqT (.str s) (.str s) = some (.bl true) := by
  rw [Fm.eqT_str, decide_eq_true rfl]
/-- lots that are judged -/
def LotsOK (W : List Tx) (lots : List (List Tx)) : Prop := ∀ L ∈ lots, L.Sublist W ∧ L.length < W.length
def lotsT (lots : List (List Tx)) : T := .lst (lots.map fun L => T.tup (L.map T.str))
noncomputable abbrev lrB : MS := (sSeq (sSet 4 (mIf (mB (mOp2 (lT2 eqT) (mOp2 (lT2 modT) (mCallB (lTL intT) (mCons (mVar 2) mNil)) (mC (.int 3))) (mC (.int 0)))) (mCallK (pureZ (nxF m_may_go)) 0 2 [1, 0] mNil (mCons (mVar 3) (mCons (mVar 0) mNil))) (mCall (pureZ (nxF m_may_go)) (mCons (mVar 0) (mCons (mVar 3) mNil))))) (sIf (mB (mOp2 (lT2 neT) (mCallB reprG (mCons (mVar 4) mNil)) (mCallB reprG (mCons (mCall (pureZ m__law_hangs) (mCons (mCall (pureZ m__law_without) (mCons (mOp2 subG (mVar 0) (mC (.int 1))) (mCons (mVar 3) mNil))) mNil)) mNil)))) (sRet (mC (.bl false))) sNil))
theorem lrB_ok (P : List O) {x : T} {i : Int} {o4 : Option D} (w : Wins z W) (hz : 2 ≤ z ∧ z ≤ 6) (few : W.length ≤ 1000) (sub : L.Sublist W) (ll : L.length < W.length) :
    ∃ p4, lrB P [some (.t (bookT z W)), some (.t x), some (.t (.int i)), some (.t (.tup (L.map T.str))), o4] [] = .nx [some (.t (bookT z W)), some (.t x), some (.t (.int i)), some (.t (.tup (L.map T.str))), p4] [] := by
  classical
  have em := maygo_at P [] w hz few sub ll
  obtain ⟨b, hb⟩ : ∃ b, b = decide (HG (wo W L)) := ⟨_, rfl⟩
  have eh := hangs_at P [] (sq_lst (wo W L)) (Nat.le_trans (wo_len W L) few)
  have ew := without_at P [] (sq_tup W) (sq_tup L) (by omega)
  rw [← hb] at em eh
  have e4 : sSet 4 (mIf (mB (mOp2 (lT2 eqT) (mOp2 (lT2 modT) (mCallB (lTL intT) (mCons (mVar 2) mNil)) (mC (.int 3))) (mC (.int 0)))) (mCallK (pureZ (nxF m_may_go)) 0 2 [1, 0] mNil (mCons (mVar 3) (mCons (mVar 0) mNil))) (mCall (pureZ (nxF m_may_go)) (mCons (mVar 0) (mCons (mVar 3) mNil)))) P [some (.t (bookT z W)), some (.t x), some (.t (.int i)), some (.t (.tup (L.map T.str))), o4] [] = .nx [some (.t (bookT z W)), some (.t x), some (.t (.int i)), some (.t (.tup (L.map T.str))), some (.t (.bl b))] [] := by
    refine set_ok ?_
    rw [pureZ_nx]
    refine x_if (b := decide (i % 3 = 0)) (x_Bt (x_T2 (S1 := []) (x_T2 (S1 := []) (x_B1 rfl (intT_int i)) rfl (modT_int (i := i) (j := 3) (by decide))) rfl (Fm.eqT_int ..))) ?_
    cases decide (i % 3 = 0) with
    | true => exact x_callK (ds := []) (zs := [.t (.tup (L.map T.str)), .t (bookT z W)]) (S1 := []) (S2 := []) rfl (x_cons rfl (x_cons rfl rfl)) ⟨rfl, rfl⟩ em
    | false => exact x_call (ds := [.t (bookT z W), .t (.tup (L.map T.str))]) (x_cons rfl (x_cons rfl rfl)) em
  refine ⟨_, seq_nx' e4 (if_nx (b := false) (S1 := []) (x_Bt (x_T2 (S1 := []) (x_B (ds := [.t (.bl b)]) (x_cons rfl rfl) (repr_t P [] (tells_bl b))) (x_B (ds := [.t (.bl b)]) (x_cons (x_call (ds := [.t (.lst ((wo W L).map T.str))]) (x_cons (x_call (ds := [.t (.tup (W.map T.str)), .t (.tup (L.map T.str))]) (x_cons (x_op2 (S1 := []) rfl rfl (bk1 P [] z W)) (x_cons rfl rfl)) ew) rfl) eh) rfl) (repr_t P [] (tells_bl b))) (ne_self _))) rfl)⟩
theorem lotsright_at (P S : List O) {lots : List (List Tx)} (w : Wins z W) (hz : 2 ≤ z ∧ z ≤ 6) (few : W.length ≤ 1000) (hl : LotsOK W lots) : pureZ m__law_lots_right [.t (bookT z W), .t (lotsT lots)] P S = .ok (.t (.bl true)) S := by
  refine pureZ_t (S' := []) ?_
  generalize P ++ S = P'
  obtain ⟨ρ', S', e, o2, o3, o4, rfl, rfl⟩ := for_inv (g := gT 2 (gsCons (gN 2) (gsCons (gN 3) gsNil))) (P := P') (fb := lrB)
    (fun n ρ S' => ∃ (o2 o3 o4 : Option D), ρ = [some (.t (bookT z W)), some (.t (lotsT lots)), o2, o3, o4] ∧ S' = [])
    (enumOf 0 (lots.map fun L => T.tup (L.map T.str))) 0 [some (.t (bookT z W)), some (.t (lotsT lots)), none, none, none] [] (fun n d ρ S' hd hj => by
      obtain ⟨o2, o3, o4, rfl, rfl⟩ := hj
      rw [enumOf_at, List.getElem?_map] at hd
      cases q : lots[n]? with
      | none => rw [q] at hd; cases hd
      | some L =>
        rw [q] at hd
        cases hd
        obtain ⟨s1, s2⟩ := hl L (List.mem_of_getElem? q)
        obtain ⟨p4, e⟩ := lrB_ok P' (x := lotsT lots) (i := ((0 + n : Nat) : Int)) (o4 := o4) w hz few s1 s2
        exact ⟨_, rfl, _, _, .inl e, _, _, _, rfl, rfl⟩) ⟨none, none, none, rfl, rfl⟩
  rw [m__law_lots_right]
  refine def_rt ?_
  show b__law_lots_right P' [some (.t (bookT z W)), some (.t (lotsT lots)), none, none, none] [] = _
  unfold b__law_lots_right
  exact seq_nx' (for_ok (x_I (ds := [.t (lotsT lots)]) (S1 := []) (x_cons rfl rfl) rfl) e) (ret_ok rfl)
theorem nd_sub (W : List Tx) : ∀ x ∈ ndL W, x ∈ W := fun x hx => (List.mem_filter.mp hx).1
theorem nd_len (W : List Tx) : (ndL W).length ≤ W.length := List.length_filter_le _ _
theorem neededright_at (P S : List O) (w : Wins z W) (hz : 2 ≤ z ∧ z ≤ 6) (few : W.length ≤ 1000) (hj : Joined W) : pureZ m__law_needed_right [.t (bookT z W)] P S = .ok (.t (.bl true)) S := by
  classical
  suffices hh : ∀ P' : List O, ∃ S' : List O, m__law_needed_right [.t (bookT z W)] P' [] = .ok (.t (.bl true)) S' by
    obtain ⟨S', e⟩ := hh (P ++ S)
    exact pureZ_t e
  intro P'
  have tN : (rowT (ndL W)).tells = true := tel_row w hz (nd_sub W) (Nat.le_trans (nd_len W) few)
  have ek : ∀ X : List O, pureZ m_needed [.t (bookT z W)] P' X = .ok (.t (rowT (ndL W))) X := fun X => needed_at P' X w hz few hj
  have ec := needed_new P' [] w hz few hj
  have el := lc_filter (g := gN 2) (ft := mNotT (mT (mCall (pureZ m__law_hangs) (mCons (mCall (pureZ m__law_without) (mCons (mOp2 subG (mVar 0) (mC (.int 1))) (mCons (mTup (mCons (mVar 2) mNil)) mNil))) mNil)))) (fe := mVar 2) (P := P') (S := []) (ρ := [some (.t (bookT z W)), none, none, none]) (fun x : Tx => D.t (.str x)) (fun x => !decide (HG (wo W [x]))) (fun x : Tx => D.t (.str x)) W (fun x _ => ⟨_, rfl, x_notT (x_Tt (x_call (ds := [.t (.lst ((wo W [x]).map T.str))]) (x_cons (x_call (ds := [.t (.tup (W.map T.str)), .t (.tup ([x].map T.str))]) (x_cons (x_op2 (S1 := []) rfl rfl (bk1 P' [] z W)) (x_cons (x_tup (ts := [.str x]) (x_cons rfl rfl) (by simp)) rfl)) (without_at P' [] (sq_tup W) (sq_tup [x]) (by omega))) rfl) (hangs_at P' [] (sq_lst (wo W [x])) (Nat.le_trans (wo_len W [x]) few)))), fun _ => rfl⟩)
  have e1 : sSet 1 (mCallB reprG (mCons (mLcG finT (mIt (mOp2 subG (mVar 0) (mC (.int 1)))) (gN 2) [2] (mNotT (mT (mCall (pureZ m__law_hangs) (mCons (mCall (pureZ m__law_without) (mCons (mOp2 subG (mVar 0) (mC (.int 1))) (mCons (mTup (mCons (mVar 2) mNil)) mNil))) mNil)))) (mVar 2)) mNil)) P' [some (.t (bookT z W)), none, none, none] [] = .nx [some (.t (bookT z W)), some (St (rp (rowT (ndL W)))), none, none] [] :=
    set_ok (x_B (ds := [.t (rowT (ndL W))]) (x_cons (x_lc (ts := (ndL W).map T.str) (x_It (x_op2 rfl rfl (bk1 P' [] z W)) (items_tup P' W)) (by rw [List.map_map]; exact el)) rfl) (repr_t P' [] tN))
  obtain ⟨N, hN⟩ : ∃ N, N = ndL W := ⟨_, rfl⟩
  have lN : N.length ≤ 1000 := by rw [hN]; exact Nat.le_trans (nd_len W) few
  rw [← hN] at tN ek ec e1
  obtain ⟨rs, hrs⟩ : ∃ rs, rs = rp (rowT N) := ⟨_, rfl⟩
  have er := fun X => repr_t (P := P') X tN
  have h0 : ([O.lst ((N.map T.str).map D.t)])[0]? = some (.lst ((N.map T.str).map D.t)) := rfl
  have erc := repr_c (P := P') (S := [O.lst ((N.map T.str).map D.t)]) (gc_at (P := P') h0) tN
  have ea := gc_app (P := P') h0 (St (cs "later")) (by rw [List.length_map, List.length_map]; omega)
  have ekd := gc_kd (P := P') h0
  rw [Nat.add_zero] at erc ea ekd
  rw [← hrs] at e1
  rw [show rp (T.lst (N.map T.str)) = rs from hrs.symm] at erc
  have er : ∀ X, reprG [.t (rowT N)] P' X = some (St rs, X) := fun X => by rw [hrs]; exact er X
  have e3 : sSet 3 (mCall (newF (nxF m_needed)) (mCons (mVar 0) mNil)) P' [some (.t (bookT z W)), some (St rs), none, none] [] = .nx [some (.t (bookT z W)), some (St rs), none, some (.ref P'.length)] [.lst ((N.map T.str).map D.t)] := by
    rw [newF_nx]
    exact set_ok (x_call (ds := [.t (bookT z W)]) (x_cons rfl rfl) ec)
  obtain ⟨l1, hl1⟩ : ∃ l1, l1 = (N.map T.str).map D.t ++ [St (cs "later")] := ⟨_, rfl⟩
  have ea : appendG (.ref P'.length) [St (cs "later")] P' [O.lst ((N.map T.str).map D.t)] = some (.t .non, [.lst l1]) := by rw [ea, hl1]; rfl
  have hp : 0 < l1.length := by rw [hl1, List.length_append]; simp
  have hset : setG (.ref P'.length) (.t (.int 0)) (St (cs "sooner")) P' [.lst l1] = some [.lst (l1.set 0 (St (cs "sooner")))] := by
    have hx : L2.ixN l1.length 0 = some 0 := by
      unfold L2.ixN
      rw [if_pos (by omega), if_pos (by omega)]; rfl
    unfold setG
    simp only
    rw [if_pos (Nat.le_refl _), Nat.sub_self]
    simp only [List.getElem?_cons_zero, hx, Option.map, List.set_cons_zero]
  refine ⟨[.lst (l1.set 0 (St (cs "sooner")))], ?_⟩
  rw [m__law_needed_right]
  refine def_rt ?_
  show b__law_needed_right P' [some (.t (bookT z W)), none, none, none] [] = _
  unfold b__law_needed_right
  refine seq_nx' e1 (seq_nx' e3 ?_)
  refine seq_nx' (if_nx (b := false) (S1 := [.lst ((N.map T.str).map D.t)]) (x_Bt (x_T2 (S1 := [.lst ((N.map T.str).map D.t)]) (x_B (ds := [.ref P'.length]) (x_cons rfl rfl) erc) rfl (ne_self rs))) rfl) ?_
  refine seq_nx' (x_expr (x_meth (d := .ref P'.length) (ds := [St (cs "later")]) rfl ekd (x_cons rfl rfl) ea)) ?_
  refine seq_nx' (x_put (v := St (cs "sooner")) (d := .ref P'.length) (i := .t (.int 0)) (S1 := [.lst l1]) rfl rfl rfl hset) (ret_ok ?_)
  rw [pureZ_nx]
  exact x_T2 (S1 := [.lst (l1.set 0 (St (cs "sooner")))]) (x_B (ds := [.t (rowT N)]) (x_cons (x_callK (ds := []) (zs := [.t (bookT z W)]) (S1 := [.lst (l1.set 0 (St (cs "sooner")))]) (S2 := [.lst (l1.set 0 (St (cs "sooner")))]) rfl (x_cons rfl rfl) ⟨rfl, rfl⟩ (ek _)) rfl) (er _)) rfl (eq_self rs)
theorem any_false {α : Type} (l : List α) : anyT [.lst (l.map fun _ => T.bl false)] = some (.bl false) := by
  have eb := bls_mapf (fun _ : α => false) l
  show Option.map _ (bls _) = _
  rw [eb]
  show some (T.bl _) = _
  congr 2
  rw [List.any_eq_false]
  intro x hx
  obtain ⟨_, _, rfl⟩ := List.mem_map.mp hx
  simp
theorem restright_at (P S : List O) (w : Wins z W) (few : W.length ≤ 1000) (r : RestI W W F) : pureZ m__law_rest_right [.t (bookT z W), .t (.tup (F.map T.str))] P S = .ok (.t (.bl true)) S := by
  classical
  refine pureZ_t (S' := []) ?_
  generalize P ++ S = P'
  have hi : isiG [.t (.tup (F.map T.str)), .t (.ty "tuple")] P' [] = some (.t (.bl true), []) := by
    rw [isi_tree, if_pos (show (T.tup (F.map T.str)).plain = true from isi_strs F)]; rfl
  have el := lc_filter (g := gN 2) (ft := mB (mOp2 (inG false) (mVar 2) (mVar 1))) (fe := mVar 2) (P := P') (S := []) (ρ := [some (.t (bookT z W)), some (.t (.tup (F.map T.str))), none, none]) (fun x : Tx => D.t (.str x)) (fun x => decide (x ∈ F)) (fun x : Tx => D.t (.str x)) W (fun x _ => ⟨_, rfl, by
    have := x_Bt (P := P') (ρ := [some (.t (bookT z W)), some (.t (.tup (F.map T.str))), some (St x), none]) (S := []) (S1 := []) (f := mOp2 (inG false) (mVar 2) (mVar 1)) (x_op2 (S1 := []) (S2 := []) rfl rfl ((sq_tup F).mem false x P' []))
    rw [Bool.false_xor] at this
    exact this, fun _ => rfl⟩)
  rw [filter_sub (asc_nodup w.asc) r.sub] at el
  have c2 : mB (mOp2 (lT2 neT) (mCallB (lTL lstOfT) (mCons (mVar 1) mNil)) (mLcG finT (mIt (mOp2 subG (mVar 0) (mC (.int 1)))) (gN 2) [2] (mB (mOp2 (inG false) (mVar 2) (mVar 1))) (mVar 2))) P' [some (.t (bookT z W)), some (.t (.tup (F.map T.str))), none, none] [] = .ok false [] := by
    refine x_Bt (x_T2 (S1 := []) (x := .lst (F.map T.str)) (y := .lst (F.map T.str)) (x_B1 (x := .tup (F.map T.str)) rfl rfl) (x_lc (ts := F.map T.str) (x_It (x_op2 rfl rfl (bk1 P' [] z W)) (items_tup P' W)) (by rw [List.map_map]; exact el)) ?_)
    rw [neT_strs, decide_eq_true rfl]; rfl
  have ew := without_at P' [] (sq_tup W) (sq_tup F) (by omega)
  have eh := hangs_at P' [] (sq_lst (wo W F)) (Nat.le_trans (wo_len W F) few)
  rw [decide_eq_true r.hg] at eh
  have lV : (wo W F).length ≤ 1000 := Nat.le_trans (wo_len W F) few
  have ea := lc_all (g := gN 2) (fe := mCall (pureZ m__law_hangs) (mCons (mCall (pureZ m__law_without) (mCons (mVar 3) (mCons (mTup (mCons (mVar 2) mNil)) mNil))) mNil)) (P := P') (S := []) (ρ := [some (.t (bookT z W)), some (.t (.tup (F.map T.str))), none, some (.t (.lst ((wo W F).map T.str)))]) (fun x : Tx => D.t (.str x)) (fun _ => T.bl false) (wo W F) (fun x hx => ⟨_, rfl, by
    have h1 := without_at P' [] (sq_lst (wo W F)) (sq_tup [x]) (by omega)
    have h2 := hangs_at P' [] (sq_lst (wo (wo W F) [x])) (Nat.le_trans (wo_len _ [x]) lV)
    have hm := wo_mem.mp hx
    rw [wo_wo, decide_eq_false (r.no x hm.1 hm.2), ← wo_wo] at h2
    exact x_call (ds := [.t (.lst ((wo (wo W F) [x]).map T.str))]) (x_cons (x_call (ds := [.t (.lst ((wo W F).map T.str)), .t (.tup ([x].map T.str))]) (x_cons rfl (x_cons (x_tup (ts := [.str x]) (x_cons rfl rfl) (by simp)) rfl)) h1) rfl) h2⟩)
  rw [m__law_rest_right]
  refine def_rt ?_
  show b__law_rest_right P' [some (.t (bookT z W)), some (.t (.tup (F.map T.str))), none, none] [] = _
  unfold b__law_rest_right
  refine seq_nx' (if_nx (b := false) (S1 := []) (x_orT0 (x_notT (b := true) (x_Tt (x_B (ds := [.t (.tup (F.map T.str)), .t (.ty "tuple")]) (x_cons rfl (x_cons rfl rfl)) hi))) c2) rfl) ?_
  refine seq_nx' (set_ok (x_call (ds := [.t (.tup (W.map T.str)), .t (.tup (F.map T.str))]) (x_cons (x_op2 (S1 := []) rfl rfl (bk1 P' [] z W)) (x_cons rfl rfl)) ew)) ?_
  refine seq_nx' (if_nx (b := false) (S1 := []) (x_notT (b := true) (x_Tt (x_call (ds := [.t (.lst ((wo W F).map T.str))]) (x_cons rfl rfl) eh))) rfl) (ret_ok ?_)
  exact x_not (b := false) (x_B1 (x := .lst ((wo W F).map fun _ => T.bl false)) (x_lc (ts := (wo W F).map fun _ => T.bl false) (x_It rfl (items_lst P' (wo W F))) (ea.trans (by rw [List.map_map]; rfl))) (any_false _))
theorem set_ex {f : ME} {P : List O} {ρ : En} {S S1 : List O} {i : Nat} {xv : Xv} (h : f P ρ S = .ex xv S1) : sSet i f P ρ S = .ex xv ρ S1 := by
  rw [e_set, h]; rfl
theorem caught_at (P S : List O) (w : Wins z W) (hz : 2 ≤ z ∧ z ≤ 6) (few : W.length ≤ 1000) (hj : ¬ Joined W) (b : Bool) : pureZ m__law_caught [.t (bookT z W), .t (.bl b)] P S = .ok (.t (.xcp "NoRing" (bookT z W))) S := by
  refine pureZ_t (S' := []) ?_
  generalize P ++ S = P'
  obtain ⟨q1, h1⟩ := rest_ex P' [] w hz few hj
  obtain ⟨q2, h2⟩ := needed_ex P' [] w hz few hj
  obtain ⟨ρ0, hρ0⟩ : ∃ ρ0 : En, ρ0 = [some (.t (bookT z W)), some (.t (.bl b)), some (.t .non), none, none] := ⟨_, rfl⟩
  have hb : sSet 3 (mIf (mT (mVar 1)) (mCallX (pureX m_rest) (mCons (mVar 0) mNil)) (mCallX (pureX m_needed) (mCons (mVar 0) mNil))) P' ρ0 [] = .ex (xN z W ρ0) ρ0 [] := by
    subst hρ0
    refine set_ex ?_
    rw [e_if, x_Tt (P := P') (ρ := [some (.t (bookT z W)), some (.t (.bl b)), some (.t .non), none, none]) (S := []) (f := mVar 1) (b := b) (S1 := []) rfl, Fm.R.bind_ok]
    cases b with
    | true => exact x_callXe (ds := [.t (bookT z W)]) (x_cons rfl rfl) h1
    | false => exact x_callXe (ds := [.t (bookT z W)]) (x_cons rfl rfl) h2
  rw [m__law_caught]
  refine def_rt ?_
  show b__law_caught P' [some (.t (bookT z W)), some (.t (.bl b)), none, none, none] [] = _
  unfold b__law_caught
  refine seq_nx' (ρ' := ρ0) (S' := []) (by rw [hρ0]; exact set_ok rfl) ?_
  exact seq_nx' (ρ' := [some (.t (bookT z W)), some (.t (.bl b)), some (.t (.xcp "NoRing" (bookT z W))), none, none]) (S' := []) ((try_ex hb (show "NoRing" ∈ ["NoRing"] by decide)).trans (by rw [hρ0]; rfl)) (ret_ok rfl)
noncomputable abbrev brB : MS := (sSeq (sSet 3 (mCall (pureZ m__law_caught) (mCons (mVar 0) (mCons (mVar 2) mNil)))) (sIf (mOrT (mB (mOp2 (isNoneG false) (mVar 3) (mC .non))) (mB (mOp2 (lT2 neT) (mCallB reprG (mCons (mVal ["PieceError", "InvalidBook", "NoRing", "InvalidWindows"] (mVar 3)) mNil)) (mCallB reprG (mCons (mVar 0) mNil))))) (sRet (mC (.bl false))) sNil))
theorem bookright_at (P S : List O) {lots : List (List Tx)} (w : Wins z W) (hz : 2 ≤ z ∧ z ≤ 6) (few : W.length ≤ 1000) (hl : LotsOK W lots) : pureZ m__law_book_right [.t (bookT z W), .t (lotsT lots)] P S = .ok (.t (.bl true)) S := by
  classical
  refine pureZ_t (S' := []) ?_
  generalize P ++ S = P'
  have e1 := lotsright_at P' [] w hz few hl
  have eh := hangs_at P' [] (sq_tup W) few
  rw [m__law_book_right]
  refine def_rt ?_
  show b__law_book_right P' [some (.t (bookT z W)), some (.t (lotsT lots)), none, none] [] = _
  unfold b__law_book_right
  refine seq_nx' (if_nx (b := false) (S1 := []) (x_notT (b := true) (x_Tt (x_call (ds := [.t (bookT z W), .t (lotsT lots)]) (x_cons rfl (x_cons rfl rfl)) e1))) rfl) ?_
  have ch : mT (mCall (pureZ m__law_hangs) (mCons (mOp2 subG (mVar 0) (mC (.int 1))) mNil)) P' [some (.t (bookT z W)), some (.t (lotsT lots)), none, none] [] = .ok (decide (HG W)) [] :=
    x_Tt (x_call (ds := [.t (.tup (W.map T.str))]) (x_cons (x_op2 (S1 := []) rfl rfl (bk1 P' [] z W)) rfl) eh)
  by_cases c : HG W
  · rw [decide_eq_true c] at ch
    obtain ⟨F, er, hF⟩ := rest_at P' [] w hz few c.2
    have err := restright_at P' [] w few hF
    refine seq_rt (if_nx (b := true) ch ?_)
    refine seq_nx' (if_nx (b := false) (S1 := []) (x_notT (b := true) (x_Tt (x_call (ds := [.t (bookT z W)]) (x_cons rfl rfl) (neededright_at P' [] w hz few c.2)))) rfl) (ret_ok ?_)
    rw [pureZ_nx]
    exact x_and1 (x_call (ds := [.t (bookT z W), .t (.tup (F.map T.str))]) (x_cons (S1 := []) rfl (x_cons (x_call (ds := [.t (bookT z W)]) (x_cons rfl rfl) er) rfl)) err) (x_call (ds := [.t (bookT z W), .t (.tup (F.map T.str))]) (x_cons (S1 := []) rfl (x_cons (x_callK (ds := []) (zs := [.t (bookT z W)]) (S1 := []) (S2 := []) rfl (x_cons rfl rfl) ⟨rfl, rfl⟩ er) rfl)) err)
  · rw [decide_eq_false c] at ch
    have hj : ¬ Joined W := fun j => c ⟨w.ne, j⟩
    refine seq_nx' (if_nx (b := false) ch rfl) ?_
    have tb := tel_book w hz few
    obtain ⟨ρ', S', e, o2, o3, rfl, rfl⟩ := for_inv (g := gN 2) (P := P') (fb := brB)
      (fun n ρ S' => ∃ (o2 o3 : Option D), ρ = [some (.t (bookT z W)), some (.t (lotsT lots)), o2, o3] ∧ S' = [])
      [.t (.bl true), .t (.bl false)] 0 [some (.t (bookT z W)), some (.t (lotsT lots)), none, none] [] (fun n d ρ S' hd hjj => by
        obtain ⟨o2, o3, rfl, rfl⟩ := hjj
        obtain ⟨b, rfl⟩ : ∃ b : Bool, d = .t (.bl b) := by
          rcases List.mem_cons.mp (List.mem_of_getElem? hd) with rfl | h
          · exact ⟨true, rfl⟩
          · exact ⟨false, by rw [List.mem_singleton.mp h]⟩
        refine ⟨[some (.t (bookT z W)), some (.t (lotsT lots)), some (.t (.bl b)), o3], rfl, [some (.t (bookT z W)), some (.t (lotsT lots)), some (.t (.bl b)), some (.t (.xcp "NoRing" (bookT z W)))], [], .inl ?_, _, _, rfl, rfl⟩
        refine seq_nx' (set_ok (x_call (ds := [.t (bookT z W), .t (.bl b)]) (x_cons rfl (x_cons rfl rfl)) (caught_at P' [] w hz few hj b))) ?_
        refine if_nx (b := false) (S1 := []) (x_orT0 (x_Bt (x_op2 (S1 := []) (x := .t (.xcp "NoRing" (bookT z W))) (y := .t .non) rfl rfl rfl)) (x_Bt (x_T2 (S1 := []) (x_B (ds := [.t (bookT z W)]) (x_cons (x_val (c := "NoRing") rfl (by decide)) rfl) (repr_t P' [] tb)) (x_B (ds := [.t (bookT z W)]) (x_cons rfl rfl) (repr_t P' [] tb)) (ne_self _)))) rfl) ⟨none, none, rfl, rfl⟩
    exact seq_nx' (for_ok (x_It (S1 := []) (x_lst (ts := [.bl true, .bl false]) (x_cons rfl (x_cons rfl rfl)) (by simp)) rfl) e) (ret_ok rfl)
end
end Lw

set_option maxHeartbeats 4000000
/-! A6: one of some; rounds; tallies -/
namespace Lw
open Fm
theorem oneof_ok (P : List O) {n k : Nat} {R S : List O} {x : T} (Q : T → Prop) (h : Pt n R S) (hn : n < 10 ^ 14) (hl : ∀ S, lenG [.t x] P S = some (.t (.int (k : Nat)), S)) (k0 : 0 < k) (k1 : k ≤ 10 ^ 6) (hs : ∀ (r : Int) (S : List O), 0 ≤ r → r < k → ∃ y, Q y ∧ subG (.t x) (.t (.int r)) P S = some (.t y, S)) :
    ∃ y S', m__law_one_of [.ref P.length, .t x] P S = .ok (.t y) S' ∧ Q y ∧ Pt (n + 1) R S' := by
  obtain ⟨r, S1, e1, r0, r1, p1⟩ := draw_pt P (top := (k : Nat)) h (by omega) (by omega) (by omega)
  obtain ⟨y, qy, ey⟩ := hs r S1 r0 r1
  refine ⟨y, S1, ?_, qy, p1⟩
  rw [m__law_one_of]
  refine def_rt ?_
  show b__law_one_of P [some (.ref P.length), some (.t x)] S = _
  unfold b__law_one_of
  exact ret_ok (x_op2 (S1 := S) (S2 := S1) rfl (x_call (ds := [.ref P.length, .t (.int (k : Nat))]) (x_cons rfl (x_cons (x_B (ds := [.t x]) (x_cons rfl rfl) (hl S)) rfl)) e1) ey)
theorem one_str (P : List O) {n : Nat} {R S : List O} {L : List Tx} (h : Pt n R S) (hn : n < 10 ^ 14) (l0 : L ≠ []) (l1 : L.length ≤ 10 ^ 6) :
    ∃ s S', m__law_one_of [.ref P.length, .t (.lst (L.map T.str))] P S = .ok (St s) S' ∧ s ∈ L ∧ Pt (n + 1) R S' := by
  obtain ⟨y, S', e, ⟨s, hs, rfl⟩, p⟩ := oneof_ok P (x := .lst (L.map T.str)) (k := L.length) (fun y => ∃ s, s ∈ L ∧ y = .str s) h hn (fun S => by rw [len_lst, List.length_map]) (List.length_pos_iff.mpr l0) l1 (fun r S r0 r1 => by
    obtain ⟨s, hs, e⟩ := strs_pick P S (L := L) r0 r1
    exact ⟨_, ⟨s, hs, rfl⟩, e⟩)
  exact ⟨s, S', e, hs, p⟩
theorem one_tup (P : List O) {n : Nat} {R S : List O} {L : List Tx} (h : Pt n R S) (hn : n < 10 ^ 14) (l0 : L ≠ []) (l1 : L.length ≤ 10 ^ 6) :
    ∃ s S', m__law_one_of [.ref P.length, .t (.tup (L.map T.str))] P S = .ok (St s) S' ∧ s ∈ L ∧ Pt (n + 1) R S' := by
  obtain ⟨y, S', e, ⟨s, hs, rfl⟩, p⟩ := oneof_ok P (x := .tup (L.map T.str)) (k := L.length) (fun y => ∃ s, s ∈ L ∧ y = .str s) h hn (fun S => by rw [len_tup, List.length_map]) (List.length_pos_iff.mpr l0) l1 (fun r S r0 r1 => by
    have hl : r.toNat < L.length := by omega
    have := sub_tup P S (l := L.map T.str) (k := r.toNat) (by rw [List.length_map]; exact hl)
    rw [List.getElem_map, show ((r.toNat : Nat) : Int) = r by omega] at this
    exact ⟨_, ⟨_, List.getElem_mem hl, rfl⟩, this⟩)
  exact ⟨s, S', e, hs, p⟩
theorem one_int (P : List O) {n : Nat} {R S : List O} {L : List Int} (h : Pt n R S) (hn : n < 10 ^ 14) (l0 : L ≠ []) (l1 : L.length ≤ 10 ^ 6) :
    ∃ s S', m__law_one_of [.ref P.length, .t (.lst (L.map T.int))] P S = .ok (.t (.int s)) S' ∧ s ∈ L ∧ Pt (n + 1) R S' := by
  obtain ⟨y, S', e, ⟨s, hs, rfl⟩, p⟩ := oneof_ok P (x := .lst (L.map T.int)) (k := L.length) (fun y => ∃ s, s ∈ L ∧ y = .int s) h hn (fun S => by rw [len_lst, List.length_map]) (List.length_pos_iff.mpr l0) l1 (fun r S r0 r1 => by
    obtain ⟨s, hs, e⟩ := ints_pick P S (l := L) r0 r1
    exact ⟨_, ⟨s, hs, rfl⟩, e⟩)
  exact ⟨s, S', e, hs, p⟩
theorem one_chr (P : List O) {n : Nat} {R S : List O} {L : Tx} (h : Pt n R S) (hn : n < 10 ^ 14) (l0 : L ≠ []) (l1 : L.length ≤ 10 ^ 6) :
    ∃ c S', m__law_one_of [.ref P.length, St L] P S = .ok (St [c]) S' ∧ c ∈ L ∧ Pt (n + 1) R S' := by
  obtain ⟨y, S', e, ⟨s, hs, rfl⟩, p⟩ := oneof_ok P (x := .str L) (k := L.length) (fun y => ∃ c, c ∈ L ∧ y = .str [c]) h hn (fun S => len_str ..) (List.length_pos_iff.mpr l0) l1 (fun r S r0 r1 => by
    obtain ⟨c, c1, c2, c3⟩ := sub_str P S (s := L) r0 r1
    exact ⟨_, ⟨c, c1, rfl⟩, c3⟩)
  exact ⟨s, S', e, hs, p⟩
/-! rounds -/
theorem rep_snoc (k : Nat) (s : Tx) : rep (k + 1) s = rep k s ++ s := by
  unfold rep
  rw [List.replicate_succ', List.flatten_append]; simp
theorem round_at (P S : List O) {z : Nat} {s : Tx} (s0 : s ≠ []) (ls : s.length ≤ 1000) (hz : z ≤ 1000) : pureZ m__law_round [.t (.int (z : Nat)), St s] P S = .ok (.t (rowT (roundTx z s))) S := by
  refine pureZ_t (S' := []) ?_
  generalize P ++ S = P'
  have sp := List.length_pos_iff.mpr s0
  obtain ⟨ρ', S', e, k, rfl, rfl, hk⟩ := while_inv (ft := mB (mOp2 (lT2 ltT) (mCallB lenG (mCons (mVar 2) mNil)) (mOp2 (lT2 addT) (mCallB lenG (mCons (mVar 1) mNil)) (mVar 0)))) (fb := sSet 2 (mOp2 (lT2 addT) (mVar 2) (mVar 1))) (P := P')
    (fun m ρ S => ∃ k : Nat, ρ = [some (.t (.int (z : Nat))), some (St s), some (St (rep k s)), none] ∧ S = [] ∧ k ≤ s.length + z ∧ m = s.length + z - k)
    (fun ρ S => ∃ k : Nat, ρ = [some (.t (.int (z : Nat))), some (St s), some (St (rep k s)), none] ∧ S = [] ∧ s.length + z ≤ k * s.length)
    bigN (s.length + z - 1) [some (.t (.int (z : Nat))), some (St s), some (St (rep 1 s)), none] [] (lt_bigN (by omega)) (fun m ρ S ⟨k, hρ, hS, hk, hm⟩ => by
      subst hρ hS
      have lr := rep_length k s
      have ht := x_Bt (P := P') (ρ := [some (.t (.int (z : Nat))), some (St s), some (St (rep k s)), none]) (S := []) (x_T2 (S1 := []) (S2 := []) (fa := mCallB lenG (mCons (mVar 2) mNil)) (fb := mOp2 (lT2 addT) (mCallB lenG (mCons (mVar 1) mNil)) (mVar 0)) (x_B (ds := [St (rep k s)]) (x_cons rfl rfl) (len_str ..)) (x_T2 (S1 := []) (x_B (ds := [St s]) (x_cons rfl rfl) (len_str ..)) rfl (addT_int _ _)) (Fm.ltT_int ..))
      by_cases c : k * s.length < s.length + z
      · have kl : k ≤ k * s.length := Nat.le_mul_of_pos_right k sp
        have k2 : k * s.length ≤ 2000 := by omega
        rw [decide_eq_true (by omega)] at ht
        refine .inr ⟨[], [some (.t (.int (z : Nat))), some (St s), some (St (rep (k + 1) s)), none], [], ht, ?_, s.length + z - (k + 1), by omega, k + 1, rfl, rfl, by omega, rfl⟩
        rw [rep_snoc]
        exact set_ok (x_T2 (S1 := []) rfl rfl (addT_str (by rw [szl]; omega)))
      · rw [decide_eq_false (by omega)] at ht
        exact .inl ⟨_, ht, k, rfl, rfl, by omega⟩) ⟨1, rfl, rfl, by omega, rfl⟩
  have r1 : rep 1 s = s := by unfold rep; simp
  rw [r1] at e
  rw [m__law_round]
  refine def_rt ?_
  show b__law_round P' [some (.t (.int (z : Nat))), some (St s), none, none] [] = _
  unfold b__law_round
  refine seq_nx' (ρ' := [some (.t (.int (z : Nat))), some (St s), some (St s), none]) (S' := []) (set_ok rfl) ?_
  refine seq_nx' ((e_while ..).trans e) (ret_ok ?_)
  have el := lc_all (g := gN 3) (fe := mSl (mVar 2) (some (mVar 3)) (some (mOp2 (lT2 addT) (mVar 3) (mVar 0)))) (P := P') (S := []) (ρ := [some (.t (.int (z : Nat))), some (St s), some (St (rep k s)), none]) (fun i : Nat => D.t (.int (i : Nat))) (fun i : Nat => T.str (readTx s i z)) (List.range s.length) (fun i hi => ⟨_, rfl, by
    have hi := List.mem_range.mp hi
    have := sl_ok (fo := mVar 2) (fl := mVar 3) (fh := mOp2 (lT2 addT) (mVar 3) (mVar 0)) (P := P') (ρ := [some (.t (.int (z : Nat))), some (St s), some (St (rep k s)), some (.t (.int (i : Nat)))]) (S := []) (S1 := []) (S2 := []) (S3 := []) (s := rep k s) (i := (i : Nat)) (j := (i : Nat) + (z : Nat)) rfl rfl (x_T2 (S1 := []) rfl rfl (addT_int _ _))
    rw [cutL_mid _ (by omega) (by omega), show ((i : Nat) : Int).toNat = i by omega, show (((i : Nat) : Int) + (z : Nat)).toNat - i = z by omega, rep_cut (by omega)] at this
    exact this⟩)
  refine x_lc (ts := (roundTx z s).map T.str) (x_I (ds := [.t (.int (s.length : Nat))]) (x_cons (x_B (ds := [St s]) (x_cons rfl rfl) (len_str ..)) rfl) (rng1_ok ⟨by omega, by omega⟩)) ?_
  rw [rng_nat, show ((s.length : Nat) : Int).toNat = s.length from rfl, round_read, List.map_map, List.map_map]
  exact el
/-! tallies -/
noncomputable abbrev tyB : MS := (sPut (mVar 1) (mVar 2) (mOp2 (lT2 addT) (mGet2 (mVar 1) (mVar 2) (mC (.int 0))) (mC (.int 1))))
theorem tally_at (P S : List O) {L : List Tx} (few : L.length ≤ 10 ^ 5) : ∃ A : List (Tx × Int), pureZ m__law_tally [.t (rowT L)] P S = .ok (.t (.dic (encT T.int A))) S ∧ (keyA A).Nodup ∧ ∀ x, x ∈ keyA A ↔ x ∈ L := by
  suffices hh : ∀ P' : List O, ∃ (A : List (Tx × Int)) (S' : List O), m__law_tally [.t (rowT L)] P' [] = .ok (.t (.dic (encT T.int A))) S' ∧ (keyA A).Nodup ∧ ∀ x, x ∈ keyA A ↔ x ∈ L by
    obtain ⟨A, S', e, q⟩ := hh (P ++ S)
    exact ⟨A, pureZ_t e, q⟩
  intro P'
  obtain ⟨ρ', S', e, A, o2, rfl, rfl, nd, mem, _⟩ := for_inv (g := gN 2) (fb := tyB) (P := P')
    (fun k ρ S => ∃ (A : List (Tx × Int)) (o2 : Option D), ρ = [some (.t (rowT L)), some (.ref P'.length), o2] ∧ S = [.dic (encD (fun i => D.t (.int i)) A)] ∧ (keyA A).Nodup ∧ (∀ x, x ∈ keyA A ↔ x ∈ L.take k) ∧ A.length ≤ k)
    (L.map fun x => D.t (.str x)) 0 [some (.t (rowT L)), some (.ref P'.length), none] [.dic []] (fun k d ρ S hk ⟨A, o2, hρ, hS, nd, mem, lA⟩ => by
      subst hρ hS
      rw [Nat.zero_add] at mem lA ⊢
      rw [List.getElem?_map] at hk
      cases q : L[k]? with
      | none => rw [q] at hk; cases hk
      | some w =>
        rw [q] at hk
        cases hk
        have kl := (List.getElem?_eq_some_iff.mp q).1
        have hd := dget_cell P' [.dic (encD (fun i => D.t (.int i)) A)] (i := P'.length) (fun i : Int => D.t (.int i)) A (at_len P' _ _) w
        have hdic : isDic (.ref P'.length) P' [.dic (encD (fun i => D.t (.int i)) A)] = true := by unfold isDic; simp only [at_len]
        obtain ⟨i, ei⟩ : ∃ i : Int, mGet2 (mVar 1) (mVar 2) (mC (.int 0)) P' [some (.t (rowT L)), some (.ref P'.length), some (St w)] [.dic (encD (fun i => D.t (.int i)) A)] = .ok (.t (.int i)) [.dic (encD (fun i => D.t (.int i)) A)] := by
          refine ⟨(getA A w).getD 0, ?_⟩
          simp only [e_get2, e_var, e_c, List.getElem?_cons_zero, List.getElem?_cons_succ, Fm.R.bind_ok, hdic, if_true, hd]
          cases getA A w <;> rfl
        have p1 := put_head P' [] (encD (fun i => D.t (.int i)) A) w (.t (.int (i + 1))) (by rw [len_encD]; omega)
        rw [putD_enc (fun i : Int => D.t (.int i)) A w (i + 1)] at p1
        refine ⟨_, rfl, [some (.t (rowT L)), some (.ref P'.length), some (St w)], _, .inl (x_put (v := .t (.int (i + 1))) (d := .ref P'.length) (i := St w) (x_T2 (S1 := [.dic (encD (fun i => D.t (.int i)) A)]) ei rfl (addT_int i 1)) rfl rfl p1), putA A w (i + 1), _, rfl, rfl, nodup_put nd _ _, fun x => ?_, Nat.le_trans (len_put _ _ _) (by omega)⟩
        rw [mem_put, mem, take_mem q]) ⟨[], none, rfl, rfl, by simp [keyA], fun x => by simp [keyA], Nat.le_refl _⟩
  rw [List.length_map, Nat.zero_add, List.take_length] at mem
  have hf : frzD P' (.ref P'.length) [.dic (encD (fun i => D.t (.int i)) A)] = some (.t (.dic (encT T.int A)), [.dead]) := by
    unfold frzD
    simp only [Nat.le_refl, if_true, Nat.sub_self, List.getElem?_cons_zero]
    rw [treesK_enc T.int A]; rfl
  refine ⟨A, [.dead], ?_, nd, mem⟩
  rw [m__law_tally]
  refine def_rt ?_
  show b__law_tally P' [some (.t (rowT L)), none, none] [] = _
  unfold b__law_tally
  refine seq_nx' (ρ' := [some (.t (rowT L)), some (.ref P'.length), none]) (S' := [.dic []]) rfl ?_
  exact seq_nx' (for_ok (x_It rfl (items_lst P' L)) e) (seq_nx' (x_frz _ _ (d := .ref P'.length) rfl hf) (ret_ok rfl))
end Lw

set_option maxHeartbeats 4000000
/-! A7: the wide books -/
namespace Lw
open Fm
theorem wins_take {z m : Nat} {L : List Tx} (len : ∀ x ∈ L, x.length = z) (sm : ∀ x ∈ L, Small x) (ne : L ≠ []) (few : L.length ≤ 10 ^ 5) (m1 : 1 ≤ m) : Wins z ((setTx L).take m) where
  asc := by
    have h1 : (setTx L).Pairwise (· < ·) := by
      have h1 := sortTx_sorted (onceM L)
      have h2 : (sortTx (onceM L)).Nodup := (sortTx_perm _).nodup_iff.mpr (onceM_nodup L)
      exact (h1.and h2).imp fun ⟨a, b⟩ => Decidable.byContradiction fun c => b (List.le_antisymm a (List.not_lt.mp c))
    exact h1.sublist (List.take_sublist _ _)
  len := fun x hx => len x (set_mem.mp (List.mem_of_mem_take hx))
  sm := fun x hx => sm x (set_mem.mp (List.mem_of_mem_take hx))
  ne := fun q => by
    obtain ⟨x, hx⟩ := List.exists_mem_of_ne_nil _ ne
    have h2 := List.length_pos_of_mem (set_mem.mpr hx : x ∈ setTx L)
    have := congrArg List.length q
    rw [List.length_take, List.length_nil] at this
    omega
  few := by
    have h1 := (sortTx_perm (onceM L)).length_eq
    have h2 := once_len L
    rw [List.length_take]
    unfold setTx
    omega
/-- a drawn text of some letters -/
theorem drawn (P : List O) {n k : Nat} {R S : List O} {L : Tx} {ρ : En} {j : Nat} {fr : ME} {S0 : List O} (h : Pt n R S) (hn : n < 10 ^ 13) (l0 : L ≠ []) (l1 : L.length ≤ 100) (hk : k ≤ 1000) (h0 : ρ[0]? = some (some (.ref P.length))) (hj : ρ[j]? = some (some (St L))) (j9 : j < 9) (lρ : ρ.length = 12) (hw : wipeE ρ [9] = ρ) (e : fr P ρ S0 = .ok (.t (.int (k : Nat))) S) :
    ∃ (s : Tx) (S' : List O), mMeth kdStr joinG (mC (.str (cs ""))) (mCons (mLcG finT (mI rng1Of (mCons fr mNil)) (gN 9) [9] mYes (mCall m__law_one_of (mCons (mVar 0) (mCons (mVar j) mNil)))) mNil) P ρ S0 = .ok (St s) S' ∧ Pt (n + k) R S' ∧ s.length = k ∧ ∀ c ∈ s, c ∈ L := by
  obtain ⟨ys, S1, e1, p1, l1', r1⟩ := lc_inv (g := gN 9) (ft := mYes) (P := P) (ρ := ρ)
    (fe := mCall m__law_one_of (mCons (mVar 0) (mCons (mVar j) mNil)))
    (fun i S => Pt (n + i) R S) (fun y => ∃ c, y = D.t (.str [c]) ∧ c ∈ L) k (rngOf 0 (k : Nat)) 0 S (by rw [rngOf_len]; omega) (fun d hd i S hi hI => by
      obtain ⟨c, S2, e2, hc, p2⟩ := one_chr P hI (by omega) l0 (by omega)
      refine ⟨ρ.set 9 (some d), .t (.str [c]), S2, rfl, rfl, x_call (ds := [.ref P.length, St L]) (x_cons (S1 := S) ?_ (x_cons (S1 := S) ?_ rfl)) e2, p2, c, rfl, hc⟩
      · rw [e_var, List.getElem?_set_ne (by omega), h0]
      · rw [e_var, List.getElem?_set_ne (by omega), hj]) h
  obtain ⟨s, rfl, hs⟩ := choice_map ys r1
  rw [List.length_map, rngOf_len] at l1'
  rw [rngOf_len] at p1
  have hl : s.length = k := by omega
  refine ⟨s, S1, ?_, p1.mono (by omega), hl, hs⟩
  refine x_meth (d := St []) (S1 := S0) (S2 := S1) rfl rfl (x_cons (x_lc (ts := s.map fun c => T.str [c]) (x_I (ds := [.t (.int (k : Nat))]) (x_cons e rfl) (rng1_ok ⟨by omega, by omega⟩)) ?_) rfl) (join_ok P S1 s (by omega))
  rw [hw, List.map_map]
  exact e1
/-- the letters of a book -/
abbrev fiveL : List Tx := [cs "ab", cs "abc", cs "abcd", cs "bdfhz", cs "acegikmo"]
theorem five_ok : ∀ s ∈ fiveL, Small s ∧ 2 ≤ s.length ∧ s.length ≤ 8 := by decide +kernel
/-- what the steps and the ring texts are -/
structure WS (z m : Nat) (L K : List Tx) : Prop where
  len : ∀ x ∈ L, x.length = z
  sm : ∀ x ∈ L, Small x
  kk : ∀ s ∈ K, Small s ∧ s ≠ [] ∧ s.length ≤ m
abbrev wE (P : List O) (m z : Nat) (l : Tx) (L : List Tx) (o5 o6 o7 o8 o10 : Option D) : En := [some (.ref P.length), some (.t (.int (m : Nat))), some (.t (.int (z : Nat))), some (St l), some (.t (rowT L)), o5, o6, o7, o8, none, o10, none]
noncomputable abbrev wT1 : MS := (sSet 7 (mCall m__law_one_of (mCons (mVar 0) (mCons (mLst (mCons (mVar 3) (mCons (mVar 3) (mCons (mSl (mVar 3) none (some (mC (.int 2)))) (mCons (mOp2 (lT2 addT) (mSl (mVar 3) (some (mC (.int 1))) none) (mC (.str (cs "k")))) mNil))))) mNil))))
noncomputable abbrev wT2 : MS := (sSet 8 (mMeth kdStr joinG (mC (.str (cs ""))) (mCons (mLcG finT (mI rng1Of (mCons (mOp2 (lT2 addT) (mC (.int 1)) (mCall m__law_pick (mCons (mVar 0) (mCons (mVar 1) mNil)))) mNil)) (gN 9) [9] mYes (mCall m__law_one_of (mCons (mVar 0) (mCons (mVar 7) mNil)))) mNil)))
noncomputable abbrev wT3 : MS := (sIf (mB (mOp2 (lT2 leT) (mCallB lenG (mCons (mCall (pureZ m__law_tally) (mCons (mOp2 (lT2 addT) (mVar 4) (mCall (pureZ m__law_round) (mCons (mVar 2) (mCons (mVar 8) mNil)))) mNil)) mNil)) (mVar 1))) (sSeq (sSet 4 (mOp2 (lT2 addT) (mVar 4) (mCall (pureZ m__law_round) (mCons (mVar 2) (mCons (mVar 8) mNil))))) (sExpr (mMeth kdLst appendG (mVar 5) (mCons (mVar 8) mNil)))) sNil)
noncomputable abbrev wT : MS := sSeq wT1 (sSeq wT2 wT3)
def kcO (K : List Tx) : O := .lst ((K.map T.str).map D.t)
theorem wT_ok (P : List O) {n m z : Nat} {l : Tx} {L K : List Tx} {o6 o7 o8 o10 : Option D} {S : List O} (h : Pt n [kcO K] S) (hn : n < 10 ^ 12) (m1 : 1 ≤ m) (m2 : m ≤ 40) (hz : 2 ≤ z ∧ z ≤ 6) (sl : Small l) (l2 : 2 ≤ l.length) (l8 : l.length ≤ 8) (ws : WS z m L K) (lL : L.length ≤ 1000) (lK : K.length ≤ 1000) :
    ∃ (L' K' : List Tx) (p7 p8 : Option D) (S' : List O), wT P (wE P m z l L (some (.ref (P.length + 1))) o6 o7 o8 o10) S = .nx (wE P m z l L' (some (.ref (P.length + 1))) o6 p7 p8 o10) S' ∧ Pt (n + 50) [kcO K'] S' ∧ WS z m L' K' ∧ L' ≠ [] ∧ L'.length ≤ L.length + 40 ∧ K'.length ≤ K.length + 1 := by
  have ek : (cs "k") = [107] := by decide
  obtain ⟨lk, hlk⟩ : ∃ lk, lk = l.drop 1 ++ cs "k" := ⟨_, rfl⟩
  have slk : Small lk := by
    rw [hlk, ek]
    refine small_app (small_drop sl) fun c hc => ?_
    rw [List.mem_singleton.mp hc]; decide
  obtain ⟨s7, S1, e1, hs, p1⟩ := one_str P (L := [l, l, l.take 2, lk]) h (by omega) (by simp) (by simp)
  have s7s : Small s7 ∧ s7 ≠ [] ∧ s7.length ≤ 20 := by
    have : s7 = l ∨ s7 = l.take 2 ∨ s7 = lk := by
      simp at hs; rcases hs with h | h | h
      · exact .inl h
      · exact .inr (.inl h)
      · exact .inr (.inr h)
    rcases this with rfl | rfl | rfl
    · exact ⟨sl, fun q => by rw [q] at l2; simp at l2, by omega⟩
    · exact ⟨small_take sl, fun q => by have := congrArg List.length q; rw [List.length_take, List.length_nil] at this; omega, by rw [List.length_take]; omega⟩
    · exact ⟨slk, fun q => by rw [hlk, ek] at q; simp at q, by rw [hlk, ek, List.length_append, List.length_drop, List.length_singleton]; omega⟩
  have f1 : wT1 P (wE P m z l L (some (.ref (P.length + 1))) o6 o7 o8 o10) S = .nx (wE P m z l L (some (.ref (P.length + 1))) o6 (some (St s7)) o8 o10) S1 := by
    refine set_ok (x_call (ds := [.ref P.length, .t (.lst ([l, l, l.take 2, lk].map T.str))]) (x_cons (S1 := S) rfl (x_cons (S1 := S) ?_ rfl)) e1)
    have g3 := slTo_ok (fo := mVar 3) (fh := mC (.int 2)) (P := P) (ρ := wE P m z l L (some (.ref (P.length + 1))) o6 o7 o8 o10) (S := S) (S1 := S) (S3 := S) (s := l) (j := 2) rfl rfl
    rw [cutL_to l (by decide)] at g3
    have g4 := slFrom_ok (fo := mVar 3) (fl := mC (.int 1)) (P := P) (ρ := wE P m z l L (some (.ref (P.length + 1))) o6 o7 o8 o10) (S := S) (S1 := S) (S3 := S) (s := l) (i := 1) rfl rfl
    rw [cutL_from l (by decide)] at g4
    have g5 : mOp2 (lT2 addT) (mSl (mVar 3) (some (mC (.int 1))) none) (mC (.str (cs "k"))) P (wE P m z l L (some (.ref (P.length + 1))) o6 o7 o8 o10) S = .ok (St lk) S := by
      rw [hlk]
      exact x_T2 (S1 := S) g4 rfl (addT_str (by rw [szl, ek, List.length_singleton]; show (l.drop 1).length + 1 ≤ _; rw [List.length_drop]; omega))
    exact x_lst (ts := [.str l, .str l, .str (l.take 2), .str lk]) (x_cons (S1 := S) rfl (x_cons (S1 := S) rfl (x_cons (S1 := S) g3 (x_cons (S1 := S) g5 rfl)))) (by simp)
  obtain ⟨r, S2, e2, r0, r1, p2⟩ := draw_pt P (top := (m : Nat)) p1 (by omega) (by omega) (by omega)
  obtain ⟨k, hk⟩ : ∃ k : Nat, (k : Int) = 1 + r := ⟨(1 + r).toNat, by omega⟩
  obtain ⟨s, S3, e3, p3, ls, hsl⟩ := drawn P (j := 7) (ρ := wE P m z l L (some (.ref (P.length + 1))) o6 (some (St s7)) o8 o10) (fr := mOp2 (lT2 addT) (mC (.int 1)) (mCall m__law_pick (mCons (mVar 0) (mCons (mVar 1) mNil)))) (k := k) (S0 := S1) p2 (by omega) s7s.2.1 (by omega) (by omega) rfl rfl (by omega) rfl rfl (by rw [hk]; exact x_T2 (S1 := S1) rfl (x_call (ds := [.ref P.length, .t (.int (m : Nat))]) (x_cons rfl (x_cons rfl rfl)) e2) (addT_int 1 r))
  have f2 : wT2 P (wE P m z l L (some (.ref (P.length + 1))) o6 (some (St s7)) o8 o10) S1 = .nx (wE P m z l L (some (.ref (P.length + 1))) o6 (some (St s7)) (some (St s)) o10) S3 := set_ok e3
  have ss : Small s := fun c hc => s7s.1 c (hsl c hc)
  have s0 : s ≠ [] := fun q => by rw [q] at ls; simp at ls; omega
  have lsm : s.length ≤ m := by omega
  have er := round_at P S3 (z := z) s0 (by omega) (by omega)
  have lr := round_len z s
  have ea : ∀ ρ : En, ρ[4]? = some (some (.t (rowT L))) → ρ[2]? = some (some (.t (.int (z : Nat)))) → ρ[8]? = some (some (St s)) → mOp2 (lT2 addT) (mVar 4) (mCall (pureZ m__law_round) (mCons (mVar 2) (mCons (mVar 8) mNil))) P ρ S3 = .ok (.t (rowT (L ++ roundTx z s))) S3 := fun ρ h4 h2 h8 =>
    x_T2 (S1 := S3) (x := rowT L) (y := rowT (roundTx z s)) (by rw [e_var, h4]) (x_call (ds := [.t (.int (z : Nat)), St s]) (x_cons (by rw [e_var, h2]) (x_cons (by rw [e_var, h8]) rfl)) er) (addL (by omega))
  obtain ⟨A, eA, nA, mA⟩ := tally_at P S3 (L := L ++ roundTx z s) (by rw [List.length_append]; omega)
  have lA : (encT T.int A).length = A.length := len_encT _ A
  have c3 := x_Bt (P := P) (ρ := wE P m z l L (some (.ref (P.length + 1))) o6 (some (St s7)) (some (St s)) o10) (S := S3) (x_T2 (S1 := S3) (S2 := S3) (fa := mCallB lenG (mCons (mCall (pureZ m__law_tally) (mCons (mOp2 (lT2 addT) (mVar 4) (mCall (pureZ m__law_round) (mCons (mVar 2) (mCons (mVar 8) mNil)))) mNil)) mNil)) (fb := mVar 1) (x_B (ds := [.t (.dic (encT T.int A))]) (x_cons (x_call (ds := [.t (rowT (L ++ roundTx z s))]) (x_cons (ea _ rfl rfl rfl) rfl) eA) rfl) (len_dic _ P S3)) rfl (Fm.leT_int ..))
  rw [lA] at c3
  obtain ⟨a3, b3, d3, hS3, q3⟩ := id p3
  by_cases c : A.length ≤ m
  · rw [decide_eq_true (by omega)] at c3
    have hK : S3[1]? = some (.lst ((K.map T.str).map D.t)) := by rw [hS3]; rfl
    have eap := gc_app (P := P) hK (St s) (by rw [List.length_map, List.length_map]; omega)
    have ekd := gc_kd (P := P) hK
    have hset : S3.set 1 (.lst ((K.map T.str).map D.t ++ [St s])) = [pot a3 b3 d3, kcO (K ++ [s])] := by
      rw [hS3]
      unfold kcO
      rw [List.map_append, List.map_append]; rfl
    rw [hset] at eap
    refine ⟨L ++ roundTx z s, K ++ [s], some (St s7), some (St s), [pot a3 b3 d3, kcO (K ++ [s])], ?_, ?_, ⟨fun x hx => ?_, fun x hx => ?_, fun x hx => ?_⟩, ?_, by rw [List.length_append]; omega, by rw [List.length_append]; simp⟩
    · exact seq_nx' f1 (seq_nx' f2 (if_nx (b := true) c3 (seq_nx' (set_ok (ea _ rfl rfl rfl)) (x_expr (x_meth (d := .ref (P.length + 1)) (ds := [St s]) rfl ekd (x_cons rfl rfl) eap)))))
    · exact ⟨a3, b3, d3, rfl, q3.1, by omega, q3.2.2⟩
    · rcases List.mem_append.mp hx with hx | hx
      · exact ws.len x hx
      · obtain ⟨i, _, rfl⟩ := round_mem hx; exact readTx_len ..
    · rcases List.mem_append.mp hx with hx | hx
      · exact ws.sm x hx
      · obtain ⟨i, _, rfl⟩ := round_mem hx; exact small_read s0 ss _ _
    · rcases List.mem_append.mp hx with hx | hx
      · exact ws.kk x hx
      · rw [List.mem_singleton.mp hx]; exact ⟨ss, s0, lsm⟩
    · intro q
      have := congrArg List.length q
      rw [List.length_append, List.length_nil] at this
      have := List.length_pos_iff.mpr s0
      omega
  · rw [decide_eq_false (by omega)] at c3
    have hL : L ≠ [] := fun q => by
      rw [q, List.nil_append] at mA
      have := nA.length_le_of_subset fun x hx => (mA x).mp hx
      rw [len_keyA] at this
      omega
    exact ⟨L, K, some (St s7), some (St s), S3, seq_nx' f1 (seq_nx' f2 (if_nx (b := false) c3 rfl)), p3.mono (by omega), ws, hL, by omega, by omega⟩
end Lw

set_option maxHeartbeats 4000000
/-! A8: _law_wide_book -/
namespace Lw
open Fm
section
variable {P S : List O} {j : Nat}
theorem gc_len {l : List D} (h : S[j]? = some (.lst l)) : lenG [.ref (P.length + j)] P S = some (.t (.int (l.length : Nat)), S) := by
  unfold lenG
  simp only [gc_at (P := P) h]
theorem gc_popI {l : List D} {r : Int} (h : S[j]? = some (.lst l)) (h0 : 0 ≤ r) (h1 : r < l.length) (hl : l.length ≤ 1000) : ∃ y, popG (.ref (P.length + j)) [.t (.int r)] P S = some (y, S.set j (.lst (l.eraseIdx r.toNat))) := by
  have hx : L2.ixN l.length r = some r.toNat := by
    unfold L2.ixN
    rw [if_pos h0, if_pos h1]
  have hr : r.toNat < l.length := by omega
  refine ⟨l[r.toNat], ?_⟩
  unfold popG
  rw [gc_cell h]
  simp only
  rw [if_pos (by omega), hx]
  simp only [List.getElem?_eq_getElem hr]
  rfl
theorem x_sortC {f : ME} {ρ : En} {S1 : List O} {d : D} {l : List T} (h : f P ρ S = .ok d S1) (hs : sortIn P S1 d = some l) : mSort mkC f P ρ S = .ok (.ref (P.length + S1.length)) (S1 ++ [.lst (l.map D.t)]) := by
  rw [e_sort, h, Fm.R.bind_ok, hs]; rfl
end
noncomputable abbrev wU : MS := (sSet 4 (mOp2 (lT2 addT) (mVar 4) (mLst (mCons (mMeth kdStr joinG (mC (.str (cs ""))) (mCons (mLcG finT (mI rng1Of (mCons (mVar 2) mNil)) (gN 9) [9] mYes (mCall m__law_one_of (mCons (mVar 0) (mCons (mVar 3) mNil)))) mNil)) mNil))))
theorem wU_ok (P : List O) {n m z : Nat} {l : Tx} {L K : List Tx} {o5 o6 o7 o8 o10 : Option D} {S : List O} (h : Pt n [kcO K] S) (hn : n < 10 ^ 12) (hz : 2 ≤ z ∧ z ≤ 6) (sl : Small l) (l2 : 2 ≤ l.length) (l8 : l.length ≤ 8) (ws : WS z m L K) (lL : L.length ≤ 1000) :
    ∃ (L' : List Tx) (S' : List O), wU P (wE P m z l L o5 o6 o7 o8 o10) S = .nx (wE P m z l L' o5 o6 o7 o8 o10) S' ∧ Pt (n + 50) [kcO K] S' ∧ WS z m L' K ∧ L' ≠ [] ∧ L'.length = L.length + 1 := by
  have l0 : l ≠ [] := fun q => by rw [q] at l2; simp at l2
  obtain ⟨s, S1, e1, p1, ls, hs⟩ := drawn P (j := 3) (ρ := wE P m z l L o5 o6 o7 o8 o10) (fr := mVar 2) (k := z) (S0 := S) h (by omega) l0 (by omega) (by omega) rfl rfl (by omega) rfl rfl rfl
  refine ⟨L ++ [s], S1, ?_, p1.mono (by omega), ⟨fun x hx => ?_, fun x hx => ?_, ws.kk⟩, by simp, by rw [List.length_append]; rfl⟩
  · exact set_ok (x_T2 (S1 := S) (x := rowT L) (y := rowT [s]) rfl (x_lst (ts := [.str s]) (x_cons e1 rfl) (by simp)) (addL (b := [s]) (by rw [List.length_singleton]; omega)))
  · rcases List.mem_append.mp hx with hx | hx
    · exact ws.len x hx
    · rw [List.mem_singleton.mp hx]; exact ls
  · rcases List.mem_append.mp hx with hx | hx
    · exact ws.sm x hx
    · rw [List.mem_singleton.mp hx]; exact fun c hc => sl c (hs c hc)
noncomputable abbrev wV : MS := (sIf (mB (mOp2 (lT2 gtT) (mCallB lenG (mCons (mVar 10) mNil)) (mC (.int 1)))) (sExpr (mMeth kdLst popG (mVar 10) (mCons (mCall m__law_pick (mCons (mVar 0) (mCons (mCallB lenG (mCons (mVar 10) mNil)) mNil))) mNil))) sNil)
theorem wV_ok (P : List O) {n z m : Nat} {ρ : En} {V : List Tx} {c1 c2 : O} {S : List O} (h : Pt n [c1, c2, kcO V] S) (hn : n < 10 ^ 12) (h0 : ρ[0]? = some (some (.ref P.length))) (h10 : ρ[10]? = some (some (.ref (P.length + 3)))) (w : Wins z V) (lV : V.length ≤ m) (hm : m ≤ 40) :
    ∃ (V' : List Tx) (S' : List O), wV P ρ S = .nx ρ S' ∧ Pt (n + 1) [c1, c2, kcO V'] S' ∧ Wins z V' ∧ V'.length ≤ m := by
  obtain ⟨a, b, c, rfl, hc⟩ := id h
  have hat : ([pot a b c, c1, c2, kcO V] : List O)[3]? = some (.lst ((V.map T.str).map D.t)) := rfl
  have hlen := gc_len (P := P) hat
  rw [List.length_map, List.length_map] at hlen
  have e10 : ∀ X : List O, mVar 10 P ρ X = .ok (.ref (P.length + 3)) X := fun X => by rw [e_var, h10]
  have el := x_B (P := P) (ρ := ρ) (S := [pot a b c, c1, c2, kcO V]) (S1 := [pot a b c, c1, c2, kcO V]) (fs := mCons (mVar 10) mNil) (ds := [.ref (P.length + 3)]) (x_cons (e10 _) rfl) hlen
  have ct := x_Bt (P := P) (ρ := ρ) (S := [pot a b c, c1, c2, kcO V]) (x_T2 (S1 := [pot a b c, c1, c2, kcO V]) (S2 := [pot a b c, c1, c2, kcO V]) (fb := mC (.int 1)) el rfl (Fm.gtT_int ..))
  by_cases g : 1 < V.length
  · rw [decide_eq_true (by omega)] at ct
    obtain ⟨r, S1, e1, r0, r1, p1⟩ := draw_pt P (top := (V.length : Nat)) h (by omega) (by omega) (by omega)
    obtain ⟨a', b', c', rfl, hc'⟩ := id p1
    have hat' : ([pot a' b' c', c1, c2, kcO V] : List O)[3]? = some (.lst ((V.map T.str).map D.t)) := rfl
    obtain ⟨y, ep⟩ := gc_popI (P := P) hat' r0 (by rw [List.length_map, List.length_map]; exact r1) (by rw [List.length_map, List.length_map]; omega)
    have ekd := gc_kd (P := P) hat'
    have hr : r.toNat < V.length := by omega
    have le := List.length_eraseIdx_of_lt hr
    have hs : ([pot a' b' c', c1, c2, kcO V] : List O).set 3 (.lst (((V.map T.str).map D.t).eraseIdx r.toNat)) = [pot a' b' c', c1, c2, kcO (V.eraseIdx r.toNat)] := by
      unfold kcO
      simp only [List.eraseIdx_eq_take_drop_succ, List.map_append, List.map_take, List.map_drop]
      rfl
    rw [hs] at ep
    refine ⟨V.eraseIdx r.toNat, [pot a' b' c', c1, c2, kcO (V.eraseIdx r.toNat)], ?_, ⟨a', b', c', rfl, hc'⟩, wins_subl w (List.eraseIdx_sublist ..) (fun q => by rw [q] at le; simp at le; omega), by omega⟩
    exact if_nx (b := true) ct (x_expr (x_meth (d := .ref (P.length + 3)) (ds := [.t (.int r)]) (S1 := [pot a b c, c1, c2, kcO V]) (S2 := [pot a' b' c', c1, c2, kcO V]) (e10 _) (gc_kd (P := P) hat) (x_cons (x_call (ds := [.ref P.length, .t (.int (V.length : Nat))]) (x_cons (S1 := [pot a b c, c1, c2, kcO V]) (by rw [e_var, h0]) (x_cons el rfl)) e1) rfl) ep))
  · rw [decide_eq_false (by omega)] at ct
    exact ⟨V, _, if_nx (b := false) ct rfl, h.mono (by omega), w, lV⟩
theorem wide_ok (P : List O) {n m : Nat} {S : List O} (h : Pt n [] S) (hn : n < 10 ^ 11) (m1 : 1 ≤ m) (m2 : m ≤ 40) :
    ∃ (z : Nat) (V K : List Tx) (S1 X : List O), m__law_wide_book [.ref P.length, .t (.int (m : Nat))] P S = .ok (.t (.tup [bookT z V, .lst (K.map T.str)])) (S1 ++ X) ∧ Pt (n + 1000) [] S1 ∧ (2 ≤ z ∧ z ≤ 6) ∧ Wins z V ∧ V.length ≤ m ∧ K.length ≤ 5 ∧ ∀ s ∈ K, Small s ∧ s ≠ [] ∧ s.length ≤ m := by
  obtain ⟨r1, T1, e1, a1, b1, p1⟩ := draw_pt P (top := 5) h (by omega) (by decide) (by decide)
  obtain ⟨z, hz⟩ : ∃ z : Nat, (z : Int) = 2 + r1 := ⟨(2 + r1).toNat, by omega⟩
  have hz2 : 2 ≤ z ∧ z ≤ 6 := by omega
  obtain ⟨l, T2, e2, hl, p2⟩ := one_str P (L := fiveL) p1 (by omega) (by simp) (by simp)
  obtain ⟨sl, l2, l8⟩ := five_ok l hl
  -- rings is a new cell
  have p2' : Pt (n + 2) [kcO []] (T2 ++ [kcO []]) := by
    obtain ⟨a, b, c, rfl, hc⟩ := p2
    exact ⟨a, b, c, rfl, hc⟩
  have lT2' : T2.length = 1 := by obtain ⟨a, b, c, rfl, _⟩ := p2; rfl
  have f1 : sPar2 2 3 (mCons (mOp2 (lT2 addT) (mC (.int 2)) (mCall m__law_pick (mCons (mVar 0) (mCons (mC (.int 5)) mNil)))) (mCons (mCall m__law_one_of (mCons (mVar 0) (mCons (mLst (mCons (mC (.str (cs "ab"))) (mCons (mC (.str (cs "abc"))) (mCons (mC (.str (cs "abcd"))) (mCons (mC (.str (cs "bdfhz"))) (mCons (mC (.str (cs "acegikmo"))) mNil)))))) mNil))) mNil)) P [some (.ref P.length), some (.t (.int (m : Nat))), none, none, none, none, none, none, none, none, none, none] S = .nx [some (.ref P.length), some (.t (.int (m : Nat))), some (.t (.int (z : Nat))), some (St l), none, none, none, none, none, none, none, none] T2 := by
    rw [hz]
    exact x_par2 (u := .t (.int (2 + r1))) (v := St l) (x_cons (S1 := T1) (x_T2 (S1 := S) rfl (x_call (ds := [.ref P.length, .t (.int 5)]) (x_cons rfl (x_cons rfl rfl)) e1) (addT_int 2 r1)) (x_cons (S1 := T2) (x_call (ds := [.ref P.length, .t (.lst (fiveL.map T.str))]) (x_cons (S1 := T1) rfl (x_cons (S1 := T1) (x_lst (ts := fiveL.map T.str) (x_cons rfl (x_cons rfl (x_cons rfl (x_cons rfl (x_cons rfl rfl))))) (by simp)) rfl)) e2) rfl))
  have f2 : sPar2 4 5 (mCons (mLst mNil) (mCons (mLstC mNil) mNil)) P [some (.ref P.length), some (.t (.int (m : Nat))), some (.t (.int (z : Nat))), some (St l), none, none, none, none, none, none, none, none] T2 = .nx (wE P m z l [] (some (.ref (P.length + 1))) none none none none) (T2 ++ [kcO []]) := by
    refine x_par2 (u := .t (rowT [])) (v := .ref (P.length + 1)) (x_cons (S1 := T2) (x_lst (ts := []) rfl (by simp)) (x_cons (S1 := T2 ++ [kcO []]) ?_ rfl))
    rw [e_lstC, e_nil, Fm.R.bind_ok, lT2']
    rfl
  obtain ⟨r3, T3, e3, a3, b3, p3⟩ := draw_pt P (top := 5) p2' (by omega) (by decide) (by decide)
  obtain ⟨ρ4, T4, e4, L4, K4, q6, q7, q8, rfl, p4, ws4, ne4, lL4, lK4⟩ := for_inv (g := gN 6) (fb := wT) (P := P)
    (fun k ρ S => ∃ (L K : List Tx) (p6 p7 p8 : Option D), ρ = wE P m z l L (some (.ref (P.length + 1))) p6 p7 p8 none ∧ Pt (n + 3 + 50 * k) [kcO K] S ∧ WS z m L K ∧ (1 ≤ k → L ≠ []) ∧ L.length ≤ 40 * k ∧ K.length ≤ k)
    (rngOf 0 (1 + r3)) 0 (wE P m z l [] (some (.ref (P.length + 1))) none none none none) T3 (fun k d ρ S hk ⟨L, K, p6, p7, p8, hρ, p, ws, ne, lL, lK⟩ => by
      subst hρ
      obtain ⟨rfl, hlt⟩ := rngOf_at hk
      rw [Nat.zero_add] at p lL lK ⊢
      obtain ⟨L', K', p7', p8', S', e, p', ws', ne', lL', lK'⟩ := wT_ok P (o6 := some (.t (.int ((0 : Int) + (k : Nat))))) (o7 := p7) (o8 := p8) (o10 := none) p (by omega) m1 m2 hz2 sl l2 l8 ws (by omega) (by omega)
      exact ⟨_, rfl, _, S', .inl e, L', K', _, p7', p8', rfl, p'.mono (by omega), ws', fun _ => ne', by omega, by omega⟩) ⟨[], [], none, none, none, rfl, p3, ⟨fun x hx => (nomatch hx), fun x hx => (nomatch hx), fun x hx => (nomatch hx)⟩, fun q => absurd q (by decide), by simp, by simp⟩
  rw [Nat.zero_add, rngOf_len] at p4 lL4 lK4 ne4
  have ne4 := ne4 (by omega)
  obtain ⟨r5, T5, e5, h5, p5⟩ := one_int P (L := [0, 0, 0, 1, 3]) p4 (by omega) (by simp) (by simp)
  have h5 : r5 = 0 ∨ r5 = 1 ∨ r5 = 3 := by simpa using h5
  obtain ⟨ρ6, T6, e6, L6, u6, u7, u8, rfl, p6, ws6, ne6, lL6⟩ := for_inv (g := gN 6) (fb := wU) (P := P)
    (fun k ρ S => ∃ (L : List Tx) (p6 p7 p8 : Option D), ρ = wE P m z l L (some (.ref (P.length + 1))) p6 p7 p8 none ∧ Pt (n + 300 + 50 * k) [kcO K4] S ∧ WS z m L K4 ∧ L ≠ [] ∧ L.length ≤ 200 + k)
    (rngOf 0 r5) 0 (wE P m z l L4 (some (.ref (P.length + 1))) q6 q7 q8 none) T5 (fun k d ρ S hk ⟨L, p6, p7, p8, hρ, p, ws, ne, lL⟩ => by
      subst hρ
      obtain ⟨rfl, hlt⟩ := rngOf_at hk
      rw [Nat.zero_add] at p lL ⊢
      obtain ⟨L', S', e, p', ws', ne', lL'⟩ := wU_ok P (o5 := some (.ref (P.length + 1))) (o6 := some (.t (.int ((0 : Int) + (k : Nat))))) (o7 := p7) (o8 := p8) (o10 := none) p (by omega) hz2 sl l2 l8 ws (by omega)
      exact ⟨_, rfl, _, S', .inl e, L', _, p7, p8, rfl, p'.mono (by omega), ws', ne', by omega⟩) ⟨L4, q6, q7, q8, rfl, p5.mono (by omega), ws4, ne4, by omega⟩
  rw [Nat.zero_add, rngOf_len] at p6 lL6
  obtain ⟨A, eA, nA, mA⟩ := tally_at P T6 (L := L6) (by omega)
  have hsort : sortIn P T6 (.t (.dic (encT T.int A))) = some ((setTx L6).map T.str) := by
    rw [sort_dic (keyA_enc T.int A), setTx_of nA mA]
  obtain ⟨a6, b6, c6, hT6, hc6⟩ := id p6
  have lT6 : T6.length = 2 := by rw [hT6]; rfl
  have w6 := wins_take (m := m) ws6.len ws6.sm ne6 (by omega) m1
  obtain ⟨V6, hV6⟩ : ∃ V6, V6 = (setTx L6).take m := ⟨_, rfl⟩
  rw [← hV6] at w6
  have lV6 : V6.length ≤ m := by rw [hV6, List.length_take]; omega
  have f6 : sSet 10 (mSlCC (mSort mkC (mCall (pureZ m__law_tally) (mCons (mVar 4) mNil))) none (some (mVar 1))) P (wE P m z l L6 (some (.ref (P.length + 1))) u6 u7 u8 none) T6 = .nx (wE P m z l L6 (some (.ref (P.length + 1))) u6 u7 u8 (some (.ref (P.length + 3)))) [pot a6 b6 c6, kcO K4, kcO (setTx L6), kcO V6] := by
    have es := x_sortC (P := P) (ρ := wE P m z l L6 (some (.ref (P.length + 1))) u6 u7 u8 none) (S := T6) (S1 := T6) (f := mCall (pureZ m__law_tally) (mCons (mVar 4) mNil)) (x_call (ds := [.t (rowT L6)]) (x_cons rfl rfl) eA) hsort
    have e := x_slCC (P := P) (ρ := wE P m z l L6 (some (.ref (P.length + 1))) u6 u7 u8 none) (lo := none) (hi := some (mVar 1)) (i := none) (j := some ((m : Nat) : Int)) es rfl (by rw [e_partS, e_var]; rfl) (by rw [lT6, hT6]; exact gc_at (j := 2) rfl)
    rw [cut_map, cutL_to _ (by omega), show ((m : Nat) : Int).toNat = m from rfl, ← hV6] at e
    rw [hT6] at e ⊢
    exact set_ok e
  obtain ⟨r7, T7, e7, h7, p7⟩ := one_int P (L := [0, 0, 0, 1, 2]) (n := n + 300 + 50 * 3) (S := [pot a6 b6 c6, kcO K4, kcO (setTx L6), kcO V6]) (R := [kcO K4, kcO (setTx L6), kcO V6]) ⟨a6, b6, c6, rfl, hc6.1, by omega, hc6.2.2⟩ (by omega) (by simp) (by simp)
  have h7 : r7 = 0 ∨ r7 = 1 ∨ r7 = 2 := by simpa using h7
  obtain ⟨ρ8, T8, e8, V8, v6, rfl, p8, w8, lV8⟩ := for_inv (g := gN 6) (fb := wV) (P := P)
    (fun k ρ S => ∃ (V : List Tx) (p6 : Option D), ρ = wE P m z l L6 (some (.ref (P.length + 1))) p6 u7 u8 (some (.ref (P.length + 3))) ∧ Pt (n + 500 + k) [kcO K4, kcO (setTx L6), kcO V] S ∧ Wins z V ∧ V.length ≤ m)
    (rngOf 0 r7) 0 (wE P m z l L6 (some (.ref (P.length + 1))) u6 u7 u8 (some (.ref (P.length + 3)))) T7 (fun k d ρ S hk ⟨V, p6, hρ, p, w, lV⟩ => by
      subst hρ
      obtain ⟨rfl, hlt⟩ := rngOf_at hk
      rw [Nat.zero_add] at p ⊢
      obtain ⟨V', S', e, p', w', lV'⟩ := wV_ok P (ρ := wE P m z l L6 (some (.ref (P.length + 1))) (some (.t (.int ((0 : Int) + (k : Nat))))) u7 u8 (some (.ref (P.length + 3)))) p (by omega) rfl rfl w lV m2
      exact ⟨_, rfl, _, S', .inl e, V', _, rfl, p'.mono (by omega), w', lV'⟩) ⟨V6, u6, rfl, p7.mono (by omega), w6, lV6⟩
  rw [Nat.zero_add, rngOf_len] at p8
  obtain ⟨a8, b8, c8, rfl, hc8⟩ := id p8
  have g1 := gc_frz (P := P) (S := [pot a8 b8 c8, kcO K4, kcO (setTx L6), kcO V8]) (j := 3) (ts := V8.map T.str) rfl
  have g2 := gc_frz (P := P) (S := [pot a8 b8 c8, kcO K4, kcO (setTx L6), .dead]) (j := 1) (ts := K4.map T.str) rfl
  obtain ⟨E, hE⟩ : ∃ E : List O, E = [pot a8 b8 c8, .dead, kcO (setTx L6), .dead] := ⟨_, rfl⟩
  obtain ⟨ρE, hρE⟩ : ∃ ρE : En, ρE = [some (.ref P.length), some (.t (.int (m : Nat))), some (.t (.int (z : Nat))), some (St l), some (.t (rowT L6)), some (.t (rowT K4)), v6, u7, none, none, some (.t (rowT V8)), none] := ⟨_, rfl⟩
  have el := lc_filter (g := gN 8) (ft := mB (mOp2 (lT2 eqT) (mCallB lenG (mCons (mCall (pureZ m__law_without) (mCons (mCall (pureZ m__law_round) (mCons (mVar 2) (mCons (mVar 8) mNil))) (mCons (mVar 10) mNil))) mNil)) (mC (.int 0)))) (fe := mVar 8) (P := P) (S := E) (ρ := ρE) (fun s : Tx => D.t (.str s)) (fun s => decide (((wo (roundTx z s) V8).length : Int) = 0)) (fun s : Tx => D.t (.str s)) K4 (fun s hs => by
    obtain ⟨k1, k2, k3⟩ := ws6.kk s hs
    subst hρE
    refine ⟨_, rfl, ?_, fun _ => rfl⟩
    have er := round_at P E (z := z) k2 (by omega) (by omega)
    have ew := without_at P E (sq_lst (roundTx z s)) (sq_lst V8) (by rw [round_len]; omega)
    exact x_Bt (x_T2 (S1 := E) (x_B (ds := [.t (.lst ((wo (roundTx z s) V8).map T.str))]) (x_cons (x_call (ds := [.t (rowT (roundTx z s)), .t (rowT V8)]) (x_cons (S1 := E) (x_call (ds := [.t (.int (z : Nat)), St s]) (x_cons rfl (x_cons rfl rfl)) er) (x_cons rfl rfl)) ew) rfl) (by rw [len_lst, List.length_map])) rfl (Fm.eqT_int ..)))
  obtain ⟨K', hK'⟩ : ∃ K', K' = K4.filter (fun s => decide (((wo (roundTx z s) V8).length : Int) = 0)) := ⟨_, rfl⟩
  rw [← hK'] at el
  refine ⟨z, V8, K', [pot a8 b8 c8], [.dead, kcO (setTx L6), .dead], ?_, ⟨a8, b8, c8, rfl, hc8.1, by omega, hc8.2.2⟩, hz2, w8, lV8, ?_, fun s hs => ws6.kk s ((List.mem_filter.mp (by rw [hK'] at hs; exact hs)).1)⟩
  · rw [m__law_wide_book]
    refine def_rt ?_
    show b__law_wide_book P [some (.ref P.length), some (.t (.int (m : Nat))), none, none, none, none, none, none, none, none, none, none] S = _
    unfold b__law_wide_book
    refine seq_nx' f1 (seq_nx' f2 ?_)
    refine seq_nx' (for_ok (S1 := T3) (x_I (ds := [.t (.int (1 + r3))]) (x_cons (x_T2 (S1 := T2 ++ [kcO []]) rfl (x_call (ds := [.ref P.length, .t (.int 5)]) (x_cons rfl (x_cons rfl rfl)) e3) (addT_int 1 r3)) rfl) (rng1_ok ⟨by omega, by omega⟩)) e4) ?_
    refine seq_nx' (for_ok (S1 := T5) (x_I (ds := [.t (.int r5)]) (x_cons (x_call (ds := [.ref P.length, .t (.lst (([0, 0, 0, 1, 3] : List Int).map T.int))]) (x_cons (S1 := T4) rfl (x_cons (S1 := T4) (x_lst (ts := [.int 0, .int 0, .int 0, .int 1, .int 3]) (x_cons rfl (x_cons rfl (x_cons rfl (x_cons rfl (x_cons rfl rfl))))) (by simp)) rfl)) e5) rfl) (rng1_ok ⟨by omega, by omega⟩)) e6) ?_
    refine seq_nx' f6 ?_
    refine seq_nx' (for_ok (S1 := T7) (x_I (ds := [.t (.int r7)]) (x_cons (x_call (ds := [.ref P.length, .t (.lst (([0, 0, 0, 1, 2] : List Int).map T.int))]) (x_cons (S1 := [pot a6 b6 c6, kcO K4, kcO (setTx L6), kcO V6]) rfl (x_cons (S1 := [pot a6 b6 c6, kcO K4, kcO (setTx L6), kcO V6]) (x_lst (ts := [.int 0, .int 0, .int 0, .int 1, .int 2]) (x_cons rfl (x_cons rfl (x_cons rfl (x_cons rfl (x_cons rfl rfl))))) (by simp)) rfl)) e7) rfl) (rng1_ok ⟨by omega, by omega⟩)) e8) ?_
    refine seq_nx' (x_frz _ _ (d := .ref (P.length + 3)) rfl g1) (seq_nx' (x_frz _ _ (d := .ref (P.length + 1)) rfl g2) ?_)
    have f11 : sSet 11 (mLcG finT (mIt (mVar 5)) (gN 8) [8] (mB (mOp2 (lT2 eqT) (mCallB lenG (mCons (mCall (pureZ m__law_without) (mCons (mCall (pureZ m__law_round) (mCons (mVar 2) (mCons (mVar 8) mNil))) (mCons (mVar 10) mNil))) mNil)) (mC (.int 0)))) (mVar 8)) P [some (.ref P.length), some (.t (.int (m : Nat))), some (.t (.int (z : Nat))), some (St l), some (.t (rowT L6)), some (.t (rowT K4)), v6, u7, u8, none, some (.t (rowT V8)), none] E = .nx [some (.ref P.length), some (.t (.int (m : Nat))), some (.t (.int (z : Nat))), some (St l), some (.t (rowT L6)), some (.t (rowT K4)), v6, u7, u8, none, some (.t (rowT V8)), some (.t (rowT K'))] E := by
      rw [hρE] at el
      exact set_ok (x_lc (P := P) (fi := mIt (mVar 5)) (S := E) (ts := K'.map T.str) (x_It (S1 := E) (d := .t (rowT K4)) rfl (items_lst P K4)) (by rw [List.map_map]; exact el))
    rw [hE] at f11
    exact seq_nx' f11 (ret_ok (x_tup (ts := [bookT z V8, .lst (K'.map T.str)]) (x_cons (x_tup (ts := [.int (z : Nat), .tup (V8.map T.str)]) (x_cons rfl (x_cons (x_B1 (x := .lst (V8.map T.str)) rfl rfl) rfl)) (by simp)) (x_cons rfl rfl)) (by simp)))
  · rw [hK']
    exact Nat.le_trans (List.length_filter_le _ _) (by omega)
end Lw

set_option maxHeartbeats 4000000
/-! A9: the lots -/
namespace Lw
open Fm
abbrev luT (L : List Tx) : T := .tup (L.map T.str)
theorem items_lots (P : List O) (lots : List (List Tx)) : itemsOf P (.t (lotsT lots)) = some (lots.map fun L => D.t (luT L)) := by
  show some ((lots.map luT).map D.t) = _
  rw [List.map_map]; rfl
theorem lots_filter (P S : List O) {W : List Tx} {ρ : En} {i j : Nat} {fs : MI} {x : T} (q : Sq x W) (lots : List (List Tx)) (hi : i < ρ.length) (ne : j ≠ i) (hj : ρ[j]? = some (some (.t x))) (hw : wipeE ρ [i] = ρ) (e : fs P ρ S = .ok (lots.map fun L => D.t (luT L)) S) (sub : ∀ L ∈ lots, L.Sublist W) :
    ∃ lots', mLcG finT fs (gN i) [i] (mB (mOp2 (lT2 ltT) (mCallB lenG (mCons (mVar i) mNil)) (mCallB lenG (mCons (mVar j) mNil)))) (mVar i) P ρ S = .ok (.t (lotsT lots')) S ∧ LotsOK W lots' := by
  have el := lc_filter (g := gN i) (ft := mB (mOp2 (lT2 ltT) (mCallB lenG (mCons (mVar i) mNil)) (mCallB lenG (mCons (mVar j) mNil)))) (fe := mVar i) (P := P) (S := S) (ρ := ρ) (fun L : List Tx => D.t (luT L)) (fun L => decide ((L.length : Int) < (W.length : Nat))) (fun L : List Tx => D.t (luT L)) lots (fun L _ => by
    have hv : mVar i P (ρ.set i (some (.t (luT L)))) S = .ok (.t (luT L)) S := by rw [e_var, List.getElem?_set_self hi]
    have hv2 : mVar j P (ρ.set i (some (.t (luT L)))) S = .ok (.t x) S := by rw [e_var, List.getElem?_set_ne (Ne.symm ne), hj]
    exact ⟨_, rfl, x_Bt (x_T2 (S1 := S) (x_B (ds := [.t (luT L)]) (x_cons hv rfl) (by rw [len_tup, List.length_map])) (x_B (ds := [.t x]) (x_cons hv2 rfl) (q.ln P S)) (Fm.ltT_int ..)), fun _ => hv⟩)
  refine ⟨lots.filter fun L => decide ((L.length : Int) < (W.length : Nat)), ?_, fun L hL => ?_⟩
  · refine x_lc (ts := (lots.filter fun L => decide ((L.length : Int) < (W.length : Nat))).map luT) e ?_
    rw [hw, List.map_map]
    exact el
  · obtain ⟨h1, h2⟩ := List.mem_filter.mp hL
    have := of_decide_eq_true h2
    exact ⟨sub L h1, by omega⟩
noncomputable abbrev alB : MS := (sSet 1 (mOp2 (lT2 addT) (mVar 1) (mLcG finT (mIt (mVar 1)) (gN 3) [3] mYes (mOp2 (lT2 addT) (mVar 3) (mTup (mCons (mVar 2) mNil))))))
theorem alllots_at (P S : List O) {W : List Tx} (few : W.length ≤ 10) : ∃ lots, pureZ m__law_all_lots [.t (luT W)] P S = .ok (.t (lotsT lots)) S ∧ LotsOK W lots := by
  suffices hh : ∀ P' : List O, ∃ lots, m__law_all_lots [.t (luT W)] P' [] = .ok (.t (lotsT lots)) [] ∧ LotsOK W lots by
    obtain ⟨lots, e, q⟩ := hh (P ++ S)
    exact ⟨lots, pureZ_t e, q⟩
  intro P'
  obtain ⟨ρ', S', e, lots, o2, rfl, rfl, hsub, _⟩ := for_inv (g := gN 2) (fb := alB) (P := P')
    (fun k ρ S => ∃ (lots : List (List Tx)) (o2 : Option D), ρ = [some (.t (luT W)), some (.t (lotsT lots)), o2, none] ∧ S = [] ∧ (∀ L ∈ lots, L.Sublist (W.take k)) ∧ lots.length ≤ 2 ^ k)
    (W.map fun x => D.t (.str x)) 0 [some (.t (luT W)), some (.t (lotsT [[]])), none, none] [] (fun k d ρ S hk ⟨lots, o2, hρ, hS, hsub, ll⟩ => by
      subst hρ hS
      rw [Nat.zero_add] at hsub ll ⊢
      rw [List.getElem?_map] at hk
      cases q : W[k]? with
      | none => rw [q] at hk; cases hk
      | some w =>
        rw [q] at hk
        cases hk
        have kl := (List.getElem?_eq_some_iff.mp q).1
        have tk : W.take (k + 1) = W.take k ++ [w] := by rw [List.take_add_one, q]; rfl
        have p2 : 2 ^ k ≤ 2 ^ 10 := Nat.pow_le_pow_right (by decide) (by omega)
        have el := lc_all (g := gN 3) (fe := mOp2 (lT2 addT) (mVar 3) (mTup (mCons (mVar 2) mNil))) (P := P') (S := []) (ρ := [some (.t (luT W)), some (.t (lotsT lots)), some (St w), none]) (fun L : List Tx => D.t (luT L)) (fun L => luT (L ++ [w])) lots (fun L hL => ⟨_, rfl, by
          have lL : L.length ≤ 10 := Nat.le_trans (hsub L hL).length_le (by rw [List.length_take]; omega)
          show mOp2 (lT2 addT) (mVar 3) (mTup (mCons (mVar 2) mNil)) P' [some (.t (luT W)), some (.t (lotsT lots)), some (St w), some (.t (luT L))] [] = .ok (.t (.tup ((L ++ [w]).map T.str))) []
          rw [List.map_append]
          exact x_T2 (S1 := []) rfl (x_tup (ts := [.str w]) (x_cons rfl rfl) (by simp)) (addU (by rw [List.length_map, List.length_singleton]; omega))⟩)
        have e2 : mLcG finT (mIt (mVar 1)) (gN 3) [3] mYes (mOp2 (lT2 addT) (mVar 3) (mTup (mCons (mVar 2) mNil))) P' [some (.t (luT W)), some (.t (lotsT lots)), some (St w), none] [] = .ok (.t (lotsT (lots.map fun L => L ++ [w]))) [] := by
          have := x_lc (P := P') (ρ := [some (.t (luT W)), some (.t (lotsT lots)), some (St w), none]) (S := []) (S1 := []) (fi := mIt (mVar 1)) (vs := [3]) (ts := lots.map fun L => luT (L ++ [w])) (x_It rfl (items_lots P' lots)) (el.trans (by rw [List.map_map]; rfl))
          rw [this]
          unfold lotsT
          rw [List.map_map]; rfl
        refine ⟨_, rfl, [some (.t (luT W)), some (.t (lotsT (lots ++ lots.map fun L => L ++ [w]))), some (St w), none], [], .inl (set_ok (x_T2 (S1 := []) (x := lotsT lots) (y := lotsT (lots.map fun L => L ++ [w])) rfl e2 ?_)), _, _, rfl, rfl, fun L hL => ?_, ?_⟩
        · unfold lotsT
          rw [addT_lst (by rw [List.length_map, List.length_map, List.length_map]; omega), ← List.map_append]
        · rw [tk]
          rcases List.mem_append.mp hL with hL | hL
          · exact (hsub L hL).trans (List.sublist_append_left ..)
          · obtain ⟨L', hL', rfl⟩ := List.mem_map.mp hL
            exact (hsub L' hL').append (List.Sublist.refl _)
        · rw [List.length_append, List.length_map, Nat.pow_succ]; omega) ⟨[[]], none, rfl, rfl, fun L hL => by rw [List.mem_singleton.mp hL]; exact List.nil_sublist _, by simp⟩
  rw [List.length_map, Nat.zero_add, List.take_length] at hsub
  obtain ⟨lots', e2, h2⟩ := lots_filter P' [] (ρ := [some (.t (luT W)), some (.t (lotsT lots)), o2, none]) (i := 3) (j := 0) (fs := mIt (mVar 1)) (sq_tup W) lots (by simp) (by decide) rfl rfl (x_It rfl (items_lots P' lots)) hsub
  refine ⟨lots', ?_, h2⟩
  rw [m__law_all_lots]
  refine def_rt ?_
  show b__law_all_lots P' [some (.t (luT W)), none, none, none] [] = _
  unfold b__law_all_lots
  refine seq_nx' (ρ' := [some (.t (luT W)), some (.t (lotsT [[]])), none, none]) (S' := []) (set_ok (x_lst (ts := [.tup []]) (x_cons (x_tup (ts := []) rfl (by simp)) rfl) (by simp))) ?_
  exact seq_nx' (for_ok (x_It rfl (items_tup P' W)) e) (ret_ok e2)
/-! some lots -/
def flO (lots : List (List Tx)) : O := .lst (lots.map fun L => D.t (luT L))
theorem x_lstC {P S S1 : List O} {ρ : En} {fs : MA} {ds : List D} (h : fs P ρ S = .ok ds S1) (hl : ds.length ≤ 16777216) : mLstC fs P ρ S = .ok (.ref (P.length + S1.length)) (S1 ++ [.lst ds]) := by
  rw [e_lstC, h, Fm.R.bind_ok, if_pos (by rw [szl]; exact hl)]
theorem lc_drawn (P : List O) {R : List O} {ρ : En} {k : Int} (k0 : 0 < k) (k1 : k ≤ 1000) (h0 : ∀ d, (ρ.set 8 d)[0]? = some (some (.ref P.length))) (h7 : ∀ d, (ρ.set 8 d)[7]? = some (some (.t (.int k)))) (h8 : ∀ d, (ρ.set 8 d)[8]? = some d) : ∀ (W : List Tx) (n : Nat) (S : List O), n + W.length < 10 ^ 12 → Pt n R S →
    ∃ (V : List Tx) (S' : List O), lcGo (gN 8) (mB (mOp2 (lT2 eqT) (mCall m__law_pick (mCons (mVar 0) (mCons (mVar 7) mNil))) (mC (.int 0)))) (mVar 8) P ρ (W.map fun x => D.t (.str x)) S = .ok (V.map fun x => D.t (.str x)) S' ∧ V.Sublist W ∧ Pt (n + W.length) R S'
  | [], n, S, _, h => ⟨[], S, rfl, List.Sublist.refl _, h⟩
  | w :: W, n, S, hn, h => by
    rw [List.length_cons] at hn
    obtain ⟨r, S1, e1, r0, r1, p1⟩ := draw_pt P (top := k) h (by omega) k0 (by omega)
    obtain ⟨V, S2, e2, sub, p2⟩ := lc_drawn P k0 k1 h0 h7 h8 W (n + 1) S1 (by omega) p1
    have eg : gN 8 (D.t (.str w)) ρ = some (ρ.set 8 (some (St w))) := rfl
    have et := x_Bt (P := P) (ρ := ρ.set 8 (some (St w))) (S := S) (x_T2 (S1 := S1) (S2 := S1) (fa := mCall m__law_pick (mCons (mVar 0) (mCons (mVar 7) mNil))) (fb := mC (.int 0)) (x_call (ds := [.ref P.length, .t (.int k)]) (x_cons (S1 := S) (by rw [e_var, h0]) (x_cons (S1 := S) (by rw [e_var, h7]) rfl)) e1) rfl (Fm.eqT_int ..))
    have ev : mVar 8 P (ρ.set 8 (some (St w))) S1 = .ok (St w) S1 := by rw [e_var, h8]
    generalize (mB (mOp2 (lT2 eqT) (mCall m__law_pick (mCons (mVar 0) (mCons (mVar 7) mNil))) (mC (.int 0)))) = ft at et e2 ⊢
    generalize mVar 8 = fe at ev e2 ⊢
    by_cases c : r = 0
    · rw [decide_eq_true c] at et
      refine ⟨w :: V, S2, ?_, sub.cons_cons w, p2.mono (by rw [List.length_cons]; omega)⟩
      simp [lcGo, eg, et, ev, e2, Fm.R.nx, Fm.R.bind]
    · rw [decide_eq_false c] at et
      refine ⟨V, S2, ?_, sub.cons w, p2.mono (by rw [List.length_cons]; omega)⟩
      simp [lcGo, eg, et, e2, Fm.R.nx, Fm.R.bind]
abbrev sE (P : List O) (z : Nat) (W K : List Tx) (o6 o7 o9 : Option D) : En := [some (.ref P.length), some (.t (bookT z W)), some (.t (rowT K)), some (.t (.int (z : Nat))), some (.t (luT W)), some (.ref (P.length + 1)), o6, o7, none, o9, none]
noncomputable abbrev sl1 : MS := (sSeq (sSet 7 (mCall m__law_one_of (mCons (mVar 0) (mCons (mLst (mCons (mC (.int 2)) (mCons (mC (.int 3)) (mCons (mC (.int 8)) (mCons (mC (.int 20)) mNil))))) mNil)))) (sExpr (mMeth kdLst appendG (mVar 5) (mCons (mCallB (lTL tupOfT) (mCons (mLcG finT (mIt (mVar 4)) (gN 8) [8] (mB (mOp2 (lT2 eqT) (mCall m__law_pick (mCons (mVar 0) (mCons (mVar 7) mNil))) (mC (.int 0)))) (mVar 8)) mNil)) mNil))))
theorem fl_app (P : List O) {n : Nat} {lots : List (List Tx)} {L : List Tx} {S : List O} (h : Pt n [flO lots] S) (ll : lots.length ≤ 1000) : ∃ S', appendG (.ref (P.length + 1)) [.t (luT L)] P S = some (.t .non, S') ∧ Pt n [flO (lots ++ [L])] S' := by
  obtain ⟨a, b, c, rfl, hc⟩ := h
  have hat : ([pot a b c, flO lots] : List O)[1]? = some (.lst (lots.map fun L => D.t (luT L))) := rfl
  have e := gc_app (P := P) hat (.t (luT L)) (by rw [List.length_map]; omega)
  refine ⟨_, e, a, b, c, ?_, hc⟩
  unfold flO
  rw [List.map_append]; rfl
theorem fl_kd (P : List O) {n : Nat} {lots : List (List Tx)} {S : List O} (h : Pt n [flO lots] S) : kdLst (.ref (P.length + 1)) P S = true := by
  obtain ⟨a, b, c, rfl, _⟩ := h
  exact gc_kd (P := P) (j := 1) (l := lots.map fun L => D.t (luT L)) rfl
theorem sl1_ok (P : List O) {n z : Nat} {W K : List Tx} {lots : List (List Tx)} {o6 o7 o9 : Option D} {S : List O} (h : Pt n [flO lots] S) (hn : n < 10 ^ 11) (few : W.length ≤ 40) (ll : lots.length ≤ 900) :
    ∃ (L : List Tx) (p7 : Option D) (S' : List O), sl1 P (sE P z W K o6 o7 o9) S = .nx (sE P z W K o6 p7 o9) S' ∧ Pt (n + 50) [flO (lots ++ [L])] S' ∧ L.Sublist W := by
  obtain ⟨k, S1, e1, hk, p1⟩ := one_int P (L := [2, 3, 8, 20]) h (by omega) (by simp) (by simp)
  have hk : k = 2 ∨ k = 3 ∨ k = 8 ∨ k = 20 := by simpa using hk
  obtain ⟨V, S2, e2, sub, p2⟩ := lc_drawn P (k := k) (ρ := sE P z W K o6 (some (.t (.int k))) o9) (by omega) (by omega) (fun _ => rfl) (fun _ => rfl) (fun _ => rfl) W (n + 1) S1 (by omega) p1
  obtain ⟨S3, e3, p3⟩ := fl_app P (L := V) p2 (by omega)
  refine ⟨V, _, S3, seq_nx' (set_ok (x_call (ds := [.ref P.length, .t (.lst (([2, 3, 8, 20] : List Int).map T.int))]) (x_cons (S1 := S) rfl (x_cons (S1 := S) (x_lst (ts := [.int 2, .int 3, .int 8, .int 20]) (x_cons rfl (x_cons rfl (x_cons rfl (x_cons rfl rfl)))) (by simp)) rfl)) e1)) (x_expr (x_meth (d := .ref (P.length + 1)) (ds := [.t (luT V)]) (S1 := S1) (S2 := S2) rfl (fl_kd P p1) (x_cons (x_B1 (x := .lst (V.map T.str)) (x_lc (ts := V.map T.str) (x_It rfl (items_tup P W)) (by rw [List.map_map]; exact e2)) rfl) rfl) e3)), p3.mono (by omega), sub⟩
noncomputable abbrev sl2 : MS := (sSeq (sSet 9 (mOp2 (lT2 addT) (mCall (pureZ m__law_round) (mCons (mVar 3) (mCons (mCall m__law_one_of (mCons (mVar 0) (mCons (mVar 2) mNil))) mNil))) (mCall (pureZ m__law_round) (mCons (mVar 3) (mCons (mCall m__law_one_of (mCons (mVar 0) (mCons (mVar 2) mNil))) mNil))))) (sSeq (sIf (mB (mOp2 (lT2 eqT) (mVar 6) (mC (.int 0)))) (sSet 9 (mCall (pureZ m__law_round) (mCons (mVar 3) (mCons (mOp2 subG (mVar 2) (mC (.int 0))) mNil)))) sNil) (sExpr (mMeth kdLst appendG (mVar 5) (mCons (mCallB (lTL tupOfT) (mCons (mCall (pureZ m__law_without) (mCons (mVar 4) (mCons (mVar 9) mNil))) mNil)) mNil)))))
theorem sl2_ok (P : List O) {n z : Nat} {i : Int} {W K : List Tx} {lots : List (List Tx)} {o7 o9 : Option D} {S : List O} (h : Pt n [flO lots] S) (hn : n < 10 ^ 11) (hz : 2 ≤ z ∧ z ≤ 6) (few : W.length ≤ 40) (ll : lots.length ≤ 900) (k0 : K ≠ []) (lK : K.length ≤ 10) (kk : ∀ s ∈ K, s ≠ [] ∧ s.length ≤ 40) :
    ∃ (L : List Tx) (p9 : Option D) (S' : List O), sl2 P (sE P z W K (some (.t (.int i))) o7 o9) S = .nx (sE P z W K (some (.t (.int i))) o7 p9) S' ∧ Pt (n + 50) [flO (lots ++ [L])] S' ∧ L.Sublist W := by
  obtain ⟨s, S1, e1, hs, p1⟩ := one_str P (L := K) h (by omega) k0 (by omega)
  obtain ⟨t, S2, e2, ht, p2⟩ := one_str P (L := K) p1 (by omega) k0 (by omega)
  obtain ⟨s1, s2⟩ := kk s hs
  obtain ⟨t1, t2⟩ := kk t ht
  have f1 := round_at P S1 (z := z) s1 (by omega) (by omega)
  have f2 := round_at P S2 (z := z) t1 (by omega) (by omega)
  have l1 := round_len z s
  have l2 := round_len z t
  have g9 : sSet 9 (mOp2 (lT2 addT) (mCall (pureZ m__law_round) (mCons (mVar 3) (mCons (mCall m__law_one_of (mCons (mVar 0) (mCons (mVar 2) mNil))) mNil))) (mCall (pureZ m__law_round) (mCons (mVar 3) (mCons (mCall m__law_one_of (mCons (mVar 0) (mCons (mVar 2) mNil))) mNil)))) P (sE P z W K (some (.t (.int i))) o7 o9) S = .nx (sE P z W K (some (.t (.int i))) o7 (some (.t (rowT (roundTx z s ++ roundTx z t))))) S2 :=
    set_ok (x_T2 (S1 := S1) (x := rowT (roundTx z s)) (y := rowT (roundTx z t)) (x_call (ds := [.t (.int (z : Nat)), St s]) (x_cons (S1 := S) rfl (x_cons (x_call (ds := [.ref P.length, .t (rowT K)]) (x_cons rfl (x_cons rfl rfl)) e1) rfl)) f1) (x_call (ds := [.t (.int (z : Nat)), St t]) (x_cons (S1 := S1) rfl (x_cons (x_call (ds := [.ref P.length, .t (rowT K)]) (x_cons rfl (x_cons rfl rfl)) e2) rfl)) f2) (addL (by omega)))
  obtain ⟨M, g10⟩ : ∃ M : List Tx, sIf (mB (mOp2 (lT2 eqT) (mVar 6) (mC (.int 0)))) (sSet 9 (mCall (pureZ m__law_round) (mCons (mVar 3) (mCons (mOp2 subG (mVar 2) (mC (.int 0))) mNil)))) sNil P (sE P z W K (some (.t (.int i))) o7 (some (.t (rowT (roundTx z s ++ roundTx z t))))) S2 = .nx (sE P z W K (some (.t (.int i))) o7 (some (.t (rowT M)))) S2 := by
    have ct := x_Bt (P := P) (ρ := sE P z W K (some (.t (.int i))) o7 (some (.t (rowT (roundTx z s ++ roundTx z t))))) (S := S2) (x_T2 (S1 := S2) (S2 := S2) (fa := mVar 6) (fb := mC (.int 0)) rfl rfl (Fm.eqT_int i 0))
    by_cases c : i = 0
    · rw [decide_eq_true c] at ct
      obtain ⟨u, U, hU⟩ : ∃ u U, K = u :: U := by
        cases K with
        | nil => exact absurd rfl k0
        | cons u U => exact ⟨u, U, rfl⟩
      obtain ⟨u1, u2⟩ := kk u (by rw [hU]; exact List.mem_cons_self)
      exact ⟨roundTx z u, if_nx (b := true) ct (set_ok (x_call (ds := [.t (.int (z : Nat)), St u]) (x_cons (S1 := S2) rfl (x_cons (x_op2 (S1 := S2) (x := .t (rowT K)) rfl rfl ((sq_lst K).hd P S2 u U hU)) rfl)) (round_at P S2 (z := z) u1 (by omega) (by omega))))⟩
    · rw [decide_eq_false c] at ct
      exact ⟨_, if_nx (b := false) ct rfl⟩
  have ew := without_at P S2 (sq_tup W) (sq_lst M) (by omega)
  obtain ⟨S3, e3, p3⟩ := fl_app P (L := wo W M) p2 (by omega)
  exact ⟨wo W M, _, S3, seq_nx' g9 (seq_nx' g10 (x_expr (x_meth (d := .ref (P.length + 1)) (ds := [.t (luT (wo W M))]) (S1 := S2) (S2 := S2) rfl (fl_kd P p2) (x_cons (x_B1 (x := .lst ((wo W M).map T.str)) (x_call (ds := [.t (luT W), .t (rowT M)]) (x_cons rfl (x_cons rfl rfl)) ew) rfl) rfl) e3))), p3.mono (by omega), List.filter_sublist⟩
theorem somelots_ok (P : List O) {n z : Nat} {W K : List Tx} {S : List O} (h : Pt n [] S) (hn : n < 10 ^ 10) (w : Wins z W) (hz : 2 ≤ z ∧ z ≤ 6) (few : W.length ≤ 40) (lK : K.length ≤ 10) (kk : ∀ s ∈ K, s ≠ [] ∧ s.length ≤ 40) :
    ∃ (lots : List (List Tx)) (S1 X : List O), m__law_some_lots [.ref P.length, .t (bookT z W), .t (rowT K)] P S = .ok (.t (lotsT lots)) (S1 ++ X) ∧ Pt (n + 1000) [] S1 ∧ LotsOK W lots := by
  obtain ⟨v, S1, e1, hv, p1⟩ := one_tup P (L := W) h (by omega) w.ne (by omega)
  have lS1 : S1.length = 1 := by obtain ⟨a, b, c, rfl, _⟩ := p1; rfl
  have p1' : Pt (n + 1) [flO [[], [v]]] (S1 ++ [flO [[], [v]]]) := by
    obtain ⟨a, b, c, rfl, hc⟩ := p1
    exact ⟨a, b, c, rfl, hc⟩
  obtain ⟨ρ2, S2, e2, lots2, q6, q7, rfl, p2, sub2, ll2⟩ := for_inv (g := gN 6) (fb := sl1) (P := P)
    (fun k ρ S => ∃ (lots : List (List Tx)) (o6 o7 : Option D), ρ = sE P z W K o6 o7 none ∧ Pt (n + 1 + 50 * k) [flO lots] S ∧ (∀ L ∈ lots, L.Sublist W) ∧ lots.length ≤ 2 + k)
    (rngOf 0 4) 0 (sE P z W K none none none) (S1 ++ [flO [[], [v]]]) (fun k d ρ S hk ⟨lots, o6, o7, hρ, p, sub, ll⟩ => by
      subst hρ
      obtain ⟨rfl, hlt⟩ := rngOf_at hk
      rw [Nat.zero_add] at p ll ⊢
      obtain ⟨L, p7, S', e, p', hL⟩ := sl1_ok P (z := z) (W := W) (K := K) (o6 := some (.t (.int ((0 : Int) + (k : Nat))))) (o7 := o7) (o9 := none) p (by omega) few (by omega)
      refine ⟨_, rfl, _, S', .inl e, _, _, _, rfl, p'.mono (by omega), fun M hM => ?_, by rw [List.length_append, List.length_singleton]; omega⟩
      rcases List.mem_append.mp hM with hM | hM
      · exact sub M hM
      · rw [List.mem_singleton.mp hM]; exact hL) ⟨[[], [v]], none, none, rfl, p1', fun L hL => by
        rcases List.mem_cons.mp hL with rfl | hL
        · exact List.nil_sublist _
        · rw [List.mem_singleton.mp hL]; exact List.singleton_sublist.mpr hv, by simp⟩
  rw [Nat.zero_add, rngOf_len] at p2 ll2
  obtain ⟨t, ht⟩ : ∃ t : Int, t = (if (K.length : Int) < 3 then (K.length : Int) else 3) := ⟨_, rfl⟩
  obtain ⟨ρ3, S3, e3, lots3, u6, u9, rfl, p3, sub3, ll3⟩ := for_inv (g := gN 6) (fb := sl2) (P := P)
    (fun k ρ S => ∃ (lots : List (List Tx)) (o6 o9 : Option D), ρ = sE P z W K o6 q7 o9 ∧ Pt (n + 300 + 50 * k) [flO lots] S ∧ (∀ L ∈ lots, L.Sublist W) ∧ lots.length ≤ 6 + k)
    (rngOf 0 t) 0 (sE P z W K q6 q7 none) S2 (fun k d ρ S hk ⟨lots, o6, o9, hρ, p, sub, ll⟩ => by
      subst hρ
      obtain ⟨rfl, hlt⟩ := rngOf_at hk
      rw [Nat.zero_add] at p ll ⊢
      have kl : K ≠ [] := fun q => by rw [q] at ht; simp at ht; omega
      have k3 : k < 3 := by split at ht <;> omega
      obtain ⟨L, p9, S', e, p', hL⟩ := sl2_ok P (z := z) (i := (0 : Int) + (k : Nat)) (W := W) (K := K) (o7 := q7) (o9 := o9) p (by omega) hz few (by omega) kl lK kk
      refine ⟨_, rfl, _, S', .inl e, _, _, _, rfl, p'.mono (by omega), fun M hM => ?_, by rw [List.length_append, List.length_singleton]; omega⟩
      rcases List.mem_append.mp hM with hM | hM
      · exact sub M hM
      · rw [List.mem_singleton.mp hM]; exact hL) ⟨lots2, q6, none, rfl, p2.mono (by omega), sub2, by omega⟩
  rw [Nat.zero_add, rngOf_len] at p3
  have t3 : t ≤ 3 := by split at ht <;> omega
  obtain ⟨a, b, c, rfl, hc⟩ := id p3
  have ef : frzD P (.ref (P.length + 1)) [pot a b c, flO lots3] = some (.t (lotsT lots3), [pot a b c, .dead]) := by
    have := gc_frz (P := P) (S := [pot a b c, .lst ((lots3.map luT).map D.t)]) (j := 1) (ts := lots3.map luT) rfl
    rw [show flO lots3 = .lst ((lots3.map luT).map D.t) by unfold flO; rw [List.map_map]; rfl]
    exact this
  obtain ⟨lots, e4, hl⟩ := lots_filter P [pot a b c, .dead] (ρ := [some (.ref P.length), some (.t (bookT z W)), some (.t (rowT K)), some (.t (.int (z : Nat))), some (.t (luT W)), some (.t (lotsT lots3)), u6, q7, none, u9, none]) (i := 10) (j := 4) (fs := mIt (mVar 5)) (sq_tup W) lots3 (by simp) (by decide) rfl rfl (x_It rfl (items_lots P lots3)) sub3
  refine ⟨lots, [pot a b c], [.dead], ?_, ⟨a, b, c, rfl, hc.1, by omega, hc.2.2⟩, hl⟩
  rw [m__law_some_lots]
  refine def_rt ?_
  show b__law_some_lots P [some (.ref P.length), some (.t (bookT z W)), some (.t (rowT K)), none, none, none, none, none, none, none, none] S = _
  unfold b__law_some_lots
  refine seq_nx' (ρ' := [some (.ref P.length), some (.t (bookT z W)), some (.t (rowT K)), some (.t (.int (z : Nat))), some (.t (luT W)), none, none, none, none, none, none]) (S' := S) (x_asg rfl rfl) ?_
  have e5 : sSet 5 (mLstC (mCons (mTup mNil) (mCons (mTup (mCons (mCall m__law_one_of (mCons (mVar 0) (mCons (mVar 4) mNil))) mNil)) mNil))) P [some (.ref P.length), some (.t (bookT z W)), some (.t (rowT K)), some (.t (.int (z : Nat))), some (.t (luT W)), none, none, none, none, none, none] S = .nx (sE P z W K none none none) (S1 ++ [flO [[], [v]]]) := by
    have := x_lstC (P := P) (S := S) (S1 := S1) (ρ := [some (.ref P.length), some (.t (bookT z W)), some (.t (rowT K)), some (.t (.int (z : Nat))), some (.t (luT W)), none, none, none, none, none, none]) (fs := mCons (mTup mNil) (mCons (mTup (mCons (mCall m__law_one_of (mCons (mVar 0) (mCons (mVar 4) mNil))) mNil)) mNil)) (ds := [.t (luT []), .t (luT [v])]) (x_cons (S1 := S) (x_tup (ts := []) rfl (by simp)) (x_cons (S1 := S1) (x_tup (ts := [.str v]) (x_cons (x_call (ds := [.ref P.length, .t (luT W)]) (x_cons rfl (x_cons rfl rfl)) e1) rfl) (by simp)) rfl)) (by simp)
    rw [lS1] at this
    exact set_ok this
  refine seq_nx' e5 ?_
  refine seq_nx' (for_ok (S1 := S1 ++ [flO [[], [v]]]) (x_I (ds := [.t (.int 4)]) (x_cons rfl rfl) (rng1_ok ⟨by omega, by omega⟩)) e2) ?_
  refine seq_nx' (for_ok (S1 := S2) (x_I (ds := [.t (.int t)]) (x_cons ?_ rfl) (rng1_ok ⟨by split at ht <;> omega, by omega⟩)) e3) ?_
  · rw [ht]
    exact x_B2 (S1 := S2) rfl (x_B (ds := [.t (rowT K)]) (x_cons rfl rfl) ((sq_lst K).ln P S2)) (min2X_int 3 _)
  · exact seq_nx' (x_frz _ _ (d := .ref (P.length + 1)) rfl ef) (ret_ok e4)
end Lw

set_option maxHeartbeats 4000000
/-! L63: the law k63 -/
namespace Lw
open Fm
theorem ps_wide {S X : List O} {n m : Nat} (h : PS S n X) (hn : n < 10 ^ 11) (m1 : 1 ≤ m) (m2 : m ≤ 40) :
    ∃ (z : Nat) (V K : List Tx) (X' : List O), lastF (keepF m__law_wide_book) [.ref S.length, .t (.int (m : Nat))] [] X = .ok (.t (.tup [bookT z V, rowT K])) X' ∧ PS S (n + 1000) X' ∧ (2 ≤ z ∧ z ≤ 6) ∧ Wins z V ∧ V.length ≤ m ∧ K.length ≤ 5 ∧ ∀ s ∈ K, Small s ∧ s ≠ [] ∧ s.length ≤ m := by
  obtain ⟨o, rfl, p⟩ := ps_open h
  obtain ⟨z, V, K, S1, Y, e, q, r⟩ := wide_ok S p hn m1 m2
  obtain ⟨a, b, c, rfl, _⟩ := id q
  exact ⟨z, V, K, S ++ [pot a b c], lastF_ok (keep_ok e rfl rfl), ps_of q, r⟩
theorem ps_some {S X : List O} {n z : Nat} {W K : List Tx} (h : PS S n X) (hn : n < 10 ^ 10) (w : Wins z W) (hz : 2 ≤ z ∧ z ≤ 6) (few : W.length ≤ 40) (lK : K.length ≤ 10) (kk : ∀ s ∈ K, s ≠ [] ∧ s.length ≤ 40) :
    ∃ (lots : List (List Tx)) (X' : List O), lastF (keepF m__law_some_lots) [.ref S.length, .t (bookT z W), .t (rowT K)] [] X = .ok (.t (lotsT lots)) X' ∧ PS S (n + 1000) X' ∧ LotsOK W lots := by
  obtain ⟨o, rfl, p⟩ := ps_open h
  obtain ⟨lots, S1, Y, e, q, r⟩ := somelots_ok S p hn w hz few lK kk
  obtain ⟨a, b, c, rfl, _⟩ := id q
  exact ⟨lots, S ++ [pot a b c], lastF_ok (keep_ok e rfl rfl), ps_of q, r⟩
theorem ps_int {S X : List O} {n : Nat} {L : List Int} (h : PS S n X) (hn : n < 10 ^ 14) (l0 : L ≠ []) (l1 : L.length ≤ 10 ^ 6) :
    ∃ s X', lastF m__law_one_of [.ref S.length, .t (.lst (L.map T.int))] [] X = .ok (.t (.int s)) X' ∧ s ∈ L ∧ PS S (n + 1) X' := by
  obtain ⟨o, rfl, p⟩ := ps_open h
  obtain ⟨s, S', e, hs, q⟩ := one_int S p hn l0 l1
  exact ⟨s, S ++ S', lastF_ok e, hs, ps_of q⟩
noncomputable abbrev l63I : MS := (sSeq (sSet 2 (mCall (newF m__law_well) (mCons (mVar 0) (mCons (mVar 1) mNil)))) (sSeq (sAsg (gT 2 (gsCons (gN 3) (gsCons (gN 4) gsNil))) (mCall (lastF (keepF m__law_wide_book)) (mCons (mVar 2) (mCons (mC (.int 7)) mNil)))) (sSeq (sIf (mNotT (mT (mCall (pureZ m__law_book_right) (mCons (mVar 3) (mCons (mCall (pureZ m__law_all_lots) (mCons (mOp2 subG (mVar 3) (mC (.int 1))) mNil)) mNil))))) (sRet (mC (.bl false))) sNil) (sSeq (sAsg (gT 2 (gsCons (gN 5) (gsCons (gN 4) gsNil))) (mCall (lastF (keepF m__law_wide_book)) (mCons (mVar 2) (mCons (mCall (lastF m__law_one_of) (mCons (mVar 2) (mCons (mLst (mCons (mC (.int 12)) (mCons (mC (.int 25)) (mCons (mC (.int 40)) mNil)))) mNil))) mNil)))) (sIf (mNotT (mT (mCall (pureZ m__law_book_right) (mCons (mVar 5) (mCons (mCall (lastF (keepF m__law_some_lots)) (mCons (mVar 2) (mCons (mVar 5) (mCons (mVar 4) mNil)))) mNil))))) (sRet (mC (.bl false))) sNil)))))
theorem l63I_ok (l : List Int) (hl : l.length ≤ 63) (k : Nat) (hk : k < 64) (S : List O) (d2 d3 d4 d5 : Option D) :
    ∃ (p2 p3 p4 p5 : Option D) (S' : List O), l63I [] [some (.t (.scr l)), some (.t (.int k)), d2, d3, d4, d5] S = .nx [some (.t (.scr l)), some (.t (.int k)), p2, p3, p4, p5] S' := by
  obtain ⟨a, b, es, b1, b2⟩ := wellS_ok [] S l k hk hl
  simp only [List.length_nil, Nat.zero_add] at es
  have h0 : PS S 0 (S ++ [pot a b 0]) := ⟨a, b, 0, rfl, by omega, by omega, b1, b2⟩
  obtain ⟨z, V, K, X1, e1, h1, hz, w, lV, lK, kk⟩ := ps_wide (m := 7) h0 (by omega) (by omega) (by omega)
  obtain ⟨lots, e2, hlots⟩ := alllots_at [] X1 (W := V) (by omega)
  have e3 := bookright_at [] X1 w hz (by omega) hlots
  obtain ⟨m, X2, e4, hm, h2⟩ := ps_int (L := [12, 25, 40]) h1 (by omega) (by simp) (by simp)
  have hm : m = 12 ∨ m = 25 ∨ m = 40 := by simpa using hm
  obtain ⟨m', rfl⟩ : ∃ m' : Nat, m = (m' : Nat) := ⟨m.toNat, by omega⟩
  obtain ⟨y, U, M, X3, e5, h3, hy, wu, lU, lM, mm⟩ := ps_wide (m := m') h2 (by omega) (by omega) (by omega)
  obtain ⟨lots2, X4, e6, h4, hl2⟩ := ps_some (W := U) (K := M) (z := y) h3 (by omega) wu hy (by omega) (by omega) fun s hs => ⟨(mm s hs).2.1, by have := (mm s hs).2.2; omega⟩
  have e7 := bookright_at [] X4 wu hy (by omega) hl2
  refine ⟨some (.ref S.length), some (.t (bookT z V)), some (.t (rowT M)), some (.t (bookT y U)), X4, ?_⟩
  refine seq_nx' (ρ' := [some (.t (.scr l)), some (.t (.int k)), some (.ref S.length), d3, d4, d5]) (set_ok (x_call (ds := [.t (.scr l), .t (.int k)]) (x_cons rfl (x_cons rfl rfl)) es)) ?_
  refine seq_nx' (ρ' := [some (.t (.scr l)), some (.t (.int k)), some (.ref S.length), some (.t (bookT z V)), some (.t (rowT K)), d5]) (S' := X1) (x_asg (x_call (ds := [.ref S.length, .t (.int ((7 : Nat) : Int))]) (x_cons rfl (x_cons rfl rfl)) e1) rfl) ?_
  refine seq_nx' (if_nx (b := false) (S1 := X1) (x_notT (b := true) (x_Tt (x_call (ds := [.t (bookT z V), .t (lotsT lots)]) (x_cons (S1 := X1) rfl (x_cons (x_call (ds := [.t (luT V)]) (x_cons (x_op2 (S1 := X1) rfl rfl (bk1 [] X1 z V)) rfl) e2) rfl)) e3))) rfl) ?_
  refine seq_nx' (ρ' := [some (.t (.scr l)), some (.t (.int k)), some (.ref S.length), some (.t (bookT z V)), some (.t (rowT M)), some (.t (bookT y U))]) (S' := X3) (x_asg (x_call (ds := [.ref S.length, .t (.int ((m' : Nat) : Int))]) (x_cons (S1 := X1) rfl (x_cons (x_call (ds := [.ref S.length, .t (.lst (([12, 25, 40] : List Int).map T.int))]) (x_cons (S1 := X1) rfl (x_cons (S1 := X1) (x_lst (ts := [.int 12, .int 25, .int 40]) (x_cons rfl (x_cons rfl (x_cons rfl rfl))) (by simp)) rfl)) e4) rfl)) e5) rfl) ?_
  exact if_nx (b := false) (S1 := X4) (x_notT (b := true) (x_Tt (x_call (ds := [.t (bookT y U), .t (lotsT lots2)]) (x_cons (S1 := X3) rfl (x_cons (x_call (ds := [.ref S.length, .t (bookT y U), .t (rowT M)]) (x_cons rfl (x_cons rfl (x_cons rfl rfl))) e6) rfl)) e7))) rfl
theorem law_true (l : List Int) (h : l.length ≤ 63) : ∃ S, m_law [.t (.scr l)] [] [] = .ok (.t (.bl true)) S := by
  obtain ⟨ρ', S', e, _⟩ := for_inv (g := gN 1) (P := []) (fb := l63I)
    (fun n ρ S' => ∃ (o1 o2 o3 o4 o5 : Option D), ρ = [some (.t (.scr l)), o1, o2, o3, o4, o5]) (rngOf 0 (if (2 : Int) < (if (l.length : Int) < 3 then (l.length : Int) else 3) then (if (l.length : Int) < 3 then (l.length : Int) else 3) else 2)) 0 [some (.t (.scr l)), none, none, none, none, none] [] (fun k d ρ S hd ⟨o1, o2, o3, o4, o5, hρ⟩ => by
      subst hρ
      obtain ⟨rfl, hlt⟩ := rngOf_at hd
      have hk : k < 64 := by
        split at hlt <;> split at hlt <;> omega
      obtain ⟨p2, p3, p4, p5, S', e⟩ := l63I_ok l h k hk S o2 o3 o4 o5
      refine ⟨[some (.t (.scr l)), some (.t (.int (0 + (k : Int)))), o2, o3, o4, o5], rfl, [some (.t (.scr l)), some (.t (.int k)), p2, p3, p4, p5], S', .inl ?_, _, _, _, _, _, rfl⟩
      rw [show (0 : Int) + (k : Int) = k by omega]
      exact e) ⟨none, none, none, none, none, rfl⟩
  refine ⟨S', ?_⟩
  have hr := rng1_ok (j := if (2 : Int) < (if (l.length : Int) < 3 then (l.length : Int) else 3) then (if (l.length : Int) < 3 then (l.length : Int) else 3) else 2) (by split <;> split <;> omega)
  rw [m_law]
  refine def_rt ?_
  show b_law [] [some (.t (.scr l)), none, none, none, none, none] [] = .rt (.t (.bl true)) S'
  unfold b_law
  refine (seq_nx (for_ok (S1 := []) ?_ e)).trans rfl
  refine x_I (ds := [.t (.int (if (2 : Int) < (if (l.length : Int) < 3 then (l.length : Int) else 3) then (if (l.length : Int) < 3 then (l.length : Int) else 3) else 2))]) ?_ hr
  simp only [e_cons, e_nil, e_callB, e_c, e_var, List.getElem?_cons_zero, Fm.R.bind_ok, len_scr, lift_some, lTL_two, min2X_int, max2T_int, Option.map]
end Lw

open PySem PySem.W PyProof.Rows
set_option maxHeartbeats 0 in
theorem PySem.Challenge.cw_surepieces_k63_whole_what_may_go_holds : PySem.Challenge.rw_surepieces_k63_whole_what_may_go.Holds := by
  w_on; o_law; k_head; (case hw => w_witness2)
  k_fill
  refine Fm.walkG (l := PySem.Challenge.rw_surepieces_k63_whole_what_may_go) (n := 63) (k := 13) (x := "script") (g := Lw.m_law) rfl (by decide) rfl ⟨rfl, by decide, by decide⟩ (fun w h Y => PySem.W.kIn_of Y) ?F Lw.law_true
  case F =>
    intro w mg fa h KX G hmg
    refine' Lw.all_mk KX G hmg ?a1 ?l1 ?c1 ?k1 ?a2 ?l2 ?c2 ?k2 ?a3 ?l3 ?c3 ?k3 ?a4 ?l4 ?c4 ?k4 ?a5 ?l5 ?c5 ?k5 ?a6 ?l6 ?c6 ?k6 ?a7 ?l7 ?c7 ?k7 ?a8 ?l8 ?c8 ?k8 ?a9 ?l9 ?c9 ?k9 ?a10 ?l10 ?c10 ?k10 ?a11 ?l11 ?c11 ?k11 ?a12 ?l12 ?c12 ?k12 ?a13 ?l13 ?c13 ?k13 ?a14 ?l14 ?c14 ?k14 ?a15 ?l15 ?c15 ?k15 ?a16 ?l16 ?c16 ?k16 ?a17 ?l17 ?c17 ?k17 ?a18 ?l18 ?c18 ?k18 ?a19 ?l19 ?c19 ?k19 ?a20 ?l20 ?c20 ?k20 ?a21 ?l21 ?c21 ?k21 ?a22 ?l22 ?c22 ?k22 ?a23 ?l23 ?c23 ?k23 ?a24 ?l24 ?c24 ?k24 ?a25 ?l25 ?c25 ?k25 ?a26 ?l26 ?c26 ?k26 ?a27 ?l27 ?c27 ?k27 ?a28 ?l28 ?c28 ?k28 ?a29 ?l29 ?c29 ?k29 ?a30 ?l30 ?c30 ?k30 ?a31 ?l31 ?c31 ?k31 ?a32 ?l32 ?c32 ?k32 ?a33 ?l33 ?c33 ?k33 ?a34 ?l34 ?c34 ?k34 ?a35 ?l35 ?c35 ?k35 ?a36 ?l36 ?c36 ?k36 ?a37 ?l37 ?c37 ?k37 ?a38 ?l38 ?c38 ?k38 ?z_abs ?z_all ?z_any ?z_bool ?z_enumerate ?z_int ?z_isinstance ?z_len ?z_list ?z_max ?z_min ?z_range ?z_repr ?z_sorted ?z_str ?z_tuple ?v_LEAST_SIZE ?v_LETTERS ?v_MOST_SIZE ?xa_PieceError ?xL_PieceError ?xs_PieceError ?xv_PieceError ?xi_PieceError ?xk_PieceError ?xb_PieceError ?xt_PieceError ?xm_PieceError ?xu_PieceError ?xB_PieceError ?xc_PieceError ?xg_PieceError ?xG_PieceError ?xC_PieceError ?xo_PieceError ?xh_PieceError ?xa_InvalidBook ?xL_InvalidBook ?xs_InvalidBook ?xv_InvalidBook ?xi_InvalidBook ?xk_InvalidBook ?xb_InvalidBook ?xt_InvalidBook ?xm_InvalidBook ?xu_InvalidBook ?xB_InvalidBook ?xc_InvalidBook ?xg_InvalidBook ?xG_InvalidBook ?xC_InvalidBook ?xo_InvalidBook ?xh_InvalidBook ?xa_NoRing ?xL_NoRing ?xs_NoRing ?xv_NoRing ?xi_NoRing ?xk_NoRing ?xb_NoRing ?xt_NoRing ?xm_NoRing ?xu_NoRing ?xB_NoRing ?xc_NoRing ?xg_NoRing ?xG_NoRing ?xC_NoRing ?xo_NoRing ?xh_NoRing ?xa_InvalidWindows ?xL_InvalidWindows ?xs_InvalidWindows ?xv_InvalidWindows ?xi_InvalidWindows ?xk_InvalidWindows ?xb_InvalidWindows ?xt_InvalidWindows ?xm_InvalidWindows ?xu_InvalidWindows ?xB_InvalidWindows ?xc_InvalidWindows ?xg_InvalidWindows ?xG_InvalidWindows ?xC_InvalidWindows ?xo_InvalidWindows ?xh_InvalidWindows ?xl1 ?xc1 ?xlc ?xvf ?xff ?xcl1 ?xsup ?xtop ?xopq ?xtI ?xsp ?xtk ?xS_NoRing_PieceError ?xS_NoRing_InvalidBook ?xS_NoRing_NoRing ?xS_NoRing_InvalidWindows
    (case a1 => k_is)
    (case l1 => k_is)
    (case c1 => k_is)
    (case k1 => k_is)
    (case a2 => k_is)
    (case l2 => k_is)
    (case c2 => k_is)
    (case k2 => k_is)
    (case a3 => k_is)
    (case l3 => k_is)
    (case c3 => k_is)
    (case k3 => k_is)
    (case a4 => k_is)
    (case l4 => k_is)
    (case c4 => k_is)
    (case k4 => k_is)
    (case a5 => k_is)
    (case l5 => k_is)
    (case c5 => k_is)
    (case k5 => k_is)
    (case a6 => k_is)
    (case l6 => k_is)
    (case c6 => k_is)
    (case k6 => k_is)
    (case a7 => k_is)
    (case l7 => k_is)
    (case c7 => k_is)
    (case k7 => k_is)
    (case a8 => k_is)
    (case l8 => k_is)
    (case c8 => k_is)
    (case k8 => k_is)
    (case a9 => k_is)
    (case l9 => k_is)
    (case c9 => k_is)
    (case k9 => k_is)
    (case a10 => k_is)
    (case l10 => k_is)
    (case c10 => k_is)
    (case k10 => k_is)
    (case a11 => k_is)
    (case l11 => k_is)
    (case c11 => k_is)
    (case k11 => k_is)
    (case a12 => k_is)
    (case l12 => k_is)
    (case c12 => k_is)
    (case k12 => k_is)
    (case a13 => k_is)
    (case l13 => k_is)
    (case c13 => k_is)
    (case k13 => k_is)
    (case a14 => k_is)
    (case l14 => k_is)
    (case c14 => k_is)
    (case k14 => k_is)
    (case a15 => k_is)
    (case l15 => k_is)
    (case c15 => k_is)
    (case k15 => k_is)
    (case a16 => k_is)
    (case l16 => k_is)
    (case c16 => k_is)
    (case k16 => k_is)
    (case a17 => k_is)
    (case l17 => k_is)
    (case c17 => k_is)
    (case k17 => k_is)
    (case a18 => k_is)
    (case l18 => k_is)
    (case c18 => k_is)
    (case k18 => k_is)
    (case a19 => k_is)
    (case l19 => k_is)
    (case c19 => k_is)
    (case k19 => k_is)
    (case a20 => k_is)
    (case l20 => k_is)
    (case c20 => k_is)
    (case k20 => k_is)
    (case a21 => k_is)
    (case l21 => k_is)
    (case c21 => k_is)
    (case k21 => k_is)
    (case a22 => k_is)
    (case l22 => k_is)
    (case c22 => k_is)
    (case k22 => k_is)
    (case a23 => k_is)
    (case l23 => k_is)
    (case c23 => k_is)
    (case k23 => k_is)
    (case a24 => k_is)
    (case l24 => k_is)
    (case c24 => k_is)
    (case k24 => k_is)
    (case a25 => k_is)
    (case l25 => k_is)
    (case c25 => k_is)
    (case k25 => k_is)
    (case a26 => k_is)
    (case l26 => k_is)
    (case c26 => k_is)
    (case k26 => k_is)
    (case a27 => k_is)
    (case l27 => k_is)
    (case c27 => k_is)
    (case k27 => k_is)
    (case a28 => k_is)
    (case l28 => k_is)
    (case c28 => k_is)
    (case k28 => k_is)
    (case a29 => k_is)
    (case l29 => k_is)
    (case c29 => k_is)
    (case k29 => k_is)
    (case a30 => k_is)
    (case l30 => k_is)
    (case c30 => k_is)
    (case k30 => k_is)
    (case a31 => k_is)
    (case l31 => k_is)
    (case c31 => k_is)
    (case k31 => k_is)
    (case a32 => k_is)
    (case l32 => k_is)
    (case c32 => k_is)
    (case k32 => k_is)
    (case a33 => k_is)
    (case l33 => k_is)
    (case c33 => k_is)
    (case k33 => k_is)
    (case a34 => k_is)
    (case l34 => k_is)
    (case c34 => k_is)
    (case k34 => k_is)
    (case a35 => k_is)
    (case l35 => k_is)
    (case c35 => k_is)
    (case k35 => k_is)
    (case a36 => k_is)
    (case l36 => k_is)
    (case c36 => k_is)
    (case k36 => k_is)
    (case a37 => k_is)
    (case l37 => k_is)
    (case c37 => k_is)
    (case k37 => k_is)
    (case a38 => k_is)
    (case l38 => k_is)
    (case c38 => k_is)
    (case k38 => k_is)
    (case z_abs => k_is)
    (case z_all => k_is)
    (case z_any => k_is)
    (case z_bool => k_is)
    (case z_enumerate => k_is)
    (case z_int => k_is)
    (case z_isinstance => k_is)
    (case z_len => k_is)
    (case z_list => k_is)
    (case z_max => k_is)
    (case z_min => k_is)
    (case z_range => k_is)
    (case z_repr => k_is)
    (case z_sorted => k_is)
    (case z_str => k_is)
    (case z_tuple => k_is)
    (case v_LEAST_SIZE => k_is)
    (case v_LETTERS => k_is)
    (case v_MOST_SIZE => k_is)
    (case xa_PieceError => k_is)
    (case xL_PieceError => k_is)
    (case xs_PieceError => k_is)
    (case xv_PieceError => k_is)
    (case xi_PieceError => k_is)
    (case xk_PieceError => k_is)
    (case xb_PieceError => k_is)
    (case xt_PieceError => k_is)
    (case xm_PieceError => k_is)
    (case xu_PieceError => ks_is)
    (case xB_PieceError => k_is)
    (case xc_PieceError => k_is)
    (case xg_PieceError => k_is)
    (case xG_PieceError => k_is)
    (case xC_PieceError => k_is)
    (case xo_PieceError => k_is)
    (case xh_PieceError => k_is)
    (case xa_InvalidBook => k_is)
    (case xL_InvalidBook => k_is)
    (case xs_InvalidBook => k_is)
    (case xv_InvalidBook => k_is)
    (case xi_InvalidBook => k_is)
    (case xk_InvalidBook => k_is)
    (case xb_InvalidBook => k_is)
    (case xt_InvalidBook => k_is)
    (case xm_InvalidBook => k_is)
    (case xu_InvalidBook => ks_is)
    (case xB_InvalidBook => k_is)
    (case xc_InvalidBook => k_is)
    (case xg_InvalidBook => k_is)
    (case xG_InvalidBook => k_is)
    (case xC_InvalidBook => k_is)
    (case xo_InvalidBook => k_is)
    (case xh_InvalidBook => k_is)
    (case xa_NoRing => k_is)
    (case xL_NoRing => k_is)
    (case xs_NoRing => k_is)
    (case xv_NoRing => k_is)
    (case xi_NoRing => k_is)
    (case xk_NoRing => k_is)
    (case xb_NoRing => k_is)
    (case xt_NoRing => k_is)
    (case xm_NoRing => k_is)
    (case xu_NoRing => ks_is)
    (case xB_NoRing => k_is)
    (case xc_NoRing => k_is)
    (case xg_NoRing => k_is)
    (case xG_NoRing => k_is)
    (case xC_NoRing => k_is)
    (case xo_NoRing => k_is)
    (case xh_NoRing => k_is)
    (case xa_InvalidWindows => k_is)
    (case xL_InvalidWindows => k_is)
    (case xs_InvalidWindows => k_is)
    (case xv_InvalidWindows => k_is)
    (case xi_InvalidWindows => k_is)
    (case xk_InvalidWindows => k_is)
    (case xb_InvalidWindows => k_is)
    (case xt_InvalidWindows => k_is)
    (case xm_InvalidWindows => k_is)
    (case xu_InvalidWindows => ks_is)
    (case xB_InvalidWindows => k_is)
    (case xc_InvalidWindows => k_is)
    (case xg_InvalidWindows => k_is)
    (case xG_InvalidWindows => k_is)
    (case xC_InvalidWindows => k_is)
    (case xo_InvalidWindows => k_is)
    (case xh_InvalidWindows => k_is)
    (case xl1 => k_is)
    (case xc1 => k_is)
    (case xlc => k_is)
    (case xvf => first | rfl | exact rfl | decide +kernel)
    (case xff => first | rfl | decide +kernel)
    (case xcl1 => k_is)
    (case xsup => k_is)
    (case xtop => first | rfl | decide +kernel)
    (case xopq => k_is)
    (case xtI => k_is)
    (case xsp => k_is)
    (case xtk => k_is)
    (case xS_NoRing_PieceError => first | rfl | k_is)
    (case xS_NoRing_InvalidBook => first | rfl | k_is)
    (case xS_NoRing_NoRing => first | rfl | k_is)
    (case xS_NoRing_InvalidWindows => first | rfl | k_is)

