import PyProof.Rows.All
import Wide.All
import OpenK.AllK
import Wide.FinOn
import HandS.ForMost
import HandS.TupAny
import HandS.IsInst
import HandS.WideBits
import HandS.Wide
import KE.DataEq
import KE.DataCmp
import KE.SortData
import KE.DataMinMax
import KE.DataIsa
import HandS.DictComp
import HandS.Strs
import HandS.More
import HandS.Style
import HandS.Conv
import HandS.ForDict
import KE.KEqDict
import PyProof.Claim2Refuses
import HandS.TryOnly
import HandS.Iter
import HandS.Text
import HandS.StrMore
import KE.KDictDisplayH
import PyProof.ListStr
import PyProof.Rows.CountFlat
import HandS.Replace
import PyProof.TupleOfStr
import HandS.Codes
import PySem.Challenge.RW_surepieces_k01_books_ring_texts_and_piec
set_option Elab.async false
set_option linter.all false
set_option maxRecDepth 100000
/-! Fm1: trees, cells, stores, what simulates what. -/
namespace Fm
open PySem PySem.Spec PyProof.Rows L2

abbrev Tx := List Nat
def sv (s : Tx) : Str := ⟨s.toArray⟩
def cs (s : String) : Tx := s.toList.map Char.toNat
theorem sv_cs (s : String) : Str.ofString s = sv (cs s) := Str.ofString_eq_toList s
theorem sv_list (s : Tx) : (sv s).cps.toList = s := by simp [sv]
theorem sv_len (s : Tx) : (sv s).length = s.length := by simp [sv, Str.length]
theorem sv_inj {a b : Tx} (h : sv a = sv b) : a = b := by
  have e := congrArg (fun z : Str => z.cps.toList) h
  simpa [sv_list] using e
theorem sv_of (z : Str) : sv z.cps.toList = z := by simp [sv]

inductive At where
  | int (i : Int) | str (s : Tx)
  deriving DecidableEq
/-- a text that is not too long -/
def At.Fit : At → Prop
  | .int _ => True
  | .str s => s.length ≤ sizeLine
def At.key : At → Key
  | .int i => .inl i
  | .str s => .inr (sv s)
theorem At.key_inj {a b : At} (h : a.key = b.key) : a = b := by
  cases a <;> cases b <;> simp [At.key] at h
  · exact congrArg At.int h
  · exact congrArg At.str (sv_inj h)

/-- a value without identity -/
inductive T where
  | non | bl (b : Bool) | int (i : Int) | str (s : Tx) | lst (l : List T) | tup (l : List T) | dic (l : List (At × T)) | dit (l : List (List At × T)) | scr (l : List Int) | ty (n : String) | wtup (l : List T)
/-- a value: a tree, or a cell -/
inductive D where
  | t (x : T) | ref (i : Nat)
/-- what stands in a cell -/
inductive O where
  | dead | lst (l : List D) | dic (l : List (At × D)) | dit (l : List (List At × D)) | ins (c : String) (fs : List (String × D))
/-- what was raised -/
structure Xv where
  c : String
  v : D
inductive R (α : Type) where
  | ok (a : α) (S : List O) | ex (x : Xv) (S : List O) | no
def R.bind {α β : Type} (r : R α) (f : α → List O → R β) : R β := match r with
  | .ok a S => f a S
  | .ex x S => .ex x S
  | .no => .no
@[simp] theorem R.bind_ok {α β : Type} (a : α) (S : List O) (f : α → List O → R β) : (R.ok a S).bind f = f a S := rfl
@[simp] theorem R.bind_ex {α β : Type} (x : Xv) (S : List O) (f : α → List O → R β) : (R.ex x S : R α).bind f = .ex x S := rfl
@[simp] theorem R.bind_no {α β : Type} (f : α → List O → R β) : (R.no : R α).bind f = .no := rfl

def isD : HO → Bool
  | .dK _ => true
  | .dT _ => true
  | .frz _ u => isD u
  | _ => false
def Pl : HO → Prop
  | .frz _ _ => False
  | _ => True

/-- a list, a tuple of the written part -/
def WrL (K : PySem.W.Frag) (a : Addr) (xs : List V) : Prop :=
  ∃ (o : Obj) (its : Array Value) (n : Nat), K.lookup a = some o ∧ o.cls = .type "list" ∧ o.dict = none ∧ o.data = .seq its n ∧ its.size ≤ sizeLine ∧ Vals xs its.toList
def WrT (K : PySem.W.Frag) (a : Addr) (xs : List V) : Prop :=
  ∃ (o : Obj) (its : Array Value) (n : Nat), K.lookup a = some o ∧ o.cls = .type "tuple" ∧ o.data = .seq its n ∧ its.size ≤ sizeLine ∧ Vals xs its.toList

mutual
/-- the value v stands for the tree -/
inductive RV (K : PySem.W.Frag) (Z : Addr → Prop) (H : Hp) : T → V → Prop where
  | non : RV K Z H .non .non
  | bl (b : Bool) : RV K Z H (.bl b) (.bl b)
  | int (i : Int) : RV K Z H (.int i) (.int i)
  | str (s : Tx) : s.length ≤ sizeLine → RV K Z H (.str s) (.str (sv s))
  | lst (l : List T) (a : Addr) (vs : List V) : Z a → H a = some (.lst vs) → vs.length ≤ sizeLine → RVs K Z H l vs → RV K Z H (.lst l) (.ref a)
  | tup (l : List T) (a : Addr) (vs : List V) : Z a → H a = some (.tup vs) → vs.length ≤ sizeLine → RVs K Z H l vs → RV K Z H (.tup l) (.ref a)
  | tupK (l : List T) (a : Addr) (vs : List V) : WrT K a vs → RVs K Z H l vs → RV K Z H (.wtup l) (.ref a)
  | dic (l : List (At × T)) (a : Addr) (kvs : List (Key × V)) : Z a → Rd H a (.dK kvs) → RKs K Z H l kvs → RV K Z H (.dic l) (.ref a)
  | dit (l : List (List At × T)) (a : Addr) (kvs : List (List Key × V)) : Z a → Rd H a (.dT kvs) → RJs K Z H l kvs → RV K Z H (.dit l) (.ref a)
  | scr (l : List Int) (a : Addr) (o : Obj) : l.length ≤ sizeLine → Z a → H a = some (.frz o (.lst (l.map V.int))) → RV K Z H (.scr l) (.ref a)
  | scr1 (l : List Int) (a : Addr) : l.length ≤ sizeLine → Z a → H a = some (.lst (l.map V.int)) → RV K Z H (.scr l) (.ref a)
  | ty (n : String) : RV K Z H (.ty n) (.ty n)
  | scrK (l : List Int) (a : Addr) : l.length ≤ sizeLine → WrL K a (l.map V.int) → RV K Z H (.scr l) (.ref a)
inductive RVs (K : PySem.W.Frag) (Z : Addr → Prop) (H : Hp) : List T → List V → Prop where
  | nil : RVs K Z H [] []
  | cons (t : T) (v : V) (ts : List T) (vs : List V) : RV K Z H t v → RVs K Z H ts vs → RVs K Z H (t :: ts) (v :: vs)
inductive RKs (K : PySem.W.Frag) (Z : Addr → Prop) (H : Hp) : List (At × T) → List (Key × V) → Prop where
  | nil : RKs K Z H [] []
  | cons (k : At) (t : T) (v : V) (ts : List (At × T)) (vs : List (Key × V)) : k.Fit → RV K Z H t v → RKs K Z H ts vs → RKs K Z H ((k, t) :: ts) ((k.key, v) :: vs)
inductive RJs (K : PySem.W.Frag) (Z : Addr → Prop) (H : Hp) : List (List At × T) → List (List Key × V) → Prop where
  | nil : RJs K Z H [] []
  | cons (k : List At) (t : T) (v : V) (ts : List (List At × T)) (vs : List (List Key × V)) : (∀ x ∈ k, x.Fit) → RV K Z H t v → RJs K Z H ts vs → RJs K Z H ((k, t) :: ts) ((k.map At.key, v) :: vs)
end

section
variable {K : PySem.W.Frag} {Z Z' : Addr → Prop} {H H' : Hp}
mutual
theorem RV.mono (hz : ∀ a, Z a → Z' a) (rd : ∀ a u, Z a → H a = some u → isD u = false → H' a = some u) (rdD : ∀ a u, Z a → Pl u → isD u = true → Rd H a u → Rd H' a u) :
    ∀ {t : T} {v : V}, RV K Z H t v → RV K Z' H' t v
  | _, _, .non => .non
  | _, _, .bl b => .bl b
  | _, _, .int i => .int i
  | _, _, .str s h => .str s h
  | _, _, .lst l a vs h1 h2 h3 h4 => .lst l a vs (hz a h1) (rd a _ h1 h2 rfl) h3 (RVs.mono hz rd rdD h4)
  | _, _, .tup l a vs h1 h2 h3 h4 => .tup l a vs (hz a h1) (rd a _ h1 h2 rfl) h3 (RVs.mono hz rd rdD h4)
  | _, _, .tupK l a vs h1 h2 => .tupK l a vs h1 (RVs.mono hz rd rdD h2)
  | _, _, .dic l a kvs h1 h2 h3 => .dic l a kvs (hz a h1) (rdD a _ h1 trivial rfl h2) (RKs.mono hz rd rdD h3)
  | _, _, .dit l a kvs h1 h2 h3 => .dit l a kvs (hz a h1) (rdD a _ h1 trivial rfl h2) (RJs.mono hz rd rdD h3)
  | _, _, .scr l a o h0 h1 h2 => .scr l a o h0 (hz a h1) (rd a _ h1 h2 rfl)
  | _, _, .scr1 l a h0 h1 h2 => .scr1 l a h0 (hz a h1) (rd a _ h1 h2 rfl)
  | _, _, .ty n => .ty n
  | _, _, .scrK l a h0 h1 => .scrK l a h0 h1
theorem RVs.mono (hz : ∀ a, Z a → Z' a) (rd : ∀ a u, Z a → H a = some u → isD u = false → H' a = some u) (rdD : ∀ a u, Z a → Pl u → isD u = true → Rd H a u → Rd H' a u) :
    ∀ {t : List T} {v : List V}, RVs K Z H t v → RVs K Z' H' t v
  | _, _, .nil => .nil
  | _, _, .cons t v ts vs h1 h2 => .cons t v ts vs (RV.mono hz rd rdD h1) (RVs.mono hz rd rdD h2)
theorem RKs.mono (hz : ∀ a, Z a → Z' a) (rd : ∀ a u, Z a → H a = some u → isD u = false → H' a = some u) (rdD : ∀ a u, Z a → Pl u → isD u = true → Rd H a u → Rd H' a u) :
    ∀ {t : List (At × T)} {v : List (Key × V)}, RKs K Z H t v → RKs K Z' H' t v
  | _, _, .nil => .nil
  | _, _, .cons k t v ts vs h0 h1 h2 => .cons k t v ts vs h0 (RV.mono hz rd rdD h1) (RKs.mono hz rd rdD h2)
theorem RJs.mono (hz : ∀ a, Z a → Z' a) (rd : ∀ a u, Z a → H a = some u → isD u = false → H' a = some u) (rdD : ∀ a u, Z a → Pl u → isD u = true → Rd H a u → Rd H' a u) :
    ∀ {t : List (List At × T)} {v : List (List Key × V)}, RJs K Z H t v → RJs K Z' H' t v
  | _, _, .nil => .nil
  | _, _, .cons k t v ts vs h0 h1 h2 => .cons k t v ts vs h0 (RV.mono hz rd rdD h1) (RJs.mono hz rd rdD h2)
end
end

/-- how indices of cells lie in the heap; Z: what never changes any more; Y: what is changed by nobody but its maker -/
structure Cf where
  n : Nat
  m : Nat → Addr
  Z : Addr → Prop
  Y : Addr → Prop

def RD (K : PySem.W.Frag) (c : Cf) (H : Hp) : D → V → Prop
  | .t x, v => RV K c.Z H x v
  | .ref i, v => i < c.n ∧ v = .ref (c.m i)
def RDs (K : PySem.W.Frag) (c : Cf) (H : Hp) : List D → List V → Prop := Paired (RD K c H)
def RO (K : PySem.W.Frag) (c : Cf) (H : Hp) : O → Addr → Prop
  | .dead, _ => True
  | .lst l, a => ∃ vs, H a = some (.lst vs) ∧ vs.length ≤ sizeLine ∧ RDs K c H l vs
  | .dic l, a => ∃ kvs, H a = some (.dK kvs) ∧ Paired (fun (p : At × D) (q : Key × V) => (p.1.Fit ∧ q.1 = p.1.key) ∧ RD K c H p.2 q.2) l kvs
  | .dit l, a => ∃ kvs, H a = some (.dT kvs) ∧ Paired (fun (p : List At × D) (q : List Key × V) => ((∀ x ∈ p.1, x.Fit) ∧ q.1 = p.1.map At.key) ∧ RD K c H p.2 q.2) l kvs
  | .ins C fs, a => ∃ (A dx : Addr) (gs : List (Str × V)), H a = some (.ins A dx gs) ∧ c.Z dx ∧ H dx = some (.own a) ∧ Paired (fun (p : String × D) (q : Str × V) => q.1 = Str.ofString p.1 ∧ RD K c H p.2 q.2) fs gs
def O.live : O → Bool
  | .dead => false
  | _ => true
theorem RO.there {K : PySem.W.Frag} {c : Cf} {H : Hp} {o : O} {a : Addr} (h : RO K c H o a) (l : o.live = true) : ∃ u, H a = some u := by
  cases o with
  | dead => cases l
  | lst x => obtain ⟨_, e, _⟩ := h; exact ⟨_, e⟩
  | dic x => obtain ⟨_, e, _⟩ := h; exact ⟨_, e⟩
  | dit x => obtain ⟨_, e, _⟩ := h; exact ⟨_, e⟩
  | ins C fs => obtain ⟨_, _, _, e, _⟩ := h; exact ⟨_, e⟩

/-- no tuple -/
def ntO : HO → Bool
  | .tup _ => false
  | _ => true
/-- the store is held by the heap; P: cells that are read alone -/
structure Sim (K : PySem.W.Frag) (P S : List O) (c : Cf) (H : Hp) : Prop where
  n : P.length + S.length = c.n
  ro : ∀ i o, (P ++ S)[i]? = some o → RO K c H o (c.m i)
  nz : ∀ i o, (P ++ S)[i]? = some o → o.live = true → ¬ c.Z (c.m i)
  inj : ∀ i j o u, (P ++ S)[i]? = some o → (P ++ S)[j]? = some u → o.live = true → u.live = true → c.m i = c.m j → i = j
  z : ∀ a, c.Z a → ∃ u, H a = some u
  y : ∀ a, c.Y a → ∃ u, H a = some u ∧ ntO u = true
  yz : ∀ a, c.Y a → ¬ c.Z a
  yc : ∀ i o, (P ++ S)[i]? = some o → o.live = true → ¬ c.Y (c.m i)

structure Ev (P : List O) (c : Cf) (H : Hp) (c' : Cf) (H' : Hp) : Prop where
  z : ∀ a, c.Z a → c'.Z a
  rd : ∀ a u, c.Z a → H a = some u → isD u = false → H' a = some u
  rdD : ∀ a u, c.Z a → Pl u → isD u = true → Rd H a u → Rd H' a u
  n : c.n ≤ c'.n
  m : ∀ i, i < c.n → c'.m i = c.m i
  b : ∀ i o, P[i]? = some o → o.live = true → H' (c.m i) = H (c.m i) ∧ ¬ c'.Z (c.m i) ∧ ¬ c'.Y (c.m i)
  y : ∀ a, c.Y a → c'.Y a ∧ H' a = H a
  fz : ∀ a o u, c.Z a → H a = some (.frz o u) → H' a = some (.frz o u)

section
variable {K : PySem.W.Frag} {P S S' : List O} {c c1 c2 : Cf} {H H1 H2 : Hp} {d : D} {v : V}
theorem RD.mono (e : Ev P c H c1 H1) (h : RD K c H d v) : RD K c1 H1 d v := by
  cases d with
  | t x => exact RV.mono e.z e.rd e.rdD h
  | ref i => exact ⟨Nat.lt_of_lt_of_le h.1 e.n, by rw [e.m i h.1]; exact h.2⟩
theorem RDs.mono (e : Ev P c H c1 H1) {ds : List D} {vs : List V} (h : RDs K c H ds vs) : RDs K c1 H1 ds vs := Paired.mapP h fun _ _ => RD.mono e
theorem RO.mono (e : Ev P c H c1 H1) {o : O} {a : Addr} (q : H1 a = H a) (h : RO K c H o a) : RO K c1 H1 o a := by
  cases o with
  | dead => trivial
  | lst l => obtain ⟨vs, h1, h0, h2⟩ := h; exact ⟨vs, q.trans h1, h0, h2.mono e⟩
  | dic l => obtain ⟨vs, h1, h2⟩ := h; exact ⟨vs, q.trans h1, Paired.mapP h2 fun _ _ z => ⟨z.1, z.2.mono e⟩⟩
  | dit l => obtain ⟨vs, h1, h2⟩ := h; exact ⟨vs, q.trans h1, Paired.mapP h2 fun _ _ z => ⟨z.1, z.2.mono e⟩⟩
  | ins C fs => obtain ⟨A, dx, gs, h1, h2, h3, h4⟩ := h; exact ⟨A, dx, gs, q.trans h1, e.z _ h2, e.rd _ _ h2 h3 rfl, Paired.mapP h4 fun _ _ z => ⟨z.1, z.2.mono e⟩⟩
theorem RD.noY (h : RD K c H d v) : RD K { c with Y := fun _ => False } H d v := by cases d <;> exact h
theorem RO.noY {o : O} {a : Addr} (h : RO K c H o a) : RO K { c with Y := fun _ => False } H o a := by
  cases o with
  | dead => trivial
  | lst l => obtain ⟨vs, h1, h0, h2⟩ := h; exact ⟨vs, h1, h0, Paired.mapP h2 fun _ _ z => z.noY⟩
  | dic l => obtain ⟨vs, h1, h2⟩ := h; exact ⟨vs, h1, Paired.mapP h2 fun _ _ z => ⟨z.1, z.2.noY⟩⟩
  | dit l => obtain ⟨vs, h1, h2⟩ := h; exact ⟨vs, h1, Paired.mapP h2 fun _ _ z => ⟨z.1, z.2.noY⟩⟩
  | ins C fs => obtain ⟨A, dx, gs, h1, h2, h3, h4⟩ := h; exact ⟨A, dx, gs, h1, h2, h3, Paired.mapP h4 fun _ _ z => ⟨z.1, z.2.noY⟩⟩
/-- the part of a change that trees feel -/
theorem RO.mono' (hz : ∀ a, c.Z a → c1.Z a) (rd : ∀ a u, c.Z a → H a = some u → isD u = false → H1 a = some u) (rdD : ∀ a u, c.Z a → Pl u → isD u = true → Rd H a u → Rd H1 a u)
    (hn : c.n ≤ c1.n) (hm : ∀ i, i < c.n → c1.m i = c.m i) {o : O} {a : Addr} (q : H1 a = H a) (h : RO K c H o a) : RO K c1 H1 o a := by
  have up : ∀ {d : D} {v : V}, RD K c H d v → RD K c1 H1 d v := fun {d v} h => by
    cases d with
    | t x => exact RV.mono hz rd rdD h
    | ref i => exact ⟨Nat.lt_of_lt_of_le h.1 hn, by rw [hm i h.1]; exact h.2⟩
  cases o with
  | dead => trivial
  | lst l => obtain ⟨vs, h1, h0, h2⟩ := h; exact ⟨vs, q.trans h1, h0, Paired.mapP h2 fun _ _ z => up z⟩
  | dic l => obtain ⟨vs, h1, h2⟩ := h; exact ⟨vs, q.trans h1, Paired.mapP h2 fun _ _ z => ⟨z.1, up z.2⟩⟩
  | dit l => obtain ⟨vs, h1, h2⟩ := h; exact ⟨vs, q.trans h1, Paired.mapP h2 fun _ _ z => ⟨z.1, up z.2⟩⟩
  | ins C fs => obtain ⟨A, dx, gs, h1, h2, h3, h4⟩ := h; exact ⟨A, dx, gs, q.trans h1, hz _ h2, rd _ _ h2 h3 rfl, Paired.mapP h4 fun _ _ z => ⟨z.1, up z.2⟩⟩
theorem Ev.refl (h : Sim K P S c H) : Ev P c H c H :=
  ⟨fun _ z => z, fun _ _ _ z _ => z, fun _ _ _ _ _ z => z, Nat.le_refl _, fun _ _ => rfl, fun i o e l =>
    have e' : (P ++ S)[i]? = some o := by rw [List.getElem?_append_left (List.getElem?_eq_some_iff.mp e).1]; exact e
    ⟨rfl, h.nz i o e' l, h.yc i o e' l⟩, fun _ z => ⟨z, rfl⟩, fun _ _ _ _ e => e⟩
theorem Ev.trans (hs : P.length ≤ c.n) (a : Ev P c H c1 H1) (b : Ev P c1 H1 c2 H2) : Ev P c H c2 H2 :=
  ⟨fun x z => b.z x (a.z x z), fun x u z h i => b.rd x u (a.z x z) (a.rd x u z h i) i, fun x u z p i h => b.rdD x u (a.z x z) p i (a.rdD x u z p i h), Nat.le_trans a.n b.n,
    fun i h => (b.m i (Nat.lt_of_lt_of_le h a.n)).trans (a.m i h), fun i o e l => by
      have hi : i < c.n := Nat.lt_of_lt_of_le (List.getElem?_eq_some_iff.mp e).1 hs
      have h1 := a.b i o e l
      have h2 := b.b i o e l
      rw [a.m i hi] at h2
      exact ⟨h2.1.trans h1.1, h2.2⟩, fun x z => ⟨(b.y x (a.y x z).1).1, (b.y x (a.y x z).1).2.trans (a.y x z).2⟩, fun x o u z e => b.fz x o u (a.z x z) (a.fz x o u z e)⟩
theorem Sim.pl (h : Sim K P S c H) : P.length ≤ c.n := by have := h.n; omega
end

/-- what is wanted behind a mirror's answer -/
abbrev WX := Xv → Cf → List O → Hp → Prop
def W0 : WX := fun _ _ _ _ => False
def Post {α β : Type} (K : PySem.W.Frag) (P : List O) (c : Cf) (H : Hp) (rel : Cf → Hp → α → β → Prop) (r : R α) (W : WX) (Q : β → Hp → Prop) : Prop := match r with
  | .ok a S' => ∀ c' b H', Ev P c H c' H' → Sim K P S' c' H' → rel c' H' a b → Q b H'
  | .ex x S' => ∀ c' H', Ev P c H c' H' → Sim K P S' c' H' → W x c' S' H'
  | .no => False
theorem Post.ev {α β : Type} {K : PySem.W.Frag} {P : List O} {c c1 : Cf} {H H1 : Hp} {rel : Cf → Hp → α → β → Prop} {r : R α} {W : WX} {Q : β → Hp → Prop} (hs : P.length ≤ c.n) (e : Ev P c H c1 H1) (h : Post K P c H rel r W Q) : Post K P c1 H1 rel r W Q := by
  cases r with
  | ok a S' => exact fun c' b H' e' => h c' b H' (e.trans hs e')
  | ex x S' => exact fun c' H' e' => h c' H' (e.trans hs e')
  | no => exact h

/-! ### environments -/
abbrev En := List (Option D)
structure SimE (K : PySem.W.Frag) (c : Cf) (H : Hp) (ρ : En) (σ : L2.St) : Prop where
  len : σ.length = ρ.length
  get : ∀ (i : Nat) (d : D), ρ[i]? = some (some d) → ∃ v, σ[i]? = some (some v) ∧ RD K c H d v
theorem SimE.mono {K : PySem.W.Frag} {P : List O} {c c1 : Cf} {H H1 : Hp} {ρ : En} {σ : L2.St} (e : Ev P c H c1 H1) (h : SimE K c H ρ σ) : SimE K c1 H1 ρ σ :=
  ⟨h.len, fun i d q => let ⟨v, h1, h2⟩ := h.get i d q; ⟨v, h1, h2.mono e⟩⟩
theorem SimE.set {K : PySem.W.Frag} {c : Cf} {H : Hp} {ρ : En} {σ : L2.St} {d : D} {v : V} (h : SimE K c H ρ σ) (i : Nat) (r : RD K c H d v) : SimE K c H (ρ.set i (some d)) (σ.set i (some v)) := by
  refine ⟨by rw [List.length_set, List.length_set, h.len], fun j e q => ?_⟩
  by_cases hj : i = j
  · subst hj
    by_cases hi : i < ρ.length
    · rw [List.getElem?_set_self hi] at q
      cases q
      exact ⟨v, List.getElem?_set_self (by rw [h.len]; exact hi), r⟩
    · rw [List.getElem?_eq_none (by rw [List.length_set]; omega)] at q
      cases q
  · rw [List.getElem?_set_ne hj] at q
    obtain ⟨w, h1, h2⟩ := h.get j e q
    exact ⟨w, by rw [List.getElem?_set_ne hj]; exact h1, h2⟩
theorem SimE.clr {K : PySem.W.Frag} {c : Cf} {H : Hp} {ρ : En} {σ : L2.St} (h : SimE K c H ρ σ) (i : Nat) (o : Option V) : SimE K c H (ρ.set i none) (σ.set i o) := by
  refine ⟨by rw [List.length_set, List.length_set, h.len], fun j e q => ?_⟩
  by_cases hj : i = j
  · subst hj
    by_cases hi : i < ρ.length
    · rw [List.getElem?_set_self hi] at q
      cases q
    · rw [List.getElem?_eq_none (by rw [List.length_set]; omega)] at q
      cases q
  · rw [List.getElem?_set_ne hj] at q
    obtain ⟨w, h1, h2⟩ := h.get j e q
    exact ⟨w, by rw [List.getElem?_set_ne hj]; exact h1, h2⟩

/-! ### steps of the heap -/
section
variable {K : PySem.W.Frag} {P S : List O} {c : Cf} {H : Hp} {p : Addr} {o : HO}
def Cf.zed (c : Cf) (p : Addr) : Cf := { c with Z := fun a => c.Z a ∨ a = p }
def Cf.cell (c : Cf) (p : Addr) : Cf := { c with n := c.n + 1, m := fun i => if i = c.n then p else c.m i }
theorem Sim.ne (h : Sim K P S c H) (hp : H p = none) {i : Nat} {u : O} (e : (P ++ S)[i]? = some u) (l : u.live = true) : c.m i ≠ p := fun q => by
  obtain ⟨z, hz⟩ := (h.ro i u e).there l
  rw [q, hp] at hz
  cases hz
theorem Sim.zne (h : Sim K P S c H) (hp : H p = none) {a : Addr} (z : c.Z a) : a ≠ p := fun q => by
  obtain ⟨u, e⟩ := h.z a z
  rw [q, hp] at e
  cases e
theorem Sim.yne (h : Sim K P S c H) (hp : H p = none) {a : Addr} (z : c.Y a) : a ≠ p := fun q => by
  obtain ⟨u, e, _⟩ := h.y a z
  rw [q, hp] at e
  cases e
/-- a new object that no cell names and no tree stands for yet -/
theorem Ev.new (h : Sim K P S c H) (hp : H p = none) : Ev P c H c (upd H p o) :=
  ⟨fun _ z => z, fun a u z e _ => by rw [upd_ne (h.zne hp z)]; exact e, fun a u z _ _ e => by unfold Rd; rw [upd_ne (h.zne hp z)]; exact e, Nat.le_refl _, fun _ _ => rfl, fun i u e l => by
    have e' : (P ++ S)[i]? = some u := by rw [List.getElem?_append_left (List.getElem?_eq_some_iff.mp e).1]; exact e
    exact ⟨upd_ne (h.ne hp e' l), h.nz i u e' l, h.yc i u e' l⟩, fun a z => ⟨z, upd_ne (h.yne hp z)⟩, fun a o u z e => by rw [upd_ne (h.zne hp z)]; exact e⟩
theorem Sim.new (h : Sim K P S c H) (hp : H p = none) : Sim K P S c (upd H p o) :=
  ⟨h.n, fun i u e => by
    cases hl : u.live with
    | false => cases u <;> first | trivial | cases hl
    | true => exact (h.ro i u e).mono (Ev.new h hp) (upd_ne (h.ne hp e hl)), h.nz, h.inj, fun a z => by
      obtain ⟨u, e⟩ := h.z a z
      exact ⟨u, by rw [upd_ne (h.zne hp z)]; exact e⟩, fun a z => by
      obtain ⟨u, e, nt⟩ := h.y a z
      exact ⟨u, by rw [upd_ne (h.yne hp z)]; exact e, nt⟩, h.yz, h.yc⟩
/-- what stands at p, and is no cell, never changes any more -/
theorem Ev.zed (h : Sim K P S c H) (hp : ∀ i u, (P ++ S)[i]? = some u → u.live = true → c.m i ≠ p) : Ev P c H (c.zed p) H :=
  ⟨fun _ z => .inl z, fun _ _ _ e _ => e, fun _ _ _ _ _ e => e, Nat.le_refl _, fun _ _ => rfl, fun i u e l => by
    have e' : (P ++ S)[i]? = some u := by rw [List.getElem?_append_left (List.getElem?_eq_some_iff.mp e).1]; exact e
    exact ⟨rfl, fun z => z.elim (h.nz i u e' l) (hp i u e' l), h.yc i u e' l⟩, fun _ z => ⟨z, rfl⟩, fun _ _ _ _ e => e⟩
theorem Sim.zed (h : Sim K P S c H) (hp : ∀ i u, (P ++ S)[i]? = some u → u.live = true → c.m i ≠ p) (hy : ¬ c.Y p) {o : HO} (ho : H p = some o) : Sim K P S (c.zed p) H :=
  ⟨h.n, fun i u e => (h.ro i u e).mono (Ev.zed h hp) rfl, fun i u e l z => z.elim (h.nz i u e l) (hp i u e l), h.inj, fun a z => z.elim (h.z a) fun q => ⟨o, by rw [q]; exact ho⟩, h.y, fun a y z => z.elim (h.yz a y) fun q => hy (q ▸ y), h.yc⟩
theorem Ev.alloc (h : Sim K P S c H) (hp : H p = none) : Ev P c H (c.zed p) (upd H p o) :=
  (Ev.new h hp).trans h.pl (Ev.zed (h.new hp) fun _ _ e l => h.ne hp e l)
theorem Sim.alloc (h : Sim K P S c H) (hp : H p = none) : Sim K P S (c.zed p) (upd H p o) :=
  Sim.zed (h.new hp) (fun _ _ e l => h.ne hp e l) (fun z => h.yne hp z rfl) upd_same
/-- a new cell -/
theorem Ev.cellE (h : Sim K P S c H) (hp : H p = none) : Ev P c H (c.cell p) (upd H p o) := by
  have e := Ev.new (o := o) h hp
  refine ⟨e.z, e.rd, e.rdD, Nat.le_succ _, fun i hi => ?_, e.b, e.y, e.fz⟩
  show (if i = c.n then p else c.m i) = c.m i
  rw [if_neg (by omega)]
theorem Sim.cell (h : Sim K P S c H) (hp : H p = none) {u : O} (hu : RO K (c.cell p) (upd H p o) u p) : Sim K P (S ++ [u]) (c.cell p) (upd H p o) := by
  have hn := h.n
  have e1 : ∀ {i w}, (P ++ (S ++ [u]))[i]? = some w → (i < c.n ∧ (P ++ S)[i]? = some w ∧ (c.cell p).m i = c.m i) ∨ (i = c.n ∧ w = u ∧ (c.cell p).m i = p) := fun {i w} e => by
    rw [← List.append_assoc] at e
    have hlen : (P ++ S).length = c.n := by rw [List.length_append]; exact hn
    by_cases hi : i < c.n
    · rw [List.getElem?_append_left (by omega)] at e
      refine .inl ⟨hi, e, ?_⟩
      show (if i = c.n then p else c.m i) = c.m i
      rw [if_neg (by omega)]
    · rw [List.getElem?_append_right (by omega)] at e
      have hi' : i = c.n := by
        have := (List.getElem?_eq_some_iff.mp e).1
        rw [List.length_singleton] at this
        omega
      refine .inr ⟨hi', ?_, ?_⟩
      · rw [hi', hlen, Nat.sub_self] at e
        exact (Option.some.inj e).symm
      · show (if i = c.n then p else c.m i) = p
        rw [if_pos hi']
  refine ⟨by rw [List.length_append, List.length_singleton]; show _ = c.n + 1; omega, fun i w e => ?_, fun i w e l => ?_, fun i j w w' ei ej li lj q => ?_, fun a z => ?_, fun a z => ?_, h.yz, fun i w e l => ?_⟩
  · rcases e1 e with ⟨hi, e, q⟩ | ⟨hi, rfl, q⟩
    · rw [q]
      cases hl : w.live with
      | false => cases w <;> first | trivial | cases hl
      | true => exact (h.ro i w e).mono (Ev.cellE h hp) (upd_ne (h.ne hp e hl))
    · rw [q]; exact hu
  · rcases e1 e with ⟨hi, e, q⟩ | ⟨hi, rfl, q⟩
    · rw [q]; exact h.nz i w e l
    · rw [q]; exact fun z => h.zne hp z rfl
  · rcases e1 ei with ⟨hi, fi, qi⟩ | ⟨hi, _, qi⟩ <;> rcases e1 ej with ⟨hj, fj, qj⟩ | ⟨hj, _, qj⟩
    · rw [qi, qj] at q
      exact h.inj i j w w' fi fj li lj q
    · rw [qi, qj] at q
      exact absurd q (h.ne hp fi li)
    · rw [qi, qj] at q
      exact absurd q.symm (h.ne hp fj lj)
    · omega
  · obtain ⟨w, e⟩ := h.z a z
    exact ⟨w, by rw [upd_ne (h.zne hp z)]; exact e⟩
  · obtain ⟨w, e, nt⟩ := h.y a z
    exact ⟨w, by rw [upd_ne (h.yne hp z)]; exact e, nt⟩
  · rcases e1 e with ⟨hi, e, q⟩ | ⟨hi, rfl, q⟩
    · rw [q]; exact h.yc i w e l
    · rw [q]; exact fun z => h.yne hp z rfl
/-- a cell is changed -/
theorem Ev.put (h : Sim K P S c H) {j : Nat} {w : O} (hj : S[j]? = some w) (hl : w.live = true) : Ev P c H c (upd H (c.m (P.length + j)) o) := by
  have ej : (P ++ S)[P.length + j]? = some w := by rw [List.getElem?_append_right (by omega)]; simpa using hj
  have zn : ∀ {a}, c.Z a → a ≠ c.m (P.length + j) := fun z q => h.nz _ w ej hl (q ▸ z)
  have yn : ∀ {a}, c.Y a → a ≠ c.m (P.length + j) := fun z q => h.yc _ w ej hl (q ▸ z)
  refine ⟨fun _ z => z, fun a u z e _ => by rw [upd_ne (zn z)]; exact e, fun a u z _ _ e => by unfold Rd; rw [upd_ne (zn z)]; exact e, Nat.le_refl _, fun _ _ => rfl, fun i u e l => ?_, fun a z => ⟨z, upd_ne (yn z)⟩, fun a o u z e => by rw [upd_ne (zn z)]; exact e⟩
  have hi := (List.getElem?_eq_some_iff.mp e).1
  have e' : (P ++ S)[i]? = some u := by rw [List.getElem?_append_left hi]; exact e
  exact ⟨upd_ne fun q => by have := h.inj _ _ _ _ e' ej l hl q; omega, h.nz i u e' l, h.yc i u e' l⟩
theorem Sim.put (h : Sim K P S c H) {j : Nat} {w u : O} (hj : S[j]? = some w) (hl : w.live = true) (hlu : u.live = true) (hu : RO K c (upd H (c.m (P.length + j)) o) u (c.m (P.length + j))) : Sim K P (S.set j u) c (upd H (c.m (P.length + j)) o) := by
  have ej : (P ++ S)[P.length + j]? = some w := by rw [List.getElem?_append_right (by omega)]; simpa using hj
  have zn : ∀ {a}, c.Z a → a ≠ c.m (P.length + j) := fun z q => h.nz _ w ej hl (q ▸ z)
  have e1 : ∀ {i x}, (P ++ S.set j u)[i]? = some x → (i ≠ P.length + j ∧ (P ++ S)[i]? = some x) ∨ (i = P.length + j ∧ x = u) := fun {i x} e => by
    by_cases hi : i < P.length
    · rw [List.getElem?_append_left hi] at e
      exact .inl ⟨by omega, by rw [List.getElem?_append_left hi]; exact e⟩
    · rw [List.getElem?_append_right (by omega)] at e
      by_cases hij : i = P.length + j
      · refine .inr ⟨hij, ?_⟩
        rw [hij, Nat.add_sub_cancel_left, List.getElem?_set_self (List.getElem?_eq_some_iff.mp hj).1] at e
        exact (Option.some.inj e).symm
      · rw [List.getElem?_set_ne (by omega)] at e
        exact .inl ⟨hij, by rw [List.getElem?_append_right (by omega)]; exact e⟩
  refine ⟨by rw [List.length_set]; exact h.n, fun i x e => ?_, fun i x e l => ?_, fun i k x y ei ek li lk q => ?_, fun a z => ?_, fun a z => ?_, h.yz, fun i x e l => ?_⟩
  · rcases e1 e with ⟨hi, e⟩ | ⟨rfl, rfl⟩
    · cases hlx : x.live with
      | false => cases x <;> first | trivial | cases hlx
      | true => exact (h.ro i x e).mono (Ev.put h hj hl) (upd_ne fun q => hi (h.inj _ _ _ _ e ej hlx hl q))
    · exact hu
  · rcases e1 e with ⟨hi, e⟩ | ⟨rfl, rfl⟩
    · exact h.nz i x e l
    · exact h.nz _ w ej hl
  · rcases e1 ei with ⟨hi, fi⟩ | ⟨hi, _⟩ <;> rcases e1 ek with ⟨hk, fk⟩ | ⟨hk, _⟩
    · exact h.inj i k x y fi fk li lk q
    · rw [hk] at q ⊢
      exact h.inj _ _ _ _ fi ej li hl q
    · rw [hi] at q ⊢
      exact h.inj _ _ _ _ ej fk hl lk q
    · omega
  · obtain ⟨x, e⟩ := h.z a z
    exact ⟨x, by rw [upd_ne (zn z)]; exact e⟩
  · obtain ⟨x, e, nt⟩ := h.y a z
    exact ⟨x, (upd_ne (show a ≠ c.m (P.length + j) from fun q => h.yc _ w ej hl (q ▸ z))).trans e, nt⟩
  · rcases e1 e with ⟨hi, e⟩ | ⟨rfl, rfl⟩
    · exact h.yc i x e l
    · exact h.yc _ w ej hl
end
end Fm

/-! Fm2: mirrors of expressions, and that running an expression does what its mirror says. -/
namespace Fm
open PySem PySem.Spec PyProof.Rows L2

abbrev ME := List O → En → List O → R D
abbrev MA := List O → En → List O → R (List D)
abbrev MT := List O → En → List O → R Bool
/-- primitives -/
abbrev R0 (α : Type) := Option (α × List O)
def lift {α : Type} : R0 α → R α
  | some (a, S) => .ok a S
  | none => .no
@[simp] theorem lift_some {α : Type} (a : α) (S : List O) : lift (some (a, S)) = .ok a S := rfl
@[simp] theorem lift_none {α : Type} : lift (none : R0 α) = .no := rfl
def Post0 {α β : Type} (K : PySem.W.Frag) (P : List O) (c : Cf) (H : Hp) (rel : Cf → Hp → α → β → Prop) (r : R0 α) (Q : β → Hp → Prop) : Prop := match r with
  | some (a, S') => ∀ c' b H', Ev P c H c' H' → Sim K P S' c' H' → rel c' H' a b → Q b H'
  | none => False
theorem Post.low {α β : Type} {K : PySem.W.Frag} {P : List O} {c : Cf} {H : Hp} {rel : Cf → Hp → α → β → Prop} {r : R0 α} {W : WX} {Q : β → Hp → Prop} (h : Post K P c H rel (lift r) W Q) : Post0 K P c H rel r Q := by
  cases r with
  | none => exact h
  | some p => exact h
theorem Post0.ev {α β : Type} {K : PySem.W.Frag} {P : List O} {c c1 : Cf} {H H1 : Hp} {rel : Cf → Hp → α → β → Prop} {r : R0 α} {Q : β → Hp → Prop} (hs : P.length ≤ c.n) (e : Ev P c H c1 H1) (h : Post0 K P c H rel r Q) : Post0 K P c1 H1 rel r Q := by
  cases r with
  | some p => exact fun c' b H' e' => h c' b H' (e.trans hs e')
  | none => exact h

def relB : Cf → Hp → Bool → Bool → Prop := fun _ _ a b => a = b
def tM (K : PySem.W.Frag) (W : WX) (f : ME) : TE := fun σ H Q => ∃ c P ρ S, SimE K c H ρ σ ∧ Sim K P S c H ∧ Post K P c H (RD K) (f P ρ S) W Q
def tMA (K : PySem.W.Frag) (W : WX) (f : MA) : TA := fun σ H Q => ∃ c P ρ S, SimE K c H ρ σ ∧ Sim K P S c H ∧ Post K P c H (RDs K) (f P ρ S) W Q
def tMT (K : PySem.W.Frag) (W : WX) (f : MT) : TT := fun σ H Q => ∃ c P ρ S, SimE K c H ρ σ ∧ Sim K P S c H ∧ Post K P c H relB (f P ρ S) W Q
structure PM (X : Cx) (W : WX) (e : Expr) (f : ME) : Prop where
  run : PE X e (tM X.K W f)
structure PMA (X : Cx) (W : WX) (es : List Expr) (f : MA) : Prop where
  run : PA X es (tMA X.K W f)
structure PMT (X : Cx) (W : WX) (e : Expr) (f : MT) : Prop where
  run : PT X e (tMT X.K W f)
structure PMW (X : Cx) (W : WX) (e : Expr) (f : MT) : Prop where
  run : PW X e (tMT X.K W f)
theorem pe_weak {X : Cx} {e : Expr} {t t' : TE} (h : PE X e t) (w : ∀ σ H Q, t' σ H Q → t σ H Q) : PE X e t' := ⟨fun pins s σ H Q I q => h.run pins s σ H Q I (w σ H Q q)⟩
theorem pt_weak {X : Cx} {e : Expr} {t t' : TT} (h : PT X e t) (w : ∀ σ H Q, t' σ H Q → t σ H Q) : PT X e t' := ⟨fun pins s σ H Q I q => h.run pins s σ H Q I (w σ H Q q)⟩
theorem pw_weak {X : Cx} {e : Expr} {t t' : TT} (h : PW X e t) (w : ∀ σ H Q, t' σ H Q → t σ H Q) : PW X e t' := ⟨fun whole pins s σ H Q I q => h.run whole pins s σ H Q I (w σ H Q q)⟩
theorem pa_weak {X : Cx} {e : List Expr} {t t' : TA} (h : PA X e t) (w : ∀ σ H Q, t' σ H Q → t σ H Q) : PA X e t' := ⟨fun p pins s σ H Q I q => h.run p pins s σ H Q I (w σ H Q q)⟩

section
variable {K : PySem.W.Frag} {W : WX} {P S : List O} {ρ : En} {c : Cf} {σ : L2.St} {H : Hp}
/-- a first part runs, then what is left -/
theorem tM_bind {f : ME} {α β : Type} {rel : Cf → Hp → α → β → Prop} {g : D → List O → R α} {Q : β → Hp → Prop} (hE : SimE K c H ρ σ) (hS : Sim K P S c H) (h : Post K P c H rel ((f P ρ S).bind g) W Q)
    {R' : V → Hp → Prop} (hr : ∀ d v S' c' H', Ev P c H c' H' → SimE K c' H' ρ σ → Sim K P S' c' H' → RD K c' H' d v → Post K P c' H' rel (g d S') W Q → R' v H') : tM K W f σ H R' := by
  refine ⟨c, P, ρ, S, hE, hS, ?_⟩
  generalize f P ρ S = r at h
  cases r with
  | ok d S' => exact fun c' v H' e s r => hr d v S' c' H' e (hE.mono e) s r (Post.ev hS.pl e h)
  | ex x S' => exact h
  | no => exact h
theorem tMA_bind {f : MA} {α β : Type} {rel : Cf → Hp → α → β → Prop} {g : List D → List O → R α} {Q : β → Hp → Prop} (hE : SimE K c H ρ σ) (hS : Sim K P S c H) (h : Post K P c H rel ((f P ρ S).bind g) W Q)
    {R' : List V → Hp → Prop} (hr : ∀ d v S' c' H', Ev P c H c' H' → SimE K c' H' ρ σ → Sim K P S' c' H' → RDs K c' H' d v → Post K P c' H' rel (g d S') W Q → R' v H') : tMA K W f σ H R' := by
  refine ⟨c, P, ρ, S, hE, hS, ?_⟩
  generalize f P ρ S = r at h
  cases r with
  | ok d S' => exact fun c' v H' e s r => hr d v S' c' H' e (hE.mono e) s r (Post.ev hS.pl e h)
  | ex x S' => exact h
  | no => exact h
theorem tMT_bind {f : MT} {α β : Type} {rel : Cf → Hp → α → β → Prop} {g : Bool → List O → R α} {Q : β → Hp → Prop} (hE : SimE K c H ρ σ) (hS : Sim K P S c H) (h : Post K P c H rel ((f P ρ S).bind g) W Q)
    {R' : Bool → Hp → Prop} (hr : ∀ b S' c' H', Ev P c H c' H' → SimE K c' H' ρ σ → Sim K P S' c' H' → Post K P c' H' rel (g b S') W Q → R' b H') : tMT K W f σ H R' := by
  refine ⟨c, P, ρ, S, hE, hS, ?_⟩
  generalize f P ρ S = r at h
  cases r with
  | ok d S' =>
    intro c' v H' e s r
    cases (show d = v from r)
    exact hr d S' c' H' e (hE.mono e) s (Post.ev hS.pl e h)
  | ex x S' => exact h
  | no => exact h
end

/-! ### names, constants -/
def mVar (i : Nat) : ME := fun _ ρ S => match ρ[i]? with
  | some (some d) => .ok d S
  | _ => .no
def mC (x : T) : ME := fun _ _ S => .ok (.t x) S
section
variable {X : Cx} {W : WX} {a b : Expr} {fa fb : ME} {pos : Pos}
theorem pm_var (i : Nat) {x : Str} (hN : X.N[i]? = some x := by rfl) (hv : Vis X.env.scope x := by first | exact Or.inl rfl | exact Or.inr (Or.inl rfl) | exact Or.inr (Or.inr rfl)) (hd : (x == ("__debug__" : Str)) = false := by decide)
    (hcd : (x == ("__classdict__" : Str)) = false := by decide) : PM X W (.Name x pos) (mVar i) := by
  refine ⟨pe_weak (pe_var hN hv hd hcd) fun σ H Q h => ?_⟩
  obtain ⟨c, P, ρ, S, hE, hS, h⟩ := h
  unfold mVar at h
  split at h
  · rename_i d e
    obtain ⟨v, h1, h2⟩ := hE.get i d e
    exact ⟨v, h1, h c v H (Ev.refl hS) hS h2⟩
  · exact h.elim
theorem pm_c {e : Expr} {v : V} {x : T} (he : PE X e (tC v)) (hr : ∀ Z H, RV X.K Z H x v) : PM X W e (mC x) := by
  refine ⟨pe_weak he fun σ H Q h => ?_⟩
  obtain ⟨c, P, ρ, S, hE, hS, h⟩ := h
  exact h c v H (Ev.refl hS) hS (hr _ _)
theorem pm_int {i : Int} {j} : PM X W (.Constant (.int i) j pos) (mC (.int i)) := pm_c pe_int fun _ _ => .int i
theorem pm_bl {b : Bool} {j} : PM X W (.Constant (.bool b) j pos) (mC (.bl b)) := pm_c pe_bl fun _ _ => .bl b
theorem pm_non {j} : PM X W (.Constant .none j pos) (mC .non) := pm_c pe_non fun _ _ => .non
theorem pm_str {x : Str} {j} (s : Tx) (hx : x = sv s := by rfl) (hs : s.length ≤ sizeLine := by decide) : PM X W (.Constant (.str x) j pos) (mC (.str s)) := by
  subst hx
  exact pm_c pe_str fun _ _ => .str s hs
/-- a module's int, text -/
theorem pm_globI {x : Str} {i : Int} {t : Tok} (hg : Gl X x) (hm : X.mg x = some (.int i t)) (hd : (x == ("__debug__" : Str)) = false := by decide) : PM X W (.Name x pos) (mC (.int i)) := pm_c (v := .int i) (pe_glob hg hm ⟨t, rfl⟩ hd) fun _ _ => .int i
theorem pm_globS {x y : Str} {t : Tok} (s : Tx) (hg : Gl X x) (hm : X.mg x = some (.str y t)) (hx : y = sv s := by rfl) (hs : s.length ≤ sizeLine := by decide) (hd : (x == ("__debug__" : Str)) = false := by decide) : PM X W (.Name x pos) (mC (.str s)) := by
  subst hx
  exact pm_c (v := .str (sv s)) (pe_glob hg hm ⟨t, rfl⟩ hd) fun _ _ => .str s hs

/-! ### two parts -/
abbrev F1 := D → List O → List O → R0 D
abbrev F2 := D → D → List O → List O → R0 D
def rM2 (K : PySem.W.Frag) (g : F2) : R2 := fun x y H Q => ∃ c P S a b, Sim K P S c H ∧ RD K c H a x ∧ RD K c H b y ∧ Post0 K P c H (RD K) (g a b P S) Q
def mOp2 (g : F2) (fa fb : ME) : ME := fun P ρ S => (fa P ρ S).bind fun x S1 => (fb P ρ S1).bind fun y S2 => lift (g x y P S2)
structure OpM (X : Cx) (f : Value → Value → Sem Value) (g : F2) : Prop where
  run : OpR X f (rM2 X.K g)
theorem tOp_of {g : F2} {σ : L2.St} {H : Hp} {Q : VK} (h : tM X.K W (mOp2 g fa fb) σ H Q) : tOp (rM2 X.K g) (tM X.K W fa) (tM X.K W fb) σ H Q := by
  obtain ⟨c, P, ρ, S, hE, hS, h⟩ := h
  refine tM_bind hE hS h fun d v S1 c1 H1 e1 E1 s1 r1 h1 => ?_
  refine tM_bind E1 s1 h1 fun d2 v2 S2 c2 H2 e2 E2 s2 r2 h2 => ?_
  exact ⟨c2, P, S2, d, d2, s2, r1.mono e2, r2, h2.low⟩
theorem pm_bin {op : Operator} {g : F2} (ho : OpM X (binaryOp op) g) (ha : PM X W a fa) (hb : PM X W b fb) : PM X W (.BinOp a op b pos) (mOp2 g fa fb) :=
  ⟨pe_weak (pe_op ho.run ha.run hb.run) fun _ _ _ h => tOp_of h⟩
theorem pm_cmp {op : CmpOp} {g : F2} (ho : OpM X (compareOp op) g) (ha : PM X W a fa) (hb : PM X W b fb) (hm : behindInMarks op b = false := by first | exact nomark _ | rfl) : PM X W (.Compare a [op] [b] pos) (mOp2 g fa fb) :=
  ⟨pe_weak (pe_cmpR ho.run ha.run hb.run hm) fun _ _ _ h => tOp_of h⟩
structure IxM (X : Cx) (g : F2) : Prop where
  run : IxR X (rM2 X.K g)
theorem pm_ix {g : F2} (ho : IxM X g) (ha : PM X W a fa) (hb : PM X W b fb) (hs : PlainIx b := by exact fun _ _ => rfl) : PM X W (.Subscript a b pos) (mOp2 g fa fb) :=
  ⟨pe_weak (pe_ix ho.run ha.run hb.run hs) fun _ _ _ h => tOp_of h⟩
/-- one part -/
def rM1 (K : PySem.W.Frag) (g : F1) : V → Hp → VK → Prop := fun x H Q => ∃ c P S a, Sim K P S c H ∧ RD K c H a x ∧ Post0 K P c H (RD K) (g a P S) Q
def mOp1 (g : F1) (fa : ME) : ME := fun P ρ S => (fa P ρ S).bind fun x S1 => lift (g x P S1)
structure UnM (X : Cx) (f : Value → Sem Value) (g : F1) : Prop where
  run : UnR X f (rM1 X.K g)
theorem pm_un {op : UnaryOp} {g : F1} (ho : UnM X (unaryOp op) g) (ha : PM X W a fa) : PM X W (.UnaryOp op a pos) (mOp1 g fa) := by
  refine ⟨pe_weak (pe_un ho.run ha.run) fun σ H Q h => ?_⟩
  obtain ⟨c, P, ρ, S, hE, hS, h⟩ := h
  exact tM_bind hE hS h fun d v S1 c1 H1 e1 E1 s1 r1 h1 => ⟨c1, P, S1, d, s1, r1, h1.low⟩
/-- a < b < c -/
def isTrueD : D → Option Bool
  | .t (.bl b) => some b
  | _ => none
def mChain (g g' : F2) (fa fb fc : ME) : ME := fun P ρ S => (fa P ρ S).bind fun x S1 => (fb P ρ S1).bind fun y S2 => (lift (g x y P S2)).bind fun z S3 => match isTrueD z with
  | some true => (fc P ρ S3).bind fun u S4 => lift (g' y u P S4)
  | some false => .ok (.t (.bl false)) S3
  | none => .no
theorem isTrueD_some {d : D} {b : Bool} (h : isTrueD d = some b) : d = .t (.bl b) := by
  cases d with
  | ref i => cases h
  | t x => cases x <;> simp [isTrueD] at h; rw [h]
theorem RD.isBl {K : PySem.W.Frag} {c : Cf} {H : Hp} {b : Bool} {v : V} (h : RD K c H (.t (.bl b)) v) : v = .bl b := by cases h; rfl
theorem tChain_of {g g' : F2} {fc : ME} {σ : L2.St} {H : Hp} {Q : VK} (h : tM X.K W (mChain g g' fa fb fc) σ H Q) : tChain (rM2 X.K g) (rM2 X.K g') (tM X.K W fa) (tM X.K W fb) (tM X.K W fc) σ H Q := by
  obtain ⟨c, P, ρ, S, hE, hS, h⟩ := h
  refine tM_bind hE hS h fun d v S1 c1 H1 e1 E1 s1 r1 h1 => ?_
  refine tM_bind E1 s1 h1 fun d2 v2 S2 c2 H2 e2 E2 s2 r2 h2 => ?_
  refine ⟨c2, P, S2, d, d2, s2, r1.mono e2, r2, ?_⟩
  generalize g d d2 P S2 = r at h2
  cases r with
  | none => exact h2
  | some p =>
    obtain ⟨z, S3⟩ := p
    intro c3 v3 H3 e3 s3 r3
    have h3 := Post.ev s2.pl e3 h2
    simp only [lift_some, R.bind_ok] at h3
    cases q : isTrueD z with
    | none => rw [q] at h3; exact h3.elim
    | some k =>
      rw [q] at h3
      rw [isTrueD_some q] at r3
      refine ⟨k, r3.isBl, ?_⟩
      cases k with
      | true =>
        rw [if_pos rfl]
        refine tM_bind (E2.mono e3) s3 h3 fun d4 v4 S4 c4 H4 e4 E4 s4 r4 h4 => ?_
        exact ⟨c4, P, S4, d2, d4, s4, (r2.mono e3).mono e4, r4, h4.low⟩
      | false =>
        rw [if_neg Bool.false_ne_true]
        exact h3 c3 _ H3 (Ev.refl s3) s3 (RV.bl false)
theorem pm_chain {op op' : CmpOp} {g g' : F2} {d : Expr} {fc : ME} (ho : OpM X (compareOp op) g) (ho' : OpM X (compareOp op') g') (ha : PM X W a fa) (hb : PM X W b fb) (hc : PM X W d fc) (hm : lastMarks [op, op'] [b, d] = false := by rfl) : PM X W (.Compare a [op, op'] [b, d] pos) (mChain g g' fa fb fc) :=
  ⟨pe_weak (pe_chain ho.run ho'.run ha.run hb.run hc.run hm) fun _ _ _ h => tChain_of h⟩

/-! ### tests -/
def mT (f : ME) : MT := fun P ρ S => (f P ρ S).bind fun d S1 => match isTrueD d with
  | some b => .ok b S1
  | none => .no
theorem pmt_val {e : Expr} {f : ME} (h : PM X W e f) (he : ∀ whole, isTrue e X.env whole = (do let v ← whole; standAt e.pos; holding [v] (truthy v)) := by intro _; rfl) : PMT X W e (mT f) := by
  refine ⟨pt_weak (pt_val h.run he) fun σ H Q h => ?_⟩
  obtain ⟨c, P, ρ, S, hE, hS, h⟩ := h
  refine tM_bind hE hS h fun d v S1 c1 H1 e1 E1 s1 r1 h1 => ?_
  cases q : isTrueD d with
  | none => rw [q] at h1; exact h1.elim
  | some k =>
    rw [q] at h1
    rw [isTrueD_some q] at r1
    exact ⟨k, r1.isBl, h1 c1 k H1 (Ev.refl s1) s1 rfl⟩
def mAndT (f g : MT) : MT := fun P ρ S => (f P ρ S).bind fun b S1 => if b then g P ρ S1 else .ok false S1
def mOrT (f g : MT) : MT := fun P ρ S => (f P ρ S).bind fun b S1 => if b then .ok true S1 else g P ρ S1
def mNotT (f : MT) : MT := fun P ρ S => (f P ρ S).bind fun b S1 => .ok (!b) S1
variable {ft gt : MT} {rest : List Expr}
theorem PMW.pt {e : Expr} {f : MT} (h : PMW X W e f) : PMT X W e f := ⟨h.run.pt⟩
theorem pmw_and1 (h : PMT X W a ft) : PMW X W (.BoolOp .And [a] pos) ft := ⟨pw_and1 h.run⟩
theorem pmw_or1 (h : PMT X W a ft) : PMW X W (.BoolOp .Or [a] pos) ft := ⟨pw_or1 h.run⟩
theorem pmw_and (ha : PMT X W a ft) (hb : PMW X W (.BoolOp .And (b :: rest) pos) gt) : PMW X W (.BoolOp .And (a :: b :: rest) pos) (mAndT ft gt) := by
  refine ⟨pw_weak (L2.pw_and ha.run hb.run) fun σ H Q h => ?_⟩
  obtain ⟨c, P, ρ, S, hE, hS, h⟩ := h
  refine tMT_bind hE hS h fun k S1 c1 H1 e1 E1 s1 h1 => ?_
  cases k with
  | true => rw [if_pos rfl]; exact ⟨c1, P, ρ, S1, E1, s1, h1⟩
  | false => rw [if_neg Bool.false_ne_true]; exact h1 c1 false H1 (Ev.refl s1) s1 rfl
theorem pmw_or (ha : PMT X W a ft) (hb : PMW X W (.BoolOp .Or (b :: rest) pos) gt) : PMW X W (.BoolOp .Or (a :: b :: rest) pos) (mOrT ft gt) := by
  refine ⟨pw_weak (L2.pw_or ha.run hb.run) fun σ H Q h => ?_⟩
  obtain ⟨c, P, ρ, S, hE, hS, h⟩ := h
  refine tMT_bind hE hS h fun k S1 c1 H1 e1 E1 s1 h1 => ?_
  cases k with
  | true => rw [if_pos rfl]; exact h1 c1 true H1 (Ev.refl s1) s1 rfl
  | false => rw [if_neg Bool.false_ne_true]; exact ⟨c1, P, ρ, S1, E1, s1, h1⟩
theorem pmt_not (ha : PMT X W a ft) : PMT X W (.UnaryOp .Not a pos) (mNotT ft) := by
  refine ⟨pt_weak (L2.pt_not ha.run) fun σ H Q h => ?_⟩
  obtain ⟨c, P, ρ, S, hE, hS, h⟩ := h
  exact tMT_bind hE hS h fun k S1 c1 H1 e1 E1 s1 h1 => h1 c1 (!k) H1 (Ev.refl s1) s1 rfl
/-! .. as values -/
def mAnd (fa fb : ME) : ME := fun P ρ S => (fa P ρ S).bind fun d S1 => match isTrueD d with
  | some true => fb P ρ S1
  | some false => .ok (.t (.bl false)) S1
  | none => .no
def mOr (fa fb : ME) : ME := fun P ρ S => (fa P ρ S).bind fun d S1 => match isTrueD d with
  | some true => .ok (.t (.bl true)) S1
  | some false => fb P ρ S1
  | none => .no
def mNot (fa : ME) : ME := fun P ρ S => (fa P ρ S).bind fun d S1 => match isTrueD d with
  | some b => .ok (.t (.bl (!b))) S1
  | none => .no
theorem pm_one {op} {f : ME} (h : PM X W a f) : PM X W (.BoolOp op [a] pos) f := ⟨pe_one h.run⟩
theorem pm_and (ha : PM X W a fa) (hb : PM X W (.BoolOp .And (b :: rest) pos) fb) : PM X W (.BoolOp .And (a :: b :: rest) pos) (mAnd fa fb) := by
  refine ⟨pe_weak (pe_and ha.run hb.run) fun σ H Q h => ?_⟩
  obtain ⟨c, P, ρ, S, hE, hS, h⟩ := h
  refine tM_bind hE hS h fun d v S1 c1 H1 e1 E1 s1 r1 h1 => ?_
  cases q : isTrueD d with
  | none => rw [q] at h1; exact h1.elim
  | some k =>
    rw [q] at h1
    rw [isTrueD_some q] at r1
    refine ⟨k, r1.isBl, ?_⟩
    cases k with
    | true => rw [if_pos rfl]; exact ⟨c1, P, ρ, S1, E1, s1, h1⟩
    | false => rw [if_neg Bool.false_ne_true]; exact h1 c1 _ H1 (Ev.refl s1) s1 (RV.bl false)
theorem pm_or (ha : PM X W a fa) (hb : PM X W (.BoolOp .Or (b :: rest) pos) fb) : PM X W (.BoolOp .Or (a :: b :: rest) pos) (mOr fa fb) := by
  refine ⟨pe_weak (pe_or ha.run hb.run) fun σ H Q h => ?_⟩
  obtain ⟨c, P, ρ, S, hE, hS, h⟩ := h
  refine tM_bind hE hS h fun d v S1 c1 H1 e1 E1 s1 r1 h1 => ?_
  cases q : isTrueD d with
  | none => rw [q] at h1; exact h1.elim
  | some k =>
    rw [q] at h1
    rw [isTrueD_some q] at r1
    refine ⟨k, r1.isBl, ?_⟩
    cases k with
    | true => rw [if_pos rfl]; exact h1 c1 _ H1 (Ev.refl s1) s1 (RV.bl true)
    | false => rw [if_neg Bool.false_ne_true]; exact ⟨c1, P, ρ, S1, E1, s1, h1⟩
theorem pm_not (ha : PM X W a fa) : PM X W (.UnaryOp .Not a pos) (mNot fa) := by
  refine ⟨pe_weak (pe_not ha.run) fun σ H Q h => ?_⟩
  obtain ⟨c, P, ρ, S, hE, hS, h⟩ := h
  refine tM_bind hE hS h fun d v S1 c1 H1 e1 E1 s1 r1 h1 => ?_
  cases q : isTrueD d with
  | none => rw [q] at h1; exact h1.elim
  | some k =>
    rw [q] at h1
    rw [isTrueD_some q] at r1
    exact ⟨k, r1.isBl, h1 c1 _ H1 (Ev.refl s1) s1 (RV.bl (!k))⟩
def mIf (ft : MT) (fa fb : ME) : ME := fun P ρ S => (ft P ρ S).bind fun b S1 => if b then fa P ρ S1 else fb P ρ S1
theorem pm_if {d : Expr} (hc : PMT X W d ft) (ha : PM X W a fa) (hb : PM X W b fb) : PM X W (.IfExp d a b pos) (mIf ft fa fb) := by
  refine ⟨pe_weak (pe_ifExp hc.run ha.run hb.run) fun σ H Q h => ?_⟩
  obtain ⟨c, P, ρ, S, hE, hS, h⟩ := h
  refine tMT_bind hE hS h fun k S1 c1 H1 e1 E1 s1 h1 => ?_
  cases k with
  | true => rw [if_pos rfl]; exact ⟨c1, P, ρ, S1, E1, s1, h1⟩
  | false => rw [if_neg Bool.false_ne_true]; exact ⟨c1, P, ρ, S1, E1, s1, h1⟩

/-! ### argument lists -/
def mNil : MA := fun _ _ S => .ok [] S
def mCons (f : ME) (g : MA) : MA := fun P ρ S => (f P ρ S).bind fun d S1 => (g P ρ S1).bind fun ds S2 => .ok (d :: ds) S2
variable {es : List Expr} {fs : MA}
theorem pma_nil : PMA X W [] mNil := by
  refine ⟨pa_weak pa_nil fun σ H Q h => ?_⟩
  obtain ⟨c, P, ρ, S, hE, hS, h⟩ := h
  exact h c [] H (Ev.refl hS) hS .nil
theorem pma_cons (ha : PM X W a fa) (hr : PMA X W es fs) (hs : starEach (a :: es) X.env = (false, eval a X.env) :: starEach es X.env := by rfl) : PMA X W (a :: es) (mCons fa fs) := by
  refine ⟨pa_weak (pa_cons ha.run hr.run hs) fun σ H Q h => ?_⟩
  obtain ⟨c, P, ρ, S, hE, hS, h⟩ := h
  refine tM_bind hE hS h fun d v S1 c1 H1 e1 E1 s1 r1 h1 => ?_
  refine tMA_bind E1 s1 h1 fun ds vs S2 c2 H2 e2 E2 s2 r2 h2 => ?_
  exact h2 c2 _ H2 (Ev.refl s2) s2 (.cons (r1.mono e2) r2)

/-! ### displays -/
/-- the trees, if all are trees -/
def trees : List D → Option (List T)
  | [] => some []
  | .t x :: r => (trees r).map (x :: ·)
  | .ref _ :: _ => none
@[simp] theorem trees_nil : trees [] = some [] := rfl
@[simp] theorem trees_cons (x : T) (r : List D) : trees (.t x :: r) = (trees r).map (x :: ·) := rfl
@[simp] theorem trees_map (l : List T) : trees (l.map D.t) = some l := by
  induction l with
  | nil => rfl
  | cons x l ih => rw [List.map_cons, trees_cons, ih]; rfl
@[simp] theorem trees_mapf {α : Type} (g : α → T) (l : List α) : trees (l.map fun x => D.t (g x)) = some (l.map g) := by
  rw [← trees_map (l.map g), List.map_map]; rfl
theorem RDs.trees {K : PySem.W.Frag} {c : Cf} {H : Hp} : ∀ {ds : List D} {vs : List V} {ts : List T}, RDs K c H ds vs → trees ds = some ts → RVs K c.Z H ts vs
  | _, _, _, .nil, h => by cases h; exact .nil
  | .t x :: r, _, ts, .cons h1 h2, h => by
    rw [trees_cons] at h
    cases q : Fm.trees r with
    | none => rw [q] at h; cases h
    | some l =>
      rw [q] at h
      cases h
      exact .cons _ _ _ _ h1 (RDs.trees h2 q)
  | .ref _ :: _, _, _, _, h => by cases h
theorem RDs.len {K : PySem.W.Frag} {c : Cf} {H : Hp} {ds : List D} {vs : List V} (h : RDs K c H ds vs) : ds.length = vs.length := Paired.length h
/-- a new tree -/
theorem Post0.newT {K : PySem.W.Frag} {P S : List O} {c : Cf} {H : Hp} {p : Addr} {o : HO} {x : T} {Q : V → Hp → Prop} (hS : Sim K P S c H) (h : Post0 K P c H (RD K) (some (.t x, S)) Q) (hp : H p = none)
    (hr : RV K (c.zed p).Z (upd H p o) x (.ref p)) : Q (.ref p) (upd H p o) := h (c.zed p) _ _ (Ev.alloc hS hp) (Sim.alloc hS hp) hr
/-- nothing new -/
theorem Post0.same {α β : Type} {K : PySem.W.Frag} {P S : List O} {c : Cf} {H : Hp} {a : α} {b : β} {rel : Cf → Hp → α → β → Prop} {Q : β → Hp → Prop} (hS : Sim K P S c H) (h : Post0 K P c H rel (some (a, S)) Q) (r : rel c H a b) : Q b H := h c _ _ (Ev.refl hS) hS r
theorem Post.same {α β : Type} {K : PySem.W.Frag} {P S : List O} {c : Cf} {H : Hp} {a : α} {b : β} {rel : Cf → Hp → α → β → Prop} {W : WX} {Q : β → Hp → Prop} (hS : Sim K P S c H) (h : Post K P c H rel (.ok a S) W Q) (r : rel c H a b) : Q b H := h c _ _ (Ev.refl hS) hS r
theorem RVs.up {K : PySem.W.Frag} {P S : List O} {c : Cf} {H : Hp} {p : Addr} {o : HO} {ts : List T} {vs : List V} (hS : Sim K P S c H) (hp : H p = none) (h : RVs K c.Z H ts vs) : RVs K (c.zed p).Z (upd H p o) ts vs := by
  have e := Ev.alloc (o := o) hS hp
  exact RVs.mono e.z e.rd e.rdD h
theorem RV.up {K : PySem.W.Frag} {P S : List O} {c : Cf} {H : Hp} {p : Addr} {o : HO} {t : T} {v : V} (hS : Sim K P S c H) (hp : H p = none) (h : RV K c.Z H t v) : RV K (c.zed p).Z (upd H p o) t v := by
  have e := Ev.alloc (o := o) hS hp
  exact RV.mono e.z e.rd e.rdD h
def mTup (fs : MA) : ME := fun P ρ S => (fs P ρ S).bind fun ds S1 => match trees ds with
  | some ts => if ts.length ≤ sizeLine then .ok (.t (.tup ts)) S1 else .no
  | none => .no
def mLst (fs : MA) : ME := fun P ρ S => (fs P ρ S).bind fun ds S1 => match trees ds with
  | some ts => if ts.length ≤ sizeLine then .ok (.t (.lst ts)) S1 else .no
  | none => .no
/-- a list that will be changed -/
def mLstC (fs : MA) : ME := fun P ρ S => (fs P ρ S).bind fun ds S1 => if ds.length ≤ sizeLine then .ok (.ref (P.length + S1.length)) (S1 ++ [.lst ds]) else .no
theorem RVs.len {K : PySem.W.Frag} {Z : Addr → Prop} {H : Hp} : ∀ {ts : List T} {vs : List V}, RVs K Z H ts vs → ts.length = vs.length
  | _, _, .nil => rfl
  | _, _, .cons _ _ _ _ _ h => by rw [List.length_cons, List.length_cons, RVs.len h]
theorem pm_tup {k} (h : PMA X W es fs) : PM X W (.Tuple es k pos) (mTup fs) := by
  refine ⟨pe_weak (pe_tup h.run) fun σ H Q h => ?_⟩
  obtain ⟨c, P, ρ, S, hE, hS, h⟩ := h
  refine tMA_bind hE hS h fun ds vs S1 c1 H1 e1 E1 s1 r1 h1 => ?_
  cases q : trees ds with
  | none => rw [q] at h1; exact h1.elim
  | some ts =>
    rw [q] at h1
    have rt := r1.trees q
    by_cases hl : ts.length ≤ sizeLine
    · simp only [if_pos hl] at h1
      have hv : vs.length ≤ sizeLine := by rw [← rt.len]; exact hl
      exact ⟨hv, fun p hp => h1 (c1.zed p) _ _ (Ev.alloc s1 hp) (Sim.alloc s1 hp) (.tup ts p vs (.inr rfl) upd_same hv (rt.up s1 hp))⟩
    · simp only [if_neg hl] at h1
      exact h1.elim
theorem pm_lst (h : PMA X W es fs) : PM X W (.List es pos) (mLst fs) := by
  refine ⟨pe_weak (pe_lst h.run) fun σ H Q h => ?_⟩
  obtain ⟨c, P, ρ, S, hE, hS, h⟩ := h
  refine tMA_bind hE hS h fun ds vs S1 c1 H1 e1 E1 s1 r1 h1 => ?_
  cases q : trees ds with
  | none => rw [q] at h1; exact h1.elim
  | some ts =>
    rw [q] at h1
    have rt := r1.trees q
    by_cases hl : ts.length ≤ sizeLine
    · simp only [if_pos hl] at h1
      have hv : vs.length ≤ sizeLine := by rw [← rt.len]; exact hl
      exact ⟨hv, fun p hp => h1 (c1.zed p) _ _ (Ev.alloc s1 hp) (Sim.alloc s1 hp) (.lst ts p vs (.inr rfl) upd_same hv (rt.up s1 hp))⟩
    · simp only [if_neg hl] at h1
      exact h1.elim
theorem RDs.cell {K : PySem.W.Frag} {P S : List O} {c : Cf} {H : Hp} {p : Addr} {o : HO} {ds : List D} {vs : List V} (hS : Sim K P S c H) (hp : H p = none) (h : RDs K c H ds vs) : RDs K (c.cell p) (upd H p o) ds vs := RDs.mono (Ev.cellE hS hp) h
theorem pm_lstC (h : PMA X W es fs) : PM X W (.List es pos) (mLstC fs) := by
  refine ⟨pe_weak (pe_lst h.run) fun σ H Q h => ?_⟩
  obtain ⟨c, P, ρ, S, hE, hS, h⟩ := h
  refine tMA_bind hE hS h fun ds vs S1 c1 H1 e1 E1 s1 r1 h1 => ?_
  by_cases hl : ds.length ≤ sizeLine
  · simp only [if_pos hl] at h1
    refine ⟨by rw [← r1.len]; exact hl, fun p hp => ?_⟩
    refine h1 (c1.cell p) _ _ (Ev.cellE s1 hp) (Sim.cell s1 hp ⟨vs, upd_same, by rw [← r1.len]; exact hl, r1.cell s1 hp⟩) ?_
    have hn := s1.n
    refine ⟨by show _ < c1.n + 1; omega, ?_⟩
    show V.ref p = V.ref (if P.length + S1.length = c1.n then p else _)
    rw [if_pos hn]
  · simp only [if_neg hl] at h1
    exact h1.elim

/-! ### calls of built-ins -/
abbrev FL := List D → List O → List O → R0 D
def rML (K : PySem.W.Frag) (g : FL) : List V → Hp → VK → Prop := fun xs H Q => ∃ c P S ds, Sim K P S c H ∧ RDs K c H ds xs ∧ Post0 K P c H (RD K) (g ds P S) Q
def mCallB (g : FL) (fs : MA) : ME := fun P ρ S => (fs P ρ S).bind fun ds S1 => lift (g ds P S1)
structure CallM (X : Cx) (f : Value) (g : FL) : Prop where
  run : CallR X f (rML X.K g)
theorem tCB_of {g : FL} {σ : L2.St} {H : Hp} {Q : VK} (h : tM X.K W (mCallB g fs) σ H Q) : tCB (rML X.K g) (tMA X.K W fs) σ H Q := by
  obtain ⟨c, P, ρ, S, hE, hS, h⟩ := h
  exact tMA_bind hE hS h fun ds vs S1 c1 H1 e1 E1 s1 r1 h1 => ⟨c1, P, S1, ds, s1, r1, h1.low⟩
theorem pm_callB {id : String} {x : Str} {p : Pos} {g : FL} (hc : CallM X (.builtin id) g) (hg : Gl X x) (hm : X.mg x = none) (hv : bootBuiltins x = some (.builtin id)) (ha : PMA X W (a :: es) fs) (hn : x ≠ "__name__" := by decide) (hdb : (x == ("__debug__" : Str)) = false := by decide)
    (he : starEach (a :: es) X.env = (false, eval a X.env) :: starEach es X.env := by rfl) (hpl : (backTo pos (starEach es X.env)).any (·.1) = false := by rfl) : PM X W (.Call (.Name x p) (a :: es) [] pos) (mCallB g fs) :=
  ⟨pe_weak (pe_callB hc.run hg hm hv ha.run hn hdb he hpl) fun _ _ _ h => tCB_of h⟩
theorem pm_callTy {T : String} {x : Str} {p : Pos} {g : FL} (hc : CallM X (.type T) g) (hg : Gl X x) (hm : X.mg x = none) (hv : bootBuiltins x = some (.type T)) (ha : PMA X W (a :: es) fs) (hn : x ≠ "__name__" := by decide) (hdb : (x == ("__debug__" : Str)) = false := by decide)
    (he : starEach (a :: es) X.env = (false, eval a X.env) :: starEach es X.env := by rfl) (hpl : (backTo pos (starEach es X.env)).any (·.1) = false := by rfl) : PM X W (.Call (.Name x p) (a :: es) [] pos) (mCallB g fs) :=
  ⟨pe_weak (pe_callTy hc.run hg hm hv ha.run hn hdb he hpl) fun _ _ _ h => tCB_of h⟩
end
end Fm

/-! Fm3: defs, calls of defs, statements, loops, comprehensions. -/
namespace Fm
open PySem PySem.Spec PyProof.Rows L2

/-! ### defs and their calls -/
abbrev MF := List D → List O → List O → R D
def R.nx {α : Type} : R α → R α
  | .ok a S => .ok a S
  | _ => .no
@[simp] theorem R.nx_ok {α : Type} (a : α) (S : List O) : (R.ok a S).nx = .ok a S := rfl
@[simp] theorem R.nx_no {α : Type} : (R.no : R α).nx = .no := rfl
def spM (K : PySem.W.Frag) (n : Nat) (g : MF) : Sp := fun vs H Q _ => vs.length = n ∧ ∃ c P S ds, Sim K P S c H ∧ RDs K c H ds vs ∧ Post K P c H (RD K) (g ds P S) W0 Q
theorem Post.nx {α β : Type} {K : PySem.W.Frag} {P : List O} {c : Cf} {H : Hp} {rel : Cf → Hp → α → β → Prop} {r : R α} {W : WX} {Q : β → Hp → Prop} (h : Post K P c H rel r.nx W Q) : Post K P c H rel r W0 Q := by
  cases r with
  | ok a S => exact h
  | ex x S => exact h.elim
  | no => exact h
def mCall (g : MF) (fs : MA) : ME := fun P ρ S => (fs P ρ S).bind fun ds S1 => (g ds P S1).nx
/-- a call that changes nothing that stood: what it hands back is a tree -/
def pureF (g : MF) : MF := fun ds P S => match g ds (P ++ S) [] with
  | .ok (.t x) _ => .ok (.t x) S
  | _ => .no
/-- .. that hands back a new list of trees -/
def newF (g : MF) : MF := fun ds P S => match g ds (P ++ S) [] with
  | .ok (.ref i) S' => if (P ++ S).length ≤ i then match S'[i - (P ++ S).length]? with
    | some (.lst l) => match trees l with
      | some _ => .ok (.ref (P.length + S.length)) (S ++ [.lst l])
      | none => .no
    | _ => .no else .no
  | _ => .no
section
variable {K : PySem.W.Frag} {P S S' : List O} {c c' : Cf} {H H' : Hp}
/-- what stood is kept: the cells that are new are forgotten -/
theorem Sim.forget (hS : Sim K P S c H) (ev : Ev (P ++ S) c H c' H') (s' : Sim K (P ++ S) S' c' H') : Ev P c H { c' with n := c.n } H' ∧ Sim K P S { c' with n := c.n } H' := by
  have ev1 : Ev P c H { c' with n := c.n } H' := ⟨ev.z, ev.rd, ev.rdD, Nat.le_refl _, ev.m, fun i o e l => ev.b i o (by rw [List.getElem?_append_left (List.getElem?_eq_some_iff.mp e).1]; exact e) l, ev.y, ev.fz⟩
  have lt : ∀ {i : Nat} {o : O}, (P ++ S)[i]? = some o → i < c.n := fun {i o} e => by
    have := (List.getElem?_eq_some_iff.mp e).1
    rw [List.length_append] at this
    have := hS.n
    omega
  refine ⟨ev1, hS.n, fun i o e => ?_, fun i o e l => ?_, fun i j o u ei ej li lj q => ?_, s'.z, s'.y, s'.yz, fun i o e l => ?_⟩
  · show RO K _ H' o (c'.m i)
    rw [ev.m i (lt e)]
    cases hl : o.live with
    | false => cases o <;> first | trivial | cases hl
    | true => exact (hS.ro i o e).mono ev1 (ev.b i o e hl).1
  · show ¬ c'.Z (c'.m i)
    rw [ev.m i (lt e)]
    exact (ev.b i o e l).2.1
  · have q : c'.m i = c'.m j := q
    rw [ev.m i (lt ei), ev.m j (lt ej)] at q
    exact hS.inj i j o u ei ej li lj q
  · show ¬ c'.Y (c'.m i)
    rw [ev.m i (lt e)]
    exact (ev.b i o e l).2.2
theorem Sim.lock (hS : Sim K P S c H) : Sim K (P ++ S) [] c H :=
  ⟨by rw [List.length_append]; simpa using hS.n, fun i o e => hS.ro i o (by simpa using e), fun i o e => hS.nz i o (by simpa using e), fun i j o u ei ej => hS.inj i j o u (by simpa using ei) (by simpa using ej), hS.z, hS.y, hS.yz, fun i o e => hS.yc i o (by simpa using e)⟩
theorem RDs.treeUp {ds : List D} {vs : List V} {ts : List T} {c1 : Cf} (hz : c1.Z = c'.Z) (h : RDs K c' H' ds vs) (q : Fm.trees ds = some ts) : RDs K c1 H' ds vs := by
  induction h generalizing ts with
  | nil => exact .nil
  | cons r _ ih =>
    rename_i d v ds' vs' _
    cases d with
    | ref i => cases q
    | t x =>
      rw [trees_cons] at q
      cases z : Fm.trees ds' with
      | none => rw [z] at q; cases q
      | some l => exact .cons (show RV K c1.Z H' x v by rw [hz]; exact r) (ih z)
end
theorem sp_pure {K : PySem.W.Frag} {n : Nat} {g : MF} : ∀ vs H Q E, spM K n (pureF g) vs H Q E → spM K n g vs H Q E := by
  rintro vs H Q E ⟨hn, c, P, S, ds, hS, hr, h⟩
  refine ⟨hn, c, P ++ S, [], ds, hS.lock, hr, ?_⟩
  unfold pureF at h
  generalize g ds (P ++ S) [] = r at h
  cases r with
  | ok d S' =>
    cases d with
    | t x => exact fun c' v H' ev s' rd => h { c' with n := c.n } v H' (hS.forget ev s').1 (hS.forget ev s').2 rd
    | ref i => exact h.elim
  | ex x S' => exact h.elim
  | no => exact h
theorem sp_new {K : PySem.W.Frag} {n : Nat} {g : MF} : ∀ vs H Q E, spM K n (newF g) vs H Q E → spM K n g vs H Q E := by
  rintro vs H Q E ⟨hn, c, P, S, ds, hS, hr, h⟩
  refine ⟨hn, c, P ++ S, [], ds, hS.lock, hr, ?_⟩
  unfold newF at h
  generalize g ds (P ++ S) [] = r at h
  cases r with
  | ex x S' => exact h.elim
  | no => exact h
  | ok d S' =>
    cases d with
    | t x => exact h.elim
    | ref i =>
      simp only at h
      by_cases hi : (P ++ S).length ≤ i
      · rw [if_pos hi] at h
        cases q : S'[i - (P ++ S).length]? with
        | none => rw [q] at h; exact h.elim
        | some o =>
          rw [q] at h
          cases o with
          | lst l =>
            simp only at h
            cases z : trees l with
            | none => rw [z] at h; exact h.elim
            | some ts =>
              rw [z] at h
              intro c' v H' ev s' rd
              obtain ⟨hlt, rfl⟩ := rd
              have hf := hS.forget ev s'
              have hat : ((P ++ S) ++ S')[i]? = some (.lst l) := by rw [List.getElem?_append_right hi]; exact q
              have lenS : (P ++ S).length = c.n := by rw [List.length_append]; exact hS.n
              have hro := s'.ro i _ hat
              obtain ⟨vs', hH, hlen', hrs⟩ := hro
              -- the cell's place
              refine h { c' with n := c.n + 1, m := fun k => if k = c.n then c'.m i else c'.m k } _ H' ?_ ?_ ?_
              · refine ⟨ev.z, ev.rd, ev.rdD, Nat.le_succ _, fun k hk => ?_, hf.1.b, ev.y, ev.fz⟩
                show (if k = c.n then _ else c'.m k) = c.m k
                rw [if_neg (by omega)]
                exact ev.m k hk
              · have e1 : ∀ {k : Nat} {u : O}, (P ++ (S ++ [.lst l]))[k]? = some u → (k < c.n ∧ (P ++ S)[k]? = some u) ∨ (k = c.n ∧ u = .lst l) := fun {k u} e => by
                  rw [← List.append_assoc] at e
                  by_cases hk : k < c.n
                  · rw [List.getElem?_append_left (by omega)] at e
                    exact .inl ⟨hk, e⟩
                  · have := (List.getElem?_eq_some_iff.mp e).1
                    rw [List.length_append, List.length_singleton] at this
                    have hk2 : k = c.n := by omega
                    rw [hk2, List.getElem?_append_right (by omega), lenS, Nat.sub_self] at e
                    exact .inr ⟨hk2, (Option.some.inj e).symm⟩
                have m1 : ∀ {k : Nat}, k < c.n → (if k = c.n then c'.m i else c'.m k) = c'.m k := fun hk => if_neg (by omega)
                have up : ∀ {k : Nat} {u : O}, (P ++ S)[k]? = some u → ((P ++ S) ++ S')[k]? = some u := fun e => by
                  rw [List.getElem?_append_left (List.getElem?_eq_some_iff.mp e).1]; exact e
                refine ⟨by have := hS.n; simp only [List.length_append, List.length_singleton]; omega, fun k u e => ?_, fun k u e lu => ?_, fun k j u w ek ej lu lw qq => ?_, s'.z, s'.y, s'.yz, fun k u e lu => ?_⟩
                · show RO K _ H' u (if k = c.n then c'.m i else c'.m k)
                  rcases e1 e with ⟨hk, e⟩ | ⟨hk, rfl⟩
                  · rw [m1 hk]
                    cases hl : u.live with
                    | false => cases u <;> first | trivial | cases hl
                    | true =>
                      have := hf.2.ro k u e
                      refine RO.mono' (c := { c' with n := c.n }) (c1 := { c' with n := c.n + 1, m := fun k => if k = c.n then c'.m i else c'.m k }) (fun _ z => z) (fun _ _ _ z _ => z) (fun _ _ _ _ _ z => z) (Nat.le_succ _) (fun j hj => ?_) rfl this
                      show (if j = c.n then c'.m i else c'.m j) = c'.m j
                      rw [if_neg (by have : j < c.n := hj; omega)]
                  · rw [if_pos hk]
                    exact ⟨vs', hH, hlen', RDs.treeUp (c' := c') rfl hrs z⟩
                · show ¬ c'.Z (if k = c.n then c'.m i else c'.m k)
                  rcases e1 e with ⟨hk, e⟩ | ⟨hk, rfl⟩
                  · rw [m1 hk]; exact s'.nz k u (up e) lu
                  · rw [if_pos hk]; exact s'.nz i _ hat rfl
                · have qq : (if k = c.n then c'.m i else c'.m k) = (if j = c.n then c'.m i else c'.m j) := qq
                  rcases e1 ek with ⟨hk, fk⟩ | ⟨hk, _⟩ <;> rcases e1 ej with ⟨hj, fj⟩ | ⟨hj, _⟩
                  · rw [m1 hk, m1 hj] at qq
                    exact s'.inj k j u w (up fk) (up fj) lu lw qq
                  · rw [m1 hk, if_pos hj] at qq
                    have := s'.inj k i u _ (up fk) hat lu rfl qq
                    omega
                  · rw [if_pos hk, m1 hj] at qq
                    have := s'.inj i j _ w hat (up fj) rfl lw qq
                    omega
                  · omega
                · show ¬ c'.Y (if k = c.n then c'.m i else c'.m k)
                  rcases e1 e with ⟨hk, e⟩ | ⟨hk, rfl⟩
                  · rw [m1 hk]; exact s'.yc k u (up e) lu
                  · rw [if_pos hk]; exact s'.yc i _ hat rfl
              · refine ⟨by have := hS.n; show _ < c.n + 1; omega, ?_⟩
                show V.ref (c'.m i) = V.ref (if P.length + S.length = c.n then c'.m i else _)
                rw [if_pos hS.n]
          | _ => exact h.elim
      · rw [if_neg hi] at h
        exact h.elim
section
variable {X : Cx} {W : WX} {k n : Nat} {f : Addr} {fd : FuncData} {ps : List Str} {g : MF} {x : Str} {p pos : Pos} {e : Expr} {es : List Expr} {fs : MA}
theorem FnOk.pure {P : Program} {w : World} {K : PySem.W.Frag} {mg : Str → Option Value} {base : Heap} (F : FnOk P w K mg base CX0 k f fd ps (spM K n g)) : FnOk P w K mg base CX0 k f fd ps (spM K n (pureF g)) := L2.FnOk.imp F sp_pure
theorem FnOk.new {P : Program} {w : World} {K : PySem.W.Frag} {mg : Str → Option Value} {base : Heap} (F : FnOk P w K mg base CX0 k f fd ps (spM K n g)) : FnOk P w K mg base CX0 k f fd ps (spM K n (newF g)) := L2.FnOk.imp F sp_new
theorem tCall_of {σ : L2.St} {H : Hp} {Q : VK} (h : tM X.K W (mCall g fs) σ H Q) {E : XK} (hn : ∀ c P ρ S ds S', SimE X.K c H ρ σ → fs P ρ S = .ok ds S' → ds.length = n) : tCall (spM X.K n g) [] E (tMA X.K W fs) σ H Q := by
  obtain ⟨c, P, ρ, S, hE, hS, h⟩ := h
  have hn' := hn c P ρ S
  refine ⟨c, P, ρ, S, hE, hS, ?_⟩
  unfold mCall at h
  generalize fs P ρ S = r at h hn'
  cases r with
  | ok ds S1 =>
    intro c1 vs H1 e1 s1 r1
    have h1 := Post.ev hS.pl e1 h
    refine ⟨?_, c1, P, S1, ds, s1, by rw [List.append_nil]; exact r1, h1.nx⟩
    rw [List.append_nil, ← r1.len]
    exact hn' ds S1 hE rfl
  | ex x S' => exact h
  | no => exact h
/-- how many arguments a mirror hands on -/
def Cnt (n : Nat) (fs : MA) : Prop := ∀ P ρ S ds S', fs P ρ S = .ok ds S' → ds.length = n
theorem cnt_nil : Cnt 0 mNil := fun _ _ _ _ _ h => by cases h; rfl
theorem cnt_cons {n : Nat} {fa : ME} {fs : MA} (h : Cnt n fs) : Cnt (n + 1) (mCons fa fs) := fun P ρ S ds S' e => by
  unfold mCons at e
  generalize fa P ρ S = r at e
  cases r with
  | ok d S1 =>
    simp only [R.bind_ok] at e
    generalize q : fs P ρ S1 = r at e
    cases r with
    | ok ds' S2 =>
      cases e
      rw [List.length_cons, h _ _ _ _ _ q]
    | ex x S' => cases e
    | no => cases e
  | ex x S' => cases e
  | no => cases e
theorem pm_call (F : FnOk X.prog X.w X.K X.mg X.base CX0 k f fd ps (spM X.K n g)) (hr : Room k X.A) (hg : Gl X x) (hm : X.mg x = some (.ref f)) (hk : PySem.W.keepIn X.K (.ref f) = true) (hb : Binds X.K fd ps [])
    (ha : PMA X W (e :: es) fs) (hc : Cnt n fs) (hdb : (x == ("__debug__" : Str)) = false := by decide) (he : starEach (e :: es) X.env = (false, eval e X.env) :: starEach es X.env := by rfl) (hpl : (backTo pos (starEach es X.env)).any (·.1) = false := by rfl) :
    PM X W (.Call (.Name x p) (e :: es) [] pos) (mCall g fs) :=
  ⟨pe_weak (pe_call F hr hg hm hk hb .nil pass0 ha.run hdb he hpl) fun _ _ _ h => tCall_of h fun _ _ _ _ _ _ _ q => hc _ _ _ _ _ q⟩
theorem pm_call0 (F : FnOk X.prog X.w X.K X.mg X.base CX0 k f fd ps (spM X.K 0 g)) (hr : Room k X.A) (hg : Gl X x) (hm : X.mg x = some (.ref f)) (hk : PySem.W.keepIn X.K (.ref f) = true) (hb : Binds X.K fd ps [])
    (hdb : (x == ("__debug__" : Str)) = false := by decide) : PM X W (.Call (.Name x p) [] [] pos) (mCall g mNil) := by
  refine ⟨pe_weak (pe_call0 F hr hg hm hk hb .nil pass0 hdb) fun σ H Q h => ?_⟩
  obtain ⟨c, P, ρ, S, hE, hS, h⟩ := h
  exact ⟨rfl, c, P, S, [], hS, .nil, Post.nx h⟩
end

/-! ### statements -/
inductive Oc where
  | nx (ρ : En) (S : List O) | rt (d : D) (S : List O) | bk (ρ : En) (S : List O) | ct (ρ : En) (S : List O) | ex (x : Xv) (ρ : En) (S : List O) | no
abbrev MS := List O → En → List O → Oc
def PostS (K : PySem.W.Frag) (W : WX) (P : List O) (c : Cf) (H : Hp) (o : Oc) (D : Ends) : Prop := match o with
  | .nx ρ S => ∀ c' σ' H', Ev P c H c' H' → Sim K P S c' H' → SimE K c' H' ρ σ' → D.nx σ' H'
  | .bk ρ S => ∀ c' σ' H', Ev P c H c' H' → Sim K P S c' H' → SimE K c' H' ρ σ' → D.bk σ' H'
  | .ct ρ S => ∀ c' σ' H', Ev P c H c' H' → Sim K P S c' H' → SimE K c' H' ρ σ' → D.ct σ' H'
  | .rt d S => ∀ c' v H', Ev P c H c' H' → Sim K P S c' H' → RD K c' H' d v → D.rt v H'
  | .ex x ρ S => ∀ c' H', Ev P c H c' H' → Sim K P S c' H' → W x c' S H'
  | .no => False
theorem PostS.ev {K : PySem.W.Frag} {W : WX} {P : List O} {c c1 : Cf} {H H1 : Hp} {o : Oc} {D : Ends} (hs : P.length ≤ c.n) (e : Ev P c H c1 H1) (h : PostS K W P c H o D) : PostS K W P c1 H1 o D := by
  cases o with
  | nx ρ S => exact fun c' b H' e' => h c' b H' (e.trans hs e')
  | bk ρ S => exact fun c' b H' e' => h c' b H' (e.trans hs e')
  | ct ρ S => exact fun c' b H' e' => h c' b H' (e.trans hs e')
  | rt d S => exact fun c' b H' e' => h c' b H' (e.trans hs e')
  | ex x ρ S => exact fun c' H' e' => h c' H' (e.trans hs e')
  | no => exact h
def tMS (K : PySem.W.Frag) (W : WX) (f : MS) : TS := fun D σ H => ∃ c P ρ S, SimE K c H ρ σ ∧ Sim K P S c H ∧ PostS K W P c H (f P ρ S) D
structure PMS (X : Cx) (W : WX) (st : Stmt) (f : MS) : Prop where
  run : PS X st (tMS X.K W f)
structure PMB (X : Cx) (W : WX) (sts : List Stmt) (f : MS) : Prop where
  run : PSs X sts (tMS X.K W f)
theorem ps_weak {X : Cx} {st : Stmt} {t t' : TS} (h : PS X st t) (w : ∀ D σ H, t' D σ H → t D σ H) : PS X st t' := ⟨fun pins s σ H D I q => h.run pins s σ H D I (w D σ H q)⟩
theorem pss_weak {X : Cx} {st : List Stmt} {t t' : TS} (h : PSs X st t) (w : ∀ D σ H, t' D σ H → t D σ H) : PSs X st t' := ⟨fun pins s σ H D I q => h.run pins s σ H D I (w D σ H q)⟩
/-- an expression's answer as a statement's -/
def R.oc {α : Type} (ρ : En) (r : R α) (g : α → List O → Oc) : Oc := match r with
  | .ok a S => g a S
  | .ex x S => .ex x ρ S
  | .no => .no
@[simp] theorem R.oc_ok {α : Type} (ρ : En) (a : α) (S : List O) (g : α → List O → Oc) : (R.ok a S).oc ρ g = g a S := rfl
@[simp] theorem R.oc_ex {α : Type} (ρ : En) (x : Xv) (S : List O) (g : α → List O → Oc) : (R.ex x S : R α).oc ρ g = .ex x ρ S := rfl
@[simp] theorem R.oc_no {α : Type} (ρ : En) (g : α → List O → Oc) : (R.no : R α).oc ρ g = .no := rfl
def Oc.sq (o : Oc) (g : En → List O → Oc) : Oc := match o with
  | .nx ρ S => g ρ S
  | .rt d S => .rt d S
  | .bk ρ S => .bk ρ S
  | .ct ρ S => .ct ρ S
  | .ex x ρ S => .ex x ρ S
  | .no => .no
@[simp] theorem Oc.sq_nx (ρ : En) (S : List O) (g : En → List O → Oc) : (Oc.nx ρ S).sq g = g ρ S := rfl
@[simp] theorem Oc.sq_rt (d : D) (S : List O) (g : En → List O → Oc) : (Oc.rt d S).sq g = .rt d S := rfl
@[simp] theorem Oc.sq_bk (ρ : En) (S : List O) (g : En → List O → Oc) : (Oc.bk ρ S).sq g = .bk ρ S := rfl
@[simp] theorem Oc.sq_ct (ρ : En) (S : List O) (g : En → List O → Oc) : (Oc.ct ρ S).sq g = .ct ρ S := rfl
@[simp] theorem Oc.sq_ex (x : Xv) (ρ : En) (S : List O) (g : En → List O → Oc) : (Oc.ex x ρ S).sq g = .ex x ρ S := rfl
@[simp] theorem Oc.sq_no (g : En → List O → Oc) : Oc.no.sq g = .no := rfl
section
variable {K : PySem.W.Frag} {W : WX} {P S : List O} {ρ : En} {c : Cf} {σ : L2.St} {H : Hp}
theorem tM_oc {f : ME} {g : D → List O → Oc} {D' : Ends} (hE : SimE K c H ρ σ) (hS : Sim K P S c H) (h : PostS K W P c H ((f P ρ S).oc ρ g) D') {R' : V → Hp → Prop}
    (hr : ∀ d v S' c' H', Ev P c H c' H' → SimE K c' H' ρ σ → Sim K P S' c' H' → RD K c' H' d v → PostS K W P c' H' (g d S') D' → R' v H') : tM K W f σ H R' := by
  refine ⟨c, P, ρ, S, hE, hS, ?_⟩
  generalize f P ρ S = r at h
  cases r with
  | ok d S' => exact fun c' v H' e s r => hr d v S' c' H' e (hE.mono e) s r (PostS.ev hS.pl e h)
  | ex x S' => exact h
  | no => exact h
theorem tMT_oc {f : MT} {g : Bool → List O → Oc} {D' : Ends} (hE : SimE K c H ρ σ) (hS : Sim K P S c H) (h : PostS K W P c H ((f P ρ S).oc ρ g) D') {R' : Bool → Hp → Prop}
    (hr : ∀ b S' c' H', Ev P c H c' H' → SimE K c' H' ρ σ → Sim K P S' c' H' → PostS K W P c' H' (g b S') D' → R' b H') : tMT K W f σ H R' := by
  refine ⟨c, P, ρ, S, hE, hS, ?_⟩
  generalize f P ρ S = r at h
  cases r with
  | ok d S' =>
    intro c' v H' e s r
    cases (show d = v from r)
    exact hr d S' c' H' e (hE.mono e) s (PostS.ev hS.pl e h)
  | ex x S' => exact h
  | no => exact h
theorem tMA_oc {f : MA} {g : List D → List O → Oc} {D' : Ends} (hE : SimE K c H ρ σ) (hS : Sim K P S c H) (h : PostS K W P c H ((f P ρ S).oc ρ g) D') {R' : List V → Hp → Prop}
    (hr : ∀ d v S' c' H', Ev P c H c' H' → SimE K c' H' ρ σ → Sim K P S' c' H' → RDs K c' H' d v → PostS K W P c' H' (g d S') D' → R' v H') : tMA K W f σ H R' := by
  refine ⟨c, P, ρ, S, hE, hS, ?_⟩
  generalize f P ρ S = r at h
  cases r with
  | ok d S' => exact fun c' v H' e s r => hr d v S' c' H' e (hE.mono e) s r (PostS.ev hS.pl e h)
  | ex x S' => exact h
  | no => exact h
end
def sNil : MS := fun _ ρ S => .nx ρ S
def sSeq (f g : MS) : MS := fun P ρ S => (f P ρ S).sq fun ρ1 S1 => g P ρ1 S1
def sSet (i : Nat) (f : ME) : MS := fun P ρ S => (f P ρ S).oc ρ fun d S1 => .nx (ρ.set i (some d)) S1
def sRet (f : ME) : MS := fun P ρ S => (f P ρ S).oc ρ fun d S1 => .rt d S1
def sRetN : MS := fun _ _ S => .rt (.t .non) S
def sExpr (f : ME) : MS := fun P ρ S => (f P ρ S).oc ρ fun _ S1 => .nx ρ S1
def sIf (ft : MT) (f g : MS) : MS := fun P ρ S => (ft P ρ S).oc ρ fun b S1 => if b then f P ρ S1 else g P ρ S1
def sNo : MS := fun _ _ _ => .no
section
variable {X : Cx} {W : WX} {st : Stmt} {sts : List Stmt} {f g : MS} {e : Expr} {fe : ME} {pos : Pos}
theorem pmb_nil : PMB X W [] sNil := ⟨pss_weak pss_nil fun D σ H ⟨c, P, ρ, S, hE, hS, h⟩ => h c σ H (Ev.refl hS) hS hE⟩
theorem pmb_cons (h1 : PMS X W st f) (h2 : PMB X W sts g) : PMB X W (st :: sts) (sSeq f g) := by
  refine ⟨pss_weak (pss_cons h1.run h2.run) fun D σ H h => ?_⟩
  obtain ⟨c, P, ρ, S, hE, hS, h⟩ := h
  refine ⟨c, P, ρ, S, hE, hS, ?_⟩
  unfold sSeq at h
  generalize f P ρ S = o at h
  cases o with
  | nx ρ1 S1 => exact fun c' σ' H' e1 s1 E1 => ⟨c', P, ρ1, S1, E1, s1, PostS.ev hS.pl e1 h⟩
  | _ => exact h
theorem pmb_one (h : PMS X W st f) : PMB X W [st] f := ⟨pss_one h.run⟩
theorem pms_no : PMS X W st sNo := ⟨ps_weak ps_never fun _ _ _ ⟨_, _, _, _, _, _, h⟩ => h⟩
theorem pms_pass : PMS X W (.Pass pos) sNil := ⟨ps_weak ps_pass fun D σ H ⟨c, P, ρ, S, hE, hS, h⟩ => h c σ H (Ev.refl hS) hS hE⟩
def sBreak : MS := fun _ ρ S => .bk ρ S
def sCont : MS := fun _ ρ S => .ct ρ S
theorem pms_break : PMS X W (.Break pos) sBreak := ⟨ps_weak ps_break fun D σ H ⟨c, P, ρ, S, hE, hS, h⟩ => h c σ H (Ev.refl hS) hS hE⟩
theorem pms_continue : PMS X W (.Continue pos) sCont := ⟨ps_weak ps_continue fun D σ H ⟨c, P, ρ, S, hE, hS, h⟩ => h c σ H (Ev.refl hS) hS hE⟩
theorem pms_set (i : Nat) {x : Str} {pos' : Pos} (hN : X.N.Nodup) (he : PM X W e fe) (hi : X.N[i]? = some x := by rfl) (hx : Loc X.env.scope x := by first | exact .inl rfl | exact .inr rfl) (hs : swapsWith e (some (.Name x pos')) pos.line X.env = pure false := by rfl)
    (hf : X.fn x = true ∨ X.env.scope.names.lookup x = some .local := by first | exact .inl rfl | exact .inr rfl) : PMS X W (.Assign [.Name x pos'] e pos) (sSet i fe) := by
  refine ⟨ps_weak (ps_set (i := i) hN hi hx he.run hs hf) fun D σ H h => ?_⟩
  obtain ⟨c, P, ρ, S, hE, hS, h⟩ := h
  exact tM_oc hE hS h fun d v S1 c1 H1 e1 E1 s1 r1 h1 => h1 c1 _ H1 (Ev.refl s1) s1 (E1.set i r1)
theorem pms_ret (he : PM X W e fe) : PMS X W (.Return (some e) pos) (sRet fe) := by
  refine ⟨ps_weak (ps_ret he.run) fun D σ H h => ?_⟩
  obtain ⟨c, P, ρ, S, hE, hS, h⟩ := h
  exact tM_oc hE hS h fun d v S1 c1 H1 e1 E1 s1 r1 h1 => h1 c1 v H1 (Ev.refl s1) s1 r1
theorem pms_retN : PMS X W (.Return none pos) sRetN := ⟨ps_weak ps_retN fun D σ H ⟨c, P, ρ, S, hE, hS, h⟩ => h c .non H (Ev.refl hS) hS RV.non⟩
theorem pms_expr (he : PM X W e fe) (hs : swapsWith e none pos.line X.env = pure false := by rfl) : PMS X W (.Expr e pos) (sExpr fe) := by
  refine ⟨ps_weak (ps_expr he.run hs) fun D σ H h => ?_⟩
  obtain ⟨c, P, ρ, S, hE, hS, h⟩ := h
  exact tM_oc hE hS h fun d v S1 c1 H1 e1 E1 s1 r1 h1 => h1 c1 σ H1 (Ev.refl s1) s1 E1
theorem pms_if {d : Expr} {a b : List Stmt} {ft : MT} (hc : PMT X W d ft) (ha : PMB X W a f) (hb : PMB X W b g) : PMS X W (.If d a b pos) (sIf ft f g) := by
  refine ⟨ps_weak (L2.ps_if hc.run ha.run hb.run) fun D σ H h => ?_⟩
  obtain ⟨c, P, ρ, S, hE, hS, h⟩ := h
  refine tMT_oc hE hS h fun k S1 c1 H1 e1 E1 s1 h1 => ?_
  cases k with
  | true => rw [if_pos rfl]; exact ⟨c1, P, ρ, S1, E1, s1, h1⟩
  | false => rw [if_neg Bool.false_ne_true]; exact ⟨c1, P, ρ, S1, E1, s1, h1⟩
end

/-! ### while -/
def bigN : Nat := 10 ^ 200
def whileGo (ft : MT) (fb : MS) (P : List O) : Nat → En → List O → Oc
  | 0, _, _ => .no
  | n + 1, ρ, S => (ft P ρ S).oc ρ fun b S1 => if b then (match fb P ρ S1 with
    | .nx ρ2 S2 => whileGo ft fb P n ρ2 S2
    | .ct ρ2 S2 => whileGo ft fb P n ρ2 S2
    | .bk ρ2 S2 => .nx ρ2 S2
    | .rt d S2 => .rt d S2
    | .ex x ρ2 S2 => .ex x ρ2 S2
    | .no => .no) else .nx ρ S1
def sWhile (ft : MT) (fb : MS) : MS := fun P ρ S => whileGo ft fb P bigN ρ S
section
variable {X : Cx} {W : WX} {pos : Pos}
theorem pms_while {d : Expr} {body : List Stmt} {ft : MT} {fb : MS} (hp : PassesOwn (model X.prog X.w) X.A X.env X.xe) (hc : PMT X W d ft) (hb : PMB X W body fb) : PMS X W (.While d body [] pos) (sWhile ft fb) := by
  refine ⟨ps_weak (ps_while hp hc.run hb.run) fun D σ H h => ?_⟩
  obtain ⟨c, P, ρ, S, hE, hS, h⟩ := h
  refine ⟨fun m σ H => ∃ c ρ S, SimE X.K c H ρ σ ∧ Sim X.K P S c H ∧ PostS X.K W P c H (whileGo ft fb P m ρ S) D, ⟨bigN, c, ρ, S, hE, hS, h⟩, ?_⟩
  rintro m σ H ⟨c, ρ, S, hE, hS, h⟩
  cases m with
  | zero => exact h.elim
  | succ m =>
    refine tMT_oc hE hS h fun k S1 c1 H1 e1 E1 s1 h1 => ?_
    cases k with
    | false => rw [if_neg Bool.false_ne_true] at h1 ⊢; exact h1 c1 σ H1 (Ev.refl s1) s1 E1
    | true =>
      rw [if_pos rfl] at h1 ⊢
      refine ⟨fun σ' H' => ∃ c ρ S, SimE X.K c H' ρ σ' ∧ Sim X.K P S c H' ∧ PostS X.K W P c H' (whileGo ft fb P m ρ S) D, fun σ' H' n => ⟨m, Nat.lt_succ_self m, n⟩, c1, P, ρ, S1, E1, s1, ?_⟩
      generalize fb P ρ S1 = o at h1
      cases o with
      | nx ρ2 S2 => exact fun c2 σ2 H2 e2 s2 E2 => ⟨c2, ρ2, S2, E2, s2, PostS.ev s1.pl e2 h1⟩
      | ct ρ2 S2 => exact fun c2 σ2 H2 e2 s2 E2 => ⟨c2, ρ2, S2, E2, s2, PostS.ev s1.pl e2 h1⟩
      | bk ρ2 S2 => exact h1
      | rt d S2 => exact h1
      | ex x ρ2 S2 => exact h1
      | no => exact h1
end

/-! ### what is walked -/
structure ItOk (K : PySem.W.Frag) (P : List O) (c : Cf) (H : Hp) (J : It) (items : List D) : Prop where
  len : items.length ≤ sizeLine
  stop : ∀ c1 H1, Ev P c H c1 H1 → J.stop items.length H1
  go : ∀ i d c1 H1 S1, items[i]? = some d → Ev P c H c1 H1 → Sim K P S1 c1 H1 → J.go i H1 ∧ ∀ x H2, J.yld i H1 x H2 → ∃ c2, Ev P c1 H1 c2 H2 ∧ Sim K P S1 c2 H2 ∧ RD K c2 H2 d x
abbrev MI := List O → En → List O → R (List D)
def tMI (K : PySem.W.Frag) (W : WX) (f : MI) : TI := fun σ H R => ∃ c P ρ S, SimE K c H ρ σ ∧ Sim K P S c H ∧ match f P ρ S with
  | .ok items S' => ∀ c' J H', Ev P c H c' H' → Sim K P S' c' H' → ItOk K P c' H' J items → R J H'
  | .ex x S' => ∀ c' H', Ev P c H c' H' → Sim K P S' c' H' → W x c' S' H'
  | .no => False
structure PMI (X : Cx) (W : WX) (tg e : Expr) (f : MI) : Prop where
  run : PI X tg e (tMI X.K W f)
/-- targets: names alone; own: their slots -/
abbrev MG := D → En → Option En
def tMG (K : PySem.W.Frag) (own : List Nat) (f : MG) : TG := fun v σ H Q => ∃ c P S ρ d, SimE K c H ρ σ ∧ Sim K P S c H ∧ RD K c H d v ∧ match f d ρ with
  | some ρ' => ∀ σ', SimE K c H ρ' σ' → σ'.length = σ.length → (∀ j, j ∉ own → σ'[j]? = σ[j]?) → Q σ' H
  | none => False
structure PMG (X : Cx) (tg : Expr) (own : List Nat) (f : MG) : Prop where
  run : PG X tg (tMG X.K own f)
theorem pg_weak {X : Cx} {e : Expr} {t t' : TG} (h : PG X e t) (w : ∀ v σ H Q, t' v σ H Q → t v σ H Q) : PG X e t' := ⟨fun pins s σ H v u Q I r q => h.run pins s σ H v u Q I r (w v σ H Q q)⟩
def gN (i : Nat) : MG := fun d ρ => some (ρ.set i (some d))
theorem pmg_name {X : Cx} {pos : Pos} (i : Nat) {x : Str} (hN : X.N.Nodup) (hi : X.N[i]? = some x := by rfl) (hx : Loc X.env.scope x := by first | exact .inl rfl | exact .inr rfl) (hf : X.fn x = true ∨ X.env.scope.names.lookup x = some .local := by first | exact .inl rfl | exact .inr rfl) :
    PMG X (.Name x pos) [i] (gN i) := by
  refine ⟨pg_weak (pg_name hN hi hx hf) fun v σ H Q h => ?_⟩
  obtain ⟨c, P, S, ρ, d, hE, hS, r, h⟩ := h
  refine h _ (hE.set i r) (by rw [List.length_set]) fun j hj => List.getElem?_set_ne fun e => hj (by rw [e]; simp)
/-! a tuple of targets -/
abbrev MGs := List T → En → Option En
def tMGs (K : PySem.W.Frag) (own : List Nat) (f : MGs) : TGs := fun vs σ H Q => ∃ c P S ρ ts, SimE K c H ρ σ ∧ Sim K P S c H ∧ RVs K c.Z H ts vs ∧ match f ts ρ with
  | some ρ' => ∀ σ', SimE K c H ρ' σ' → σ'.length = σ.length → (∀ j, j ∉ own → σ'[j]? = σ[j]?) → Q σ' H
  | none => False
structure PMGs (X : Cx) (tg : List Expr) (own : List Nat) (f : MGs) : Prop where
  run : PGs X tg (tMGs X.K own f)
def gsNil : MGs := fun ts ρ => match ts with
  | [] => some ρ
  | _ => none
def gsCons (f : MG) (g : MGs) : MGs := fun ts ρ => match ts with
  | t :: r => (f (.t t) ρ).bind fun ρ1 => g r ρ1
  | [] => none
def gT (n : Nat) (g : MGs) : MG := fun d ρ => match d with
  | .t (.tup ts) => if ts.length = n then g ts ρ else none
  | _ => none
theorem pgs_weak {X : Cx} {e : List Expr} {t t' : TGs} (h : PGs X e t) (w : ∀ v σ H Q, t' v σ H Q → t v σ H Q) : PGs X e t' := ⟨fun pins s σ H v u Q I r q => h.run pins s σ H v u Q I r (w v σ H Q q)⟩
theorem pmgs_nil {X : Cx} : PMGs X [] [] gsNil := by
  refine ⟨pgs_weak pgs_nil fun vs σ H Q h => ?_⟩
  obtain ⟨c, P, S, ρ, ts, hE, hS, r, h⟩ := h
  cases r with
  | nil => exact ⟨rfl, h σ hE rfl fun _ _ => rfl⟩
  | cons _ _ _ _ _ _ => exact h.elim
theorem RD.tup {K : PySem.W.Frag} {c : Cf} {H : Hp} {ts : List T} {v : V} (h : RD K c H (.t (.tup ts)) v) : ∃ a vs, v = .ref a ∧ SqT K H a vs ∧ vs.length ≤ sizeLine ∧ RVs K c.Z H ts vs := by
  cases h with
  | tup _ a vs h1 h2 h3 h4 => exact ⟨a, vs, rfl, SqT.of h2, h3, h4⟩
theorem gs_mono {K : PySem.W.Frag} {own own' : List Nat} {f : MGs} {vs : List V} {σ : L2.St} {H : Hp} {Q : L2.St → Hp → Prop} (hs : ∀ j ∈ own, j ∈ own') (h : tMGs K own' f vs σ H Q) : ∃ c P S ρ ts, SimE K c H ρ σ ∧ Sim K P S c H ∧ RVs K c.Z H ts vs ∧ match f ts ρ with
  | some ρ' => ∀ σ', SimE K c H ρ' σ' → σ'.length = σ.length → (∀ j, j ∉ own → σ'[j]? = σ[j]?) → Q σ' H
  | none => False := by
  obtain ⟨c, P, S, ρ, ts, hE, hS, r, h⟩ := h
  refine ⟨c, P, S, ρ, ts, hE, hS, r, ?_⟩
  generalize f ts ρ = o at h
  cases o with
  | none => exact h
  | some ρ' => exact fun σ' E l hj => h σ' E l fun j n => hj j fun m => n (hs j m)
theorem pmgs_cons {X : Cx} {e : Expr} {es : List Expr} {o1 o2 : List Nat} {f : MG} {g : MGs} (h1 : PMG X e o1 f) (h2 : PMGs X es o2 g) (ha : (assignEach (e :: es) X.env).map (·.2) = assign e X.env :: (assignEach es X.env).map (·.2) := by rfl) : PMGs X (e :: es) (o1 ++ o2) (gsCons f g) := by
  have hp : PGs X (e :: es) (gCons (tMG X.K o1 f) (tMGs X.K o2 g)) := pgs_cons h1.run h2.run ha
  refine ⟨pgs_weak hp fun vs σ H Q h => ?_⟩
  obtain ⟨c, P, S, ρ, ts, hE, hS, r, h⟩ := h
  cases r with
  | nil => exact h.elim
  | cons t v ts' vs' r1 r2 =>
    refine ⟨v, vs', rfl, c, P, S, ρ, .t t, hE, hS, r1, ?_⟩
    have h : match (f (.t t) ρ).bind (fun ρ1 => g ts' ρ1) with
      | some ρ' => ∀ σ', SimE X.K c H ρ' σ' → σ'.length = σ.length → (∀ j, j ∉ o1 ++ o2 → σ'[j]? = σ[j]?) → Q σ' H
      | none => False := h
    cases q : f (.t t) ρ with
    | none => rw [q] at h; exact h
    | some ρ1 =>
      rw [q] at h
      intro σ1 E1 l1 j1
      refine ⟨c, P, S, ρ1, ts', E1, hS, r2, ?_⟩
      have h : match g ts' ρ1 with
        | some ρ' => ∀ σ', SimE X.K c H ρ' σ' → σ'.length = σ.length → (∀ j, j ∉ o1 ++ o2 → σ'[j]? = σ[j]?) → Q σ' H
        | none => False := h
      cases q2 : g ts' ρ1 with
      | none => rw [q2] at h; exact h
      | some ρ2 =>
        rw [q2] at h
        exact fun σ2 E2 l2 j2 => h σ2 E2 (l2.trans l1) fun j hj => by
          rw [List.mem_append, not_or] at hj
          exact (j2 j hj.2).trans (j1 j hj.1)
theorem pmg_tup {X : Cx} {es : List Expr} {kt : Nat} {pos : Pos} {n : Nat} {own : List Nat} {g : MGs} (hc : X.calm = true) (h : PMGs X es own g) (hn : (assignEach es X.env).length = n := by rfl) (hst : (assignEach es X.env).findIdx? (·.1) = none := by rfl) : PMG X (.Tuple es kt pos) own (gT n g) := by
  have hp : PG X (.Tuple es kt pos) (gTup X.K n (tMGs X.K own g)) := pg_tup hc h.run hn hst
  refine ⟨pg_weak hp fun v σ H Q h => ?_⟩
  obtain ⟨c, P, S, ρ, d, hE, hS, r, h⟩ := h
  cases d with
  | ref i => exact h.elim
  | t x =>
    cases x with
    | tup ts =>
      obtain ⟨a, vs, rfl, hq, _, rs⟩ := r.tup
      have h : match (if ts.length = n then g ts ρ else none) with
        | some ρ' => ∀ σ', SimE X.K c H ρ' σ' → σ'.length = σ.length → (∀ j, j ∉ own → σ'[j]? = σ[j]?) → Q σ' H
        | none => False := h
      by_cases hl : ts.length = n
      · rw [if_pos hl] at h
        exact ⟨a, vs, rfl, hq, by rw [← rs.len]; exact hl, c, P, S, ρ, ts, hE, hS, rs, h⟩
      · rw [if_neg hl] at h
        exact h.elim
    | _ => exact h.elim
def sAsg (g : MG) (f : ME) : MS := fun P ρ S => (f P ρ S).oc ρ fun d S1 => match g d ρ with
  | some ρ1 => .nx ρ1 S1
  | none => .no
theorem pms_asg {X : Cx} {W : WX} {tg e : Expr} {pos : Pos} {own : List Nat} {g : MG} {fe : ME} (he : PM X W e fe) (hg : PMG X tg own g) (hs : swapsWithSole [tg] e pos.line X.env = pure false := by rfl) (hw : swappedStores [tg] e X.env = pure none := by rfl) (h1 : (assignEach [tg] X.env).map (·.2) = [assign tg X.env] := by rfl) :
    PMS X W (.Assign [tg] e pos) (sAsg g fe) := by
  refine ⟨ps_weak (ps_asg he.run hg.run hs hw (h1 := h1)) fun D σ H h => ?_⟩
  obtain ⟨c, P, ρ, S, hE, hS, h⟩ := h
  refine tM_oc hE hS h fun d v S1 c1 H1 e1 E1 s1 r1 h1 => ⟨c1, P, S1, ρ, d, E1, s1, r1, ?_⟩
  cases q : g d ρ with
  | none => rw [q] at h1; exact h1
  | some ρ1 => rw [q] at h1; exact fun σ' E' l j => h1 c1 σ' H1 (Ev.refl s1) s1 E'

/-! ### for -/
def forGo (g : MG) (fb : MS) (P : List O) : List D → En → List O → Oc
  | [], ρ, S => .nx ρ S
  | d :: ds, ρ, S => match g d ρ with
    | none => .no
    | some ρ1 => match fb P ρ1 S with
      | .nx ρ2 S2 => forGo g fb P ds ρ2 S2
      | .ct ρ2 S2 => forGo g fb P ds ρ2 S2
      | .bk ρ2 S2 => .nx ρ2 S2
      | .rt d S2 => .rt d S2
      | .ex x ρ2 S2 => .ex x ρ2 S2
      | .no => .no
def sFor (fi : MI) (g : MG) (fb : MS) : MS := fun P ρ S => (fi P ρ S).oc ρ fun ds S1 => forGo g fb P ds ρ S1
theorem pms_for {X : Cx} {W : WX} {tg it : Expr} {body : List Stmt} {pos : Pos} {own : List Nat} {g : MG} {fi : MI} {fb : MS} (hp : PassesOwn (model X.prog X.w) X.A X.env X.xe) (hc : X.calm = true) (hi : PMI X W tg it fi) (hg : PMG X tg own g) (hb : PMB X W body fb)
    (hs : ∀ x, foldedSetIterable it X.env x = pure x := by intro _; rfl) : PMS X W (.For tg it body [] pos) (sFor fi g fb) := by
  refine ⟨ps_weak (ps_for hp hc hi.run hg.run hb.run hs) fun D σ H h => ?_⟩
  obtain ⟨c, P, ρ, S, hE, hS, h⟩ := h
  refine ⟨c, P, ρ, S, hE, hS, ?_⟩
  unfold sFor at h
  generalize fi P ρ S = r at h
  cases r with
  | ex x S' => exact h
  | no => exact h
  | ok ds S1 =>
    intro c0 J H0 e0 s0 ok0
    have h := PostS.ev hS.pl e0 h
    refine ⟨fun i m σ H => m + i = ds.length ∧ ∃ c ρ S, Ev P c0 H0 c H ∧ SimE X.K c H ρ σ ∧ Sim X.K P S c H ∧ PostS X.K W P c H (forGo g fb P (ds.drop i) ρ S) D, ⟨ds.length, by omega, c0, ρ, S1, Ev.refl s0, hE.mono e0, s0, h⟩, ?_⟩
    rintro i m σ H ⟨him, c, ρ, S, ev, hE, hS, h⟩
    by_cases hi : i < ds.length
    · have hd : ds.drop i = ds[i] :: ds.drop (i + 1) := List.drop_eq_getElem_cons hi
      rw [hd] at h
      obtain ⟨g1, g2⟩ := ok0.go i ds[i] c H S (List.getElem?_eq_getElem hi) ev hS
      refine .inr ⟨g1, fun σ' H' => ∃ c ρ S, Ev P c0 H0 c H' ∧ SimE X.K c H' ρ σ' ∧ Sim X.K P S c H' ∧ PostS X.K W P c H' (forGo g fb P (ds.drop (i + 1)) ρ S) D, fun σ' H' n => ⟨m - 1, by omega, by omega, n⟩, fun x H2 y => ?_⟩
      obtain ⟨c2, ev2, s2, r2⟩ := g2 x H2 y
      have h2 := PostS.ev hS.pl ev2 h
      refine ⟨c2, P, S, ρ, ds[i], hE.mono ev2, s2, r2, ?_⟩
      unfold forGo at h2
      cases q : g ds[i] ρ with
      | none => rw [q] at h2; exact h2
      | some ρ1 =>
        rw [q] at h2
        intro σ1 E1 _ _
        refine ⟨c2, P, ρ1, S, E1, s2, ?_⟩
        simp only at h2
        generalize fb P ρ1 S = o at h2
        have tr := fun c3 H3 (e3 : Ev P c2 H2 c3 H3) => (ev.trans s0.pl ev2).trans s0.pl e3
        cases o with
        | nx ρ3 S3 => exact fun c3 σ3 H3 e3 s3 E3 => ⟨c3, ρ3, S3, tr c3 H3 e3, E3, s3, PostS.ev s2.pl e3 h2⟩
        | ct ρ3 S3 => exact fun c3 σ3 H3 e3 s3 E3 => ⟨c3, ρ3, S3, tr c3 H3 e3, E3, s3, PostS.ev s2.pl e3 h2⟩
        | bk ρ3 S3 => exact h2
        | rt d S3 => exact h2
        | ex x ρ3 S3 => exact h2
        | no => exact h2
    · have hi2 : i = ds.length := by omega
      rw [hi2, List.drop_length] at h
      subst hi2
      exact .inl ⟨ok0.stop c H ev, h c σ H (Ev.refl hS) hS hE⟩

/-! ### a def keeps its promise -/
def mDef (n : Nat) (fb : MS) : MF := fun ds P S => match fb P (ds.map some ++ List.replicate (n - ds.length) none) S with
  | .rt d S' => .ok d S'
  | .nx _ S' => .ok (.t .non) S'
  | .ex x _ S' => .ex x S'
  | _ => .no
theorem simE_start {K : PySem.W.Frag} {c : Cf} {H : Hp} {ds : List D} {vs : List V} (r : RDs K c H ds vs) (N : List Str) : SimE K c H (ds.map some ++ List.replicate (N.length - ds.length) none) (L2.start N vs) := by
  have hl := r.len
  unfold L2.start
  refine ⟨by simp only [List.length_append, List.length_map, List.length_replicate]; omega, fun i d e => ?_⟩
  by_cases hi : i < ds.length
  · rw [List.getElem?_append_left (by rw [List.length_map]; exact hi), List.getElem?_map] at e
    cases q : ds[i]? with
    | none => rw [q] at e; cases e
    | some d' =>
      rw [q] at e
      cases e
      have : ∀ {ds : List D} {vs : List V} {i : Nat} {d : D}, RDs K c H ds vs → ds[i]? = some d → ∃ v, vs[i]? = some v ∧ RD K c H d v := by
        intro ds vs i d r
        induction r generalizing i with
        | nil => intro h; simp at h
        | cons r _ ih =>
          intro h
          cases i with
          | zero => simp at h; subst h; exact ⟨_, rfl, r⟩
          | succ i => simpa using ih (i := i) (by simpa using h)
      obtain ⟨v, h1, h2⟩ := this r q
      exact ⟨v, by rw [List.getElem?_append_left (by rw [List.length_map]; omega), List.getElem?_map, h1]; rfl, h2⟩
  · rw [List.getElem?_append_right (by rw [List.length_map]; omega)] at e
    rw [List.getElem?_replicate] at e
    split at e <;> cases e
section
variable {P : Program} {w : World} {K : PySem.W.Frag} {mg : Str → Option Value} {base : Heap}
theorem fn_ok {x qual : Str} {st : Stmt} {f : Addr} {fd : FuncData} {N ps : List Str} {k : Nat} {fb : MS} (F : Fun K x qual st f fd) (Sc : FnScope N ps (defScope st))
    (hb : ∀ (cdv : Value) (A : Around) (outer : List Env) (s : Shared) (H : Hp) (E : XK), Room k (A.deeper (envOfC qual (defScope st) s.heap.objs.size f cdv)) → PMB (cxOf CX0 P w K mg base N qual (defScope st) f cdv A outer s H E).nox W0 (defBody st) fb) :
    FnOk P w K mg base CX0 (k + 1) f fd ps (spM K ps.length (mDef N.length fb)) := by
  refine F.ok Sc (fun vs H Q E h => h.1) fun cdv A outer s H vs Q E hr h => ?_
  obtain ⟨hn, c, P', S, ds, hS, r, h⟩ := h
  refine ⟨_, (hb cdv A outer s H E hr).run, c, P', _, S, simE_start r N, hS, ?_⟩
  unfold mDef at h
  generalize fb P' (ds.map some ++ List.replicate (N.length - ds.length) none) S = o at h
  cases o with
  | nx ρ S' => exact fun c' σ' H' e s E' => h c' .non H' e s RV.non
  | rt d S' => exact h
  | bk ρ S' => exact h.elim
  | ct ρ S' => exact h.elim
  | ex x ρ S' => exact h
  | no => exact h
end
end Fm

/-! Fm4: what is walked; list comprehensions. -/
namespace Fm
open PySem PySem.Spec PyProof.Rows L2

/-! ### sequences -/
def itemsOf (P : List O) : D → Option (List D)
  | .t (.lst l) => some (l.map D.t)
  | .t (.tup l) => some (l.map D.t)
  | .t (.str s) => some (s.map fun c => D.t (.str [c]))
  | .t (.scr l) => some (l.map fun i => D.t (.int i))
  | .t _ => none
  | .ref i => match P[i]? with
    | some (.lst l) => some l
    | _ => none
def mIt (f : ME) : MI := fun P ρ S => (f P ρ S).bind fun d S1 => match itemsOf P d with
  | some l => .ok l S1
  | none => .no
theorem RVs.at {K : PySem.W.Frag} {Z : Addr → Prop} {H : Hp} : ∀ {ts : List T} {vs : List V} {i : Nat} {t : T}, RVs K Z H ts vs → ts[i]? = some t → ∃ v, vs[i]? = some v ∧ RV K Z H t v
  | _, _, _, _, .nil, h => by simp at h
  | _, _, 0, _, .cons t v ts vs h1 _, h => by simp at h; subst h; exact ⟨v, rfl, h1⟩
  | _, _, i + 1, _, .cons t v ts vs _ h2, h => by simpa using RVs.at (i := i) h2 (by simpa using h)
theorem RDs.at {K : PySem.W.Frag} {c : Cf} {H : Hp} : ∀ {ts : List D} {vs : List V} {i : Nat} {t : D}, RDs K c H ts vs → ts[i]? = some t → ∃ v, vs[i]? = some v ∧ RD K c H t v
  | _, _, _, _, .nil, h => by simp at h
  | _, _, 0, _, .cons h1 _, h => by simp at h; subst h; exact ⟨_, rfl, h1⟩
  | _, _, i + 1, _, .cons _ h2, h => by simpa using RDs.at (i := i) h2 (by simpa using h)
theorem RVs.mono' {K : PySem.W.Frag} {P : List O} {c c1 : Cf} {H H1 : Hp} {ts : List T} {vs : List V} (e : Ev P c H c1 H1) (h : RVs K c.Z H ts vs) : RVs K c1.Z H1 ts vs := RVs.mono e.z e.rd e.rdD h
theorem RV.mono' {K : PySem.W.Frag} {P : List O} {c c1 : Cf} {H H1 : Hp} {t : T} {v : V} (e : Ev P c H c1 H1) (h : RV K c.Z H t v) : RV K c1.Z H1 t v := RV.mono e.z e.rd e.rdD h
section
variable {K : PySem.W.Frag} {P S : List O} {c : Cf} {H : Hp}
theorem itok_list {l : List T} {a : Addr} {vs : List V} (hz : c.Z a) (hH : H a = some (.lst vs)) (hl : vs.length ≤ sizeLine) (r : RVs K c.Z H l vs) : ItOk K P c H (Itl K a) (l.map D.t) := by
  refine ⟨by rw [List.length_map, r.len]; exact hl, fun c1 H1 e => ⟨vs, SqL.of (e.rd a _ hz hH rfl), by rw [List.length_map, r.len]; exact Nat.le_refl _⟩, fun i d c1 H1 S1 q e s => ?_⟩
  rw [List.getElem?_map] at q
  cases z : l[i]? with
  | none => rw [z] at q; cases q
  | some t =>
    rw [z] at q
    cases q
    obtain ⟨v, h1, h2⟩ := r.at z
    have hS : SqL K H1 a vs := SqL.of (e.rd a _ hz hH rfl)
    refine ⟨⟨vs, v, hS, h1⟩, fun x H2 y => ?_⟩
    obtain ⟨rfl, y⟩ := y
    have := y vs hS
    rw [h1] at this
    cases this
    exact ⟨c1, Ev.refl s, s, RV.mono' e h2⟩
theorem itok_tup {l : List T} {a : Addr} {vs : List V} (hq : ∀ c1 H1, Ev P c H c1 H1 → SqT K H1 a vs) (hl : vs.length ≤ sizeLine) (r : RVs K c.Z H l vs) : ItOk K P c H (Itt K a) (l.map D.t) := by
  refine ⟨by rw [List.length_map, r.len]; exact hl, fun c1 H1 e => ⟨vs, hq c1 H1 e, by rw [List.length_map, r.len]; exact Nat.le_refl _⟩, fun i d c1 H1 S1 q e s => ?_⟩
  rw [List.getElem?_map] at q
  cases z : l[i]? with
  | none => rw [z] at q; cases q
  | some t =>
    rw [z] at q
    cases q
    obtain ⟨v, h1, h2⟩ := r.at z
    have hS := hq c1 H1 e
    refine ⟨⟨vs, v, hS, h1⟩, fun x H2 y => ?_⟩
    obtain ⟨rfl, y⟩ := y
    have := y vs hS
    rw [h1] at this
    cases this
    exact ⟨c1, Ev.refl s, s, RV.mono' e h2⟩
theorem itok_scr {l : List Int} {a : Addr} (hq : ∀ c1 H1, Ev P c H c1 H1 → SqL K H1 a (l.map V.int)) (hl : l.length ≤ sizeLine) : ItOk K P c H (Itl K a) (l.map fun i => D.t (.int i)) := by
  refine ⟨by rw [List.length_map]; exact hl, fun c1 H1 e => ⟨_, hq c1 H1 e, by rw [List.length_map, List.length_map]; exact Nat.le_refl _⟩, fun i d c1 H1 S1 q e s => ?_⟩
  rw [List.getElem?_map] at q
  cases z : l[i]? with
  | none => rw [z] at q; cases q
  | some t =>
    rw [z] at q
    cases q
    have h1 : (l.map V.int)[i]? = some (.int t) := by rw [List.getElem?_map, z]; rfl
    have hS := hq c1 H1 e
    refine ⟨⟨_, _, hS, h1⟩, fun x H2 y => ?_⟩
    obtain ⟨rfl, y⟩ := y
    have := y _ hS
    rw [h1] at this
    cases this
    exact ⟨c1, Ev.refl s, s, RV.int t⟩
theorem itok_str {s : Tx} (hl : s.length ≤ sizeLine) : ItOk K P c H (Its (sv s)) (s.map fun ch => D.t (.str [ch])) := by
  refine ⟨by rw [List.length_map]; exact hl, fun c1 H1 e => by show (sv s).cps.size ≤ _; rw [List.length_map]; simp [sv], fun i d c1 H1 S1 q e sm => ?_⟩
  rw [List.getElem?_map] at q
  cases z : s[i]? with
  | none => rw [z] at q; cases q
  | some ch =>
    rw [z] at q
    cases q
    have hi := (List.getElem?_eq_some_iff.mp z).1
    refine ⟨by show i < (sv s).cps.size; simpa [sv] using hi, fun x H2 y => ?_⟩
    obtain ⟨rfl, ch', e1, rfl⟩ := y
    have e2 : s[i]? = some ch' := by simpa [sv] using e1
    rw [z] at e2
    cases e2
    exact ⟨c1, Ev.refl sm, sm, RV.str [ch] (by show 1 ≤ sizeLine; decide)⟩
theorem itok_cell {l : List D} {i : Nat} {vs : List V} (hS : Sim K P S c H) (hP : P[i]? = some (.lst l)) (hH : H (c.m i) = some (.lst vs)) (hl : vs.length ≤ sizeLine) (r : RDs K c H l vs) : ItOk K P c H (Itl K (c.m i)) l := by
  have hq : ∀ c1 H1, Ev P c H c1 H1 → SqL K H1 (c.m i) vs := fun c1 H1 e => SqL.of ((e.b i _ hP rfl).1.trans hH)
  refine ⟨by rw [r.len]; exact hl, fun c1 H1 e => ⟨vs, hq c1 H1 e, by rw [r.len]; exact Nat.le_refl _⟩, fun j d c1 H1 S1 q e s => ?_⟩
  obtain ⟨v, h1, h2⟩ := r.at q
  have hS1 := hq c1 H1 e
  refine ⟨⟨vs, v, hS1, h1⟩, fun x H2 y => ?_⟩
  obtain ⟨rfl, y⟩ := y
  have := y vs hS1
  rw [h1] at this
  cases this
  exact ⟨c1, Ev.refl s, s, h2.mono e⟩
theorem RD.scrE {l : List Int} {v : V} (h : RD K c H (.t (.scr l)) v) : ∃ a, v = .ref a ∧ (∀ {P : List O} {c1 : Cf} {H1 : Hp}, Ev P c H c1 H1 → SqL K H1 a (l.map V.int)) ∧ SqL K H a (l.map V.int) ∧ l.length ≤ sizeLine := by
  cases h with
  | scr _ a o h0 h1 h2 => exact ⟨a, rfl, fun e => .inl (.inr ⟨o, e.rd a _ h1 h2 rfl⟩), .inl (.inr ⟨o, h2⟩), h0⟩
  | scr1 _ a h0 h1 h2 => exact ⟨a, rfl, fun e => SqL.of (e.rd a _ h1 h2 rfl), SqL.of h2, h0⟩
  | scrK _ a h0 h1 => exact ⟨a, rfl, fun e => .inr h1, .inr h1, h0⟩
theorem RD.tupE {ts : List T} {v : V} (h : RD K c H (.t (.tup ts)) v) : ∃ a vs, v = .ref a ∧ (∀ {P : List O} {c1 : Cf} {H1 : Hp}, Ev P c H c1 H1 → SqT K H1 a vs) ∧ SqT K H a vs ∧ vs.length ≤ sizeLine ∧ RVs K c.Z H ts vs := by
  cases h with
  | tup _ a vs h1 h2 h3 h4 => exact ⟨a, vs, rfl, fun e => SqT.of (e.rd a _ h1 h2 rfl), SqT.of h2, h3, h4⟩
end
section
variable {X : Cx} {W : WX} {tg e : Expr} {f : ME} {pos : Pos}
/-- a walk of any sequence -/
theorem pmi_seq (h : PM X W e f) : PMI X W tg e (mIt f) := by
  refine ⟨⟨fun pins s σ H Rr I hw => ?_⟩⟩
  obtain ⟨c, P, ρ, S, hE, hS, hw⟩ := hw
  unfold mIt at hw
  cases q : f P ρ S with
  | ex x S1 =>
    rw [q] at hw
    exact (pi_list h.run).run pins s σ H Rr I ⟨c, P, ρ, S, hE, hS, by rw [q]; exact hw⟩
  | no =>
    rw [q] at hw
    exact hw.elim
  | ok d S1 =>
    rw [q] at hw
    simp only [R.bind_ok] at hw
    cases d with
    | ref i =>
      simp only [itemsOf] at hw
      cases z : P[i]? with
      | none => rw [z] at hw; exact hw.elim
      | some o =>
        rw [z] at hw
        cases o with
        | lst l =>
          refine (pi_list h.run).run pins s σ H Rr I ⟨c, P, ρ, S, hE, hS, ?_⟩
          rw [q]
          intro c1 v H1 e1 s1 r1
          obtain ⟨_, rfl⟩ := r1
          have hat : (P ++ S1)[i]? = some (.lst l) := by rw [List.getElem?_append_left (List.getElem?_eq_some_iff.mp z).1]; exact z
          obtain ⟨vs, hH, hl, rs⟩ := s1.ro i _ hat
          exact ⟨_, rfl, ⟨vs, SqL.of hH⟩, hw c1 _ H1 e1 s1 (itok_cell s1 z hH hl rs)⟩
        | _ => exact hw.elim
    | t x =>
      cases x with
      | lst l =>
        refine (pi_list h.run).run pins s σ H Rr I ⟨c, P, ρ, S, hE, hS, ?_⟩
        rw [q]
        intro c1 v H1 e1 s1 r1
        cases r1 with
        | lst _ a vs h1 h2 h3 h4 => exact ⟨_, rfl, ⟨vs, SqL.of h2⟩, hw c1 _ H1 e1 s1 (itok_list h1 h2 h3 h4)⟩
      | tup l =>
        refine (pi_tup h.run).run pins s σ H Rr I ⟨c, P, ρ, S, hE, hS, ?_⟩
        rw [q]
        intro c1 v H1 e1 s1 r1
        obtain ⟨a, vs, rfl, g1, g2, g3, g4⟩ := r1.tupE
        exact ⟨_, rfl, ⟨vs, g2⟩, hw c1 _ H1 e1 s1 (itok_tup (fun _ _ e => g1 e) g3 g4)⟩
      | scr l =>
        refine (pi_list h.run).run pins s σ H Rr I ⟨c, P, ρ, S, hE, hS, ?_⟩
        rw [q]
        intro c1 v H1 e1 s1 r1
        obtain ⟨a, rfl, g1, g2, g3⟩ := r1.scrE
        exact ⟨_, rfl, ⟨_, g2⟩, hw c1 _ H1 e1 s1 (itok_scr (fun _ _ e => g1 e) g3)⟩
      | str l =>
        refine (pi_str h.run).run pins s σ H Rr I ⟨c, P, ρ, S, hE, hS, ?_⟩
        rw [q]
        intro c1 v H1 e1 s1 r1
        cases r1 with
        | str _ hl => exact ⟨_, rfl, hw c1 _ H1 e1 s1 (itok_str hl)⟩
      | _ => exact hw.elim
end

/-! ### ranges -/
def rngOf (i j : Int) : List D := (List.range (j - i).toNat).map fun (k : Nat) => D.t (.int (i + k))
def rng1Of : List D → Option (List D)
  | [.t (.int j)] => if -(2 ^ 62) ≤ j ∧ j ≤ sizeLine then some (rngOf 0 j) else none
  | _ => none
def rng2Of : List D → Option (List D)
  | [.t (.int i), .t (.int j)] => if (-(2 ^ 61) ≤ i ∧ i ≤ 2 ^ 61) ∧ (-(2 ^ 61) ≤ j ∧ j ≤ 2 ^ 61) ∧ j - i ≤ sizeLine then some (rngOf i j) else none
  | _ => none
def mI (g : List D → Option (List D)) (f : MA) : MI := fun P ρ S => (f P ρ S).bind fun ds S1 => match g ds with
  | some l => .ok l S1
  | none => .no
theorem rng1Of_some {ds l : List D} (h : rng1Of ds = some l) : ∃ j, ds = [.t (.int j)] ∧ (-(2 ^ 62) ≤ j ∧ j ≤ sizeLine) ∧ l = rngOf 0 j := by
  unfold rng1Of at h
  split at h
  · rename_i j
    split at h
    · cases h; exact ⟨j, rfl, by assumption, rfl⟩
    · cases h
  · cases h
theorem rng2Of_some {ds l : List D} (h : rng2Of ds = some l) : ∃ i j, ds = [.t (.int i), .t (.int j)] ∧ ((-(2 ^ 61) ≤ i ∧ i ≤ 2 ^ 61) ∧ (-(2 ^ 61) ≤ j ∧ j ≤ 2 ^ 61) ∧ j - i ≤ sizeLine) ∧ l = rngOf i j := by
  unfold rng2Of at h
  split at h
  · rename_i i j
    split at h
    · cases h; exact ⟨i, j, rfl, by assumption, rfl⟩
    · cases h
  · cases h
theorem sz24 : (sizeLine : Int) = 16777216 := by rw [sizeLine_eq]; rfl
theorem itok_rng {K : PySem.W.Frag} {P : List O} {c : Cf} {H : Hp} {i j : Int} (h : j - i ≤ sizeLine) : ItOk K P c H (Itr i (j - i).toNat) (rngOf i j) := by
  have hl : (rngOf i j).length = (j - i).toNat := by simp [rngOf]
  refine ⟨by rw [hl]; omega, fun c1 H1 e => by show _ ≤ _; rw [hl]; exact Nat.le_refl _, fun k d c1 H1 S1 q e s => ?_⟩
  unfold rngOf at q
  rw [List.getElem?_map] at q
  by_cases hk : k < (j - i).toNat
  · rw [List.getElem?_range hk] at q
    cases q
    refine ⟨hk, fun x H2 y => ?_⟩
    obtain ⟨rfl, rfl⟩ := y
    exact ⟨c1, Ev.refl s, s, RV.int _⟩
  · rw [List.getElem?_eq_none (by simpa using hk)] at q
    cases q
section
variable {X : Cx} {W : WX} {tg a b : Expr} {f : MA} {p pos : Pos} {it : Expr}
/-- a walk over what a call of arguments gives -/
theorem pmi_of {es : List Expr} {g : List D → Option (List D)} {wi : TA → TI} (ha : PMA X W es f) (hp : ∀ t, PA X es t → PI X tg it (wi t))
    (hw : ∀ (t : TA) (σ : L2.St) (H : Hp) (Rr : It → Hp → Prop), (t σ H fun vs H1 => ∃ ds c P S l, Sim X.K P S c H1 ∧ RDs X.K c H1 ds vs ∧ g ds = some l ∧ ∀ J, ItOk X.K P c H1 J l → Rr J H1) → (∀ Q Q' : List V → Hp → Prop, (∀ vs H, Q vs H → Q' vs H) → t σ H Q → t σ H Q') → wi t σ H Rr) :
    PMI X W tg it (mI g f) := by
  refine ⟨⟨fun pins s σ H Rr I h => ?_⟩⟩
  obtain ⟨c, P, ρ, S, hE, hS, h⟩ := h
  refine (hp _ ha.run).run pins s σ H Rr I (hw _ σ H Rr ⟨c, P, ρ, S, hE, hS, ?_⟩ ?_)
  · unfold mI at h
    generalize f P ρ S = r at h
    cases r with
    | ex x S1 => exact h
    | no => exact h
    | ok ds S1 =>
      intro c1 vs H1 e1 s1 r1
      have h : match (match g ds with | some l => R.ok l S1 | none => R.no) with
        | .ok items S' => ∀ c' J H', Ev P c H c' H' → Sim X.K P S' c' H' → ItOk X.K P c' H' J items → Rr J H'
        | .ex x S' => ∀ c' H', Ev P c H c' H' → Sim X.K P S' c' H' → W x c' S' H'
        | .no => False := h
      cases q : g ds with
      | none => rw [q] at h; exact h.elim
      | some l =>
        rw [q] at h
        exact ⟨ds, c1, P, S1, l, s1, r1, q, fun J ok => h c1 J H1 e1 s1 ok⟩
  · rintro Q Q' hQ ⟨c, P, ρ, S, hE, hS, h⟩
    refine ⟨c, P, ρ, S, hE, hS, ?_⟩
    generalize f P ρ S = r at h
    cases r with
    | ex x S1 => exact h
    | no => exact h
    | ok ds S1 => exact fun c1 vs H1 e1 s1 r1 => hQ _ _ (h c1 vs H1 e1 s1 r1)
theorem pmi_range1 (hg : Gl X "range") (hm : X.mg "range" = none) (ha : PMA X W [a] f) (hs : starEach [a] X.env = [(false, eval a X.env)] := by rfl) : PMI X W tg (.Call (.Name "range" p) [a] [] pos) (mI rng1Of f) := by
  refine pmi_of ha (fun t h => pi_range1 hg hm h hs) fun t σ H Rr h mono => mono _ _ (fun vs H1 h => ?_) h
  obtain ⟨ds, c, P, S, l, hS, r, q, k⟩ := h
  obtain ⟨j, rfl, hj, rfl⟩ := rng1Of_some q
  have hz := sz24
  cases r with
  | cons r rr =>
    cases rr
    cases r
    refine ⟨j, rfl, hj.1, by omega, k _ ?_⟩
    have := itok_rng (K := X.K) (P := P) (c := c) (H := H1) (i := 0) (j := j) (by omega)
    rw [Int.sub_zero] at this
    exact this
theorem pmi_range2 (hg : Gl X "range") (hm : X.mg "range" = none) (ha : PMA X W [a, b] f) (hs : starEach [a, b] X.env = [(false, eval a X.env), (false, eval b X.env)] := by rfl) (hs2 : starEach [b] X.env = [(false, eval b X.env)] := by rfl) :
    PMI X W tg (.Call (.Name "range" p) [a, b] [] pos) (mI rng2Of f) := by
  refine pmi_of ha (fun t h => pi_range2 hg hm h hs hs2) fun t σ H Rr h mono => mono _ _ (fun vs H1 h => ?_) h
  obtain ⟨ds, c, P, S, l, hS, r, q, k⟩ := h
  obtain ⟨i, j, rfl, hj, rfl⟩ := rng2Of_some q
  cases r with
  | cons r rr =>
    cases rr with
    | cons r' rr =>
      cases rr
      cases r
      cases r'
      exact ⟨i, j, rfl, ⟨by omega, by omega, by omega, by omega⟩, k _ (itok_rng hj.2.2)⟩
/-! enumerate: a list of trees -/
def enumOf : Nat → List T → List D
  | _, [] => []
  | n, x :: r => .t (.tup [.int n, x]) :: enumOf (n + 1) r
def enumsOf : List D → Option (List D)
  | [.t (.lst l)] => some (enumOf 0 l)
  | _ => none
theorem enumsOf_some {ds l : List D} (h : enumsOf ds = some l) : ∃ m, ds = [.t (.lst m)] ∧ l = enumOf 0 m := by
  unfold enumsOf at h
  split at h
  · cases h; exact ⟨_, rfl, rfl⟩
  · cases h
theorem enumOf_len : ∀ (n : Nat) (l : List T), (enumOf n l).length = l.length
  | _, [] => rfl
  | n, x :: r => by rw [enumOf, List.length_cons, List.length_cons, enumOf_len (n + 1) r]
theorem enumOf_at : ∀ (n : Nat) (l : List T) (i : Nat), (enumOf n l)[i]? = (l[i]?).map fun x => D.t (.tup [.int ((n + i : Nat) : Int), x])
  | _, [], i => by simp [enumOf]
  | n, x :: r, 0 => by simp [enumOf]
  | n, x :: r, i + 1 => by
    rw [enumOf, List.getElem?_cons_succ, List.getElem?_cons_succ, enumOf_at (n + 1) r i]
    rw [show n + 1 + i = n + (i + 1) by omega]
theorem pmi_enum {elts : List Expr} {kk : Nat} {tpos : Pos} (hg : Gl X "enumerate") (hm : X.mg "enumerate" = none) (ha : PMA X W [a] f) (hs : starEach [a] X.env = [(false, eval a X.env)] := by rfl) :
    PMI X W (.Tuple elts kk tpos) (.Call (.Name "enumerate" p) [a] [] pos) (mI enumsOf f) := by
  refine pmi_of ha (fun t h => pi_enum hg hm h hs) fun t σ H Rr h mono => mono _ _ (fun vs H1 h => ?_) h
  obtain ⟨ds, c1, P, S, l', hS, r, q, k⟩ := h
  obtain ⟨l, rfl, rfl⟩ := enumsOf_some q
  cases r with
  | cons r rr =>
    cases rr
    cases r with
    | lst _ a vs h1 h2 h3 h4 =>
      refine ⟨a, vs, rfl, SqL.of h2, k _ ⟨by rw [enumOf_len, h4.len]; exact h3, fun c2 H2 e2 => ⟨vs, SqL.of (e2.rd a _ h1 h2 rfl), by rw [enumOf_len, h4.len]; exact Nat.le_refl _⟩, fun i d c2 H2 S2 qi e2 s2 => ?_⟩⟩
      rw [enumOf_at] at qi
      cases z : l[i]? with
      | none => rw [z] at qi; cases qi
      | some t =>
        rw [z] at qi
        cases qi
        obtain ⟨v, g1, g2⟩ := h4.at z
        have hS2 : SqL X.K H2 a vs := SqL.of (e2.rd a _ h1 h2 rfl)
        refine ⟨⟨vs, v, hS2, g1⟩, fun x H3 y => ?_⟩
        obtain ⟨TT, x', rfl, hT, rfl, y⟩ := y
        have := y vs hS2
        rw [g1] at this
        cases this
        refine ⟨c2.zed TT, Ev.alloc s2 hT, Sim.alloc s2 hT, RV.tup _ TT _ (.inr rfl) upd_same (by show 2 ≤ sizeLine; decide) (.cons _ _ _ _ ?_ (.cons _ _ _ _ (RV.up s2 hT (RV.mono' e2 g2)) .nil))⟩
        rw [Nat.zero_add]
        exact .int _
def zipOf : List T → List T → List D
  | x :: r, y :: s => .t (.tup [x, y]) :: zipOf r s
  | _, _ => []
theorem zipOf_len : ∀ l m : List T, (zipOf l m).length = min l.length m.length
  | [], m => by simp [zipOf]
  | x :: r, [] => by simp [zipOf]
  | x :: r, y :: s => by rw [zipOf, List.length_cons, List.length_cons, List.length_cons, zipOf_len r s]; omega
theorem zipOf_at : ∀ (l m : List T) (i : Nat) (d : D), (zipOf l m)[i]? = some d → ∃ x y, l[i]? = some x ∧ m[i]? = some y ∧ d = .t (.tup [x, y])
  | [], m, i, d, h => by simp [zipOf] at h
  | x :: r, [], i, d, h => by simp [zipOf] at h
  | x :: r, y :: s, 0, d, h => by simp [zipOf] at h; exact ⟨x, y, rfl, rfl, h.symm⟩
  | x :: r, y :: s, i + 1, d, h => by
    rw [zipOf, List.getElem?_cons_succ] at h
    obtain ⟨x', y', h1, h2, h3⟩ := zipOf_at r s i d h
    exact ⟨x', y', by simpa using h1, by simpa using h2, h3⟩
end

/-! ### list comprehensions -/
def lcGo (g : MG) (ft : MT) (fe : ME) (P : List O) (ρ : En) : List D → List O → R (List D)
  | [], S => .ok [] S
  | d :: ds, S => match g d ρ with
    | none => .no
    | some ρ1 => (ft P ρ1 S).nx.bind fun b S1 => if b then (fe P ρ1 S1).nx.bind fun y S2 => (lcGo g ft fe P ρ ds S2).bind fun r S3 => .ok (y :: r) S3
      else lcGo g ft fe P ρ ds S1
def wipeE (ρ : En) : List Nat → En
  | [] => ρ
  | v :: vs => (wipeE ρ vs).set v none
def mLcG (fin : List D → List O → List O → R D) (fi : MI) (g : MG) (vs : List Nat) (ft : MT) (fe : ME) : ME := fun P ρ S => (fi P ρ S).bind fun ds S1 => (lcGo g ft fe P (wipeE ρ vs) ds S1).bind fun r S2 => fin r P S2
def finT : List D → List O → List O → R D := fun r _ S => match trees r with
  | some ts => .ok (.t (.lst ts)) S
  | none => .no
def finC : List D → List O → List O → R D := fun r P S => .ok (.ref (P.length + S.length)) (S ++ [.lst r])
def mLc := mLcG finT
def mLcC := mLcG finC
def mYes : MT := fun _ _ S => .ok true S
structure PMTs (X : Cx) (W : WX) (ifs : List Expr) (f : MT) : Prop where
  run : PTs X ifs (tMT X.K W f)
theorem pmts_nil {X : Cx} {W : WX} : PMTs X W [] mYes := ⟨⟨fun pins s σ H Q I ⟨c, P, ρ, S, hE, hS, h⟩ => pts_nil.run pins s σ H Q I (h c true H (Ev.refl hS) hS rfl)⟩⟩
theorem pmts_one {X : Cx} {W : WX} {e : Expr} {f : MT} (h : PMT X W e f) : PMTs X W [e] f := ⟨pts_one h.run⟩
theorem SimE.wipe {K : PySem.W.Frag} {c : Cf} {H : Hp} {ρ : En} {σ : L2.St} (h : SimE K c H ρ σ) : ∀ vs : List Nat, SimE K c H (wipeE ρ vs) (L2.wipe σ vs)
  | [] => h
  | v :: vs => (SimE.wipe h vs).clr v none
theorem wipe_at (σ : L2.St) : ∀ (vs : List Nat) (j : Nat), j < σ.length → (L2.wipe σ vs)[j]? = if j ∈ vs then some none else σ[j]?
  | [], j, _ => by simp [L2.wipe]
  | v :: vs, j, hj => by
    unfold L2.wipe
    by_cases h : v = j
    · subst h
      rw [List.getElem?_set_self (by rw [wipe_length]; exact hj), if_pos (by simp)]
    · rw [List.getElem?_set_ne h, wipe_at σ vs j hj]
      have : (j ∈ v :: vs) ↔ j ∈ vs := by simp [Ne.symm h]
      by_cases hm : j ∈ vs
      · rw [if_pos hm, if_pos (this.mpr hm)]
      · rw [if_neg hm, if_neg fun z => hm (this.mp z)]
theorem wipe_ext {σ σ' : L2.St} {vs : List Nat} (hl : σ'.length = (L2.wipe σ vs).length) (h : ∀ j, j ∉ vs → σ'[j]? = (L2.wipe σ vs)[j]?) : L2.wipe σ' vs = L2.wipe σ vs := by
  have hl2 : σ'.length = σ.length := by rw [hl, wipe_length]
  refine List.ext_getElem? fun j => ?_
  by_cases hj : j < σ.length
  · rw [wipe_at _ _ _ (by omega), wipe_at _ _ _ hj]
    by_cases hm : j ∈ vs
    · rw [if_pos hm, if_pos hm]
    · rw [if_neg hm, if_neg hm, h j hm, wipe_at _ _ _ hj, if_neg hm]
  · rw [List.getElem?_eq_none (by rw [wipe_length]; omega), List.getElem?_eq_none (by rw [wipe_length]; omega)]
def Cf.yed (c : Cf) (p : Addr) : Cf := { c with Y := fun a => c.Y a ∨ a = p }
section
variable {K : PySem.W.Frag} {P S : List O} {c c0 : Cf} {H H0 : Hp} {p : Addr} {o : HO}
theorem Ev.yed (h : Sim K P S c H) (hp : H p = none) : Ev P c H (c.yed p) (upd H p o) := by
  have e := Ev.new (o := o) h hp
  refine ⟨e.z, e.rd, e.rdD, e.n, e.m, fun i u q l => ?_, fun a z => ⟨.inl z, (e.y a z).2⟩, e.fz⟩
  have e' : (P ++ S)[i]? = some u := by rw [List.getElem?_append_left (List.getElem?_eq_some_iff.mp q).1]; exact q
  exact ⟨(e.b i u q l).1, (e.b i u q l).2.1, fun z => z.elim (e.b i u q l).2.2 (h.ne hp e' l)⟩
theorem Sim.yed (h : Sim K P S c H) (hp : H p = none) (ho : ntO o = true := by rfl) : Sim K P S (c.yed p) (upd H p o) := by
  have s := Sim.new (o := o) h hp
  refine ⟨s.n, fun i u e => ?_, s.nz, s.inj, s.z, fun a z => z.elim (s.y a) fun q => ⟨o, by rw [q]; exact upd_same, ho⟩, fun a z w => z.elim (fun z => s.yz a z w) fun q => h.zne hp w q, fun i u e l z => z.elim (s.yc i u e l) (h.ne hp e l)⟩
  exact RO.mono' (c := c) (fun _ z => z) (fun _ _ _ z _ => z) (fun _ _ _ _ _ z => z) (Nat.le_refl _) (fun _ _ => rfl) rfl (s.ro i u e)
/-- what Y names is changed by its maker -/
theorem Sim.updY (h : Sim K P S c H) (hy : c.Y p) (ho : ntO o = true := by rfl) : Sim K P S c (upd H p o) := by
  have zn : ∀ {a}, c.Z a → a ≠ p := fun z q => h.yz p hy (q ▸ z)
  refine ⟨h.n, fun i u e => ?_, h.nz, h.inj, fun a z => ?_, fun a z => ?_, h.yz, h.yc⟩
  · cases hl : u.live with
    | false => cases u <;> first | trivial | cases hl
    | true => exact RO.mono' (c := c) (fun _ z => z) (fun a w z e _ => by rw [upd_ne (zn z)]; exact e) (fun a w z _ _ e => by unfold Rd; rw [upd_ne (zn z)]; exact e) (Nat.le_refl _) (fun _ _ => rfl) (upd_ne fun q => h.yc i u e hl (q ▸ hy)) (h.ro i u e)
  · obtain ⟨w, e⟩ := h.z a z
    exact ⟨w, by rw [upd_ne (zn z)]; exact e⟩
  · by_cases ha : a = p
    · exact ⟨o, by rw [ha]; exact upd_same, ho⟩
    · obtain ⟨w, e, nt⟩ := h.y a z
      exact ⟨w, by rw [upd_ne ha]; exact e, nt⟩
theorem Ev.updY (h0 : Sim K P S c0 H0) (hp : H0 p = none) (e : Ev P c0 H0 c H) : Ev P c0 H0 c (upd H p o) :=
  ⟨e.z, fun a u z q i => by rw [upd_ne (h0.zne hp z)]; exact e.rd a u z q i, fun a u z l i q => by unfold Rd; rw [upd_ne (h0.zne hp z)]; exact e.rdD a u z l i q, e.n, e.m, fun i u q l => by
    have e' : (P ++ S)[i]? = some u := by rw [List.getElem?_append_left (List.getElem?_eq_some_iff.mp q).1]; exact q
    exact ⟨(upd_ne (h0.ne hp e' l)).trans (e.b i u q l).1, (e.b i u q l).2⟩, fun a z => ⟨(e.y a z).1, (upd_ne (h0.yne hp z)).trans (e.y a z).2⟩, fun a o u z q => by rw [upd_ne (fun q2 => h0.zne hp z q2)]; exact e.fz a o u z q⟩
/-- the maker gives it away: as a tree's, or as a cell's -/
theorem give {S1 : List O} (h0 : Sim K P S c0 H0) (hp : H0 p = none) (e : Ev P c0 H0 c H) (h : Sim K P S1 c H) (hy : c.Y p) {u : HO} (hu : H p = some u) :
    Ev P c0 H0 { c with Y := c0.Y, Z := fun a => c.Z a ∨ a = p } H ∧ Sim K P S1 { c with Y := c0.Y, Z := fun a => c.Z a ∨ a = p } H := by
  have ne : ∀ {i : Nat} {w : O}, (P ++ S1)[i]? = some w → w.live = true → c.m i ≠ p := fun e l q => h.yc _ _ e l (q ▸ hy)
  refine ⟨⟨fun a z => .inl (e.z a z), e.rd, e.rdD, e.n, e.m, fun i w q l => ?_, fun a z => ⟨z, (e.y a z).2⟩, e.fz⟩, ⟨h.n, fun i w q => ?_, fun i w q l z => z.elim (h.nz i w q l) (ne q l), h.inj, fun a z => z.elim (h.z a) fun q => ⟨u, by rw [q]; exact hu⟩, fun a z => h.y a (e.y a z).1, fun a z w => w.elim (h.yz a (e.y a z).1) fun q => h0.yne hp z q, fun i w q l z => h.yc i w q l (e.y _ z).1⟩⟩
  · have e' : (P ++ S)[i]? = some w := by rw [List.getElem?_append_left (List.getElem?_eq_some_iff.mp q).1]; exact q
    exact ⟨(e.b i w q l).1, fun z => z.elim (e.b i w q l).2.1 (h0.ne hp e' l), h0.yc i w e' l⟩
  · exact RO.mono' (c := c) (c1 := { c with Y := c0.Y, Z := fun a => c.Z a ∨ a = p }) (fun _ z => .inl z) (fun _ _ _ z _ => z) (fun _ _ _ _ _ z => z) (Nat.le_refl _) (fun _ _ => rfl) rfl (h.ro i w q)
theorem giveC {S1 : List O} (h0 : Sim K P S c0 H0) (hp : H0 p = none) (e : Ev P c0 H0 c H) (h : Sim K P S1 c H) (hy : c.Y p) {r : List D} {vs : List V} (hu : H p = some (.lst vs)) (hl : vs.length ≤ sizeLine) (hr : RDs K c H r vs) :
    Ev P c0 H0 { c with Y := c0.Y, n := c.n + 1, m := fun i => if i = c.n then p else c.m i } H ∧ Sim K P (S1 ++ [.lst r]) { c with Y := c0.Y, n := c.n + 1, m := fun i => if i = c.n then p else c.m i } H := by
  have ne : ∀ {i : Nat} {w : O}, (P ++ S1)[i]? = some w → w.live = true → c.m i ≠ p := fun e l q => h.yc _ _ e l (q ▸ hy)
  have hn := h.n
  have m1 : ∀ {i}, i < c.n → (if i = c.n then p else c.m i) = c.m i := fun hi => if_neg (by omega)
  have en := e.n
  have e1 : ∀ {i w}, (P ++ (S1 ++ [.lst r]))[i]? = some w → (i < c.n ∧ (P ++ S1)[i]? = some w) ∨ (i = c.n ∧ w = .lst r) := fun {i w} q => by
    rw [← List.append_assoc] at q
    have hlen : (P ++ S1).length = c.n := by rw [List.length_append]; exact hn
    by_cases hi : i < c.n
    · rw [List.getElem?_append_left (by omega)] at q
      exact .inl ⟨hi, q⟩
    · have := (List.getElem?_eq_some_iff.mp q).1
      rw [List.length_append, List.length_singleton] at this
      have hi2 : i = c.n := by omega
      rw [hi2, List.getElem?_append_right (by omega), hlen, Nat.sub_self] at q
      exact .inr ⟨hi2, (Option.some.inj q).symm⟩
  have up : ∀ {w : O} {a : Addr}, RO K c H w a → RO K { c with Y := c0.Y, n := c.n + 1, m := fun i => if i = c.n then p else c.m i } H w a := fun {w a} q =>
    RO.mono' (c := c) (c1 := { c with Y := c0.Y, n := c.n + 1, m := fun i => if i = c.n then p else c.m i }) (fun _ z => z) (fun _ _ _ z _ => z) (fun _ _ _ _ _ z => z) (Nat.le_succ _) (fun i hi => m1 hi) rfl q
  refine ⟨⟨e.z, e.rd, e.rdD, Nat.le_succ_of_le e.n, fun i hi => (m1 (by omega)).trans (e.m i hi), fun i w q l => ?_, fun a z => ⟨z, (e.y a z).2⟩, e.fz⟩,
    ⟨by simp only [List.length_append, List.length_singleton]; omega, fun i w q => ?_, fun i w q l => ?_, fun i j w x qi qj li lj q => ?_, h.z, fun a z => h.y a (e.y a z).1, fun a z => h.yz a (e.y a z).1, fun i w q l => ?_⟩⟩
  · have e' : (P ++ S)[i]? = some w := by rw [List.getElem?_append_left (List.getElem?_eq_some_iff.mp q).1]; exact q
    exact ⟨(e.b i w q l).1, (e.b i w q l).2.1, h0.yc i w e' l⟩
  · show RO K _ H w (if i = c.n then p else c.m i)
    rcases e1 q with ⟨hi, q⟩ | ⟨hi, rfl⟩
    · rw [m1 hi]; exact up (h.ro i w q)
    · rw [if_pos hi]; exact up ⟨vs, hu, hl, hr⟩
  · show ¬ c.Z (if i = c.n then p else c.m i)
    rcases e1 q with ⟨hi, q⟩ | ⟨hi, rfl⟩
    · rw [m1 hi]; exact h.nz i w q l
    · rw [if_pos hi]; exact h.yz p hy
  · have q : (if i = c.n then p else c.m i) = (if j = c.n then p else c.m j) := q
    rcases e1 qi with ⟨hi, fi⟩ | ⟨hi, _⟩ <;> rcases e1 qj with ⟨hj, fj⟩ | ⟨hj, _⟩
    · rw [m1 hi, m1 hj] at q
      exact h.inj i j w x fi fj li lj q
    · rw [m1 hi, if_pos hj] at q
      exact absurd q (ne fi li)
    · rw [if_pos hi, m1 hj] at q
      exact absurd q.symm (ne fj lj)
    · omega
  · show ¬ c0.Y (if i = c.n then p else c.m i)
    rcases e1 q with ⟨hi, q⟩ | ⟨hi, rfl⟩
    · rw [m1 hi]; exact fun z => h.yc i w q l (e.y _ z).1
    · rw [if_pos hi]; exact fun z => h0.yne hp z rfl
end
/-- what the end of a comprehension makes of its list -/
def FinOk (K : PySem.W.Frag) (fin : List D → List O → List O → R D) : Prop := ∀ (P S S1 : List O) (c c0 : Cf) (H H0 : Hp) (p : Addr) (r : List D) (vs : List V) (W : WX) (Q : VK), Sim K P S c0 H0 → H0 p = none → Ev P c0 H0 c H → Sim K P S1 c H → c.Y p → H p = some (.lst vs) → vs.length ≤ sizeLine → RDs K c H r vs →
  Post K P c0 H0 (RD K) (fin r P S1) W Q → Q (.ref p) H
theorem fin_T {K : PySem.W.Frag} : FinOk K finT := by
  intro P S S1 c c0 H H0 p r vs W Q h0 hp e h hy hu hl hr q
  unfold finT at q
  cases z : trees r with
  | none => rw [z] at q; exact q.elim
  | some ts =>
    rw [z] at q
    obtain ⟨g1, g2⟩ := give h0 hp e h hy hu
    exact q _ _ H g1 g2 (RV.lst ts p vs (.inr rfl) hu hl (RVs.mono (fun _ z => .inl z) (fun _ _ _ z _ => z) (fun _ _ _ _ _ z => z) (hr.trees z)))
theorem fin_C {K : PySem.W.Frag} : FinOk K finC := by
  intro P S S1 c c0 H H0 p r vs W Q h0 hp e h hy hu hl hr q
  obtain ⟨g1, g2⟩ := giveC h0 hp e h hy hu hl hr
  have hn := h.n
  refine q _ _ H g1 g2 ⟨by show _ < c.n + 1; omega, ?_⟩
  show V.ref p = V.ref (if P.length + S1.length = c.n then p else _)
  rw [if_pos hn]
theorem tLc_of {K : PySem.W.Frag} {W : WX} {fin : List D → List O → List O → R D} {fi : MI} {g : MG} {own : List Nat} {vs : List Nat} {ft : MT} {fe : ME} {σ : L2.St} {H : Hp} {Q : VK} (hf : FinOk K fin) (hsub : ∀ j ∈ own, j ∈ vs) (h : tM K W (mLcG fin fi g vs ft fe) σ H Q) :
    tLc (tMI K W fi) (tMG K own g) (tMT K W0 ft) (tM K W0 fe) vs σ H Q := by
  obtain ⟨c, P, ρ, S, hE, hS, h⟩ := h
  refine ⟨c, P, ρ, S, hE, hS, ?_⟩
  unfold mLcG at h
  generalize fi P ρ S = r at h
  cases r with
  | ex x S1 => exact h
  | no => exact h
  | ok items S1 =>
    intro c0 J H0 e0 s0 ok0 Dd hD
    have hE0 := hE.mono e0
    have h := Post.ev hS.pl e0 h
    simp only [R.bind_ok] at h
    refine ⟨fun i m H => m + i = items.length ∧ ∃ c S acc va, Ev P c0 H0 c H ∧ Sim K P S c H ∧ c.Y Dd ∧ H Dd = some (.lst va) ∧ RDs K c H acc va ∧ va.length ≤ i ∧
      Post K P c0 H0 (RD K) ((lcGo g ft fe P (wipeE ρ vs) (items.drop i) S).bind fun r S2 => fin (acc ++ r) P S2) W Q,
      ⟨items.length, by omega, c0.yed Dd, S1, [], [], Ev.yed s0 hD, Sim.yed s0 hD, .inr rfl, upd_same, .nil, Nat.le_refl _, h⟩, ?_⟩
    rintro i m H ⟨him, c, S, acc, va, ev, sm, hy, hH, ra, hl, h⟩
    have hlen := ok0.len
    by_cases hi : i < items.length
    · have hd : items.drop i = items[i] :: items.drop (i + 1) := List.drop_eq_getElem_cons hi
      rw [hd] at h
      obtain ⟨g1, g2⟩ := ok0.go i items[i] c H S (List.getElem?_eq_getElem hi) ev sm
      refine .inr ⟨g1, fun H => ∃ c S acc va, Ev P c0 H0 c H ∧ Sim K P S c H ∧ c.Y Dd ∧ H Dd = some (.lst va) ∧ RDs K c H acc va ∧ va.length ≤ i + 1 ∧
        Post K P c0 H0 (RD K) ((lcGo g ft fe P (wipeE ρ vs) (items.drop (i + 1)) S).bind fun r S2 => fin (acc ++ r) P S2) W Q, fun H' n => ⟨m - 1, by omega, by omega, n⟩, fun x H2 y => ?_⟩
      obtain ⟨c2, ev2, s2, r2⟩ := g2 x H2 y
      have ev2' := ev.trans s0.pl ev2
      refine ⟨c2, P, S, wipeE ρ vs, items[i], (hE0.mono ev2').wipe vs, s2, r2, ?_⟩
      unfold lcGo at h
      cases q : g items[i] (wipeE ρ vs) with
      | none => rw [q] at h; exact h
      | some ρ1 =>
        rw [q] at h
        intro σ1 E1 l1 j1
        refine ⟨wipe_ext l1 fun j hj => j1 j fun z => hj (hsub j z), c2, P, ρ1, S, E1, s2, ?_⟩
        simp only at h
        generalize ft P ρ1 S = rt at h
        cases rt with
        | ex x S3 => exact h.elim
        | no => exact h.elim
        | ok b S3 =>
          intro c3 b' H3 e3 s3 rb
          cases (show b = b' from rb)
          simp only [R.nx_ok, R.bind_ok] at h
          have ev3 := ev2'.trans s0.pl e3
          have y3 := (ev2.y Dd hy)
          have y3' := (e3.y Dd y3.1)
          cases b with
          | false =>
            rw [if_neg Bool.false_ne_true] at h ⊢
            exact ⟨c3, S3, acc, va, ev3, s3, y3'.1, y3'.2.trans (y3.2.trans hH), (ra.mono ev2).mono e3, by omega, h⟩
          | true =>
            rw [if_pos rfl] at h ⊢
            refine ⟨c3, P, ρ1, S3, E1.mono e3, s3, ?_⟩
            generalize fe P ρ1 S3 = re at h
            cases re with
            | ex x S4 => exact h.elim
            | no => exact h.elim
            | ok yd S4 =>
              intro c4 yv H4 e4 s4 ry
              simp only [R.nx_ok, R.bind_ok] at h
              have y4 := e4.y Dd y3'.1
              have hH4 : H4 Dd = some (.lst va) := y4.2.trans (y3'.2.trans (y3.2.trans hH))
              have s5 : Sim K P S4 c4 (upd H4 Dd (.lst (va ++ [yv]))) := s4.updY y4.1
              have up : ∀ {d : D} {v : V}, RD K c4 H4 d v → RD K c4 (upd H4 Dd (.lst (va ++ [yv]))) d v := fun {d v} rr => by
                have zn : ∀ {a}, c4.Z a → a ≠ Dd := fun z q => s4.yz Dd y4.1 (q ▸ z)
                cases d with
                | ref i => exact rr
                | t x => exact RV.mono (fun _ z => z) (fun a w z e _ => by rw [upd_ne (zn z)]; exact e) (fun a w z _ _ e => by unfold Rd; rw [upd_ne (zn z)]; exact e) rr
              refine ⟨va, hH4, by omega, c4, S4, acc ++ [yd], va ++ [yv], Ev.updY s0 hD (ev3.trans s0.pl e4), s5, y4.1, upd_same, ?_, by rw [List.length_append, List.length_singleton]; omega, ?_⟩
              · have r4 : RDs K c4 H4 acc va := ((ra.mono ev2).mono e3).mono e4
                exact Paired.snoc (Paired.mapP r4 fun _ _ z => up z) (up ry)
              · generalize lcGo g ft fe P (wipeE ρ vs) (items.drop (i + 1)) S4 = rl at h ⊢
                cases rl with
                | ok r S5 => simpa using h
                | ex x S5 => exact h
                | no => exact h
    · have hi2 : i = items.length := by omega
      subst hi2
      rw [List.drop_length] at h
      refine .inl ⟨ok0.stop c H ev, ?_⟩
      have h : Post K P c0 H0 (RD K) (fin (acc ++ []) P S) W Q := h
      rw [List.append_nil] at h
      exact hf P S1 S c c0 H H0 Dd acc va W Q s0 hD ev sm hy hH (by omega) ra h
section
variable {X : Cx} {W : WX}
theorem pm_lcG {fin : List D → List O → List O → R D} {elt tg iter : Expr} {ifs : List Expr} {scope : Scope} {own : List (Str × Nat)} {ow : List Nat} {pos : Pos} {fi : MI} {g : MG} {ft : MT} {fe : ME} (hf : FinOk X.K fin) (hc : X.calm = true) (hN : X.N.Nodup) (hi : PMI X W tg iter fi) (ok : BlkOk X.N X.env.scope scope own)
    (hg : ∀ (s : Shared) (H : Hp) (C : Addr) (cl : List (Str × Addr)) (fp : List Addr), PMG (X.blk s H scope (compEnvC scope cl C X.env) fp) tg ow g)
    (ht : ∀ (s : Shared) (H : Hp) (C : Addr) (cl : List (Str × Addr)) (fp : List Addr), PMTs (X.blk s H scope (compEnvC scope cl C X.env) fp) W0 ifs ft)
    (he : ∀ (s : Shared) (H : Hp) (C : Addr) (cl : List (Str × Addr)) (fp : List Addr), PM (X.blk s H scope (compEnvC scope cl C X.env) fp) W0 elt fe)
    (hs : ∀ x, foldedSetIterable iter X.env x = pure x := by intro _; rfl) (hsub : ∀ j ∈ ow, j ∈ own.map (·.2) := by decide) :
    PM X W (.ListComp elt [⟨tg, iter, ifs, 0⟩] scope pos) (mLcG fin fi g (own.map (·.2)) ft fe) :=
  ⟨pe_weak (pe_lc (te := tM X.K W0 fe) (tt := tMT X.K W0 ft) (g := tMG X.K ow g) hc hN hi.run ok (fun s H C cl fp => (hg s H C cl fp).run) (fun s H C cl fp => (ht s H C cl fp).run) (fun s H C cl fp => (he s H C cl fp).run) hs) fun _ _ _ h => tLc_of hf hsub h⟩
theorem pms_setLcG {fin : List D → List O → List O → R D} (i : Nat) {y : Str} {py : Pos} {elt tg iter : Expr} {ifs : List Expr} {scope : Scope} {own : List (Str × Nat)} {ow : List Nat} {pos spos : Pos} {fi : MI} {g : MG} {ft : MT} {fe : ME} (hf : FinOk X.K fin) (hc : X.calm = true) (hN : X.N.Nodup) (hi : PMI X W tg iter fi) (ok : BlkOk X.N X.env.scope scope own)
    (hg : ∀ (s : Shared) (H : Hp) (C : Addr) (cl : List (Str × Addr)) (fp : List Addr), PMG (X.blk s H scope (compEnvC scope cl C X.env) fp) tg ow g)
    (ht : ∀ (s : Shared) (H : Hp) (C : Addr) (cl : List (Str × Addr)) (fp : List Addr), PMTs (X.blk s H scope (compEnvC scope cl C X.env) fp) W0 ifs ft)
    (he : ∀ (s : Shared) (H : Hp) (C : Addr) (cl : List (Str × Addr)) (fp : List Addr), PM (X.blk s H scope (compEnvC scope cl C X.env) fp) W0 elt fe)
    (hy : X.N[i]? = some y := by rfl) (hyl : X.env.scope.names.lookup y = some .local := by rfl) (hsw : swapsWith (.ListComp elt [⟨tg, iter, ifs, 0⟩] scope pos) (some (.Name y py)) spos.line X.env = pure true := by exact sw_true rfl rfl rfl (by decide +kernel))
    (hs : ∀ x, foldedSetIterable iter X.env x = pure x := by intro _; rfl) (hsub : ∀ j ∈ ow, j ∈ own.map (·.2) := by decide) :
    PMS X W (.Assign [.Name y py] (.ListComp elt [⟨tg, iter, ifs, 0⟩] scope pos) spos) (sSet i (mLcG fin fi g (own.map (·.2)) ft fe)) := by
  refine ⟨ps_weak (ps_setLc (te := tM X.K W0 fe) (tt := tMT X.K W0 ft) (g := tMG X.K ow g) hc hN hy hyl hsw hi.run ok (fun s H C cl fp => (hg s H C cl fp).run) (fun s H C cl fp => (ht s H C cl fp).run) (fun s H C cl fp => (he s H C cl fp).run) hs) fun D σ H h => ?_⟩
  obtain ⟨c, P, ρ, S, hE, hS, h⟩ := h
  show tLc _ _ _ _ _ σ H _
  refine tLc_of hf hsub ?_
  exact tM_oc hE hS h fun d v S1 c1 H1 e1 E1 s1 r1 h1 => h1 c1 _ H1 (Ev.refl s1) s1 (E1.set i r1)
end
end Fm

/-! Fm5: what operators, subscripts, slices and built-ins do to trees. -/
namespace Fm
open PySem PySem.Spec PyProof.Rows L2

/-! ### trees as data -/
mutual
def T.pd : T → PyData
  | .non => .none
  | .bl b => .bool b
  | .int i => .int i
  | .str s => .str (sv s)
  | .lst l => .list (T.pds l)
  | .tup l => .tuple (T.pds l)
  | .scr l => .list (l.map .int)
  | .dic _ => .none
  | .dit _ => .none
  | .ty _ => .none
  | .wtup l => .tuple (T.pds l)
def T.pds : List T → List PyData
  | [] => []
  | x :: r => x.pd :: T.pds r
end
mutual
/-- no dict, no class within -/
def T.plain : T → Bool
  | .lst l => T.plains l
  | .tup l => T.plains l
  | .wtup l => T.plains l
  | .dic _ => false
  | .dit _ => false
  | .ty _ => false
  | _ => true
def T.plains : List T → Bool
  | [] => true
  | x :: r => x.plain && T.plains r
end
theorem pds_map {α : Type} (g : α → T) (l : List α) : T.pds (l.map g) = l.map fun x => (g x).pd := by
  induction l with
  | nil => rfl
  | cons x l ih => rw [List.map_cons, T.pds, ih]; rfl
theorem pds_eq (l : List T) : T.pds l = l.map T.pd := by
  have := pds_map id l
  simpa using this
theorem plains_iff (l : List T) : T.plains l = true ↔ ∀ x ∈ l, x.plain = true := by
  induction l with
  | nil => simp [T.plains]
  | cons x l ih => simp [T.plains, ih]
@[simp] theorem plains_map {α : Type} (g : α → T) (l : List α) : T.plains (l.map g) = l.all fun x => (g x).plain := by
  induction l with
  | nil => rfl
  | cons x l ih => rw [List.map_cons, T.plains, ih]; rfl
theorem plainAll_ints : ∀ l : List Int, PyData.plainAll (l.map PyData.int) = true
  | [] => rfl
  | x :: l => by rw [List.map_cons, PyData.plainAll, plainAll_ints l]; rfl
mutual
theorem T.pd_plain : ∀ t : T, t.plain = true → t.pd.plain = true
  | .non, _ => rfl
  | .bl _, _ => rfl
  | .int _, _ => rfl
  | .str _, _ => rfl
  | .lst l, h => T.pds_plain l h
  | .tup l, h => T.pds_plain l h
  | .wtup l, h => T.pds_plain l h
  | .scr l, _ => plainAll_ints l
theorem T.pds_plain : ∀ l : List T, T.plains l = true → PyData.plainAll (T.pds l) = true
  | [], _ => rfl
  | x :: r, h => by
    rw [T.plains, Bool.and_eq_true] at h
    rw [T.pds, PyData.plainAll, T.pd_plain x h.1, T.pds_plain r h.2]; rfl
end
section
variable {K : PySem.W.Frag} {Z : Addr → Prop} {H : Hp}
theorem dpAll_ints : ∀ l : List Int, DpAll K H (l.map V.int) (l.map PyData.int)
  | [] => .nil
  | x :: l => .cons (.int x) (dpAll_ints l)
mutual
theorem RV.dp' : ∀ (t : T) (v : V), RV K Z H t v → t.plain = true → Dp K H v t.pd
  | .non, _, h, _ => by cases h; exact .non
  | .bl b, _, h, _ => by cases h; exact .bl b
  | .int i, _, h, _ => by cases h; exact .int i
  | .str s, _, h, _ => by cases h; exact .str _
  | .lst l, _, h, p => by
    cases h with
    | lst _ a vs h1 h2 h3 h4 => exact .lst (SqL.of h2) (RVs.dp' l vs h4 p)
  | .tup l, _, h, p => by
    cases h with
    | tup _ a vs h1 h2 h3 h4 => exact .tup (SqT.of h2) (RVs.dp' l vs h4 p)
  | .wtup l, _, h, p => by
    cases h with
    | tupK _ a vs h1 h2 => exact .tup (.inr h1) (RVs.dp' l vs h2 p)
  | .scr l, _, h, _ => by
    cases h with
    | scr _ a o h0 h1 h2 => exact .lst (.inl (.inr ⟨o, h2⟩)) (dpAll_ints l)
    | scr1 _ a h0 h1 h2 => exact .lst (SqL.of h2) (dpAll_ints l)
    | scrK _ a h0 h1 => exact .lst (.inr h1) (dpAll_ints l)
theorem RVs.dp' : ∀ (ts : List T) (vs : List V), RVs K Z H ts vs → T.plains ts = true → DpAll K H vs (T.pds ts)
  | [], _, h, _ => by cases h; exact .nil
  | t :: ts, _, h, p => by
    cases h with
    | cons _ v _ vs h1 h2 =>
      rw [T.plains, Bool.and_eq_true] at p
      exact .cons (RV.dp' t v h1 p.1) (RVs.dp' ts vs h2 p.2)
end
theorem RV.dp {t : T} {v : V} (h : RV K Z H t v) (p : t.plain = true) : Dp K H v t.pd := RV.dp' t v h p
end
/-- Python's == -/
def T.eqv (t u : T) : Bool := PyData.eqv t.pd u.pd
/-- nested at most so deep -/
def T.low (t : T) : Bool := decide (t.pd.depth ≤ 40)
@[simp] theorem eqv_int (i j : Int) : T.eqv (.int i) (.int j) = decide (i = j) := by
  show (i == j) = _
  by_cases h : i = j <;> simp [h]
theorem sv_beq (a b : Tx) : (sv a == sv b) = decide (a = b) := by
  by_cases h : a = b
  · subst h; simp
  · have : sv a ≠ sv b := fun e => h (sv_inj e)
    simp [h, this]
@[simp] theorem eqv_str (i j : Tx) : T.eqv (.str i) (.str j) = decide (i = j) := sv_beq i j
@[simp] theorem eqv_bl (i j : Bool) : T.eqv (.bl i) (.bl j) = decide (i = j) := by
  show (i == j) = _
  by_cases h : i = j <;> simp [h]
@[simp] theorem eqv_non : T.eqv .non .non = true := rfl
def T.eqvs : List T → List T → Bool
  | [], [] => true
  | x :: r, y :: s => T.eqv x y && T.eqvs r s
  | _, _ => false
theorem eqvs_eq : ∀ l m : List T, T.eqvs l m = PyData.eqvAll (T.pds l) (T.pds m)
  | [], [] => rfl
  | [], _ :: _ => rfl
  | _ :: _, [] => rfl
  | x :: r, y :: s => by rw [T.eqvs, eqvs_eq r s]; rfl
@[simp] theorem eqv_lst (l m : List T) : T.eqv (.lst l) (.lst m) = T.eqvs l m := (eqvs_eq l m).symm
@[simp] theorem eqv_tup (l m : List T) : T.eqv (.tup l) (.tup m) = T.eqvs l m := (eqvs_eq l m).symm
/-- lists of things whose == is their equality -/
theorem eqvs_map {α : Type} [DecidableEq α] (g : α → T) (hg : ∀ x y, T.eqv (g x) (g y) = decide (x = y)) : ∀ l m : List α, T.eqvs (l.map g) (m.map g) = decide (l = m)
  | [], [] => by simp [T.eqvs]
  | [], _ :: _ => by simp [T.eqvs]
  | _ :: _, [] => by simp [T.eqvs]
  | x :: r, y :: s => by
    rw [List.map_cons, List.map_cons, T.eqvs, hg, eqvs_map g hg r s]
    by_cases h1 : x = y <;> by_cases h2 : r = s <;> simp [h1, h2]
@[simp] theorem eqvs_str (l m : List Tx) : T.eqvs (l.map T.str) (m.map T.str) = decide (l = m) := eqvs_map T.str eqv_str l m
@[simp] theorem eqvs_int (l m : List Int) : T.eqvs (l.map T.int) (m.map T.int) = decide (l = m) := eqvs_map T.int eqv_int l m

/-! ### operators on trees -/
def lT2 (h : T → T → Option T) : F2 := fun a b _ S => match a, b with
  | .t x, .t y => (h x y).map fun z => (.t z, S)
  | _, _ => none
def lT1 (h : T → Option T) : F1 := fun a _ S => match a with
  | .t x => (h x).map fun z => (.t z, S)
  | _ => none
def lTL (h : List T → Option T) : FL := fun ds _ S => match trees ds with
  | some ts => (h ts).map fun z => (.t z, S)
  | none => none
@[simp] theorem lT2_t (h : T → T → Option T) (x y : T) (P S : List O) : lT2 h (.t x) (.t y) P S = (h x y).map fun z => (.t z, S) := rfl
@[simp] theorem lT1_t (h : T → Option T) (x : T) (P S : List O) : lT1 h (.t x) P S = (h x).map fun z => (.t z, S) := rfl
section
variable {X : Cx}
/-- an operator of trees, from what it does to their values -/
theorem opM_of {f : Value → Value → Sem Value} {h : T → T → Option T}
    (rule : ∀ (pins : List (Addr × Obj)) (s : Shared) (σ : L2.St) (H : Hp) (x y : V) (v u : Value) (Q : VK) (Z : Addr → Prop) (a b z : T), Inv X pins σ H s → RelV x v → RelV y u → RV X.K Z H a x → RV X.K Z H b y → h a b = some z →
      (∀ w, RV X.K Z H z w → Q w H) → (∀ p o, H p = none → (RV X.K (fun c => Z c ∨ c = p) (upd H p o) z (.ref p) → Q (.ref p) (upd H p o))) →
      (∀ {p : Addr} {o : HO} {t : T} {w : V}, H p = none → RV X.K Z H t w → RV X.K (fun c => Z c ∨ c = p) (upd H p o) t w) →
      wpAny (model X.prog X.w) X.A (f v u) (EP X pins σ Q) X.xe s) : OpM X f (lT2 h) := by
  refine ⟨fun pins s σ H x y v u Q I rx ry hh => ?_⟩
  obtain ⟨c, P, S, a, b, hS, ra, rb, q⟩ := hh
  cases a with
  | ref i => exact q.elim
  | t a =>
    cases b with
    | ref i => exact q.elim
    | t b =>
      rw [lT2_t] at q
      cases e : h a b with
      | none => rw [e] at q; exact q.elim
      | some z =>
        rw [e] at q
        exact rule pins s σ H x y v u Q c.Z a b z I rx ry ra rb e (fun w r => q c w H (Ev.refl hS) hS r) (fun p o hp r => q (c.zed p) _ _ (Ev.alloc hS hp) (Sim.alloc hS hp) r) (fun hp r => RV.up hS hp r)
def addT : T → T → Option T
  | .int i, .int j => some (.int (i + j))
  | .str a, .str b => if a.length + b.length ≤ sizeLine then some (.str (a ++ b)) else none
  | .tup a, .tup b => if a.length + b.length ≤ sizeLine then some (.tup (a ++ b)) else none
  | .lst a, .lst b => if a.length + b.length ≤ sizeLine then some (.lst (a ++ b)) else none
  | _, _ => none
theorem sv_app (a b : Tx) : sv a ++ sv b = sv (a ++ b) := by
  show Str.append (sv a) (sv b) = _
  simp [Str.append, sv]
theorem RVs.app {K : PySem.W.Frag} {Z : Addr → Prop} {H : Hp} : ∀ {a b : List T} {u v : List V}, RVs K Z H a u → RVs K Z H b v → RVs K Z H (a ++ b) (u ++ v)
  | _, _, _, _, .nil, h => h
  | _, _, _, _, .cons t v ts vs h1 h2, h => .cons t v _ _ h1 (RVs.app h2 h)
theorem RVs.upp {K : PySem.W.Frag} {Z Z' : Addr → Prop} {H H' : Hp} (f : ∀ {t : T} {w : V}, RV K Z H t w → RV K Z' H' t w) : ∀ {a : List T} {u : List V}, RVs K Z H a u → RVs K Z' H' a u
  | _, _, .nil => .nil
  | _, _, .cons t v ts vs h1 h2 => .cons t v ts vs (f h1) (RVs.upp f h2)
theorem RV.tupI {K : PySem.W.Frag} {Z : Addr → Prop} {H : Hp} {ts : List T} {v : V} (h : RV K Z H (.tup ts) v) : ∃ a vs, v = .ref a ∧ SqT K H a vs ∧ vs.length ≤ sizeLine ∧ RVs K Z H ts vs := RD.tup (c := ⟨0, fun _ => 0, Z, fun _ => False⟩) h
theorem op_addM : OpM X (binaryOp .Add) (lT2 addT) := by
  refine opM_of fun pins s σ H x y v u Q Z a b z I rx ry ra rb e q q2 up => ?_
  cases a <;> cases b <;> simp only [addT, reduceCtorEq] at e
  · cases ra; cases rb; cases e
    exact op_add pins s σ H _ _ v u Q I rx ry ⟨_, _, rfl, rfl, q _ (.int _)⟩
  · rename_i a b
    split at e
    · rename_i hl
      cases ra; cases rb; cases e
      exact op_add_str pins s σ H _ _ v u Q I rx ry ⟨_, _, rfl, rfl, by rw [sv_len, sv_len]; exact hl, by rw [sv_app]; exact q _ (.str _ (by rw [List.length_append]; exact hl))⟩
    · cases e
  · rename_i a b
    split at e
    · rename_i hl
      cases e
      cases ra with
      | lst _ p vs h1 h2 h3 h4 =>
        cases rb with
        | lst _ p' vs' k1 k2 k3 k4 =>
          have hl' : vs.length + vs'.length ≤ sizeLine := by rw [← h4.len, ← k4.len]; exact hl
          exact op_cat pins s σ H _ _ v u Q I rx ry ⟨p, p', vs, vs', rfl, rfl, h2, k2, hl', fun n hn => q2 n _ hn (.lst _ n _ (.inr rfl) upd_same (by rw [List.length_append]; exact hl') (RVs.upp (fun r => up hn r) (h4.app k4)))⟩
    · cases e
  · rename_i a b
    split at e
    · rename_i hl
      cases e
      have ra' := ra
      have rb' := rb
      obtain ⟨p, vs, rfl, h2, h3, h4⟩ := ra.tupI
      obtain ⟨p', vs', rfl, k2, k3, k4⟩ := rb.tupI
      have hl' : vs.length + vs'.length ≤ sizeLine := by rw [← h4.len, ← k4.len]; exact hl
      refine op_catA pins s σ H _ _ v u Q I rx ry ⟨p, p', vs, vs', rfl, rfl, h2, k2, hl', fun z => ?_, fun _ z => ?_, fun _ _ n hn => q2 n _ hn (.tup _ n _ (.inr rfl) upd_same (by rw [List.length_append]; exact hl') (RVs.upp (fun r => up hn r) (h4.app k4)))⟩
      · subst z
        cases h4
        exact q _ rb'
      · subst z
        cases k4
        rw [List.append_nil] at q
        exact q _ ra'
    · cases e
def subT : T → T → Option T
  | .int i, .int j => some (.int (i - j))
  | _, _ => none
theorem op_subM : OpM X (binaryOp .Sub) (lT2 subT) := by
  refine opM_of fun pins s σ H x y v u Q Z a b z I rx ry ra rb e q q2 up => ?_
  cases a <;> cases b <;> simp only [subT, reduceCtorEq] at e
  cases ra; cases rb; cases e
  exact op_sub pins s σ H _ _ v u Q I rx ry ⟨_, _, rfl, rfl, q _ (.int _)⟩
def mulOk (i j : Int) : Prop := i.natAbs < 2 ^ 60 ∨ j.natAbs < 2 ^ 60 ∨ (i.natAbs < 2 ^ 4000 ∧ j.natAbs < 2 ^ 4000)
open Classical in
noncomputable def mulT : T → T → Option T
  | .int i, .int j => if mulOk i j then some (.int (i * j)) else none
  | .str a, .int k => if (0 ≤ k ∧ k < 2 ^ 62) ∧ a.length * k.toNat ≤ sizeLine then some (.str (List.replicate k.toNat a).flatten) else none
  | .lst a, .int k => if (-(2 ^ 63) ≤ k ∧ k < 2 ^ 63) ∧ a.length * k.toNat ≤ sizeLine then some (.lst (List.replicate k.toNat a).flatten) else none
  | _, _ => none
theorem RVs.rep {K : PySem.W.Frag} {Z : Addr → Prop} {H : Hp} {a : List T} {u : List V} (h : RVs K Z H a u) : ∀ n : Nat, RVs K Z H (List.replicate n a).flatten (List.replicate n u).flatten
  | 0 => .nil
  | n + 1 => by
    rw [List.replicate_succ, List.replicate_succ, List.flatten_cons, List.flatten_cons]
    exact h.app (RVs.rep h n)
theorem flat_len {α : Type} (a : List α) (n : Nat) : (List.replicate n a).flatten.length = a.length * n := by
  induction n with
  | zero => rfl
  | succ n ih => rw [List.replicate_succ, List.flatten_cons, List.length_append, ih, Nat.mul_succ]; omega
theorem rep_cps (a : Tx) (n : Nat) : ∀ acc : Array Nat, (List.replicate n (sv a).cps).foldl (· ++ ·) acc = acc ++ (List.replicate n a).flatten.toArray := by
  induction n with
  | zero => intro acc; simp
  | succ n ih =>
    intro acc
    rw [List.replicate_succ, List.foldl_cons, ih, List.replicate_succ, List.flatten_cons]
    simp [sv]
theorem op_mulM : OpM X (binaryOp .Mult) (lT2 mulT) := by
  refine opM_of fun pins s σ H x y v u Q Z a b z I rx ry ra rb e q q2 up => ?_
  cases a <;> cases b <;> simp only [mulT, reduceCtorEq] at e
  · rename_i i j
    split at e
    · rename_i hk
      cases ra; cases rb; cases e
      by_cases h64 : CMul i j
      · exact op_mul pins s σ H _ _ v u Q I rx ry ⟨_, _, rfl, rfl, h64, q _ (.int _)⟩
      · have hw : i.natAbs < 2 ^ 4000 ∧ j.natAbs < 2 ^ 4000 := by
          rcases hk with hk | hk | hk
          · exact absurd (Or.inl ⟨by omega, by omega⟩) h64
          · exact absurd (Or.inr ⟨by omega, by omega⟩) h64
          · exact hk
        exact op_mulW pins s σ H _ _ v u Q I rx ry ⟨_, _, rfl, rfl, wide_mul hw.1 hw.2 (by decide) (by decide) (by decide), q _ (.int _)⟩
    · cases e
  · rename_i a k
    split at e
    · rename_i hk
      cases ra with
      | str _ hla =>
      cases rb; cases e
      obtain ⟨t, rfl⟩ := rx
      obtain ⟨t', rfl⟩ := ry
      have hn : ((k.toNat : Nat) : Int) = k := by omega
      have hsz := hk.2
      refine PySem.P.mul_str ?_ ?_ ?_ ?_
      · rw [decide_eq_false (by omega), decide_eq_false (by omega)]; rfl
      · intro h1 h2 h3
        rw [sv_len] at h3
        have hk0 : 0 < k := by omega
        have : (a.length : Int) * k ≤ 2 ^ 63 - 1 := by
          have : ((a.length * k.toNat : Nat) : Int) ≤ ((sizeLine : Nat) : Int) := by exact_mod_cast hsz
          rw [Int.natCast_mul, hn, sz24] at this
          omega
        have h4 := (Int.le_ediv_iff_mul_le hk0).mpr this
        omega
      · intro _ _
        rw [sv_len]
        unfold Builtin.Str.tooLong
        exact decide_eq_false (by omega)
      · have hrep : (⟨(List.replicate k.toNat (sv a).cps).foldl (· ++ ·) #[]⟩ : Str) = sv (List.replicate k.toNat a).flatten := by rw [rep_cps]; simp [sv]
        have hfl : (List.replicate k.toNat a).flatten.length ≤ sizeLine := by rw [flat_len]; exact hsz
        have hq := q _ (RV.str (List.replicate k.toNat a).flatten hfl)
        by_cases h1 : k < 1
        · rw [if_pos h1]
          have hz : k.toNat = 0 := by omega
          rw [hz] at hq
          exact ⟨by decide, ⟨.str (sv []), H, I.tok _, ⟨_, rfl⟩, hq⟩⟩
        · rw [if_neg h1]
          by_cases h2 : (k == 1 || (sv a).length == 0) = true
          · rw [if_pos h2]
            have he : (List.replicate k.toNat a).flatten = a := by
              rw [Bool.or_eq_true, beq_iff_eq, beq_iff_eq, sv_len] at h2
              rcases h2 with h2 | h2
              · rw [h2]; simp
              · have : a = [] := List.eq_nil_of_length_eq_zero h2
                rw [this]; simp
            rw [he] at hq
            exact ⟨.str (sv a), H, I, ⟨_, rfl⟩, hq⟩
          · rw [if_neg h2, hrep]
            exact ⟨by rw [sv_len]; exact hfl, ⟨.str _, H, I.tok _, ⟨_, rfl⟩, hq⟩⟩
    · cases e
  · rename_i a k
    split at e
    · rename_i hk
      cases e
      cases rb
      cases ra with
      | lst _ p vs h1 h2 h3 h4 =>
        have hl' : vs.length * k.toNat ≤ sizeLine := by rw [← h4.len]; exact hk.2
        exact op_rep pins s σ H _ _ v u Q I rx ry ⟨p, k, vs, rfl, rfl, h2, hk.1.1, hk.1.2, hl', fun n hn => q2 n _ hn (.lst _ n _ (.inr rfl) upd_same (by rw [flat_len]; exact hl') (RVs.upp (fun r => up hn r) (h4.rep _)))⟩
    · cases e
open Classical in
noncomputable def fdivT : T → T → Option T
  | .int i, .int j => if 0 < j ∧ j.natAbs < 2 ^ 4000 then some (.int (i / j)) else none
  | _, _ => none
theorem op_fdivM : OpM X (binaryOp .FloorDiv) (lT2 fdivT) := by
  refine opM_of fun pins s σ H x y v u Q Z a b z I rx ry ra rb e q q2 up => ?_
  cases a <;> cases b <;> simp only [fdivT, reduceCtorEq] at e
  split at e
  · rename_i hk
    cases ra; cases rb; cases e
    exact op_fdivW pins s σ H _ _ v u Q I rx ry ⟨_, _, rfl, rfl, wide_div hk.1 hk.2 (by decide) (by decide), q _ (.int _)⟩
  · cases e
def modT : T → T → Option T
  | .int i, .int j => if 0 < j then some (.int (i % j)) else none
  | _, _ => none
theorem op_modM : OpM X (binaryOp .Mod) (lT2 modT) := by
  refine opM_of fun pins s σ H x y v u Q Z a b z I rx ry ra rb e q q2 up => ?_
  cases a <;> cases b <;> simp only [modT, reduceCtorEq] at e
  split at e
  · rename_i hk
    cases ra; cases rb; cases e
    exact op_mod pins s σ H _ _ v u Q I rx ry ⟨_, _, rfl, rfl, hk, q _ (.int _)⟩
  · cases e
def powT : T → T → Option T
  | .int i, .int j => if 0 ≤ j ∧ j ≤ 1000000 ∧ i.natAbs < 2 ^ 60 then some (.int (i ^ j.toNat)) else none
  | _, _ => none
theorem op_powM : OpM X (binaryOp .Pow) (lT2 powT) := by
  refine opM_of fun pins s σ H x y v u Q Z a b z I rx ry ra rb e q q2 up => ?_
  cases a <;> cases b <;> simp only [powT, reduceCtorEq] at e
  split at e
  · rename_i hk
    cases ra; cases rb; cases e
    exact op_pow pins s σ H _ _ v u Q I rx ry ⟨_, _, rfl, rfl, ⟨hk.1, hk.2.1, by omega⟩, q _ (.int _)⟩
  · cases e
def negT : T → Option T
  | .int i => some (.int (-i))
  | _ => none
theorem un_negM : UnM X (unaryOp .USub) (lT1 negT) := by
  refine ⟨fun pins s σ H x v Q I rx hh => ?_⟩
  obtain ⟨c, P, S, a, hS, ra, q⟩ := hh
  cases a with
  | ref i => exact q.elim
  | t a =>
    rw [lT1_t] at q
    cases a <;> try exact q.elim
    cases ra
    exact un_neg pins s σ H _ v Q I rx ⟨_, rfl, q c _ H (Ev.refl hS) hS (RV.int _)⟩

/-! comparisons -/
def eqT (t u : T) : Option T := if t.plain && u.plain && t.low then some (.bl (T.eqv t u)) else none
def neT (t u : T) : Option T := if t.plain && u.plain && t.low then some (.bl (!T.eqv t u)) else none
theorem eq_dp (hu : X.A.units + 64 < cLine) {pins : List (Addr × Obj)} {s : Shared} {σ : L2.St} {H : Hp} {Z : Addr → Prop} {t w : T} {x y : V} {v u : Value} (I : Inv X pins σ H s) (rx : RelV x v) (ry : RelV y u) (ra : RV X.K Z H t x) (rb : RV X.K Z H w y)
    (h : (t.plain && w.plain && t.low) = true) : t.pd.plain = true ∧ w.pd.plain = true ∧ X.A.units + min t.pd.depth w.pd.depth < cLine ∧ (∃ as, Reads s.heap v t.pd as) ∧ ∃ bs, Reads s.heap u w.pd bs := by
  rw [Bool.and_eq_true, Bool.and_eq_true] at h
  have hd : t.pd.depth ≤ 40 := of_decide_eq_true h.2
  exact ⟨T.pd_plain _ h.1.1, T.pd_plain _ h.1.2, by omega, Dp.reads I _ _ _ (ra.dp h.1.1) rx, Dp.reads I _ _ _ (rb.dp h.1.2) ry⟩
theorem op_eqM (hu : X.A.units + 64 < cLine) : OpM X (compareOp .Eq) (lT2 eqT) := by
  refine opM_of fun pins s σ H x y v u Q Z a b z I rx ry ra rb e q q2 up => ?_
  unfold eqT at e
  split at e
  · rename_i h
    cases e
    obtain ⟨h1, h2, h3, ⟨as, r1⟩, ⟨bs, r2⟩⟩ := eq_dp hu I rx ry ra rb h
    exact PySem.SeqAt.eq_plain r1 r2 h1 h2 h3 ⟨.bl _, H, I, rfl, q _ (.bl _)⟩
  · cases e
theorem op_neM (hu : X.A.units + 64 < cLine) : OpM X (compareOp .NotEq) (lT2 neT) := by
  refine opM_of fun pins s σ H x y v u Q Z a b z I rx ry ra rb e q q2 up => ?_
  unfold neT at e
  split at e
  · rename_i h
    cases e
    obtain ⟨h1, h2, h3, ⟨as, r1⟩, ⟨bs, r2⟩⟩ := eq_dp hu I rx ry ra rb h
    exact PySem.SeqAt.ne_plain r1 r2 h1 h2 h3 ⟨.bl _, H, I, rfl, q _ (.bl _)⟩
  · cases e
/-- the order of data that are alike -/
def T.lt (t u : T) : Bool := PySem.W.dataLt t.pd u.pd
def alk (t u : T) : Bool := t.plain && u.plain && t.low && PySem.W.alike t.pd u.pd && !(match t with | .non => true | _ => false)
def ltT (t u : T) : Option T := if alk t u then some (.bl (T.lt t u)) else none
def leT (t u : T) : Option T := if alk t u then some (.bl (!T.lt u t)) else none
def gtT (t u : T) : Option T := if alk t u then some (.bl (T.lt u t)) else none
def geT (t u : T) : Option T := if alk t u then some (.bl (!T.lt t u)) else none
end
end Fm

/-! Fm6: comparisons, membership, subscripts, slices, built-in functions and methods. -/
namespace Fm
open PySem PySem.Spec PyProof.Rows L2

section
variable {X : Cx}
/-! ### order -/
theorem alk_dp (hu : X.A.units + 64 < cLine) {pins : List (Addr × Obj)} {s : Shared} {σ : L2.St} {H : Hp} {Z : Addr → Prop} {t w : T} {x y : V} {v u : Value} (I : Inv X pins σ H s) (rx : RelV x v) (ry : RelV y u) (ra : RV X.K Z H t x) (rb : RV X.K Z H w y)
    (h : alk t w = true) : PySem.W.alike t.pd w.pd = true ∧ t.pd ≠ .none ∧ X.A.units + min t.pd.depth w.pd.depth < cLine ∧ (∃ as, Reads s.heap v t.pd as) ∧ ∃ bs, Reads s.heap u w.pd bs := by
  unfold alk at h
  rw [Bool.and_eq_true, Bool.and_eq_true] at h
  obtain ⟨h1, h2, h3, r1, r2⟩ := eq_dp hu I rx ry ra rb h.1.1
  refine ⟨h.1.2, ?_, h3, r1, r2⟩
  intro e
  cases t <;> simp [T.pd, T.plain] at e h
theorem op_ltM (hu : X.A.units + 64 < cLine) : OpM X (compareOp .Lt) (lT2 ltT) := by
  refine opM_of fun pins s σ H x y v u Q Z a b z I rx ry ra rb e q q2 up => ?_
  unfold ltT at e
  split at e
  · rename_i h
    cases e
    obtain ⟨h1, h2, h3, ⟨as, r1⟩, ⟨bs, r2⟩⟩ := alk_dp hu I rx ry ra rb h
    exact PySem.W.lt_data r1 r2 h1 h2 h3 ⟨.bl _, H, I, rfl, q _ (.bl _)⟩
  · cases e
theorem op_leM (hu : X.A.units + 64 < cLine) : OpM X (compareOp .LtE) (lT2 leT) := by
  refine opM_of fun pins s σ H x y v u Q Z a b z I rx ry ra rb e q q2 up => ?_
  unfold leT at e
  split at e
  · rename_i h
    cases e
    obtain ⟨h1, h2, h3, ⟨as, r1⟩, ⟨bs, r2⟩⟩ := alk_dp hu I rx ry ra rb h
    exact PySem.W.le_data r1 r2 h1 h2 h3 ⟨.bl _, H, I, rfl, q _ (.bl _)⟩
  · cases e
theorem op_gtM (hu : X.A.units + 64 < cLine) : OpM X (compareOp .Gt) (lT2 gtT) := by
  refine opM_of fun pins s σ H x y v u Q Z a b z I rx ry ra rb e q q2 up => ?_
  unfold gtT at e
  split at e
  · rename_i h
    cases e
    obtain ⟨h1, h2, h3, ⟨as, r1⟩, ⟨bs, r2⟩⟩ := alk_dp hu I rx ry ra rb h
    exact PySem.W.gt_data r1 r2 h1 h2 h3 ⟨.bl _, H, I, rfl, q _ (.bl _)⟩
  · cases e
theorem op_geM (hu : X.A.units + 64 < cLine) : OpM X (compareOp .GtE) (lT2 geT) := by
  refine opM_of fun pins s σ H x y v u Q Z a b z I rx ry ra rb e q q2 up => ?_
  unfold geT at e
  split at e
  · rename_i h
    cases e
    obtain ⟨h1, h2, h3, ⟨as, r1⟩, ⟨bs, r2⟩⟩ := alk_dp hu I rx ry ra rb h
    exact PySem.W.ge_data r1 r2 h1 h2 h3 ⟨.bl _, H, I, rfl, q _ (.bl _)⟩
  · cases e
end
@[simp] theorem lt_int' (i j : Int) : T.lt (.int i) (.int j) = decide (i < j) := by
  have h := PySem.W.dataLe_int (β := Int) id
  have h2 := congrFun (congrFun h j) i
  rw [PySem.W.dataLe_eq] at h2
  have h3 : (!PySem.W.dataLt (.int i) (.int j)) = decide (j ≤ i) := h2
  show PySem.W.dataLt (.int i) (.int j) = _
  rw [← Bool.not_not (PySem.W.dataLt _ _), h3]
  by_cases h4 : i < j
  · rw [decide_eq_true h4, decide_eq_false (by omega)]; rfl
  · rw [decide_eq_false h4, decide_eq_true (by omega)]; rfl
@[simp] theorem lt_str' (a b : Tx) : T.lt (.str a) (.str b) = decide (a < b) := by
  have h := PySem.W.dataLe_str (β := Str) id
  have h2 := congrFun (congrFun h (sv b)) (sv a)
  rw [PySem.W.dataLe_eq] at h2
  have h3 : (!PySem.W.dataLt (.str (sv a)) (.str (sv b))) = decide ((sv b).cps.toList ≤ (sv a).cps.toList) := h2
  rw [sv_list, sv_list] at h3
  show PySem.W.dataLt (.str (sv a)) (.str (sv b)) = _
  rw [← Bool.not_not (PySem.W.dataLt _ _), h3]
  by_cases h4 : a < b
  · rw [decide_eq_true h4, decide_eq_false (by simpa using h4)]; rfl
  · rw [decide_eq_false h4, decide_eq_true (by simpa using h4)]; rfl
@[simp] theorem ltT_int (i j : Int) : ltT (.int i) (.int j) = some (.bl (decide (i < j))) := by
  unfold ltT; rw [if_pos (show alk (.int i) (.int j) = true by rfl), lt_int']
@[simp] theorem leT_int (i j : Int) : leT (.int i) (.int j) = some (.bl (decide (i ≤ j))) := by
  unfold leT; rw [if_pos (show alk (.int i) (.int j) = true by rfl), lt_int']
  by_cases h4 : i ≤ j
  · rw [decide_eq_true h4, decide_eq_false (by omega)]; rfl
  · rw [decide_eq_false h4, decide_eq_true (by omega)]; rfl
@[simp] theorem gtT_int (i j : Int) : gtT (.int i) (.int j) = some (.bl (decide (j < i))) := by
  unfold gtT; rw [if_pos (show alk (.int i) (.int j) = true by rfl), lt_int']
@[simp] theorem geT_int (i j : Int) : geT (.int i) (.int j) = some (.bl (decide (j ≤ i))) := by
  unfold geT; rw [if_pos (show alk (.int i) (.int j) = true by rfl), lt_int']
  by_cases h4 : j ≤ i
  · rw [decide_eq_true h4, decide_eq_false (by omega)]; rfl
  · rw [decide_eq_false h4, decide_eq_true (by omega)]; rfl
@[simp] theorem ltT_str (i j : Tx) : ltT (.str i) (.str j) = some (.bl (decide (i < j))) := by
  unfold ltT; rw [if_pos (show alk (.str i) (.str j) = true by rfl), lt_str']
@[simp] theorem eqT_int (i j : Int) : eqT (.int i) (.int j) = some (.bl (decide (i = j))) := by
  unfold eqT; rw [if_pos (show (T.plain (.int i) && T.plain (.int j) && T.low (.int i)) = true by rfl), eqv_int]
@[simp] theorem eqT_str (i j : Tx) : eqT (.str i) (.str j) = some (.bl (decide (i = j))) := by
  unfold eqT; rw [if_pos (show (T.plain (.str i) && T.plain (.str j) && T.low (.str i)) = true by rfl), eqv_str]
@[simp] theorem eqT_bl (i j : Bool) : eqT (.bl i) (.bl j) = some (.bl (decide (i = j))) := by
  unfold eqT; rw [if_pos (show (T.plain (.bl i) && T.plain (.bl j) && T.low (.bl i)) = true by rfl), eqv_bl]
@[simp] theorem neT_int (i j : Int) : neT (.int i) (.int j) = some (.bl (!decide (i = j))) := by
  unfold neT; rw [if_pos (show (T.plain (.int i) && T.plain (.int j) && T.low (.int i)) = true by rfl), eqv_int]
@[simp] theorem neT_str (i j : Tx) : neT (.str i) (.str j) = some (.bl (!decide (i = j))) := by
  unfold neT; rw [if_pos (show (T.plain (.str i) && T.plain (.str j) && T.low (.str i)) = true by rfl), eqv_str]
@[simp] theorem neT_bl (i j : Bool) : neT (.bl i) (.bl j) = some (.bl (!decide (i = j))) := by
  unfold neT; rw [if_pos (show (T.plain (.bl i) && T.plain (.bl j) && T.low (.bl i)) = true by rfl), eqv_bl]

/-! ### in -/
/-- b stands in a from place i on -/
def isSub (b a : Tx) : Bool := (List.range (a.length + 1)).any fun i => decide ((a.drop i).take b.length = b)
theorem subAt_tx (a b : Tx) (i : Nat) (h : i + b.length ≤ a.length) : Builtin.Str.subAt (sv a) (sv b) i = decide ((a.drop i).take b.length = b) := by
  unfold Builtin.Str.subAt
  have e : (sv a).cps.extract i (i + (sv b).length) = ((a.drop i).take b.length).toArray := by
    rw [sv_len]
    simp [sv]
  rw [e]
  by_cases hh : (a.drop i).take b.length = b
  · rw [decide_eq_true hh, hh]; simp [sv]
  · rw [decide_eq_false hh]
    simpa [sv] using hh
theorem occ_tx (a b : Tx) : (!(Builtin.Str.occurrences (sv a) (sv b) 0 (sv a).length 1).isEmpty) = isSub b a := by
  rw [Bool.eq_iff_iff, PySem.StrLaws.found_iff]
  unfold isSub
  rw [List.any_eq_true]
  constructor
  · rintro ⟨i, h1, h2⟩
    rw [sv_len, sv_len] at h1
    exact ⟨i, by rw [List.mem_range]; omega, by rw [← subAt_tx a b i h1]; exact h2⟩
  · rintro ⟨i, h1, h2⟩
    have h3 := of_decide_eq_true h2
    have h4 : i + b.length ≤ a.length := by
      have := congrArg List.length h3
      rw [List.length_take, List.length_drop] at this
      rw [List.mem_range] at h1
      omega
    exact ⟨i, by rw [sv_len, sv_len]; exact h4, by rw [subAt_tx a b i h4]; exact h2⟩
theorem isSub_one (c : Nat) (a : Tx) : isSub [c] a = decide (c ∈ a) := by
  rw [← occ_tx]
  have := PySem.StrLaws.found_one (sv a) c
  rw [sv_list] at this
  exact this
/-- a tree as a key -/
def T.at : T → Option At
  | .int i => some (.int i)
  | .str s => some (.str s)
  | _ => none
def ats : List T → Option (List At)
  | [] => some []
  | x :: r => match x.at, ats r with
    | some a, some l => some (a :: l)
    | _, _ => none
def dicGet {κ : Type} [DecidableEq κ] (l : List (κ × T)) (k : κ) : Option T := (l.find? fun p => decide (p.1 = k)).map (·.2)
def celGet {κ : Type} [DecidableEq κ] (l : List (κ × D)) (k : κ) : Option D := (l.find? fun p => decide (p.1 = k)).map (·.2)
theorem key_dec (a b : At) : decide (a.key = b.key) = decide (a = b) := by
  by_cases h : a = b
  · subst h; simp
  · have : a.key ≠ b.key := fun e => h (At.key_inj e)
    simp [h, this]
theorem keys_dec (a b : List At) : decide (a.map At.key = b.map At.key) = decide (a = b) := by
  by_cases h : a = b
  · subst h; simp
  · have : a.map At.key ≠ b.map At.key := fun e => h ((List.map_inj_right fun _ _ => At.key_inj).mp e)
    simp [h, this]
section
variable {K : PySem.W.Frag} {Z : Addr → Prop} {H : Hp} {c : Cf}
theorem RKs.get : ∀ {l : List (At × T)} {kvs : List (Key × V)} (k : At), RKs K Z H l kvs → match dicGet l k with
    | some t => ∃ v, valV kvs k.key = some v ∧ RV K Z H t v
    | none => valV kvs k.key = none
  | _, _, k, .nil => rfl
  | _, _, k, .cons k' t v ts vs h0 h1 h2 => by
    have ih := RKs.get k h2
    unfold dicGet valV at ih ⊢
    rw [List.find?_cons, List.find?_cons, key_dec]
    by_cases e : k' = k
    · rw [decide_eq_true e]
      exact ⟨v, rfl, h1⟩
    · rw [decide_eq_false e]
      exact ih
theorem RJs.get : ∀ {l : List (List At × T)} {kvs : List (List Key × V)} (k : List At), RJs K Z H l kvs → match dicGet l k with
    | some t => ∃ v, valV kvs (k.map At.key) = some v ∧ RV K Z H t v
    | none => valV kvs (k.map At.key) = none
  | _, _, k, .nil => rfl
  | _, _, k, .cons k' t v ts vs h0 h1 h2 => by
    have ih := RJs.get k h2
    unfold dicGet valV at ih ⊢
    rw [List.find?_cons, List.find?_cons, keys_dec]
    by_cases e : k' = k
    · rw [decide_eq_true e]
      exact ⟨v, rfl, h1⟩
    · rw [decide_eq_false e]
      exact ih
theorem cel_get : ∀ {l : List (At × D)} {kvs : List (Key × V)} (k : At), Paired (fun (p : At × D) (q : Key × V) => (p.1.Fit ∧ q.1 = p.1.key) ∧ RD K c H p.2 q.2) l kvs → match celGet l k with
    | some t => ∃ v, valV kvs k.key = some v ∧ RD K c H t v
    | none => valV kvs k.key = none
  | _, _, k, .nil => rfl
  | (k', t) :: ts, (k2, v) :: vs, k, .cons h1 h2 => by
    have ih := cel_get k h2
    have e2 : k2 = k'.key := h1.1.2
    subst e2
    unfold celGet valV at ih ⊢
    rw [List.find?_cons, List.find?_cons, key_dec]
    by_cases e : k' = k
    · rw [decide_eq_true e]
      exact ⟨v, rfl, h1.2⟩
    · rw [decide_eq_false e]
      exact ih
theorem cet_get : ∀ {l : List (List At × D)} {kvs : List (List Key × V)} (k : List At), Paired (fun (p : List At × D) (q : List Key × V) => ((∀ x ∈ p.1, x.Fit) ∧ q.1 = p.1.map At.key) ∧ RD K c H p.2 q.2) l kvs → match celGet l k with
    | some t => ∃ v, valV kvs (k.map At.key) = some v ∧ RD K c H t v
    | none => valV kvs (k.map At.key) = none
  | _, _, k, .nil => rfl
  | (k', t) :: ts, (k2, v) :: vs, k, .cons h1 h2 => by
    have ih := cet_get k h2
    have e2 : k2 = k'.map At.key := h1.1.2
    subst e2
    unfold celGet valV at ih ⊢
    rw [List.find?_cons, List.find?_cons, keys_dec]
    by_cases e : k' = k
    · rw [decide_eq_true e]
      exact ⟨v, rfl, h1.2⟩
    · rw [decide_eq_false e]
      exact ih
/-- a key's value -/
theorem RV.atom {t : T} {v : V} {k : At} (r : RV K Z H t v) (h : t.at = some k) : v = kV k.key ∧ k.Fit := by
  cases t <;> simp [T.at] at h
  · subst h; cases r; exact ⟨rfl, trivial⟩
  · subst h; cases r with
    | str _ hl => exact ⟨rfl, hl⟩
theorem RVs.atoms : ∀ {ts : List T} {vs : List V} {ks : List At}, RVs K Z H ts vs → ats ts = some ks → vs = (ks.map At.key).map kV ∧ ∀ x ∈ ks, x.Fit
  | _, _, _, .nil, h => by cases h; exact ⟨rfl, fun _ z => nomatch z⟩
  | _, _, _, .cons t v ts vs h1 h2, h => by
    unfold ats at h
    cases q : t.at with
    | none => rw [q] at h; cases h
    | some a =>
      cases q2 : ats ts with
      | none => rw [q, q2] at h; cases h
      | some l =>
        rw [q, q2] at h
        cases h
        obtain ⟨e1, e2⟩ := h1.atom q
        obtain ⟨e3, e4⟩ := RVs.atoms h2 q2
        refine ⟨by rw [e1, e3]; rfl, fun x hx => ?_⟩
        rcases List.mem_cons.mp hx with z | z
        · rw [z]; exact e2
        · exact e4 x z
end
/-- what a dict (a tree or a cell) has for a key; none: no dict, or no key for it -/
def T.tat : T → Option (List At)
  | .tup l => ats l
  | _ => none
theorem T.tat_some {t : T} {ks : List At} (h : t.tat = some ks) : ∃ l, t = .tup l ∧ ats l = some ks := by
  cases t <;> simp [T.tat] at h
  exact ⟨_, rfl, h⟩
def dGet (P S : List O) (d : D) (k : T) : Option (Option D) := match d with
  | .t (.dic l) => k.at.map fun k => (dicGet l k).map .t
  | .t (.dit l) => k.tat.map fun k => (dicGet l k).map .t
  | .ref i => match (P ++ S)[i]? with
    | some (.dic l) => k.at.map fun k => celGet l k
    | some (.dit l) => k.tat.map fun k => celGet l k
    | _ => none
  | _ => none
def GetRel (K : PySem.W.Frag) (c : Cf) (H : Hp) (r : Option D) (o : Option V) : Prop := match r with
  | some e => ∃ v, o = some v ∧ RD K c H e v
  | none => o = none
theorem dGet_ok {K : PySem.W.Frag} {P S : List O} {c : Cf} {H : Hp} {d : D} {k : T} {x y : V} {r : Option D} (hS : Sim K P S c H) (rd : RD K c H d x) (rk : RV K c.Z H k y) (h : dGet P S d k = some r) :
    ∃ a o, x = .ref a ∧ DGet H a y o ∧ GetRel K c H r o := by
  have tupk : ∀ {ks : List At}, k.tat = some ks → ∃ b, y = .ref b ∧ H b = some (.tup ((ks.map At.key).map kV)) := fun {ks} q => by
    obtain ⟨l', rfl, q2⟩ := T.tat_some q
    cases rk with
    | tup _ b vs h1 h2 h3 h4 =>
      obtain ⟨rfl, _⟩ := h4.atoms q2
      exact ⟨b, rfl, h2⟩
  cases d with
  | t d =>
    cases d <;> first | exact nomatch (show (none : Option (Option D)) = some r from h) | skip
    · rename_i l
      simp only [dGet] at h
      cases q : k.at with
      | none => rw [q] at h; cases h
      | some k' =>
        rw [q] at h
        cases h
        obtain ⟨rfl, _⟩ := rk.atom q
        cases rd with
        | dic _ a kvs h1 h2 h3 =>
          have g := h3.get k'
          refine ⟨a, valV kvs k'.key, rfl, .inl ⟨kvs, _, h2, rfl, rfl⟩, ?_⟩
          show GetRel K c H ((dicGet l k').map D.t) _
          cases e : dicGet l k' with
          | none => rw [e] at g; exact g
          | some t => rw [e] at g; exact g
    · rename_i l
      simp only [dGet] at h
      cases q : k.tat with
      | none => rw [q] at h; cases h
      | some k' =>
        rw [q] at h
        cases h
        obtain ⟨b, rfl, hb⟩ := tupk q
        cases rd with
        | dit _ a kvs h1 h2 h3 =>
          have g := h3.get k'
          refine ⟨a, valV kvs (k'.map At.key), rfl, .inr ⟨kvs, _, b, h2, rfl, hb, rfl⟩, ?_⟩
          show GetRel K c H ((dicGet l k').map D.t) _
          cases e : dicGet l k' with
          | none => rw [e] at g; exact g
          | some t => rw [e] at g; exact g
  | ref i =>
    simp only [dGet] at h
    obtain ⟨hi, rfl⟩ := rd
    cases z : (P ++ S)[i]? with
    | none => rw [z] at h; cases h
    | some o =>
      rw [z] at h
      have hro := hS.ro i o z
      cases o <;> first | exact nomatch (show (none : Option (Option D)) = some r from h) | skip
      · rename_i l
        simp only at h
        obtain ⟨kvs, hH, hp⟩ := hro
        cases q : k.at with
        | none => rw [q] at h; cases h
        | some k' =>
          rw [q] at h
          cases h
          obtain ⟨rfl, _⟩ := rk.atom q
          have g := cel_get k' hp
          refine ⟨_, valV kvs k'.key, rfl, .inl ⟨kvs, _, .inl hH, rfl, rfl⟩, ?_⟩
          show GetRel K c H (celGet l k') _
          cases e : celGet l k' with
          | none => rw [e] at g; exact g
          | some t => rw [e] at g; exact g
      · rename_i l
        simp only at h
        obtain ⟨kvs, hH, hp⟩ := hro
        cases q : k.tat with
        | none => rw [q] at h; cases h
        | some k' =>
          rw [q] at h
          cases h
          obtain ⟨b, rfl, hb⟩ := tupk q
          have g := cet_get k' hp
          refine ⟨_, valV kvs (k'.map At.key), rfl, .inr ⟨kvs, _, b, .inl hH, rfl, hb, rfl⟩, ?_⟩
          show GetRel K c H (celGet l k') _
          cases e : celGet l k' with
          | none => rw [e] at g; exact g
          | some t => rw [e] at g; exact g
/-- x in y -/
def inAny (x : T) (l : List T) : Bool := l.any fun y => T.eqv y x
def inG (neg : Bool) : F2 := fun a b P S => match a with
  | .ref _ => none
  | .t x => match b with
    | .t (.str s) => match x with
      | .str u => some (.t (.bl (neg ^^ isSub u s)), S)
      | _ => none
    | .t (.lst l) => if x.plain && T.plains l && x.low then some (.t (.bl (neg ^^ inAny x l)), S) else none
    | .t (.tup l) => if x.plain && T.plains l && x.low then some (.t (.bl (neg ^^ inAny x l)), S) else none
    | .t (.wtup l) => if x.plain && T.plains l && x.low then some (.t (.bl (neg ^^ inAny x l)), S) else none
    | b => (dGet P S b x).map fun r => (.t (.bl (neg ^^ r.isSome)), S)
theorem any_pds (l : List T) (x : T) : ((T.pds l).any fun y => PyData.eqv y x.pd) = inAny x l := by
  rw [pds_eq, List.any_map]; rfl
section
variable {X : Cx} {W : WX} {a b : Expr} {fa fb : ME} {pos : Pos}
theorem reads_list {pins : List (Addr × Obj)} {s : Shared} {σ : L2.St} {H : Hp} {Z : Addr → Prop} {l : List T} {x : V} {u : Value} (I : Inv X pins σ H s) (rx : RelV x u) (r : RV X.K Z H (.lst l) x) (p : T.plains l = true) : ∃ as, Reads s.heap u (.list (T.pds l)) as := Dp.reads I _ _ _ (r.dp p) rx
theorem reads_tup {pins : List (Addr × Obj)} {s : Shared} {σ : L2.St} {H : Hp} {Z : Addr → Prop} {l : List T} {x : V} {u : Value} (I : Inv X pins σ H s) (rx : RelV x u) (r : RV X.K Z H (.tup l) x) (p : T.plains l = true) : ∃ as, Reads s.heap u (.tuple (T.pds l)) as := Dp.reads I _ _ _ (r.dp p) rx
theorem reads_wtup {pins : List (Addr × Obj)} {s : Shared} {σ : L2.St} {H : Hp} {Z : Addr → Prop} {l : List T} {x : V} {u : Value} (I : Inv X pins σ H s) (rx : RelV x u) (r : RV X.K Z H (.wtup l) x) (p : T.plains l = true) : ∃ as, Reads s.heap u (.tuple (T.pds l)) as := Dp.reads I _ _ _ (r.dp p) rx
theorem op_inM (neg : Bool) (hu : X.A.units + 65 < cLine) : OpM X (compareOp (if neg then .NotIn else .In)) (inG neg) := by
  refine ⟨fun pins s σ H x y v u Q I rx ry hh => ?_⟩
  obtain ⟨c, P, S, a, b, hS, ra, rb, q⟩ := hh
  have done : ∀ {k : Bool} {s' : Shared}, Inv X pins σ H s' → Post0 X.K P c H (RD X.K) (some (.t (.bl k), S)) Q → EP X pins σ Q (.bool k) s' := fun {k s'} I' q => ⟨.bl k, H, I', rfl, q c _ H (Ev.refl hS) hS (RV.bl k)⟩
  unfold inG at q
  cases a with
  | ref i => exact q.elim
  | t x' =>
    simp only at q
    have dict : Post0 X.K P c H (RD X.K) ((dGet P S b x').map fun r => (D.t (.bl (neg ^^ r.isSome)), S)) Q → wpAny (model X.prog X.w) X.A (compareOp (if neg then .NotIn else .In) v u) (EP X pins σ Q) X.xe s := fun q => by
      cases e : dGet P S b x' with
      | none => rw [e] at q; exact q.elim
      | some r =>
        rw [e] at q
        obtain ⟨a, o, rfl, g, hr⟩ := dGet_ok hS rb ra e
        have ho : o.isSome = r.isSome := by
          cases r with
          | none => rw [show o = none from hr]; rfl
          | some e' => obtain ⟨v', h, _⟩ := hr; rw [h]; rfl
        cases ry
        cases neg with
        | false => exact d_in (by omega) I g rx fun s' I' => by rw [ho]; have := done I' q; simpa using this
        | true => exact d_notIn (by omega) I g rx fun s' I' => by rw [ho]; have := done I' q; simpa using this
    cases b with
    | ref i => exact dict q
    | t b =>
      cases b <;> try exact dict q
      · rename_i s'
        cases x' <;> try exact q.elim
        rename_i u'
        cases ra; cases rb
        obtain ⟨t1, rfl⟩ := rx
        obtain ⟨t2, rfl⟩ := ry
        cases neg with
        | false => exact PyProof.Rows.in_str (by rw [occ_tx]; have := done I q; simpa using this)
        | true => exact PyProof.Rows.notIn_str (by rw [occ_tx]; have := done I q; simpa using this)
      · rename_i l
        simp only at q
        by_cases h : (x'.plain && T.plains l && x'.low) = true
        · rw [if_pos h] at q
          rw [Bool.and_eq_true, Bool.and_eq_true] at h
          have hd : x'.pd.depth ≤ 40 := of_decide_eq_true h.2
          obtain ⟨as, r1⟩ := reads_list I ry rb h.1.2
          obtain ⟨bs, r2⟩ := Dp.reads I _ _ _ (RV.dp ra h.1.1) rx
          cases neg with
          | false => exact PySem.SeqAt.in_list_data r1 r2 (T.pds_plain _ h.1.2) (T.pd_plain _ h.1.1) (by omega) (by rw [any_pds]; have := done I q; simpa using this)
          | true => exact PySem.SeqAt.notIn_list_data r1 r2 (T.pds_plain _ h.1.2) (T.pd_plain _ h.1.1) (by omega) (by rw [any_pds]; have := done I q; simpa using this)
        · rw [if_neg h] at q; exact q.elim
      · rename_i l
        simp only at q
        by_cases h : (x'.plain && T.plains l && x'.low) = true
        · rw [if_pos h] at q
          rw [Bool.and_eq_true, Bool.and_eq_true] at h
          have hd : x'.pd.depth ≤ 40 := of_decide_eq_true h.2
          obtain ⟨as, r1⟩ := reads_tup I ry rb h.1.2
          obtain ⟨bs, r2⟩ := Dp.reads I _ _ _ (RV.dp ra h.1.1) rx
          cases neg with
          | false => exact PySem.SeqAt.in_tuple_data r1 r2 (T.pds_plain _ h.1.2) (T.pd_plain _ h.1.1) (by omega) (by rw [any_pds]; have := done I q; simpa using this)
          | true => exact PySem.SeqAt.notIn_tuple_data r1 r2 (T.pds_plain _ h.1.2) (T.pd_plain _ h.1.1) (by omega) (by rw [any_pds]; have := done I q; simpa using this)
        · rw [if_neg h] at q; exact q.elim
      · rename_i l
        simp only at q
        by_cases h : (x'.plain && T.plains l && x'.low) = true
        · rw [if_pos h] at q
          rw [Bool.and_eq_true, Bool.and_eq_true] at h
          have hd : x'.pd.depth ≤ 40 := of_decide_eq_true h.2
          obtain ⟨as, r1⟩ := reads_wtup I ry rb h.1.2
          obtain ⟨bs, r2⟩ := Dp.reads I _ _ _ (RV.dp ra h.1.1) rx
          cases neg with
          | false => exact PySem.SeqAt.in_tuple_data r1 r2 (T.pds_plain _ h.1.2) (T.pd_plain _ h.1.1) (by omega) (by rw [any_pds]; have := done I q; simpa using this)
          | true => exact PySem.SeqAt.notIn_tuple_data r1 r2 (T.pds_plain _ h.1.2) (T.pd_plain _ h.1.1) (by omega) (by rw [any_pds]; have := done I q; simpa using this)
        · rw [if_neg h] at q; exact q.elim
/-- is None -/
def D.isNon : D → Bool
  | .t .non => true
  | _ => false
def isNoneG (neg : Bool) : F2 := fun a b _ S => match b with
  | .t .non => some (.t (.bl (neg ^^ a.isNon)), S)
  | _ => none
theorem non_dec {K : PySem.W.Frag} {c : Cf} {H : Hp} {a : D} {x : V} (r : RD K c H a x) : decide (x = V.non) = a.isNon := by
  cases a with
  | ref i => obtain ⟨_, rfl⟩ := r; rfl
  | t a => cases a <;> cases r <;> rfl
theorem op_isM (neg : Bool) : OpM X (compareOp (if neg then .IsNot else .Is)) (isNoneG neg) := by
  refine ⟨fun pins s σ H x y v u Q I rx ry hh => ?_⟩
  obtain ⟨c, P, S, a, b, hS, ra, rb, q⟩ := hh
  unfold isNoneG at q
  cases b with
  | ref i => exact q.elim
  | t b =>
    cases b <;> try exact q.elim
    cases rb
    have hq := q c (.bl (neg ^^ a.isNon)) H (Ev.refl hS) hS (RV.bl _)
    rw [← non_dec ra] at hq
    cases neg with
    | false => exact op_isN pins s σ H _ _ v u Q I rx ry ⟨rfl, by simpa using hq⟩
    | true => exact op_notN pins s σ H _ _ v u Q I rx ry ⟨rfl, by simpa using hq⟩

/-! ### subscripts -/
/-- the item at an index of a sequence -/
def seqIx (P S : List O) (d : D) (i : Int) : Option D := match d with
  | .t (.lst l) => (atI l i).map .t
  | .t (.tup l) => (atI l i).map .t
  | .t (.scr l) => (atI l i).map fun k => .t (.int k)
  | .t (.str s) => (atI s i).map fun c => .t (.str [c])
  | .ref j => match (P ++ S)[j]? with
    | some (.lst l) => atI l i
    | _ => none
  | _ => none
def subG : F2 := fun a b P S => match b with
  | .ref _ => none
  | .t k => match (match k with | .int i => seqIx P S a i | _ => none) with
    | some e => some (e, S)
    | none => match dGet P S a k with
      | some (some e) => some (e, S)
      | _ => none
theorem RVs.ix {K : PySem.W.Frag} {Z : Addr → Prop} {H : Hp} {ts : List T} {vs : List V} {i : Int} {t : T} (r : RVs K Z H ts vs) (h : atI ts i = some t) : ∃ v, atI vs i = some v ∧ RV K Z H t v := by
  unfold atI at h ⊢
  rw [← r.len]
  cases q : ixN ts.length i with
  | none => rw [q] at h; cases h
  | some j => rw [q] at h; exact r.at h
theorem RDs.ix {K : PySem.W.Frag} {c : Cf} {H : Hp} {ts : List D} {vs : List V} {i : Int} {t : D} (r : RDs K c H ts vs) (h : atI ts i = some t) : ∃ v, atI vs i = some v ∧ RD K c H t v := by
  unfold atI at h ⊢
  rw [← r.len]
  cases q : ixN ts.length i with
  | none => rw [q] at h; cases h
  | some j => rw [q] at h; exact r.at h
theorem atI_map {α β : Type} (g : α → β) (l : List α) (i : Int) : atI (l.map g) i = (atI l i).map g := by
  unfold atI
  rw [List.length_map]
  cases ixN l.length i with
  | none => rfl
  | some j => simp
theorem seqIx_ok {K : PySem.W.Frag} {P S : List O} {c : Cf} {H : Hp} {d e : D} {x : V} {i : Int} (hS : Sim K P S c H) (rd : RD K c H d x) (h : seqIx P S d i = some e) :
    ∃ v, RD K c H e v ∧ ∀ Q : VK, Q v H → rIx K x (.int i) H Q := by
  cases d with
  | ref j =>
    simp only [seqIx] at h
    obtain ⟨hi, rfl⟩ := rd
    cases z : (P ++ S)[j]? with
    | none => rw [z] at h; cases h
    | some o =>
      rw [z] at h
      cases o <;> try exact nomatch (show (none : Option D) = some e from h)
      obtain ⟨vs, hH, hl, rs⟩ := hS.ro j _ z
      obtain ⟨v, h1, h2⟩ := rs.ix h
      exact ⟨v, h2, fun Q q => .inl ⟨_, vs, i, v, rfl, rfl, SqL.of hH, h1, q⟩⟩
  | t d =>
    cases d <;> try exact nomatch (show (none : Option D) = some e from h)
    · rename_i s
      simp only [seqIx] at h
      cases q : atI s i with
      | none => rw [q] at h; cases h
      | some ch =>
        rw [q] at h
        cases h
        cases rd with
        | str _ hl => exact ⟨.str (sv [ch]), RV.str [ch] (by show 1 ≤ sizeLine; decide), fun Q k => .inr (.inr ⟨_, i, ch, rfl, rfl, by rw [sv_len]; exact hl, by rw [sv_list]; exact q, k⟩)⟩
    · rename_i l
      simp only [seqIx] at h
      cases q : atI l i with
      | none => rw [q] at h; cases h
      | some t =>
        rw [q] at h
        cases h
        cases rd with
        | lst _ a vs h1 h2 h3 h4 =>
          obtain ⟨v, g1, g2⟩ := h4.ix q
          exact ⟨v, g2, fun Q k => .inl ⟨a, vs, i, v, rfl, rfl, SqL.of h2, g1, k⟩⟩
    · rename_i l
      simp only [seqIx] at h
      cases q : atI l i with
      | none => rw [q] at h; cases h
      | some t =>
        rw [q] at h
        cases h
        obtain ⟨a, vs, rfl, h2, h3, h4⟩ := rd.tup
        obtain ⟨v, g1, g2⟩ := h4.ix q
        exact ⟨v, g2, fun Q k => .inr (.inl ⟨a, vs, i, v, rfl, rfl, h2, g1, k⟩)⟩
    · rename_i l
      simp only [seqIx] at h
      cases q : atI l i with
      | none => rw [q] at h; cases h
      | some t =>
        rw [q] at h
        cases h
        obtain ⟨a, rfl, _, h2, h3⟩ := rd.scrE
        exact ⟨.int t, RV.int t, fun Q k => .inl ⟨a, _, i, _, rfl, rfl, h2, by rw [atI_map, q]; rfl, k⟩⟩
theorem ix_M (hu : X.A.units + 1 < cLine) {i : Expr} {o : Expr} (hs : PlainIx i) (hn : NoSl i) (ho : PM X W o fa) (hi : PM X W i fb) : PM X W (.Subscript o i pos) (mOp2 subG fa fb) := by
  refine ⟨⟨fun pins s σ H Q I h => ?_⟩⟩
  have h0 := h
  obtain ⟨c, P, ρ, S, hE, hS, h⟩ := h
  unfold mOp2 at h
  cases qa : fa P ρ S with
  | ex x S1 =>
    rw [qa] at h
    exact (pe_ix (r := fun _ _ _ _ => False) (fun _ _ _ _ _ _ _ _ _ _ _ _ _ _ z => z.elim) ho.run hi.run hs).run pins s σ H Q I ⟨c, P, ρ, S, hE, hS, by rw [qa]; exact h⟩
  | no => rw [qa] at h; exact h.elim
  | ok d S1 =>
    rw [qa] at h
    simp only [R.bind_ok] at h
    cases qb : fb P ρ S1 with
    | ex x S2 =>
      rw [qb] at h
      refine (pe_ix (r := fun _ _ _ _ => False) (fun _ _ _ _ _ _ _ _ _ _ _ _ _ _ z => z.elim) ho.run hi.run hs).run pins s σ H Q I ⟨c, P, ρ, S, hE, hS, ?_⟩
      rw [qa]
      exact fun c1 v H1 e1 s1 r1 => ⟨c1, P, ρ, S1, hE.mono e1, s1, by rw [qb]; exact Post.ev hS.pl e1 h⟩
    | no => rw [qb] at h; exact h.elim
    | ok k S2 =>
      rw [qb] at h
      simp only [R.bind_ok] at h
      have seq : (∃ i e, k = .t (.int i) ∧ seqIx P S2 d i = some e) → wpAny (model X.prog X.w) X.A (eval (.Subscript o i pos) X.env) (EP X pins σ Q) X.xe s := fun ⟨iv, e, hk, he⟩ => by
        subst hk
        refine (pe_ix ix_seq ho.run hi.run hs).run pins s σ H Q I ⟨c, P, ρ, S, hE, hS, ?_⟩
        rw [qa]
        refine fun c1 v H1 e1 s1 r1 => ⟨c1, P, ρ, S1, hE.mono e1, s1, ?_⟩
        rw [qb]
        intro c2 v2 H2 e2 s2 r2
        cases r2
        obtain ⟨w, g1, g2⟩ := seqIx_ok s2 (r1.mono e2) he
        have h2 : Post X.K P c H (RD X.K) (lift (some (e, S2))) W Q := by
          have hh : subG d (.t (.int iv)) P S2 = some (e, S2) := by unfold subG; simp only [he]
          rw [hh] at h; exact h
        exact g2 _ (h2 c2 w H2 (e1.trans hS.pl e2) s2 g1)
      cases k with
      | ref j => exact h.elim
      | t k =>
        have dic : subG d (.t k) P S2 = (match dGet P S2 d k with | some (some e) => some (e, S2) | _ => none) → wpAny (model X.prog X.w) X.A (eval (.Subscript o i pos) X.env) (EP X pins σ Q) X.xe s := fun hh => by
          rw [hh] at h
          cases z : dGet P S2 d k with
          | none => rw [z] at h; exact h.elim
          | some r =>
            cases r with
            | none => rw [z] at h; exact h.elim
            | some e =>
              rw [z] at h
              refine (pe_dget hu ho.run hi.run hn).run pins s σ H Q I ⟨c, P, ρ, S, hE, hS, ?_⟩
              rw [qa]
              refine fun c1 v H1 e1 s1 r1 => ⟨c1, P, ρ, S1, hE.mono e1, s1, ?_⟩
              rw [qb]
              intro c2 v2 H2 e2 s2 r2
              obtain ⟨a, ov, ex, g, gr⟩ := dGet_ok s2 (r1.mono e2) r2 z
              obtain ⟨w, hw, rw'⟩ := gr
              rw [hw] at g
              exact ⟨a, w, ex, g, h c2 w H2 (e1.trans hS.pl e2) s2 rw'⟩
        cases k with
        | int iv =>
          cases z : seqIx P S2 d iv with
          | some e => exact seq ⟨iv, e, rfl, z⟩
          | none => exact dic (by unfold subG; simp only [z])
        | _ => exact dic rfl
end

/-! ### slices -/
abbrev FS := D → Option Int → Option Int → List O → List O → R0 D
def cutL {α : Type} (l : List α) (lo hi : Option Int) : List α := (l.drop (HT.sIx l.length 0 lo)).take (HT.sIx l.length l.length hi - HT.sIx l.length 0 lo)
def mPart (f : Option ME) : List O → En → List O → R (Option Int) := match f with
  | none => fun _ _ S => .ok none S
  | some f => fun P ρ S => (f P ρ S).bind fun d S1 => match d with
    | .t (.int i) => .ok (some i) S1
    | _ => .no
def mSl (fo : ME) (fl fh : Option ME) : ME := fun P ρ S => (fo P ρ S).bind fun d S1 => (mPart fl P ρ S1).bind fun lo S2 => (mPart fh P ρ S2).bind fun hi S3 => match d with
  | .t (.str s) => .ok (.t (.str (cutL s lo hi))) S3
  | .t (.lst l) => .ok (.t (.lst (cutL l lo hi))) S3
  | .t (.tup l) => .ok (.t (.tup (cutL l lo hi))) S3
  | .t (.scr l) => .ok (.t (.lst ((cutL l lo hi).map .int))) S3
  | _ => .no
end Fm

/-! Fm7: slices, built-in functions, methods. -/
namespace Fm
open PySem PySem.Spec PyProof.Rows L2

section
variable {X : Cx} {W : WX} {e : Expr} {fo : ME} {pos p2 : Pos}
/-- a slice's part -/
structure PMP (X : Cx) (W : WX) (e : Option Expr) (f : Option ME) : Prop where
  run : ∃ t, PO X e t ∧ ∀ (c : Cf) (P : List O) (ρ : En) (S : List O) (σ : L2.St) (H : Hp) (Q : Option Int → Hp → Prop), SimE X.K c H ρ σ → Sim X.K P S c H → Post X.K P c H (fun _ _ a b => a = b) (mPart f P ρ S) W Q → t σ H Q
theorem pmp_none : PMP X W none none := ⟨_, po_none, fun c P ρ S σ H Q hE hS h => h c none H (Ev.refl hS) hS rfl⟩
theorem pmp_some {a : Expr} {f : ME} (h : PM X W a f) : PMP X W (some a) (some f) := by
  refine ⟨_, po_some h.run, fun c P ρ S σ H Q hE hS h => ?_⟩
  refine tM_bind hE hS h fun d v S1 c1 H1 e1 E1 s1 r1 h1 => ?_
  cases d with
  | ref i => exact h1.elim
  | t x =>
    cases x <;> try exact h1.elim
    cases r1
    exact ⟨_, rfl, h1 c1 _ H1 (Ev.refl s1) s1 rfl⟩
theorem cutL_len {α : Type} (l : List α) (lo hi : Option Int) : (cutL l lo hi).length ≤ l.length := by
  unfold cutL
  rw [List.length_take, List.length_drop]
  omega
theorem RVs.cut {K : PySem.W.Frag} {Z : Addr → Prop} {H : Hp} : ∀ {a : List T} {u : List V} (m n : Nat), RVs K Z H a u → RVs K Z H ((a.drop m).take n) ((u.drop m).take n)
  | _, _, m, n, .nil => by simp; exact .nil
  | _, _, 0, 0, .cons t v ts vs h1 h2 => .nil
  | _, _, 0, n + 1, .cons t v ts vs h1 h2 => .cons t v _ _ h1 (by have := RVs.cut 0 n h2; simpa using this)
  | _, _, m + 1, n, .cons t v ts vs h1 h2 => RVs.cut m n h2
theorem RVs.cutL {K : PySem.W.Frag} {Z : Addr → Prop} {H : Hp} {a : List T} {u : List V} (lo hi : Option Int) (h : RVs K Z H a u) : RVs K Z H (Fm.cutL a lo hi) (cutV u lo hi) := by
  unfold Fm.cutL cutV
  rw [h.len]
  exact h.cut _ _
theorem cutS_sv (s : Tx) (lo hi : Option Int) : cutS (sv s) lo hi = sv (cutL s lo hi) := by
  unfold cutS cutL
  rw [sv_len, sv_list]
  rfl
theorem cutV_int (l : List Int) (lo hi : Option Int) : cutV (l.map V.int) lo hi = (cutL l lo hi).map V.int := by
  unfold cutV cutL
  simp
theorem RVs.ints {K : PySem.W.Frag} {Z : Addr → Prop} {H : Hp} : ∀ l : List Int, RVs K Z H (l.map T.int) (l.map V.int)
  | [] => .nil
  | x :: l => .cons _ _ _ _ (.int x) (RVs.ints l)
theorem pm_sl {fl fh : Option ME} {lo hi : Option Expr} (ho : PM X W e fo) (hl : PMP X W lo fl) (hh : PMP X W hi fh) : PM X W (.Subscript e (.Slice lo hi none p2) pos) (mSl fo fl fh) := by
  obtain ⟨tl, pl, kl⟩ := hl.run
  obtain ⟨th, ph, kh⟩ := hh.run
  refine ⟨pe_weak (pe_slice (sl_str.or (sl_list.or sl_tupA)) ho.run pl ph) fun σ H Q h => ?_⟩
  obtain ⟨c, P, ρ, S, hE, hS, h⟩ := h
  refine tM_bind hE hS h fun d v S1 c1 H1 e1 E1 s1 r1 h1 => ?_
  refine kl c1 P ρ S1 σ H1 _ E1 s1 ?_
  generalize mPart fl P ρ S1 = rl at h1
  cases rl with
  | ex x S' => exact h1
  | no => exact h1
  | ok l S2 =>
    intro c2 l' H2 e2 s2 rl
    cases (show l = l' from rl)
    have h2 := Post.ev s1.pl e2 h1
    refine kh c2 P ρ S2 σ H2 _ (E1.mono e2) s2 ?_
    simp only [R.bind_ok] at h2
    generalize mPart fh P ρ S2 = rh at h2
    cases rh with
    | ex x S' => exact h2
    | no => exact h2
    | ok u S3 =>
      intro c3 u' H3 e3 s3 ru
      cases (show u = u' from ru)
      have h3 := Post.ev s2.pl e3 h2
      have r3 := (r1.mono e2).mono e3
      simp only [R.bind_ok] at h3
      cases d with
      | ref i => exact h3.elim
      | t x =>
        cases x <;> try exact h3.elim
        · cases r3 with
          | str s hl => exact .inl ⟨_, rfl, by rw [sv_len]; exact hl, by rw [cutS_sv]; exact h3 c3 _ H3 (Ev.refl s3) s3 (RV.str _ (Nat.le_trans (cutL_len _ _ _) hl))⟩
        · cases r3 with
          | lst _ a vs g1 g2 g3 g4 => exact .inr (.inl ⟨a, vs, rfl, SqL.of g2, fun p hp => h3 (c3.zed p) _ _ (Ev.alloc s3 hp) (Sim.alloc s3 hp) (RV.lst _ p _ (.inr rfl) upd_same (Nat.le_trans (cutV_length _ _ _) g3) ((g4.cutL l u).up s3 hp))⟩)
        · have r4 := r3
          obtain ⟨a, vs, rfl, g2, g3, g4⟩ := r3.tup
          refine .inr (.inr ⟨a, vs, rfl, g2, fun z => ?_, fun z p hp => h3 (c3.zed p) _ _ (Ev.alloc s3 hp) (Sim.alloc s3 hp) (RV.tup _ p _ (.inr rfl) upd_same (Nat.le_trans (cutV_length _ _ _) g3) ((g4.cutL l u).up s3 hp))⟩)
          refine h3 c3 _ H3 (Ev.refl s3) s3 ?_
          have : ∀ (x : List T), x.length = vs.length → cutL x l u = x := fun x hx => by
            unfold cutL
            rw [hx, z.1, z.2, ← hx]
            simp
          rw [this _ g4.len]
          exact r4
        · obtain ⟨a, rfl, _, g2, g3⟩ := r3.scrE
          refine .inr (.inl ⟨a, _, rfl, g2, fun p hp => ?_⟩)
          rw [cutV_int]
          exact h3 (c3.zed p) _ _ (Ev.alloc s3 hp) (Sim.alloc s3 hp) (RV.lst _ p _ (.inr rfl) upd_same (by rw [List.length_map]; exact Nat.le_trans (cutL_len _ _ _) g3) (RVs.ints _))
end

/-! ### built-in functions of trees -/
@[simp] theorem lTL_map (h : List T → Option T) (l : List T) (P S : List O) : lTL h (l.map D.t) P S = (h l).map fun z => (.t z, S) := by
  unfold lTL; rw [trees_map]
section
variable {X : Cx}
theorem callM_of {f : Value} {h : List T → Option T}
    (rule : ∀ (pins : List (Addr × Obj)) (s : Shared) (σ : L2.St) (H : Hp) (xs : List V) (us : List Value) (Q : VK) (Z : Addr → Prop) (ts : List T) (z : T), Inv X pins σ H s → Vals xs us → RVs X.K Z H ts xs → h ts = some z →
      (∀ w, RV X.K Z H z w → Q w H) → (∀ p o, H p = none → (RV X.K (fun c => Z c ∨ c = p) (upd H p o) z (.ref p) → Q (.ref p) (upd H p o))) →
      (∀ {p : Addr} {o : HO} {t : T} {w : V}, H p = none → RV X.K Z H t w → RV X.K (fun c => Z c ∨ c = p) (upd H p o) t w) →
      wpAny (model X.prog X.w) X.A (call f us) (EP X pins σ Q) X.xe s) : CallM X f (lTL h) := by
  refine ⟨fun pins s σ H xs us Q I rx hh => ?_⟩
  obtain ⟨c, P, S, ds, hS, ra, q⟩ := hh
  unfold lTL at q
  cases e : trees ds with
  | none => rw [e] at q; exact q.elim
  | some ts =>
    rw [e] at q
    simp only at q
    cases e2 : h ts with
    | none => rw [e2] at q; exact q.elim
    | some z =>
      rw [e2] at q
      exact rule pins s σ H xs us Q c.Z ts z I rx (ra.trees e) e2 (fun w r => q c w H (Ev.refl hS) hS r) (fun p o hp r => q (c.zed p) _ _ (Ev.alloc hS hp) (Sim.alloc hS hp) r) (fun hp r => RV.up hS hp r)
def lenT : List T → Option T
  | [.str s] => some (.int s.length)
  | [.lst l] => some (.int l.length)
  | [.tup l] => some (.int l.length)
  | [.scr l] => some (.int l.length)
  | _ => none
/-- len: of trees, of cells -/
def lenG : FL := fun ds P S => match ds with
  | [.ref i] => match (P ++ S)[i]? with
    | some (.lst l) => some (.t (.int l.length), S)
    | some (.dic l) => some (.t (.int l.length), S)
    | _ => none
  | [.t (.dic l)] => some (.t (.int l.length), S)
  | ds => lTL lenT ds P S
theorem RVs.one {K : PySem.W.Frag} {Z : Addr → Prop} {H : Hp} {t : T} {vs : List V} (h : RVs K Z H [t] vs) : ∃ v, vs = [v] ∧ RV K Z H t v := by
  cases h with
  | cons _ v _ _ h1 h2 => cases h2; exact ⟨v, rfl, h1⟩
theorem RVs.two {K : PySem.W.Frag} {Z : Addr → Prop} {H : Hp} {t u : T} {vs : List V} (h : RVs K Z H [t, u] vs) : ∃ v w, vs = [v, w] ∧ RV K Z H t v ∧ RV K Z H u w := by
  cases h with
  | cons _ v _ _ h1 h2 =>
    obtain ⟨w, rfl, h3⟩ := RVs.one h2
    exact ⟨v, w, rfl, h1, h3⟩
theorem RDs.one {K : PySem.W.Frag} {c : Cf} {H : Hp} {t : D} {vs : List V} (h : RDs K c H [t] vs) : ∃ v, vs = [v] ∧ RD K c H t v := by
  cases h with
  | cons h1 h2 => cases h2; exact ⟨_, rfl, h1⟩
theorem RDs.two {K : PySem.W.Frag} {c : Cf} {H : Hp} {t u : D} {vs : List V} (h : RDs K c H [t, u] vs) : ∃ v w, vs = [v, w] ∧ RD K c H t v ∧ RD K c H u w := by
  cases h with
  | cons h1 h2 =>
    obtain ⟨w, rfl, h3⟩ := RDs.one h2
    exact ⟨_, w, rfl, h1, h3⟩
theorem RKs.len {K : PySem.W.Frag} {Z : Addr → Prop} {H : Hp} : ∀ {l : List (At × T)} {kvs : List (Key × V)}, RKs K Z H l kvs → l.length = kvs.length
  | _, _, .nil => rfl
  | _, _, .cons _ _ _ _ _ _ _ h => by rw [List.length_cons, List.length_cons, RKs.len h]
theorem call_lenT : CallM X (.builtin "len") (lTL lenT) := by
  refine callM_of fun pins s σ H xs us Q Z ts z I rx ra e q q2 up => ?_
  unfold lenT at e
  split at e
  · cases e
    obtain ⟨v, rfl, r⟩ := ra.one
    cases r with
    | str _ hl => exact call_len_str pins s σ H _ us Q I rx ⟨_, rfl, by rw [sv_len]; exact hl, by rw [sv_len]; exact q _ (.int _)⟩
  · cases e
    obtain ⟨v, rfl, r⟩ := ra.one
    cases r with
    | lst _ a vs h1 h2 h3 h4 => exact call_len_seq pins s σ H _ us Q I rx ⟨a, vs, rfl, .inl (SqL.of h2), by rw [← h4.len]; exact q _ (.int _)⟩
  · cases e
    obtain ⟨v, rfl, r⟩ := ra.one
    obtain ⟨a, vs, rfl, h2, h3, h4⟩ := r.tupI
    exact call_len_seq pins s σ H _ us Q I rx ⟨a, vs, rfl, .inr h2, by rw [← h4.len]; exact q _ (.int _)⟩
  · cases e
    rename_i l
    obtain ⟨v, rfl, r⟩ := ra.one
    obtain ⟨a, rfl, _, h2, h3⟩ := RD.scrE (c := ⟨0, fun _ => 0, Z, fun _ => False⟩) r
    exact call_len_seq pins s σ H _ us Q I rx ⟨a, _, rfl, .inl h2, by rw [List.length_map]; exact q _ (.int _)⟩
  · cases e
theorem call_lenM : CallM X (.builtin "len") lenG := by
  refine ⟨fun pins s σ H xs us Q I rx hh => ?_⟩
  have hh0 := hh
  obtain ⟨c, P, S, ds, hS, ra, q⟩ := hh
  unfold lenG at q
  split at q
  · rename_i i
    cases z : (P ++ S)[i]? with
    | none => rw [z] at q; exact q.elim
    | some o =>
      rw [z] at q
      have hro := hS.ro i o z
      obtain ⟨v, rfl, _, rfl⟩ := ra.one
      cases o <;> try exact q.elim
      · obtain ⟨vs, hH, hl, rs⟩ := hro
        exact call_len_seq pins s σ H _ us Q I rx ⟨_, vs, rfl, .inl (SqL.of hH), by rw [← rs.len]; exact q c _ H (Ev.refl hS) hS (RV.int _)⟩
      · obtain ⟨kvs, hH, rs⟩ := hro
        obtain ⟨u, rfl, ru⟩ := vals1 rx
        cases ru
        refine d_len I (.inl hH) fun t s' I' => ⟨.int kvs.length, H, I', ⟨t, rfl⟩, ?_⟩
        rw [← Paired.length rs]
        exact q c _ H (Ev.refl hS) hS (RV.int _)
  · rename_i l
    obtain ⟨v, rfl, r⟩ := ra.one
    cases r with
    | dic _ a kvs h1 h2 h3 =>
      obtain ⟨u, rfl, ru⟩ := vals1 rx
      cases ru
      refine d_len I h2 fun t s' I' => ⟨.int kvs.length, H, I', ⟨t, rfl⟩, ?_⟩
      rw [← h3.len]
      exact q c _ H (Ev.refl hS) hS (RV.int _)
  · exact call_lenT.run pins s σ H xs us Q I rx ⟨c, P, S, _, hS, ra, q⟩
def intT : List T → Option T
  | [.int i] => some (.int i)
  | [.bl b] => some (.int (if b then 1 else 0))
  | _ => none
theorem call_intM : CallM X (.type "int") (lTL intT) := by
  refine callM_of fun pins s σ H xs us Q Z ts z I rx ra e q q2 up => ?_
  unfold intT at e
  split at e
  · cases e
    obtain ⟨v, rfl, r⟩ := ra.one
    cases r
    exact call_int1 pins s σ H _ us Q I rx (.inl ⟨_, rfl, q _ (.int _)⟩)
  · cases e
    obtain ⟨v, rfl, r⟩ := ra.one
    cases r
    exact call_int1 pins s σ H _ us Q I rx (.inr ⟨_, rfl, q _ (.int _)⟩)
  · cases e
def absT : List T → Option T
  | [.int i] => some (.int (if i < 0 then -i else i))
  | _ => none
theorem call_absM : CallM X (.builtin "abs") (lTL absT) := by
  refine callM_of fun pins s σ H xs us Q Z ts z I rx ra e q q2 up => ?_
  unfold absT at e
  split at e
  · cases e
    obtain ⟨v, rfl, r⟩ := ra.one
    cases r
    exact call_abs pins s σ H _ us Q I rx ⟨_, rfl, q _ (.int _)⟩
  · cases e
def max2T : List T → Option T
  | [.int i, .int j] => some (.int (if j > i then j else i))
  | _ => none
def min2T : List T → Option T
  | [.int i, .int j] => some (.int (if j < i then j else i))
  | _ => none
theorem call_max2M (hc : X.calm = true) : CallM X (.builtin "max") (lTL max2T) := by
  refine callM_of fun pins s σ H xs us Q Z ts z I rx ra e q q2 up => ?_
  unfold max2T at e
  split at e
  · cases e
    obtain ⟨v, w, rfl, r, r'⟩ := ra.two
    cases r; cases r'
    exact call_max2 hc pins s σ H _ us Q I rx ⟨_, _, rfl, q _ (.int _)⟩
  · cases e
theorem call_min2M (hc : X.calm = true) : CallM X (.builtin "min") (lTL min2T) := by
  refine callM_of fun pins s σ H xs us Q Z ts z I rx ra e q q2 up => ?_
  unfold min2T at e
  split at e
  · cases e
    obtain ⟨v, w, rfl, r, r'⟩ := ra.two
    cases r; cases r'
    exact call_min2 hc pins s σ H _ us Q I rx ⟨_, _, rfl, q _ (.int _)⟩
  · cases e
/-- the truth values of a list of them -/
def bls : List T → Option (List Bool)
  | [] => some []
  | .bl b :: r => (bls r).map (b :: ·)
  | _ => none
@[simp] theorem bls_map (l : List Bool) : bls (l.map T.bl) = some l := by
  induction l with
  | nil => rfl
  | cons x l ih => rw [List.map_cons, bls, ih]; rfl
@[simp] theorem bls_mapf {α : Type} (g : α → Bool) (l : List α) : bls (l.map fun x => T.bl (g x)) = some (l.map g) := by
  rw [← bls_map (l.map g), List.map_map]; rfl
theorem RVs.bls {K : PySem.W.Frag} {Z : Addr → Prop} {H : Hp} : ∀ {ts : List T} {vs : List V} {bs : List Bool}, RVs K Z H ts vs → Fm.bls ts = some bs → vs = bs.map V.bl
  | _, _, _, .nil, h => by cases h; rfl
  | _, _, _, .cons t v ts vs h1 h2, h => by
    cases t <;> simp [Fm.bls] at h
    obtain ⟨l, h3, rfl⟩ := h
    cases h1
    rw [RVs.bls h2 h3]; rfl
def allT : List T → Option T
  | [.lst l] => (bls l).map fun bs => .bl (bs.all id)
  | _ => none
def anyT : List T → Option T
  | [.lst l] => (bls l).map fun bs => .bl (bs.any id)
  | _ => none
theorem call_allM (hc : X.calm = true) : CallM X (.builtin "all") (lTL allT) := by
  refine callM_of fun pins s σ H xs us Q Z ts z I rx ra e q q2 up => ?_
  unfold allT at e
  split at e
  · rename_i l
    cases eb : bls l with
    | none => rw [eb] at e; cases e
    | some bs =>
      rw [eb] at e
      cases e
      obtain ⟨v, rfl, r⟩ := ra.one
      cases r with
      | lst _ a vs h1 h2 h3 h4 =>
        have := h4.bls eb
        subst this
        exact cr_all hc pins s σ H _ us Q I rx ⟨a, bs, rfl, SqL.of h2, q _ (.bl _)⟩
  · cases e
theorem call_anyM (hc : X.calm = true) : CallM X (.builtin "any") (lTL anyT) := by
  refine callM_of fun pins s σ H xs us Q Z ts z I rx ra e q q2 up => ?_
  unfold anyT at e
  split at e
  · rename_i l
    cases eb : bls l with
    | none => rw [eb] at e; cases e
    | some bs =>
      rw [eb] at e
      cases e
      obtain ⟨v, rfl, r⟩ := ra.one
      cases r with
      | lst _ a vs h1 h2 h3 h4 =>
        have := h4.bls eb
        subst this
        exact cr_any hc pins s σ H _ us Q I rx ⟨a, bs, rfl, SqL.of h2, q _ (.bl _)⟩
  · cases e
def ntsOf : List T → Option (List Int)
  | [] => some []
  | .int b :: r => (ntsOf r).map (b :: ·)
  | _ => none
@[simp] theorem ntsOf_map (l : List Int) : ntsOf (l.map T.int) = some l := by
  induction l with
  | nil => rfl
  | cons x l ih => rw [List.map_cons, ntsOf, ih]; rfl
@[simp] theorem ntsOf_mapf {α : Type} (g : α → Int) (l : List α) : ntsOf (l.map fun x => T.int (g x)) = some (l.map g) := by
  rw [← ntsOf_map (l.map g), List.map_map]; rfl
theorem RVs.intsI {K : PySem.W.Frag} {Z : Addr → Prop} {H : Hp} : ∀ {ts : List T} {vs : List V} {bs : List Int}, RVs K Z H ts vs → Fm.ntsOf ts = some bs → vs = bs.map V.int
  | _, _, _, .nil, h => by cases h; rfl
  | _, _, _, .cons t v ts vs h1 h2, h => by
    cases t <;> simp [Fm.ntsOf] at h
    obtain ⟨l, h3, rfl⟩ := h
    cases h1
    rw [RVs.intsI h2 h3]; rfl
def sumT : List T → Option T
  | [.lst l] => (ntsOf l).map fun bs => .int bs.sum
  | [.scr l] => some (.int l.sum)
  | _ => none
theorem call_sumM (hc : X.calm = true) : CallM X (.builtin "sum") (lTL sumT) := by
  refine callM_of fun pins s σ H xs us Q Z ts z I rx ra e q q2 up => ?_
  unfold sumT at e
  split at e
  · rename_i l
    cases eb : ntsOf l with
    | none => rw [eb] at e; cases e
    | some bs =>
      rw [eb] at e
      cases e
      obtain ⟨v, rfl, r⟩ := ra.one
      cases r with
      | lst _ a vs h1 h2 h3 h4 =>
        have := h4.intsI eb
        subst this
        exact cr_sum hc pins s σ H _ us Q I rx ⟨a, bs, rfl, SqL.of h2, q _ (.int _)⟩
  · cases e
    obtain ⟨v, rfl, r⟩ := ra.one
    obtain ⟨a, rfl, _, h2, h3⟩ := RD.scrE (c := ⟨0, fun _ => 0, Z, fun _ => False⟩) r
    exact cr_sum hc pins s σ H _ us Q I rx ⟨a, _, rfl, h2, q _ (.int _)⟩
  · cases e
def tupOfT : List T → Option T
  | [.lst l] => some (.tup l)
  | [.tup l] => some (.tup l)
  | _ => none
def lstOfT : List T → Option T
  | [.lst l] => some (.lst l)
  | [.tup l] => some (.lst l)
  | [.scr l] => some (.lst (l.map .int))
  | _ => none
theorem call_tupM : CallM X (.type "tuple") (lTL tupOfT) := by
  refine callM_of fun pins s σ H xs us Q Z ts z I rx ra e q q2 up => ?_
  unfold tupOfT at e
  split at e
  · cases e
    obtain ⟨v, rfl, r⟩ := ra.one
    cases r with
    | lst _ a vs h1 h2 h3 h4 => exact call_tuple_of pins s σ H _ us Q I rx ⟨a, vs, rfl, .inl ⟨SqL.of h2, fun n hn => q2 n _ hn (.tup _ n _ (.inr rfl) upd_same h3 (RVs.upp (fun r => up hn r) h4))⟩⟩
  · cases e
    obtain ⟨v, rfl, r⟩ := ra.one
    obtain ⟨a, vs, rfl, h2, h3, h4⟩ := r.tupI
    exact call_tuple_of pins s σ H _ us Q I rx ⟨a, vs, rfl, .inr ⟨h2, q _ r⟩⟩
  · cases e
theorem call_lstM : CallM X (.type "list") (lTL lstOfT) := by
  refine callM_of fun pins s σ H xs us Q Z ts z I rx ra e q q2 up => ?_
  unfold lstOfT at e
  split at e
  · cases e
    obtain ⟨v, rfl, r⟩ := ra.one
    cases r with
    | lst _ a vs h1 h2 h3 h4 => exact call_list_of pins s σ H _ us Q I rx ⟨a, vs, rfl, .inl (SqL.of h2), fun n hn => q2 n _ hn (.lst _ n _ (.inr rfl) upd_same h3 (RVs.upp (fun r => up hn r) h4))⟩
  · cases e
    obtain ⟨v, rfl, r⟩ := ra.one
    obtain ⟨a, vs, rfl, h2, h3, h4⟩ := r.tupI
    exact call_list_of pins s σ H _ us Q I rx ⟨a, vs, rfl, .inr h2, fun n hn => q2 n _ hn (.lst _ n _ (.inr rfl) upd_same h3 (RVs.upp (fun r => up hn r) h4))⟩
  · cases e
    obtain ⟨v, rfl, r⟩ := ra.one
    obtain ⟨a, rfl, _, h2, h3⟩ := RD.scrE (c := ⟨0, fun _ => 0, Z, fun _ => False⟩) r
    exact call_list_of pins s σ H _ us Q I rx ⟨a, _, rfl, .inl h2, fun n hn => q2 n _ hn (.lst _ n _ (.inr rfl) upd_same (by rw [List.length_map]; exact h3) (RVs.ints _))⟩
  · cases e
/-- the type's name of a tree -/
def T.tyn : T → Option String
  | .non => some "NoneType"
  | .bl _ => some "bool"
  | .int _ => some "int"
  | .str _ => some "str"
  | .lst _ => some "list"
  | .tup _ => some "tuple"
  | .scr _ => some "list"
  | _ => none
def isiB (t : T) (n : String) : Option Bool := match n with
  | "int" => some (match t with | .int _ => true | .bl _ => true | _ => false)
  | "bool" => some (match t with | .bl _ => true | _ => false)
  | "str" => some (match t with | .str _ => true | _ => false)
  | "list" => some (match t with | .lst _ => true | .scr _ => true | _ => false)
  | "tuple" => some (match t with | .tup _ => true | .wtup _ => true | _ => false)
  | "dict" => some false
  | _ => none
def isiT : List T → Option T
  | [t, .ty n] => if t.plain then (isiB t n).map .bl else none
  | _ => none
/-- isinstance, of trees and of lists in cells -/
def isiG : FL := fun ds P S => match ds with
  | [.ref i, .t (.ty n)] => match (P ++ S)[i]? with
    | some (.lst _) => if n = "list" then some (.t (.bl true), S) else if n = "tuple" ∨ n = "str" ∨ n = "int" ∨ n = "bool" ∨ n = "dict" then some (.t (.bl false), S) else none
    | _ => none
  | ds => lTL isiT ds P S
theorem call_isiTr : CallM X (.builtin "isinstance") (lTL isiT) := by
  refine callM_of fun pins s σ H xs us Q Z ts z I rx ra e q q2 up => ?_
  unfold isiT at e
  split at e
  · rename_i t n
    by_cases hp : t.plain = true
    · rw [if_pos hp] at e
      obtain ⟨v, w, rfl, r, r'⟩ := ra.two
      cases r'
      obtain ⟨u, u', rfl, ru, ru'⟩ := vals2 rx
      cases ru'
      obtain ⟨as, rd⟩ := Dp.reads I _ _ _ (r.dp hp) ru
      have fin : ∀ {k : Bool}, isiB t n = some k → ∀ tk, s.toks ≤ tk → EP X pins σ Q (.bool k) { s with toks := tk } := fun {k} hk tk _ => by
        rw [hk] at e
        cases e
        exact ⟨.bl k, H, I.tok _, rfl, q _ (.bl k)⟩
      unfold isiB at e fin
      split at e
      · refine PySem.W.isinstance_int_data rd (fin ?_)
        cases t <;> first | rfl | exact nomatch hp
      · refine PySem.W.isinstance_bool_data rd (fin ?_)
        cases t <;> first | rfl | exact nomatch hp
      · refine PySem.W.isinstance_str_data rd (fin ?_)
        cases t <;> first | rfl | exact nomatch hp
      · refine PySem.W.isinstance_list_data rd (fin ?_)
        cases t <;> first | rfl | exact nomatch hp
      · refine PySem.W.isinstance_tuple_data rd (fin ?_)
        cases t <;> first | rfl | exact nomatch hp
      · refine PySem.W.isinstance_dict_data rd (fin ?_)
        cases t <;> first | rfl | exact nomatch hp
      · cases e
    · rw [if_neg hp] at e
      cases e
  · cases e
end
end Fm

/-! Fm8: sorted, min, max; methods; stores. -/
namespace Fm
open PySem PySem.Spec PyProof.Rows L2

section
variable {X : Cx} {W : WX}
theorem pm_ty {x : Str} {n : String} {pos : Pos} (hg : Gl X x) (hm : X.mg x = none) (hv : bootBuiltins x = some (.type n)) (hn : x ≠ "__name__" := by decide) (hd : (x == ("__debug__" : Str)) = false := by decide) : PM X W (.Name x pos) (mC (.ty n)) :=
  pm_c (v := .ty n) (pe_bltn hg hm hv rfl hn hd) fun _ _ => .ty n
theorem isi_ne {m n : String} (h : isiB (.lst []) n = some m.isEmpty) : True := trivial
theorem call_isiM : CallM X (.builtin "isinstance") isiG := by
  refine ⟨fun pins s σ H xs us Q I rx hh => ?_⟩
  obtain ⟨c, P, S, ds, hS, ra, q⟩ := hh
  unfold isiG at q
  split at q
  · rename_i i n
    cases z : (P ++ S)[i]? with
    | none => rw [z] at q; exact q.elim
    | some o =>
      rw [z] at q
      have hro := hS.ro i o z
      cases o <;> try exact q.elim
      obtain ⟨v, w, rfl, ⟨_, rfl⟩, r'⟩ := ra.two
      cases r'
      obtain ⟨vs, hH, hl, rs⟩ := hro
      have go : ∀ {k : Bool}, kitB "list" n = some k → Post0 X.K P c H (RD X.K) (some (.t (.bl k), S)) Q → wpAny (model X.prog X.w) X.A (call (.builtin "isinstance") us) (EP X pins σ Q) X.xe s := fun {k} hk q => by
        obtain ⟨u, u', rfl, ru, ru'⟩ := vals2 rx
        cases ru'
        exact call_isi pins s σ H _ _ Q I rx ⟨_, .ty n, .type "list", .type n, k, rfl, .ty n, .base (.lst hH), kit_ty hk, q c _ H (Ev.refl hS) hS (RV.bl k)⟩
      simp only at q
      by_cases h1 : n = "list"
      · subst h1
        rw [if_pos rfl] at q
        exact go (by decide +kernel) q
      · rw [if_neg h1] at q
        by_cases h2 : n = "tuple" ∨ n = "str" ∨ n = "int" ∨ n = "bool" ∨ n = "dict"
        · rw [if_pos h2] at q
          refine go ?_ q
          rcases h2 with rfl | rfl | rfl | rfl | rfl <;> decide +kernel
        · rw [if_neg h2] at q
          exact q.elim
  · exact call_isiTr.run pins s σ H xs us Q I rx ⟨c, P, S, _, hS, ra, q⟩

/-! ### a new list of trees: as a tree, as a cell -/
def lTLc (h : List T → Option (List T)) : FL := fun ds P S => match trees ds with
  | some ts => (h ts).map fun l => (.ref (P.length + S.length), S ++ [.lst (l.map .t)])
  | none => none
abbrev FreshR (X : Cx) (f : Value) (h : List T → Option (List T)) : Prop := ∀ (pins : List (Addr × Obj)) (s : Shared) (σ : L2.St) (H : Hp) (xs : List V) (us : List Value) (Q : VK) (Z : Addr → Prop) (ts l : List T), Inv X pins σ H s → Vals xs us → RVs X.K Z H ts xs → h ts = some l →
  (∀ p vs, H p = none → RVs X.K Z H l vs → vs.length ≤ sizeLine → Q (.ref p) (upd H p (.lst vs))) → wpAny (model X.prog X.w) X.A (call f us) (EP X pins σ Q) X.xe s
theorem callM_fresh {f : Value} {h : List T → Option (List T)} (rule : FreshR X f h) : CallM X f (lTL fun ts => (h ts).map .lst) := by
  refine callM_of fun pins s σ H xs us Q Z ts z I rx ra e q q2 up => ?_
  cases e2 : h ts with
  | none => rw [e2] at e; cases e
  | some l =>
    rw [e2] at e
    cases e
    exact rule pins s σ H xs us Q Z ts l I rx ra e2 fun p vs hp r hl => q2 p _ hp (.lst _ p _ (.inr rfl) upd_same hl (RVs.upp (fun r => up hp r) r))
theorem RVs.rds {K : PySem.W.Frag} {c : Cf} {H : Hp} : ∀ {ts : List T} {vs : List V}, RVs K c.Z H ts vs → RDs K c H (ts.map D.t) vs
  | _, _, .nil => .nil
  | _, _, .cons t v ts vs h1 h2 => .cons h1 (RVs.rds h2)
theorem newC {K : PySem.W.Frag} {P S : List O} {c : Cf} {H : Hp} {p : Addr} {vs : List V} {ds : List D} {Q : VK} (hS : Sim K P S c H) (hp : H p = none) (hl : vs.length ≤ sizeLine) (r : RDs K c H ds vs)
    (q : Post0 K P c H (RD K) (some (.ref (P.length + S.length), S ++ [.lst ds])) Q) : Q (.ref p) (upd H p (.lst vs)) := by
  have hn := hS.n
  refine q (c.cell p) _ _ (Ev.cellE hS hp) (Sim.cell hS hp ⟨vs, upd_same, hl, r.cell hS hp⟩) ⟨by show _ < c.n + 1; omega, ?_⟩
  show V.ref p = V.ref (if P.length + S.length = c.n then p else _)
  rw [if_pos hn]
theorem callM_freshC {f : Value} {h : List T → Option (List T)} (rule : FreshR X f h) : CallM X f (lTLc h) := by
  refine ⟨fun pins s σ H xs us Q I rx hh => ?_⟩
  obtain ⟨c, P, S, ds, hS, ra, q⟩ := hh
  unfold lTLc at q
  cases e : trees ds with
  | none => rw [e] at q; exact q.elim
  | some ts =>
    rw [e] at q
    simp only at q
    cases e2 : h ts with
    | none => rw [e2] at q; exact q.elim
    | some l =>
      rw [e2] at q
      exact rule pins s σ H xs us Q c.Z ts l I rx (ra.trees e) e2 fun p vs hp r hl => newC hS hp hl r.rds q
/-- what can be sorted, by the model -/
def SortOk (ts : List T) : Prop := T.plains ts = true ∧ PySem.W.AllAlike (T.pds ts) ∧ PySem.W.Sortable (T.pds ts) ∧ ∀ t ∈ ts, t.low = true
def T.le (a b : T) : Bool := !T.lt b a
def sortL (ts : List T) : List T := ts.mergeSort T.le
open Classical in
noncomputable def sortF : List T → Option (List T)
  | [.lst l] => if SortOk l then some (sortL l) else none
  | [.tup l] => none
  | [.scr l] => some (sortL (l.map .int))
  | _ => none
theorem sortOk_strs (l : List Tx) : SortOk (l.map T.str) := by
  refine ⟨by simp [T.plain], ?_, ?_, ?_⟩
  · rw [pds_map]
    intro d hd d' hd'
    obtain ⟨x, _, rfl⟩ := List.mem_map.mp hd
    obtain ⟨y, _, rfl⟩ := List.mem_map.mp hd'
    rfl
  · rw [pds_map]
    refine .inr fun d hd => ?_
    obtain ⟨x, _, rfl⟩ := List.mem_map.mp hd
    exact ⟨nofun, nofun⟩
  · intro t ht
    obtain ⟨x, _, rfl⟩ := List.mem_map.mp ht
    rfl
theorem sortOk_ints (l : List Int) : SortOk (l.map T.int) := by
  refine ⟨by simp [T.plain], ?_, ?_, ?_⟩
  · rw [pds_map]
    intro d hd d' hd'
    obtain ⟨x, _, rfl⟩ := List.mem_map.mp hd
    obtain ⟨y, _, rfl⟩ := List.mem_map.mp hd'
    rfl
  · rw [pds_map]
    refine .inr fun d hd => ?_
    obtain ⟨x, _, rfl⟩ := List.mem_map.mp hd
    exact ⟨nofun, nofun⟩
  · intro t ht
    obtain ⟨x, _, rfl⟩ := List.mem_map.mp ht
    rfl
def sortTx (l : List Tx) : List Tx := l.mergeSort fun a b => decide (a ≤ b)
theorem le_str' (a b : Tx) : T.le (.str a) (.str b) = decide (a ≤ b) := by
  unfold T.le
  rw [lt_str']
  by_cases h : a ≤ b
  · rw [decide_eq_true h, decide_eq_false (by simpa using h)]; rfl
  · rw [decide_eq_false h, decide_eq_true (by simpa using h)]; rfl
theorem sortL_str (l : List Tx) : sortL (l.map T.str) = (sortTx l).map T.str := by
  unfold sortL sortTx
  rw [List.map_mergeSort (s := T.le)]
  intro a _ b _
  exact (le_str' a b).symm
def vz (ts : List T) (vs : List V) : List (T × V) := ts.zip vs
theorem eachIs_zip {K : PySem.W.Frag} {Z : Addr → Prop} {H : Hp} : ∀ {ts : List T} {vs : List V} {us : List Value}, RVs K Z H ts vs → Vals vs us → PySem.W.EachIs (fun (u : Value) (p : T × V) => RelV p.2 u ∧ RV K Z H p.1 p.2) us (ts.zip vs)
  | _, _, _, .nil, .nil => .nil
  | _, _, _, .cons t v ts vs h1 h2, .cons r rr => .cons ⟨r, h1⟩ (eachIs_zip h2 rr)
theorem zip_fst {K : PySem.W.Frag} {Z : Addr → Prop} {H : Hp} : ∀ {ts : List T} {vs : List V}, RVs K Z H ts vs → (ts.zip vs).map (·.1) = ts
  | _, _, .nil => rfl
  | _, _, .cons t v ts vs h1 h2 => by rw [List.zip_cons_cons, List.map_cons, zip_fst h2]
theorem eachIs_out {K : PySem.W.Frag} {Z : Addr → Prop} {H : Hp} : ∀ {us : List Value} {ps : List (T × V)}, PySem.W.EachIs (fun (u : Value) (p : T × V) => RelV p.2 u ∧ RV K Z H p.1 p.2) us ps → Vals (ps.map (·.2)) us ∧ RVs K Z H (ps.map (·.1)) (ps.map (·.2))
  | _, _, .nil => ⟨.nil, .nil⟩
  | _, _, .cons h1 h2 => ⟨.cons h1.1 (eachIs_out h2).1, .cons _ _ _ _ h1.2 (eachIs_out h2).2⟩
theorem reads_each {pins : List (Addr × Obj)} {s : Shared} {σ : L2.St} {H : Hp} {Z : Addr → Prop} (I : Inv X pins σ H s) : ∀ {ts : List T} {vs : List V} {us : List Value}, RVs X.K Z H ts vs → Vals vs us → T.plains ts = true →
    PySem.W.EachIs (fun (u : Value) (p : T × V) => ∃ as, Reads s.heap u p.1.pd as) us (ts.zip vs)
  | _, _, _, .nil, .nil, _ => .nil
  | _, _, _, .cons t v ts vs h1 h2, .cons r rr, p => by
    rw [T.plains, Bool.and_eq_true] at p
    exact .cons (Dp.reads I _ _ _ (h1.dp p.1) r) (reads_each I h2 rr p.2)
theorem sort_core (hu : X.A.units + 65 < cLine) {pins : List (Addr × Obj)} {s : Shared} {σ : L2.St} {H : Hp} {Z : Addr → Prop} {l : List T} {vs : List V} {a : Addr} {Q : VK} (I : Inv X pins σ H s) (hq : SqL X.K H a vs) (r : RVs X.K Z H l vs) (ok : SortOk l)
    (q : ∀ p vs, H p = none → RVs X.K Z H (sortL l) vs → vs.length ≤ sizeLine → Q (.ref p) (upd H p (.lst vs))) : wpAny (model X.prog X.w) X.A (call (.builtin "sorted") [.ref a]) (EP X pins σ Q) X.xe s := by
  obtain ⟨its, rv, hl, hz⟩ := I.list hq
  have h1 := eachIs_zip r rv
  have h2 := reads_each I r rv ok.1
  have hzip : ((l.zip vs).map fun p => p.1.pd) = T.pds l := by
    rw [pds_eq, ← zip_fst r, List.map_map, zip_fst r]; rfl
  have hlen : (l.zip vs).length = vs.length := by rw [List.length_zip, r.len]; omega
  refine PySem.W.sorted_data (enc := fun p : T × V => p.1.pd) hl.isList h1 h2 (by rw [hzip]; exact ok.2.1) (by rw [hzip]; exact ok.2.2.1) (by rw [hlen]; exact hz) (fun p hp => ?_) fun out ho he => ?_
  · have : p.1 ∈ l := by
      have := List.mem_map_of_mem (f := (·.1)) hp
      rw [zip_fst r] at this
      exact this
    have hd : p.1.pd.depth ≤ 40 := of_decide_eq_true (ok.2.2.2 _ this)
    show X.A.units + 2 + p.1.pd.depth < cLine
    omega
  · obtain ⟨o1, o2⟩ := eachIs_out he
    have e1 : ((l.zip vs).mergeSort (PySem.W.dataLe false fun p : T × V => p.1.pd)).map (·.1) = sortL l := by
      rw [List.map_mergeSort (s := T.le), zip_fst r]; rfl
      intro a _ b _
      rw [PySem.W.dataLe_eq]; rfl
    rw [e1] at o2
    obtain ⟨ep, he'⟩ := PyProof.Rows.sortedAll_at s.heap its out.toArray
    have hlen2 : (((l.zip vs).mergeSort (PySem.W.dataLe false fun p : T × V => p.1.pd)).map (·.2)).length ≤ sizeLine := by
      rw [List.length_map, List.length_mergeSort, hlen]; exact hz
    exact ⟨.ref _, upd H (s.heap.objs.size + 1) (.lst _), I.laid (t' := s.toks) (fun _ _ => PyProof.Rows.sortedAll_old) (Nat.le_succ _) ⟨hlen2, out, ep, o1, he'⟩, rfl, q _ _ (I.hok.fresh (Nat.le_succ _)) o2 hlen2⟩
theorem sort_rule (hu : X.A.units + 65 < cLine) : FreshR X (.builtin "sorted") sortF := by
  intro pins s σ H xs us Q Z ts l I rx ra e q
  unfold sortF at e
  split at e
  · rename_i l'
    by_cases ok : SortOk l'
    · rw [if_pos ok] at e
      cases e
      obtain ⟨v, rfl, r⟩ := ra.one
      cases r with
      | lst _ a vs h1 h2 h3 h4 =>
        rw [Vals.ref1 rx]
        exact sort_core hu I (SqL.of h2) h4 ok q
    · rw [if_neg ok] at e
      cases e
  · cases e
  · rename_i l'
    cases e
    obtain ⟨v, rfl, r⟩ := ra.one
    obtain ⟨a, rfl, _, h2, h3⟩ := RD.scrE (c := ⟨0, fun _ => 0, Z, fun _ => False⟩) r
    rw [Vals.ref1 rx]
    exact sort_core hu I h2 (RVs.ints l') (sortOk_ints l') q
  · cases e
theorem call_sortM (hu : X.A.units + 65 < cLine) : CallM X (.builtin "sorted") (lTL fun ts => (sortF ts).map .lst) := callM_fresh (sort_rule hu)
theorem call_sortC (hu : X.A.units + 65 < cLine) : CallM X (.builtin "sorted") (lTLc sortF) := callM_freshC (sort_rule hu)
/-! ### min, max of a list -/
def MinOk (ts : List T) : Prop := T.plains ts = true ∧ PySem.W.AlikeAll (T.pds ts) ∧ ∀ t ∈ ts, t.low = true
def minL (x : T) (xs : List T) : T := xs.foldl (fun a y => if T.lt y a then y else a) x
def maxL (x : T) (xs : List T) : T := xs.foldl (fun a y => if T.lt a y then y else a) x
open Classical in
noncomputable def minT : List T → Option T
  | [.lst (x :: r)] => if MinOk (x :: r) then some (minL x r) else none
  | _ => none
open Classical in
noncomputable def maxT : List T → Option T
  | [.lst (x :: r)] => if MinOk (x :: r) then some (maxL x r) else none
  | _ => none

/-! ### methods -/
abbrev FM := D → List D → List O → List O → R0 D
def rMM (K : PySem.W.Frag) (g : FM) : V → List V → Hp → VK → Prop := fun x xs H Q => ∃ c P S d ds, Sim K P S c H ∧ RD K c H d x ∧ RDs K c H ds xs ∧ Post0 K P c H (RD K) (g d ds P S) Q
structure MtdM (X : Cx) (id : String) (g : FM) : Prop where
  run : MtR X id (rMM X.K g)
abbrev Kd := D → List O → List O → Bool
def KdOk (K : PySem.W.Frag) (T : String) (kd : Kd) : Prop := ∀ (P S : List O) (c : Cf) (H : Hp) (d : D) (x : V), Sim K P S c H → RD K c H d x → kd d P S = true → tyV K T x H
def kdStr : Kd := fun d _ _ => match d with
  | .t (.str _) => true
  | _ => false
def kdLst : Kd := fun d P S => match d with
  | .t (.lst _) => true
  | .t (.scr _) => true
  | .ref i => match (P ++ S)[i]? with
    | some (.lst _) => true
    | _ => false
  | _ => false
theorem kd_str {K : PySem.W.Frag} : KdOk K "str" kdStr := by
  intro P S c H d x hS r h
  cases d with
  | ref i => cases h
  | t d =>
    cases d <;> first | (exact Bool.noConfusion h) | skip
    cases r
    rfl
theorem kd_lst {K : PySem.W.Frag} : KdOk K "list" kdLst := by
  intro P S c H d x hS r h
  cases d with
  | ref i =>
    obtain ⟨_, rfl⟩ := r
    unfold kdLst at h
    simp only at h
    cases z : (P ++ S)[i]? with
    | none => rw [z] at h; cases h
    | some o =>
      rw [z] at h
      cases o <;> first | (exact Bool.noConfusion h) | skip
      obtain ⟨vs, hH, _⟩ := hS.ro i _ z
      exact .inl ⟨rfl, vs, SqL.of hH⟩
  | t d =>
    cases d <;> first | (exact Bool.noConfusion h) | skip
    · cases r with
      | lst _ a vs h1 h2 h3 h4 => exact .inl ⟨rfl, vs, SqL.of h2⟩
    · obtain ⟨a, rfl, _, h2, _⟩ := RD.scrE r
      exact .inl ⟨rfl, _, h2⟩
def mMeth (kd : Kd) (g : FM) (fo : ME) (fs : MA) : ME := fun P ρ S => (fo P ρ S).bind fun d S1 => if kd d P S1 then (fs P ρ S1).bind fun ds S2 => lift (g d ds P S2) else .no
variable {o e : Expr} {es : List Expr} {fo : ME} {fs : MA} {name : Str} {apos cpos : Pos} {T' id : String} {g : FM} {kd : Kd}
theorem pm_meth (pa : PlainAttrs T') (slot : Slot T' name id) (hty : typeOf (.builtin id) = pure (.type "method_descriptor")) (hk : KdOk X.K T' kd) (hm : MtdM X id g) (ho : PM X W o fo) (ha : PMA X W (e :: es) fs)
    (hbase : attributeBase o name X.env (eval o X.env) = eval o X.env := by rfl)
    (hfew : ((backTo cpos (starEach (e :: es) X.env)).all (fun x => !x.1) && (backToKw cpos (keywordEach [] X.env)).all (fun x => x.1.isSome)
      && decide ((e :: es).length + ([] : List Keyword).length + (if ([] : List Keyword).isEmpty then 0 else 1) < 30)) = true := by rfl)
    (hline : (apos.endLine == cpos.line) = true := by rfl) (hs : starEach (e :: es) X.env = (false, eval e X.env) :: starEach es X.env := by rfl) (hplain : (backTo cpos (starEach es X.env)).any (·.1) = false := by rfl) :
    PM X W (.Call (.Attribute o name apos) (e :: es) [] cpos) (mMeth kd g fo fs) := by
  refine ⟨pe_weak (pe_bm pa slot hty hm.run ho.run ha.run hbase hfew hline hs hplain) fun σ H Q h => ?_⟩
  obtain ⟨c, P, ρ, S, hE, hS, h⟩ := h
  refine tM_bind hE hS h fun d v S1 c1 H1 e1 E1 s1 r1 h1 => ?_
  by_cases hkd : kd d P S1 = true
  · rw [if_pos hkd] at h1
    refine ⟨hk P S1 c1 H1 d v s1 r1 hkd, ?_⟩
    exact tMA_bind E1 s1 h1 fun ds vs S2 c2 H2 e2 E2 s2 r2 h2 => ⟨c2, P, S2, d, ds, s2, r1.mono e2, r2, h2.low⟩
  · rw [if_neg hkd] at h1
    exact h1.elim
theorem pm_meth0 (pa : PlainAttrs T') (slot : Slot T' name id) (hty : typeOf (.builtin id) = pure (.type "method_descriptor")) (hk : KdOk X.K T' kd) (hm : MtdM X id g) (ho : PM X W o fo)
    (hbase : attributeBase o name X.env (eval o X.env) = eval o X.env := by rfl) (hline : (apos.endLine == cpos.line) = true := by rfl) : PM X W (.Call (.Attribute o name apos) [] [] cpos) (mMeth kd g fo mNil) := by
  refine ⟨pe_weak (pe_bm0 pa slot hty hm.run ho.run hbase hline) fun σ H Q h => ?_⟩
  obtain ⟨c, P, ρ, S, hE, hS, h⟩ := h
  refine tM_bind hE hS h fun d v S1 c1 H1 e1 E1 s1 r1 h1 => ?_
  by_cases hkd : kd d P S1 = true
  · rw [if_pos hkd] at h1
    exact ⟨hk P S1 c1 H1 d v s1 r1 hkd, c1, P, S1, d, [], s1, r1, .nil, Post.low h1⟩
  · rw [if_neg hkd] at h1
    exact h1.elim
/-- the list in an active cell -/
def cellL (P S : List O) (d : D) : Option (Nat × List D) := match d with
  | .ref i => if P.length ≤ i then match S[i - P.length]? with
    | some (.lst l) => some (i - P.length, l)
    | _ => none else none
  | _ => none
theorem cellL_some {P S : List O} {d : D} {j : Nat} {l : List D} (h : cellL P S d = some (j, l)) : d = .ref (P.length + j) ∧ S[j]? = some (.lst l) := by
  unfold cellL at h
  cases d with
  | t x => cases h
  | ref i =>
    simp only at h
    by_cases hi : P.length ≤ i
    · rw [if_pos hi] at h
      cases z : S[i - P.length]? with
      | none => rw [z] at h; cases h
      | some o =>
        rw [z] at h
        cases o <;> first | (exact nomatch (show (none : Option (Nat × List D)) = some _ from h)) | skip
        cases h
        exact ⟨by congr 1; omega, z⟩
    · rw [if_neg hi] at h
      cases h
theorem cellL_at {K : PySem.W.Frag} {P S : List O} {c : Cf} {H : Hp} {d : D} {x : V} {j : Nat} {l : List D} (hS : Sim K P S c H) (r : RD K c H d x) (h : cellL P S d = some (j, l)) : x = .ref (c.m (P.length + j)) ∧ ∃ vs, H (c.m (P.length + j)) = some (.lst vs) ∧ vs.length ≤ sizeLine ∧ RDs K c H l vs := by
  obtain ⟨rfl, hj⟩ := cellL_some h
  obtain ⟨_, rfl⟩ := r
  have : (P ++ S)[P.length + j]? = some (.lst l) := by rw [List.getElem?_append_right (by omega)]; simpa using hj
  exact ⟨rfl, hS.ro _ _ this⟩
/-- a cell's list is put -/
theorem putL {K : PySem.W.Frag} {P S : List O} {c : Cf} {H : Hp} {j : Nat} {l l' : List D} {vs' : List V} {d : D} {v : V} {Q : VK} (hS : Sim K P S c H) (hj : S[j]? = some (.lst l)) (hl : vs'.length ≤ sizeLine) (r : RDs K c H l' vs') (rd : RD K c H d v)
    (q : Post0 K P c H (RD K) (some (d, S.set j (.lst l'))) Q) : Q v (upd H (c.m (P.length + j)) (.lst vs')) := by
  have e := Ev.put (o := .lst vs') hS hj rfl
  exact q c _ _ e (Sim.put hS hj rfl rfl ⟨vs', upd_same, hl, r.mono e⟩) (rd.mono e)
theorem RD.non {K : PySem.W.Frag} {c : Cf} {H : Hp} : RD K c H (.t .non) .non := RV.non
def appendG : FM := fun d ds P S => match cellL P S d with
  | some (j, l) => match ds with
    | [x] => if l.length < sizeLine then some (.t .non, S.set j (.lst (l ++ [x]))) else none
    | _ => none
  | none => none
theorem mt_appendM : MtdM X "list.append" appendG := by
  refine ⟨fun pins s σ H x xs v us Q I rx rs h => ?_⟩
  obtain ⟨c, P, S, d, ds, hS, rd, rds, q⟩ := h
  unfold appendG at q
  cases z : cellL P S d with
  | none => rw [z] at q; exact q.elim
  | some p =>
    obtain ⟨j, l⟩ := p
    rw [z] at q
    simp only at q
    split at q
    · obtain ⟨rfl, vs, hH, hl, rl⟩ := cellL_at hS rd z
      obtain ⟨y, rfl, ry⟩ := rds.one
      split at q
      · rename_i hlen
        have hlen' : vs.length < sizeLine := by rw [← rl.len]; exact hlen
        exact mt_append pins s σ H _ _ v us Q I rx rs ⟨_, vs, y, rfl, rfl, hH, hlen', putL hS (cellL_some z).2 (by rw [List.length_append, List.length_singleton]; omega) (Paired.snoc rl ry) RD.non q⟩
      · exact q.elim
    · exact q.elim
def reverseG : FM := fun d ds P S => match cellL P S d with
  | some (j, l) => match ds with
    | [] => some (.t .non, S.set j (.lst l.reverse))
    | _ => none
  | none => none
theorem RDs.rev {K : PySem.W.Frag} {c : Cf} {H : Hp} : ∀ {a : List D} {u : List V}, RDs K c H a u → RDs K c H a.reverse u.reverse
  | _, _, .nil => .nil
  | _, _, .cons h1 h2 => by
    rw [List.reverse_cons, List.reverse_cons]
    exact Paired.snoc (RDs.rev h2) h1
theorem mt_reverseM : MtdM X "list.reverse" reverseG := by
  refine ⟨fun pins s σ H x xs v us Q I rx rs h => ?_⟩
  obtain ⟨c, P, S, d, ds, hS, rd, rds, q⟩ := h
  unfold reverseG at q
  cases z : cellL P S d with
  | none => rw [z] at q; exact q.elim
  | some p =>
    obtain ⟨j, l⟩ := p
    rw [z] at q
    simp only at q
    split at q
    · obtain ⟨rfl, vs, hH, hl, rl⟩ := cellL_at hS rd z
      cases rds
      exact mt_reverse pins s σ H _ _ v us Q I rx rs ⟨_, vs, rfl, rfl, hH, putL hS (cellL_some z).2 (by rw [List.length_reverse]; exact hl) rl.rev RD.non q⟩
    · exact q.elim
def popG : FM := fun d ds P S => match cellL P S d with
  | some (j, l) => match ds with
    | [] => l.getLast?.map fun y => (y, S.set j (.lst l.dropLast))
    | [.t (.int i)] => if -(2 ^ 62) ≤ i ∧ i ≤ 2 ^ 62 then (match ixN l.length i with
      | some k => (l[k]?).map fun y => (y, S.set j (.lst (l.eraseIdx k)))
      | none => none) else none
    | _ => none
  | none => none
theorem RDs.dropLast {K : PySem.W.Frag} {c : Cf} {H : Hp} : ∀ {a : List D} {u : List V}, RDs K c H a u → RDs K c H a.dropLast u.dropLast
  | _, _, .nil => .nil
  | _, _, .cons h1 .nil => .nil
  | _, _, .cons h1 (.cons h2 h3) => .cons h1 (RDs.dropLast (.cons h2 h3))
theorem RDs.erase {K : PySem.W.Frag} {c : Cf} {H : Hp} : ∀ {a : List D} {u : List V} (k : Nat), RDs K c H a u → RDs K c H (a.eraseIdx k) (u.eraseIdx k)
  | _, _, _, .nil => .nil
  | _, _, 0, .cons h1 h2 => h2
  | _, _, k + 1, .cons h1 h2 => .cons h1 (RDs.erase k h2)
theorem mt_popM : MtdM X "list.pop" popG := by
  refine ⟨fun pins s σ H x xs v us Q I rx rs h => ?_⟩
  obtain ⟨c, P, S, d, ds, hS, rd, rds, q⟩ := h
  unfold popG at q
  cases z : cellL P S d with
  | none => rw [z] at q; exact q.elim
  | some p =>
    obtain ⟨j, l⟩ := p
    rw [z] at q
    simp only at q
    obtain ⟨rfl, vs, hH, hl, rl⟩ := cellL_at hS rd z
    split at q
    · cases rds
      cases e : l.getLast? with
      | none => rw [e] at q; exact q.elim
      | some y =>
        rw [e] at q
        rw [List.getLast?_eq_getElem?] at e
        obtain ⟨w, h3, h4⟩ := rl.at e
        rw [rl.len] at h3
        exact mt_pop pins s σ H _ _ v us Q I rx rs ⟨_, vs, w, rfl, rfl, hH, h3, putL hS (cellL_some z).2 (by rw [List.length_dropLast]; omega) rl.dropLast h4 q⟩
    · rename_i i
      obtain ⟨y, rfl, ry⟩ := rds.one
      cases ry
      split at q
      · rename_i hi
        split at q
        · rename_i k hk
          cases e : l[k]? with
          | none => rw [e] at q; exact q.elim
          | some y =>
            rw [e] at q
            obtain ⟨w, h3, h4⟩ := rl.at e
            have hk' := hk
            rw [rl.len] at hk'
            exact mt_popAt pins s σ H _ _ v us Q I rx rs ⟨_, vs, i, k, w, rfl, rfl, hH, by omega, by omega, (ixN_seq hk').1, h3, putL hS (cellL_some z).2 (Nat.le_trans (len_erase vs k) hl) (rl.erase k) h4 q⟩
        · exact q.elim
      · exact q.elim
    · exact q.elim
/-! join -/
def joinTx (s : Tx) : List Tx → Tx
  | [] => []
  | [p] => p
  | p :: q :: r => p ++ (s ++ joinTx s (q :: r))
def strsOf : List T → Option (List Tx)
  | [] => some []
  | .str b :: r => (strsOf r).map (b :: ·)
  | _ => none
@[simp] theorem strsOf_map (l : List Tx) : strsOf (l.map T.str) = some l := by
  induction l with
  | nil => rfl
  | cons x l ih => rw [List.map_cons, strsOf, ih]; rfl
@[simp] theorem strsOf_mapf {α : Type} (g : α → Tx) (l : List α) : strsOf (l.map fun x => T.str (g x)) = some (l.map g) := by
  rw [← strsOf_map (l.map g), List.map_map]; rfl
theorem RVs.strs {K : PySem.W.Frag} {Z : Addr → Prop} {H : Hp} : ∀ {ts : List T} {vs : List V} {bs : List Tx}, RVs K Z H ts vs → strsOf ts = some bs → vs = (bs.map sv).map V.str
  | _, _, _, .nil, h => by cases h; rfl
  | _, _, _, .cons t v ts vs h1 h2, h => by
    cases t <;> simp [strsOf] at h
    obtain ⟨l, h3, rfl⟩ := h
    cases h1
    rw [RVs.strs h2 h3]; rfl
def joinG : FM := fun d ds _ S => match d, ds with
  | .t (.str s), [.t (.lst l)] => match strsOf l with
    | some ss => if (ss.map List.length).sum + ss.length * s.length ≤ sizeLine then some (.t (.str (joinTx s ss)), S) else none
    | none => none
  | .t (.str s), [.t (.tup l)] => match strsOf l with
    | some ss => if (ss.map List.length).sum + ss.length * s.length ≤ sizeLine then some (.t (.str (joinTx s ss)), S) else none
    | none => none
  | _, _ => none
theorem joinTx_len (s : Tx) : ∀ ss : List Tx, (joinTx s ss).length ≤ (ss.map List.length).sum + ss.length * s.length
  | [] => by simp [joinTx]
  | [p] => by simp [joinTx]
  | p :: q :: r => by
    have := joinTx_len s (q :: r)
    simp only [joinTx, List.length_append, List.map_cons, List.sum_cons, List.length_cons, Nat.add_mul] at this ⊢
    omega
theorem joinTx_eq (s : Tx) : ∀ ss : List Tx, TL.joinL s ss = joinTx s ss
  | [] => rfl
  | [p] => rfl
  | p :: q :: r => by rw [TL.joinL, joinTx, joinTx_eq s (q :: r)]
theorem join_sv (s : Tx) (ss : List Tx) : Txt.join (sv s) (ss.map sv) = sv (joinTx s ss) := by
  have h := TL.tl_join (sv s) (ss.map sv)
  have h1 : (ss.map sv).map TL.tl = ss := by
    rw [List.map_map]
    conv => rhs; rw [← List.map_id ss]
    exact List.map_congr_left fun a _ => sv_list a
  have h3 : TL.tl (sv s) = s := sv_list s
  rw [h1, h3, joinTx_eq] at h
  have e : (Str.join (sv s) (ss.map sv)).cps.toList = joinTx s ss := h
  rw [TL.join_eq, ← e, sv_of]
theorem mt_joinM : MtdM X "str.join" joinG := by
  refine ⟨fun pins s σ H x xs v us Q I rx rs h => ?_⟩
  obtain ⟨c, P, S, d, ds, hS, rd, rds, q⟩ := h
  have sums : ∀ ss : List Tx, ((ss.map sv).map (·.length)).sum = (ss.map List.length).sum := fun ss => by
    rw [List.map_map]
    exact congrArg List.sum (List.map_congr_left fun a _ => sv_len a)
  have hz : sizeLine = 16777216 := sizeLine_eq
  unfold joinG at q
  split at q
  · rename_i sp l
    cases es : strsOf l with
    | none => rw [es] at q; exact q.elim
    | some ss =>
      rw [es] at q
      simp only at q
      split at q
      · rename_i hlen
        obtain ⟨y, rfl, ry⟩ := rds.one
        cases rd with
        | str _ hsp =>
        cases ry with
        | lst _ a vs h1 h2 h3 h4 =>
          have := h4.strs es
          subst this
          exact mt_join pins s σ H _ _ v us Q I rx rs ⟨_, a, ss.map sv, rfl, rfl, .inl (SqL.of h2), by rw [sums, List.length_map, sv_len, ← hz]; exact hlen, by rw [join_sv]; exact q c _ H (Ev.refl hS) hS (RV.str _ (Nat.le_trans (joinTx_len _ _) hlen))⟩
      · exact q.elim
  · rename_i sp l
    cases es : strsOf l with
    | none => rw [es] at q; exact q.elim
    | some ss =>
      rw [es] at q
      simp only at q
      split at q
      · rename_i hlen
        obtain ⟨y, rfl, ry⟩ := rds.one
        cases rd with
        | str _ hsp =>
        obtain ⟨a, vs, rfl, h2, h3, h4⟩ := ry.tup
        have := h4.strs es
        subst this
        exact mt_join pins s σ H _ _ v us Q I rx rs ⟨_, a, ss.map sv, rfl, rfl, .inr h2, by rw [sums, List.length_map, sv_len, ← hz]; exact hlen, by rw [join_sv]; exact q c _ H (Ev.refl hS) hS (RV.str _ (Nat.le_trans (joinTx_len _ _) hlen))⟩
      · exact q.elim
  · exact q.elim

/-! ### stores: o[i] = v -/
/-- a dict in an active cell -/
def putD {κ : Type} [DecidableEq κ] (l : List (κ × D)) (k : κ) (v : D) : List (κ × D) := if l.any (fun p => decide (p.1 = k)) then l.map fun p => if p.1 = k then (p.1, v) else p else l ++ [(k, v)]
def setG (d i v : D) (P S : List O) : Option (List O) := match d, i with
  | .ref r, .t k => if P.length ≤ r then match S[r - P.length]? with
    | some (.lst l) => match k with
      | .int n => (ixN l.length n).map fun j => S.set (r - P.length) (.lst (l.set j v))
      | _ => none
    | some (.dic l) => match k.at with
      | some k => if l.length < sizeLine then some (S.set (r - P.length) (.dic (putD l k v))) else none
      | none => none
    | some (.dit l) => match k.tat with
      | some k => if l.length < sizeLine then some (S.set (r - P.length) (.dit (putD l k v))) else none
      | none => none
    | _ => none else none
  | _, _ => none
end
end Fm

/-! Fm9: stores, dict displays, dict comprehensions, sorted of dicts. -/
namespace Fm
open PySem PySem.Spec PyProof.Rows L2

/-! ### stores -/
theorem putK_key (l : List (At × D)) (kvs : List (Key × V)) (k : At) (d : D) (v : V) {K : PySem.W.Frag} {c : Cf} {H : Hp} (hf : k.Fit) (rd : RD K c H d v)
    (r : Paired (fun (p : At × D) (q : Key × V) => (p.1.Fit ∧ q.1 = p.1.key) ∧ RD K c H p.2 q.2) l kvs) : Paired (fun (p : At × D) (q : Key × V) => (p.1.Fit ∧ q.1 = p.1.key) ∧ RD K c H p.2 q.2) (putD l k d) (putK kvs k.key v) := by
  have hany : l.any (fun p => decide (p.1 = k)) = kvs.any fun kv => decide (kv.1 = k.key) := by
    induction r with
    | nil => rfl
    | cons h1 _ ih => rw [List.any_cons, List.any_cons, ih, h1.1.2, key_dec]
  unfold putD putK
  rw [hany]
  by_cases hc : (kvs.any fun kv => decide (kv.1 = k.key)) = true
  · rw [if_pos hc, if_pos hc]
    clear hc hany
    induction r with
    | nil => exact .nil
    | cons h1 h2 ih =>
      rename_i p q _ _
      refine .cons ?_ ih
      by_cases e : p.1 = k
      · have e2 : q.1 = k.key := by rw [h1.1.2, e]
        dsimp only
        rw [if_pos e, if_pos e2]
        exact ⟨h1.1, rd⟩
      · have e2 : ¬ q.1 = k.key := fun z => e (At.key_inj (h1.1.2.symm.trans z))
        dsimp only
        rw [if_neg e, if_neg e2]
        exact h1
  · rw [if_neg hc, if_neg hc]
    exact Paired.snoc r ⟨⟨hf, rfl⟩, rd⟩
theorem putK_keys (l : List (List At × D)) (kvs : List (List Key × V)) (k : List At) (d : D) (v : V) {K : PySem.W.Frag} {c : Cf} {H : Hp} (hf : ∀ x ∈ k, x.Fit) (rd : RD K c H d v)
    (r : Paired (fun (p : List At × D) (q : List Key × V) => ((∀ x ∈ p.1, x.Fit) ∧ q.1 = p.1.map At.key) ∧ RD K c H p.2 q.2) l kvs) :
    Paired (fun (p : List At × D) (q : List Key × V) => ((∀ x ∈ p.1, x.Fit) ∧ q.1 = p.1.map At.key) ∧ RD K c H p.2 q.2) (putD l k d) (putK kvs (k.map At.key) v) := by
  have kinj : ∀ {a b : List At}, a.map At.key = b.map At.key → a = b := fun e => (List.map_inj_right fun _ _ => At.key_inj).mp e
  have hany : l.any (fun p => decide (p.1 = k)) = kvs.any fun kv => decide (kv.1 = k.map At.key) := by
    induction r with
    | nil => rfl
    | cons h1 _ ih => rw [List.any_cons, List.any_cons, ih, h1.1.2, keys_dec]
  unfold putD putK
  rw [hany]
  by_cases hc : (kvs.any fun kv => decide (kv.1 = k.map At.key)) = true
  · rw [if_pos hc, if_pos hc]
    clear hc hany
    induction r with
    | nil => exact .nil
    | cons h1 h2 ih =>
      rename_i p q _ _
      refine .cons ?_ ih
      by_cases e : p.1 = k
      · have e2 : q.1 = k.map At.key := by rw [h1.1.2, e]
        dsimp only
        rw [if_pos e, if_pos e2]
        exact ⟨h1.1, rd⟩
      · have e2 : ¬ q.1 = k.map At.key := fun z => e (kinj (h1.1.2.symm.trans z))
        dsimp only
        rw [if_neg e, if_neg e2]
        exact h1
  · rw [if_neg hc, if_neg hc]
    exact Paired.snoc r ⟨⟨hf, rfl⟩, rd⟩
theorem RDs.set {K : PySem.W.Frag} {c : Cf} {H : Hp} {d : D} {v : V} (r : RD K c H d v) : ∀ {a : List D} {u : List V} (k : Nat), RDs K c H a u → RDs K c H (a.set k d) (u.set k v)
  | _, _, _, .nil => .nil
  | _, _, 0, .cons h1 h2 => .cons r h2
  | _, _, k + 1, .cons h1 h2 => .cons h1 (RDs.set r k h2)
/-- what a store asks, by values -/
def rPutD : V → V → V → Hp → (Hp → Prop) → Prop := fun o i v H Q => ∃ a H', o = .ref a ∧ DPut H a i v H' ∧ Q H'
section
variable {X : Cx} {W : WX}
theorem set_dictD (hu : X.A.units + 1 < cLine) : PSet X rPutD := by
  intro pins s σ H o i v ov iv u Q I ro ri rv h
  obtain ⟨a, H', rfl, hp, q⟩ := h
  cases ro
  exact d_setItem hu I hp ri rv fun s' I' => ⟨H', I', q⟩
theorem set_any (hu : X.A.units + 1 < cLine) : PSet X fun o i v H Q => rSetL o i v H Q ∨ rPutD o i v H Q := by
  intro pins s σ H o i v ov iv u Q I ro ri rv h
  rcases h with h | h
  · exact set_list pins s σ H o i v ov iv u Q I ro ri rv h
  · exact set_dictD hu pins s σ H o i v ov iv u Q I ro ri rv h
theorem setG_ok {K : PySem.W.Frag} {P S S' : List O} {c : Cf} {H : Hp} {d i v : D} {x y w : V} {Q : Hp → Prop} (hS : Sim K P S c H) (rd : RD K c H d x) (ri : RD K c H i y) (rv : RD K c H v w) (h : setG d i v P S = some S')
    (q : ∀ c' H', Ev P c H c' H' → Sim K P S' c' H' → Q H') : rSetL x y w H Q ∨ rPutD x y w H Q := by
  unfold setG at h
  cases d with
  | t d => cases h
  | ref r =>
    cases i with
    | ref j => cases h
    | t k =>
      simp only at h
      by_cases hr : P.length ≤ r
      · rw [if_pos hr] at h
        obtain ⟨hlt, rfl⟩ := rd
        cases z : S[r - P.length]? with
        | none => rw [z] at h; cases h
        | some o =>
          rw [z] at h
          have er : r = P.length + (r - P.length) := by omega
          have hat : (P ++ S)[r]? = some o := by rw [List.getElem?_append_right hr]; exact z
          have hro := hS.ro r o hat
          cases o <;> first | (exact nomatch (show (none : Option (List O)) = some S' from h)) | skip
          · rename_i l
            simp only at h
            cases k <;> first | (exact nomatch (show (none : Option (List O)) = some S' from h)) | skip
            rename_i n
            simp only at h
            cases zi : ixN l.length n with
            | none => rw [zi] at h; cases h
            | some j =>
              rw [zi] at h
              cases h
              cases ri
              obtain ⟨vs, hH, hl, rs⟩ := hro
              refine .inl ⟨c.m r, vs, n, j, rfl, rfl, hH, by rw [← rs.len]; exact zi, ?_⟩
              rw [er]
              have e := Ev.put (o := .lst (vs.set j w)) hS z rfl
              exact q c _ e (Sim.put hS z rfl rfl ⟨_, upd_same, by rw [List.length_set]; exact hl, RDs.set (rv.mono e) j (rs.mono e)⟩)
          · rename_i l
            simp only at h
            cases zk : k.at with
            | none => rw [zk] at h; cases h
            | some k' =>
              rw [zk] at h
              simp only at h
              by_cases hl : l.length < sizeLine
              · rw [if_pos hl] at h
                cases h
                obtain ⟨rfl, hf⟩ := RV.atom ri zk
                obtain ⟨kvs, hH, rs⟩ := hro
                refine .inr ⟨c.m r, _, rfl, DPut.k hH (by rw [← Paired.length rs]; exact hl), ?_⟩
                rw [er]
                have e := Ev.put (o := .dK (putK kvs k'.key w)) hS z rfl
                exact q c _ e (Sim.put hS z rfl rfl ⟨_, upd_same, putK_key l kvs k' v w hf (rv.mono e) (Paired.mapP rs fun _ _ z => ⟨z.1, z.2.mono e⟩)⟩)
              · rw [if_neg hl] at h; cases h
          · rename_i l
            simp only at h
            cases zk : k.tat with
            | none => rw [zk] at h; cases h
            | some k' =>
              rw [zk] at h
              simp only at h
              by_cases hl : l.length < sizeLine
              · rw [if_pos hl] at h
                cases h
                obtain ⟨l', rfl, q2⟩ := T.tat_some zk
                cases ri with
                | tup _ b ws h1 h2 h3 h4 =>
                  obtain ⟨rfl, hf⟩ := h4.atoms q2
                  obtain ⟨kvs, hH, rs⟩ := hro
                  refine .inr ⟨c.m r, _, rfl, DPut.t hH h2 (by rw [← Paired.length rs]; exact hl), ?_⟩
                  rw [er]
                  have e := Ev.put (o := .dT (putK kvs (k'.map At.key) w)) hS z rfl
                  exact q c _ e (Sim.put hS z rfl rfl ⟨_, upd_same, putK_keys l kvs k' v w hf (rv.mono e) (Paired.mapP rs fun _ _ z => ⟨z.1, z.2.mono e⟩)⟩)
              · rw [if_neg hl] at h; cases h
      · rw [if_neg hr] at h
        cases h
def sPut (fo fi fe : ME) : MS := fun P ρ S => (fe P ρ S).oc ρ fun v S1 => (fo P ρ S1).oc ρ fun d S2 => (fi P ρ S2).oc ρ fun i S3 => match setG d i v P S3 with
  | some S4 => .nx ρ S4
  | none => .no
variable {o i e : Expr} {fo fi fe : ME} {pos pos' : Pos}
theorem pms_put (hu : X.A.units + 1 < cLine) (ho : PM X W o fo) (hi : PM X W i fi) (he : PM X W e fe)
    (ha : ∀ v, assign (.Subscript o i pos') X.env v = (do
      let ov ← holding [v] (eval o X.env)
      let iv ← holding [v, ov] (eval i X.env)
      standAt pos'
      holding [v, ov, iv] (setItem ov iv v)
      release [v, ov, iv] []) := by intro _; rfl)
    (hs : swapsWithSole [.Subscript o i pos'] e pos.line X.env = pure false := by rfl) (hw : swappedStores [.Subscript o i pos'] e X.env = pure none := by rfl)
    (h1 : (assignEach [.Subscript o i pos'] X.env).map (·.2) = [assign (.Subscript o i pos') X.env] := by rfl) : PMS X W (.Assign [.Subscript o i pos'] e pos) (sPut fo fi fe) := by
  refine ⟨ps_weak (ps_asg he.run (pg_sub ho.run hi.run (set_any hu) ha) hs hw (h1 := h1)) fun D σ H h => ?_⟩
  obtain ⟨c, P, ρ, S, hE, hS, h⟩ := h
  refine tM_oc hE hS h fun v vv S1 c1 H1 e1 E1 s1 r1 h1 => ?_
  refine tM_oc E1 s1 h1 fun d dv S2 c2 H2 e2 E2 s2 r2 h2 => ?_
  refine tM_oc E2 s2 h2 fun k kv S3 c3 H3 e3 E3 s3 r3 h3 => ?_
  cases q : setG d k v P S3 with
  | none => rw [q] at h3; exact h3.elim
  | some S4 =>
    rw [q] at h3
    exact setG_ok s3 (r2.mono e3) r3 ((r1.mono e2).mono e3) q fun c4 H4 e4 s4 => h3 c4 σ H4 e4 s4 (E3.mono e4)
/-! d[k] op= e: dicts -/
def sAugD (g : F2) (fo fi fe : ME) : MS := fun P ρ S => (fo P ρ S).oc ρ fun d S1 => (fi P ρ S1).oc ρ fun k S2 => match k with
  | .ref _ => .no
  | .t k => match dGet P S2 d k with
    | some (some x) => (fe P ρ S2).oc ρ fun y S3 => (lift (g x y P S3)).oc ρ fun z S4 => match setG d (.t k) z P S4 with
      | some S5 => .nx ρ S5
      | none => .no
    | _ => .no

/-! ### dict displays -/
def mDicC : ME := fun P _ S => .ok (.ref (P.length + S.length)) (S ++ [.dic []])
def mDitC : ME := fun P _ S => .ok (.ref (P.length + S.length)) (S ++ [.dit []])
theorem pm_dicC : PM X W (.Dict [] [] pos) mDicC := by
  refine ⟨pe_weak pe_dnewK fun σ H Q h => ?_⟩
  obtain ⟨c, P, ρ, S, hE, hS, h⟩ := h
  intro p hp
  have hn := hS.n
  refine h (c.cell p) _ _ (Ev.cellE hS hp) (Sim.cell hS hp ⟨[], upd_same, .nil⟩) ⟨by show _ < c.n + 1; omega, ?_⟩
  show V.ref p = V.ref (if P.length + S.length = c.n then p else _)
  rw [if_pos hn]
theorem pm_ditC : PM X W (.Dict [] [] pos) mDitC := by
  refine ⟨pe_weak pe_dnewT fun σ H Q h => ?_⟩
  obtain ⟨c, P, ρ, S, hE, hS, h⟩ := h
  intro p hp
  have hn := hS.n
  refine h (c.cell p) _ _ (Ev.cellE hS hp) (Sim.cell hS hp ⟨[], upd_same, .nil⟩) ⟨by show _ < c.n + 1; omega, ?_⟩
  show V.ref p = V.ref (if P.length + S.length = c.n then p else _)
  rw [if_pos hn]

/-! ### dict comprehensions: keys ints or texts -/
def dcGo (g : MG) (ft : MT) (fk fv : ME) (P : List O) (ρ : En) : List D → List O → List (At × D) → R (List (At × D))
  | [], S, acc => .ok acc S
  | d :: ds, S, acc => match g d ρ with
    | none => .no
    | some ρ1 => (ft P ρ1 S).nx.bind fun b S1 => if b then (fk P ρ1 S1).nx.bind fun k S2 => (fv P ρ1 S2).nx.bind fun y S3 => match k with
        | .ref _ => .no
        | .t k => match k.at with
          | some k => dcGo g ft fk fv P ρ ds S3 (putD acc k y)
          | none => .no
      else dcGo g ft fk fv P ρ ds S1 acc
/-- the dict of trees that the pairs make -/
def treesK : List (At × D) → Option (List (At × T))
  | [] => some []
  | (k, .t x) :: r => (treesK r).map ((k, x) :: ·)
  | (_, .ref _) :: _ => none
def mDcG (fin : List (At × D) → List O → List O → R D) (fi : MI) (g : MG) (vs : List Nat) (ft : MT) (fk fv : ME) : ME := fun P ρ S => (fi P ρ S).bind fun ds S1 => (dcGo g ft fk fv P (wipeE ρ vs) ds S1 []).bind fun r S2 => fin r P S2
def finD : List (At × D) → List O → List O → R D := fun r _ S => match treesK r with
  | some ts => .ok (.t (.dic ts)) S
  | none => .no
def finDC : List (At × D) → List O → List O → R D := fun r P S => .ok (.ref (P.length + S.length)) (S ++ [.dic r])
abbrev KR (K : PySem.W.Frag) (c : Cf) (H : Hp) := Paired (fun (p : At × D) (q : Key × V) => (p.1.Fit ∧ q.1 = p.1.key) ∧ RD K c H p.2 q.2)
theorem KR.trees {K : PySem.W.Frag} {c : Cf} {H : Hp} : ∀ {l : List (At × D)} {kvs : List (Key × V)} {ts : List (At × T)}, KR K c H l kvs → treesK l = some ts → RKs K c.Z H ts kvs
  | _, _, _, .nil, h => by cases h; exact .nil
  | (k, .t x) :: r, (k', v) :: s, ts, .cons h1 h2, h => by
    unfold treesK at h
    cases q : treesK r with
    | none => rw [q] at h; cases h
    | some l =>
      rw [q] at h
      cases h
      have e : k' = k.key := h1.1.2
      subst e
      exact .cons k x v _ _ h1.1.1 h1.2 (KR.trees h2 q)
  | (_, .ref _) :: _, _, _, .cons _ _, h => by cases h
theorem KR.mono {K : PySem.W.Frag} {P : List O} {c c1 : Cf} {H H1 : Hp} {l : List (At × D)} {kvs : List (Key × V)} (e : Ev P c H c1 H1) (h : KR K c H l kvs) : KR K c1 H1 l kvs := Paired.mapP h fun _ _ z => ⟨z.1, z.2.mono e⟩
/-- giving a dict away as a cell's -/
theorem giveD {K : PySem.W.Frag} {P S S1 : List O} {c c0 : Cf} {H H0 : Hp} {p : Addr} (h0 : Sim K P S c0 H0) (hp : H0 p = none) (e : Ev P c0 H0 c H) (h : Sim K P S1 c H) (hy : c.Y p) {r : List (At × D)} {kvs : List (Key × V)} (hu : H p = some (.dK kvs)) (hr : KR K c H r kvs) :
    Ev P c0 H0 { c with Y := c0.Y, n := c.n + 1, m := fun i => if i = c.n then p else c.m i } H ∧ Sim K P (S1 ++ [.dic r]) { c with Y := c0.Y, n := c.n + 1, m := fun i => if i = c.n then p else c.m i } H := by
  have ne : ∀ {i : Nat} {w : O}, (P ++ S1)[i]? = some w → w.live = true → c.m i ≠ p := fun e l q => h.yc _ _ e l (q ▸ hy)
  have hn := h.n
  have m1 : ∀ {i}, i < c.n → (if i = c.n then p else c.m i) = c.m i := fun hi => if_neg (by omega)
  have en := e.n
  have e1 : ∀ {i w}, (P ++ (S1 ++ [.dic r]))[i]? = some w → (i < c.n ∧ (P ++ S1)[i]? = some w) ∨ (i = c.n ∧ w = .dic r) := fun {i w} q => by
    rw [← List.append_assoc] at q
    have hlen : (P ++ S1).length = c.n := by rw [List.length_append]; exact hn
    by_cases hi : i < c.n
    · rw [List.getElem?_append_left (by omega)] at q
      exact .inl ⟨hi, q⟩
    · have := (List.getElem?_eq_some_iff.mp q).1
      rw [List.length_append, List.length_singleton] at this
      have hi2 : i = c.n := by omega
      rw [hi2, List.getElem?_append_right (by omega), hlen, Nat.sub_self] at q
      exact .inr ⟨hi2, (Option.some.inj q).symm⟩
  have up : ∀ {w : O} {a : Addr}, RO K c H w a → RO K { c with Y := c0.Y, n := c.n + 1, m := fun i => if i = c.n then p else c.m i } H w a := fun {w a} q =>
    RO.mono' (c := c) (c1 := { c with Y := c0.Y, n := c.n + 1, m := fun i => if i = c.n then p else c.m i }) (fun _ z => z) (fun _ _ _ z _ => z) (fun _ _ _ _ _ z => z) (Nat.le_succ _) (fun i hi => m1 hi) rfl q
  refine ⟨⟨e.z, e.rd, e.rdD, Nat.le_succ_of_le e.n, fun i hi => (m1 (by omega)).trans (e.m i hi), fun i w q l => ?_, fun a z => ⟨z, (e.y a z).2⟩, e.fz⟩,
    ⟨by simp only [List.length_append, List.length_singleton]; omega, fun i w q => ?_, fun i w q l => ?_, fun i j w x qi qj li lj q => ?_, h.z, fun a z => h.y a (e.y a z).1, fun a z => h.yz a (e.y a z).1, fun i w q l => ?_⟩⟩
  · have e' : (P ++ S)[i]? = some w := by rw [List.getElem?_append_left (List.getElem?_eq_some_iff.mp q).1]; exact q
    exact ⟨(e.b i w q l).1, (e.b i w q l).2.1, h0.yc i w e' l⟩
  · show RO K _ H w (if i = c.n then p else c.m i)
    rcases e1 q with ⟨hi, q⟩ | ⟨hi, rfl⟩
    · rw [m1 hi]; exact up (h.ro i w q)
    · rw [if_pos hi]; exact up ⟨kvs, hu, hr⟩
  · show ¬ c.Z (if i = c.n then p else c.m i)
    rcases e1 q with ⟨hi, q⟩ | ⟨hi, rfl⟩
    · rw [m1 hi]; exact h.nz i w q l
    · rw [if_pos hi]; exact h.yz p hy
  · have q : (if i = c.n then p else c.m i) = (if j = c.n then p else c.m j) := q
    rcases e1 qi with ⟨hi, fi⟩ | ⟨hi, _⟩ <;> rcases e1 qj with ⟨hj, fj⟩ | ⟨hj, _⟩
    · rw [m1 hi, m1 hj] at q
      exact h.inj i j w x fi fj li lj q
    · rw [m1 hi, if_pos hj] at q
      exact absurd q (ne fi li)
    · rw [if_pos hi, m1 hj] at q
      exact absurd q.symm (ne fj lj)
    · omega
  · show ¬ c0.Y (if i = c.n then p else c.m i)
    rcases e1 q with ⟨hi, q⟩ | ⟨hi, rfl⟩
    · rw [m1 hi]; exact fun z => h.yc i w q l (e.y _ z).1
    · rw [if_pos hi]; exact fun z => h0.yne hp z rfl
def FinDOk (K : PySem.W.Frag) (fin : List (At × D) → List O → List O → R D) : Prop := ∀ (P S S1 : List O) (c c0 : Cf) (H H0 : Hp) (p : Addr) (r : List (At × D)) (kvs : List (Key × V)) (W : WX) (Q : VK), Sim K P S c0 H0 → H0 p = none → Ev P c0 H0 c H → Sim K P S1 c H → c.Y p → H p = some (.dK kvs) → KR K c H r kvs →
  Post K P c0 H0 (RD K) (fin r P S1) W Q → Q (.ref p) H
theorem fin_D {K : PySem.W.Frag} : FinDOk K finD := by
  intro P S S1 c c0 H H0 p r kvs W Q h0 hp e h hy hu hr q
  unfold finD at q
  cases z : treesK r with
  | none => rw [z] at q; exact q.elim
  | some ts =>
    rw [z] at q
    obtain ⟨g1, g2⟩ := give h0 hp e h hy hu
    exact q _ _ H g1 g2 (RV.dic ts p kvs (.inr rfl) (.inl hu) (RKs.mono (fun _ z => .inl z) (fun _ _ _ z _ => z) (fun _ _ _ _ _ z => z) (hr.trees z)))
theorem fin_DC {K : PySem.W.Frag} : FinDOk K finDC := by
  intro P S S1 c c0 H H0 p r kvs W Q h0 hp e h hy hu hr q
  obtain ⟨g1, g2⟩ := giveD h0 hp e h hy hu hr
  have hn := h.n
  refine q _ _ H g1 g2 ⟨by show _ < c.n + 1; omega, ?_⟩
  show V.ref p = V.ref (if P.length + S1.length = c.n then p else _)
  rw [if_pos hn]
theorem putD_len {κ : Type} [DecidableEq κ] (l : List (κ × D)) (k : κ) (v : D) : (putD l k v).length ≤ l.length + 1 := by
  unfold putD
  split
  · rw [List.length_map]; omega
  · rw [List.length_append]; simp
theorem tDc_of {K : PySem.W.Frag} {W : WX} {fin : List (At × D) → List O → List O → R D} {fi : MI} {g : MG} {own : List Nat} {vs : List Nat} {ft : MT} {fk fv : ME} {σ : L2.St} {H : Hp} {Q : VK} (hf : FinDOk K fin) (hsub : ∀ j ∈ own, j ∈ vs) (h : tM K W (mDcG fin fi g vs ft fk fv) σ H Q) :
    tDc (tMI K W fi) (tMG K own g) (tMT K W0 ft) (tM K W0 fk) (tM K W0 fv) vs σ H Q := by
  obtain ⟨c, P, ρ, S, hE, hS, h⟩ := h
  refine ⟨c, P, ρ, S, hE, hS, ?_⟩
  unfold mDcG at h
  generalize fi P ρ S = r at h
  cases r with
  | ex x S1 => exact h
  | no => exact h
  | ok items S1 =>
    intro c0 J H0 e0 s0 ok0 Dd hD
    have hE0 := hE.mono e0
    have h := Post.ev hS.pl e0 h
    simp only [R.bind_ok] at h
    refine ⟨fun i m H => m + i = items.length ∧ ∃ c S acc va, Ev P c0 H0 c H ∧ Sim K P S c H ∧ c.Y Dd ∧ H Dd = some (.dK va) ∧ KR K c H acc va ∧ va.length ≤ i ∧
      Post K P c0 H0 (RD K) ((dcGo g ft fk fv P (wipeE ρ vs) (items.drop i) S acc).bind fun r S2 => fin r P S2) W Q,
      ⟨items.length, by omega, c0.yed Dd, S1, [], [], Ev.yed s0 hD, Sim.yed s0 hD, .inr rfl, upd_same, .nil, Nat.le_refl _, h⟩, ?_⟩
    rintro i m H ⟨him, c, S, acc, va, ev, sm, hy, hH, ra, hl, h⟩
    have hlen := ok0.len
    by_cases hi : i < items.length
    · have hd : items.drop i = items[i] :: items.drop (i + 1) := List.drop_eq_getElem_cons hi
      rw [hd] at h
      obtain ⟨g1, g2⟩ := ok0.go i items[i] c H S (List.getElem?_eq_getElem hi) ev sm
      refine .inr ⟨g1, fun H => ∃ c S acc va, Ev P c0 H0 c H ∧ Sim K P S c H ∧ c.Y Dd ∧ H Dd = some (.dK va) ∧ KR K c H acc va ∧ va.length ≤ i + 1 ∧
        Post K P c0 H0 (RD K) ((dcGo g ft fk fv P (wipeE ρ vs) (items.drop (i + 1)) S acc).bind fun r S2 => fin r P S2) W Q, fun H' n => ⟨m - 1, by omega, by omega, n⟩, fun x H2 y => ?_⟩
      obtain ⟨c2, ev2, s2, r2⟩ := g2 x H2 y
      have ev2' := ev.trans s0.pl ev2
      refine ⟨c2, P, S, wipeE ρ vs, items[i], (hE0.mono ev2').wipe vs, s2, r2, ?_⟩
      unfold dcGo at h
      cases q : g items[i] (wipeE ρ vs) with
      | none => rw [q] at h; exact h
      | some ρ1 =>
        rw [q] at h
        intro σ1 E1 l1 j1
        refine ⟨wipe_ext l1 fun j hj => j1 j fun z => hj (hsub j z), c2, P, ρ1, S, E1, s2, ?_⟩
        simp only at h
        generalize ft P ρ1 S = rt at h
        cases rt with
        | ex x S3 => exact h.elim
        | no => exact h.elim
        | ok b S3 =>
          intro c3 b' H3 e3 s3 rb
          cases (show b = b' from rb)
          simp only [R.nx_ok, R.bind_ok] at h
          have ev3 := ev2'.trans s0.pl e3
          have y3 := (ev2.y Dd hy)
          have y3' := (e3.y Dd y3.1)
          cases b with
          | false =>
            rw [if_neg Bool.false_ne_true] at h ⊢
            exact ⟨c3, S3, acc, va, ev3, s3, y3'.1, y3'.2.trans (y3.2.trans hH), (ra.mono ev2).mono e3, by omega, h⟩
          | true =>
            rw [if_pos rfl] at h ⊢
            refine ⟨c3, P, ρ1, S3, E1.mono e3, s3, ?_⟩
            generalize fk P ρ1 S3 = re at h
            cases re with
            | ex x S4 => exact h.elim
            | no => exact h.elim
            | ok kd S4 =>
              intro c4 kv H4 e4 s4 rk
              simp only [R.nx_ok, R.bind_ok] at h
              have y4 := e4.y Dd y3'.1
              refine ⟨c4, P, ρ1, S4, (E1.mono e3).mono e4, s4, ?_⟩
              generalize fv P ρ1 S4 = re2 at h
              cases re2 with
              | ex x S5 => exact h.elim
              | no => exact h.elim
              | ok yd S5 =>
                intro c5 yv H5 e5 s5 ry
                simp only [R.nx_ok, R.bind_ok] at h
                have y5 := e5.y Dd y4.1
                have hH5 : H5 Dd = some (.dK va) := y5.2.trans (y4.2.trans (y3'.2.trans (y3.2.trans hH)))
                cases kd with
                | ref j => exact h.elim
                | t k =>
                  simp only at h
                  cases zk : k.at with
                  | none => rw [zk] at h; exact h.elim
                  | some k' =>
                    rw [zk] at h
                    obtain ⟨rfl, hfit⟩ := RV.atom (rk.mono e5) zk
                    have r5 : KR K c5 H5 acc va := (((ra.mono ev2).mono e3).mono e4).mono e5
                    have up : ∀ {d : D} {v : V}, RD K c5 H5 d v → RD K c5 (upd H5 Dd (.dK (putK va k'.key yv))) d v := fun {d v} rr => by
                      have zn : ∀ {a}, c5.Z a → a ≠ Dd := fun z q => s5.yz Dd y5.1 (q ▸ z)
                      cases d with
                      | ref i => exact rr
                      | t x => exact RV.mono (fun _ z => z) (fun a w z e _ => by rw [upd_ne (zn z)]; exact e) (fun a w z _ _ e => by unfold Rd; rw [upd_ne (zn z)]; exact e) rr
                    refine ⟨va, k'.key, rfl, hH5, by omega, c5, S5, putD acc k' yd, putK va k'.key yv, Ev.updY s0 hD ((ev3.trans s0.pl e4).trans s0.pl e5), s5.updY y5.1, y5.1, upd_same, ?_, by have := length_putK va k'.key yv; omega, h⟩
                    exact Paired.mapP (putK_key acc va k' yd yv hfit ry r5) fun _ _ z => ⟨z.1, up z.2⟩
    · have hi2 : i = items.length := by omega
      subst hi2
      rw [List.drop_length] at h
      exact .inl ⟨ok0.stop c H ev, hf P S1 S c c0 H H0 Dd acc va W Q s0 hD ev sm hy hH ra h⟩
theorem pm_dcG {fin : List (At × D) → List O → List O → R D} {kx vx tg iter : Expr} {ifs : List Expr} {scope : Scope} {own : List (Str × Nat)} {ow : List Nat} {pos : Pos} {fi : MI} {g : MG} {ft : MT} {fk fv : ME} (hf : FinDOk X.K fin) (hc : X.calm = true) (hN : X.N.Nodup) (hi : PMI X W tg iter fi) (ok : BlkOk X.N X.env.scope scope own)
    (hg : ∀ (s : Shared) (H : Hp) (C : Addr) (cl : List (Str × Addr)) (fp : List Addr), PMG (X.blk s H scope (compEnvC scope cl C X.env) fp) tg ow g)
    (ht : ∀ (s : Shared) (H : Hp) (C : Addr) (cl : List (Str × Addr)) (fp : List Addr), PMTs (X.blk s H scope (compEnvC scope cl C X.env) fp) W0 ifs ft)
    (hk : ∀ (s : Shared) (H : Hp) (C : Addr) (cl : List (Str × Addr)) (fp : List Addr), PM (X.blk s H scope (compEnvC scope cl C X.env) fp) W0 kx fk)
    (hv : ∀ (s : Shared) (H : Hp) (C : Addr) (cl : List (Str × Addr)) (fp : List Addr), PM (X.blk s H scope (compEnvC scope cl C X.env) fp) W0 vx fv)
    (hs : ∀ x, foldedSetIterable iter X.env x = pure x := by intro _; rfl) (hsub : ∀ j ∈ ow, j ∈ own.map (·.2) := by decide) :
    PM X W (.DictComp kx vx [⟨tg, iter, ifs, 0⟩] scope pos) (mDcG fin fi g (own.map (·.2)) ft fk fv) :=
  ⟨pe_weak (pe_dc (tk := tM X.K W0 fk) (tv := tM X.K W0 fv) (tt := tMT X.K W0 ft) (g := tMG X.K ow g) hc hN hi.run ok (fun s H C cl fp => (hg s H C cl fp).run) (fun s H C cl fp => (ht s H C cl fp).run) (fun s H C cl fp => (hk s H C cl fp).run) (fun s H C cl fp => (hv s H C cl fp).run) hs) fun _ _ _ h => tDc_of hf hsub h⟩
end
end Fm

/-! FmS: sets of texts, made of a list, a tuple or a text, and taken up at once. -/
namespace Fm
open PySem PySem.Spec PyProof.Rows L2

def txOf (e : Int × Value) : Str := match e.2 with
  | .str x _ => x
  | _ => Str.empty
def GdT (w : World) (e : Int × Value) : Prop := ∃ k tk, e.2 = Value.str k tk ∧ e.1 = hashStr w k
def LedT (w : World) (t : SetTable) : Prop := w.params.followText "set-order" = true ∨ t.led = true
/-- the set of texts at a: its members l, each once -/
structure SetT (w : World) (h : Heap) (a : Addr) (l : List Str) : Prop where
  ex : ∃ (o : Obj) (es : Array (Int × Value)) (ep : Nat) (t : SetTable), h.get? a = some o ∧ o.ExactSet ∧ o.data = .set es ep t ∧ (∀ e ∈ es.toList, GdT w e) ∧ (es.toList.map txOf).Perm l ∧ es.size < scanBound ∧ t.fits es.size = true ∧ Ris t.place.toList ∧ LedT w t
  nd : l.Nodup
section
variable {P : Program} {w : World} {h h' : Heap} {a : Addr} {l : List Str}
theorem SetT.keep (r : SetT w h a l) (k : ∀ o, h.get? a = some o → h'.get? a = some o) : SetT w h' a l := by
  obtain ⟨⟨o, es, ep, t, ho, q⟩, n⟩ := r
  exact ⟨⟨o, es, ep, t, k o ho, q⟩, n⟩
theorem SetT.lt (r : SetT w h a l) : a < h.objs.size := by
  obtain ⟨⟨o, es, ep, t, ho, q⟩, n⟩ := r
  exact Heap.lt_size ho
theorem gdT_is {e : Int × Value} (g : GdT w e) (k : Str) : (PySem.strKind P w).is k e.2 = true ↔ txOf e = k := by
  obtain ⟨k0, tk, h1, _⟩ := g
  unfold txOf
  rw [h1]
  show ((k0 == k) = true) ↔ k0 = k
  exact beq_iff_eq
theorem gdT_elems {l : List (Int × Value)} (g : ∀ e ∈ l, GdT w e) : ElemsOf (PySem.strKind P w) l := fun e he => by
  obtain ⟨k, tk, h1, h2⟩ := g e he
  exact ⟨⟨k, by rw [h1]; exact strKind_is P w k tk, h2⟩, by rw [h1] <;> rfl⟩
theorem gdT_mem {l : List (Int × Value)} (g : ∀ e ∈ l, GdT w e) (k : Str) : k ∈ l.map txOf ↔ ∃ e ∈ l, (PySem.strKind P w).is k e.2 = true := by
  rw [List.mem_map]
  constructor
  · rintro ⟨e, he, q⟩
    exact ⟨e, he, (gdT_is (g e he) k).2 q⟩
  · rintro ⟨e, he, q⟩
    exact ⟨e, he, (gdT_is (g e he) k).1 q⟩
end
section
variable {P : Program} {w : World} {A : Around} {E : Value → Shared → Prop} {s : Shared} {a : Addr} {l : List Str}
theorem setT_tail {g : Bool → Sem Unit} (hg : ∀ (b : Bool) (s₁ : Shared) (Q' : Unit → Shared → Prop), Q' () s₁ → wpAny (model P w) A (g b) Q' E s₁)
    {o : Obj} {es : Array (Int × Value)} {ep : Nat} {t : SetTable} (ho : s.heap.get? a = some o) (hex : o.ExactSet) (hd : o.data = .set es ep t)
    {es1 : Array (Int × Value)} {t2 : SetTable} {l1 : List Str} (nd : l1.Nodup) (g1 : ∀ e ∈ es1.toList, GdT w e) (p1 : (es1.toList.map txOf).Perm l1)
    (hb1 : es1.size < scanBound) (hf2 : t2.fits es1.size = true) (hr : Ris t2.place.toList) (hl : LedT w t2) {wasDummy : Bool} {R : Option Bool → Shared → Prop}
    (hR : ∀ h', Heap.SameBut a s.heap h' → SetT w h' a l1 → R (some true) { s with heap := h' }) :
    wpAny (model P w) A (do
        storeSet a es1 t2
        if (!wasDummy && t2.tooFull) = true then do
            g (relayAll t2 es1 (SetTable.grown es1.size)).2.2
            storeSet a (relayAll t2 es1 (SetTable.grown es1.size)).1 (relayAll t2 es1 (SetTable.grown es1.size)).2.1
            pure (some true)
          else pure (some true)) R E s := by
  refine wpAny_bind (wpAny_storeSet_of ho hd ?_ (fits_of_scanBound hb1))
  have ho1 := L2.store_at (es' := es1) (t' := t2) ho hd
  have sb1 := Heap.SameBut.update s.heap a (Obj.putSet es1 t2)
  split
  · have pm := relayAll_perm t2 es1 (SetTable.grown es1.size)
    have hf3 := relayAll_fits t2 es1 (SetTable.grown es1.size)
    have hr3 := L2.relayAll_ris t2 es1 (SetTable.grown es1.size)
    have hl3 := L2.relayAll_led t2 es1 (SetTable.grown es1.size)
    generalize relayAll t2 es1 (SetTable.grown es1.size) = Z at pm hf3 hr3 hl3 ⊢
    obtain ⟨es2, t3, gave⟩ := Z
    dsimp only at pm hf3 hr3 hl3 ⊢
    have hsz : es2.size = es1.size := by rw [← Array.length_toList, pm.length_eq, Array.length_toList]
    have hb2 : es2.size < scanBound := by rw [hsz]; exact hb1
    refine wpAny_bind (hg _ _ _ ?_)
    refine wpAny_bind (wpAny_storeSet_of ho1 rfl ?_ (fits_of_scanBound hb2))
    have ho2 := L2.store_at (es' := es2) (t' := t3) ho1 rfl
    refine wpAny_pure (hR _ (sb1.trans (Heap.SameBut.update _ a _)) ⟨⟨_, es2, _, t3, ho2, hex, rfl, fun e he => g1 e (pm.mem_iff.mp he), (pm.map txOf).trans p1, hb2, hf3, hr3, ?_⟩, nd⟩)
    exact hl.imp id fun z => by rw [hl3]; exact z
  · exact wpAny_pure (hR _ sb1 ⟨⟨_, es1, _, t2, ho1, hex, rfl, g1, p1, hb1, hf2, hr, hl⟩, nd⟩)
/-- the members behind one more -/
def addM {α : Type} [DecidableEq α] (l : List α) (k : α) : List α := if k ∈ l then l else k :: l
theorem setT_add {k : Str} {tk : Tok} {Q : Bool → Shared → Prop} (R : SetT w s.heap a l) (room : l.length + 1 < scanBound)
    (hQ : ∀ (b : Bool) (h' : Heap), Heap.SameBut a s.heap h' → SetT w h' a (addM l k) → Q b { s with heap := h' }) :
    wpAny (model P w) A (setAddHashed a (.str k tk) ((PySem.strKind P w).hash k)) Q E s := by
  obtain ⟨⟨o, es, ep, t, ho, hex, hd, g, pe, hb, hf, hr, hl⟩, nd⟩ := R
  have hkey : (PySem.strKind P w).is k (.str k tk) = true := strKind_is P w k tk
  have hsc : (Value.str k tk).scannable = true := rfl
  have hel : ElemsOf (PySem.strKind P w) es.toList := gdT_elems g
  unfold setAddHashed setAddHashedIn
  refine wpAny_holding (wpAny_bind (wpAny_setState_of ho hd hf ?_))
  dsimp only
  rw [byScan_of hsc hb hel]
  simp only [↓reduceIte]
  unfold setAddByScan
  refine wpAny_bind ?_
  refine wpAny_bind (wpAny_rule ?_)
  refine wpAny_bind (wpAny_setScan_of hkey ho hd hf hel ?_)
  cases hfi : List.findIdx? (fun e => (PySem.strKind P w).is k e.2) es.toList with
  | some j =>
    dsimp only
    obtain ⟨hj, pj, _⟩ := List.findIdx?_eq_some_iff_getElem.mp hfi
    have hm : k ∈ l := pe.mem_iff.mp ((gdT_mem (P := P) (w := w) g k).2 ⟨es.toList[j], List.getElem_mem hj, pj⟩)
    refine wpAny_pure (wpAny_pure ?_)
    refine hQ _ s.heap (Heap.SameBut.refl a s.heap) ?_
    unfold addM
    rw [if_pos hm]
    exact ⟨⟨o, es, ep, t, ho, hex, hd, g, pe, hb, hf, hr, hl⟩, nd⟩
  | none =>
    dsimp only
    have hnk : k ∉ es.toList.map txOf := fun z => by
      obtain ⟨e, he, q⟩ := (gdT_mem (P := P) (w := w) g k).1 z
      have c := List.findIdx?_eq_none_iff.mp hfi e he
      rw [q] at c
      cases c
    have hnl : k ∉ l := fun z => hnk (pe.mem_iff.mpr z)
    have hgw : ∀ (b : Bool) {s₁ : Shared} {Q' : Unit → Shared → Prop}, Q' () s₁ → wpAny (model P w) A (match b with | true => rule "set.scan.the-table-gave-way" | false => pure ()) Q' E s₁ :=
      fun b s₁ Q' q => by cases b <;> first | exact wpAny_pure q | exact wpAny_rule q
    have pm := layNew_perm t es ((PySem.strKind P w).hash k) (.str k tk)
    have hf1 := layNew_fits t es ((PySem.strKind P w).hash k) (.str k tk)
    have hr1 := L2.layNew_ris t es ((PySem.strKind P w).hash k) (.str k tk) hr
    have hl1 := L2.layNew_led t es ((PySem.strKind P w).hash k) (.str k tk)
    generalize layNew t es ((PySem.strKind P w).hash k) (.str k tk) = Z at pm hf1 hr1 hl1 ⊢
    obtain ⟨es1, t1, wasDummy, gave⟩ := Z
    dsimp only at pm hf1 hr1 hl1 ⊢
    rw [Array.toList_push] at pm
    have pc : es1.toList.Perm (((PySem.strKind P w).hash k, Value.str k tk) :: es.toList) := pm.trans (List.perm_append_singleton _ _)
    have pk : (es1.toList.map txOf).Perm (k :: l) := (pc.map txOf).trans (pe.cons k)
    have g1 : ∀ e ∈ es1.toList, GdT w e := fun e he => by
      rcases List.mem_cons.mp (pc.mem_iff.mp he) with z | z
      · rw [z]; exact ⟨k, tk, rfl, rfl⟩
      · exact g e z
    have nd1 : (k :: l).Nodup := List.nodup_cons.mpr ⟨hnl, nd⟩
    have hsz : es1.size = l.length + 1 := by rw [← Array.length_toList, ← List.length_map (f := txOf), pk.length_eq, List.length_cons]
    have hb1 : es1.size < scanBound := by rw [hsz]; exact room
    have hled : LedT w t1 := hl.imp id fun z => by rw [hl1]; exact z
    have fin : ∀ h', Heap.SameBut a s.heap h' → SetT w h' a (k :: l) → Q true { s with heap := h' } := fun h' sb r => by
      refine hQ _ h' sb ?_
      unfold addM
      rw [if_neg hnl]
      exact r
    refine wpAny_bind (hgw _ ?_)
    split
    · refine wpAny_bind ?_
      rw [hashByValue_scannable 8 hsc]
      refine wpAny_pure ?_
      refine setT_tail ?_ ho hex hd nd1 g1 pk hb1 ?_ ?_ ?_ ?_
      · intro b s₁ Q' q; cases b <;> first | exact wpAny_pure q | exact wpAny_rule q
      · first | (split <;> first | exact hf1 | exact SetTable.fits_plain_off hf1) | exact hf1
      · first | (split <;> exact hr1) | exact hr1
      · first | (split <;> exact hled) | exact hled
      · intro h' sb r; dsimp only; exact wpAny_pure (fin h' sb r)
    · refine wpAny_bind (wpAny_pure ?_)
      simp only [↓reduceIte]
      refine setT_tail ?_ ho hex hd nd1 g1 pk hb1 hf1 hr1 hled ?_
      · intro b s₁ Q' q; cases b <;> first | exact wpAny_pure q | exact wpAny_rule q
      · intro h' sb r; dsimp only; exact wpAny_pure (fin h' sb r)
end
/-- the members of a list, each once -/
def onceM {α : Type} [DecidableEq α] (l : List α) : List α := l.foldl addM []
theorem addM_mem {α : Type} [DecidableEq α] (l : List α) (k x : α) : x ∈ addM l k ↔ x = k ∨ x ∈ l := by
  unfold addM
  split
  · rename_i h
    constructor
    · exact .inr
    · rintro (rfl | z)
      · exact h
      · exact z
  · exact List.mem_cons
theorem addM_len {α : Type} [DecidableEq α] (l : List α) (k : α) : (addM l k).length ≤ l.length + 1 ∧ l.length ≤ (addM l k).length := by
  unfold addM
  split
  · exact ⟨Nat.le_succ _, Nat.le_refl _⟩
  · rw [List.length_cons]; exact ⟨Nat.le_refl _, Nat.le_succ _⟩
theorem foldM_len {α : Type} [DecidableEq α] (r : List α) : ∀ l : List α, l.length ≤ (r.foldl addM l).length := by
  induction r with
  | nil => exact fun l => Nat.le_refl _
  | cons x r ih => exact fun l => Nat.le_trans (addM_len l x).2 (ih _)
theorem foldM_mem {α : Type} [DecidableEq α] (x : α) (r : List α) : ∀ l : List α, x ∈ r.foldl addM l ↔ x ∈ r ∨ x ∈ l := by
  induction r with
  | nil => exact fun l => by simp
  | cons y r ih =>
    intro l
    rw [List.foldl_cons, ih, addM_mem, List.mem_cons]
    constructor
    · rintro (z | z | z)
      · exact .inl (.inr z)
      · exact .inl (.inl z)
      · exact .inr z
    · rintro ((z | z) | z)
      · exact .inr (.inl z)
      · exact .inl z
      · exact .inr (.inr z)
theorem onceM_mem {α : Type} [DecidableEq α] (x : α) (l : List α) : x ∈ onceM l ↔ x ∈ l := by
  unfold onceM
  rw [foldM_mem]; simp
theorem addM_nodup {α : Type} [DecidableEq α] {l : List α} (h : l.Nodup) (k : α) : (addM l k).Nodup := by
  unfold addM
  split
  · exact h
  · rename_i q; exact List.nodup_cons.mpr ⟨q, h⟩
theorem onceM_nodup {α : Type} [DecidableEq α] (l : List α) : (onceM l).Nodup := by
  unfold onceM
  have : ∀ r m : List α, m.Nodup → (r.foldl addM m).Nodup := by
    intro r
    induction r with
    | nil => exact fun m h => h
    | cons x r ih => exact fun m h => ih _ (addM_nodup h x)
  exact this l [] List.nodup_nil
section
variable {prog : Program} {w : World} {A : Around} {R : Result → Shared → Prop} {I : Addr} {fp wr : List Addr} {G : Array GenState → Array GenState → Prop} {n : Nat} {P : Nat → Value → Prop} {St : Nat → Shared → Prop}
theorem loopT (W : WalksS prog w A.in1 I fp wr G n P St) (S : Addr) (hSf : S ∉ fp) (xs : List Str) (hsz : xs.length = n) (hn1 : (onceM xs).length + 1 < scanBound)
    (hval : ∀ i v, P i v → ∃ t, v = .str (xs.getD i Str.empty) t) :
    ∀ (k i : Nat) (s : Shared), n - i = k → i ≤ n → St i s →
      SetT w s.heap S ((xs.take i).foldl addM []) →
      (∀ s', Moved (S :: wr) G s s' → SetT w s'.heap S (onceM xs) → R (.ok (.ret .none)) s') →
      codeAny (model prog w) A (.builtin "set.update.loop" ⟨[.ref S, .ref I], []⟩) R s := by
  have hSw : S ∉ wr := fun h => hSf (W.sub _ h)
  have hsub : ∀ b ∈ wr, b ∈ S :: wr := fun b hb => List.mem_cons_of_mem _ hb
  intro k
  induction k with
  | zero =>
    intro i s hk hi hst hS hR
    have hin : i = n := by omega
    subst hin
    refine codeAny_builtin PyProof.Rows.F.entry_set_update_loop ?_
    rw [Around.under_plainId PyProof.Rows.F.plain_set_update_loop _]
    show wpAny _ A.in1 (pyNext (.ref I) >>= _) _ _ s
    refine wpAny_bind (W.done s _ _ hst fun s' hm => ?_)
    show wpAny _ A.in1 (ret Value.none) _ _ s'
    refine wpAny_pure (hR s' (hm.mono hsub) ?_)
    have e : (xs.take i).foldl addM [] = onceM xs := by rw [← hsz, List.take_length]; rfl
    rw [← e]
    exact hS.keep fun o q => hm.heap S _ hSw q
  | succ k ih =>
    intro i s hk hi hst hS hR
    have hlt : i < n := by omega
    refine codeAny_builtin PyProof.Rows.F.entry_set_update_loop ?_
    rw [Around.under_plainId PyProof.Rows.F.plain_set_update_loop _]
    show wpAny _ A.in1 (pyNext (.ref I) >>= _) _ _ s
    refine wpAny_bind (W.item i s _ _ hlt hst fun v s' hP hst' hm => ?_)
    obtain ⟨t, rfl⟩ := hval i v hP
    have hS' : SetT w s'.heap S ((xs.take i).foldl addM []) := hS.keep fun o q => hm.heap S _ hSw q
    show wpAny _ A.in1 (holding [Value.str (xs.getD i Str.empty) t] (setAdd S (.str (xs.getD i Str.empty) t)) >>= _) _ _ s'
    refine wpAny_bind (wpAny_holding ?_)
    unfold setAdd
    refine wpAny_holding ?_
    refine wpAny_bind ((PySem.strKind prog w).pyHash (k := xs.getD i Str.empty) (strKind_is _ _ _ _) ?_)
    have hx : xs = xs.take i ++ (xs.getD i Str.empty :: xs.drop (i + 1)) := by
      have hil : i < xs.length := by rw [hsz]; exact hlt
      have : xs.getD i Str.empty = xs[i] := by rw [List.getD_eq_getElem?_getD, List.getElem?_eq_getElem hil]; rfl
      rw [this, List.getElem_cons_drop_succ_eq_drop, List.take_append_drop]
    have htk : (xs.take (i + 1)).foldl addM [] = addM ((xs.take i).foldl addM []) (xs.getD i Str.empty) := by
      have hil : i < xs.length := by rw [hsz]; exact hlt
      have : xs.getD i Str.empty = xs[i] := by rw [List.getD_eq_getElem?_getD, List.getElem?_eq_getElem hil]; rfl
      rw [this, List.take_succ_eq_append_getElem hil, List.foldl_append]; rfl
    have hrm : ((xs.take i).foldl addM []).length + 1 < scanBound := by
      have e : onceM xs = (xs.getD i Str.empty :: xs.drop (i + 1)).foldl addM ((xs.take i).foldl addM []) := by
        rw [← List.foldl_append, ← hx]; rfl
      have := foldM_len (xs.getD i Str.empty :: xs.drop (i + 1)) ((xs.take i).foldl addM [])
      rw [← e] at this
      omega
    refine setT_add (s := { s' with toks := s'.toks + 1 }) hS' hrm fun b h' hsb hS2 => ?_
    rw [← htk] at hS2
    refine wpAny_pure ⟨plainId_quiet PyProof.Rows.F.plain_set_update_loop _, ih (i + 1) _ (by omega) hlt (W.frame _ s' _ _ hst' (Nat.le_succ _) fun b hb o e => ?_) hS2 fun s'' hm'' hS'' => ?_⟩
    · rw [hsb.2 b (fun h : b = S => hSf (by rw [← h]; exact hb))]; exact e
    · refine hR s'' (Moved.trans W.gtrans ((hm.mono hsub).then_heap (Nat.le_succ _) fun b o hb e => ?_) hm'') hS''
      rw [hsb.2 b (fun h : b = S => hb (by rw [h]; exact List.mem_cons_self))]; exact e
end
end Fm

namespace Fm
open PySem PySem.Spec PyProof.Rows L2

/-- what a set is made of: the texts that come of v, one by one -/
structure SrcT (prog : Program) (w : World) (h0 : Heap) (v : Value) (T : String) (xs : List Str) : Prop where
  ty : ∀ s : Shared, (∀ b o, h0.get? b = some o → s.heap.get? b = some o) → s.TypeIs v T
  sub1 : isSubtype (.type T) (.type "set") = pure false
  sub2 : isSubtype (.type T) (.type "frozenset") = pure false
  nd : (Value.type T == Value.type "dict") = false
  it : ∀ (A : Around) (E : Value → Shared → Prop) (s : Shared) (Q : Value → Shared → Prop), (∀ b o, h0.get? b = some o → s.heap.get? b = some o) → h0.objs.size ≤ s.heap.objs.size →
    (∀ (o : Obj) (fp : List Addr) (P : Nat → Value → Prop) (St : Nat → Heap → Prop), (∀ A' : Around, A'.handled = none → Walks prog w A' s.heap.objs.size fp [s.heap.objs.size] xs.length P St) → (∀ b ∈ fp, b = s.heap.objs.size ∨ b < h0.objs.size) →
      (∀ i v, P i v → ∃ t, v = .str (xs.getD i Str.empty) t) → St 0 (s.heap.push o) → Q (.ref s.heap.objs.size) { s with heap := s.heap.push o }) → wpAny (model prog w) A (pyIter v) Q E s
section
variable {P : Program} {prog : Program} {w : World} {A : Around} {E : Value → Shared → Prop} {s : Shared}
def emptyS (w : World) : Obj := { cls := .type "set", dict := none, data := .set #[] 0 (.fresh 0 0 (!w.params.followText "set-order")) }
theorem setT_none {h : Heap} (w : World) {a : Addr} (ho : h.get? a = some (emptyS w)) : SetT w h a [] :=
  ⟨⟨_, #[], 0, _, ho, ⟨rfl, rfl, rfl⟩, rfl, (fun e he => by simp at he), List.Perm.refl _, (by decide), (by rfl), List.Pairwise.nil, by
    show _ ∨ (!w.params.followText "set-order") = true
    cases w.params.followText "set-order"
    · exact .inr rfl
    · exact .inl rfl⟩, List.nodup_nil⟩
theorem new1_led (a : Value) {Q₁ : Value → Shared → Prop} (h : Q₁ (.ref s.heap.objs.size) { s with heap := s.heap.push (emptyS w) }) :
    codeAny (model prog w) A (.call (.builtin "set.__new__") ⟨[.type "set", a], []⟩) (wants Q₁ E) s := by
  refine codeAny_of_tree ?_
  show wpAny _ A.in1 (do checkBuiltinCall "set.__new__" ⟨[.type "set", a], []⟩; again (.builtin "set.__new__" ⟨[.type "set", a], []⟩)) _ _ s
  refine wpAny_bind (wpAny_of_eq (PySem.F.newCall_set_1 a) (wpAny_pure ⟨plainId_quiet PySem.F.plain_set_new _, codeAny_builtin PySem.F.entry_set_new ?_⟩))
  rw [Around.under_plainId PySem.F.plain_set_new _]
  unfold Builtin.«set.__new__» Builtin.Frozenset.newClass
  have hsub := sub_set_self
  obtain ⟨hp, g, d, tk, os⟩ := s
  dsimp only
  wp_walk
  refine wpAny_askSetting (wpAny_pure ?_)
  dsimp only
  simp only [newObj]
  refine wpAny_bind (wpAny_alloc (wpAny_pure ?_))
  exact wpAny_pure h
set_option maxHeartbeats 3200000 in
theorem call_setT {v : Value} {T : String} {xs : List Str} {Q : Value → Shared → Prop} (hh : A.handled = none) (src : SrcT prog w s.heap v T xs) (hn1 : (onceM xs).length + 1 < scanBound)
    (h : ∀ (h' : Heap) (tk : Nat), SetT w h' s.heap.objs.size (onceM xs) → (∀ b o, b < s.heap.objs.size → s.heap.get? b = some o → h'.get? b = some o) → Q (.ref s.heap.objs.size) { s with heap := h', toks := tk }) :
    wpAny (model prog w) A (call (.type "set") [v]) Q E s := by
  obtain ⟨c, tl, hmro⟩ := PySem.F.called_set.mro
  have hmade := PySem.F.called_set.made
  have hsub := PySem.F.called_set.sub
  refine wpAny_call (codeAny_of_tree ?_)
  show wpAny _ _ (callAny (.type "set") _) _ _ _
  refine wpAny_pure ⟨Code.quiet_builtin _ (by decide +kernel), codeAny_builtin PySem.F.entry_type_call ?_⟩
  rw [Around.under_plain (weight_type_call_type "set" [v] []) rfl]
  have h1 := PySem.F.called_set.notType
  have h2 := PySem.F.called_set.canCreate
  have hct := PySem.F.typeCall_set_1 v
  repeat (any_goals (first | assumption | wp_step))
  refine codeAny_mono (new1_led v (w := w) (E := E) (Q₁ := fun obj s₁ => obj = .ref s.heap.objs.size ∧ s₁ = { s with heap := s.heap.push (emptyS w) }) ⟨rfl, rfl⟩) fun r s₁ hr => ?_
  cases r with
  | error e => exact hr
  | ok fl =>
    cases fl with
    | ret obj =>
      obtain ⟨rfl, rfl⟩ := hr
      have hS : (s.heap.push (emptyS w)).get? s.heap.objs.size = some (emptyS w) := Heap.get?_push_size _ rfl
      have hT : Shared.TypeIs { s with heap := s.heap.push (emptyS w) } (.ref s.heap.objs.size) "set" := ⟨_, hS, rfl⟩
      have hli := PySem.F.called_set.init.lookup
      have hbi := PySem.F.called_set.init.bind (.ref s.heap.objs.size)
      repeat (any_goals (first | assumption | wp_step))
      refine codeAny_mono (codeAny_call_builtin (R := wants (fun r s₂ => r = .none ∧ ∃ h' tk, s₂ = { s with heap := h', toks := tk } ∧
          SetT w h' s.heap.objs.size (onceM xs) ∧ (∀ b o, b < s.heap.objs.size → s.heap.get? b = some o → h'.get? b = some o)) E) PySem.F.called_set.init.plain PySem.F.entry_set_init (check_set_init_1 hT ?_)) fun r₂ s₂ hr₂ => ?_
      · have hk : ∀ b o, s.heap.get? b = some o → (s.heap.push (emptyS w)).get? b = some o := fun b o e => Heap.get?_push_of_some _ e
        have hTy := src.ty { s with heap := s.heap.push (emptyS w) } hk
        have hs1 := src.sub1
        have hs2 := src.sub2
        have hne := src.nd
        unfold Builtin.«set.__init__» noKeywords Builtin.Frozenset.updateFrom
        generalize hPI : pyIter = PI
        wp_walk
        subst hPI
        refine src.it _ _ _ _ hk (by rw [Heap.size_push]; exact Nat.le_succ _) fun o fp Pv St W hfp hPv hst => ?_
        refine wpAny_bind (wpAny_runValue ?_)
        have hz1 : (s.heap.push (emptyS w)).objs.size = s.heap.objs.size + 1 := size_push' _ _
        have hSf : s.heap.objs.size ∉ fp := fun z => by
          rcases hfp _ z with q | q
          · have q' : s.heap.objs.size = (s.heap.push (emptyS w)).objs.size := q
            omega
          · exact Nat.lt_irrefl _ q
        refine loopT ((W _ (by simp [hh])).toS) s.heap.objs.size hSf xs rfl hn1 hPv (xs.length - 0) 0 _ (by omega) (Nat.zero_le _) hst (setT_none w (Heap.get?_push_of_some _ hS)) fun s' hm hS' => ?_
        obtain ⟨h', g', d', tk', os'⟩ := s'
        have eg : g' = s.gens := hm.gens
        have ed : d' = s.drawn := hm.drawn
        have eo : os' = s.os := hm.os
        subst eg; subst ed; subst eo
        show wpAny _ _ _ _ _ _
        refine wpAny_pure ?_
        show wpAny _ _ (ret Value.none) _ _ _
        refine wpAny_pure ⟨rfl, h', tk', rfl, hS', fun b o hb e => ?_⟩
        refine hm.heap b o (fun z => ?_) (Heap.get?_push_of_some _ (Heap.get?_push_of_some _ e))
        rcases List.mem_cons.mp z with q | q
        · exact absurd hb (by rw [q]; exact Nat.lt_irrefl _)
        · have q := List.mem_singleton.mp q
          have q' : b = (s.heap.push (emptyS w)).objs.size := q
          omega
      · cases r₂ with
        | error e => exact hr₂
        | ok fl₂ =>
          cases fl₂ with
          | ret r =>
            obtain ⟨rfl, h', tk, rfl, hS', hk'⟩ := hr₂
            repeat (any_goals (first | assumption | wp_step))
            exact h _ _ hS' hk'
          | _ => exact hr₂.elim
    | _ => exact hr.elim
theorem srcT_list {l : Addr} {items : Array Value} {xs : List Str} {h0 : Heap} (hl : h0.IsList l items) (hi : PyProof.Rows.StrsAre items.toList xs) : SrcT prog w h0 (.ref l) "list" xs where
  ty := fun s k => by
    obtain ⟨o, ho, hc, n, hd⟩ := hl
    exact ⟨o, k _ _ ho, hc⟩
  sub1 := PySem.F.sub_list_set
  sub2 := PySem.F.sub_list_frozenset
  nd := by decide
  it := fun A E s Q k hz q => by
    have hlt : l < h0.objs.size := by
      obtain ⟨o, ho, _⟩ := hl
      exact Heap.lt_size ho
    have hl1 : s.heap.IsList l items := by
      obtain ⟨o, ho, hc, n, hd⟩ := hl
      exact ⟨o, k _ _ ho, hc, n, hd⟩
    have hsz : xs.length = items.size := by rw [← StrsAre.len_eq hi, Array.length_toList]
    refine wpAny_pyIter_list hl1 (q _ [s.heap.objs.size, l] (fun i v => items[i]? = some v) (fun i h => h.IsListIter s.heap.objs.size l i ∧ h.IsList l items) (fun A' hA => by rw [hsz]; exact Walks.list hA _ l (Nat.ne_of_lt (Nat.lt_of_lt_of_le hlt hz)) items) (fun b hb => ?_) (fun i v hv => SS.strs_at hi i v (by rw [Array.getElem?_toList]; exact hv)) ⟨⟨_, Heap.get?_push_size _ rfl, rfl, rfl⟩, (hl1.push _)⟩)
    rcases List.mem_cons.mp hb with z | z
    · exact .inl z
    · rw [List.mem_singleton.mp z]; exact .inr hlt
theorem srcT_tup {l : Addr} {items : Array Value} {xs : List Str} {h0 : Heap} (hl : h0.IsTuple l items) (hi : PyProof.Rows.StrsAre items.toList xs) : SrcT prog w h0 (.ref l) "tuple" xs where
  ty := fun s k => by
    obtain ⟨o, ho, hc, n, hd⟩ := hl
    exact ⟨o, k _ _ ho, hc⟩
  sub1 := PySem.F.sub_tuple_set
  sub2 := PySem.F.sub_tuple_frozenset
  nd := by decide
  it := fun A E s Q k hz q => by
    have hlt : l < h0.objs.size := by
      obtain ⟨o, ho, _⟩ := hl
      exact Heap.lt_size ho
    have hl1 : s.heap.IsTuple l items := by
      obtain ⟨o, ho, hc, n, hd⟩ := hl
      exact ⟨o, k _ _ ho, hc, n, hd⟩
    have hsz : xs.length = items.size := by rw [← StrsAre.len_eq hi, Array.length_toList]
    refine wpAny_pyIter_tuple hl1 (q _ [s.heap.objs.size, l] (fun i v => items[i]? = some v) (fun i h => h.IsTupleIter s.heap.objs.size l i ∧ h.IsTuple l items) (fun A' hA => by rw [hsz]; exact Walks.tuple hA _ l (Nat.ne_of_lt (Nat.lt_of_lt_of_le hlt hz)) items) (fun b hb => ?_) (fun i v hv => SS.strs_at hi i v (by rw [Array.getElem?_toList]; exact hv)) ⟨⟨_, Heap.get?_push_size _ rfl, rfl, rfl⟩, (hl1.push _)⟩)
    rcases List.mem_cons.mp hb with z | z
    · exact .inl z
    · rw [List.mem_singleton.mp z]; exact .inr hlt
theorem srcT_str {x : Str} {t : Tok} {h0 : Heap} : SrcT prog w h0 (.str x t) "str" (x.cps.toList.map fun c => ⟨#[c]⟩) where
  ty := fun s k => PySem.typeIs_str _ _ _
  sub1 := PySem.F.sub_str_set
  sub2 := PySem.F.sub_str_frozenset
  nd := by decide
  it := fun A E s Q k hz q => by
    refine wpAny_pyIter_str fun o St W hst => ?_
    refine q o [s.heap.objs.size] _ St (fun A' hA => by rw [List.length_map, Array.length_toList]; exact W A' hA) (fun b hb => .inl (List.mem_singleton.mp hb)) (fun i v hv => ?_) hst
    obtain ⟨c, u, hc, rfl⟩ := hv
    refine ⟨u, ?_⟩
    rw [List.getD_eq_getElem?_getD, List.getElem?_map, Array.getElem?_toList, hc]
    rfl
/-- sorted of a set of texts -/
theorem sorted_setT {a : Addr} {l : List Str} {Q : Value → Shared → Prop} (R : SetT w s.heap a l) (hh : A.handled = none) (hu : A.units + 65 < cLine)
    (hQ : ∀ (s' : Shared) (p : Addr) (out : List Value) (c : Nat) (ns : List Str), (∀ b o, s.heap.get? b = some o → s'.heap.get? b = some o) → s'.gens = s.gens → s'.os = s.os → s.heap.objs.size ≤ p →
      s'.heap.get? p = some (seqObj "list" out.toArray c) → PySem.W.EachIs (fun v y => ∃ t, v = Value.str y t) out (ns.mergeSort (PySem.W.dataLe false fun y : Str => PyData.str y)) → ns.Perm l → ns.length ≤ sizeLine → Q (.ref p) s') :
    wpAny (model prog w) A (call (.builtin "sorted") [.ref a]) Q E s := by
  obtain ⟨⟨o, es, ep, t, ho, hex, hd, g, pe, hb, hf, hr, hl⟩, nd⟩ := R
  refine Calls.call_function_entry kind_sorted plain_sorted entry_sorted (args_sorted1 _) ?_
  unfold Builtin.«sorted»
  refine wpAny_bind (m := checkCount "sorted" 1 1 _) (wpAny_pure ?_)
  refine wpAny_bind (L2.collect_set (A := A.in1) hh ⟨o, ho, hex.1, hd⟩ hf hb hr hl fun s1 vs k1 hz g1 o1 pm => ?_)
  have shape : ∀ v ∈ vs, ∃ y t, v = Value.str y t := fun v hv => by
    obtain ⟨e, he, q⟩ := List.mem_map.mp (pm.mem_iff.mp hv)
    obtain ⟨k, tk, h1, _⟩ := g e he
    exact ⟨k, tk, by rw [← q]; exact h1⟩
  have each : ∀ us : List Value, (∀ v ∈ us, ∃ y t, v = Value.str y t) → ∃ ns : List Str, ns = us.map (fun v => txOf (0, v)) ∧ PySem.W.EachIs (fun v y => ∃ t, v = Value.str y t) us ns := by
    intro us
    induction us with
    | nil => exact fun _ => ⟨[], rfl, .nil⟩
    | cons v us ih =>
      intro hs
      obtain ⟨y, t, rfl⟩ := hs v List.mem_cons_self
      obtain ⟨ns, e, q⟩ := ih fun u hu => hs u (List.mem_cons_of_mem _ hu)
      exact ⟨y :: ns, by rw [e]; rfl, .cons ⟨t, rfl⟩ q⟩
  obtain ⟨ns, en, ei⟩ := each vs shape
  have pn : ns.Perm l := by
    rw [en]
    have q := pm.map (fun v => txOf (0, v))
    rw [List.map_map] at q
    exact q.trans pe
  have hnl : ns.length ≤ sizeLine := by
    rw [en, List.length_map, pm.length_eq, List.length_map, Array.length_toList]
    have : scanBound ≤ sizeLine := by decide
    omega
  refine wpAny_bind (wpAny_newList ?_ (by rw [← List.length_map (f := fun v => txOf (0, v)), ← en]; exact hnl))
  have hoL : (s1.heap.push (seqObj "list" vs.toArray 0)).get? s1.heap.objs.size = some (seqObj "list" vs.toArray 0) := Heap.get?_push_size _ rfl
  have er : PySem.W.EachIs (fun v y => ∃ as, Reads (s1.heap.push (seqObj "list" vs.toArray 0)) v (PyData.str y) as ∧ s1.heap.objs.size ∉ as) vs ns := ei.mono fun v y ⟨t, e⟩ => by
    subst e
    exact ⟨[], by first | exact Reads.str | exact .str _ _ | constructor, by simp⟩
  refine wpAny_bind (wpAny_holding (PySem.W.list_sort_data (enc := fun y : Str => PyData.str y) hoL ei er ?_ ?_ hnl ?_ fun out ho he => ?_))
  · intro d hd' d' hd2
    obtain ⟨x, _, rfl⟩ := List.mem_map.mp hd'
    obtain ⟨y, _, rfl⟩ := List.mem_map.mp hd2
    rfl
  · refine .inr fun d hd' => ?_
    obtain ⟨x, _, rfl⟩ := List.mem_map.mp hd'
    exact ⟨nofun, nofun⟩
  · intro y _
    show A.in1.units + 1 + _ < cLine
    have : (PyData.str y).depth ≤ 1 := by first | decide | simp [PyData.depth] | rfl
    have e : A.in1.units ≤ A.units + 1 := by first | exact Nat.le_refl _ | (simp [Around.in1])
    omega
  obtain ⟨c, hc⟩ := sortedHeap_at (vs := vs) (out := out.toArray) hoL
  refine wpAny_pure ⟨_, rfl, hQ _ s1.heap.objs.size out c ns (fun b u e => ?_) g1 o1 hz hc he pn hnl⟩
  have q := k1 b u e
  have hlt := Heap.lt_size q
  show (sortedHeap (s1.heap.push (seqObj "list" vs.toArray 0)) s1.heap.objs.size vs out.toArray).get? b = some u
  rw [sortedHeap_old (Nat.ne_of_lt hlt) (by rw [size_push']; exact Nat.lt_succ_of_lt hlt)]
  exact Heap.get?_push_of_some _ q
end
end Fm

/-! FmS3: sorted(set(e)), len(set(e)), sorted(d). -/
namespace Fm
open PySem PySem.Spec PyProof.Rows L2
section
variable {X : Cx} {W : WX}
def SrcV (K : PySem.W.Frag) (H : Hp) (v : V) (xs : List Str) : Prop :=
  (∃ l, v = .ref l ∧ (SqL K H l (xs.map V.str) ∨ L2.SqT K H l (xs.map V.str))) ∨ ∃ y, v = .str y ∧ xs = y.cps.toList.map fun c => ⟨#[c]⟩
def tOnSet (K : PySem.W.Frag) (ta : TE) (r : List Str → Hp → VK → Prop) : TE := fun σ H Q => ta σ H fun v H1 => ∃ xs : List Str, SrcV K H1 v xs ∧ (onceM xs).length + 1 < scanBound ∧ r (onceM xs) H1 Q
theorem srcV_src {pins : List (Addr × Obj)} {s : Shared} {σ : L2.St} {H : Hp} {v : V} {u : Value} {xs : List Str} (I : Inv X pins σ H s) (h : SrcV X.K H v xs) (r : RelV v u) : ∃ T, SrcT X.prog X.w s.heap u T xs := by
  rcases h with ⟨l, rfl, hq⟩ | ⟨y, rfl, rfl⟩
  · cases r
    rcases hq with hq | hq
    · obtain ⟨its, r, pl, hz⟩ := I.list hq
      exact ⟨_, srcT_list pl.isList (by simpa using strsAre_of r)⟩
    · obtain ⟨its, r, pl, hz⟩ := I.tuple hq
      exact ⟨_, srcT_tup pl (by simpa using strsAre_of r)⟩
  · obtain ⟨t, rfl⟩ := r
    exact ⟨_, srcT_str⟩
theorem pe_onSet {a : Expr} {ta : TE} {r : List Str → Hp → VK → Prop} {id : String} {x : Str} {p p2 q pos : Pos} (hc : X.calm = true) (hg : Gl X x) (hm : X.mg x = none) (hv : bootBuiltins x = some (.builtin id)) (hg2 : Gl X "set") (hm2 : X.mg "set" = none)
    (rule : ∀ (pins : List (Addr × Obj)) (s : Shared) (σ : L2.St) (H : Hp) (b : Addr) (l : List Str) (Q : VK), Inv X pins σ H s → SetT X.w s.heap b l → r l H Q → wpAny (model X.prog X.w) X.A (call (.builtin id) [.ref b]) (EP X pins σ Q) X.xe s)
    (ha : PE X a ta) (hn : x ≠ "__name__" := by decide) (hdb : (x == ("__debug__" : Str)) = false := by decide)
    (na : starEach [a] X.env = (false, eval a X.env) :: starEach [] X.env := by rfl) : PE X (.Call (.Name x p) [.Call (.Name "set" p2) [a] [] q] [] pos) (tOnSet X.K ta r) := by
  refine ⟨fun pins s σ H Q I h => ?_⟩
  refine Call_ (ld_blt I hg hm hv ?_ hn hdb)
  refine PyProof.Rows.callWith_builtin1 (PyProof.Rows.args_cons ?_ rfl) rfl rfl
  refine Call_ (ld_blt I hg2 hm2 boot_set ?_)
  refine PyProof.Rows.callWith_type1 (PyProof.Rows.args_cons (thn (ha.run pins s σ H _ I h) fun v s1 ⟨x, H1, I1, r1, q1⟩ => PyProof.Rows.args_nil ?_) na) na rfl
  obtain ⟨xs, hsrc, h1, q1⟩ := q1
  obtain ⟨T, src⟩ := srcV_src I1 hsrc r1
  refine call_setT (I1.ok.hd hc) src h1 fun h' tk hS hk => ?_
  refine PyProof.Rows.args_nil ?_
  have I2 : Inv X pins σ H1 { s1 with heap := h', toks := tk } := I1.kept fun b o e => hk b o (Heap.lt_size e) e
  exact rule _ _ _ _ _ _ _ I2 hS q1
/-- the texts that a value gives -/
def setSrc (P S : List O) : D → Option (List Tx)
  | .t (.lst l) => strsOf l
  | .t (.tup l) => strsOf l
  | .t (.str s) => some (s.map fun c => [c])
  | .ref i => match (P ++ S)[i]? with
    | some (.lst l) => (trees l).bind strsOf
    | _ => none
  | _ => none
theorem RVs.fit {K : PySem.W.Frag} {Z : Addr → Prop} {H : Hp} : ∀ {ts : List T} {vs : List V} {bs : List Tx}, RVs K Z H ts vs → strsOf ts = some bs → ∀ b ∈ bs, b.length ≤ sizeLine
  | _, _, _, .nil, h => by cases h; simp
  | _, _, _, .cons t v ts vs h1 h2, h => by
    cases t <;> simp [strsOf] at h
    obtain ⟨l, h3, rfl⟩ := h
    cases h1
    intro b hb
    rcases List.mem_cons.mp hb with rfl | hb
    · assumption
    · exact RVs.fit h2 h3 b hb
theorem setSrc_ok {K : PySem.W.Frag} {P S : List O} {c : Cf} {H : Hp} {d : D} {v : V} {xs : List Tx} (hS : Sim K P S c H) (r : RD K c H d v) (h : setSrc P S d = some xs) : SrcV K H v (xs.map sv) ∧ ∀ b ∈ xs, b.length ≤ sizeLine := by
  cases d with
  | ref i =>
    obtain ⟨_, rfl⟩ := r
    unfold setSrc at h
    simp only at h
    split at h
    · rename_i l e
      obtain ⟨vs, hH, hl, rr⟩ := hS.ro _ _ e
      cases et : trees l with
      | none => rw [et] at h; cases h
      | some ts =>
        rw [et] at h
        have q := rr.trees et
        have e2 := q.strs h
        subst e2
        exact ⟨.inl ⟨_, rfl, .inl (SqL.of hH)⟩, q.fit h⟩
    · cases h
  | t d =>
    cases d <;> first | exact nomatch (show none = some _ from h) | skip
    · rename_i s
      cases h
      cases r
      refine ⟨.inr ⟨_, rfl, ?_⟩, ?_⟩
      · rw [List.map_map]
        show _ = (sv s).cps.toList.map _
        rw [sv_list]
        rfl
      · intro b hb
        obtain ⟨c, _, rfl⟩ := List.mem_map.mp hb
        show 1 ≤ sizeLine
        decide
    · rename_i l
      have h : strsOf l = some xs := h
      cases r with
      | lst _ a vs h1 h2 h3 h4 =>
        have e2 := h4.strs h
        subst e2
        exact ⟨.inl ⟨_, rfl, .inl (SqL.of h2)⟩, h4.fit h⟩
    · rename_i l
      have h : strsOf l = some xs := h
      obtain ⟨a, vs, rfl, _, h2, h3, h4⟩ := RD.tupE (c := c) r
      have e2 := h4.strs h
      subst e2
      exact ⟨.inl ⟨_, rfl, .inr h2⟩, h4.fit h⟩
theorem addM_map (l : List Tx) (k : Tx) : addM (l.map sv) (sv k) = (addM l k).map sv := by
  unfold addM
  by_cases h : k ∈ l
  · rw [if_pos h, if_pos (List.mem_map_of_mem h)]
  · rw [if_neg h, if_neg fun z => h (by obtain ⟨y, hy, e⟩ := List.mem_map.mp z; rw [← sv_inj e]; exact hy)]; rfl
theorem onceM_map (l : List Tx) : onceM (l.map sv) = (onceM l).map sv := by
  unfold onceM
  have : ∀ (r m : List Tx), (r.map sv).foldl addM (m.map sv) = (r.foldl addM m).map sv := by
    intro r
    induction r with
    | nil => exact fun m => rfl
    | cons x r ih => intro m; rw [List.map_cons, List.foldl_cons, List.foldl_cons, addM_map, ih]
  exact this l []
theorem dataLe_tx (a b : Tx) : PySem.W.dataLe false (fun y : Str => PyData.str y) (sv a) (sv b) = decide (a ≤ b) := by
  rw [← le_str' a b, PySem.W.dataLe_eq]; rfl
theorem sort_map (l : List Tx) : (l.map sv).mergeSort (PySem.W.dataLe false fun y : Str => PyData.str y) = (sortTx l).map sv := by
  unfold sortTx
  rw [List.map_mergeSort (s := PySem.W.dataLe false fun y : Str => PyData.str y)]
  intro a _ b _
  exact (dataLe_tx a b).symm
theorem tx_total (a b : Tx) : (decide (a ≤ b) || decide (b ≤ a)) = true := by
  rcases List.le_total a b with h | h <;> simp [h]
theorem tx_trans (a b c : Tx) (h1 : decide (a ≤ b) = true) (h2 : decide (b ≤ c) = true) : decide (a ≤ c) = true := by
  simp only [decide_eq_true_eq] at *
  exact List.le_trans h1 h2
theorem sortTx_sorted (l : List Tx) : (sortTx l).Pairwise (· ≤ ·) := by
  have := List.pairwise_mergeSort (le := fun a b : Tx => decide (a ≤ b)) (fun a b c => tx_trans a b c) tx_total l
  exact this.imp fun h => of_decide_eq_true h
theorem sortTx_perm (l : List Tx) : (sortTx l).Perm l := List.mergeSort_perm l _
theorem sortTx_of_perm {l m : List Tx} (h : l.Perm m) : sortTx l = sortTx m :=
  List.Perm.eq_of_pairwise (le := (· ≤ ·)) (fun a b _ _ h1 h2 => List.le_antisymm h1 h2) (sortTx_sorted l) (sortTx_sorted m) (((sortTx_perm l).trans h).trans (sortTx_perm m).symm)
theorem map_sv_of {ns : List Str} {l : List Tx} (h : ns.Perm (l.map sv)) : ∃ m : List Tx, ns = m.map sv ∧ m.Perm l := by
  refine ⟨ns.map fun s => s.cps.toList, ?_, ?_⟩
  · rw [List.map_map]
    have : ((sv ∘ fun s : Str => s.cps.toList)) = id := funext fun z => sv_of z
    rw [this, List.map_id]
  · have := h.map fun s : Str => s.cps.toList
    rw [List.map_map] at this
    have e : ((fun s : Str => s.cps.toList) ∘ sv) = id := funext fun z => sv_list z
    rw [e, List.map_id] at this
    exact this
/-- a list of texts that was laid -/
theorem vals_each : ∀ {out : List Value} {ys : List Str}, PySem.W.EachIs (fun v y => ∃ t, v = Value.str y t) out ys → Vals (ys.map V.str) out
  | _, _, .nil => .nil
  | _, _, .cons h r => .cons (by obtain ⟨t, e⟩ := h; exact ⟨t, e⟩) (vals_each r)
theorem strs_rvs {K : PySem.W.Frag} {Z : Addr → Prop} {H : Hp} : ∀ (l : List Tx), (∀ b ∈ l, b.length ≤ sizeLine) → RVs K Z H (l.map T.str) ((l.map sv).map V.str)
  | [], _ => .nil
  | b :: l, h => .cons _ _ _ _ (.str b (h b List.mem_cons_self)) (strs_rvs l fun x hx => h x (List.mem_cons_of_mem _ hx))
def rSortS : List Str → Hp → VK → Prop := fun l H Q => ∃ ls : List Tx, l = ls.map sv ∧ ∀ p, H p = none → (((sortTx ls).map sv).map V.str).length ≤ sizeLine → Q (.ref p) (upd H p (.lst (((sortTx ls).map sv).map V.str)))
theorem rule_sortS (hc : X.calm = true) (hu : X.A.units + 65 < cLine) (pins : List (Addr × Obj)) (s : Shared) (σ : L2.St) (H : Hp) (b : Addr) (l : List Str) (Q : VK) (I : Inv X pins σ H s) (R : SetT X.w s.heap b l) (q : rSortS l H Q) :
    wpAny (model X.prog X.w) X.A (call (.builtin "sorted") [.ref b]) (EP X pins σ Q) X.xe s := by
  obtain ⟨ls, rfl, q⟩ := q
  refine sorted_setT R (I.ok.hd hc) hu fun s' p out c ns k g o hp hg he pn hz => ?_
  obtain ⟨m, rfl, pm⟩ := map_sv_of pn
  rw [sort_map, sortTx_of_perm pm] at he
  have hv := vals_each he
  have hlen : (((sortTx ls).map sv).map V.str).length ≤ sizeLine := by
    rw [List.length_map, List.length_map, (sortTx_perm ls).length_eq, ← pm.length_eq]
    simpa using hz
  have hn : H p = none := I.hok.fresh hp
  have J : Inv X pins σ (upd H p (.lst (((sortTx ls).map sv).map V.str))) { s with heap := s'.heap, gens := s'.gens, drawn := s'.drawn, toks := s'.toks } :=
    I.call (ch := []) (Un.laid k hp hn) (I.hok.laid k hp ⟨hlen, out, c, hv, hg⟩) (by rw [g]; exact I.bare) (fun _ z => nomatch z)
  have e : s' = { s with heap := s'.heap, gens := s'.gens, drawn := s'.drawn, toks := s'.toks } := by
    cases s'
    cases s
    cases o
    rfl
  rw [e]
  exact ⟨.ref p, _, J, rfl, q p hn hlen⟩
def rLenS : List Str → Hp → VK → Prop := fun l H Q => Q (.int l.length) H
theorem rule_lenS (pins : List (Addr × Obj)) (s : Shared) (σ : L2.St) (H : Hp) (b : Addr) (l : List Str) (Q : VK) (I : Inv X pins σ H s) (R : SetT X.w s.heap b l) (q : rLenS l H Q) :
    wpAny (model X.prog X.w) X.A (call (.builtin "len") [.ref b]) (EP X pins σ Q) X.xe s := by
  obtain ⟨⟨o, es, ep, t, ho, hex, hd, g, pe, hb, hf, hr, hl⟩, nd⟩ := R
  have hn : es.size = l.length := by rw [← Array.length_toList, ← List.length_map (f := txOf), pe.length_eq]
  refine call_len_set ho hex hd hf (by have : scanBound = 4096 := rfl; omega) ⟨.int l.length, H, I.tok _, ⟨_, by rw [hn]⟩, q⟩
/-- a list cell or a tree of what was sorted -/
def mSortSet (fin : List T → List O → List O → R D) (f : ME) : ME := fun P ρ S => (f P ρ S).bind fun d S1 => match setSrc P S1 d with
  | some xs => if (onceM xs).length + 1 < scanBound then fin ((sortTx (onceM xs)).map T.str) P S1 else .no
  | none => .no
def mkT : List T → List O → List O → R D := fun l _ S => .ok (.t (.lst l)) S
def mkC : List T → List O → List O → R D := fun l P S => .ok (.ref (P.length + S.length)) (S ++ [.lst (l.map D.t)])
/-- what may be made of a new list -/
def MkOk (K : PySem.W.Frag) (fin : List T → List O → List O → R D) : Prop := ∀ (P S : List O) (c : Cf) (H : Hp) (p : Addr) (ts : List T) (vs : List V) (W : WX) (Q : VK), Sim K P S c H → H p = none → vs.length ≤ sizeLine → RVs K c.Z H ts vs → Post K P c H (RD K) (fin ts P S) W Q → Q (.ref p) (upd H p (.lst vs))
theorem mk_T {K : PySem.W.Frag} : MkOk K mkT := fun P S c H p ts vs W Q hS hp hl hr h => h (c.zed p) (.ref p) _ (Ev.alloc hS hp) (Sim.alloc hS hp) (.lst _ p vs (.inr rfl) upd_same hl (RVs.mono' (Ev.alloc hS hp) hr))
theorem mk_C {K : PySem.W.Frag} : MkOk K mkC := fun P S c H p ts vs W Q hS hp hl hr h => newC hS hp hl hr.rds h
theorem pm_sortSet {fin : List T → List O → List O → R D} {a : Expr} {f : ME} {p p2 q pos : Pos} (hf : MkOk X.K fin) (hc : X.calm = true) (hu : X.A.units + 65 < cLine) (hg : Gl X "sorted") (hm : X.mg "sorted" = none) (hg2 : Gl X "set") (hm2 : X.mg "set" = none) (ha : PM X W a f)
    (na : starEach [a] X.env = (false, eval a X.env) :: starEach [] X.env := by rfl) : PM X W (.Call (.Name "sorted" p) [.Call (.Name "set" p2) [a] [] q] [] pos) (mSortSet fin f) := by
  refine ⟨pe_weak (pe_onSet (r := rSortS) hc hg hm boot_sorted hg2 hm2 (rule_sortS hc hu) ha.run (na := na)) fun σ H Q h => ?_⟩
  obtain ⟨c, P, ρ, S, hE, hS, h⟩ := h
  refine tM_bind hE hS h fun d v S1 c1 H1 e1 E1 s1 r1 h1 => ?_
  cases es : setSrc P S1 d with
  | none => rw [es] at h1; exact h1.elim
  | some xs =>
    rw [es] at h1
    simp only at h1
    obtain ⟨hsrc, hfit⟩ := setSrc_ok s1 r1 es
    by_cases hb : (onceM xs).length + 1 < scanBound
    · rw [if_pos hb] at h1
      refine ⟨xs.map sv, hsrc, by rw [onceM_map, List.length_map]; exact hb, onceM xs, onceM_map xs, fun p hp hl => ?_⟩
      have hf2 : ∀ b ∈ sortTx (onceM xs), b.length ≤ sizeLine := fun b hb => hfit b ((onceM_mem b xs).mp ((sortTx_perm _).mem_iff.mp hb))
      exact hf P S1 c1 H1 p _ _ W Q s1 hp hl (strs_rvs _ hf2) h1
    · rw [if_neg hb] at h1; exact h1.elim
def mLenSet (f : ME) : ME := fun P ρ S => (f P ρ S).bind fun d S1 => match setSrc P S1 d with
  | some xs => if (onceM xs).length + 1 < scanBound then .ok (.t (.int (onceM xs).length)) S1 else .no
  | none => .no
theorem pm_lenSet {a : Expr} {f : ME} {p p2 q pos : Pos} (hc : X.calm = true) (hg : Gl X "len") (hm : X.mg "len" = none) (hg2 : Gl X "set") (hm2 : X.mg "set" = none) (ha : PM X W a f)
    (na : starEach [a] X.env = (false, eval a X.env) :: starEach [] X.env := by rfl) : PM X W (.Call (.Name "len" p) [.Call (.Name "set" p2) [a] [] q] [] pos) (mLenSet f) := by
  refine ⟨pe_weak (pe_onSet (r := rLenS) hc hg hm boot_len hg2 hm2 rule_lenS ha.run (na := na)) fun σ H Q h => ?_⟩
  obtain ⟨c, P, ρ, S, hE, hS, h⟩ := h
  refine tM_bind hE hS h fun d v S1 c1 H1 e1 E1 s1 r1 h1 => ?_
  cases es : setSrc P S1 d with
  | none => rw [es] at h1; exact h1.elim
  | some xs =>
    rw [es] at h1
    simp only at h1
    obtain ⟨hsrc, hfit⟩ := setSrc_ok s1 r1 es
    by_cases hb : (onceM xs).length + 1 < scanBound
    · rw [if_pos hb] at h1
      refine ⟨xs.map sv, hsrc, by rw [onceM_map, List.length_map]; exact hb, ?_⟩
      show Q (.int ((onceM (xs.map sv)).length)) H1
      rw [onceM_map, List.length_map]
      exact h1 c1 _ H1 (Ev.refl s1) s1 (.int _)
    · rw [if_neg hb] at h1; exact h1.elim
end
end Fm

/-! FmS4: sorted of lists and of dicts, in trees and in cells. -/
namespace Fm
open PySem PySem.Spec PyProof.Rows L2
section
variable {X : Cx} {W : WX}
def At.tr : At → T
  | .int i => .int i
  | .str s => .str s
def At.vl : At → V
  | .int i => .int i
  | .str s => .str (sv s)
theorem At.rv {K : PySem.W.Frag} {Z : Addr → Prop} {H : Hp} (k : At) (h : k.Fit) : RV K Z H k.tr k.vl := by
  cases k with
  | int i => exact .int i
  | str s => exact .str s h
theorem ats_rvs {K : PySem.W.Frag} {Z : Addr → Prop} {H : Hp} : ∀ (ks : List At), (∀ k ∈ ks, k.Fit) → RVs K Z H (ks.map At.tr) (ks.map At.vl)
  | [], _ => .nil
  | k :: ks, h => .cons _ _ _ _ (k.rv (h k List.mem_cons_self)) (ats_rvs ks fun x hx => h x (List.mem_cons_of_mem _ hx))
theorem key_shape {P : Program} {w : World} {k : At} {v : Value} (h : (mixKind P w).is (At.key k) v = true) : RelV k.vl v := by
  cases k with
  | int i =>
    rcases keyIs_shape (show keyIs (Sum.inl i) v = true from h) with ⟨j, t, ek, ev⟩ | ⟨z, t, ek, ev⟩
    · cases ek
      exact ⟨t, ev⟩
    · cases ek
  | str s =>
    rcases keyIs_shape (show keyIs (Sum.inr (sv s)) v = true from h) with ⟨j, t, ek, ev⟩ | ⟨z, t, ek, ev⟩
    · cases ek
    · cases ek
      exact ⟨t, ev⟩
theorem at_reads {h : Heap} {u : Value} (k : At) (r : RelV k.vl u) : ∃ as, Reads h u k.tr.pd as ∧ ∀ a, a ∉ as := by
  cases k with
  | int i =>
    obtain ⟨t, rfl⟩ := r
    exact ⟨[], .int i t, by simp⟩
  | str s =>
    obtain ⟨t, rfl⟩ := r
    exact ⟨[], .str (sv s) t, by simp⟩
theorem at_pd (k : At) : k.tr.plain = true ∧ k.tr.low = true := by
  cases k <;> exact ⟨rfl, rfl⟩
theorem keys_each : ∀ {us : List Value} {ks : List At} {P : Program} {w : World}, us.length = ks.length → (∀ (i : Nat) (v : Value) (k : At), us[i]? = some v → ks[i]? = some k → (mixKind P w).is (At.key k) v = true) → PySem.W.EachIs (fun (u : Value) (k : At) => RelV k.vl u) us ks
  | [], [], _, _, _, _ => .nil
  | [], k :: ks, _, _, hl, _ => nomatch hl
  | v :: us, [], _, _, hl, _ => nomatch hl
  | v :: us, k :: ks, P, w, hl, h => .cons (key_shape (h 0 v k rfl rfl)) (keys_each (P := P) (w := w) (by simpa using hl) fun i v' k' h1 h2 => h (i + 1) v' k' (by simpa using h1) (by simpa using h2))
theorem vals_ats : ∀ {us : List Value} {ks : List At}, PySem.W.EachIs (fun (u : Value) (k : At) => RelV k.vl u) us ks → Vals (ks.map At.vl) us
  | _, _, .nil => .nil
  | _, _, .cons h r => .cons h (vals_ats r)
def sortAt (ks : List At) : List At := ks.mergeSort fun a b => T.le a.tr b.tr
theorem sortAt_tr (ks : List At) : (sortAt ks).map At.tr = sortL (ks.map At.tr) := by
  unfold sortAt sortL
  rw [List.map_mergeSort (s := T.le)]
  intro a _ b _
  rfl
theorem sort_keys (hcalm : X.calm = true) (hu : X.A.units + 65 < cLine) {pins : List (Addr × Obj)} {s : Shared} {σ : L2.St} {H : Hp} {a : Addr} {kvs : List (Key × V)} {ks : List At} {Q : VK} (I : Inv X pins σ H s) (hd : Rd H a (.dK kvs)) (hks : kvs.map (·.1) = ks.map At.key) (ok : SortOk (ks.map At.tr))
    (q : ∀ p, H p = none → ((sortAt ks).map At.vl).length ≤ sizeLine → Q (.ref p) (upd H p (.lst ((sortAt ks).map At.vl)))) : wpAny (model X.prog X.w) X.A (call (.builtin "sorted") [.ref a]) (EP X pins σ Q) X.xe s := by
  obtain ⟨z, lo, vs, rel, dd⟩ := dk_rd I.hok hd
  obtain ⟨ep, hat⟩ := dd.dictAt
  have hkeys : vs.map (·.1) = ks.map At.key := rel.keys.symm.trans hks
  have hl : vs.length = ks.length := by
    have e := congrArg List.length hkeys
    rwa [List.length_map, List.length_map] at e
  have h16 : vs.length ≤ sizeLine := by
    have e := congrArg List.length hks
    rw [List.length_map, List.length_map] at e
    rw [hl, ← e]; exact z
  refine Calls.call_function_entry PyProof.Rows.kind_sorted PyProof.Rows.plain_sorted PyProof.Rows.entry_sorted (PyProof.Rows.args_sorted1 _) ?_
  unfold Builtin.«sorted»
  refine wpAny_bind (m := checkCount "sorted" 1 1 _) (wpAny_pure ?_)
  refine wpAny_bind (PySem.W.kdu_collect (A := X.A.in1) (PySem.W.kdl_dict (knd := mixKind X.prog X.w) (kvs := vs) (ep := ep) lo) (I.ok.hd hcalm) hat h16 fun h' tk acc hk hacc => ?_)
  have hal : acc.toList.length = ks.length := by rw [Array.length_toList, hacc.1, hl]
  have ei : PySem.W.EachIs (fun (u : Value) (k : At) => RelV k.vl u) acc.toList ks := keys_each (P := X.prog) (w := X.w) hal fun i v k h1 h2 => by
    obtain ⟨k', x, e1, e2⟩ := hacc.2 i v (by rw [← Array.getElem?_toList]; exact h1)
    have e3 : (vs.map (·.1))[i]? = some k' := by rw [List.getElem?_map, e1]; rfl
    rw [hkeys, List.getElem?_map, h2] at e3
    cases e3
    exact e2
  have I1 : Inv X pins σ H { s with heap := h', toks := tk } := I.kept hk
  have hz : ks.length ≤ sizeLine := by rw [← hl]; exact h16
  refine wpAny_bind (wpAny_newList ?_ (by rw [hal]; exact hz))
  have hoL : (h'.push (seqObj "list" acc.toList.toArray 0)).get? h'.objs.size = some (seqObj "list" acc.toList.toArray 0) := Heap.get?_push_size _ rfl
  show wpAny _ _ _ _ _ { s with heap := h'.push (seqObj "list" acc.toList.toArray 0), toks := tk }
  have er : PySem.W.EachIs (fun (v : Value) (k : At) => ∃ as, Reads (h'.push (seqObj "list" acc.toList.toArray 0)) v k.tr.pd as ∧ h'.objs.size ∉ as) acc.toList ks := ei.mono fun v k r => by
    obtain ⟨as, r1, r2⟩ := at_reads (h := h'.push (seqObj "list" acc.toList.toArray 0)) k r
    exact ⟨as, r1, r2 _⟩
  have hmap : (ks.map fun k : At => k.tr.pd) = T.pds (ks.map At.tr) := by rw [pds_map]
  refine wpAny_bind (wpAny_holding (PySem.W.list_sort_data (s := { s with heap := h'.push (seqObj "list" acc.toList.toArray 0), toks := tk }) (enc := fun k : At => k.tr.pd) hoL ei er (by rw [hmap]; exact ok.2.1) (by rw [hmap]; exact ok.2.2.1) hz ?_ fun out ho he => ?_))
  · intro k hk
    have hd : k.tr.pd.depth ≤ 40 := of_decide_eq_true ((at_pd k).2)
    show X.A.in1.units + 1 + k.tr.pd.depth < cLine
    have e : X.A.in1.units ≤ X.A.units + 1 := Nat.le_refl _
    omega
  have es : ks.mergeSort (PySem.W.dataLe false fun k : At => k.tr.pd) = sortAt ks := by
    unfold sortAt
    exact congrArg (ks.mergeSort ·) (funext fun x => funext fun y => by rw [PySem.W.dataLe_eq]; rfl)
  rw [es] at he
  obtain ⟨e', he'⟩ := PyProof.Rows.sortedHeap_at (vs := acc.toList) (out := out.toArray) hoL
  have hlen : ((sortAt ks).map At.vl).length ≤ sizeLine := by
    rw [List.length_map]
    unfold sortAt
    rw [List.length_mergeSort]; exact hz
  refine wpAny_pure ⟨_, rfl, .ref h'.objs.size, upd H h'.objs.size (.lst ((sortAt ks).map At.vl)), I1.laid (t' := tk) (fun b u e => ?_) (Nat.le_refl _)
    (show ObjOk X.prog X.w _ _ _ (.lst ((sortAt ks).map At.vl)) from ⟨hlen, out, e', vals_ats he, he'⟩), rfl, q _ (I1.hok.fresh (Nat.le_refl _)) hlen⟩
  have hb : b < h'.objs.size := Heap.lt_size e
  rw [PyProof.Rows.sortedHeap_old (Nat.ne_of_lt hb) (by rw [size_push']; exact Nat.lt_succ_of_lt hb)]
  exact Heap.get?_push_of_some _ e
open Classical in
noncomputable def sortIn (P S : List O) : D → Option (List T)
  | .t (.lst l) => if SortOk l then some (sortL l) else none
  | .t (.scr l) => some (sortL (l.map .int))
  | .t (.dic l) => if SortOk (l.map fun p => p.1.tr) then some (sortL (l.map fun p => p.1.tr)) else none
  | .ref i => match (P ++ S)[i]? with
    | some (.lst l) => match trees l with
      | some l => if SortOk l then some (sortL l) else none
      | none => none
    | some (.dic l) => if SortOk (l.map fun p => p.1.tr) then some (sortL (l.map fun p => p.1.tr)) else none
    | _ => none
  | _ => none
noncomputable def sortG (fin : List T → List O → List O → R D) : List D → List O → List O → R D := fun ds P S => match ds with
  | [d] => match sortIn P S d with
    | some l => fin l P S
    | none => .no
  | _ => .no
theorem RKs.kv {K : PySem.W.Frag} {Z : Addr → Prop} {H : Hp} : ∀ {l : List (At × T)} {kvs : List (Key × V)}, RKs K Z H l kvs → kvs.map (·.1) = (l.map (·.1)).map At.key ∧ ∀ k ∈ l.map (·.1), k.Fit
  | _, _, .nil => ⟨rfl, fun _ h => nomatch h⟩
  | _, _, .cons k t v ts vs h0 h1 h2 => by
    obtain ⟨e, f⟩ := RKs.kv h2
    refine ⟨by rw [List.map_cons, e]; rfl, fun x hx => ?_⟩
    rcases List.mem_cons.mp hx with rfl | hx
    · exact h0
    · exact f x hx
theorem KR.kv {K : PySem.W.Frag} {c : Cf} {H : Hp} : ∀ {l : List (At × D)} {kvs : List (Key × V)}, KR K c H l kvs → kvs.map (·.1) = (l.map (·.1)).map At.key ∧ ∀ k ∈ l.map (·.1), k.Fit
  | _, _, .nil => ⟨rfl, fun _ h => nomatch h⟩
  | (k, d) :: l, (k', v) :: kvs, .cons h1 h2 => by
    obtain ⟨e, f⟩ := KR.kv h2
    obtain ⟨⟨h0, rfl⟩, _⟩ := h1
    refine ⟨by rw [List.map_cons, e]; rfl, fun x hx => ?_⟩
    rcases List.mem_cons.mp hx with rfl | hx
    · exact h0
    · exact f x hx
/-- sorted(e): a list, a dict -/
theorem sortG_ok {fin : List T → List O → List O → R D} (hf : MkOk X.K fin) (hcalm : X.calm = true) (hu : X.A.units + 65 < cLine) {pins : List (Addr × Obj)} {s : Shared} {σ : L2.St} {H : Hp} {c : Cf} {P S : List O} {d : D} {v : V} {u : Value} {l : List T} {Q : VK} (I : Inv X pins σ H s) (hS : Sim X.K P S c H) (r : RD X.K c H d v) (ru : RelV v u) (e : sortIn P S d = some l) (q : Post X.K P c H (RD X.K) (fin l P S) W Q) :
    wpAny (model X.prog X.w) X.A (call (.builtin "sorted") [u]) (EP X pins σ Q) X.xe s := by
  have base : ∀ {l' : List T} {vs : List V} {a : Addr}, v = .ref a → SqL X.K H a vs → RVs X.K c.Z H l' vs → SortOk l' → l = sortL l' → wpAny (model X.prog X.w) X.A (call (.builtin "sorted") [u]) (EP X pins σ Q) X.xe s := fun {l' vs a} ev hq rr ok el => by
    subst ev
    cases ru
    subst el
    exact sort_core hu I hq rr ok fun p vs' hp rv hl => hf P S c H p _ vs' W Q hS hp hl rv q
  have dict : ∀ {kvs : List (Key × V)} {ks : List At} {a : Addr}, v = .ref a → Rd H a (.dK kvs) → kvs.map (·.1) = ks.map At.key → (∀ k ∈ ks, k.Fit) → SortOk (ks.map At.tr) → l = sortL (ks.map At.tr) → wpAny (model X.prog X.w) X.A (call (.builtin "sorted") [u]) (EP X pins σ Q) X.xe s := fun {kvs ks a} ev hd hk ft ok el => by
    subst ev
    cases ru
    subst el
    refine sort_keys hcalm hu I hd hk ok fun p hp hl => ?_
    refine hf P S c H p _ _ W Q hS hp hl ?_ q
    rw [← sortAt_tr]
    refine ats_rvs _ fun k hk => ft k ?_
    exact (List.mergeSort_perm ks _).mem_iff.mp hk
  unfold sortIn at e
  split at e
  · rename_i l'
    by_cases ok : SortOk l'
    · rw [if_pos ok] at e
      cases e
      cases r with
      | lst _ a vs h1 h2 h3 h4 => exact base rfl (SqL.of h2) h4 ok rfl
    · rw [if_neg ok] at e; cases e
  · rename_i l'
    cases e
    obtain ⟨a, rfl, _, h2, h3⟩ := RD.scrE (c := c) r
    exact base rfl h2 (RVs.ints l') (sortOk_ints l') rfl
  · rename_i l'
    by_cases ok : SortOk (l'.map fun p => p.1.tr)
    · rw [if_pos ok] at e
      cases e
      cases r with
      | dic _ a kvs h1 h2 h3 =>
        obtain ⟨e1, f1⟩ := h3.kv
        have em : (l'.map (·.1)).map At.tr = l'.map fun p => p.1.tr := by rw [List.map_map]; rfl
        exact dict rfl h2 e1 f1 (by rw [em]; exact ok) (by rw [em])
    · rw [if_neg ok] at e; cases e
  · rename_i i
    obtain ⟨_, rfl⟩ := r
    split at e
    · rename_i l' e0
      obtain ⟨vs, hH, hl, rr⟩ := hS.ro _ _ e0
      cases et : trees l' with
      | none => rw [et] at e; cases e
      | some ts =>
        rw [et] at e
        simp only at e
        by_cases ok : SortOk ts
        · rw [if_pos ok] at e
          cases e
          exact base rfl (SqL.of hH) (rr.trees et) ok rfl
        · rw [if_neg ok] at e; cases e
    · rename_i l' e0
      obtain ⟨kvs, hH, rr⟩ := hS.ro _ _ e0
      by_cases ok : SortOk (l'.map fun p => p.1.tr)
      · rw [if_pos ok] at e
        cases e
        obtain ⟨e1, f1⟩ := KR.kv rr
        have em : (l'.map (·.1)).map At.tr = l'.map fun p => p.1.tr := by rw [List.map_map]; rfl
        exact dict rfl (.inl hH) e1 f1 (by rw [em]; exact ok) (by rw [em])
      · rw [if_neg ok] at e; cases e
    · cases e
  · cases e
noncomputable def mSort (fin : List T → List O → List O → R D) (f : ME) : ME := fun P ρ S => (f P ρ S).bind fun d S1 => match sortIn P S1 d with
  | some l => fin l P S1
  | none => .no
def rSortV (X : Cx) (W : WX) (fin : List T → List O → List O → R D) : List V → Hp → VK → Prop := fun xs H Q => ∃ c P S d v l, xs = [v] ∧ Sim X.K P S c H ∧ RD X.K c H d v ∧ sortIn P S d = some l ∧ Post X.K P c H (RD X.K) (fin l P S) W Q
theorem pm_sort {fin : List T → List O → List O → R D} {a : Expr} {f : ME} {p pos : Pos} (hf : MkOk X.K fin) (hcalm : X.calm = true) (hu : X.A.units + 65 < cLine) (hg : Gl X "sorted") (hm : X.mg "sorted" = none) (ha : PM X W a f)
    (he : starEach [a] X.env = (false, eval a X.env) :: starEach [] X.env := by rfl) (hpl : (backTo pos (starEach [] X.env)).any (·.1) = false := by rfl) : PM X W (.Call (.Name "sorted" p) [a] [] pos) (mSort fin f) := by
  have cr : CallR X (.builtin "sorted") (rSortV X W fin) := by
    intro pins s σ H xs us Q I rx h
    obtain ⟨c, P, S, d, v, l, rfl, hS, r, e, q⟩ := h
    obtain ⟨u, rfl, ru⟩ := vals1 rx
    exact sortG_ok hf hcalm hu I hS r ru e q
  refine ⟨pe_weak (pe_callB cr hg hm boot_sorted (pa_cons ha.run pa_nil he) (by decide) (by decide) he hpl) fun σ H Q h => ?_⟩
  obtain ⟨c, P, ρ, S, hE, hS, h⟩ := h
  refine tM_bind hE hS h fun d v S1 c1 H1 e1 E1 s1 r1 h1 => ?_
  cases es : sortIn P S1 d with
  | none => rw [es] at h1; exact h1.elim
  | some l =>
    rw [es] at h1
    exact ⟨c1, P, S1, d, v, l, rfl, s1, r1, es, h1⟩
end
end Fm

/-! FmK: calls with keywords. -/
namespace Fm
open PySem PySem.Spec PyProof.Rows L2
def pickI {α : Type} (ix : List Nat) (l : List α) : List α := ix.filterMap fun j => l[j]?
def gI {α : Type} (n m : Nat) (ix : List Nat) (us ws : List α) : List α := if us.length = n ∧ ws.length = m then pickI ix (us ++ ws) else []
theorem pickI_pair {α β : Type} {R : α → β → Prop} {l : List α} {m : List β} (h : Paired R l m) : ∀ ix : List Nat, Paired R (pickI ix l) (pickI ix m)
  | [] => .nil
  | j :: ix => by
    have ih := pickI_pair h ix
    unfold pickI at ih ⊢
    rw [List.filterMap_cons, List.filterMap_cons]
    have key : (∃ a b, l[j]? = some a ∧ m[j]? = some b ∧ R a b) ∨ (l[j]? = none ∧ m[j]? = none) := by
      clear ih
      induction h generalizing j with
      | nil => exact .inr ⟨by simp, by simp⟩
      | cons h1 _ ih2 =>
        cases j with
        | zero => exact .inl ⟨_, _, rfl, rfl, h1⟩
        | succ j => simpa using ih2 j
    rcases key with ⟨a, b, e1, e2, r⟩ | ⟨e1, e2⟩
    · rw [e1, e2]; exact .cons r ih
    · rw [e1, e2]; exact ih
theorem paired_len {α β : Type} {R : α → β → Prop} {l : List α} {m : List β} (h : Paired R l m) : l.length = m.length := by
  induction h with
  | nil => rfl
  | cons _ _ ih => rw [List.length_cons, List.length_cons, ih]
theorem paired_app {α β : Type} {R : α → β → Prop} {l l' : List α} {m m' : List β} (h : Paired R l m) (h' : Paired R l' m') : Paired R (l ++ l') (m ++ m') := by
  induction h with
  | nil => exact h'
  | cons a _ ih => exact .cons a ih
theorem gI_pair {α β : Type} {R : α → β → Prop} {l l' : List α} {m m' : List β} {a b : Nat} {ix : List Nat} (h : Paired R l m) (h' : Paired R l' m') : Paired R (gI a b ix l l') (gI a b ix m m') := by
  unfold gI
  rw [paired_len h, paired_len h']
  split
  · exact pickI_pair (paired_app h h') ix
  · exact .nil
theorem vals_paired : ∀ {vs : List V} {us : List Value}, Vals vs us ↔ Paired RelV vs us := by
  intro vs us
  constructor
  · intro h; induction h with
    | nil => exact .nil
    | cons a _ ih => exact .cons a ih
  · intro h; induction h with
    | nil => exact .nil
    | cons a _ ih => exact .cons a ih
section
variable {K : PySem.W.Frag}
theorem fun_kb {x qual : Str} {st : Stmt} {f : Addr} {fd : FuncData} (F : L2.Fun K x qual st f fd) {ps : List Str} (ks : List Str) (n m : Nat) (ix : List Nat) (hp : ps ≠ [])
    (h : ∀ (kV doc pm : Value) (an : Option Addr) (cdv ct : Value) (us ws : List Value), us.length = n → ws.length = m → bindArgs (PySem.W.fnOf x qual (defArgs st) (defBody st) (defScope st) .none kV doc pm an cdv ct) ⟨us, ks.zip ws⟩ = pure (ps.zip (pickI ix (us ++ ws)))) :
    KBinds K fd ps ks (gI n m ix) (gI n m ix) := by
  obtain ⟨oc, od, kV, doc, pm, an, cdv, ct, osl, rfl, lk, hcd⟩ := F.ex
  refine ⟨fun s us ws _ hl => ?_, fun a b => vals_paired.mpr (gI_pair (vals_paired.mp a) (vals_paired.mp b))⟩
  unfold gI at hl ⊢
  by_cases c : us.length = n ∧ ws.length = m
  · rw [if_pos c]
    exact .of_eq (h kV doc pm an cdv ct us ws c.1 c.2)
  · rw [if_neg c] at hl
    exact absurd (List.length_eq_zero_iff.mp hl.symm) hp
end
section
variable {X : Cx} {W : WX} {k n : Nat} {f : Addr} {fd : FuncData} {ps ks : List Str} {g : MF} {x : Str} {p pos kpos : Pos} {e : Expr} {es : List Expr} {fs fk : MA} {fa : ME} {kws : List Keyword} {nm : Option Str}
structure PMK (X : Cx) (W : WX) (kws : List Keyword) (f : MA) : Prop where
  run : PK X kws (tMA X.K W f)
theorem pmk_nil : PMK X W [] mNil := by
  refine ⟨⟨fun pos pins s σ H Q I h => ?_⟩⟩
  obtain ⟨c, P, ρ, S, hE, hS, h⟩ := h
  exact pk_nil.run pos pins s σ H Q I (h c [] H (Ev.refl hS) hS .nil)
theorem pmk_cons (ha : PM X W e fa) (hr : PMK X W kws fk) : PMK X W (⟨nm, e, kpos⟩ :: kws) (mCons fa fk) := by
  refine ⟨⟨fun pos pins s σ H Q I h => (pk_cons ha.run hr.run).run pos pins s σ H Q I ?_⟩⟩
  obtain ⟨c, P, ρ, S, hE, hS, h⟩ := h
  refine tM_bind hE hS h fun d v S1 c1 H1 e1 E1 s1 r1 h1 => ?_
  refine tMA_bind E1 s1 h1 fun ds vs S2 c2 H2 e2 E2 s2 r2 h2 => ?_
  exact h2 c2 (v :: vs) H2 (Ev.refl s2) s2 (.cons (r1.mono e2) r2)
def mCallK (g : MF) (n m : Nat) (ix : List Nat) (fs fk : MA) : ME := fun P ρ S => (fs P ρ S).bind fun ds S1 => (fk P ρ S1).bind fun zs S2 => if ds.length = n ∧ zs.length = m then (g (pickI ix (ds ++ zs)) P S2).nx else .no
theorem tCallK_of {n1 m1 : Nat} {ix : List Nat} {σ : L2.St} {H : Hp} {Q : VK} (hix : ∀ l : List D, l.length = n1 + m1 → (pickI ix l).length = n) (h : tM X.K W (mCallK g n1 m1 ix fs fk) σ H Q) {E : XK} : tCallK (spM X.K n g) (gI n1 m1 ix) E (tMA X.K W fs) (tMA X.K W fk) σ H Q := by
  obtain ⟨c, P, ρ, S, hE, hS, h⟩ := h
  refine tMA_bind hE hS h fun ds vs S1 c1 H1 e1 E1 s1 r1 h1 => ?_
  refine tMA_bind E1 s1 h1 fun zs ws S2 c2 H2 e2 E2 s2 r2 h2 => ?_
  by_cases hc : ds.length = n1 ∧ zs.length = m1
  · rw [if_pos hc] at h2
    have r1' := RDs.mono e2 r1
    have e : pickI ix (ds ++ zs) = gI n1 m1 ix ds zs := by unfold gI; rw [if_pos hc]
    have rr : RDs X.K c2 H2 (pickI ix (ds ++ zs)) (gI n1 m1 ix vs ws) := by
      rw [e]
      exact gI_pair r1' r2
    have hl : (pickI ix (ds ++ zs)).length = n := hix _ (by rw [List.length_append, hc.1, hc.2])
    have hl2 : (gI n1 m1 ix vs ws).length = n := by rw [← paired_len rr]; exact hl
    exact ⟨hl2, c2, P, S2, _, s2, rr, Post.nx h2⟩
  · rw [if_neg hc] at h2
    exact h2.elim
theorem pm_callK {n1 m1 : Nat} {ix : List Nat} (F : FnOk X.prog X.w X.K X.mg X.base CX0 k f fd ps (spM X.K n g)) (hr : Room k X.A) (hg : Gl X x) (hm : X.mg x = some (.ref f)) (hk : PySem.W.keepIn X.K (.ref f) = true) (hb : KBinds X.K fd ps ks (gI n1 m1 ix) (gI n1 m1 ix))
    (ha : PMA X W (e :: es) fs) (hkw : PMK X W kws fk) (hix : ∀ l : List D, l.length = n1 + m1 → (pickI ix l).length = n) (hall : (backToKw pos (keywordEach kws X.env)).all (·.1.isSome) = true := by rfl) (hks : (backToKw pos (keywordEach kws X.env)).filterMap (·.1) = ks := by rfl)
    (hdb : (x == ("__debug__" : Str)) = false := by decide) (he : starEach (e :: es) X.env = (false, eval e X.env) :: starEach es X.env := by rfl)
    (hpl : ((backTo pos (starEach (e :: es) X.env)).any (·.1) || (backToKw pos (keywordEach kws X.env)).any (·.1.isNone)) = false := by rfl) :
    PM X W (.Call (.Name x p) (e :: es) kws pos) (mCallK g n1 m1 ix fs fk) :=
  ⟨pe_weak (pe_callK F hr hg hm hk hb pass0 ha.run hkw.run hall hks hdb he hpl) fun _ _ _ h => tCallK_of hix h⟩
theorem pm_callK0 {m1 : Nat} {ix : List Nat} (F : FnOk X.prog X.w X.K X.mg X.base CX0 k f fd ps (spM X.K n g)) (hr : Room k X.A) (hg : Gl X x) (hm : X.mg x = some (.ref f)) (hk : PySem.W.keepIn X.K (.ref f) = true) (hb : KBinds X.K fd ps ks (gI 0 m1 ix) (gI 0 m1 ix))
    (hkw : PMK X W kws fk) (hix : ∀ l : List D, l.length = 0 + m1 → (pickI ix l).length = n) (hall : (backToKw pos (keywordEach kws X.env)).all (·.1.isSome) = true := by rfl) (hks : (backToKw pos (keywordEach kws X.env)).filterMap (·.1) = ks := by rfl)
    (hdb : (x == ("__debug__" : Str)) = false := by decide) (hpl : ((backTo pos (starEach [] X.env)).any (·.1) || (backToKw pos (keywordEach kws X.env)).any (·.1.isNone)) = false := by rfl) :
    PM X W (.Call (.Name x p) [] kws pos) (mCallK g 0 m1 ix mNil fk) := by
  refine ⟨⟨fun pins s σ H Q I h => ?_⟩⟩
  have h2 := tCallK_of (E := fun _ _ _ => False) hix h
  obtain ⟨c, P, ρ, S, hE, hS, h2⟩ := h2
  have h3 := h2 c [] H (Ev.refl hS) hS .nil
  refine wpAny_Call_Name_kw (ld_glob I hg hm ?_ hdb)
  refine PySem.W.callWith_KW0 (h₀ := X.base) I.ok.mod.kin hk hall ?_ hpl
  refine thn (hkw.run.run pos pins s σ H _ I h3) fun ws s2 ⟨zs, H2, I2, rz, q2⟩ => ⟨I2.kIn, ?_⟩
  rw [hks]
  exact run_fnk F hr hb pass0 I2 .nil rz q2
end
end Fm

/-! FmF: a cell that is changed no more is a tree. -/
namespace Fm
open PySem PySem.Spec PyProof.Rows L2
section
variable {K : PySem.W.Frag} {P S : List O} {c : Cf} {H : Hp}
theorem set_at {P S : List O} {j : Nat} {u : O} {i : Nat} {o : O} (h : (P ++ S.set j u)[i]? = some o) : (i = P.length + j ∧ o = u) ∨ (i ≠ P.length + j ∧ (P ++ S)[i]? = some o) := by
  by_cases hi : i < P.length
  · rw [List.getElem?_append_left hi] at h
    exact .inr ⟨by omega, by rw [List.getElem?_append_left hi]; exact h⟩
  · rw [List.getElem?_append_right (by omega)] at h
    by_cases e : i - P.length = j
    · rw [e] at h
      have hj : j < S.length := by
        have := (List.getElem?_eq_some_iff.mp h).1
        rw [List.length_set] at this
        exact this
      rw [List.getElem?_set_self hj] at h
      cases h
      exact .inl ⟨by omega, rfl⟩
    · rw [List.getElem?_set_ne (by omega)] at h
      exact .inr ⟨by omega, by rw [List.getElem?_append_right (by omega)]; exact h⟩
theorem Sim.kill (h : Sim K P S c H) (j : Nat) : Sim K P (S.set j .dead) c H where
  n := by rw [List.length_set]; exact h.n
  ro := fun i o e => by
    rcases set_at e with ⟨_, rfl⟩ | ⟨_, e⟩
    · trivial
    · exact h.ro i o e
  nz := fun i o e l => by
    rcases set_at e with ⟨_, rfl⟩ | ⟨_, e⟩
    · cases l
    · exact h.nz i o e l
  inj := fun i k o u e1 e2 l1 l2 hm => by
    rcases set_at e1 with ⟨_, rfl⟩ | ⟨_, e1⟩
    · cases l1
    · rcases set_at e2 with ⟨_, rfl⟩ | ⟨_, e2⟩
      · cases l2
      · exact h.inj i k o u e1 e2 l1 l2 hm
  z := h.z
  y := h.y
  yz := h.yz
  yc := fun i o e l => by
    rcases set_at e with ⟨_, rfl⟩ | ⟨_, e⟩
    · cases l
    · exact h.yc i o e l
/-- the cell j of the active ones becomes what never changes any more -/
theorem freeze (h : Sim K P S c H) {j : Nat} {w : O} (hj : S[j]? = some w) (hl : w.live = true) : Ev P c H (c.zed (c.m (P.length + j))) H ∧ Sim K P (S.set j .dead) (c.zed (c.m (P.length + j))) H := by
  have hk := h.kill j
  have hat : (P ++ S)[P.length + j]? = some w := by rw [List.getElem?_append_right (by omega), Nat.add_sub_cancel_left]; exact hj
  have hp : ∀ i u, (P ++ S.set j .dead)[i]? = some u → u.live = true → c.m i ≠ c.m (P.length + j) := fun i u e l => by
    rcases set_at e with ⟨_, rfl⟩ | ⟨ne, e⟩
    · cases l
    · exact fun q => ne (h.inj i _ u w e hat l hl q)
  obtain ⟨o, ho⟩ := (h.ro _ _ hat).there hl
  exact ⟨Ev.zed hk hp, Sim.zed hk hp (h.yc _ _ hat hl) ho⟩
/-- a list's cell, a dict's cell as a tree -/
def frzD (P : List O) : D → List O → Option (D × List O)
  | .t x, S => some (.t x, S)
  | .ref i, S => if P.length ≤ i then match S[i - P.length]? with
    | some (.lst l) => (trees l).map fun ts => (.t (.lst ts), S.set (i - P.length) .dead)
    | some (.dic l) => (treesK l).map fun ts => (.t (.dic ts), S.set (i - P.length) .dead)
    | _ => none else none
theorem frzD_ok {d d' : D} {S' : List O} {v : V} (h : Sim K P S c H) (r : RD K c H d v) (e : frzD P d S = some (d', S')) : ∃ c', Ev P c H c' H ∧ Sim K P S' c' H ∧ RD K c' H d' v := by
  cases d with
  | t x =>
    cases e
    exact ⟨c, Ev.refl h, h, r⟩
  | ref i =>
    obtain ⟨_, rfl⟩ := r
    unfold frzD at e
    dsimp only at e
    by_cases hi : P.length ≤ i
    · rw [if_pos hi] at e
      have hii : P.length + (i - P.length) = i := by omega
      split at e
      · rename_i l hj
        cases et : trees l with
        | none => rw [et] at e; cases e
        | some ts =>
          rw [et] at e
          cases e
          obtain ⟨e1, s1⟩ := freeze h hj rfl
          rw [hii] at e1 s1
          have hat : (P ++ S)[i]? = some (.lst l) := by rw [List.getElem?_append_right hi]; exact hj
          obtain ⟨vs, hH, hl, rr⟩ := h.ro _ _ hat
          exact ⟨_, e1, s1, RV.lst ts _ vs (.inr rfl) hH hl (RVs.mono' e1 (rr.trees et))⟩
      · rename_i l hj
        cases et : treesK l with
        | none => rw [et] at e; cases e
        | some ts =>
          rw [et] at e
          cases e
          obtain ⟨e1, s1⟩ := freeze h hj rfl
          rw [hii] at e1 s1
          have hat : (P ++ S)[i]? = some (.dic l) := by rw [List.getElem?_append_right hi]; exact hj
          obtain ⟨kvs, hH, rr⟩ := h.ro _ _ hat
          exact ⟨_, e1, s1, RV.dic ts _ kvs (.inr rfl) (.inl hH) (KR.trees (KR.mono e1 rr) et)⟩
      · cases e
    · rw [if_neg hi] at e; cases e
end
section
variable {X : Cx} {W : WX} {e : Expr} {f : ME} {sts : List Stmt} {g : MS}
def mFrz (f : ME) : ME := fun P ρ S => (f P ρ S).bind fun d S1 => lift (frzD P d S1)
theorem pm_frz (h : PM X W e f) : PM X W e (mFrz f) := by
  refine ⟨⟨fun pins s σ H Q I q => h.run.run pins s σ H Q I ?_⟩⟩
  obtain ⟨c, P, ρ, S, hE, hS, q⟩ := q
  refine tM_bind hE hS q fun d v S1 c1 H1 e1 E1 s1 r1 h1 => ?_
  cases ef : frzD P d S1 with
  | none => rw [ef] at h1; exact h1.elim
  | some p =>
    obtain ⟨d', S'⟩ := p
    rw [ef] at h1
    obtain ⟨c2, e2, s2, r2⟩ := frzD_ok s1 r1 ef
    exact h1 c2 v H1 e2 s2 r2
/-- the slot's cell is a tree from here on -/
def sFrz (i : Nat) : MS := fun P ρ S => match ρ[i]? with
  | some (some d) => match frzD P d S with
    | some (d', S') => .nx (ρ.set i (some d')) S'
    | none => .no
  | _ => .no
theorem pmb_frz (i : Nat) (h : PMB X W sts g) : PMB X W sts (sSeq (sFrz i) g) := by
  refine ⟨pss_weak h.run fun D' σ H q => ?_⟩
  obtain ⟨c, P, ρ, S, hE, hS, q⟩ := q
  unfold sSeq sFrz at q
  cases e : ρ[i]? with
  | none => rw [e] at q; exact q.elim
  | some o =>
    cases o with
    | none => rw [e] at q; exact q.elim
    | some d =>
      rw [e] at q
      simp only at q
      obtain ⟨v, hv, r⟩ := hE.get i d e
      cases ef : frzD P d S with
      | none => rw [ef] at q; exact q.elim
      | some p =>
        obtain ⟨d', S'⟩ := p
        rw [ef] at q
        obtain ⟨c2, e2, s2, r2⟩ := frzD_ok hS r ef
        refine ⟨c2, P, _, S', ?_, s2, PostS.ev hS.pl e2 q⟩
        have := (hE.mono e2).set i r2
        have es : σ.set i (some v) = σ := by
          obtain ⟨hl, hg⟩ := List.getElem?_eq_some_iff.mp hv
          rw [← hg, List.set_getElem_self]
        rw [es] at this
        exact this
end
end Fm

/-! FmT: comparisons as tests; short names. -/
namespace Fm
open PySem PySem.Spec PyProof.Rows L2
section
variable {X : Cx} {W : WX} {a b d : Expr} {fa fb fc : ME} {pos : Pos}
def mB (f : ME) : MT := fun P ρ S => (f P ρ S).bind fun d S1 => match d with
  | .t (.bl b) => .ok b S1
  | _ => .no
theorem test_of {f : ME} {t : TE} (h : ∀ σ H Q, tM X.K W f σ H Q → t σ H Q) (σ : L2.St) (H : Hp) (Q : Bool → Hp → Prop) (q : tMT X.K W (mB f) σ H Q) : tTest t σ H Q := by
  obtain ⟨c, P, ρ, S, hE, hS, q⟩ := q
  refine h _ _ _ (tM_bind hE hS q fun d v S1 c1 H1 e1 E1 s1 r1 h1 => ?_)
  cases d with
  | ref i => exact h1.elim
  | t d =>
    cases d <;> first | exact h1.elim | skip
    cases r1
    exact ⟨_, rfl, h1 c1 _ H1 (Ev.refl s1) s1 rfl⟩
theorem pmt_cmp {op : CmpOp} {g : F2} (ho : OpM X (compareOp op) g) (ha : PM X W a fa) (hb : PM X W b fb) (hm : behindInMarks op b = false := by first | exact nomark _ | rfl) : PMT X W (.Compare a [op] [b] pos) (mB (mOp2 g fa fb)) :=
  ⟨pt_weak (pt_cmpR ho.run ha.run hb.run hm) (test_of fun _ _ _ h => tOp_of h)⟩
theorem pmt_chain {op op' : CmpOp} {g g' : F2} (ho : OpM X (compareOp op) g) (ho' : OpM X (compareOp op') g') (ha : PM X W a fa) (hb : PM X W b fb) (hc : PM X W d fc) (hm : lastMarks [op, op'] [b, d] = false := by rfl) : PMT X W (.Compare a [op, op'] [b, d] pos) (mB (mChain g g' fa fb fc)) :=
  ⟨pt_weak (pt_chain ho.run ho'.run ha.run hb.run hc.run hm) (test_of fun _ _ _ h => tChain_of h)⟩
end
section
variable {X : Cx} {W : WX} {a b d : Expr} {fs : MA} {pos px py pz pt pt2 : Pos} {x y z : Str} {kt k2 : Nat}
/-- a, b = e, f with plain names -/
def sPar2 (i j : Nat) (fs : MA) : MS := fun P ρ S => (fs P ρ S).oc ρ fun ds S1 => match ds with
  | [u, v] => .nx ((ρ.set i (some u)).set j (some v)) S1
  | _ => .no
theorem pms_par2 (i j : Nat) (hc : X.calm = true) (hN : X.N.Nodup) (ha : PMA X W [a, b] fs) (hi : X.N[i]? = some x := by rfl) (hj : X.N[j]? = some y := by rfl) (hij : i ≠ j := by decide)
    (hx : X.env.scope.names.lookup x = some .local := by rfl) (hy : X.env.scope.names.lookup y = some .local := by rfl)
    (hw : swappedStores [.Tuple [.Name x px, .Name y py] kt pt] (.Tuple [a, b] k2 pt2) X.env = pure (some [x, y]) := by rfl)
    (hs : swapsWithSole [.Tuple [.Name x px, .Name y py] kt pt] (.Tuple [a, b] k2 pt2) pos.line X.env = pure false := by rfl) :
    PMS X W (.Assign [.Tuple [.Name x px, .Name y py] kt pt] (.Tuple [a, b] k2 pt2) pos) (sPar2 i j fs) := by
  refine ⟨ps_weak (ps_par hc hN hi hj hij hx hy ha.run hw hs) fun D σ H h => ?_⟩
  obtain ⟨c, P, ρ, S, hE, hS, h⟩ := h
  refine tMA_oc hE hS h fun ds vs S1 c1 H1 e1 E1 s1 r1 h1 => ?_
  match ds, vs, r1 with
  | [u, v], [u', v'], .cons q1 (.cons q2 .nil) => exact ⟨u', v', rfl, h1 c1 _ H1 (Ev.refl s1) s1 ((E1.set i q1).set j q2)⟩
  | [], _, _ => exact h1.elim
  | [_], _, _ => exact h1.elim
  | _ :: _ :: _ :: _, _, _ => exact h1.elim
def sPar3 (i j l : Nat) (fs : MA) : MS := fun P ρ S => (fs P ρ S).oc ρ fun ds S1 => match ds with
  | [u, v, w] => .nx (((ρ.set i (some u)).set j (some v)).set l (some w)) S1
  | _ => .no
theorem pms_par3 (i j l : Nat) (hc : X.calm = true) (hN : X.N.Nodup) (ha : PMA X W [a, b, d] fs) (hi : X.N[i]? = some x := by rfl) (hj : X.N[j]? = some y := by rfl) (hl : X.N[l]? = some z := by rfl) (hij : i ≠ j := by decide) (hil : i ≠ l := by decide) (hjl : j ≠ l := by decide)
    (hx : X.env.scope.names.lookup x = some .local := by rfl) (hy : X.env.scope.names.lookup y = some .local := by rfl) (hz : X.env.scope.names.lookup z = some .local := by rfl)
    (hw : swappedStores [.Tuple [.Name x px, .Name y py, .Name z pz] kt pt] (.Tuple [a, b, d] k2 pt2) X.env = pure (some [x, y, z]) := by rfl)
    (hs : swapsWithSole [.Tuple [.Name x px, .Name y py, .Name z pz] kt pt] (.Tuple [a, b, d] k2 pt2) pos.line X.env = pure false := by rfl) :
    PMS X W (.Assign [.Tuple [.Name x px, .Name y py, .Name z pz] kt pt] (.Tuple [a, b, d] k2 pt2) pos) (sPar3 i j l fs) := by
  refine ⟨ps_weak (ps_par3 hc hN hi hj hl hij hil hjl hx hy hz ha.run hw hs) fun D σ H h => ?_⟩
  obtain ⟨c, P, ρ, S, hE, hS, h⟩ := h
  refine tMA_oc hE hS h fun ds vs S1 c1 H1 e1 E1 s1 r1 h1 => ?_
  match ds, vs, r1 with
  | [u, v, w], [u', v', w'], .cons q1 (.cons q2 (.cons q3 .nil)) => exact ⟨u', v', w', rfl, h1 c1 _ H1 (Ev.refl s1) s1 (((E1.set i q1).set j q2).set l q3)⟩
  | [], _, _ => exact h1.elim
  | [_], _, _ => exact h1.elim
  | [_, _], _, _ => exact h1.elim
  | _ :: _ :: _ :: _ :: _, _, _ => exact h1.elim
end
theorem r65 {k : Nat} {A : Around} (hr : Room k A) : A.units + 65 < cLine := by have := hr.un; omega
theorem r64 {k : Nat} {A : Around} (hr : Room k A) : A.units + 64 < cLine := by have := hr.un; omega
theorem r1 {k : Nat} {A : Around} (hr : Room k A) : A.units + 1 < cLine := by have := hr.un; omega
theorem bt_len : bootBuiltins "len" = some (.builtin "len") := PySem.boot_len
theorem bt_abs : bootBuiltins "abs" = some (.builtin "abs") := by decide +kernel
theorem bt_max : bootBuiltins "max" = some (.builtin "max") := by decide +kernel
theorem bt_min : bootBuiltins "min" = some (.builtin "min") := by decide +kernel
theorem bt_all : bootBuiltins "all" = some (.builtin "all") := by decide +kernel
theorem bt_any : bootBuiltins "any" = some (.builtin "any") := by decide +kernel
theorem bt_sum : bootBuiltins "sum" = some (.builtin "sum") := by decide +kernel
theorem bt_repr : bootBuiltins "repr" = some (.builtin "repr") := by decide +kernel
theorem bt_isinstance : bootBuiltins "isinstance" = some (.builtin "isinstance") := by decide +kernel
theorem bt_int : bootBuiltins "int" = some (.type "int") := by decide +kernel
theorem bt_str : bootBuiltins "str" = some (.type "str") := by decide +kernel
theorem bt_bool : bootBuiltins "bool" = some (.type "bool") := by decide +kernel
theorem bt_list : bootBuiltins "list" = some (.type "list") := by decide +kernel
theorem bt_tuple : bootBuiltins "tuple" = some (.type "tuple") := by decide +kernel
theorem bt_dict : bootBuiltins "dict" = some (.type "dict") := by decide +kernel
structure Hd (K : PySem.W.Frag) (mg : Str → Option Value) (x : Str) (qual : Str) (st : Stmt) where
  f : Addr
  fd : FuncData
  F : L2.Fun K x qual st f fd
  m : mg x = some (.ref f)
section
variable {P : Program} {w : World} {K : PySem.W.Frag} {mg : Str → Option Value} {base : Heap}
theorem fnOk_no {k n : Nat} {f : Addr} {fd : FuncData} {ps : List Str} : FnOk P w K mg base CX0 k f fd ps (spM K n fun _ _ _ => .no) :=
  ⟨fun vs H Q E h => (by obtain ⟨_, _, _, _, _, _, _, h⟩ := h; exact h.elim), fun A outer s H args us vs Q E _ _ _ _ h => (by obtain ⟨_, _, _, _, _, _, _, h⟩ := h; exact h.elim)⟩
theorem nil_at {i : Nat} {o : O} (e : (([] : List O) ++ [])[i]? = some o) : False := by simp at e
theorem law_start {g : MF} {H : Hp} {a : Addr} {ns : List Int} {n : Nat} {E : XK} (hg : ∀ l : List Int, l.length ≤ n → ∃ S, g [.t (.scr l)] [] [] = .ok (.t (.bl true)) S) (hl : ns.length ≤ n) (hn : n ≤ 63) (hO : Only H) (hS : SqL K H a (ns.map V.int)) : spM K 1 g [.ref a] H (fun v _ => v = .bl true) E := by
  obtain ⟨S', e⟩ := hg ns hl
  have hz : ns.length ≤ sizeLine := Nat.le_trans (Nat.le_trans hl hn) (by decide)
  have sim : ∀ Z : Addr → Prop, (∀ b, Z b → ∃ u, H b = some u) → Sim K [] [] ⟨0, fun _ => 0, Z, fun _ => False⟩ H := fun Z hZ =>
    { n := rfl, ro := fun i o e => (nil_at e).elim, nz := fun i o e => (nil_at e).elim, inj := fun i j o u e => (nil_at e).elim, z := hZ, y := fun a h => False.elim h, yz := fun a h => False.elim h, yc := fun i o e => (nil_at e).elim }
  have fin : ∀ Z : Addr → Prop, (∀ b, Z b → ∃ u, H b = some u) → RV K Z H (.scr ns) (.ref a) → spM K 1 g [.ref a] H (fun v _ => v = .bl true) E := fun Z hZ r => by
    refine ⟨rfl, ⟨0, fun _ => 0, Z, fun _ => False⟩, [], [], [.t (.scr ns)], sim Z hZ, .cons r .nil, ?_⟩
    rw [e]
    intro c' v H' _ _ rv
    cases rv
    rfl
  rcases hS with h | ⟨o, its, k, h1, h2, h3, h4, h5, h6⟩
  · refine fin (fun b => b = a) (fun b hb => ?_) ?_
    · rw [hb]
      rcases h with h | ⟨o, h⟩
      · exact ⟨_, h⟩
      · exact ⟨_, h⟩
    · rcases h with h | ⟨o, h⟩
      · exact .scr1 ns a hz rfl h
      · exact .scr ns a o hz rfl h
  · exact fin (fun _ => False) (fun b h => False.elim h) (.scrK ns a hz ⟨o, its, k, h1, h2, h3, h4, h5, h6⟩)
end
end Fm

/-! FmC: ways to see a call. -/
namespace Fm
open PySem PySem.Spec PyProof.Rows L2
/-- the caller's store is kept, what is handed back is a tree (or a cell that was made within, seen as a tree) -/
def pureZ (g : MF) : MF := fun ds P S => match g ds (P ++ S) [] with
  | .ok d S' => match frzD (P ++ S) d S' with
    | some (.t x, _) => .ok (.t x) S
    | _ => .no
  | _ => .no
/-- the callee sees the last cell alone as one that it may change -/
def lastF (g : MF) : MF := fun ds P S => match g ds (P ++ S.take (S.length - 1)) (S.drop (S.length - 1)) with
  | .ok d S' => .ok d (S.take (S.length - 1) ++ S')
  | .ex x S' => .ex x (S.take (S.length - 1) ++ S')
  | .no => .no
section
variable {K : PySem.W.Frag} {P S S1 S2 : List O} {c c' : Cf} {H H' : Hp} {n : Nat} {g : MF}
theorem sp_pureZ : ∀ vs H Q E, spM K n (pureZ g) vs H Q E → spM K n g vs H Q E := by
  rintro vs H Q E ⟨hn, c, P, S, ds, hS, hr, h⟩
  refine ⟨hn, c, P ++ S, [], ds, hS.lock, hr, ?_⟩
  unfold pureZ at h
  generalize g ds (P ++ S) [] = r at h
  cases r with
  | ex x S' => exact h.elim
  | no => exact h
  | ok d S' =>
    simp only at h
    cases ef : frzD (P ++ S) d S' with
    | none => rw [ef] at h; exact h.elim
    | some p =>
      obtain ⟨d', S2⟩ := p
      rw [ef] at h
      cases d' with
      | ref i => exact h.elim
      | t x =>
        intro c' v H' ev s' rd
        obtain ⟨c2, e2, s2, r2⟩ := frzD_ok s' rd ef
        have ev2 := ev.trans hS.lock.pl e2
        exact h { c2 with n := c.n } v H' (hS.forget ev2 s2).1 (hS.forget ev2 s2).2 r2
theorem Sim.assoc (h : Sim K P (S1 ++ S2) c H) : Sim K (P ++ S1) S2 c H where
  n := by have := h.n; rw [List.length_append] at this ⊢; omega
  ro := fun i o e => h.ro i o (by rw [← List.append_assoc]; exact e)
  nz := fun i o e => h.nz i o (by rw [← List.append_assoc]; exact e)
  inj := fun i j o u e1 e2 => h.inj i j o u (by rw [← List.append_assoc]; exact e1) (by rw [← List.append_assoc]; exact e2)
  z := h.z
  y := h.y
  yz := h.yz
  yc := fun i o e => h.yc i o (by rw [← List.append_assoc]; exact e)
theorem Sim.unassoc (h : Sim K (P ++ S1) S2 c H) : Sim K P (S1 ++ S2) c H where
  n := by have := h.n; rw [List.length_append] at this ⊢; omega
  ro := fun i o e => h.ro i o (by rw [List.append_assoc]; exact e)
  nz := fun i o e => h.nz i o (by rw [List.append_assoc]; exact e)
  inj := fun i j o u e1 e2 => h.inj i j o u (by rw [List.append_assoc]; exact e1) (by rw [List.append_assoc]; exact e2)
  z := h.z
  y := h.y
  yz := h.yz
  yc := fun i o e => h.yc i o (by rw [List.append_assoc]; exact e)
theorem Ev.less (h : Ev (P ++ S1) c H c' H') : Ev P c H c' H' :=
  ⟨h.z, h.rd, h.rdD, h.n, h.m, fun i o e l => h.b i o (by rw [List.getElem?_append_left (List.getElem?_eq_some_iff.mp e).1]; exact e) l, h.y, h.fz⟩
theorem sp_last : ∀ vs H Q E, spM K n (lastF g) vs H Q E → spM K n g vs H Q E := by
  rintro vs H Q E ⟨hn, c, P, S, ds, hS, hr, h⟩
  have e : S.take (S.length - 1) ++ S.drop (S.length - 1) = S := List.take_append_drop _ _
  refine ⟨hn, c, P ++ S.take (S.length - 1), S.drop (S.length - 1), ds, Sim.assoc (by rw [e]; exact hS), hr, ?_⟩
  unfold lastF at h
  generalize g ds (P ++ S.take (S.length - 1)) (S.drop (S.length - 1)) = r at h
  cases r with
  | ok d S' => exact fun c' v H' ev s' rd => h c' v H' ev.less s'.unassoc rd
  | ex x S' => exact fun c' H' ev s' => (h c' H' ev.less s'.unassoc)
  | no => exact h
variable {Pg : Program} {w : World} {mg : Str → Option Value} {base : Heap} {k : Nat} {f : Addr} {fd : FuncData} {ps : List Str}
theorem ok_tree (F : FnOk Pg w K mg base CX0 k f fd ps (spM K n g)) : FnOk Pg w K mg base CX0 k f fd ps (spM K n (pureZ g)) := L2.FnOk.imp F sp_pureZ
theorem ok_new (F : FnOk Pg w K mg base CX0 k f fd ps (spM K n g)) : FnOk Pg w K mg base CX0 k f fd ps (spM K n (newF g)) := L2.FnOk.imp F sp_new
theorem ok_last (F : FnOk Pg w K mg base CX0 k f fd ps (spM K n g)) : FnOk Pg w K mg base CX0 k f fd ps (spM K n (lastF g)) := L2.FnOk.imp F sp_last
end
end Fm

/-! FmR: e[::-1], min and max of lists, list(range(n)), d.get. -/
namespace Fm
open PySem PySem.Spec PyProof.Rows L2
section
variable {X : Cx} {W : WX} {e : Expr} {f : ME}
/-! ### e[::-1] -/
def tRevA (K : PySem.W.Frag) (te : TE) : TE := fun σ H Q => te σ H fun x H1 => (∃ a xs, x = .ref a ∧ SqL K H1 a xs ∧ ∀ p, H1 p = none → xs.length ≤ sizeLine → Q (.ref p) (upd H1 p (.lst xs.reverse))) ∨ ∃ z : Tx, x = .str (sv z) ∧ z.length ≤ sizeLine ∧ Q (.str (sv z.reverse)) H1
theorem rev_text (z : Tx) : (⟨((Builtin.Str.strSliceIndices none none (-1) (sv z).length).filterMap ((sv z).cps[·]?)).toArray⟩ : Str) = sv z.reverse := by
  show (⟨_⟩ : Str) = ⟨z.reverse.toArray⟩
  congr 1
  rw [sv_len, PyProof.Rows.picked_rev]
  congr 1
  apply List.ext_getElem?
  intro i
  rw [List.filterMap_map]
  have hs : ∀ l : List Nat, (∀ k ∈ l, k < z.length) → l.filterMap ((fun j => (sv z).cps[j]?) ∘ fun k => z.length - 1 - k) = l.map fun k => z.getD (z.length - 1 - k) 0 := by
    intro l
    induction l with
    | nil => exact fun _ => rfl
    | cons k l ih =>
      intro h
      have hk := h k List.mem_cons_self
      have hc : (sv z).cps[z.length - 1 - k]? = some (z.getD (z.length - 1 - k) 0) := by
        show (z.toArray)[z.length - 1 - k]? = _
        rw [List.getElem?_toArray, List.getD_eq_getElem?_getD, List.getElem?_eq_getElem (by omega)]
        rfl
      rw [List.filterMap_cons, List.map_cons, ih fun x hx => h x (List.mem_cons_of_mem _ hx)]
      simp only [Function.comp, hc]
  rw [hs _ fun k hk => List.mem_range.mp hk, List.getElem?_map]
  by_cases hi : i < z.length
  · rw [List.getElem?_range hi, List.getElem?_reverse hi]
    show some (z.getD (z.length - 1 - i) 0) = _
    rw [List.getD_eq_getElem?_getD, List.getElem?_eq_getElem (by omega)]
    rfl
  · rw [List.getElem?_eq_none (by rw [List.length_range]; omega), List.getElem?_eq_none (by rw [List.length_reverse]; omega)]
    rfl
theorem pe_revA {te : TE} {k : Nat} {p1 p2 p3 pos : Pos} (he : PE X e te) : PE X (.Subscript e (.Slice none none (some (.UnaryOp .USub (.Constant (.int 1) k p1) p2)) p3) pos) (tRevA X.K te) := by
  refine ⟨fun pins s σ H Q I h => ?_⟩
  refine Subscript_ (thn (he.run pins s σ H _ I h) fun v s1 ⟨x, H1, I1, r1, q1⟩ => ?_)
  have hst : PO X (some (.UnaryOp .USub (.Constant (.int 1) k p1) p2)) (tPart (tUn (rU fun i => .int (-i)) (tC (.int 1)))) := po_some (pe_un un_neg pe_int)
  refine wpAny_Slice (thn (po_none.run pins s1 σ H1 (fun o H2 => o = none ∧ H2 = H1) I1 ⟨rfl, rfl⟩) fun vl s2 ⟨l, H2, I2, pl, el, e2⟩ => ?_)
  subst el e2
  refine thn (po_none.run pins s2 σ H2 (fun o H3 => o = none ∧ H3 = H2) I2 ⟨rfl, rfl⟩) fun vu s3 ⟨u, H3, I3, pu, eu, e3⟩ => ?_
  subst eu e3
  refine thn (hst.run pins s3 σ H3 (fun o H4 => o = some (-1) ∧ H4 = H3) I3 ⟨1, rfl, -1, rfl, rfl, rfl⟩) fun vs s4 ⟨o, H4, I4, ps, eo, e4⟩ => ?_
  subst eo e4
  have I5 : Inv X pins σ H4 { s4 with heap := s4.heap.push { cls := .type "slice", data := .fields #[vl, vu, vs] } } := I4.kept (t' := s4.toks) fun b ob q => Heap.get?_push_of_some _ q
  rcases q1 with ⟨a, xs, ex, hx, q⟩ | ⟨z, ex, hz, q⟩
  · subst ex
    cases r1
    obtain ⟨its, r, ht, hz⟩ := I5.list hx
    have hlen := r.length
    show wpAny (model X.prog X.w) X.A (subscriptTail e (.Slice none none (some (.UnaryOp .USub (.Constant (.int 1) k p1) p2)) p3) (.ref a) (.ref s4.heap.objs.size)) (EP X pins σ Q) X.xe { s4 with heap := s4.heap.push { cls := .type "slice", data := .fields #[vl, vu, vs] } }
    refine tail_any (ops := [.ref a, .ref s4.heap.objs.size]) ht.isList.typeIs (PySem.slot_list_getitem.lookup) ?_ (by with_unfolding_all rfl)
    refine wpAny_getItem_list_slice ht.isList (Heap.IsSliceOf.new _ vl vu vs) pl pu ps (by decide) ?_ (by rw [List.size_toArray]; omega)
    rw [PySem.W.krv_pick]
    refine ⟨.ref _, _, I5.laid (t' := s4.toks) (o := .lst xs.reverse) (fun b ob q => Heap.get?_push_of_some _ q) (Nat.le_refl _) ?_, rfl, q _ (I5.hok.fresh (Nat.le_refl _)) hz⟩
    exact ⟨by rw [List.length_reverse]; exact hz, _, 0, r.reverse, Heap.get?_push_size _ rfl⟩
  · subst ex
    obtain ⟨t, rfl⟩ := r1
    obtain ⟨l', rfl, el⟩ := IsPart.raw pl
    obtain ⟨u', rfl, eu⟩ := IsPart.raw pu
    obtain ⟨w', rfl, ew⟩ := IsPart.raw ps
    show wpAny (model X.prog X.w) X.A (subscriptTail e (.Slice none none (some (.UnaryOp .USub (.Constant (.int 1) k p1) p2)) p3) (.str (sv z) t) (.ref s4.heap.objs.size)) (EP X pins σ Q) X.xe _
    refine tail_any (ops := [.str (sv z) t, .ref s4.heap.objs.size]) (typeIs_str _ _ _) (PySem.F.slot_str_getitem.lookup) ?_ (by with_unfolding_all rfl)
    refine wpAny_getItem_str_slice (l := l') (u := u') (st := w') ⟨_, Heap.get?_push_size _ rfl, rfl, rfl⟩ (by rw [ew]; rfl) ?_
    unfold sliceMade slicePicked
    rw [el, eu, ew]
    show Made.post (if ((-1 : Int) == 1 && (Builtin.Str.strSliceIndices none none (-1) (sv z).length).length == (sv z).length) = true then Made.val (.str (sv z) t)
      else Made.str ⟨((Builtin.Str.strSliceIndices none none (-1) (sv z).length).filterMap ((sv z).cps[·]?)).toArray⟩) (EP X pins σ Q) _
    rw [if_neg (by simp), rev_text]
    exact ⟨by show (sv z.reverse).length ≤ sizeLine; rw [sv_len, List.length_reverse]; exact hz, .str (sv z.reverse), H4, I5.tok _, ⟨_, rfl⟩, q⟩
/-- what is read from behind -/
def revIn (P S : List O) : D → Option T
  | .t (.str s) => some (.str s.reverse)
  | .t (.lst l) => some (.lst l.reverse)
  | .ref i => match (P ++ S)[i]? with
    | some (.lst l) => (trees l).map fun l => .lst l.reverse
    | _ => none
  | _ => none
def mRev (f : ME) : ME := fun P ρ S => (f P ρ S).bind fun d S1 => match revIn P S1 d with
  | some x => .ok (.t x) S1
  | none => .no
theorem RVs.revV {K : PySem.W.Frag} {Z : Addr → Prop} {H : Hp} {a : List T} {u : List V} (h : RVs K Z H a u) : RVs K Z H a.reverse u.reverse := by
  have app : ∀ {a b : List T} {u v : List V}, RVs K Z H a u → RVs K Z H b v → RVs K Z H (a ++ b) (u ++ v) := by
    intro a b u v h1 h2
    induction a generalizing u with
    | nil => cases h1; exact h2
    | cons x a ih =>
      cases h1 with
      | cons _ y _ _ q1 q2 => exact .cons _ _ _ _ q1 (ih q2)
  induction a generalizing u with
  | nil => cases h; exact .nil
  | cons x a ih =>
    cases h with
    | cons _ y _ _ q1 q2 =>
      rw [List.reverse_cons, List.reverse_cons]
      exact app (ih q2) (.cons _ _ _ _ q1 .nil)
theorem pm_rev {k : Nat} {p1 p2 p3 pos : Pos} (h : PM X W e f) : PM X W (.Subscript e (.Slice none none (some (.UnaryOp .USub (.Constant (.int 1) k p1) p2)) p3) pos) (mRev f) := by
  refine ⟨pe_weak (pe_revA h.run) fun σ H Q q => ?_⟩
  obtain ⟨c, P, ρ, S, hE, hS, q⟩ := q
  refine tM_bind hE hS q fun d v S1 c1 H1 e1 E1 s1 r1 h1 => ?_
  have lst : ∀ {l : List T} {vs : List V} {a : Addr}, v = .ref a → SqL X.K H1 a vs → RVs X.K c1.Z H1 l vs → revIn P S1 d = some (.lst l.reverse) → (∃ a xs, v = .ref a ∧ SqL X.K H1 a xs ∧ ∀ p, H1 p = none → xs.length ≤ sizeLine → Q (.ref p) (upd H1 p (.lst xs.reverse))) := fun {l vs a} ev hq r er => by
    rw [er] at h1
    refine ⟨a, vs, ev, hq, fun p hp hl => h1 (c1.zed p) (.ref p) _ (Ev.alloc s1 hp) (Sim.alloc s1 hp) (.lst _ p _ (.inr rfl) upd_same (by rw [List.length_reverse]; exact hl) (RVs.mono' (Ev.alloc s1 hp) r.revV))⟩
  cases d with
  | ref i =>
    obtain ⟨hi, rfl⟩ := r1
    cases eo : (P ++ S1)[i]? with
    | none => unfold revIn at h1; simp only [eo] at h1; exact h1.elim
    | some o =>
      cases o with
      | lst l =>
        obtain ⟨vs, hH, hl, rr⟩ := s1.ro _ _ eo
        cases et : trees l with
        | none => unfold revIn at h1; simp only [eo, et] at h1; exact h1.elim
        | some ts =>
          have er : revIn P S1 (.ref i) = some (.lst ts.reverse) := by unfold revIn; simp only [eo, et]; rfl
          exact .inl (lst rfl (SqL.of hH) (rr.trees et) er)
      | dead => unfold revIn at h1; simp only [eo] at h1; exact h1.elim
      | dic l => unfold revIn at h1; simp only [eo] at h1; exact h1.elim
      | dit l => unfold revIn at h1; simp only [eo] at h1; exact h1.elim
      | ins C fs => unfold revIn at h1; simp only [eo] at h1; exact h1.elim
  | t d =>
    cases d <;> first | exact h1.elim | skip
    · rename_i s
      cases r1 with
      | str _ hl => exact .inr ⟨s, rfl, hl, h1 c1 _ H1 (Ev.refl s1) s1 (.str _ (by rw [List.length_reverse]; exact hl))⟩
    · rename_i l
      cases r1 with
      | lst _ a vs g1 g2 g3 g4 => exact .inl (lst rfl (SqL.of g2) g4 rfl)
/-! ### min, max of a list of texts, of numbers -/
def minTx (b : Tx) (bs : List Tx) : Tx := bs.foldl (fun a y => if y < a then y else a) b
def minI (b : Int) (bs : List Int) : Int := bs.foldl (fun a y => if y < a then y else a) b
def minOf : List T → Option T
  | [.lst l] => match strsOf l with
    | some (b :: bs) => some (.str (minTx b bs))
    | _ => match ntsOf l with
      | some (b :: bs) => some (.int (minI b bs))
      | _ => none
  | _ => none
theorem strsOf_eq : ∀ {l : List T} {bs : List Tx}, strsOf l = some bs → l = bs.map T.str
  | [], _, h => by cases h; rfl
  | t :: l, bs, h => by
    cases t <;> simp [strsOf] at h
    obtain ⟨r, h1, rfl⟩ := h
    rw [strsOf_eq h1]; rfl
theorem ntsOf_eq : ∀ {l : List T} {bs : List Int}, ntsOf l = some bs → l = bs.map T.int
  | [], _, h => by cases h; rfl
  | t :: l, bs, h => by
    cases t <;> simp [ntsOf] at h
    obtain ⟨r, h1, rfl⟩ := h
    rw [ntsOf_eq h1]; rfl
theorem lt_pd (a b : T) : PySem.W.dataLt a.pd b.pd = T.lt a b := rfl
theorem minD_tx (b : Tx) (bs : List Tx) : PySem.W.minD (PyData.str (sv b)) (bs.map fun y => PyData.str (sv y)) = .str (sv (minTx b bs)) := by
  unfold PySem.W.minD minTx
  induction bs generalizing b with
  | nil => rfl
  | cons y bs ih =>
    rw [List.map_cons, List.foldl_cons, List.foldl_cons]
    have e : PySem.W.dataLt (PyData.str (sv y)) (PyData.str (sv b)) = decide (y < b) := (lt_pd (.str y) (.str b)).trans (lt_str' y b)
    rw [e]
    by_cases c : y < b
    · rw [decide_eq_true c, if_pos rfl, if_pos c]; exact ih y
    · rw [decide_eq_false c, if_neg (by simp), if_neg c]; exact ih b
theorem minD_int (b : Int) (bs : List Int) : PySem.W.minD (PyData.int b) (bs.map fun y => PyData.int y) = .int (minI b bs) := by
  unfold PySem.W.minD minI
  induction bs generalizing b with
  | nil => rfl
  | cons y bs ih =>
    rw [List.map_cons, List.foldl_cons, List.foldl_cons]
    have e : PySem.W.dataLt (PyData.int y) (PyData.int b) = decide (y < b) := (lt_pd (.int y) (.int b)).trans (lt_int' y b)
    rw [e]
    by_cases c : y < b
    · rw [decide_eq_true c, if_pos rfl, if_pos c]; exact ih y
    · rw [decide_eq_false c, if_neg (by simp), if_neg c]; exact ih b
theorem reads_of_strs {h : Heap} : ∀ {bs : List Tx} {us : List Value}, Vals ((bs.map sv).map V.str) us → ∃ as, ReadsAll h us (bs.map fun y => PyData.str (sv y)) as
  | [], _, .nil => ⟨_, .nil⟩
  | b :: bs, _, .cons r rr => by
    obtain ⟨t, rfl⟩ := r
    obtain ⟨as, q⟩ := reads_of_strs rr
    exact ⟨_, .cons (.str _ _) q⟩
theorem reads_of_ints {h : Heap} : ∀ {bs : List Int} {us : List Value}, Vals (bs.map V.int) us → ∃ as, ReadsAll h us (bs.map fun y => PyData.int y) as
  | [], _, .nil => ⟨_, .nil⟩
  | b :: bs, _, .cons r rr => by
    obtain ⟨t, rfl⟩ := r
    obtain ⟨as, q⟩ := reads_of_ints rr
    exact ⟨_, .cons (.int _ _) q⟩
theorem reads_str_inj {h : Heap} {y z : Str} {t : Tok} {as : List Addr} (r : Reads h (.str y t) (.str z) as) : y = z := by cases r; rfl
theorem reads_int_inj {h : Heap} {y z : Int} {t : Tok} {as : List Addr} (r : Reads h (.int y t) (.int z) as) : y = z := by cases r; rfl
theorem depth_strs : ∀ bs : List Tx, PyData.depthAll (bs.map fun y => PyData.str (sv y)) ≤ 1
  | [] => Nat.zero_le _
  | b :: bs => by
    rw [List.map_cons, PyData.depthAll]
    have := depth_strs bs
    have e : (PyData.str (sv b)).depth ≤ 1 := by first | decide | simp [PyData.depth]
    omega
theorem depth_ints : ∀ bs : List Int, PyData.depthAll (bs.map fun y => PyData.int y) ≤ 1
  | [] => Nat.zero_le _
  | b :: bs => by
    rw [List.map_cons, PyData.depthAll]
    have := depth_ints bs
    have e : (PyData.int b).depth ≤ 1 := by first | decide | simp [PyData.depth]
    omega
theorem call_minM (hc : X.calm = true) (hu : X.A.units + 65 < cLine) : CallM X (.builtin "min") (lTL minOf) := by
  refine callM_of fun pins s σ H xs us Q Z ts z I rx ra e q q2 up => ?_
  unfold minOf at e
  split at e
  · rename_i l
    obtain ⟨v, rfl, r⟩ := ra.one
    cases r with
    | lst _ a vs h1 h2 h3 h4 =>
      rw [Vals.ref1 rx]
      obtain ⟨its, rv, hl, hz⟩ := I.list (SqL.of h2)
      split at e
      · rename_i b bs es
        cases e
        have ev := h4.strs es
        subst ev
        have el := strsOf_eq es
        obtain ⟨as, hr⟩ := reads_of_strs (h := s.heap) (bs := b :: bs) rv
        refine PySem.W.min_list_data (x := PyData.str (sv b)) (xs := bs.map fun y => PyData.str (sv y)) (as := as) (I.ok.hd hc) hl.isList (by simpa using hr) ?_ ?_ fun i v h' tk cs' hv rd hk => ?_
        · have hm : ∀ d ∈ (PyData.str (sv b) :: bs.map fun y => PyData.str (sv y)), ∃ y, d = PyData.str (sv y) := fun d hd => by
            rcases List.mem_cons.mp hd with rfl | hd
            · exact ⟨b, rfl⟩
            · obtain ⟨y, _, rfl⟩ := List.mem_map.mp hd
              exact ⟨y, rfl⟩
          refine ⟨fun d hd d' hd' => ?_, fun d hd => ?_⟩
          · obtain ⟨y, rfl⟩ := hm d hd
            obtain ⟨y', rfl⟩ := hm d' hd'
            rfl
          · obtain ⟨y, rfl⟩ := hm d hd
            exact nofun
        · have := depth_strs (b :: bs)
          rw [List.map_cons] at this
          omega
        · rw [minD_tx] at rd
          have I2 : Inv X pins σ H { s with heap := h', toks := tk } := I.kept hk
          have hi : i < ((b :: bs).map sv).length := by
            have := (Array.getElem?_eq_some_iff.mp hv).1
            rw [List.size_toArray, ← rv.length, List.length_map] at this
            exact this
          obtain ⟨u, hu', t, ht⟩ := rv.get (i := i) (x := .str ((b :: bs).map sv)[i]) (by rw [List.getElem?_map, List.getElem?_eq_getElem hi]; rfl)
          have hv' : its[i]? = some v := by rw [← hv]; simp
          rw [hv'] at hu'
          cases hu'
          subst ht
          have key : ((b :: bs).map sv)[i] = sv (minTx b bs) := reads_str_inj rd
          rw [key]
          have hmem : sv (minTx b bs) ∈ (b :: bs).map sv := by rw [← key]; exact List.getElem_mem hi
          obtain ⟨y, hy, ey⟩ := List.mem_map.mp hmem
          exact ⟨.str (sv (minTx b bs)), H, I2, ⟨t, rfl⟩, q _ (.str _ (by rw [← sv_inj ey]; exact RVs.fit h4 es y hy))⟩
      · split at e
        · rename_i b bs es
          cases e
          have el := ntsOf_eq es
          subst el
          have ev : vs = (b :: bs).map V.int := by
            have : ∀ {l : List Int} {vs : List V}, RVs X.K Z H (l.map T.int) vs → vs = l.map V.int := by
              intro l
              induction l with
              | nil => intro vs h; cases h; rfl
              | cons x l ih => intro vs h; cases h with | cons _ _ _ _ q1 q2 => cases q1; rw [ih q2]; rfl
            exact this h4
          subst ev
          obtain ⟨as, hr⟩ := reads_of_ints (h := s.heap) (bs := b :: bs) rv
          refine PySem.W.min_list_data (x := PyData.int b) (xs := bs.map fun y => PyData.int y) (as := as) (I.ok.hd hc) hl.isList (by simpa using hr) ?_ ?_ fun i v h' tk cs' hv rd hk => ?_
          · have hm : ∀ d ∈ (PyData.int b :: bs.map fun y => PyData.int y), ∃ y, d = PyData.int y := fun d hd => by
              rcases List.mem_cons.mp hd with rfl | hd
              · exact ⟨b, rfl⟩
              · obtain ⟨y, _, rfl⟩ := List.mem_map.mp hd
                exact ⟨y, rfl⟩
            refine ⟨fun d hd d' hd' => ?_, fun d hd => ?_⟩
            · obtain ⟨y, rfl⟩ := hm d hd
              obtain ⟨y', rfl⟩ := hm d' hd'
              rfl
            · obtain ⟨y, rfl⟩ := hm d hd
              exact nofun
          · have := depth_ints (b :: bs)
            rw [List.map_cons] at this
            omega
          · rw [minD_int] at rd
            have I2 : Inv X pins σ H { s with heap := h', toks := tk } := I.kept hk
            have hi : i < (b :: bs).length := by
              have := (Array.getElem?_eq_some_iff.mp hv).1
              rw [List.size_toArray, ← rv.length, List.length_map] at this
              exact this
            obtain ⟨u, hu', t, ht⟩ := rv.get (i := i) (x := .int (b :: bs)[i]) (by rw [List.getElem?_map, List.getElem?_eq_getElem hi]; rfl)
            have hv' : its[i]? = some v := by rw [← hv]; simp
            rw [hv'] at hu'
            cases hu'
            subst ht
            have key : (b :: bs)[i] = minI b bs := reads_int_inj rd
            rw [key]
            exact ⟨.int (minI b bs), H, I2, ⟨t, rfl⟩, q _ (.int _)⟩
        · cases e
  · cases e
/-! ### list(range(n)) -/
def rangeL : List D → Option T
  | [.t (.int j)] => if -(2 ^ 61) ≤ j ∧ j ≤ sizeLine then some (.lst ((List.range j.toNat).map fun k : Nat => T.int k)) else none
  | _ => none
def mLstRg (fa : ME) : ME := fun P ρ S => (fa P ρ S).bind fun d S1 => match rangeL [d] with
  | some x => .ok (.t x) S1
  | none => .no
theorem pm_lstRg {p q pos : Pos} (hc : X.calm = true) (hg : Gl X "list") (hm : X.mg "list" = none) (hg2 : Gl X "range") (hm2 : X.mg "range" = none) (h : PM X W e f) (na : starEach [e] X.env = (false, eval e X.env) :: starEach [] X.env := by rfl)
    (nb : starEach [.Call (.Name "range" q) [e] [] pos] X.env = (false, eval (.Call (.Name "range" q) [e] [] pos) X.env) :: starEach [] X.env := by rfl) {pos' : Pos} : PM X W (.Call (.Name "list" p) [.Call (.Name "range" q) [e] [] pos] [] pos') (mLstRg f) := by
  refine ⟨pe_weak (pe_listRg hc hg hm (prg_1 hg2 hm2 h.run na) nb) fun σ H Q q => ?_⟩
  obtain ⟨c, P, ρ, S, hE, hS, q⟩ := q
  refine tM_bind hE hS q fun d v S1 c1 H1 e1 E1 s1 r1 h1 => ?_
  unfold rangeL at h1
  cases d with
  | ref i => exact h1.elim
  | t d =>
    cases d <;> first | exact h1.elim | skip
    rename_i j
    simp only at h1
    by_cases hj : -(2 ^ 61) ≤ j ∧ j ≤ sizeLine
    · rw [if_pos hj] at h1
      cases r1
      have hz := sz24
      refine ⟨j, rfl, ⟨by omega, by omega, by omega, by omega, by omega⟩, fun p hp => ?_⟩
      have hl : (rgV 0 j).length ≤ sizeLine := by rw [rgV_length]; omega
      refine h1 (c1.zed p) (.ref p) _ (Ev.alloc s1 hp) (Sim.alloc s1 hp) (.lst _ p _ (.inr rfl) upd_same hl ?_)
      unfold rgV
      rw [Int.sub_zero]
      have : ∀ l : List Nat, RVs X.K (c1.zed p).Z (upd H1 p (.lst ((List.range j.toNat).map fun i => V.int (0 + (i : Nat))))) (l.map fun k : Nat => T.int k) (l.map fun i => V.int (0 + (i : Nat))) := by
        intro l
        induction l with
        | nil => exact .nil
        | cons x l ih =>
          rw [List.map_cons, List.map_cons]
          refine .cons _ _ _ _ ?_ ih
          rw [Int.zero_add]
          exact .int _
      exact this _
    · rw [if_neg hj] at h1; exact h1.elim
end
end Fm

/-! FmD: d.get(k, x), {k: v}, d != {}, for k in d, min(a, b) of texts, freezing dicts of lists. -/
namespace Fm
open PySem PySem.Spec PyProof.Rows L2

/-! ### min of two -/
section
variable {prog : Program} {w : World} {A : Around} {E : Value → Shared → Prop} {s : Shared}
def strAt (a b : Str) (i : Nat) : Str := if i = 0 then a else b
theorem CmpOf_strs {A : Around} {a b : Str} {t u : Tok} : CmpOf prog w A .Lt (fun i v => #[Value.str a t, Value.str b u][i]? = some v) (fun i j => decide ((strAt a b i).cps.toList < (strAt a b j).cps.toList)) := fun i j vi vj s Q E hi hj h => by
  have key : ∀ {i : Nat} {v : Value}, #[Value.str a t, Value.str b u][i]? = some v → ∃ z, v = .str (strAt a b i) z := fun {i v} e => by
    match i, e with
    | 0, e => simp at e; exact ⟨t, e.symm⟩
    | 1, e => simp at e; exact ⟨u, e.symm⟩
  obtain ⟨t1, rfl⟩ := key hi
  obtain ⟨t2, rfl⟩ := key hj
  exact richCompare_gives (op := .Lt) (typeIs_str s _ t1) (typeIs_str s _ t2) PySem.F.slot_str_lt PySem.F.entry_str_lt (PySem.F.args_str_lt_2 _ _) (gives_str_lt _ _ t1 t2) (fun x => nomatch x) h
theorem min_two_strs {a b : Str} {t u : Tok} {Q : Value → Shared → Prop} (hh : A.handled = none)
    (h : ∀ h' tk, (∀ c o, s.heap.get? c = some o → h'.get? c = some o) → Q (if b.cps.toList < a.cps.toList then .str b u else .str a t) { s with heap := h', toks := tk }) :
    wpAny (model prog w) A (call (.builtin "min") [.str a t, .str b u]) Q E s := by
  have hT : (s.heap.push { cls := .type "tuple", data := .seq #[.str a t, .str b u] }).IsTuple s.heap.objs.size #[.str a t, .str b u] := ⟨_, Heap.get?_push_size _ rfl, rfl, 0, rfl⟩
  refine call_min_two (wpAny_pyIter_tuple hT ?_)
  have hsz : (s.heap.push { cls := .type "tuple", data := .seq #[.str a t, .str b u] }).objs.size = s.heap.objs.size + 1 := Heap.size_push ..
  refine ⟨_, [_, s.heap.objs.size], [_], _, _, _, _, rfl, Walks.tuple (A := A.in1) hh _ s.heap.objs.size (by rw [hsz]; exact Nat.ne_of_lt (Nat.lt_succ_self _)) #[.str a t, .str b u],
    ⟨⟨_, Heap.get?_push_size _ rfl, rfl, rfl⟩, hT.push _⟩, fun c hc => ?_, by simp, CmpOf_strs (a := a) (b := b) (t := t) (u := u), fun v h' tk hP hk => ?_⟩
  · show c < ((s.heap.push _).push _).objs.size
    rw [Heap.size_push, hsz]
    rcases List.mem_cons.mp hc with rfl | hc
    · rw [hsz]; exact Nat.lt_succ_self _
    · rcases List.mem_cons.mp hc with rfl | hc
      · exact Nat.lt_succ_of_lt (Nat.lt_succ_self _)
      · cases hc
  · have hold : ∀ c o, s.heap.get? c = some o → h'.get? c = some o := fun c o e => by
      refine hk c o (fun hm => ?_) (Heap.get?_push_of_some _ (Heap.get?_push_of_some _ e))
      rcases List.mem_cons.mp hm with e1 | hm
      · have := Heap.lt_size e; rw [e1, hsz] at this; exact Nat.lt_irrefl _ (Nat.lt_of_succ_lt this)
      · cases hm
    have := h h' tk hold
    have hv : v = if b.cps.toList < a.cps.toList then Value.str b u else Value.str a t := by
      have hP' : #[Value.str a t, Value.str b u][argBest (fun i j => decide ((strAt a b i).cps.toList < (strAt a b j).cps.toList)) 1]? = some v := hP
      by_cases hba : b.cps.toList < a.cps.toList
      · have e : argBest (fun i j => decide ((strAt a b i).cps.toList < (strAt a b j).cps.toList)) 1 = 1 := by simp [argBest, strAt, hba]
        rw [e] at hP'
        simpa [hba] using hP'.symm
      · have e : argBest (fun i j => decide ((strAt a b i).cps.toList < (strAt a b j).cps.toList)) 1 = 0 := by simp [argBest, strAt, hba]
        rw [e] at hP'
        simpa [hba] using hP'.symm
    rw [hv]; exact this
end
section
variable {X : Cx} {W : WX}
def min2X : List T → Option T
  | [.int i, .int j] => some (.int (if j < i then j else i))
  | [.str x, .str y] => some (.str (if y < x then y else x))
  | _ => none
theorem call_min2X (hc : X.calm = true) : CallM X (.builtin "min") (lTL min2X) := by
  refine callM_of fun pins s σ H xs us Q Z ts z I rx ra e q q2 up => ?_
  unfold min2X at e
  split at e
  · cases e
    obtain ⟨v, w, rfl, r, r'⟩ := ra.two
    cases r; cases r'
    exact call_min2 hc pins s σ H _ us Q I rx ⟨_, _, rfl, q _ (.int _)⟩
  · rename_i x y
    cases e
    obtain ⟨v, w, rfl, r, r'⟩ := ra.two
    cases r with
    | str _ h1 =>
      cases r' with
      | str _ h2 =>
        obtain ⟨u, w', rfl, ⟨t, rfl⟩, ⟨t', rfl⟩⟩ := vals2 rx
        refine min_two_strs (I.ok.hd hc) fun h' tk k => ?_
        rw [sv_list, sv_list]
        by_cases hj : y < x
        · rw [if_pos hj] at q ⊢
          exact ⟨.str (sv y), H, I.kept k, ⟨t', rfl⟩, q _ (.str _ h2)⟩
        · rw [if_neg hj] at q ⊢
          exact ⟨.str (sv x), H, I.kept k, ⟨t, rfl⟩, q _ (.str _ h1)⟩
  · cases e

/-! ### d.get(k, x) -/
def isDic (d : D) (P S : List O) : Bool := match d with
  | .t (.dic _) => true
  | .t (.dit _) => true
  | .ref i => match (P ++ S)[i]? with
    | some (.dic _) => true
    | some (.dit _) => true
    | _ => false
  | _ => false
theorem isDic_ok {K : PySem.W.Frag} {P S : List O} {c : Cf} {H : Hp} {d : D} {x : V} (hS : Sim K P S c H) (r : RD K c H d x) (h : isDic d P S = true) : ∃ a, x = .ref a ∧ IsD H a := by
  unfold isDic at h
  cases d with
  | t d =>
    cases d <;> first | exact Bool.noConfusion h | skip
    · cases r with
      | dic _ a kvs h1 h2 h3 => exact ⟨a, rfl, .inl ⟨kvs, h2⟩⟩
    · cases r with
      | dit _ a kvs h1 h2 h3 => exact ⟨a, rfl, .inr ⟨kvs, h2⟩⟩
  | ref i =>
    obtain ⟨_, rfl⟩ := r
    simp only at h
    cases z : (P ++ S)[i]? with
    | none => rw [z] at h; cases h
    | some o =>
      rw [z] at h
      have hro := hS.ro i o z
      cases o <;> first | exact Bool.noConfusion h | skip
      · obtain ⟨kvs, hH, _⟩ := hro
        exact ⟨_, rfl, .inl ⟨kvs, .inl hH⟩⟩
      · obtain ⟨kvs, hH, _⟩ := hro
        exact ⟨_, rfl, .inr ⟨kvs, .inl hH⟩⟩
def mGet2 (fo fk fx : ME) : ME := fun P ρ S => (fo P ρ S).bind fun d S1 => if isDic d P S1 then (fk P ρ S1).bind fun k S2 => (fx P ρ S2).bind fun x S3 => match k with
  | .ref _ => .no
  | .t k => match dGet P S3 d k with
    | some r => .ok (r.getD x) S3
    | none => .no
  else .no
theorem pm_get2 {o k x : Expr} {fo fk fx : ME} {apos cpos : Pos} (hu : X.A.units + 1 < cLine) (ho : PM X W o fo) (hk : PM X W k fk) (hx : PM X W x fx)
    (hbase : attributeBase o "get" X.env (eval o X.env) = eval o X.env := by rfl)
    (hfew : ((backTo cpos (starEach [k, x] X.env)).all (fun x => !x.1) && (backToKw cpos (keywordEach [] X.env)).all (fun x => x.1.isSome)
      && decide (([k, x] : List Expr).length + ([] : List Keyword).length + (if ([] : List Keyword).isEmpty then 0 else 1) < 30)) = true := by rfl)
    (hline : (apos.endLine == cpos.line) = true := by rfl) (htr : backTo cpos (starEach [k, x] X.env) = [(false, eval k X.env), (false, eval x X.env)] := by rfl) :
    PM X W (.Call (.Attribute o "get" apos) [k, x] [] cpos) (mGet2 fo fk fx) := by
  refine ⟨pe_weak (pe_dget2 hu ho.run hk.run hx.run ⟨hbase, hfew, hline, htr⟩) fun σ H Q h => ?_⟩
  obtain ⟨c, P, ρ, S, hE, hS, h⟩ := h
  refine tM_bind hE hS h fun d v S1 c1 H1 e1 E1 s1 r1 h1 => ?_
  by_cases hd : isDic d P S1 = true
  · rw [if_pos hd] at h1
    obtain ⟨a, rfl, ha⟩ := isDic_ok s1 r1 hd
    refine ⟨a, rfl, ha, ?_⟩
    refine tM_bind E1 s1 h1 fun kd kv S2 c2 H2 e2 E2 s2 r2 h2 => ?_
    refine tM_bind E2 s2 h2 fun xd xv S3 c3 H3 e3 E3 s3 r3 h3 => ?_
    cases kd with
    | ref i => exact h3.elim
    | t kt =>
      cases q : dGet P S3 d kt with
      | none => simp only [q] at h3; exact h3.elim
      | some r =>
        simp only [q] at h3
        obtain ⟨a', ov, ea, g, gr⟩ := dGet_ok s3 ((r1.mono e2).mono e3) (RV.mono' e3 r2) q
        cases ea
        refine ⟨ov, g, ?_⟩
        cases r with
        | none =>
          have : ov = none := gr
          subst this
          exact h3 c3 xv H3 (Ev.refl s3) s3 r3
        | some e =>
          obtain ⟨v, rfl, rv⟩ := gr
          exact h3 c3 v H3 (Ev.refl s3) s3 rv
  · rw [if_neg hd] at h1
    exact h1.elim

/-! ### {k: v} -/
def mDic1 (fin : List (At × D) → List O → List O → R D) (fk fv : ME) : ME := fun P ρ S => (fk P ρ S).nx.bind fun k S1 => (fv P ρ S1).nx.bind fun y S2 => match k with
  | .ref _ => .no
  | .t k => match k.at with
    | some k => fin [(k, y)] P S2
    | none => .no
theorem pm_dic1 {fin : List (At × D) → List O → List O → R D} {k v : Expr} {fk fv : ME} {pos : Pos} (hf : FinDOk X.K fin) (hk : PM X W0 k fk) (hv : PM X W0 v fv) : PM X W (.Dict [some k] [v] pos) (mDic1 fin fk fv) := by
  refine ⟨pe_weak (pe_disp (pps_cons hk.run hv.run pps_nil) rfl rfl (by simp) (by simp)) fun σ H Q h => ?_⟩
  obtain ⟨c, P, ρ, S, hE, hS, h⟩ := h
  intro p hp
  have ev0 := Ev.yed (o := .dK []) hS hp
  have s0 := Sim.yed (o := .dK []) hS hp
  refine ⟨c.yed p, P, ρ, S, hE.mono ev0, s0, ?_⟩
  unfold mDic1 at h
  generalize fk P ρ S = rk at h
  cases rk with
  | ex x S1 => exact h.elim
  | no => exact h.elim
  | ok kd S1 =>
    simp only [R.nx_ok, R.bind_ok] at h
    intro c1 kv H1 e1 s1 r1
    refine ⟨c1, P, ρ, S1, (hE.mono ev0).mono e1, s1, ?_⟩
    generalize fv P ρ S1 = rv at h
    cases rv with
    | ex x S1 => exact h.elim
    | no => exact h.elim
    | ok yd S2 =>
      simp only [R.nx_ok, R.bind_ok] at h
      intro c2 yv H2 e2 s2 r2
      cases kd with
      | ref i => exact h.elim
      | t kt =>
        simp only at h
        cases zk : kt.at with
        | none => rw [zk] at h; exact h.elim
        | some k' =>
          rw [zk] at h
          obtain ⟨rfl, hfit⟩ := RV.atom (RV.mono' e2 r1) zk
          have y1 := e1.y p (show c.Y p ∨ p = p from .inr rfl)
          have y2 := e2.y p y1.1
          have hH : H2 p = some (.dK []) := y2.2.trans (y1.2.trans upd_same)
          refine ⟨hH, [(k'.key, yv)], rfl, by simp, ?_⟩
          have ev : Ev P c H c2 H2 := (ev0.trans hS.pl e1).trans hS.pl e2
          have zn : ∀ {a}, c2.Z a → a ≠ p := fun z q => s2.yz p y2.1 (q ▸ z)
          have up : ∀ {d : D} {v : V}, RD X.K c2 H2 d v → RD X.K c2 (upd H2 p (.dK [(k'.key, yv)])) d v := fun {d v} rr => by
            cases d with
            | ref i => exact rr
            | t x => exact RV.mono (fun _ z => z) (fun a w z e _ => by rw [upd_ne (zn z)]; exact e) (fun a w z _ _ e => by unfold Rd; rw [upd_ne (zn z)]; exact e) rr
          exact hf P S S2 c2 c (upd H2 p (.dK [(k'.key, yv)])) H p [(k', yd)] [(k'.key, yv)] W Q hS hp (Ev.updY hS hp ev) (s2.updY y2.1) y2.1 upd_same (.cons ⟨⟨hfit, rfl⟩, up r2⟩ .nil) h

/-! ### d == {}, d != {} -/
def dLen (P S : List O) (d : D) : Option Nat := match d with
  | .t (.dic l) => some l.length
  | .ref i => match (P ++ S)[i]? with
    | some (.dic l) => some l.length
    | _ => none
  | _ => none
def mDicZ (neg : Bool) (fa : ME) : ME := fun P ρ S => (fa P ρ S).bind fun d S1 => match dLen P S1 d with
  | some n => .ok (.t (.bl (neg ^^ (n == 0)))) S1
  | none => .no
def rDicZ (neg : Bool) : R2 := fun x y H Q => ∃ a b ks, x = .ref a ∧ y = .ref b ∧ Rd H a (.dK ks) ∧ H b = some (.dK []) ∧ Q (.bl (neg ^^ (ks.length == 0))) H
theorem op_dicZ (neg : Bool) (hu : X.A.units < cLine) : OpR X (compareOp (if neg then .NotEq else .Eq)) (rDicZ neg) := by
  intro pins s σ H x y v u Q I rx ry h
  obtain ⟨a, b, ks, rfl, rfl, ea, eb, q⟩ := h
  obtain rfl : v = Value.ref a := rx
  obtain rfl : u = Value.ref b := ry
  obtain ⟨_, ya, va, ra, da⟩ := dk_rd I.hok ea
  obtain ⟨_, yb, vb, rb, db⟩ := dk_rd I.hok (Rd.of eb)
  cases rb
  have hl : va.length = ks.length := ra.length.symm
  have e : (va.length == ([] : List (Key × Value)).length && true) = (ks.length == 0) := by rw [hl]; simp
  cases neg with
  | false => exact PySem.W.keq_eq (knd := mixKind X.prog X.w) (r := true) ya yb da db hu (fun hz => by cases va with | nil => exact .nil | cons p r => simp at hz) (fin_bl I q (by rw [e]; simp))
  | true => exact PySem.W.keq_ne (knd := mixKind X.prog X.w) (r := true) ya yb da db hu (fun hz => by cases va with | nil => exact .nil | cons p r => simp at hz) (fin_bl I q (by rw [e]; simp))
theorem tDicZ_of {neg : Bool} {fa : ME} {σ : L2.St} {H : Hp} {Q : VK} (h : tM X.K W (mDicZ neg fa) σ H Q) : tOp (rDicZ neg) (tM X.K W fa) tDNewK σ H Q := by
  obtain ⟨c, P, ρ, S, hE, hS, h⟩ := h
  refine tM_bind hE hS h fun d v S1 c1 H1 e1 E1 s1 r1 h1 => ?_
  intro p hp
  cases q : dLen P S1 d with
  | none => simp only [q] at h1; exact h1.elim
  | some n =>
    simp only [q] at h1
    have ev := Ev.new (o := .dK []) s1 hp
    have sn := Sim.new (o := .dK []) s1 hp
    have fin := h1 c1 _ _ ev sn (RV.bl _)
    unfold dLen at q
    cases d with
    | t d =>
      cases d <;> first | exact nomatch (show (none : Option Nat) = some n from q) | skip
      cases q
      have r := r1.mono ev
      cases r with
      | dic _ a kvs h1 h2 h3 =>
        have el : ∀ {l : List (At × T)} {kvs : List (Key × V)}, RKs X.K c1.Z (upd H1 p (.dK [])) l kvs → l.length = kvs.length := fun {l kvs} h => by
          induction l generalizing kvs with
          | nil => cases h; rfl
          | cons p l ih => cases h with | cons k t v ts vs h0 h1 h2 => rw [List.length_cons, List.length_cons, ih h2]
        rw [el h3] at fin
        exact ⟨a, p, kvs, rfl, rfl, h2, upd_same, fin⟩
    | ref i =>
      simp only at q
      cases z : (P ++ S1)[i]? with
      | none => rw [z] at q; cases q
      | some o =>
        rw [z] at q
        cases o <;> first | exact nomatch (show (none : Option Nat) = some n from q) | skip
        cases q
        obtain ⟨_, rfl⟩ := r1
        obtain ⟨kvs, hH, rs⟩ := sn.ro i _ z
        rw [Paired.length rs] at fin
        exact ⟨_, p, kvs, rfl, rfl, .inl hH, upd_same, fin⟩
theorem pm_dicZ (neg : Bool) {a : Expr} {fa : ME} {pos pos' : Pos} (hu : X.A.units + 64 < cLine) (ha : PM X W a fa) : PM X W (.Compare a [if neg then .NotEq else .Eq] [.Dict [] [] pos'] pos) (mDicZ neg fa) :=
  ⟨pe_weak (pe_cmpR (op_dicZ neg (by omega)) ha.run pe_dnewK (by cases neg <;> rfl)) fun _ _ _ h => tDicZ_of h⟩
theorem pmt_dicZ (neg : Bool) {a : Expr} {fa : ME} {pos pos' : Pos} (hu : X.A.units + 64 < cLine) (ha : PM X W a fa) : PMT X W (.Compare a [if neg then .NotEq else .Eq] [.Dict [] [] pos'] pos) (mB (mDicZ neg fa)) :=
  ⟨pt_weak (pt_cmpR (op_dicZ neg (by omega)) ha.run pe_dnewK (by cases neg <;> rfl)) (test_of fun _ _ _ h => tDicZ_of h)⟩
end
end Fm

/-! FmE: for k in d (a dict that is a tree); freezing lists and dicts of cells. -/
namespace Fm
open PySem PySem.Spec PyProof.Rows L2
section
variable {K : PySem.W.Frag} {P S S' : List O} {c c' : Cf} {H H' : Hp} {a : Addr} {u : HO} {od : Obj}
theorem Ev.lock (hS : Sim K P S c H) (hz : c.Z a) (hu : H a = some u) (hd : isD u = true) (pl : Pl u) : Ev P c H c (upd H a (.frz od u)) where
  z := fun _ z => z
  rd := fun x w z e i => by
    have : x ≠ a := fun q => by subst q; rw [hu] at e; cases e; rw [hd] at i; cases i
    rw [upd_ne this]; exact e
  rdD := fun x w z pw i e => by
    by_cases q : x = a
    · subst q
      rcases e with e | ⟨o, e⟩
      · rw [hu] at e; cases e
        exact .inr ⟨od, upd_same⟩
      · rw [hu] at e; cases e; exact pl.elim
    · unfold Rd; rw [upd_ne q]; exact e
  n := Nat.le_refl _
  m := fun _ _ => rfl
  b := fun i o e l => by
    have e' : (P ++ S)[i]? = some o := by rw [List.getElem?_append_left (List.getElem?_eq_some_iff.mp e).1]; exact e
    exact ⟨upd_ne fun q => h1 e' l q, hS.nz i o e' l, hS.yc i o e' l⟩
  y := fun x z => ⟨z, upd_ne fun q => hS.yz x z (q ▸ hz)⟩
  fz := fun x o w z e => by
    have : x ≠ a := fun q => by subst q; rw [hu] at e; cases e; exact pl.elim
    rw [upd_ne this]; exact e
where h1 {i : Nat} {o : O} (e : (P ++ S)[i]? = some o) (l : o.live = true) (q : c.m i = a) : False := hS.nz i o e l (q ▸ hz)
theorem Sim.lockD (hS : Sim K P S c H) (hz : c.Z a) (hu : H a = some u) (hd : isD u = true) (pl : Pl u) : Sim K P S c (upd H a (.frz od u)) where
  n := hS.n
  ro := fun i o e => by
    cases hl : o.live with
    | false => cases o <;> first | trivial | cases hl
    | true => exact (hS.ro i o e).mono (Ev.lock hS hz hu hd pl) (upd_ne fun q => hS.nz i o e hl (q ▸ hz))
  nz := hS.nz
  inj := hS.inj
  z := fun x z => by
    by_cases q : x = a
    · exact ⟨_, by rw [q]; exact upd_same⟩
    · obtain ⟨w, e⟩ := hS.z x z; exact ⟨w, by rw [upd_ne q]; exact e⟩
  y := fun x z => by
    obtain ⟨w, e, nt⟩ := hS.y x z
    exact ⟨w, (upd_ne (show x ≠ a from fun q => hS.yz x z (q ▸ hz))).trans e, nt⟩
  yz := hS.yz
  yc := hS.yc
theorem Ev.unlock (hS : Sim K P S c H) (hz : c.Z a) (hu : H a = some u) (hd : isD u = true) (pl : Pl u) (e : Ev P c (upd H a (.frz od u)) c' H') : Ev P c H c' (upd H' a u) where
  z := e.z
  rd := fun x w z q i => by
    have ne : x ≠ a := fun q2 => by subst q2; rw [hu] at q; cases q; rw [hd] at i; cases i
    rw [upd_ne ne]; exact e.rd x w z (by rw [upd_ne ne]; exact q) i
  rdD := fun x w z pw i q => by
    by_cases q2 : x = a
    · subst q2
      rcases q with q | ⟨o, q⟩
      · rw [hu] at q; cases q
        exact .inl upd_same
      · rw [hu] at q; cases q; exact pl.elim
    · unfold Rd; rw [upd_ne q2]
      exact e.rdD x w z pw i (by unfold Rd; rw [upd_ne q2]; exact q)
  n := e.n
  m := e.m
  b := fun i o q l => by
    have e' : (P ++ S)[i]? = some o := by rw [List.getElem?_append_left (List.getElem?_eq_some_iff.mp q).1]; exact q
    have ne : c.m i ≠ a := fun q2 => hS.nz i o e' l (q2 ▸ hz)
    have := e.b i o q l
    rw [upd_ne ne] at this
    exact ⟨(upd_ne ne).trans this.1, this.2⟩
  y := fun x z => by
    have ne : x ≠ a := fun q => hS.yz x z (q ▸ hz)
    have := e.y x z
    rw [upd_ne ne] at this
    exact ⟨this.1, (upd_ne ne).trans this.2⟩
  fz := fun x o w z q => by
    have ne : x ≠ a := fun q2 => by subst q2; rw [hu] at q; cases q; exact pl.elim
    rw [upd_ne ne]; exact e.fz x o w z (by rw [upd_ne ne]; exact q)
theorem unl_rd (hH : H a = some (.frz od u)) (hd : isD u = true) (x : Addr) (w : HO) (z : c.Z x) (e : H x = some w) (i : isD w = false) : upd H a u x = some w := by
  have ne : x ≠ a := fun q => by subst q; rw [hH] at e; cases e; rw [show isD (.frz od u) = isD u from rfl, hd] at i; cases i
  rw [upd_ne ne]; exact e
theorem unl_rdD (hH : H a = some (.frz od u)) (x : Addr) (w : HO) (z : c.Z x) (pl : Pl w) (i : isD w = true) (e : Rd H x w) : Rd (upd H a u) x w := by
  by_cases q : x = a
  · subst q
    rcases e with e | ⟨o, e⟩
    · rw [hH] at e; cases e; exact pl.elim
    · rw [hH] at e; cases e; exact .inl upd_same
  · unfold Rd; rw [upd_ne q]; exact e
theorem RD.unl (hH : H a = some (.frz od u)) (hd : isD u = true) {d : D} {v : V} (h : RD K c H d v) : RD K c (upd H a u) d v := by
  cases d with
  | ref i => exact h
  | t x => exact RV.mono (fun _ z => z) (fun x w z e i => unl_rd (c := c) hH hd x w z e i) (fun x w z pl i e => unl_rdD (c := c) hH x w z pl i e) h
theorem Sim.unlock (hS : Sim K P S c H) (hz : c.Z a) (hH : H a = some (.frz od u)) (hd : isD u = true) : Sim K P S c (upd H a u) where
  n := hS.n
  ro := fun i o e => by
    cases hl : o.live with
    | false => cases o <;> first | trivial | cases hl
    | true => exact (hS.ro i o e).mono' (fun _ z => z) (fun x w z e i => unl_rd (c := c) hH hd x w z e i) (fun x w z pl i e => unl_rdD (c := c) hH x w z pl i e) (Nat.le_refl _) (fun _ _ => rfl) (upd_ne fun q => hS.nz i o e hl (q ▸ hz))
  nz := hS.nz
  inj := hS.inj
  z := fun x z => by
    by_cases q : x = a
    · exact ⟨_, by rw [q]; exact upd_same⟩
    · obtain ⟨w, e⟩ := hS.z x z; exact ⟨w, by rw [upd_ne q]; exact e⟩
  y := fun x z => by
    obtain ⟨w, e, nt⟩ := hS.y x z
    exact ⟨w, (upd_ne (show x ≠ a from fun q => hS.yz x z (q ▸ hz))).trans e, nt⟩
  yz := hS.yz
  yc := hS.yc
def Oc.noex : Oc → Oc
  | .ex _ _ _ => .no
  | o => o
@[simp] theorem Oc.noex_nx (ρ : En) (S : List O) : (Oc.nx ρ S).noex = .nx ρ S := rfl
@[simp] theorem Oc.noex_rt (d : D) (S : List O) : (Oc.rt d S).noex = .rt d S := rfl
theorem PostS.unlock {W : WX} {o : Oc} {D : Ends} (hS : Sim K P S c H) (hz : c.Z a) (hu : H a = some u) (hd : isD u = true) (pl : Pl u) (h : PostS K W P c H o.noex D) :
    PostS K W P c (upd H a (.frz od u)) o ⟨fun σ' H' => H' a = some (.frz od u) ∧ D.nx σ' (upd H' a u), fun v H' => H' a = some (.frz od u) ∧ D.rt v (upd H' a u), fun σ' H' => H' a = some (.frz od u) ∧ D.bk σ' (upd H' a u), fun σ' H' => H' a = some (.frz od u) ∧ D.ct σ' (upd H' a u)⟩ := by
  have fz : ∀ {c' H'}, Ev P c (upd H a (.frz od u)) c' H' → H' a = some (.frz od u) := fun e => e.fz a od u hz upd_same
  have se : ∀ {c' H'} {ρ : En} {σ : L2.St}, H' a = some (.frz od u) → SimE K c' H' ρ σ → SimE K c' (upd H' a u) ρ σ := fun q E => ⟨E.len, fun i d e => let ⟨v, h1, h2⟩ := E.get i d e; ⟨v, h1, h2.unl q hd⟩⟩
  cases o with
  | nx ρ S => exact fun c' σ' H' e s E => ⟨fz e, h c' σ' _ (Ev.unlock hS hz hu hd pl e) (s.unlock (e.z a hz) (fz e) hd) (se (fz e) E)⟩
  | bk ρ S => exact fun c' σ' H' e s E => ⟨fz e, h c' σ' _ (Ev.unlock hS hz hu hd pl e) (s.unlock (e.z a hz) (fz e) hd) (se (fz e) E)⟩
  | ct ρ S => exact fun c' σ' H' e s E => ⟨fz e, h c' σ' _ (Ev.unlock hS hz hu hd pl e) (s.unlock (e.z a hz) (fz e) hd) (se (fz e) E)⟩
  | rt d S => exact fun c' σ' H' e s E => ⟨fz e, h c' σ' _ (Ev.unlock hS hz hu hd pl e) (s.unlock (e.z a hz) (fz e) hd) (E.unl (fz e) hd)⟩
  | ex x ρ S => exact h.elim
  | no => exact h.elim
def At.t : At → T
  | .int i => .int i
  | .str s => .str s
def keysD (l : List (At × T)) : List D := l.map fun p => .t p.1.t
theorem RKs.at : ∀ {l : List (At × T)} {kvs : List (Key × V)} {Z : Addr → Prop} {i : Nat} {p : At × T}, RKs K Z H l kvs → l[i]? = some p → ∃ v, kvs[i]? = some (p.1.key, v) ∧ p.1.Fit
  | _, _, _, _, _, .nil, h => by simp at h
  | _, _, _, 0, _, .cons k t v ts vs h0 h1 _, h => by simp at h; subst h; exact ⟨v, rfl, h0⟩
  | _, _, _, i + 1, _, .cons k t v ts vs _ _ h2, h => by simpa using RKs.at (i := i) h2 (by simpa using h)
theorem itok_keys {l : List (At × T)} {kvs : List (Key × V)} (hz : c.Z a) (hH : H a = some (.frz od (.dK kvs))) (hl : l.length ≤ sizeLine) (r : RKs K c.Z H l kvs) : ItOk K P c H (Itk a od kvs) (keysD l) := by
  have el : (keysD l).length = kvs.length := by unfold keysD; rw [List.length_map, r.len]
  refine ⟨by unfold keysD; rw [List.length_map]; exact hl, fun c1 H1 e => ⟨e.fz a _ _ hz hH, by rw [el]; exact Nat.le_refl _⟩, fun i d c1 H1 S1 q e s => ?_⟩
  unfold keysD at q
  rw [List.getElem?_map] at q
  cases z : l[i]? with
  | none => rw [z] at q; cases q
  | some p =>
    rw [z] at q
    cases q
    obtain ⟨v, h1, hf⟩ := r.at z
    refine ⟨⟨e.fz a _ _ hz hH, (List.getElem?_eq_some_iff.mp h1).1⟩, fun x H2 y => ?_⟩
    obtain ⟨rfl, k, v', h2, rfl⟩ := y
    rw [h1] at h2
    cases h2
    refine ⟨c1, Ev.refl s, s, ?_⟩
    cases p with
    | mk k t => cases k with
      | int i => exact RV.int i
      | str s => exact RV.str s hf
end
section
variable {X : Cx} {W : WX}
theorem tFor_in {own : List Nat} {g : MG} {fb : MS} {P S : List O} {c0 : Cf} {H0 : Hp} {ρ : En} {σ : L2.St} {J : It} {ds : List D} {D : Ends} (hE : SimE X.K c0 H0 ρ σ) (s0 : Sim X.K P S c0 H0) (ok0 : ItOk X.K P c0 H0 J ds) (h : PostS X.K W P c0 H0 (forGo g fb P ds ρ S) D) :
    ∃ Wt : Nat → Nat → L2.St → Hp → Prop, (∃ m, Wt 0 m σ H0) ∧ ∀ i m σ H, Wt i m σ H →
      (J.stop i H ∧ D.nx σ H) ∨ (J.go i H ∧ ∃ N : L2.St → Hp → Prop, (∀ σ' H', N σ' H' → ∃ m', m' < m ∧ Wt (i + 1) m' σ' H') ∧ ∀ x H', J.yld i H x H' → tMG X.K own g x σ H' fun σ2 H2 => tMS X.K W fb { D with nx := N, ct := N, bk := D.nx } σ2 H2) := by
  refine ⟨fun i m σ H => m + i = ds.length ∧ ∃ c ρ S, Ev P c0 H0 c H ∧ SimE X.K c H ρ σ ∧ Sim X.K P S c H ∧ PostS X.K W P c H (forGo g fb P (ds.drop i) ρ S) D, ⟨ds.length, by omega, c0, ρ, S, Ev.refl s0, hE, s0, h⟩, ?_⟩
  rintro i m σ H ⟨him, c, ρ, S, ev, hE, hS, h⟩
  by_cases hi : i < ds.length
  · have hd : ds.drop i = ds[i] :: ds.drop (i + 1) := List.drop_eq_getElem_cons hi
    rw [hd] at h
    obtain ⟨g1, g2⟩ := ok0.go i ds[i] c H S (List.getElem?_eq_getElem hi) ev hS
    refine .inr ⟨g1, fun σ' H' => ∃ c ρ S, Ev P c0 H0 c H' ∧ SimE X.K c H' ρ σ' ∧ Sim X.K P S c H' ∧ PostS X.K W P c H' (forGo g fb P (ds.drop (i + 1)) ρ S) D, fun σ' H' n => ⟨m - 1, by omega, by omega, n⟩, fun x H2 y => ?_⟩
    obtain ⟨c2, ev2, s2, r2⟩ := g2 x H2 y
    have h2 := PostS.ev hS.pl ev2 h
    refine ⟨c2, P, S, ρ, ds[i], hE.mono ev2, s2, r2, ?_⟩
    unfold forGo at h2
    cases q : g ds[i] ρ with
    | none => rw [q] at h2; exact h2
    | some ρ1 =>
      rw [q] at h2
      intro σ1 E1 _ _
      refine ⟨c2, P, ρ1, S, E1, s2, ?_⟩
      simp only at h2
      generalize fb P ρ1 S = o at h2
      have tr := fun c3 H3 (e3 : Ev P c2 H2 c3 H3) => (ev.trans s0.pl ev2).trans s0.pl e3
      cases o with
      | nx ρ3 S3 => exact fun c3 σ3 H3 e3 s3 E3 => ⟨c3, ρ3, S3, tr c3 H3 e3, E3, s3, PostS.ev s2.pl e3 h2⟩
      | ct ρ3 S3 => exact fun c3 σ3 H3 e3 s3 E3 => ⟨c3, ρ3, S3, tr c3 H3 e3, E3, s3, PostS.ev s2.pl e3 h2⟩
      | bk ρ3 S3 => exact h2
      | rt d S3 => exact h2
      | ex x ρ3 S3 => exact h2
      | no => exact h2
  · have hi2 : i = ds.length := by omega
    rw [hi2, List.drop_length] at h
    subst hi2
    exact .inl ⟨ok0.stop c H ev, h c σ H (Ev.refl hS) hS hE⟩
def sForK (i : Nat) (g : MG) (fb : MS) : MS := fun P ρ S => match ρ[i]? with
  | some (some (.t (.dic l))) => if l.length ≤ sizeLine then (forGo g fb P (keysD l) ρ S).noex else .no
  | _ => .no
theorem noex_post {K : PySem.W.Frag} {P : List O} {c : Cf} {H : Hp} {o : Oc} {D : Ends} (h : PostS K W P c H o.noex D) : PostS K W P c H o D := by
  cases o <;> first | exact h | exact h.elim
theorem pms_forK (i : Nat) {x : Str} {tg : Expr} {body : List Stmt} {pos posn : Pos} {own : List Nat} {g : MG} {fb : MS} (hp : PassesOwn (model X.prog X.w) X.A X.env X.xe) (hc : X.calm = true) (hg : PMG X tg own g) (hb : PMB X W body fb)
    (hN : X.N[i]? = some x := by rfl) (hv : Vis X.env.scope x := by first | exact Or.inl rfl | exact Or.inr (Or.inl rfl) | exact Or.inr (Or.inr rfl)) (hd : (x == ("__debug__" : Str)) = false := by decide)
    (hcd : (x == ("__classdict__" : Str)) = false := by decide) (hs : ∀ y, foldedSetIterable (.Name x posn) X.env y = pure y := by intro _; rfl) : PMS X W (.For tg (.Name x posn) body [] pos) (sForK i g fb) := by
  have h0 := ps_for (pos := pos) hp hc (pi_keys (tg := tg) (pe_var (pos := posn) hN hv hd hcd)) hg.run hb.run hs
  have h1 : PS X (.For tg (.Name x posn) body [] pos) (fun D σ H => tFor (iKeys _) (tMG X.K own g) (tMS X.K W fb) D σ H ∨ tLock (tFor (iKeys _) (tMG X.K own g) (tMS X.K W fb)) D σ H) :=
    ⟨fun pins s σ H D I q => q.elim (h0.run pins s σ H D I) ((ps_lock h0).run pins s σ H D I)⟩
  refine ⟨ps_weak h1 fun D σ H h => ?_⟩
  obtain ⟨c, P, ρ, S, hE, hS, h⟩ := h
  unfold sForK at h
  cases e : ρ[i]? with
  | none => rw [e] at h; exact h.elim
  | some o =>
    rw [e] at h
    cases o with
    | none => exact h.elim
    | some d =>
      cases d with
      | ref j => exact h.elim
      | t x =>
        cases x with
        | dic l =>
          simp only at h
          by_cases hl : l.length ≤ sizeLine
          · rw [if_pos hl] at h
            obtain ⟨v, hv1, r⟩ := hE.get i _ e
            cases r with
            | dic _ a kvs z1 z2 z3 =>
              rcases z2 with z2 | ⟨o, z2⟩
              · refine .inr ⟨a, .dK kvs, z2, trivial, fun od => ?_⟩
                have ev := Ev.lock (od := od) hS z1 z2 rfl trivial
                refine ⟨.ref a, hv1, a, od, rfl, .inl ⟨kvs, upd_same, ?_⟩⟩
                exact tFor_in (hE.mono ev) (Sim.lockD hS z1 z2 rfl trivial) (itok_keys z1 upd_same hl (RKs.mono ev.z ev.rd ev.rdD z3)) (PostS.unlock hS z1 z2 rfl trivial h)
              · refine .inl ⟨.ref a, hv1, a, o, rfl, .inl ⟨kvs, z2, ?_⟩⟩
                exact tFor_in hE hS (itok_keys z1 z2 hl z3) (noex_post h)
          · rw [if_neg hl] at h
            exact h.elim
        | _ => exact h.elim
end

/-! ### freezing what holds cells -/
abbrev FZ := List O → D → List O → Option (D × List O)
def FzOk (K : PySem.W.Frag) (z : FZ) : Prop := ∀ (P S S' : List O) (c : Cf) (H : Hp) (d d' : D) (v : V), Sim K P S c H → RD K c H d v → z P d S = some (d', S') → ∃ c', Ev P c H c' H ∧ Sim K P S' c' H ∧ RD K c' H d' v
theorem fz_D {K : PySem.W.Frag} : FzOk K frzD := fun _ _ _ _ _ _ _ _ h r e => frzD_ok h r e
def frzL (z : FZ) (P : List O) : List D → List O → Option (List T × List O)
  | [], S => some ([], S)
  | d :: r, S => match z P d S with
    | some (.t x, S1) => (frzL z P r S1).map fun q => (x :: q.1, q.2)
    | _ => none
def frzK (z : FZ) (P : List O) : List (At × D) → List O → Option (List (At × T) × List O)
  | [], S => some ([], S)
  | (k, d) :: r, S => match z P d S with
    | some (.t x, S1) => (frzK z P r S1).map fun q => ((k, x) :: q.1, q.2)
    | _ => none
def frzW (z : FZ) : FZ := fun P d S => match d with
  | .t x => some (.t x, S)
  | .ref i => if P.length ≤ i then match S[i - P.length]? with
    | some (.lst l) => match frzL z P l S with
      | some (ts, S1) => match S1[i - P.length]? with
        | some (.lst _) => some (.t (.lst ts), S1.set (i - P.length) .dead)
        | _ => none
      | none => none
    | some (.dic l) => match frzK z P l S with
      | some (ts, S1) => match S1[i - P.length]? with
        | some (.dic _) => some (.t (.dic ts), S1.set (i - P.length) .dead)
        | _ => none
      | none => none
    | _ => none else none
section
variable {K : PySem.W.Frag} {z : FZ}
theorem frzL_ok (hz : FzOk K z) {P : List O} : ∀ {l : List D} {S S' : List O} {c : Cf} {H : Hp} {vs : List V} {ts : List T}, Sim K P S c H → RDs K c H l vs → frzL z P l S = some (ts, S') → ∃ c', Ev P c H c' H ∧ Sim K P S' c' H ∧ RVs K c'.Z H ts vs
  | [], S, S', c, H, _, ts, h, .nil, e => by cases e; exact ⟨c, Ev.refl h, h, .nil⟩
  | d :: r, S, S', c, H, v :: vs, ts, h, .cons r1 r2, e => by
    unfold frzL at e
    cases q : z P d S with
    | none => rw [q] at e; cases e
    | some p =>
      obtain ⟨d', S1⟩ := p
      rw [q] at e
      cases d' with
      | ref i => cases e
      | t x =>
        simp only at e
        obtain ⟨c1, e1, s1, q1⟩ := hz P S S1 c H d _ v h r1 q
        cases q2 : frzL z P r S1 with
        | none => rw [q2] at e; cases e
        | some p2 =>
          obtain ⟨ts2, S2⟩ := p2
          rw [q2] at e
          cases e
          obtain ⟨c2, e2, s2, q3⟩ := frzL_ok hz s1 (RDs.mono e1 r2) q2
          exact ⟨c2, e1.trans h.pl e2, s2, .cons _ _ _ _ (RV.mono' e2 q1) q3⟩
theorem frzK_ok (hz : FzOk K z) {P : List O} : ∀ {l : List (At × D)} {S S' : List O} {c : Cf} {H : Hp} {vs : List (Key × V)} {ts : List (At × T)}, Sim K P S c H → KR K c H l vs → frzK z P l S = some (ts, S') → ∃ c', Ev P c H c' H ∧ Sim K P S' c' H ∧ RKs K c'.Z H ts vs
  | [], S, S', c, H, _, ts, h, .nil, e => by cases e; exact ⟨c, Ev.refl h, h, .nil⟩
  | (k, d) :: r, S, S', c, H, (k', v) :: vs, ts, h, .cons r1 r2, e => by
    unfold frzK at e
    cases q : z P d S with
    | none => rw [q] at e; cases e
    | some p =>
      obtain ⟨d', S1⟩ := p
      rw [q] at e
      cases d' with
      | ref i => cases e
      | t x =>
        simp only at e
        obtain ⟨c1, e1, s1, q1⟩ := hz P S S1 c H d _ v h r1.2 q
        cases q2 : frzK z P r S1 with
        | none => rw [q2] at e; cases e
        | some p2 =>
          obtain ⟨ts2, S2⟩ := p2
          rw [q2] at e
          cases e
          obtain ⟨c2, e2, s2, q3⟩ := frzK_ok hz s1 (KR.mono e1 r2) q2
          have ek : k' = k.key := r1.1.2
          subst ek
          exact ⟨c2, e1.trans h.pl e2, s2, .cons _ _ _ _ _ r1.1.1 (RV.mono' e2 q1) q3⟩
theorem fz_W (hz : FzOk K z) : FzOk K (frzW z) := by
  intro P S S' c H d d' v h r e
  cases d with
  | t x => cases e; exact ⟨c, Ev.refl h, h, r⟩
  | ref i =>
    have hin := r.1
    obtain ⟨_, rfl⟩ := r
    unfold frzW at e
    dsimp only at e
    by_cases hi : P.length ≤ i
    · rw [if_pos hi] at e
      have hii : P.length + (i - P.length) = i := by omega
      split at e
      · rename_i l hj
        have hat : (P ++ S)[i]? = some (.lst l) := by rw [List.getElem?_append_right hi]; exact hj
        obtain ⟨vs, hH, hl, rr⟩ := h.ro _ _ hat
        split at e
        · rename_i ts S1 eq
          obtain ⟨c1, e1, s1, q1⟩ := frzL_ok hz h rr eq
          split at e
          · rename_i l2 hj2
            cases e
            obtain ⟨e2, s2⟩ := freeze s1 hj2 rfl
            rw [hii, e1.m i hin] at e2 s2
            exact ⟨_, e1.trans h.pl e2, s2, RV.lst ts _ vs (.inr rfl) hH hl (RVs.mono' e2 q1)⟩
          · cases e
        · cases e
      · rename_i l hj
        have hat : (P ++ S)[i]? = some (.dic l) := by rw [List.getElem?_append_right hi]; exact hj
        obtain ⟨kvs, hH, rr⟩ := h.ro _ _ hat
        split at e
        · rename_i ts S1 eq
          obtain ⟨c1, e1, s1, q1⟩ := frzK_ok hz h rr eq
          split at e
          · rename_i l2 hj2
            cases e
            obtain ⟨e2, s2⟩ := freeze s1 hj2 rfl
            rw [hii, e1.m i hin] at e2 s2
            exact ⟨_, e1.trans h.pl e2, s2, RV.dic ts _ kvs (.inr rfl) (.inl hH) (RKs.mono e2.z e2.rd e2.rdD q1)⟩
          · cases e
        · cases e
      · cases e
    · rw [if_neg hi] at e; cases e
variable {X : Cx} {W : WX} {e : Expr} {f : ME} {sts : List Stmt} {g : MS}
def mFrzZ (z : FZ) (f : ME) : ME := fun P ρ S => (f P ρ S).bind fun d S1 => lift (z P d S1)
theorem pm_frzZ {z : FZ} (hz : FzOk X.K z) (h : PM X W e f) : PM X W e (mFrzZ z f) := by
  refine ⟨⟨fun pins s σ H Q I q => h.run.run pins s σ H Q I ?_⟩⟩
  obtain ⟨c, P, ρ, S, hE, hS, q⟩ := q
  refine tM_bind hE hS q fun d v S1 c1 H1 e1 E1 s1 r1 h1 => ?_
  cases ef : z P d S1 with
  | none => rw [ef] at h1; exact h1.elim
  | some p =>
    obtain ⟨d', S'⟩ := p
    rw [ef] at h1
    obtain ⟨c2, e2, s2, r2⟩ := hz _ _ _ _ _ _ _ _ s1 r1 ef
    exact h1 c2 v H1 e2 s2 r2
def sFrzZ (z : FZ) (i : Nat) : MS := fun P ρ S => match ρ[i]? with
  | some (some d) => match z P d S with
    | some (d', S') => .nx (ρ.set i (some d')) S'
    | none => .no
  | _ => .no
theorem pmb_frzZ {z : FZ} (hz : FzOk X.K z) (i : Nat) (h : PMB X W sts g) : PMB X W sts (sSeq (sFrzZ z i) g) := by
  refine ⟨pss_weak h.run fun D' σ H q => ?_⟩
  obtain ⟨c, P, ρ, S, hE, hS, q⟩ := q
  unfold sSeq sFrzZ at q
  cases e : ρ[i]? with
  | none => rw [e] at q; exact q.elim
  | some o =>
    cases o with
    | none => rw [e] at q; exact q.elim
    | some d =>
      rw [e] at q
      simp only at q
      obtain ⟨v, hv, r⟩ := hE.get i d e
      cases ef : z P d S with
      | none => rw [ef] at q; exact q.elim
      | some p =>
        obtain ⟨d', S'⟩ := p
        rw [ef] at q
        obtain ⟨c2, e2, s2, r2⟩ := hz _ _ _ _ _ _ _ _ hS r ef
        refine ⟨c2, P, _, S', ?_, s2, PostS.ev hS.pl e2 q⟩
        have := (hE.mono e2).set i r2
        have es : σ.set i (some v) = σ := by
          obtain ⟨hl, hg⟩ := List.getElem?_eq_some_iff.mp hv
          rw [← hg, List.set_getElem_self]
        rw [es] at this
        exact this
end
end Fm

/-! FmG: lists of cells added, extended, compared; x += e. -/
namespace Fm
open PySem PySem.Spec PyProof.Rows L2
def lstD (P S : List O) : D → Option (List D)
  | .t (.lst l) => some (l.map D.t)
  | .ref i => match (P ++ S)[i]? with
    | some (.lst l) => some l
    | _ => none
  | _ => none
section
variable {K : PySem.W.Frag} {P S : List O} {c : Cf} {H : Hp} {d : D} {v : V}
theorem lstD_ok {l : List D} (hS : Sim K P S c H) (r : RD K c H d v) (h : lstD P S d = some l) : ∃ a vs, v = .ref a ∧ H a = some (.lst vs) ∧ vs.length ≤ sizeLine ∧ RDs K c H l vs := by
  unfold lstD at h
  cases d with
  | t x =>
    cases x <;> first | exact nomatch (show (none : Option (List D)) = some l from h) | skip
    cases h
    cases r with
    | lst _ a vs h1 h2 h3 h4 => exact ⟨a, vs, rfl, h2, h3, RVs.rds h4⟩
  | ref i =>
    obtain ⟨_, rfl⟩ := r
    simp only at h
    cases z : (P ++ S)[i]? with
    | none => rw [z] at h; cases h
    | some o =>
      rw [z] at h
      cases o <;> first | exact nomatch (show (none : Option (List D)) = some l from h) | skip
      cases h
      obtain ⟨vs, hH, hl, rs⟩ := hS.ro i _ z
      exact ⟨_, vs, rfl, hH, hl, rs⟩
def addC : F2 := fun a b P S => match lstD P S a, lstD P S b with
  | some x, some y => if x.length + y.length ≤ sizeLine then some (.ref (P.length + S.length), S ++ [.lst (x ++ y)]) else none
  | _, _ => none
theorem RDs.app : ∀ {a b : List D} {u w : List V}, RDs K c H a u → RDs K c H b w → RDs K c H (a ++ b) (u ++ w)
  | _, _, _, _, .nil, h => h
  | _, _, _, _, .cons h1 h2, h => .cons h1 (RDs.app h2 h)
end
section
variable {X : Cx} {W : WX}
theorem op_addC : OpM X (binaryOp .Add) addC := by
  refine ⟨fun pins s σ H x y v u Q I rx ry hh => ?_⟩
  obtain ⟨c, P, S, a, b, hS, ra, rb, q⟩ := hh
  unfold addC at q
  cases ea : lstD P S a with
  | none => rw [ea] at q; exact q.elim
  | some l =>
    cases eb : lstD P S b with
    | none => rw [ea, eb] at q; exact q.elim
    | some m =>
      rw [ea, eb] at q
      simp only at q
      by_cases hl : l.length + m.length ≤ sizeLine
      · rw [if_pos hl] at q
        obtain ⟨p, vs, rfl, h1, h2, h3⟩ := lstD_ok hS ra ea
        obtain ⟨p', vs', rfl, k1, k2, k3⟩ := lstD_ok hS rb eb
        have hl' : vs.length + vs'.length ≤ sizeLine := by rw [← h3.len, ← k3.len]; exact hl
        exact op_cat pins s σ H _ _ v u Q I rx ry ⟨p, p', vs, vs', rfl, rfl, h1, k1, hl', fun n hn => newC hS hn (by rw [List.length_append]; exact hl') (RDs.app h3 k3) q⟩
      · rw [if_neg hl] at q
        exact q.elim
def extendG : FM := fun d ds P S => match cellL P S d with
  | some (j, l) => match ds with
    | [x] => match lstD P S x with
      | some m => if l.length + m.length ≤ sizeLine then some (.t .non, S.set j (.lst (l ++ m))) else none
      | none => none
    | _ => none
  | none => none
theorem mt_extendM : MtdM X "list.extend" extendG := by
  refine ⟨fun pins s σ H x xs v us Q I rx rs h => ?_⟩
  obtain ⟨c, P, S, d, ds, hS, rd, rds, q⟩ := h
  unfold extendG at q
  cases z : cellL P S d with
  | none => rw [z] at q; exact q.elim
  | some p =>
    obtain ⟨j, l⟩ := p
    rw [z] at q
    simp only at q
    split at q
    · rename_i xd
      obtain ⟨rfl, vs, hH, hl, rl⟩ := cellL_at hS rd z
      obtain ⟨y, rfl, ry⟩ := rds.one
      split at q
      · rename_i m em
        obtain ⟨p', vs', rfl, k1, k2, k3⟩ := lstD_ok hS ry em
        split at q
        · rename_i hlen
          have hlen' : vs.length + vs'.length ≤ sizeLine := by rw [← rl.len, ← k3.len]; exact hlen
          exact mt_extend pins s σ H _ _ v us Q I rx rs ⟨_, p', vs, vs', rfl, rfl, hH, k1, hlen', putL hS (cellL_some z).2 (by rw [List.length_append]; exact hlen') (RDs.app rl k3) RD.non q⟩
        · exact q.elim
      · exact q.elim
    · exact q.elim
/-! lists compared, cells or not -/
def viewT (P S : List O) : D → Option T
  | .t x => some x
  | .ref i => match (P ++ S)[i]? with
    | some (.lst l) => (trees l).map .lst
    | _ => none
theorem viewT_dp {K : PySem.W.Frag} {P S : List O} {c : Cf} {H : Hp} {d : D} {v : V} {t : T} (hS : Sim K P S c H) (r : RD K c H d v) (h : viewT P S d = some t) (p : t.plain = true) : Dp K H v t.pd := by
  cases d with
  | t x => cases h; exact RV.dp r p
  | ref i =>
    obtain ⟨_, rfl⟩ := r
    unfold viewT at h
    simp only at h
    cases z : (P ++ S)[i]? with
    | none => rw [z] at h; cases h
    | some o =>
      rw [z] at h
      cases o <;> first | exact nomatch (show (none : Option T) = some t from h) | skip
      rename_i l
      simp only at h
      cases e : trees l with
      | none => rw [e] at h; cases h
      | some ts =>
        rw [e] at h
        cases h
        obtain ⟨vs, hH, hl, rs⟩ := hS.ro i _ z
        have : RV K (fun a => c.Z a ∨ a = c.m i) H (.lst ts) (.ref (c.m i)) := RV.lst ts _ vs (.inr rfl) hH hl (RVs.mono (fun _ z => .inl z) (fun _ _ _ z _ => z) (fun _ _ _ _ _ z => z) (rs.trees e))
        exact RV.dp this p
def eqVG (neg : Bool) : F2 := fun a b P S => match viewT P S a, viewT P S b with
  | some x, some y => if x.plain && y.plain && x.low then some (.t (.bl (neg ^^ T.eqv x y)), S) else none
  | _, _ => none
theorem op_eqV (neg : Bool) (hu : X.A.units + 64 < cLine) : OpM X (compareOp (if neg then .NotEq else .Eq)) (eqVG neg) := by
  refine ⟨fun pins s σ H x y v u Q I rx ry hh => ?_⟩
  obtain ⟨c, P, S, a, b, hS, ra, rb, q⟩ := hh
  unfold eqVG at q
  cases ea : viewT P S a with
  | none => rw [ea] at q; exact q.elim
  | some t =>
    cases eb : viewT P S b with
    | none => rw [ea, eb] at q; exact q.elim
    | some m =>
      rw [ea, eb] at q
      simp only at q
      by_cases hp : (t.plain && m.plain && t.low) = true
      · rw [if_pos hp] at q
        rw [Bool.and_eq_true, Bool.and_eq_true] at hp
        have d1 := viewT_dp hS ra ea hp.1.1
        have d2 := viewT_dp hS rb eb hp.1.2
        have fin := q c _ H (Ev.refl hS) hS (RV.bl _)
        have hd : t.pd.depth ≤ 40 := of_decide_eq_true hp.2
        have h3 : X.A.units + min t.pd.depth m.pd.depth < cLine := by omega
        obtain ⟨as, r1⟩ := Dp.reads I _ _ _ d1 rx
        obtain ⟨bs, r2⟩ := Dp.reads I _ _ _ d2 ry
        cases neg with
        | false => exact PySem.SeqAt.eq_plain r1 r2 (T.pd_plain _ hp.1.1) (T.pd_plain _ hp.1.2) h3 ⟨.bl _, H, I, rfl, by rw [Bool.false_xor] at fin; exact fin⟩
        | true => exact PySem.SeqAt.ne_plain r1 r2 (T.pd_plain _ hp.1.1) (T.pd_plain _ hp.1.2) h3 ⟨.bl _, H, I, rfl, by rw [Bool.true_xor] at fin; exact fin⟩
      · rw [if_neg hp] at q
        exact q.elim
/-! x += e, ints -/
def sAugI (i : Nat) (f : Int → Int → Int) (fe : ME) : MS := fun P ρ S => match ρ[i]? with
  | some (some (.t (.int x))) => (fe P ρ S).oc ρ fun y S1 => match y with
    | .t (.int y) => .nx (ρ.set i (some (.t (.int (f x y))))) S1
    | _ => .no
  | _ => .no
theorem pms_augI (i : Nat) {x : Str} {e : Expr} {op : Operator} {f : Int → Int → Int} {fe : ME} {pos pos' : Pos} (ho : PIp X op (ipI f)) (hN : X.N.Nodup) (he : PM X W e fe) (hi : X.N[i]? = some x := by rfl) (hx : Loc X.env.scope x := by first | exact .inl rfl | exact .inr rfl)
    (hf : X.fn x = true ∨ X.env.scope.names.lookup x = some .local := by first | exact .inl rfl | exact .inr rfl) : PMS X W (.AugAssign (.Name x pos') op e pos) (sAugI i f fe) := by
  refine ⟨ps_weak (ps_aug hN hi hx he.run ho hf) fun D σ H h => ?_⟩
  obtain ⟨c, P, ρ, S, hE, hS, h⟩ := h
  unfold sAugI at h
  cases e1 : ρ[i]? with
  | none => rw [e1] at h; exact h.elim
  | some o =>
    rw [e1] at h
    cases o with
    | none => exact h.elim
    | some d =>
      cases d with
      | ref j => exact h.elim
      | t z =>
        cases z <;> first | exact h.elim | skip
        rename_i n
        obtain ⟨v, hv, r⟩ := hE.get i _ e1
        cases r
        refine ⟨_, hv, tM_oc hE hS h fun yd yv S1 c1 H1 ev1 E1 s1 r1 h1 => ?_⟩
        cases yd with
        | ref j => exact h1.elim
        | t z =>
          cases z <;> first | exact h1.elim | skip
          cases r1
          exact ⟨_, _, rfl, rfl, h1 c1 _ H1 (Ev.refl s1) s1 (E1.set i (RV.int _))⟩
/-! a, b = e, f with names of any kind -/
theorem pms_tup2 {a b : Expr} {fs : MA} {px py pt pt2 pos : Pos} {x y : Str} {kt k2 : Nat} (i j : Nat) (hc : X.calm = true) (hN : X.N.Nodup) (ha : PMA X W [a, b] fs) (hi : X.N[i]? = some x := by rfl) (hj : X.N[j]? = some y := by rfl)
    (hx : Loc X.env.scope x := by first | exact .inl rfl | exact .inr rfl) (hfx : X.fn x = true ∨ X.env.scope.names.lookup x = some .local := by first | exact .inl rfl | exact .inr rfl)
    (hy : Loc X.env.scope y := by first | exact .inl rfl | exact .inr rfl) (hfy : X.fn y = true ∨ X.env.scope.names.lookup y = some .local := by first | exact .inl rfl | exact .inr rfl)
    (hs : swapsWithSole [.Tuple [.Name x px, .Name y py] kt pt] (.Tuple [a, b] k2 pt2) pos.line X.env = pure false := by rfl) (hw : swappedStores [.Tuple [.Name x px, .Name y py] kt pt] (.Tuple [a, b] k2 pt2) X.env = pure none := by rfl) :
    PMS X W (.Assign [.Tuple [.Name x px, .Name y py] kt pt] (.Tuple [a, b] k2 pt2) pos) (sPar2 i j fs) := by
  refine ⟨ps_weak (ps_asg (pe_tup ha.run) (pg_tup (n := 2) hc (pgs_cons (pg_name hN hi hx hfx) (pgs_cons (pg_name hN hj hy hfy) pgs_nil))) hs hw (h1 := rfl)) fun D σ H h => ?_⟩
  obtain ⟨c, P, ρ, S, hE, hS, h⟩ := h
  refine tMA_oc hE hS h fun ds vs S1 c1 H1 e1 E1 s1 r1 h1 => ?_
  match ds, vs, r1 with
  | [u, v], [u', v'], .cons q1 (.cons q2 .nil) =>
    refine ⟨by simp [sizeLine_eq], fun p hp => ⟨p, [u', v'], rfl, SqT.of upd_same, rfl, u', [v'], rfl, v', [], rfl, rfl, ?_⟩⟩
    have e2 := Ev.new (o := .tup [u', v']) s1 hp
    exact h1 c1 _ _ e2 (Sim.new s1 hp) (((E1.mono e2).set i (q1.mono e2)).set j (q2.mono e2))
  | [], _, _ => exact h1.elim
  | [_], _, _ => exact h1.elim
  | _ :: _ :: _ :: _, _, _ => exact h1.elim
theorem pms_tup3 {a b d : Expr} {fs : MA} {px py pz pt pt2 pos : Pos} {x y z : Str} {kt k2 : Nat} (i j l : Nat) (hc : X.calm = true) (hN : X.N.Nodup) (ha : PMA X W [a, b, d] fs) (hi : X.N[i]? = some x := by rfl) (hj : X.N[j]? = some y := by rfl) (hl : X.N[l]? = some z := by rfl)
    (hx : Loc X.env.scope x := by first | exact .inl rfl | exact .inr rfl) (hfx : X.fn x = true ∨ X.env.scope.names.lookup x = some .local := by first | exact .inl rfl | exact .inr rfl)
    (hy : Loc X.env.scope y := by first | exact .inl rfl | exact .inr rfl) (hfy : X.fn y = true ∨ X.env.scope.names.lookup y = some .local := by first | exact .inl rfl | exact .inr rfl)
    (hz : Loc X.env.scope z := by first | exact .inl rfl | exact .inr rfl) (hfz : X.fn z = true ∨ X.env.scope.names.lookup z = some .local := by first | exact .inl rfl | exact .inr rfl)
    (hs : swapsWithSole [.Tuple [.Name x px, .Name y py, .Name z pz] kt pt] (.Tuple [a, b, d] k2 pt2) pos.line X.env = pure false := by rfl) (hw : swappedStores [.Tuple [.Name x px, .Name y py, .Name z pz] kt pt] (.Tuple [a, b, d] k2 pt2) X.env = pure none := by rfl) :
    PMS X W (.Assign [.Tuple [.Name x px, .Name y py, .Name z pz] kt pt] (.Tuple [a, b, d] k2 pt2) pos) (sPar3 i j l fs) := by
  refine ⟨ps_weak (ps_asg (pe_tup ha.run) (pg_tup (n := 3) hc (pgs_cons (pg_name hN hi hx hfx) (pgs_cons (pg_name hN hj hy hfy) (pgs_cons (pg_name hN hl hz hfz) pgs_nil)))) hs hw (h1 := rfl)) fun D σ H h => ?_⟩
  obtain ⟨c, P, ρ, S, hE, hS, h⟩ := h
  refine tMA_oc hE hS h fun ds vs S1 c1 H1 e1 E1 s1 r1 h1 => ?_
  match ds, vs, r1 with
  | [u, v, w], [u', v', w'], .cons q1 (.cons q2 (.cons q3 .nil)) =>
    refine ⟨by simp [sizeLine_eq], fun p hp => ⟨p, [u', v', w'], rfl, SqT.of upd_same, rfl, u', [v', w'], rfl, v', [w'], rfl, w', [], rfl, rfl, ?_⟩⟩
    have e2 := Ev.new (o := .tup [u', v', w']) s1 hp
    exact h1 c1 _ _ e2 (Sim.new s1 hp) ((((E1.mono e2).set i (q1.mono e2)).set j (q2.mono e2)).set l (q3.mono e2))
  | [], _, _ => exact h1.elim
  | [_], _, _ => exact h1.elim
  | [_, _], _, _ => exact h1.elim
  | _ :: _ :: _ :: _ :: _, _, _ => exact h1.elim
end
end Fm

/-! FmH: min of a list of pairs (whole number, text). -/
namespace Fm
open PySem PySem.Spec PyProof.Rows L2
def pairT (p : Int × Tx) : T := .tup [.int p.1, .str p.2]
def pairsOf : List T → Option (List (Int × Tx))
  | [] => some []
  | .tup [.int i, .str s] :: r => (pairsOf r).map ((i, s) :: ·)
  | _ => none
theorem pairsOf_eq : ∀ {l : List T} {ps : List (Int × Tx)}, pairsOf l = some ps → l = ps.map pairT
  | [], ps, h => by cases h; rfl
  | .tup [.int i, .str s] :: r, ps, h => by
    unfold pairsOf at h
    cases e : pairsOf r with
    | none => rw [e] at h; cases h
    | some q => rw [e] at h; cases h; rw [List.map_cons, ← pairsOf_eq e]; rfl
@[simp] theorem pairsOf_map (ps : List (Int × Tx)) : pairsOf (ps.map pairT) = some ps := by
  induction ps with
  | nil => rfl
  | cons p ps ih => rw [List.map_cons]; show (pairsOf (ps.map pairT)).map _ = _; rw [ih]; rfl
def ltP (a b : Int × Tx) : Bool := decide (a.1 < b.1 ∨ (a.1 = b.1 ∧ a.2 < b.2))
def minPr (b : Int × Tx) (bs : List (Int × Tx)) : Int × Tx := bs.foldl (fun a y => if ltP y a then y else a) b
def minP : List T → Option T
  | [.lst l] => match pairsOf l with
    | some (b :: bs) => some (pairT (minPr b bs))
    | _ => none
  | _ => none
theorem pairT_pd (p : Int × Tx) : (pairT p).pd = .tuple [.int p.1, .str (sv p.2)] := rfl
theorem pairT_inj {p q : Int × Tx} (h : (pairT p).pd = (pairT q).pd) : p = q := by
  rw [pairT_pd, pairT_pd] at h
  obtain ⟨a, b⟩ := p
  obtain ⟨c, d⟩ := q
  simp at h
  obtain ⟨h1, h2⟩ := h
  rw [h1, sv_inj h2]
theorem lt_pair (p q : Int × Tx) : PySem.W.dataLt (pairT p).pd (pairT q).pd = ltP p q := by
  rw [pairT_pd, pairT_pd, PySem.W.dataLt_pair (by simp [PySem.W.alike]) (by simp [PySem.W.alike]), PySem.W.dataLt_int]
  have hs : PySem.W.dataLt (PyData.str (sv p.2)) (PyData.str (sv q.2)) = decide (p.2 < q.2) := (lt_pd (.str p.2) (.str q.2)).trans (lt_str' p.2 q.2)
  rw [hs]
  unfold ltP
  by_cases h1 : p.1 = q.1
  · rw [if_pos (by simp [PyData.eqv, h1])]
    by_cases h2 : p.2 = q.2
    · rw [if_pos (by simp [PyData.eqv, h2]), h1, h2]
      simp [List.lt_irrefl]
    · rw [if_neg (by simp [PyData.eqv]; exact fun e => h2 (sv_inj e)), h1]
      simp
  · rw [if_neg (by simp [PyData.eqv, h1])]
    simp [h1]
theorem minD_pairs (b : Int × Tx) (bs : List (Int × Tx)) : PySem.W.minD (pairT b).pd (bs.map fun y => (pairT y).pd) = (pairT (minPr b bs)).pd := by
  unfold PySem.W.minD minPr
  induction bs generalizing b with
  | nil => rfl
  | cons y bs ih =>
    rw [List.map_cons, List.foldl_cons, List.foldl_cons, lt_pair]
    cases c : ltP y b with
    | true => rw [if_pos rfl, if_pos rfl]; exact ih y
    | false => rw [if_neg (by simp), if_neg (by simp)]; exact ih b
theorem readsAll_of {X : Cx} {pins : List (Addr × Obj)} {s : Shared} {σ : L2.St} {H : Hp} {Z : Addr → Prop} (I : Inv X pins σ H s) : ∀ {ts : List T} {vs : List V} {us : List Value}, RVs X.K Z H ts vs → Vals vs us → T.plains ts = true →
    ∃ as, ReadsAll s.heap us (ts.map T.pd) as
  | _, _, _, .nil, .nil, _ => ⟨_, .nil⟩
  | _, _, _, .cons t v ts vs h1 h2, .cons r rr, p => by
    rw [T.plains, Bool.and_eq_true] at p
    obtain ⟨as, q⟩ := Dp.reads I _ _ _ (h1.dp p.1) r
    obtain ⟨bs, q2⟩ := readsAll_of I h2 rr p.2
    exact ⟨_, .cons q q2⟩
theorem plains_pairs (ps : List (Int × Tx)) : T.plains (ps.map pairT) = true := by
  induction ps with
  | nil => rfl
  | cons p ps ih => rw [List.map_cons, T.plains, ih]; rfl
theorem depth_pairs : ∀ ps : List (Int × Tx), PyData.depthAll (ps.map fun y => (pairT y).pd) ≤ 3
  | [] => Nat.zero_le _
  | b :: bs => by
    rw [List.map_cons, PyData.depthAll]
    have := depth_pairs bs
    have e : ((pairT b).pd).depth ≤ 3 := by rw [pairT_pd]; simp [PyData.depth, PyData.depthAll]
    omega
theorem call_minP {X : Cx} (hc : X.calm = true) (hu : X.A.units + 65 < cLine) : CallM X (.builtin "min") (lTL minP) := by
  refine callM_of fun pins s σ H xs us Q Z ts z I rx ra e q q2 up => ?_
  unfold minP at e
  split at e
  · rename_i l
    obtain ⟨v, rfl, r⟩ := ra.one
    cases r with
    | lst _ a vs h1 h2 h3 h4 =>
      rw [Vals.ref1 rx]
      obtain ⟨its, rv, hl, hz⟩ := I.list (SqL.of h2)
      split at e
      · rename_i b bs es
        cases e
        have el := pairsOf_eq es
        subst el
        obtain ⟨as, hr⟩ := readsAll_of I h4 rv (plains_pairs _)
        rw [List.map_map, show (T.pd ∘ pairT) = fun y => (pairT y).pd from rfl, List.map_cons] at hr
        refine PySem.W.min_list_data (x := (pairT b).pd) (xs := bs.map fun y => (pairT y).pd) (as := as) (I.ok.hd hc) hl.isList hr ?_ ?_ fun i v h' tk cs' hv rd hk => ?_
        · have hm : ∀ d ∈ ((pairT b).pd :: bs.map fun y => (pairT y).pd), ∃ y, d = (pairT y).pd := fun d hd => by
            rcases List.mem_cons.mp hd with rfl | hd
            · exact ⟨b, rfl⟩
            · obtain ⟨y, _, rfl⟩ := List.mem_map.mp hd
              exact ⟨y, rfl⟩
          refine ⟨fun d hd d' hd' => ?_, fun d hd => ?_⟩
          · obtain ⟨y, rfl⟩ := hm d hd
            obtain ⟨y', rfl⟩ := hm d' hd'
            rw [pairT_pd, pairT_pd]
            simp [PySem.W.alike, PySem.W.alikeAll]
          · obtain ⟨y, rfl⟩ := hm d hd
            exact nofun
        · have := depth_pairs (b :: bs)
          rw [List.map_cons] at this
          omega
        · rw [minD_pairs] at rd
          have I2 : Inv X pins σ H { s with heap := h', toks := tk } := I.kept hk
          have hv' : its[i]? = some v := by rw [← hv]; simp
          have hi : i < vs.length := by
            have := (List.getElem?_eq_some_iff.mp hv').1
            rw [← rv.length] at this
            exact this
          have hi2 : i < ((b :: bs).map pairT).length := by rw [h4.len]; exact hi
          obtain ⟨x, hx, rx2⟩ := h4.at (List.getElem?_eq_getElem hi2)
          obtain ⟨u, hu', rel⟩ := rv.get hx
          rw [hv'] at hu'
          cases hu'
          rw [List.getElem_map] at rx2
          generalize hp : (b :: bs)[i]'(by rw [List.length_map] at hi2; exact hi2) = p at rx2
          obtain ⟨cs2, rd2⟩ := Dp.reads I2 _ _ _ (rx2.dp (show (pairT p).plain = true by rfl)) rel
          have := (Reads.unique rd _ _ rd2).1
          have hpe := pairT_inj this
          rw [hpe] at q
          exact ⟨x, H, I2, rel, q _ rx2⟩
      · cases e
  · cases e
end Fm

/-! FmI: a, b = [e, f]. -/
namespace Fm
open PySem PySem.Spec PyProof.Rows L2
def gTL (n : Nat) (g : MGs) : MG := fun d ρ => match d with
  | .t (.lst ts) => if ts.length = n then g ts ρ else none
  | _ => none
theorem pmg_lst {X : Cx} {es : List Expr} {kt : Nat} {pos : Pos} {n : Nat} {own : List Nat} {g : MGs} (hc : X.calm = true) (h : PMGs X es own g) (hn : (assignEach es X.env).length = n := by rfl) (hst : (assignEach es X.env).findIdx? (·.1) = none := by rfl) : PMG X (.Tuple es kt pos) own (gTL n g) := by
  have hp : PG X (.Tuple es kt pos) (gLst X.K n (tMGs X.K own g)) := pg_lst hc h.run hn hst
  refine ⟨pg_weak hp fun v σ H Q h => ?_⟩
  obtain ⟨c, P, S, ρ, d, hE, hS, r, h⟩ := h
  cases d with
  | ref i => exact h.elim
  | t x =>
    cases x with
    | lst ts =>
      cases r with
      | lst _ a vs h1 h2 h3 rs =>
        have h : match (if ts.length = n then g ts ρ else none) with
          | some ρ' => ∀ σ', SimE X.K c H ρ' σ' → σ'.length = σ.length → (∀ j, j ∉ own → σ'[j]? = σ[j]?) → Q σ' H
          | none => False := h
        by_cases hl : ts.length = n
        · rw [if_pos hl] at h
          exact ⟨a, vs, rfl, SqL.of h2, by rw [← rs.len]; exact hl, c, P, S, ρ, ts, hE, hS, rs, h⟩
        · rw [if_neg hl] at h
          exact h.elim
    | _ => exact h.elim
end Fm

/-! FmJ: range(i, j, -1). -/
namespace Fm
open PySem PySem.Spec PyProof.Rows L2
def dnOf (i j : Int) : List D := (List.range (i - j).toNat).map fun (k : Nat) => D.t (.int (i - k))
def rng3Of : List D → Option (List D)
  | [.t (.int i), .t (.int j), .t (.int c)] => if c = -1 ∧ (-(2 ^ 61) ≤ i ∧ i ≤ 2 ^ 61) ∧ (-(2 ^ 61) ≤ j ∧ j ≤ 2 ^ 61) ∧ i - j ≤ sizeLine then some (dnOf i j) else none
  | _ => none
theorem rng3Of_some {ds l : List D} (h : rng3Of ds = some l) : ∃ i j, ds = [.t (.int i), .t (.int j), .t (.int (-1))] ∧ ((-(2 ^ 61) ≤ i ∧ i ≤ 2 ^ 61) ∧ (-(2 ^ 61) ≤ j ∧ j ≤ 2 ^ 61) ∧ i - j ≤ sizeLine) ∧ l = dnOf i j := by
  unfold rng3Of at h
  split at h
  · rename_i i j c
    split at h
    · rename_i hc
      obtain ⟨rfl, hc⟩ := hc
      cases h; exact ⟨i, j, rfl, hc, rfl⟩
    · cases h
  · cases h
theorem itok_dn {K : PySem.W.Frag} {P : List O} {c : Cf} {H : Hp} {i j : Int} (h : i - j ≤ sizeLine) : ItOk K P c H (Itc i (-1) (i - j).toNat) (dnOf i j) := by
  have hl : (dnOf i j).length = (i - j).toNat := by simp [dnOf]
  refine ⟨by rw [hl]; omega, fun c1 H1 e => by show _ ≤ _; rw [hl]; exact Nat.le_refl _, fun k d c1 H1 S1 q e s => ?_⟩
  unfold dnOf at q
  rw [List.getElem?_map] at q
  by_cases hk : k < (i - j).toNat
  · rw [List.getElem?_range hk] at q
    cases q
    refine ⟨hk, fun x H2 y => ?_⟩
    obtain ⟨rfl, rfl⟩ := y
    refine ⟨c1, Ev.refl s, s, ?_⟩
    rw [show i + ((k : Nat) : Int) * (-1) = i - k by omega]
    exact RV.int _
  · rw [List.getElem?_eq_none (by simpa using hk)] at q
    cases q
section
variable {X : Cx} {W : WX} {tg a b d : Expr} {f : MA} {p pos : Pos} {it : Expr}
theorem pmi_range3 (hg : Gl X "range") (hm : X.mg "range" = none) (ha : PMA X W [a, b, d] f) (hs : starEach [a, b, d] X.env = (false, eval a X.env) :: starEach [b, d] X.env := by rfl) (hpl : (backTo pos (starEach [b, d] X.env)).any (·.1) = false := by rfl) :
    PMI X W tg (.Call (.Name "range" p) [a, b, d] [] pos) (mI rng3Of f) := by
  refine pmi_of ha (fun t h => pi_range3 hg hm h hs hpl) fun t σ H Rr h mono => mono _ _ (fun vs H1 h => ?_) h
  obtain ⟨ds, c, P, S, l, hS, r, q, k⟩ := h
  obtain ⟨i, j, rfl, hj, rfl⟩ := rng3Of_some q
  cases r with
  | cons r rr =>
    cases rr with
    | cons r' rr =>
      cases rr with
      | cons r'' rr =>
        cases rr
        cases r
        cases r'
        cases r''
        exact ⟨i, j, -1, _, rfl, RgC.neg (by omega) (by omega) (by omega) (by omega), k _ (itok_dn hj.2.2)⟩
end
end Fm

/-! FmL: dicts that are looked at (their keys, values) in comprehensions and loops. -/
namespace Fm
open PySem PySem.Spec PyProof.Rows L2
def R.noex {α : Type} : R α → R α
  | .ex _ _ => .no
  | r => r
@[simp] theorem R.noex_ok {α : Type} (a : α) (S : List O) : (R.ok a S).noex = .ok a S := rfl
section
variable {K : PySem.W.Frag} {P S : List O} {c c1 : Cf} {H H1 : Hp} {a : Addr} {od : Obj} {u : HO}
theorem Post.noexD {r : R D} {W : WX} {Q : VK} (h : Post K P c H (RD K) r.noex W Q) : Post K P c H (RD K) r W Q := by
  cases r <;> first | exact h | exact h.elim
theorem Post.unlock {W : WX} {r : R D} {Q : VK} (hS : Sim K P S c H) (hz : c.Z a) (hu : H a = some u) (hd : isD u = true) (pl : Pl u) (h : Post K P c H (RD K) r.noex W Q) :
    Post K P c (upd H a (.frz od u)) (RD K) r W (fun v H' => H' a = some (.frz od u) ∧ Q v (upd H' a u)) := by
  cases r with
  | ok d S1 =>
    intro c' v H' e s r1
    have q := e.fz a od u hz upd_same
    exact ⟨q, h c' v _ (Ev.unlock hS hz hu hd pl e) (s.unlock (e.z a hz) q hd) (r1.unl q hd)⟩
  | ex x S1 => exact h.elim
  | no => exact h.elim
/-- the turns of a list comprehension over what is laid already -/
theorem tLc_in {W : WX} {fin : List D → List O → List O → R D} {g : MG} {own : List Nat} {vs : List Nat} {ft : MT} {fe : ME} {σ : L2.St} {Q : VK} (hf : FinOk K fin) (hsub : ∀ j ∈ own, j ∈ vs) {S1 : List O} {c0 : Cf} {H0 : Hp} {ρ : En} {J : It} {items : List D}
    (hE0 : SimE K c0 H0 ρ σ) (s0 : Sim K P S1 c0 H0) (ok0 : ItOk K P c0 H0 J items) (h : Post K P c0 H0 (RD K) ((lcGo g ft fe P (wipeE ρ vs) items S1).bind fun r S2 => fin r P S2) W Q) :
    ∀ Dd, H0 Dd = none → ∃ Wt : Nat → Nat → Hp → Prop, (∃ m, Wt 0 m (upd H0 Dd (.lst []))) ∧ ∀ i m H, Wt i m H →
      (J.stop i H ∧ Q (.ref Dd) H) ∨ (J.go i H ∧ ∃ Nx : Hp → Prop, (∀ H', Nx H' → ∃ m', m' < m ∧ Wt (i + 1) m' H') ∧ ∀ x H', J.yld i H x H' → tMG K own g x (wipe σ vs) H' fun σ2 H2 => wipe σ2 vs = wipe σ vs ∧ tMT K W0 ft σ2 H2 fun b H3 =>
        if b = true then tM K W0 fe σ2 H3 fun y H4 => ∃ acc, H4 Dd = some (.lst acc) ∧ acc.length < sizeLine ∧ Nx (upd H4 Dd (.lst (acc ++ [y]))) else Nx H3) := by
  intro Dd hD
  refine ⟨fun i m H => m + i = items.length ∧ ∃ c S acc va, Ev P c0 H0 c H ∧ Sim K P S c H ∧ c.Y Dd ∧ H Dd = some (.lst va) ∧ RDs K c H acc va ∧ va.length ≤ i ∧
    Post K P c0 H0 (RD K) ((lcGo g ft fe P (wipeE ρ vs) (items.drop i) S).bind fun r S2 => fin (acc ++ r) P S2) W Q,
    ⟨items.length, by omega, c0.yed Dd, S1, [], [], Ev.yed s0 hD, Sim.yed s0 hD, .inr rfl, upd_same, .nil, Nat.le_refl _, h⟩, ?_⟩
  rintro i m H ⟨him, c, S, acc, va, ev, sm, hy, hH, ra, hl, h⟩
  have hlen := ok0.len
  by_cases hi : i < items.length
  · have hd : items.drop i = items[i] :: items.drop (i + 1) := List.drop_eq_getElem_cons hi
    rw [hd] at h
    obtain ⟨g1, g2⟩ := ok0.go i items[i] c H S (List.getElem?_eq_getElem hi) ev sm
    refine .inr ⟨g1, fun H => ∃ c S acc va, Ev P c0 H0 c H ∧ Sim K P S c H ∧ c.Y Dd ∧ H Dd = some (.lst va) ∧ RDs K c H acc va ∧ va.length ≤ i + 1 ∧
      Post K P c0 H0 (RD K) ((lcGo g ft fe P (wipeE ρ vs) (items.drop (i + 1)) S).bind fun r S2 => fin (acc ++ r) P S2) W Q, fun H' n => ⟨m - 1, by omega, by omega, n⟩, fun x H2 y => ?_⟩
    obtain ⟨c2, ev2, s2, r2⟩ := g2 x H2 y
    have ev2' := ev.trans s0.pl ev2
    refine ⟨c2, P, S, wipeE ρ vs, items[i], (hE0.mono ev2').wipe vs, s2, r2, ?_⟩
    unfold lcGo at h
    cases q : g items[i] (wipeE ρ vs) with
    | none => rw [q] at h; exact h
    | some ρ1 =>
      rw [q] at h
      intro σ1 E1 l1 j1
      refine ⟨wipe_ext l1 fun j hj => j1 j fun z => hj (hsub j z), c2, P, ρ1, S, E1, s2, ?_⟩
      simp only at h
      generalize ft P ρ1 S = rt at h
      cases rt with
      | ex x S3 => exact h.elim
      | no => exact h.elim
      | ok b S3 =>
        intro c3 b' H3 e3 s3 rb
        cases (show b = b' from rb)
        simp only [R.nx_ok, R.bind_ok] at h
        have ev3 := ev2'.trans s0.pl e3
        have y3 := (ev2.y Dd hy)
        have y3' := (e3.y Dd y3.1)
        cases b with
        | false =>
          rw [if_neg Bool.false_ne_true] at h ⊢
          exact ⟨c3, S3, acc, va, ev3, s3, y3'.1, y3'.2.trans (y3.2.trans hH), (ra.mono ev2).mono e3, by omega, h⟩
        | true =>
          rw [if_pos rfl] at h ⊢
          refine ⟨c3, P, ρ1, S3, E1.mono e3, s3, ?_⟩
          generalize fe P ρ1 S3 = re at h
          cases re with
          | ex x S4 => exact h.elim
          | no => exact h.elim
          | ok yd S4 =>
            intro c4 yv H4 e4 s4 ry
            simp only [R.nx_ok, R.bind_ok] at h
            have y4 := e4.y Dd y3'.1
            have hH4 : H4 Dd = some (.lst va) := y4.2.trans (y3'.2.trans (y3.2.trans hH))
            have s5 : Sim K P S4 c4 (upd H4 Dd (.lst (va ++ [yv]))) := s4.updY y4.1
            have up : ∀ {d : D} {v : V}, RD K c4 H4 d v → RD K c4 (upd H4 Dd (.lst (va ++ [yv]))) d v := fun {d v} rr => by
              have zn : ∀ {a}, c4.Z a → a ≠ Dd := fun z q => s4.yz Dd y4.1 (q ▸ z)
              cases d with
              | ref i => exact rr
              | t x => exact RV.mono (fun _ z => z) (fun a w z e _ => by rw [upd_ne (zn z)]; exact e) (fun a w z _ _ e => by unfold Rd; rw [upd_ne (zn z)]; exact e) rr
            refine ⟨va, hH4, by omega, c4, S4, acc ++ [yd], va ++ [yv], Ev.updY s0 hD (ev3.trans s0.pl e4), s5, y4.1, upd_same, ?_, by rw [List.length_append, List.length_singleton]; omega, ?_⟩
            · have r4 : RDs K c4 H4 acc va := ((ra.mono ev2).mono e3).mono e4
              exact Paired.snoc (Paired.mapP r4 fun _ _ z => up z) (up ry)
            · generalize lcGo g ft fe P (wipeE ρ vs) (items.drop (i + 1)) S4 = rl at h ⊢
              cases rl with
              | ok r S5 => simpa using h
              | ex x S5 => exact h
              | no => exact h
  · have hi2 : i = items.length := by omega
    subst hi2
    rw [List.drop_length] at h
    refine .inl ⟨ok0.stop c H ev, ?_⟩
    have h : Post K P c0 H0 (RD K) (fin (acc ++ []) P S) W Q := h
    rw [List.append_nil] at h
    exact hf P S1 S c c0 H H0 Dd acc va W Q s0 hD ev sm hy hH (by omega) ra h
end
/-- a way to walk what stands in a variable -/
structure Src (X : Cx) (f : T → Option (List D)) (wi : TE → TI) : Prop where
  lk : ∀ {P S : List O} {c : Cf} {H : Hp} {x : T} {l : List D} {v : V}, Sim X.K P S c H → f x = some l → RD X.K c H (.t x) v →
    ∃ a u, v = .ref a ∧ c.Z a ∧ isD u = true ∧ Pl u ∧ Mut (some u) ∧ Rd H a u ∧ ∀ (c' : Cf) (H' : Hp) (S' : List O) (o : Obj), Ev P c H c' H' → Sim X.K P S' c' H' → H' a = some (.frz o u) →
      ∃ J, ItOk X.K P c' H' J l ∧ ∀ (σ : L2.St) (i : Nat) (Rr : It → Hp → Prop), σ[i]? = some (some (.ref a)) → Rr J H' → wi (tVar i) σ H' Rr
def keysOf : T → Option (List D)
  | .dic l => if l.length ≤ sizeLine then some (keysD l) else none
  | .dit l => if l.length ≤ sizeLine ∧ ∀ p ∈ l, p.1.length ≤ sizeLine then some (l.map fun p => .t (.tup (p.1.map At.t))) else none
  | _ => none
def valsOf : T → Option (List D)
  | .dic l => if l.length ≤ sizeLine then some (l.map fun p => .t p.2) else none
  | _ => none
theorem Ev.refl' {K : PySem.W.Frag} {P S : List O} {c : Cf} {H : Hp} (h : Sim K P S c H) : Ev P c H c H := Ev.refl h
theorem RJs.len {K : PySem.W.Frag} {Z : Addr → Prop} {H : Hp} : ∀ {l : List (List At × T)} {kvs : List (List Key × V)}, RJs K Z H l kvs → l.length = kvs.length
  | _, _, .nil => rfl
  | _, _, .cons _ _ _ _ _ _ _ h => congrArg (· + 1) (RJs.len h)
theorem RJs.at {K : PySem.W.Frag} {H : Hp} : ∀ {l : List (List At × T)} {kvs : List (List Key × V)} {Z : Addr → Prop} {i : Nat} {p : List At × T}, RJs K Z H l kvs → l[i]? = some p → ∃ v, kvs[i]? = some (p.1.map At.key, v) ∧ ∀ x ∈ p.1, x.Fit
  | _, _, _, _, _, .nil, h => by simp at h
  | _, _, _, 0, _, .cons k t v ts vs h0 h1 _, h => by simp at h; subst h; exact ⟨v, rfl, h0⟩
  | _, _, _, i + 1, _, .cons k t v ts vs _ _ h2, h => by simpa using RJs.at (i := i) h2 (by simpa using h)
theorem RKs.atv {K : PySem.W.Frag} {H : Hp} : ∀ {l : List (At × T)} {kvs : List (Key × V)} {Z : Addr → Prop} {i : Nat} {p : At × T}, RKs K Z H l kvs → l[i]? = some p → ∃ v, kvs[i]? = some (p.1.key, v) ∧ RV K Z H p.2 v
  | _, _, _, _, _, .nil, h => by simp at h
  | _, _, _, 0, _, .cons k t v ts vs h0 h1 _, h => by simp at h; subst h; exact ⟨v, rfl, h1⟩
  | _, _, _, i + 1, _, .cons k t v ts vs _ _ h2, h => by simpa using RKs.atv (i := i) h2 (by simpa using h)
theorem ats_rvs2 {K : PySem.W.Frag} {Z : Addr → Prop} {H : Hp} : ∀ {ks : List At}, (∀ x ∈ ks, x.Fit) → RVs K Z H (ks.map At.t) ((ks.map At.key).map kV)
  | [], _ => .nil
  | .int i :: ks, h => .cons _ _ _ _ (RV.int i) (ats_rvs2 fun x hx => h x (List.mem_cons_of_mem _ hx))
  | .str s :: ks, h => .cons _ _ _ _ (RV.str s (h _ List.mem_cons_self)) (ats_rvs2 fun x hx => h x (List.mem_cons_of_mem _ hx))
section
variable {K : PySem.W.Frag} {P S : List O} {c : Cf} {H : Hp} {a : Addr} {od : Obj}
theorem itok_keysT {l : List (List At × T)} {kvs : List (List Key × V)} (hz : c.Z a) (hH : H a = some (.frz od (.dT kvs))) (hl : l.length ≤ sizeLine) (r : RJs K c.Z H l kvs) (h16 : ∀ p ∈ l, p.1.length ≤ sizeLine) : ItOk K P c H (Itkt a od kvs) (l.map fun p => D.t (.tup (p.1.map At.t))) := by
  have el : l.length = kvs.length := r.len
  refine ⟨by rw [List.length_map]; exact hl, fun c1 H1 e => ⟨e.fz a _ _ hz hH, by rw [List.length_map, el]; exact Nat.le_refl _⟩, fun i d c1 H1 S1 q e s => ?_⟩
  rw [List.getElem?_map] at q
  cases z : l[i]? with
  | none => rw [z] at q; cases q
  | some p =>
    rw [z] at q
    cases q
    obtain ⟨v, h1, hf⟩ := r.at z
    refine ⟨⟨e.fz a _ _ hz hH, (List.getElem?_eq_some_iff.mp h1).1⟩, fun x H2 y => ?_⟩
    obtain ⟨rfl, k, v', q, h2, rfl, hq⟩ := y
    rw [h1] at h2
    cases h2
    have nc : ∀ i u, (P ++ S1)[i]? = some u → u.live = true → c1.m i ≠ q := fun i u e l w => by
      have ro := s.ro i u e
      rw [w] at ro
      cases u with
      | lst l => obtain ⟨vs, h, _⟩ := ro; rw [hq] at h; cases h
      | dic l => obtain ⟨vs, h, _⟩ := ro; rw [hq] at h; cases h
      | dit l => obtain ⟨vs, h, _⟩ := ro; rw [hq] at h; cases h
      | ins C fs => obtain ⟨_, _, _, h, _⟩ := ro; rw [hq] at h; cases h
      | dead => cases l
    have ny : ¬ c1.Y q := fun w => by
      obtain ⟨u, h1, h2⟩ := s.y q w
      rw [hq] at h1
      cases h1
      cases h2
    refine ⟨c1.zed q, Ev.zed s nc, Sim.zed s nc ny hq, ?_⟩
    exact RV.tup _ q _ (.inr rfl) hq (by rw [List.length_map, List.length_map]; exact h16 p (List.mem_of_getElem? z)) (ats_rvs2 hf)
theorem itok_vals {l : List (At × T)} {kvs : List (Key × V)} (hz : c.Z a) (hH : H a = some (.frz od (.dK kvs))) (hl : l.length ≤ sizeLine) (r : RKs K c.Z H l kvs) : ItOk K P c H (Itd a od kvs) (l.map fun p => D.t p.2) := by
  have el : l.length = kvs.length := r.len
  refine ⟨by rw [List.length_map]; exact hl, fun c1 H1 e => ⟨e.fz a _ _ hz hH, by rw [List.length_map, el]; exact Nat.le_refl _⟩, fun i d c1 H1 S1 q e s => ?_⟩
  rw [List.getElem?_map] at q
  cases z : l[i]? with
  | none => rw [z] at q; cases q
  | some p =>
    rw [z] at q
    cases q
    obtain ⟨v, h1, hv⟩ := r.atv z
    refine ⟨⟨e.fz a _ _ hz hH, (List.getElem?_eq_some_iff.mp h1).1⟩, fun x H2 y => ?_⟩
    obtain ⟨rfl, k, h2⟩ := y
    rw [h1] at h2
    cases h2
    exact ⟨c1, Ev.refl s, s, RV.mono e.z e.rd e.rdD hv⟩
end
theorem src_keys (X : Cx) : Src X keysOf iKeys where
  lk := fun {P S c H x l v} hS e r => by
    cases x with
    | dic m =>
      unfold keysOf at e
      simp only at e
      by_cases hl : m.length ≤ sizeLine
      · rw [if_pos hl] at e
        cases e
        cases r with
        | dic _ a kvs z1 z2 z3 =>
          exact ⟨a, .dK kvs, rfl, z1, rfl, trivial, trivial, z2, fun c' H' S' o ev s' hf => ⟨Itk a o kvs, itok_keys (ev.z a z1) hf hl (RKs.mono ev.z ev.rd ev.rdD z3), fun σ i Rr hv hR => ⟨.ref a, hv, a, o, rfl, .inl ⟨kvs, hf, hR⟩⟩⟩⟩
      · rw [if_neg hl] at e
        cases e
    | dit m =>
      unfold keysOf at e
      simp only at e
      by_cases hl : m.length ≤ sizeLine ∧ ∀ p ∈ m, p.1.length ≤ sizeLine
      · rw [if_pos hl] at e
        cases e
        cases r with
        | dit _ a kvs z1 z2 z3 =>
          exact ⟨a, .dT kvs, rfl, z1, rfl, trivial, trivial, z2, fun c' H' S' o ev s' hf => ⟨Itkt a o kvs, itok_keysT (ev.z a z1) hf hl.1 (RJs.mono ev.z ev.rd ev.rdD z3) hl.2, fun σ i Rr hv hR => ⟨.ref a, hv, a, o, rfl, .inr ⟨kvs, hf, hR⟩⟩⟩⟩
      · rw [if_neg hl] at e
        cases e
    | _ => cases e
theorem src_vals (X : Cx) : Src X valsOf iVals where
  lk := fun {P S c H x l v} hS e r => by
    cases x with
    | dic m =>
      unfold valsOf at e
      simp only at e
      by_cases hl : m.length ≤ sizeLine
      · rw [if_pos hl] at e
        cases e
        cases r with
        | dic _ a kvs z1 z2 z3 =>
          exact ⟨a, .dK kvs, rfl, z1, rfl, trivial, trivial, z2, fun c' H' S' o ev s' hf => ⟨Itd a o kvs, itok_vals (ev.z a z1) hf hl (RKs.mono ev.z ev.rd ev.rdD z3), fun σ i Rr hv hR => ⟨.ref a, hv, a, o, kvs, rfl, hf, hR⟩⟩⟩
      · rw [if_neg hl] at e
        cases e
    | _ => cases e
def mLcK (fin : List D → List O → List O → R D) (f : T → Option (List D)) (i : Nat) (g : MG) (vs : List Nat) (ft : MT) (fe : ME) : ME := fun P ρ S => match ρ[i]? with
  | some (some (.t x)) => match f x with
    | some l => ((lcGo g ft fe P (wipeE ρ vs) l S).bind fun r S2 => fin r P S2).noex
    | none => .no
  | _ => .no
def sForS (f : T → Option (List D)) (i : Nat) (g : MG) (fb : MS) : MS := fun P ρ S => match ρ[i]? with
  | some (some (.t x)) => match f x with
    | some l => (forGo g fb P l ρ S).noex
    | none => .no
  | _ => .no
section
variable {X : Cx} {W : WX} {f : T → Option (List D)} {wi : TE → TI}
theorem pm_lcS (src : Src X f wi) {i : Nat} {fin : List D → List O → List O → R D} {elt tg iter : Expr} {ifs : List Expr} {scope : Scope} {own : List (Str × Nat)} {ow : List Nat} {pos : Pos} {g : MG} {ft : MT} {fe : ME} (hf : FinOk X.K fin) (hc : X.calm = true) (hN : X.N.Nodup) (hi : PI X tg iter (wi (tVar i))) (ok : BlkOk X.N X.env.scope scope own)
    (hg : ∀ (s : Shared) (H : Hp) (C : Addr) (cl : List (Str × Addr)) (fp : List Addr), PMG (X.blk s H scope (compEnvC scope cl C X.env) fp) tg ow g)
    (ht : ∀ (s : Shared) (H : Hp) (C : Addr) (cl : List (Str × Addr)) (fp : List Addr), PMTs (X.blk s H scope (compEnvC scope cl C X.env) fp) W0 ifs ft)
    (he : ∀ (s : Shared) (H : Hp) (C : Addr) (cl : List (Str × Addr)) (fp : List Addr), PM (X.blk s H scope (compEnvC scope cl C X.env) fp) W0 elt fe)
    (hs : ∀ x, foldedSetIterable iter X.env x = pure x := by intro _; rfl) (hsub : ∀ j ∈ ow, j ∈ own.map (·.2) := by decide) :
    PM X W (.ListComp elt [⟨tg, iter, ifs, 0⟩] scope pos) (mLcK fin f i g (own.map (·.2)) ft fe) := by
  have h0 := pe_lc (pos := pos) (te := tM X.K W0 fe) (tt := tMT X.K W0 ft) (g := tMG X.K ow g) hc hN hi ok (fun s H C cl fp => (hg s H C cl fp).run) (fun s H C cl fp => (ht s H C cl fp).run) (fun s H C cl fp => (he s H C cl fp).run) hs
  have h1 : PE X (.ListComp elt [⟨tg, iter, ifs, 0⟩] scope pos) (fun σ H Q => tLc (wi (tVar i)) (tMG X.K ow g) (tMT X.K W0 ft) (tM X.K W0 fe) (own.map (·.2)) σ H Q ∨ tLockE (tLc (wi (tVar i)) (tMG X.K ow g) (tMT X.K W0 ft) (tM X.K W0 fe) (own.map (·.2))) σ H Q) :=
    ⟨fun pins s σ H Q I q => q.elim (h0.run pins s σ H Q I) ((pe_lock h0).run pins s σ H Q I)⟩
  refine ⟨pe_weak h1 fun σ H Q h => ?_⟩
  obtain ⟨c, P, ρ, S, hE, hS, h⟩ := h
  unfold mLcK at h
  cases e : ρ[i]? with
  | none => rw [e] at h; exact h.elim
  | some o =>
    rw [e] at h
    cases o with
    | none => exact h.elim
    | some d =>
      cases d with
      | ref j => exact h.elim
      | t x =>
        simp only at h
        cases ef : f x with
        | none => rw [ef] at h; exact h.elim
        | some l =>
          rw [ef] at h
          simp only at h
          obtain ⟨v, hv1, r⟩ := hE.get i _ e
          obtain ⟨a, u, rfl, hz, hd, pl, mu, rdu, hk⟩ := src.lk hS ef r
          rcases rdu with hu | ⟨o, hu⟩
          · refine .inr ⟨a, u, hu, mu, fun od => ?_⟩
            have ev := Ev.lock (od := od) hS hz hu hd pl
            have s2 := Sim.lockD (od := od) hS hz hu hd pl
            obtain ⟨J, okJ, hw⟩ := hk c _ S od ev s2 upd_same
            exact hw σ i _ hv1 (tLc_in hf hsub (hE.mono ev) s2 okJ (Post.unlock hS hz hu hd pl h))
          · obtain ⟨J, okJ, hw⟩ := hk c H S o (Ev.refl hS) hS hu
            exact .inl (hw σ i _ hv1 (tLc_in hf hsub hE hS okJ (Post.noexD h)))
theorem pm_lcKeys (i : Nat) {x : Str} {fin : List D → List O → List O → R D} {elt tg : Expr} {ifs : List Expr} {scope : Scope} {own : List (Str × Nat)} {ow : List Nat} {pos posn : Pos} {g : MG} {ft : MT} {fe : ME} (hf : FinOk X.K fin) (hc : X.calm = true) (hN : X.N.Nodup) (ok : BlkOk X.N X.env.scope scope own)
    (hg : ∀ (s : Shared) (H : Hp) (C : Addr) (cl : List (Str × Addr)) (fp : List Addr), PMG (X.blk s H scope (compEnvC scope cl C X.env) fp) tg ow g)
    (ht : ∀ (s : Shared) (H : Hp) (C : Addr) (cl : List (Str × Addr)) (fp : List Addr), PMTs (X.blk s H scope (compEnvC scope cl C X.env) fp) W0 ifs ft)
    (he : ∀ (s : Shared) (H : Hp) (C : Addr) (cl : List (Str × Addr)) (fp : List Addr), PM (X.blk s H scope (compEnvC scope cl C X.env) fp) W0 elt fe)
    (hN2 : X.N[i]? = some x := by rfl) (hv : Vis X.env.scope x := by first | exact Or.inl rfl | exact Or.inr (Or.inl rfl) | exact Or.inr (Or.inr rfl)) (hd : (x == ("__debug__" : Str)) = false := by decide)
    (hcd : (x == ("__classdict__" : Str)) = false := by decide)
    (hs : ∀ y, foldedSetIterable (.Name x posn) X.env y = pure y := by intro _; rfl) (hsub : ∀ j ∈ ow, j ∈ own.map (·.2) := by decide) :
    PM X W (.ListComp elt [⟨tg, .Name x posn, ifs, 0⟩] scope pos) (mLcK fin keysOf i g (own.map (·.2)) ft fe) :=
  pm_lcS (src_keys X) hf hc hN (pi_keys (tg := tg) (pe_var (pos := posn) hN2 hv hd hcd)) ok hg ht he hs hsub
end
/-! freezing a dict with tuples as keys -/
def treesJ : List (List At × D) → Option (List (List At × T))
  | [] => some []
  | (k, .t x) :: r => (treesJ r).map fun q => (k, x) :: q
  | (_, .ref _) :: _ => none
theorem jr_trees {K : PySem.W.Frag} {c : Cf} {H : Hp} : ∀ {l : List (List At × D)} {kvs : List (List Key × V)} {ts : List (List At × T)}, Paired (fun (p : List At × D) (q : List Key × V) => ((∀ x ∈ p.1, x.Fit) ∧ q.1 = p.1.map At.key) ∧ RD K c H p.2 q.2) l kvs → treesJ l = some ts → RJs K c.Z H ts kvs
  | [], _, _, .nil, e => by cases e; exact .nil
  | (k, .ref i) :: r, _, _, .cons _ _, e => by cases e
  | (k, .t x) :: r, (k', v) :: kvs, ts, .cons h1 h2, e => by
    unfold treesJ at e
    cases q : treesJ r with
    | none => rw [q] at e; cases e
    | some ts2 =>
      rw [q] at e
      cases e
      obtain ⟨⟨hf, hk⟩, hv⟩ := h1
      have hk : k' = k.map At.key := hk
      subst hk
      exact .cons k x v ts2 kvs hf hv (jr_trees h2 q)
def frzJ : FZ := fun P d S => match d with
  | .t x => some (.t x, S)
  | .ref i => if P.length ≤ i then match S[i - P.length]? with
    | some (.dit l) => (treesJ l).map fun ts => (.t (.dit ts), S.set (i - P.length) .dead)
    | _ => none else none
theorem fz_J {K : PySem.W.Frag} : FzOk K frzJ := by
  intro P S S' c H d d' v h r e
  cases d with
  | t x =>
    cases e
    exact ⟨c, Ev.refl h, h, r⟩
  | ref i =>
    obtain ⟨_, rfl⟩ := r
    unfold frzJ at e
    dsimp only at e
    by_cases hi : P.length ≤ i
    · rw [if_pos hi] at e
      have hii : P.length + (i - P.length) = i := by omega
      split at e
      · rename_i l hj
        cases et : treesJ l with
        | none => rw [et] at e; cases e
        | some ts =>
          rw [et] at e
          cases e
          obtain ⟨e1, s1⟩ := freeze h hj rfl
          rw [hii] at e1 s1
          have hat : (P ++ S)[i]? = some (.dit l) := by rw [List.getElem?_append_right hi]; exact hj
          obtain ⟨kvs, hH, rr⟩ := h.ro _ _ hat
          have rr' : Paired (fun (p : List At × D) (q : List Key × V) => ((∀ x ∈ p.1, x.Fit) ∧ q.1 = p.1.map At.key) ∧ RD K (c.zed (c.m i)) H p.2 q.2) l kvs := Paired.mapP rr fun _ _ z => ⟨z.1, z.2.mono e1⟩
          exact ⟨_, e1, s1, RV.dit ts _ kvs (.inr rfl) (.inl hH) (jr_trees rr' et)⟩
      · cases e
    · rw [if_neg hi] at e; cases e
/-! is, is not of bools -/
def isBlG (neg : Bool) : F2 := fun a b _ S => match a, b with
  | .t (.bl x), .t (.bl y) => some (.t (.bl (neg ^^ decide (x = y))), S)
  | _, _ => none
theorem op_isBlM {X : Cx} (neg : Bool) : OpM X (compareOp (if neg then .IsNot else .Is)) (isBlG neg) := by
  refine ⟨fun pins s σ H x y v u Q I rx ry hh => ?_⟩
  obtain ⟨c, P, S, a, b, hS, ra, rb, q⟩ := hh
  unfold isBlG at q
  cases a with
  | ref i => exact q.elim
  | t a =>
    cases b with
    | ref i => cases a <;> exact q.elim
    | t b =>
      cases a <;> try exact q.elim
      cases b <;> try exact q.elim
      cases ra
      cases rb
      rename_i x y
      have hq := q c (.bl (neg ^^ decide (x = y))) H (Ev.refl hS) hS (RV.bl _)
      cases neg with
      | false => exact op_isBl pins s σ H _ _ v u Q I rx ry ⟨x, y, rfl, rfl, by simpa using hq⟩
      | true => exact op_notBl pins s σ H _ _ v u Q I rx ry ⟨x, y, rfl, rfl, by simpa using hq⟩
end Fm

/-! FmN: defs that are called where no text of a list is under way (so repr of lists may be asked). -/
namespace Fm
open PySem PySem.Spec PyProof.Rows L2
/-- a def keeps a promise wherever nothing is being shown -/
structure FnG (Pg : Program) (wd : World) (Kf : PySem.W.Frag) (mods : Str → Option Value) (bs : Heap) (Ct : CXT) (lev : Nat) (fa : Addr) (fdt : FuncData) (prs : List Str) (pr : Sp) : Prop where
  cnt : ∀ vs H Q E, pr vs H Q E → vs.length = prs.length
  go : ∀ (Ar : Around) (outs : List Env) (sh : Shared) (H : Hp) (ags : Args) (ws : List Value) (vs : List V) (Q : VK) (E : XK), Ar.guards = some [] → Room lev Ar → Env0 Pg wd Kf mods bs Ar outs sh H →
    BindsTo sh fdt ags (prs.zip ws) → Vals vs ws → pr vs H Q E → codeAny (model Pg wd) Ar (.call (.ref fa) ags) (CR Ct outs Pg wd H sh Q E) sh
section
variable {Pg : Program} {wd : World} {Kf : PySem.W.Frag} {mods : Str → Option Value} {bs : Heap} {Ct : CXT} {lev : Nat} {fa : Addr} {fdt : FuncData} {prs : List Str} {pr pr' : Sp}
theorem FnG.lift {l2 : Nat} (F : FnG Pg wd Kf mods bs Ct lev fa fdt prs pr) (h : lev ≤ l2) : FnG Pg wd Kf mods bs Ct l2 fa fdt prs pr :=
  ⟨F.cnt, fun Ar outs sh H ags ws vs Q E g r => F.go Ar outs sh H ags ws vs Q E g (r.mono h)⟩
theorem FnG.less (F : FnG Pg wd Kf mods bs Ct lev fa fdt prs pr) (h : ∀ vs H Q E, pr' vs H Q E → pr vs H Q E) : FnG Pg wd Kf mods bs Ct lev fa fdt prs pr' :=
  ⟨fun vs H Q E q => F.cnt vs H Q E (h _ _ _ _ q), fun Ar outs sh H ags ws vs Q E g r e b v q => F.go Ar outs sh H ags ws vs Q E g r e b v (h _ _ _ _ q)⟩
theorem FnG.no {n : Nat} : FnG Pg wd Kf mods bs Ct lev fa fdt prs (spM Kf n fun _ _ _ => .no) :=
  ⟨fun vs H Q E h => (by obtain ⟨_, _, _, _, _, _, _, h⟩ := h; exact h.elim), fun Ar outs sh H ags ws vs Q E _ _ _ _ _ h => (by obtain ⟨_, _, _, _, _, _, _, h⟩ := h; exact h.elim)⟩
end
section
variable {X : Cx} {Ct : CXT} {lev : Nat} {fa : Addr} {fdt : FuncData} {prs : List Str} {pr : Sp} {E : XK} {x : Str} {p pos : Pos} {e : Expr} {es : List Expr} {t : TA}
theorem FnG.inX (F : FnG X.prog X.w X.K X.mg X.base Ct lev fa fdt prs pr) (gd : X.A.guards = some []) (hr : Room lev X.A) (hx : Passes Ct X E) {pins : List (Addr × Obj)} {σ : L2.St} {H : Hp} {sh : Shared} {Q : VK} {us ws : List Value} {kw : List (Str × Value)} {vs : List V}
    (I : Inv X pins σ H sh) (b : BindsTo sh fdt ⟨us, kw⟩ (prs.zip ws)) (r : Vals vs ws) (h : pr vs H Q E) : wpAny (model X.prog X.w) X.A (call (.ref fa) us kw) (EP X pins σ Q) X.xe sh := by
  refine wpAny_call (codeAny_mono (F.go X.A X.stack sh H ⟨us, kw⟩ ws vs Q E gd hr I.env0 b r h) fun rs sh' hq => ?_)
  match rs, hq with
  | .error er, hq => exact hx pins σ H sh er sh' I hq
  | .ok (.ret u), hq => exact I.after hq
  | .ok .next, hq => exact False.elim hq
  | .ok .brk, hq => exact False.elim hq
  | .ok .cont, hq => exact False.elim hq
theorem FnG.args (F : FnG X.prog X.w X.K X.mg X.base Ct lev fa fdt prs pr) (gd : X.A.guards = some []) (hr : Room lev X.A) (hx : Passes Ct X E) (bd : Binds X.K fdt prs []) {pins : List (Addr × Obj)} {σ : L2.St} {H : Hp} {sh : Shared} {Q : VK} {us : List Value} {vs : List V}
    (I : Inv X pins σ H sh) (r : Vals vs us) (h : pr vs H Q E) : wpAny (model X.prog X.w) X.A (call (.ref fa) us) (EP X pins σ Q) X.xe sh := by
  have hl : (us ++ []).length = prs.length := by rw [List.append_nil, ← r.length]; exact F.cnt _ _ _ _ h
  have b := bd sh us I.kIn hl
  rw [List.append_nil] at b
  exact F.inX gd hr hx I b r h
def tCallG (pr : Sp) (E : XK) (t : TA) : TE := fun σ H Q => t σ H fun vs H1 => pr vs H1 Q E
theorem pe_callG (F : FnG X.prog X.w X.K X.mg X.base Ct lev fa fdt prs pr) (gd : X.A.guards = some []) (hr : Room lev X.A) (gl : Gl X x) (mm : X.mg x = some (.ref fa)) (kp : PySem.W.keepIn X.K (.ref fa) = true) (bd : Binds X.K fdt prs []) (hx : Passes Ct X E)
    (ha : PA X (e :: es) t) (nd : (x == ("__debug__" : Str)) = false) (se : starEach (e :: es) X.env = (false, eval e X.env) :: starEach es X.env) (sp : (backTo pos (starEach es X.env)).any (·.1) = false) : PE X (.Call (.Name x p) (e :: es) [] pos) (tCallG pr E t) :=
  ⟨fun pins sh σ H Q I h => wpAny_Call_Name_kw (ld_glob I gl mm (PySem.W.callWith_K (h₀ := X.base) I.ok.mod.kin kp (thn (ha.run pos pins sh σ H _ I h) fun us s2 ⟨vs, H2, I2, r2, q2⟩ => ⟨I2.kIn, F.args gd hr hx bd I2 r2 q2⟩) se sp) nd)⟩
theorem pe_callG0 (F : FnG X.prog X.w X.K X.mg X.base Ct lev fa fdt prs pr) (gd : X.A.guards = some []) (hr : Room lev X.A) (gl : Gl X x) (mm : X.mg x = some (.ref fa)) (kp : PySem.W.keepIn X.K (.ref fa) = true) (bd : Binds X.K fdt prs []) (hx : Passes Ct X E)
    (nd : (x == ("__debug__" : Str)) = false) : PE X (.Call (.Name x p) [] [] pos) (tCallG pr E tNil) :=
  ⟨fun pins sh σ H Q I h => wpAny_Call_Name_kw (ld_glob I gl mm (PySem.W.callWith_K0 I.kIn kp (F.args (us := []) gd hr hx bd I .nil h)) nd)⟩
end
section
variable {X : Cx} {W : WX} {k n : Nat} {f : Addr} {fd : FuncData} {ps ks : List Str} {g : MF} {x : Str} {p pos kpos : Pos} {e : Expr} {es : List Expr} {fs fk : MA} {kws : List Keyword}
theorem fng_tree {P : Program} {w : World} {K : PySem.W.Frag} {mg : Str → Option Value} {base : Heap} (F : FnG P w K mg base CX0 k f fd ps (spM K n g)) : FnG P w K mg base CX0 k f fd ps (spM K n (pureZ g)) := F.less sp_pureZ
theorem fng_new {P : Program} {w : World} {K : PySem.W.Frag} {mg : Str → Option Value} {base : Heap} (F : FnG P w K mg base CX0 k f fd ps (spM K n g)) : FnG P w K mg base CX0 k f fd ps (spM K n (newF g)) := F.less sp_new
theorem fng_last {P : Program} {w : World} {K : PySem.W.Frag} {mg : Str → Option Value} {base : Heap} (F : FnG P w K mg base CX0 k f fd ps (spM K n g)) : FnG P w K mg base CX0 k f fd ps (spM K n (lastF g)) := F.less sp_last
theorem pmG_call (F : FnG X.prog X.w X.K X.mg X.base CX0 k f fd ps (spM X.K n g)) (gd : X.A.guards = some []) (hr : Room k X.A) (hg : Gl X x) (hm : X.mg x = some (.ref f)) (hk : PySem.W.keepIn X.K (.ref f) = true) (hb : Binds X.K fd ps [])
    (ha : PMA X W (e :: es) fs) (hc : Cnt n fs) (hdb : (x == ("__debug__" : Str)) = false := by decide) (he : starEach (e :: es) X.env = (false, eval e X.env) :: starEach es X.env := by rfl) (hpl : (backTo pos (starEach es X.env)).any (·.1) = false := by rfl) :
    PM X W (.Call (.Name x p) (e :: es) [] pos) (mCall g fs) :=
  ⟨pe_weak (pe_callG F gd hr hg hm hk hb pass0 ha.run hdb he hpl) fun σ H Q h => by
    have := tCall_of (E := E0) h fun _ _ _ _ _ _ _ q => hc _ _ _ _ _ q
    unfold tCall at this
    unfold tCallG
    simpa using this⟩
theorem pmG_call0 (F : FnG X.prog X.w X.K X.mg X.base CX0 k f fd ps (spM X.K 0 g)) (gd : X.A.guards = some []) (hr : Room k X.A) (hg : Gl X x) (hm : X.mg x = some (.ref f)) (hk : PySem.W.keepIn X.K (.ref f) = true) (hb : Binds X.K fd ps [])
    (hdb : (x == ("__debug__" : Str)) = false := by decide) : PM X W (.Call (.Name x p) [] [] pos) (mCall g mNil) := by
  refine ⟨pe_weak (pe_callG0 F gd hr hg hm hk hb pass0 hdb) fun σ H Q h => ?_⟩
  obtain ⟨c, P, ρ, S, hE, hS, h⟩ := h
  exact ⟨rfl, c, P, S, [], hS, .nil, Post.nx h⟩
theorem FnG.named {gi : List Value → List Value → List Value} {gv : List V → List V → List V} {pr : Sp} {E : XK} {Ct : CXT} (F : FnG X.prog X.w X.K X.mg X.base Ct k f fd ps pr) (gd : X.A.guards = some []) (hr : Room k X.A) (hx : Passes Ct X E) (kb : KBinds X.K fd ps ks gi gv)
    {pins : List (Addr × Obj)} {σ : L2.St} {H : Hp} {sh : Shared} {Q : VK} {us ws : List Value} {vs zs : List V} (I : Inv X pins σ H sh) (r : Vals vs us) (rz : Vals zs ws) (h : pr (gv vs zs) H Q E) : wpAny (model X.prog X.w) X.A (call (.ref f) us (ks.zip ws)) (EP X pins σ Q) X.xe sh := by
  have rr := kb.rel r rz
  exact F.inX gd hr hx I (kb.to sh us ws I.kIn (by rw [← rr.length]; exact F.cnt _ _ _ _ h)) rr h
theorem pmG_callK {n1 m1 : Nat} {ix : List Nat} (F : FnG X.prog X.w X.K X.mg X.base CX0 k f fd ps (spM X.K n g)) (gd : X.A.guards = some []) (hr : Room k X.A) (hg : Gl X x) (hm : X.mg x = some (.ref f)) (hk : PySem.W.keepIn X.K (.ref f) = true) (hb : KBinds X.K fd ps ks (gI n1 m1 ix) (gI n1 m1 ix))
    (ha : PMA X W (e :: es) fs) (hkw : PMK X W kws fk) (hix : ∀ l : List D, l.length = n1 + m1 → (pickI ix l).length = n) (hall : (backToKw pos (keywordEach kws X.env)).all (·.1.isSome) = true := by rfl) (hks : (backToKw pos (keywordEach kws X.env)).filterMap (·.1) = ks := by rfl)
    (hdb : (x == ("__debug__" : Str)) = false := by decide) (he : starEach (e :: es) X.env = (false, eval e X.env) :: starEach es X.env := by rfl)
    (hpl : ((backTo pos (starEach (e :: es) X.env)).any (·.1) || (backToKw pos (keywordEach kws X.env)).any (·.1.isNone)) = false := by rfl) :
    PM X W (.Call (.Name x p) (e :: es) kws pos) (mCallK g n1 m1 ix fs fk) := by
  refine ⟨⟨fun pins sh σ H Q I h => ?_⟩⟩
  have q0 := tCallK_of (E := E0) hix h
  refine wpAny_Call_Name_kw (ld_glob I hg hm (PySem.W.callWith_KW (h₀ := X.base) I.ok.mod.kin hk hall (thn (ha.run.run pos pins sh σ H _ I q0) fun us s1 ⟨vs, H1, I1, r1, q1⟩ => ?_) hpl he) hdb)
  refine thn (hkw.run.run pos pins s1 σ H1 _ I1 q1) fun ws s2 ⟨zs, H2, I2, r2, q2⟩ => ⟨I2.kIn, ?_⟩
  rw [hks]
  exact F.named gd hr pass0 hb I2 r1 r2 q2
theorem pmG_callK0 {m1 : Nat} {ix : List Nat} (F : FnG X.prog X.w X.K X.mg X.base CX0 k f fd ps (spM X.K n g)) (gd : X.A.guards = some []) (hr : Room k X.A) (hg : Gl X x) (hm : X.mg x = some (.ref f)) (hk : PySem.W.keepIn X.K (.ref f) = true) (hb : KBinds X.K fd ps ks (gI 0 m1 ix) (gI 0 m1 ix))
    (hkw : PMK X W kws fk) (hix : ∀ l : List D, l.length = 0 + m1 → (pickI ix l).length = n) (hall : (backToKw pos (keywordEach kws X.env)).all (·.1.isSome) = true := by rfl) (hks : (backToKw pos (keywordEach kws X.env)).filterMap (·.1) = ks := by rfl)
    (hdb : (x == ("__debug__" : Str)) = false := by decide) (hpl : ((backTo pos (starEach [] X.env)).any (·.1) || (backToKw pos (keywordEach kws X.env)).any (·.1.isNone)) = false := by rfl) :
    PM X W (.Call (.Name x p) [] kws pos) (mCallK g 0 m1 ix mNil fk) := by
  refine ⟨⟨fun pins sh σ H Q I h => ?_⟩⟩
  have q0 := tCallK_of (E := E0) hix h
  obtain ⟨c, P, ρ, S, hE, hS, q0⟩ := q0
  have q1 := q0 c [] H (Ev.refl hS) hS .nil
  refine wpAny_Call_Name_kw (ld_glob I hg hm (PySem.W.callWith_KW0 (h₀ := X.base) I.ok.mod.kin hk hall (thn (hkw.run.run pos pins sh σ H _ I q1) fun ws s2 ⟨zs, H2, I2, r2, q2⟩ => ⟨I2.kIn, ?_⟩) hpl) hdb)
  rw [hks]
  exact F.named gd hr pass0 hb I2 .nil r2 q2
end
/-! a def by its body -/
section
variable {Pg : Program} {wd : World} {Kf : PySem.W.Frag} {mods : Str → Option Value} {bs : Heap}
theorem fng_of {Ct : CXT} {lev : Nat} {x qual : Str} {st : Stmt} {fa : Addr} {fdt : FuncData} {Nm prs : List Str} {pr : Sp} (F : L2.Fun Kf x qual st fa fdt) (Sc : FnScope Nm prs (defScope st)) (cnt : ∀ vs H Q E, pr vs H Q E → vs.length = prs.length)
    (body : ∀ (cdv : Value) (Ar : Around) (outs : List Env) (sh : Shared) (H : Hp) (vs : List V) (Q : VK) (E : XK), Ar.guards = some [] → Room lev (Ar.deeper (envOfC qual (defScope st) sh.heap.objs.size fa cdv)) → pr vs H Q E →
      ∃ t, PSs (cxOf Ct Pg wd Kf mods bs Nm qual (defScope st) fa cdv Ar outs sh H E) (defBody st) t ∧ t { nx := fun _ H' => Q .non H', rt := Q } (start Nm vs) H) : FnG Pg wd Kf mods bs Ct (lev + 1) fa fdt prs pr := by
  obtain ⟨oc, od, kV, doc, pm, an, cdv, ct, osl, rfl, look, codeK⟩ := F.ex
  refine ⟨cnt, fun Ar outs sh H ags ws vs Q E gd room env bound vals want => ?_⟩
  have old : ∀ b o, bs.get? b = some o → sh.heap.get? b = some o := fun b o e => (env.bs b o e).1
  have inK : Kf.In sh.heap := env.mod.kin.keeps old
  have kinds : ∀ y ∈ prs.zip ws, (defScope st).names.lookup y.1 = some .local ∨ ((defScope st).names.lookup y.1 = some .cell ∧ ((cellsFrom (sh.heap.objs.size + 1) (defScope st).names []).lookup y.1).isSome = true) := by
    rintro ⟨nm, v⟩ hy
    rcases Sc.par nm (List.of_mem_zip hy).1 with q | q
    · exact Or.inl q
    · exact Or.inr ⟨q, PySem.W.cellsFrom_some _ _ _ (Or.inl q)⟩
  refine codeAny_call_function room.depth (inK _ _ look) rfl Sc.co Sc.gen rfl (PySem.W.codeRec_of inK codeK) (bound _ _ _ _ (wpAny_newFunctionEnv_cells Sc.kind kinds fun env1 he s1 made => ?_))
  subst he
  refine ⟨(env.mod.nolimit.keeps old).keeps made.toInCall.keep, codeAny_func ?_⟩
  obtain ⟨t, runs, got⟩ := body cdv Ar outs sh H vs Q E gd (room.deeper _) want
  have I : Inv (cxOf Ct Pg wd Kf mods bs Nm qual (defScope st) fa cdv Ar outs sh H E) [] (start Nm vs) H s1 := inv_start Sc room.hd env (cnt _ _ _ _ want) vals made
  have done : ∀ {s' : Shared} {σ' : L2.St} {H' : Hp} {v : V} {u : Value}, Inv (cxOf Ct Pg wd Kf mods bs Nm qual (defScope st) fa cdv Ar outs sh H E) [] σ' H' s' → RelV v u → Q v H' → CE outs Pg wd H sh Q u s' :=
    fun J rv q => ⟨_, _, J.os, J.bare, J.base, J.hok, rv, q⟩
  refine wpAny_mono (runs.run [] s1 _ H _ I got) (fun fl s' hs => ?_) fun er s' hs => hs
  match fl, hs with
  | .ret u, hs => obtain ⟨v, σ', H', J, rv, q⟩ := hs; exact done J rv q
  | .next, hs => obtain ⟨σ', H', J, q⟩ := hs; exact done (v := V.non) (u := Value.none) J rfl q
  | .brk, hs => obtain ⟨_, _, _, q⟩ := hs; exact False.elim q
  | .cont, hs => obtain ⟨_, _, _, q⟩ := hs; exact False.elim q
theorem fng_ok {x qual : Str} {st : Stmt} {fa : Addr} {fdt : FuncData} {N ps : List Str} {k : Nat} {fb : MS} (F : L2.Fun Kf x qual st fa fdt) (Sc : FnScope N ps (defScope st))
    (hb : ∀ (cdv : Value) (A : Around) (outer : List Env) (s : Shared) (H : Hp) (E : XK), A.guards = some [] → Room k (A.deeper (envOfC qual (defScope st) s.heap.objs.size fa cdv)) → PMB (cxOf CX0 Pg wd Kf mods bs N qual (defScope st) fa cdv A outer s H E).nox W0 (defBody st) fb) :
    FnG Pg wd Kf mods bs CX0 (k + 1) fa fdt ps (spM Kf ps.length (mDef N.length fb)) := by
  refine fng_of F Sc (fun vs H Q E h => h.1) fun cdv A outer s H vs Q E gd hr h => ?_
  obtain ⟨hn, c, P', S, ds, hS, r, h⟩ := h
  refine ⟨_, (hb cdv A outer s H E gd hr).run.nox, c, P', _, S, simE_start r N, hS, ?_⟩
  unfold mDef at h
  generalize fb P' (ds.map some ++ List.replicate (N.length - ds.length) none) S = o at h
  match o, h with
  | .nx ρ S', h => exact fun c' σ' H' e s E' => h c' .non H' e s RV.non
  | .rt d S', h => exact h
  | .bk ρ S', h => exact h.elim
  | .ct ρ S', h => exact h.elim
  | .ex x ρ S', h => exact h
  | .no, h => exact h
end
end Fm
namespace Fm
open PySem PySem.Spec PyProof.Rows L2
/-! the head -/
section
variable {Pg : Program} {wd : World} {Kf : PySem.W.Frag} {mods mbt : Str → Option Value} {lev n : Nat} {fa a : Addr} {fdt : FuncData} {x : Str} {g : MF} {s1 : Shared} {vs : List Value} {ns : List Int}
/-- the law's def, called with the script, where H is what is tracked: the script alone, or nothing (it is the module's own) -/
theorem head_run (inK : Kf.In s1.heap) (hm : s1.heap.Ns mainGlobals mods) (hb : s1.heap.Ns builtinsNs mbt) (bt : ∀ x : Str, x ≠ "__name__" → mbt x = bootBuiltins x) (nl : s1.heap.NoLimit) (gn : s1.gens = #[])
    (at_a : s1.heap.get? a = some { cls := .type "list", data := .seq vs.toArray }) (room : Room lev callerA) (F : ∀ bs : Heap, Kf.In bs → bs.Ns mainGlobals mods → FnG Pg wd Kf mods bs CX0 lev fa fdt [x] (spM Kf 1 g))
    (bd : ∀ (s : Shared) (u : Value), BindsTo s fdt ⟨[u], []⟩ [(x, u)]) (H : Hp) (only : L2.Only H) (good : spM Kf 1 g [.ref a] H (fun v _ => v = .bl true) E0) (hok : HOk Pg wd H s1.heap) (just : ∀ b, H b ≠ none → b = a) (mine : H a ≠ none → Kf.lookup a = none) :
    codeAny (model Pg wd) callerA (.call (.ref fa) ⟨[.ref a], []⟩) (fun r s' => r = .ok (.ret (.bool true)) ∧ OldK s1.heap s'.heap ∧ s'.os = s1.os ∧ AllBare s'.gens) s1 := by
  have none_of : ∀ {b : Addr}, b ≠ a → H b = none := fun {b} ne => Classical.byContradiction fun c => ne (just b c)
  have dictNo : ∀ {b : Addr} {m : Str → Option Value}, s1.heap.Ns b m → (hidT s1.heap H).Ns b m := by
    rintro b m ⟨o, es, ep, e, d, r⟩
    refine ⟨o, es, ep, hidT_get e (none_of ?_), d, r⟩
    rintro rfl
    rw [at_a] at e
    cases e
    cases d
  have inB : Kf.In (hidT s1.heap H) := fun b o e => hidT_get (inK b o e) (by
    by_cases c : b = a
    · subst c
      exact Classical.byContradiction fun q => by rw [mine q] at e; cases e
    · exact none_of c)
  have md : Mod Kf mods (hidT s1.heap H) := ⟨inB, dictNo hm, ⟨mbt, dictNo hb, bt⟩, (by obtain ⟨mc, h1, h2⟩ := nl; exact ⟨mc, dictNo h1, h2⟩)⟩
  have env : Env0 Pg wd Kf mods (hidT s1.heap H) callerA [] s1 H :=
    ⟨rfl, md, fun b o e => of_hidT e, Nat.le_of_eq (hidT_size _ _), trivial, fun b hb => absurd (show b ∈ ([] : List Addr) from hb) List.not_mem_nil, hok, .of_eq gn⟩
  refine codeAny_mono ((F _ inB (dictNo hm)).go callerA [] s1 H ⟨[.ref a], []⟩ [.ref a] [.ref a] _ E0 rfl room env (bd s1 (.ref a)) (.cons rfl .nil) good) fun r s' h => ?_
  match r, h with
  | .error er, h => exact h.elim
  | .ok .next, h => exact False.elim h
  | .ok .brk, h => exact False.elim h
  | .ok .cont, h => exact False.elim h
  | .ok (.ret u), h =>
    obtain ⟨v, H', os, bare, un, ok', rv, rfl⟩ := h
    obtain rfl : u = Value.bool true := rv
    refine ⟨rfl, OldK.of_keep fun b o e => ?_, os, bare⟩
    by_cases c : H b = none
    · exact un.keep b o e c (fun z => absurd (show b ∈ ([] : List Addr) from z) List.not_mem_nil) List.not_mem_nil
    · rcases only b with z | ⟨ob, xs, z⟩
      · exact absurd z c
      · obtain ⟨h1, _⟩ := hok b _ z
        obtain ⟨h2, _⟩ := ok' b _ (un.frzs b ob _ z)
        rw [e] at h1
        cases h1
        exact h2
theorem head_call (inK : Kf.In s1.heap) (hm : s1.heap.Ns mainGlobals mods) (hb : s1.heap.Ns builtinsNs mbt) (bt : ∀ x : Str, x ≠ "__name__" → mbt x = bootBuiltins x) (nl : s1.heap.NoLimit) (gn : s1.gens = #[])
    (at_a : s1.heap.get? a = some { cls := .type "list", data := .seq vs.toArray }) (itg : IntsAre vs ns) (hl : ns.length ≤ n) (n63 : n ≤ 63) (room : Room lev callerA)
    (F : ∀ bs : Heap, Kf.In bs → bs.Ns mainGlobals mods → FnG Pg wd Kf mods bs CX0 lev fa fdt [x] (spM Kf 1 g)) (bd : ∀ (s : Shared) (u : Value), BindsTo s fdt ⟨[u], []⟩ [(x, u)])
    (law : ∀ l : List Int, l.length ≤ n → ∃ S, g [.t (.scr l)] [] [] = .ok (.t (.bl true)) S) :
    codeAny (model Pg wd) callerA (.call (.ref fa) ⟨[.ref a], []⟩) (fun r s' => r = .ok (.ret (.bool true)) ∧ OldK s1.heap s'.heap ∧ s'.os = s1.os ∧ AllBare s'.gens) s1 := by
  have rv := vals_ints itg
  have lv := itg.length
  have small : ns.length ≤ sizeLine := Nat.le_trans (Nat.le_trans hl n63) (by decide)
  cases own : Kf.lookup a with
  | some o =>
    have e := inK a o own
    rw [at_a] at e
    cases e
    refine head_run inK hm hb bt nl gn at_a room F bd (fun _ => none) (fun _ => .inl rfl) (law_start law hl n63 (fun _ => .inl rfl) (.inr ⟨_, vs.toArray, _, own, rfl, rfl, rfl, by rw [List.size_toArray, lv]; exact small, by simpa using rv⟩)) ?_ (fun b z => absurd rfl z) (fun z => absurd rfl z)
    intro b u z
    cases (show (none : Option HO) = some u from z)
  | none =>
    have here : (fun b => if b = a then some (HO.frz { cls := .type "list", data := .seq vs.toArray } (.lst (ns.map V.int))) else none) a = some (HO.frz { cls := .type "list", data := .seq vs.toArray } (.lst (ns.map V.int))) := if_pos rfl
    have only : L2.Only (fun b => if b = a then some (HO.frz { cls := .type "list", data := .seq vs.toArray } (.lst (ns.map V.int))) else none) := fun b => by
      by_cases c : b = a
      · exact .inr ⟨_, _, if_pos c⟩
      · exact .inl (if_neg c)
    refine head_run inK hm hb bt nl gn at_a room F bd _ only (law_start law hl n63 only (.inl (.inr ⟨_, here⟩))) ?_ ?_ fun _ => own
    · intro b u z
      by_cases c : b = a
      · subst c
        cases here.symm.trans z
        exact ⟨at_a, by rw [List.length_map]; exact small, vs, _, rv, at_a⟩
      · cases (if_neg c).symm.trans z
    · intro b z
      by_cases c : b = a
      · exact c
      · exact absurd (if_neg c) z
end
theorem walkG {l : PySem.W.OpenLaw} {n k : Nat} {q : Program} {loose : List Str} {XP : (Str → Option Value) → Heap → Prop} {YP : World → Heap → Prop} {d : DefRec} {K : Params → PySem.W.Frag} {x : Str} {g : MF}
    (most : l.most = some n) (n63 : n ≤ 63) (nodef : d.params.defaults = []) (room : Room k callerA) (inY : ∀ (w : World) (h : Heap), YP w h → (K w.params).In h)
    (F : ∀ (w : World) (mg : Str → Option Value) (fa : Addr) (h : Heap), (K w.params).In h → h.Ns mainGlobals mg → mg d.name = some (.ref fa) →
      ∃ fd : FuncData, (∀ (s : Shared) (u : Value), BindsTo s fd ⟨[u], []⟩ [(x, u)]) ∧ ∀ bs : Heap, (K w.params).In bs → bs.Ns mainGlobals mg → FnG l.prog w (K w.params) mg bs CX0 k fa fd [x] (spM (K w.params) 1 g))
    (law : ∀ l : List Int, l.length ≤ n → ∃ S, g [.t (.scr l)] [] [] = .ok (.t (.bl true)) S) :
    PySem.W.WalkO q loose XP YP l.row.toRowW d [] (fun f vs => PySem.call f vs) := by
  refine Att.attach_call most nodef fun w s0 s1 mg mb fa o pm cd doc a vs ns G Y _ _ _ isf obj itg len gn => ?_
  obtain ⟨fd, bd, hF⟩ := F w mg fa _ (inY w _ Y) G.T.g isf
  exact head_call (inY w _ Y) G.T.g G.T.b G.T.builtins G.T.nolimit gn obj itg len n63 room hF bd law
end Fm

/-! FmO: repr of trees. -/
namespace Fm
open PySem PySem.Spec PyProof.Rows L2
mutual
theorem T.noDict : ∀ t : T, t.plain = true → t.pd.hasDict = false
  | .non, _ => by simp only [T.pd, PyData.hasDict]
  | .bl _, _ => by simp only [T.pd, PyData.hasDict]
  | .int _, _ => by simp only [T.pd, PyData.hasDict]
  | .str _, _ => by simp only [T.pd, PyData.hasDict]
  | .lst l, h => by simp only [T.pd, PyData.hasDict]; exact T.noDicts l (by simpa [T.plain] using h)
  | .tup l, h => by simp only [T.pd, PyData.hasDict]; exact T.noDicts l (by simpa [T.plain] using h)
  | .wtup l, h => by simp only [T.pd, PyData.hasDict]; exact T.noDicts l (by simpa [T.plain] using h)
  | .scr l, h => by
    clear h
    simp only [T.pd, PyData.hasDict]
    induction l with
    | nil => rfl
    | cons x l ih => simp only [List.map_cons, PyData.hasDictAll, PyData.hasDict, Bool.false_or]; exact ih
  | .dic _, h => by simp [T.plain] at h
  | .dit _, h => by simp [T.plain] at h
  | .ty _, h => by simp [T.plain] at h
theorem T.noDicts : ∀ l : List T, T.plains l = true → PyData.hasDictAll (T.pds l) = false
  | [], _ => by simp only [T.pds, PyData.hasDictAll]
  | x :: l, h => by
    rw [T.plains, Bool.and_eq_true] at h
    simp only [T.pds, PyData.hasDictAll, T.noDict x h.1, T.noDicts l h.2, Bool.or_self]
end
/-- the text of a tree -/
def rp (t : T) : Tx := t.pd.shown.cps.toList
theorem sv_rp (t : T) : sv (rp t) = t.pd.shown := sv_of _
theorem rp_len (t : T) : (rp t).length = t.pd.shown.length := by
  show t.pd.shown.cps.toList.length = t.pd.shown.cps.size
  rw [Array.length_toList]
/-- its text can be told -/
def T.tells (t : T) : Bool := t.plain && t.low && t.pd.showable && decide (t.pd.shown.length ≤ sizeLine)
def reprG : FL := fun ds P S => match ds with
  | [d] => match viewT P S d with
    | some t => if t.tells then some (.t (.str (rp t)), S) else none
    | none => none
  | _ => none
section
variable {X : Cx} {W : WX}
theorem call_reprM (gd : X.A.guards = some []) (hu : X.A.units + 65 < cLine) : CallM X (.builtin "repr") reprG := by
  refine ⟨fun pins s σ H xs us Q I rx hh => ?_⟩
  obtain ⟨c, P, S, ds, hS, ra, q⟩ := hh
  match ds, xs, ra with
  | [], _, _ => exact q.elim
  | _ :: _ :: _, _, _ => exact q.elim
  | [d], [v], .cons r .nil =>
    obtain ⟨u, rfl, ru⟩ := vals1 rx
    unfold reprG at q
    simp only at q
    cases ev : viewT P S d with
    | none => rw [ev] at q; exact q.elim
    | some t =>
      rw [ev] at q
      simp only at q
      by_cases ht : t.tells = true
      · rw [if_pos ht] at q
        have h1 : ((t.plain = true ∧ t.low = true) ∧ t.pd.showable = true) ∧ t.pd.shown.length ≤ sizeLine := by
          unfold T.tells at ht
          rw [Bool.and_eq_true, Bool.and_eq_true, Bool.and_eq_true, decide_eq_true_iff] at ht
          exact ht
        obtain ⟨⟨⟨pl, lo⟩, sh⟩, len⟩ := h1
        have dep : t.pd.depth ≤ 40 := of_decide_eq_true lo
        have dp := viewT_dp hS r ev pl
        have fin := q c (.str (sv (rp t))) H (Ev.refl hS) hS (RV.str (rp t) (by rw [rp_len]; exact len))
        rw [sv_rp] at fin
        obtain ⟨as, rd⟩ := Dp.reads I _ _ _ dp ru
        cases u with
        | ref a =>
          refine PySem.repr_of_reads' rd sh (PyData.noDict_hsm (T.noDict t pl)) gd (by omega) (fun _ _ e => e) (fun h' u tk hk => ?_) len
          exact ⟨.str t.pd.shown, H, I.kept hk, ⟨_, rfl⟩, fin⟩
        | none =>
          generalize t.pd = pd at *
          cases rd
          exact PySem.P.repr_of_none ⟨.str _, H, I.tok _, ⟨_, rfl⟩, by simpa only [PyData.shown] using fin⟩
        | bool b =>
          generalize t.pd = pd at *
          cases rd
          exact PySem.P.repr_of_bool ⟨.str _, H, I.tok _, ⟨_, rfl⟩, by simpa only [PyData.shown] using fin⟩
        | int i t' =>
          generalize t.pd = pd at *
          cases rd
          exact PySem.P.repr_of_int (by simpa [PyData.showable] using sh) ⟨.str _, H, I.tok _, ⟨_, rfl⟩, by simpa only [PyData.shown] using fin⟩
        | str x t' =>
          generalize t.pd = pd at *
          cases rd
          exact PySem.P.repr_of_str ⟨.str _, H, I.tok _, ⟨_, rfl⟩, by simpa only [PyData.shown] using fin⟩ (by simpa only [PyData.shown] using len)
        | _ =>
          generalize t.pd = pd at *
          cases rd
      · rw [if_neg ht] at q
        exact q.elim
end
/-! how long a text is at most -/
mutual
def T.okc : T → Bool
  | .int i => decide (i.natAbs < 10 ^ 500)
  | .str s => s.all fun c => decide (c < 16 ^ 8)
  | .lst l => T.okcs l
  | .tup l => T.okcs l
  | .wtup l => T.okcs l
  | .scr l => false
  | _ => true
def T.okcs : List T → Bool
  | [] => true
  | x :: l => x.okc && T.okcs l
end
mutual
def T.bk : T → Nat
  | .str s => s.length
  | .lst l => T.bks l
  | .tup l => T.bks l
  | .wtup l => T.bks l
  | _ => 0
def T.bks : List T → Nat
  | [] => 0
  | x :: l => x.bk + 1 + T.bks l
end
theorem log_500 {i : Int} (h : i.natAbs < 10 ^ 500) : i.natAbs.log2 < 1920 := by
  by_cases c : i.natAbs = 0
  · rw [c]; decide
  · rw [Nat.log2_lt c]
    refine Nat.lt_of_lt_of_le h ?_
    have e : (2 : Nat) ^ 1920 = (2 ^ 4) ^ 480 := by rw [← Nat.pow_mul]
    have h1 : (10 : Nat) ^ 500 = (10 ^ 25) ^ 20 := by rw [← Nat.pow_mul]
    have h2 : (2 : Nat) ^ 1920 = (2 ^ 96) ^ 20 := by rw [← Nat.pow_mul]
    rw [h1, h2]
    exact Nat.pow_le_pow_left (by decide) _
mutual
theorem T.shw : ∀ t : T, t.plain = true → t.okc = true → t.pd.showable = true ∧ t.pd.leavesShort 501 = true ∧ t.pd.bulk = t.bk
  | .non, _, _ => ⟨by simp only [T.pd, PyData.showable], by simp only [T.pd, PyData.leavesShort], by simp only [T.pd, PyData.bulk, T.bk]⟩
  | .bl _, _, _ => ⟨by simp only [T.pd, PyData.showable], by simp only [T.pd, PyData.leavesShort], by simp only [T.pd, PyData.bulk, T.bk]⟩
  | .int i, _, h => by
    have h : i.natAbs < 10 ^ 500 := of_decide_eq_true h
    refine ⟨by simp only [T.pd, PyData.showable]; exact decide_eq_true (log_500 h), ?_, by simp only [T.pd, PyData.bulk, T.bk]⟩
    simp only [T.pd, PyData.leavesShort, PyData.shown]
    refine decide_eq_true ?_
    have := PySem.int_text_length_le10 (k := 500) (by decide) h
    show (Str.ofString (toString i)).length ≤ 501
    rw [sv_cs, sv_len]
    unfold cs
    rw [List.length_map]
    rw [← String.length_toList] at this
    exact this
  | .str s, _, h => by
    refine ⟨by simp only [T.pd, PyData.showable], ?_, by simp only [T.pd, PyData.bulk, T.bk]; rfl⟩
    simp only [T.pd, PyData.leavesShort]
    rw [sv_list]; exact h
  | .lst l, p, h => by
    obtain ⟨h1, h2, h3⟩ := T.shws l (by simpa [T.plain] using p) (by simpa [T.okc] using h)
    exact ⟨by simp only [T.pd, PyData.showable]; exact h1, by simp only [T.pd, PyData.leavesShort]; exact h2, by simp only [T.pd, PyData.bulk, T.bk]; exact h3⟩
  | .tup l, p, h => by
    obtain ⟨h1, h2, h3⟩ := T.shws l (by simpa [T.plain] using p) (by simpa [T.okc] using h)
    exact ⟨by simp only [T.pd, PyData.showable]; exact h1, by simp only [T.pd, PyData.leavesShort]; exact h2, by simp only [T.pd, PyData.bulk, T.bk]; exact h3⟩
  | .wtup l, p, h => by
    obtain ⟨h1, h2, h3⟩ := T.shws l (by simpa [T.plain] using p) (by simpa [T.okc] using h)
    exact ⟨by simp only [T.pd, PyData.showable]; exact h1, by simp only [T.pd, PyData.leavesShort]; exact h2, by simp only [T.pd, PyData.bulk, T.bk]; exact h3⟩
  | .scr _, _, h => by simp [T.okc] at h
  | .dic _, h, _ => by simp [T.plain] at h
  | .dit _, h, _ => by simp [T.plain] at h
  | .ty _, h, _ => by simp [T.plain] at h
theorem T.shws : ∀ l : List T, T.plains l = true → T.okcs l = true → PyData.showableAll (T.pds l) = true ∧ PyData.leavesShortAll 501 (T.pds l) = true ∧ PyData.bulkAll (T.pds l) = T.bks l
  | [], _, _ => ⟨by simp only [T.pds, PyData.showableAll], by simp only [T.pds, PyData.leavesShortAll], by simp only [T.pds, PyData.bulkAll, T.bks]⟩
  | x :: l, p, h => by
    rw [T.plains, Bool.and_eq_true] at p
    rw [T.okcs, Bool.and_eq_true] at h
    obtain ⟨a1, a2, a3⟩ := T.shw x p.1 h.1
    obtain ⟨b1, b2, b3⟩ := T.shws l p.2 h.2
    refine ⟨?_, ?_, ?_⟩
    · simp only [T.pds, PyData.showableAll, a1, b1, Bool.and_self]
    · simp only [T.pds, PyData.leavesShortAll, a2, b2, Bool.and_self]
    · simp only [T.pds, PyData.bulkAll, a3, b3, T.bks]
end
theorem T.tells_of {t : T} (p : t.plain = true) (l : t.low = true) (c : t.okc = true) (b : t.bk ≤ 33000) : t.tells = true := by
  obtain ⟨h1, h2, h3⟩ := T.shw t p c
  have := PyData.shown_le_bulk 501 (by decide) t.pd h2
  unfold T.tells
  rw [p, l, h1]
  simp only [Bool.and_self, Bool.true_and]
  refine decide_eq_true ?_
  rw [sizeLine_eq]
  rw [h3] at this
  omega
theorem repr_t {t : T} (P S : List O) (h : t.tells = true) : reprG [.t t] P S = some (.t (.str (rp t)), S) := by
  show (if t.tells then some (D.t (.str (rp t)), S) else none) = _
  rw [if_pos h]
theorem repr_c {P S : List O} {i : Nat} {l : List T} (e : (P ++ S)[i]? = some (.lst (l.map D.t))) (h : (T.lst l).tells = true) : reprG [.ref i] P S = some (.t (.str (rp (.lst l))), S) := by
  have : viewT P S (.ref i) = some (.lst l) := by
    unfold viewT
    simp only [e]
    rw [trees_map]; rfl
  unfold reprG
  simp only [this, if_pos h]
end Fm

/-! FmP: methods of texts. -/
namespace Fm
open PySem PySem.Spec PyProof.Rows L2
/-- t ends with u, begins with u -/
def endsTx (s u : Tx) : Bool := decide (u.length ≤ s.length) && decide (s.drop (s.length - u.length) = u)
def startsTx (s u : Tx) : Bool := decide (u.length ≤ s.length) && decide (s.take u.length = u)
theorem sub_at (s u : Tx) (i : Nat) : Builtin.Str.subAt (sv s) (sv u) i = decide ((s.drop i).take u.length = u) := by
  rw [PySem.StrLaws.subAt_eq, sv_list, sv_list, sv_len]
  by_cases h : (s.drop i).take u.length = u
  · rw [decide_eq_true h, h]; simp
  · rw [decide_eq_false h]; simp [h]
theorem ends_tx (s u : Tx) : Txt.endswith (sv s) (sv u) = endsTx s u := by
  unfold Txt.endswith endsTx
  rw [sub_at, sv_len, sv_len, Nat.zero_add]
  by_cases h : u.length ≤ s.length
  · rw [decide_eq_true h, Bool.true_and, Bool.true_and, List.take_of_length_le (by rw [List.length_drop]; omega)]
  · rw [decide_eq_false h, Bool.false_and, Bool.false_and]
theorem starts_tx (s u : Tx) : Txt.startswith (sv s) (sv u) = startsTx s u := by
  unfold Txt.startswith startsTx
  rw [sub_at, sv_len, sv_len, Nat.zero_add, List.drop_zero]
def txt1G (g : Tx → Tx → T) : FM := fun d ds _ S => match d, ds with
  | .t (.str s), [.t (.str u)] => some (.t (g s u), S)
  | _, _ => none
def txt0G (g : Tx → Option T) : FM := fun d ds _ S => match d, ds with
  | .t (.str s), [] => (g s).map fun t => (.t t, S)
  | _, _ => none
section
variable {X : Cx}
theorem mt_txt1 {id : String} {G : Str → Str → V} {g : Tx → Tx → T} (h : MtR X id (fun x xs H Q => ∃ a b, x = .str a ∧ xs = [.str b] ∧ Q (G a b) H)) (ok : ∀ s u Z H, RV X.K Z H (g s u) (G (sv s) (sv u))) : MtdM X id (txt1G g) := by
  refine ⟨fun pins s σ H x xs v us Q I rx rs hh => ?_⟩
  obtain ⟨c, P, S, d, ds, hS, rd, rds, q⟩ := hh
  unfold txt1G at q
  split at q
  · rename_i s u
    cases rd
    cases rds with
    | cons r1 r2 =>
      cases r1
      cases r2
      exact h pins _ σ H _ _ v us Q I rx rs ⟨sv s, sv u, rfl, rfl, q c _ H (Ev.refl hS) hS (ok s u _ _)⟩
  · exact q.elim
theorem mt_txt0 {id : String} {C : Str → Prop} {G : Str → V} {g : Tx → Option T} (h : MtR X id (fun x xs H Q => ∃ a, x = .str a ∧ xs = [] ∧ C a ∧ Q (G a) H)) (ok : ∀ s t Z H, g s = some t → C (sv s) ∧ RV X.K Z H t (G (sv s))) : MtdM X id (txt0G g) := by
  refine ⟨fun pins s σ H x xs v us Q I rx rs hh => ?_⟩
  obtain ⟨c, P, S, d, ds, hS, rd, rds, q⟩ := hh
  unfold txt0G at q
  split at q
  · rename_i s
    cases rd
    cases rds
    cases e : g s with
    | none => rw [e] at q; exact q.elim
    | some t =>
      rw [e] at q
      have o := fun Z H => ok s t Z H e
      exact h pins _ σ H _ _ v us Q I rx rs ⟨sv s, rfl, rfl, (o c.Z H).1, q c _ H (Ev.refl hS) hS (o _ _).2⟩
  · exact q.elim
def endsG : FM := txt1G fun s u => .bl (endsTx s u)
def startsG : FM := txt1G fun s u => .bl (startsTx s u)
theorem mt_endsM : MtdM X "str.endswith" endsG := mt_txt1 mt_endswith fun s u Z H => by rw [ends_tx]; exact .bl _
theorem mt_startsM : MtdM X "str.startswith" startsG := mt_txt1 mt_startswith fun s u Z H => by rw [starts_tx]; exact .bl _
/-- the text in great letters -/
def upTx (s : Tx) : Tx := (Txt.upper (sv s)).cps.toList
def upperG : FM := txt0G fun s => if s.length ≤ 1000000 ∧ (upTx s).length ≤ sizeLine then some (.str (upTx s)) else none
theorem mt_upperM : MtdM X "str.upper" upperG := mt_txt0 mt_upper fun s t Z H e => by
  split at e
  · rename_i h
    cases e
    refine ⟨by rw [sv_len]; omega, ?_⟩
    have := RV.str (K := X.K) (Z := Z) (H := H) (upTx s) h.2
    unfold upTx at this
    rw [sv_of] at this
    exact this
  · cases e
end
end Fm

/-! FmQ: calls behind which what was made is forgotten; loops over dicts; {(a, b): v}; lists of the signs of a text. -/
namespace Fm
open PySem PySem.Spec PyProof.Rows L2
/-! ### what a call has made is forgotten, but what it hands back -/
def D.isT : D → Bool
  | .t _ => true
  | .ref _ => false
def O.flat : O → Bool
  | .dead => true
  | .lst l => l.all D.isT
  | .dic l => l.all fun p => p.2.isT
  | .dit l => l.all fun p => p.2.isT
  | .ins _ fs => fs.all fun p => p.2.isT
def keepF (g : MF) : MF := fun ds P S => match g ds P S with
  | .ok (.t x) S' => if S.length ≤ S'.length ∧ ((S'.take S.length).all O.flat = true) then .ok (.t x) (S'.take S.length) else .no
  | _ => .no
theorem RO.flat {K : PySem.W.Frag} {c c' : Cf} {H : Hp} {o : O} {a : Addr} (f : o.flat = true) (hz : c'.Z = c.Z) (h : RO K c H o a) : RO K c' H o a := by
  have tr : ∀ {d : D} {v : V}, d.isT = true → RD K c H d v → RD K c' H d v := fun {d v} f r => by
    cases d with
    | t x => show RV K c'.Z H x v; rw [hz]; exact r
    | ref i => cases f
  cases o with
  | dead => trivial
  | lst l =>
    obtain ⟨vs, h1, h0, h2⟩ := h
    refine ⟨vs, h1, h0, ?_⟩
    replace f : ∀ d ∈ l, d.isT = true := List.all_eq_true.mp f
    clear h1 h0
    unfold RDs at h2 ⊢
    induction h2 with
    | nil => exact .nil
    | cons r _ ih => exact .cons (tr (f _ List.mem_cons_self) r) (ih fun d hd => f d (List.mem_cons_of_mem _ hd))
  | dic l =>
    obtain ⟨kvs, h1, h2⟩ := h
    refine ⟨kvs, h1, ?_⟩
    replace f : ∀ d ∈ l, d.2.isT = true := List.all_eq_true.mp f
    clear h1
    induction h2 with
    | nil => exact .nil
    | cons r _ ih => exact .cons ⟨r.1, tr (f _ List.mem_cons_self) r.2⟩ (ih fun d hd => f d (List.mem_cons_of_mem _ hd))
  | dit l =>
    obtain ⟨kvs, h1, h2⟩ := h
    refine ⟨kvs, h1, ?_⟩
    replace f : ∀ d ∈ l, d.2.isT = true := List.all_eq_true.mp f
    clear h1
    induction h2 with
    | nil => exact .nil
    | cons r _ ih => exact .cons ⟨r.1, tr (f _ List.mem_cons_self) r.2⟩ (ih fun d hd => f d (List.mem_cons_of_mem _ hd))
  | ins C fs =>
    obtain ⟨A, dx, gs, h1, h2, h3, h4⟩ := h
    refine ⟨A, dx, gs, h1, by rw [hz]; exact h2, h3, ?_⟩
    replace f : ∀ d ∈ fs, d.2.isT = true := List.all_eq_true.mp f
    clear h1 h2 h3
    induction h4 with
    | nil => exact .nil
    | cons r _ ih => exact .cons ⟨r.1, tr (f _ List.mem_cons_self) r.2⟩ (ih fun d hd => f d (List.mem_cons_of_mem _ hd))
theorem sp_keep {K : PySem.W.Frag} {n : Nat} {g : MF} : ∀ vs H Q E, spM K n (keepF g) vs H Q E → spM K n g vs H Q E := by
  rintro vs H Q E ⟨hn, c, P, S, ds, hS, hr, h⟩
  refine ⟨hn, c, P, S, ds, hS, hr, ?_⟩
  unfold keepF at h
  generalize g ds P S = r at h
  cases r with
  | ex x S' => exact h.elim
  | no => exact h.elim
  | ok d S' =>
    cases d with
    | ref i => exact h.elim
    | t x =>
      simp only at h
      by_cases hc : S.length ≤ S'.length ∧ ((S'.take S.length).all O.flat = true)
      · rw [if_pos hc] at h
        obtain ⟨hl, hf⟩ := hc
        intro c' v H' ev s' rd
        have cn : c.n = P.length + S.length := hS.n.symm
        have ev1 : Ev P c H { c' with n := c.n } H' := ⟨ev.z, ev.rd, ev.rdD, Nat.le_refl _, ev.m, ev.b, ev.y, ev.fz⟩
        have at' : ∀ {i : Nat} {o : O}, (P ++ S'.take S.length)[i]? = some o → (P ++ S')[i]? = some o ∧ (i < P.length ∨ o.flat = true) := fun {i o} e => by
          by_cases hi : i < P.length
          · rw [List.getElem?_append_left hi] at e ⊢
            exact ⟨e, .inl hi⟩
          · rw [List.getElem?_append_right (by omega)] at e ⊢
            have hm := List.mem_of_getElem? e
            have hi2 := (List.getElem?_eq_some_iff.mp e).1
            rw [List.length_take] at hi2
            rw [List.getElem?_take_of_lt (by omega)] at e
            exact ⟨e, .inr (List.all_eq_true.mp hf _ hm)⟩
        refine h { c' with n := c.n } v H' ev1 ⟨?_, fun i o e => ?_, fun i o e l => s'.nz i o (at' e).1 l, fun i j o u ei ej => s'.inj i j o u (at' ei).1 (at' ej).1, s'.z, s'.y, s'.yz, fun i o e l => s'.yc i o (at' e).1 l⟩ rd
        · show P.length + (S'.take S.length).length = c.n
          rw [List.length_take, cn]; omega
        · obtain ⟨e1, e2⟩ := at' e
          rcases e2 with hi | fl
          · show RO K _ H' o (c'.m i)
            have eP : P[i]? = some o := by rwa [List.getElem?_append_left hi] at e1
            have eS : (P ++ S)[i]? = some o := by rw [List.getElem?_append_left hi]; exact eP
            rw [ev.m i (by omega)]
            cases hlv : o.live with
            | false => cases o <;> first | trivial | cases hlv
            | true => exact (hS.ro i o eS).mono ev1 (ev.b i o eP hlv).1
          · exact RO.flat (c := c') fl rfl (s'.ro i o e1)
      · rw [if_neg hc] at h
        exact h.elim
theorem fng_keep {P : Program} {w : World} {K : PySem.W.Frag} {mg : Str → Option Value} {base : Heap} {k n : Nat} {f : Addr} {fd : FuncData} {ps : List Str} {g : MF} (F : FnG P w K mg base CX0 k f fd ps (spM K n g)) : FnG P w K mg base CX0 k f fd ps (spM K n (keepF g)) := F.less sp_keep
/-- the last but one cell, and what is behind it, alone are changed -/
def last2F (g : MF) : MF := fun ds P S => match g ds (P ++ S.take (S.length - 2)) (S.drop (S.length - 2)) with
  | .ok d S' => .ok d (S.take (S.length - 2) ++ S')
  | .ex x S' => .ex x (S.take (S.length - 2) ++ S')
  | .no => .no
theorem sp_last2 {K : PySem.W.Frag} {n : Nat} {g : MF} : ∀ vs H Q E, spM K n (last2F g) vs H Q E → spM K n g vs H Q E := by
  rintro vs H Q E ⟨hn, c, P, S, ds, hS, hr, h⟩
  have e : S.take (S.length - 2) ++ S.drop (S.length - 2) = S := List.take_append_drop _ _
  refine ⟨hn, c, P ++ S.take (S.length - 2), S.drop (S.length - 2), ds, Sim.assoc (by rw [e]; exact hS), hr, ?_⟩
  unfold last2F at h
  generalize g ds (P ++ S.take (S.length - 2)) (S.drop (S.length - 2)) = r at h
  cases r with
  | ok d S' => exact fun c' v H' ev s' rd => h c' v H' ev.less s'.unassoc rd
  | ex x S' => exact fun c' H' ev s' => (h c' H' ev.less s'.unassoc)
  | no => exact h
theorem fng_last2 {P : Program} {w : World} {K : PySem.W.Frag} {mg : Str → Option Value} {base : Heap} {k n : Nat} {f : Addr} {fd : FuncData} {ps : List Str} {g : MF} (F : FnG P w K mg base CX0 k f fd ps (spM K n g)) : FnG P w K mg base CX0 k f fd ps (spM K n (last2F g)) := F.less sp_last2
/-! ### loops over what stands in a variable -/
section
variable {X : Cx} {W : WX} {f : T → Option (List D)} {wi : TE → TI}
theorem pms_forS (src : Src X f wi) (i : Nat) {tg iter : Expr} {body : List Stmt} {pos : Pos} {own : List Nat} {g : MG} {fb : MS} (hp : PassesOwn (model X.prog X.w) X.A X.env X.xe) (hc : X.calm = true) (hi : PI X tg iter (wi (tVar i))) (hg : PMG X tg own g) (hb : PMB X W body fb)
    (hs : ∀ y, foldedSetIterable iter X.env y = pure y := by intro _; rfl) : PMS X W (.For tg iter body [] pos) (sForS f i g fb) := by
  have h0 := ps_for (pos := pos) hp hc hi hg.run hb.run hs
  have h1 : PS X (.For tg iter body [] pos) (fun D σ H => tFor (wi (tVar i)) (tMG X.K own g) (tMS X.K W fb) D σ H ∨ tLock (tFor (wi (tVar i)) (tMG X.K own g) (tMS X.K W fb)) D σ H) :=
    ⟨fun pins s σ H D I q => q.elim (h0.run pins s σ H D I) ((ps_lock h0).run pins s σ H D I)⟩
  refine ⟨ps_weak h1 fun D σ H h => ?_⟩
  obtain ⟨c, P, ρ, S, hE, hS, h⟩ := h
  unfold sForS at h
  cases e : ρ[i]? with
  | none => rw [e] at h; exact h.elim
  | some o =>
    rw [e] at h
    cases o with
    | none => exact h.elim
    | some d =>
      cases d with
      | ref j => exact h.elim
      | t x =>
        simp only at h
        cases ef : f x with
        | none => rw [ef] at h; exact h.elim
        | some l =>
          rw [ef] at h
          simp only at h
          obtain ⟨v, hv1, r⟩ := hE.get i _ e
          obtain ⟨a, u, rfl, hz, hd, pl, mu, rdu, hk⟩ := src.lk hS ef r
          rcases rdu with hu | ⟨o, hu⟩
          · refine .inr ⟨a, u, hu, mu, fun od => ?_⟩
            have ev := Ev.lock (od := od) hS hz hu hd pl
            have s2 := Sim.lockD (od := od) hS hz hu hd pl
            obtain ⟨J, okJ, hw⟩ := hk c _ S od ev s2 upd_same
            exact hw σ i _ hv1 (tFor_in (hE.mono ev) s2 okJ (PostS.unlock hS hz hu hd pl h))
          · obtain ⟨J, okJ, hw⟩ := hk c H S o (Ev.refl hS) hS hu
            exact .inl (hw σ i _ hv1 (tFor_in hE hS okJ (noex_post h)))
theorem pms_forKeys (i : Nat) {x : Str} {tg : Expr} {body : List Stmt} {pos posn : Pos} {own : List Nat} {g : MG} {fb : MS} (hp : PassesOwn (model X.prog X.w) X.A X.env X.xe) (hc : X.calm = true) (hg : PMG X tg own g) (hb : PMB X W body fb)
    (hN : X.N[i]? = some x := by rfl) (hv : Vis X.env.scope x := by first | exact Or.inl rfl | exact Or.inr (Or.inl rfl) | exact Or.inr (Or.inr rfl)) (hd : (x == ("__debug__" : Str)) = false := by decide)
    (hcd : (x == ("__classdict__" : Str)) = false := by decide) (hs : ∀ y, foldedSetIterable (.Name x posn) X.env y = pure y := by intro _; rfl) : PMS X W (.For tg (.Name x posn) body [] pos) (sForS keysOf i g fb) :=
  pms_forS (src_keys X) i hp hc (pi_keys (tg := tg) (pe_var (pos := posn) hN hv hd hcd)) hg hb hs
end
/-! ### {(a, b): v} -/
def tDisp1T (tk tv : TE) : TE := fun σ H Q => ∀ p, H p = none → tPairs [(tk, tv)] σ (upd H p (.dT [])) fun ps H2 => H2 p = some (.dT []) ∧ ∃ b ks y, ps = [(.ref b, y)] ∧ H2 b = some (.tup (ks.map kV)) ∧ Q (.ref p) (upd H2 p (.dT [(ks, y)]))
theorem pe_disp1T {X : Cx} (hu : X.A.units < cLine) {k v : Expr} {pos : Pos} {tk tv : TE} (hk : PE X k tk) (hv : PE X v tv) : PE X (.Dict [some k] [v] pos) (tDisp1T tk tv) := by
  refine ⟨fun pins s σ H Q I q => ?_⟩
  have hn := I.hok.fresh (Nat.le_refl s.heap.objs.size)
  have I1 := I.laid (a := s.heap.objs.size) (o := .dT []) (h' := s.heap.push { cls := .type "dict", data := .dict #[] }) (t' := s.toks) (fun _ _ q => Heap.get?_push_of_some _ q) (Nat.le_refl _) (dt_empty s.heap I.big)
  have run := (pps_cons (pos := pos) hk hv pps_nil).run pins _ σ _ _ I1 (q _ hn)
  rw [arm_eval_Dict, zip_pairTrees [some k] [v] X.env pos rfl rfl, dictDisplay_pairs _ (by simp [pairTrees]) (by simp [pairTrees])]
  refine wpAny_bind (wpAny_standAt (wpAny_bind (wpAny_subDictH (knd := tupleKind (mixKind X.prog X.w)) hu (by simp [pairTrees]) (wpAny_mono run (fun vs s2 h2 => ?_) fun _ _ e => e))))
  obtain ⟨ps, H2, I2, rel, e2, b, ks, y, rfl, eb, fin⟩ := h2
  cases rel with
  | cons r1 r2 =>
    cases r2
    rename_i pr
    obtain ⟨kv, vv⟩ := pr
    obtain ⟨ra, rb⟩ := r1
    cases (show kv = Value.ref b from ra)
    obtain ⟨z, hd, xs, rk, dd⟩ := dt_of I2.hok e2
    cases rk
    refine ⟨[(ks, b, vv)], ⟨rfl, rfl, key_of I2.hok eb, trivial⟩, dd, fun h' tk hm hs => ?_⟩
    have hst : storedAllH [] [(ks, b, vv)] = [(ks, b, vv)] := rfl
    rw [hst] at hm
    obtain ⟨o, es, ep, ho, hc, hdat, hent, _, hnd⟩ := hm
    have pb : b ≠ s.heap.objs.size := fun e => by rw [e, e2] at eb; cases eb
    refine wpAny_pure ⟨.ref _, _, d_write (t' := tk) I2 (by rw [e2]; exact True.intro) hs ⟨o, ho⟩ ?_, rfl, fin⟩
    exact ⟨by show (1 : Nat) ≤ sizeLine; decide, hd, [(ks, b, vv)], .cons ⟨rfl, by rw [upd_ne pb]; exact eb, rb⟩ .nil, o, es, ep, ho, hc, hdat, hent, hnd⟩
/-- {k: v} of a key that is a tuple, as a new cell -/
def mDit1 (fk fv : ME) : ME := fun P ρ S => (fk P ρ S).nx.bind fun k S1 => (fv P ρ S1).nx.bind fun y S2 => match k with
  | .ref _ => .no
  | .t k => match k.tat with
    | some ks => .ok (.ref (P.length + S2.length)) (S2 ++ [.dit [(ks, y)]])
    | none => .no
/-- what only its maker has changed becomes a new cell -/
theorem giveO {K : PySem.W.Frag} {P S S1 : List O} {c c0 : Cf} {H H0 : Hp} {p : Addr} {o : O} (h0 : Sim K P S c0 H0) (hp : H0 p = none) (e : Ev P c0 H0 c H) (h : Sim K P S1 c H) (hy : c.Y p) (hr : RO K c H o p) :
    Ev P c0 H0 { c with Y := c0.Y, n := c.n + 1, m := fun i => if i = c.n then p else c.m i } H ∧ Sim K P (S1 ++ [o]) { c with Y := c0.Y, n := c.n + 1, m := fun i => if i = c.n then p else c.m i } H := by
  have ne : ∀ {i : Nat} {w : O}, (P ++ S1)[i]? = some w → w.live = true → c.m i ≠ p := fun e l q => h.yc _ _ e l (q ▸ hy)
  have hn := h.n
  have m1 : ∀ {i}, i < c.n → (if i = c.n then p else c.m i) = c.m i := fun hi => if_neg (by omega)
  have en := e.n
  have e1 : ∀ {i w}, (P ++ (S1 ++ [o]))[i]? = some w → (i < c.n ∧ (P ++ S1)[i]? = some w) ∨ (i = c.n ∧ w = o) := fun {i w} q => by
    rw [← List.append_assoc] at q
    have hlen : (P ++ S1).length = c.n := by rw [List.length_append]; exact hn
    by_cases hi : i < c.n
    · rw [List.getElem?_append_left (by omega)] at q
      exact .inl ⟨hi, q⟩
    · have := (List.getElem?_eq_some_iff.mp q).1
      rw [List.length_append, List.length_singleton] at this
      have hi2 : i = c.n := by omega
      rw [hi2, List.getElem?_append_right (by omega), hlen, Nat.sub_self] at q
      exact .inr ⟨hi2, (Option.some.inj q).symm⟩
  have up : ∀ {w : O} {a : Addr}, RO K c H w a → RO K { c with Y := c0.Y, n := c.n + 1, m := fun i => if i = c.n then p else c.m i } H w a := fun {w a} q =>
    RO.mono' (c := c) (c1 := { c with Y := c0.Y, n := c.n + 1, m := fun i => if i = c.n then p else c.m i }) (fun _ z => z) (fun _ _ _ z _ => z) (fun _ _ _ _ _ z => z) (Nat.le_succ _) (fun i hi => m1 hi) rfl q
  refine ⟨⟨e.z, e.rd, e.rdD, Nat.le_succ_of_le e.n, fun i hi => (m1 (by omega)).trans (e.m i hi), fun i w q l => ?_, fun a z => ⟨z, (e.y a z).2⟩, e.fz⟩,
    ⟨by simp only [List.length_append, List.length_singleton]; omega, fun i w q => ?_, fun i w q l => ?_, fun i j w x qi qj li lj q => ?_, h.z, fun a z => h.y a (e.y a z).1, fun a z => h.yz a (e.y a z).1, fun i w q l => ?_⟩⟩
  · have e' : (P ++ S)[i]? = some w := by rw [List.getElem?_append_left (List.getElem?_eq_some_iff.mp q).1]; exact q
    exact ⟨(e.b i w q l).1, (e.b i w q l).2.1, h0.yc i w e' l⟩
  · show RO K _ H w (if i = c.n then p else c.m i)
    rcases e1 q with ⟨hi, q⟩ | ⟨hi, rfl⟩
    · rw [m1 hi]; exact up (h.ro i w q)
    · rw [if_pos hi]; exact up hr
  · show ¬ c.Z (if i = c.n then p else c.m i)
    rcases e1 q with ⟨hi, q⟩ | ⟨hi, rfl⟩
    · rw [m1 hi]; exact h.nz i w q l
    · rw [if_pos hi]; exact h.yz p hy
  · have q : (if i = c.n then p else c.m i) = (if j = c.n then p else c.m j) := q
    rcases e1 qi with ⟨hi, fi⟩ | ⟨hi, _⟩ <;> rcases e1 qj with ⟨hj, fj⟩ | ⟨hj, _⟩
    · rw [m1 hi, m1 hj] at q
      exact h.inj i j w x fi fj li lj q
    · rw [m1 hi, if_pos hj] at q
      exact absurd q (ne fi li)
    · rw [if_pos hi, m1 hj] at q
      exact absurd q.symm (ne fj lj)
    · omega
  · show ¬ c0.Y (if i = c.n then p else c.m i)
    rcases e1 q with ⟨hi, q⟩ | ⟨hi, rfl⟩
    · rw [m1 hi]; exact fun z => h.yc i w q l (e.y _ z).1
    · rw [if_pos hi]; exact fun z => h0.yne hp z rfl
theorem tup_key {K : PySem.W.Frag} {Z : Addr → Prop} {H : Hp} {k : T} {y : V} {ks : List At} (rk : RV K Z H k y) (q : k.tat = some ks) : ∃ b, y = .ref b ∧ H b = some (.tup ((ks.map At.key).map kV)) ∧ ∀ x ∈ ks, x.Fit := by
  obtain ⟨l', rfl, q2⟩ := T.tat_some q
  cases rk with
  | tup _ b vs h1 h2 h3 h4 =>
    obtain ⟨rfl, hf⟩ := h4.atoms q2
    exact ⟨b, rfl, h2, hf⟩
theorem pm_dit1 {X : Cx} {W : WX} (hu : X.A.units + 1 < cLine) {k v : Expr} {fk fv : ME} {pos : Pos} (hk : PM X W0 k fk) (hv : PM X W0 v fv) : PM X W (.Dict [some k] [v] pos) (mDit1 fk fv) := by
  refine ⟨pe_weak (pe_disp1T (by omega) hk.run hv.run) fun σ H Q h => ?_⟩
  obtain ⟨c, P, ρ, S, hE, hS, h⟩ := h
  intro p hp
  have ev0 := Ev.yed (o := .dT []) hS hp
  have s0 := Sim.yed (o := .dT []) hS hp
  refine ⟨c.yed p, P, ρ, S, hE.mono ev0, s0, ?_⟩
  unfold mDit1 at h
  generalize fk P ρ S = rk at h
  cases rk with
  | ex x S1 => exact h.elim
  | no => exact h.elim
  | ok kd S1 =>
    simp only [R.nx_ok, R.bind_ok] at h
    intro c1 kv H1 e1 s1 r1
    refine ⟨c1, P, ρ, S1, (hE.mono ev0).mono e1, s1, ?_⟩
    generalize fv P ρ S1 = rv at h
    cases rv with
    | ex x S1 => exact h.elim
    | no => exact h.elim
    | ok yd S2 =>
      simp only [R.nx_ok, R.bind_ok] at h
      intro c2 yv H2 e2 s2 r2
      cases kd with
      | ref i => exact h.elim
      | t kt =>
        simp only at h
        cases zk : kt.tat with
        | none => rw [zk] at h; exact h.elim
        | some ks =>
          rw [zk] at h
          obtain ⟨b, rfl, hb, hfit⟩ := tup_key (RV.mono' e2 r1) zk
          have y1 := e1.y p (show c.Y p ∨ p = p from .inr rfl)
          have y2 := e2.y p y1.1
          have hH : H2 p = some (.dT []) := y2.2.trans (y1.2.trans upd_same)
          refine ⟨hH, b, _, yv, rfl, hb, ?_⟩
          have ev : Ev P c H c2 H2 := (ev0.trans hS.pl e1).trans hS.pl e2
          have zn : ∀ {a}, c2.Z a → a ≠ p := fun z q => s2.yz p y2.1 (q ▸ z)
          have up : ∀ {d : D} {v : V}, RD X.K c2 H2 d v → RD X.K c2 (upd H2 p (.dT [(ks.map At.key, yv)])) d v := fun {d v} rr => by
            cases d with
            | ref i => exact rr
            | t x => exact RV.mono (fun _ z => z) (fun a w z e _ => by rw [upd_ne (zn z)]; exact e) (fun a w z _ _ e => by unfold Rd; rw [upd_ne (zn z)]; exact e) rr
          have ro : RO X.K c2 (upd H2 p (.dT [(ks.map At.key, yv)])) (.dit [(ks, yd)]) p := ⟨_, upd_same, .cons ⟨⟨hfit, rfl⟩, up r2⟩ .nil⟩
          obtain ⟨g1, g2⟩ := giveO hS hp (Ev.updY hS hp ev) (s2.updY y2.1) y2.1 ro
          have hn := s2.n
          refine h _ (.ref p) _ g1 g2 ⟨by show _ < c2.n + 1; omega, ?_⟩
          show V.ref p = V.ref (if P.length + S2.length = c2.n then p else _)
          rw [if_pos hn]
/-! ### the list of the signs of a text -/
def signsL : List T → Option (List T)
  | [.str s] => some (s.map fun c => .str [c])
  | _ => none
theorem rvs_signs {K : PySem.W.Frag} {Z : Addr → Prop} {H : Hp} : ∀ s : Tx, RVs K Z H (s.map fun c => T.str [c]) (s.map fun c => V.str (sv [c]))
  | [] => .nil
  | c :: s => .cons _ _ _ _ (.str [c] (show 1 ≤ sizeLine by decide)) (rvs_signs s)
theorem paired_get {α β : Type} {F : α → β → Prop} : ∀ {l : List α} {m : List β}, l.length = m.length → (∀ (j : Nat) (a : α) (b : β), l[j]? = some a → m[j]? = some b → F a b) → Paired F l m
  | [], [], _, _ => .nil
  | a :: l, b :: m, hl, h => .cons (h 0 a b rfl rfl) (paired_get (by simpa using hl) fun j x y h1 h2 => h (j + 1) x y (by simpa using h1) (by simpa using h2))
  | [], _ :: _, hl, _ => by simp at hl
  | _ :: _, [], hl, _ => by simp at hl
theorem signs_rule {X : Cx} (hc : X.calm = true) : FreshR X (.type "list") signsL := by
  intro pins s σ H xs us Q Z ts l I rx ra e fin
  unfold signsL at e
  split at e
  · rename_i x
    cases e
    cases ra with
    | cons _ _ _ _ r1 r2 =>
      cases r2
      cases r1 with
      | str _ hl =>
        obtain ⟨u, rfl, t, rfl⟩ := vals1 rx
        refine PySem.call_list_str (I.ok.hd hc) (sv x) t (fun h' tk acc' cp hk hS hacc => ?_) (by rw [← sv_len] at hl; exact hl)
        have hz : (x.map fun c => V.str (sv [c])).length ≤ sizeLine := by rw [List.length_map]; exact hl
        have vals : Vals (x.map fun c => V.str (sv [c])) acc'.toList := by
          have len : acc'.toList.length = x.length := by
            rw [Array.length_toList, hacc.1]
            show (sv x).cps.size = _
            exact sv_len x
          refine paired_get (by rw [List.length_map, len]) fun j v u h1 h2 => ?_
          rw [List.getElem?_map] at h1
          cases q : x[j]? with
          | none => rw [q] at h1; cases h1
          | some c0 =>
            rw [q] at h1
            cases h1
            obtain ⟨c1, t1, g1, rfl⟩ := hacc.2 j u (by simpa using h2)
            have : (sv x).cps[j]? = some c0 := by
              show (x.toArray)[j]? = _
              rw [List.getElem?_toArray]; exact q
            rw [this] at g1
            cases g1
            exact ⟨t1, rfl⟩
        refine ⟨.ref _, _, I.laid (t' := tk) (o := .lst (x.map fun c => V.str (sv [c]))) hk (Nat.le_refl _) ⟨hz, acc'.toList, cp, vals, by simpa using hS⟩, rfl, fin _ _ (I.hok.fresh (Nat.le_refl _)) (rvs_signs x) hz⟩
  · cases e
theorem call_signsM {X : Cx} (hc : X.calm = true) : CallM X (.type "list") (lTL fun ts => (signsL ts).map .lst) := callM_fresh (signs_rule hc)
theorem call_signsC {X : Cx} (hc : X.calm = true) : CallM X (.type "list") (lTLc signsL) := callM_freshC (signs_rule hc)
end Fm

/-! FmU: loops over a list that may be changed elsewhere, but is not by the loop. -/
namespace Fm
open PySem PySem.Spec PyProof.Rows L2
open Classical in
noncomputable def forCo (g : MG) (fb : MS) (P : List O) (j : Nat) (l : List D) : List D → En → List O → Oc
  | [], ρ, S => .nx ρ S
  | d :: ds, ρ, S => match g d ρ with
    | none => .no
    | some ρ1 => match fb P ρ1 S with
      | .nx ρ2 S2 => if (P ++ S2)[j]? = some (.lst l) then forCo g fb P j l ds ρ2 S2 else .no
      | .ct ρ2 S2 => if (P ++ S2)[j]? = some (.lst l) then forCo g fb P j l ds ρ2 S2 else .no
      | .bk ρ2 S2 => .nx ρ2 S2
      | .rt d S2 => .rt d S2
      | .ex x ρ2 S2 => .ex x ρ2 S2
      | .no => .no
noncomputable def sForC (i : Nat) (g : MG) (fb : MS) : MS := fun P ρ S => match ρ[i]? with
  | some (some (.ref j)) => match (P ++ S)[j]? with
    | some (.lst l) => forCo g fb P j l l ρ S
    | _ => .no
  | _ => .no
section
variable {X : Cx} {W : WX}
theorem tFor_co {own : List Nat} {g : MG} {fb : MS} {P S : List O} {c0 : Cf} {H0 : Hp} {ρ : En} {σ : L2.St} {j : Nat} {l : List D} {D : Ends} (hE : SimE X.K c0 H0 ρ σ) (s0 : Sim X.K P S c0 H0) (hj : (P ++ S)[j]? = some (.lst l)) (h : PostS X.K W P c0 H0 (forCo g fb P j l l ρ S) D) :
    ∃ Wt : Nat → Nat → L2.St → Hp → Prop, (∃ m, Wt 0 m σ H0) ∧ ∀ i m σ H, Wt i m σ H →
      ((Itl X.K (c0.m j)).stop i H ∧ D.nx σ H) ∨ ((Itl X.K (c0.m j)).go i H ∧ ∃ N : L2.St → Hp → Prop, (∀ σ' H', N σ' H' → ∃ m', m' < m ∧ Wt (i + 1) m' σ' H') ∧ ∀ x H', (Itl X.K (c0.m j)).yld i H x H' → tMG X.K own g x σ H' fun σ2 H2 => tMS X.K W fb { D with nx := N, ct := N, bk := D.nx } σ2 H2) := by
  have hjn : j < c0.n := by
    have q := (List.getElem?_eq_some_iff.mp hj).1
    have n := s0.n
    rw [List.length_append] at q
    omega
  refine ⟨fun i m σ H => m + i = l.length ∧ ∃ c ρ S, Ev P c0 H0 c H ∧ SimE X.K c H ρ σ ∧ Sim X.K P S c H ∧ (P ++ S)[j]? = some (.lst l) ∧ PostS X.K W P c H (forCo g fb P j l (l.drop i) ρ S) D, ⟨l.length, by omega, c0, ρ, S, Ev.refl s0, hE, s0, hj, h⟩, ?_⟩
  rintro i m σ H ⟨him, c, ρ, S, ev, hE, hS, hl, h⟩
  have hm := ev.m j hjn
  obtain ⟨vs, hH, hlen, rs⟩ := hS.ro j _ hl
  rw [hm] at hH
  have sq : SqL X.K H (c0.m j) vs := SqL.of hH
  by_cases hi : i < l.length
  · have hd : l.drop i = l[i] :: l.drop (i + 1) := List.drop_eq_getElem_cons hi
    rw [hd] at h
    obtain ⟨v, hv1, hv2⟩ := rs.at (List.getElem?_eq_getElem hi)
    refine .inr ⟨⟨vs, v, sq, hv1⟩, fun σ' H' => ∃ c ρ S, Ev P c0 H0 c H' ∧ SimE X.K c H' ρ σ' ∧ Sim X.K P S c H' ∧ (P ++ S)[j]? = some (.lst l) ∧ PostS X.K W P c H' (forCo g fb P j l (l.drop (i + 1)) ρ S) D, fun σ' H' n => ⟨m - 1, by omega, by omega, n⟩, fun x H2 y => ?_⟩
    obtain ⟨rfl, y⟩ := y
    have y := y vs sq
    rw [hv1] at y
    cases y
    refine ⟨c, P, S, ρ, l[i], hE, hS, hv2, ?_⟩
    unfold forCo at h
    cases q : g l[i] ρ with
    | none => rw [q] at h; exact h
    | some ρ1 =>
      rw [q] at h
      intro σ1 E1 _ _
      refine ⟨c, P, ρ1, S, E1, hS, ?_⟩
      simp only at h
      generalize fb P ρ1 S = o at h
      have tr := fun c3 H3 (e3 : Ev P c _ c3 H3) => ev.trans s0.pl e3
      cases o with
      | nx ρ3 S3 =>
        by_cases hc : (P ++ S3)[j]? = some (.lst l)
        · simp only [hc, if_true] at h
          exact fun c3 σ3 H3 e3 s3 E3 => ⟨c3, ρ3, S3, tr c3 H3 e3, E3, s3, hc, PostS.ev hS.pl e3 h⟩
        · simp only [hc, if_false] at h
          exact h.elim
      | ct ρ3 S3 =>
        by_cases hc : (P ++ S3)[j]? = some (.lst l)
        · simp only [hc, if_true] at h
          exact fun c3 σ3 H3 e3 s3 E3 => ⟨c3, ρ3, S3, tr c3 H3 e3, E3, s3, hc, PostS.ev hS.pl e3 h⟩
        · simp only [hc, if_false] at h
          exact h.elim
      | bk ρ3 S3 => exact h
      | rt d S3 => exact h
      | ex x ρ3 S3 => exact h
      | no => exact h
  · have hi2 : i = l.length := by omega
    subst hi2
    rw [List.drop_length] at h
    exact .inl ⟨⟨vs, sq, by rw [rs.len]; exact Nat.le_refl _⟩, h c σ H (Ev.refl hS) hS hE⟩
theorem pms_forC (i : Nat) {x : Str} {tg : Expr} {body : List Stmt} {pos posn : Pos} {own : List Nat} {g : MG} {fb : MS} (hp : PassesOwn (model X.prog X.w) X.A X.env X.xe) (hc : X.calm = true) (hg : PMG X tg own g) (hb : PMB X W body fb)
    (hN : X.N[i]? = some x := by rfl) (hv : Vis X.env.scope x := by first | exact Or.inl rfl | exact Or.inr (Or.inl rfl) | exact Or.inr (Or.inr rfl)) (hd : (x == ("__debug__" : Str)) = false := by decide)
    (hcd : (x == ("__classdict__" : Str)) = false := by decide) (hs : ∀ y, foldedSetIterable (.Name x posn) X.env y = pure y := by intro _; rfl) : PMS X W (.For tg (.Name x posn) body [] pos) (sForC i g fb) := by
  refine ⟨ps_weak (ps_for (pos := pos) hp hc (pi_list (tg := tg) (pe_var (pos := posn) hN hv hd hcd)) hg.run hb.run hs) fun D σ H h => ?_⟩
  obtain ⟨c, P, ρ, S, hE, hS, h⟩ := h
  unfold sForC at h
  cases e : ρ[i]? with
  | none => rw [e] at h; exact h.elim
  | some o =>
    rw [e] at h
    cases o with
    | none => exact h.elim
    | some d =>
      cases d with
      | t x => exact h.elim
      | ref j =>
        simp only at h
        cases z : (P ++ S)[j]? with
        | none => rw [z] at h; exact h.elim
        | some o =>
          rw [z] at h
          cases o with
          | lst l =>
            simp only at h
            obtain ⟨v, hv1, r⟩ := hE.get i _ e
            obtain ⟨hjn, rfl⟩ := r
            obtain ⟨vs, hH, hlen, rs⟩ := hS.ro j _ z
            exact ⟨_, hv1, _, rfl, ⟨vs, SqL.of hH⟩, tFor_co hE hS z h⟩
          | _ => exact h.elim
def sPar4 (i j l m : Nat) (fs : MA) : MS := fun P ρ S => (fs P ρ S).oc ρ fun ds S1 => match ds with
  | [u, v, w, x] => .nx ((((ρ.set i (some u)).set j (some v)).set l (some w)).set m (some x)) S1
  | _ => .no
theorem pms_tup4 {a b d e : Expr} {fs : MA} {px py pz pw pt pt2 pos : Pos} {x y z w : Str} {kt k2 : Nat} (i j l m : Nat) (hc : X.calm = true) (hN : X.N.Nodup) (ha : PMA X W [a, b, d, e] fs) (hi : X.N[i]? = some x := by rfl) (hj : X.N[j]? = some y := by rfl) (hl : X.N[l]? = some z := by rfl) (hm : X.N[m]? = some w := by rfl)
    (hx : Loc X.env.scope x := by first | exact .inl rfl | exact .inr rfl) (hfx : X.fn x = true ∨ X.env.scope.names.lookup x = some .local := by first | exact .inl rfl | exact .inr rfl)
    (hy : Loc X.env.scope y := by first | exact .inl rfl | exact .inr rfl) (hfy : X.fn y = true ∨ X.env.scope.names.lookup y = some .local := by first | exact .inl rfl | exact .inr rfl)
    (hz : Loc X.env.scope z := by first | exact .inl rfl | exact .inr rfl) (hfz : X.fn z = true ∨ X.env.scope.names.lookup z = some .local := by first | exact .inl rfl | exact .inr rfl)
    (hx4 : Loc X.env.scope w := by first | exact .inl rfl | exact .inr rfl) (hf4 : X.fn w = true ∨ X.env.scope.names.lookup w = some .local := by first | exact .inl rfl | exact .inr rfl)
    (hs : swapsWithSole [.Tuple [.Name x px, .Name y py, .Name z pz, .Name w pw] kt pt] (.Tuple [a, b, d, e] k2 pt2) pos.line X.env = pure false := by rfl) (hw : swappedStores [.Tuple [.Name x px, .Name y py, .Name z pz, .Name w pw] kt pt] (.Tuple [a, b, d, e] k2 pt2) X.env = pure none := by rfl) :
    PMS X W (.Assign [.Tuple [.Name x px, .Name y py, .Name z pz, .Name w pw] kt pt] (.Tuple [a, b, d, e] k2 pt2) pos) (sPar4 i j l m fs) := by
  refine ⟨ps_weak (ps_asg (pe_tup ha.run) (pg_tup (n := 4) hc (pgs_cons (pg_name hN hi hx hfx) (pgs_cons (pg_name hN hj hy hfy) (pgs_cons (pg_name hN hl hz hfz) (pgs_cons (pg_name hN hm hx4 hf4) pgs_nil))))) hs hw (h1 := rfl)) fun D σ H h => ?_⟩
  obtain ⟨c, P, ρ, S, hE, hS, h⟩ := h
  refine tMA_oc hE hS h fun ds vs S1 c1 H1 e1 E1 s1 r1 h1 => ?_
  match ds, vs, r1 with
  | [u, v, w, x], [u', v', w', x'], .cons q1 (.cons q2 (.cons q3 (.cons q4 .nil))) =>
    refine ⟨by simp [sizeLine_eq], fun p hp => ⟨p, [u', v', w', x'], rfl, SqT.of upd_same, rfl, u', [v', w', x'], rfl, v', [w', x'], rfl, w', [x'], rfl, x', [], rfl, rfl, ?_⟩⟩
    have e2 := Ev.new (o := .tup [u', v', w', x']) s1 hp
    exact h1 c1 _ _ e2 (Sim.new s1 hp) (((((E1.mono e2).set i (q1.mono e2)).set j (q2.mono e2)).set l (q3.mono e2)).set m (q4.mono e2))
  | [], _, _ => exact h1.elim
  | [_], _, _ => exact h1.elim
  | [_, _], _, _ => exact h1.elim
  | [_, _, _], _, _ => exact h1.elim
  | _ :: _ :: _ :: _ :: _ :: _, _, _ => exact h1.elim
end
end Fm

/-! FmV: expressions that leave all cells as they are. -/
namespace Fm
open PySem PySem.Spec PyProof.Rows L2
/-- all cells that stand are protected; new ones may be made -/
def mProt (f : ME) : ME := fun P ρ S => match f (P ++ S) ρ [] with
  | .ok d S' => .ok d (S ++ S')
  | .ex x S' => .ex x (S ++ S')
  | .no => .no
section
variable {X : Cx} {W : WX}
theorem pm_prot {e : Expr} {f : ME} (h : PM X W0 e f) : PM X W0 e (mProt f) := by
  refine ⟨pe_weak h.run fun σ H Q q => ?_⟩
  obtain ⟨c, P, ρ, S, hE, hS, q⟩ := q
  refine ⟨c, P ++ S, ρ, [], hE, Sim.assoc (S1 := S) (S2 := []) (by rw [List.append_nil]; exact hS), ?_⟩
  unfold mProt at q
  generalize f (P ++ S) ρ [] = r at q
  cases r with
  | ok d S' => exact fun c' v H' ev s' rd => q c' v H' ev.less s'.unassoc rd
  | ex x S' => exact fun c' H' ev s' => (q c' H' ev.less s'.unassoc)
  | no => exact q
/-! ### a < b < c < d -/
def tChain3 (r r' r'' : R2) (ta tb tc td : TE) : TE := fun σ H Q => ta σ H fun x H1 => tb σ H1 fun y H2 => r x y H2 fun z H3 => ∃ k, z = .bl k ∧
  (if k = true then tc σ H3 fun w H4 => r' y w H4 fun z' H5 => ∃ k', z' = .bl k' ∧ (if k' = true then td σ H5 fun u H6 => r'' w u H6 Q else Q (.bl false) H5) else Q (.bl false) H3)
theorem pe_chain3 {a b c d : Expr} {pos : Pos} {ta tb tc td : TE} {op op' op'' : CmpOp} {r r' r'' : R2} (ho : OpR X (compareOp op) r) (ho' : OpR X (compareOp op') r') (ho'' : OpR X (compareOp op'') r'') (ha : PE X a ta) (hb : PE X b tb) (hc : PE X c tc) (hd : PE X d td)
    (hm : lastMarks [op, op', op''] [b, c, d] = false := by with_unfolding_all rfl) : PE X (.Compare a [op, op', op''] [b, c, d] pos) (tChain3 r r' r'' ta tb tc td) := by
  refine ⟨fun pins s σ H Q I h => ?_⟩
  refine Compare_chain (thn (ha.run pins s σ H _ I h) fun v s1 ⟨x, H1, I1, r1, q1⟩ => chain_link (thn (hb.run pins s1 σ H1 _ I1 q1) fun u s2 ⟨y, H2, I2, r2, q2⟩ =>
    thn (ho pins s2 σ H2 x y v u _ I2 r1 r2 q2) fun d0 s3 ⟨z, H3, I3, r3, k, e, q3⟩ => ?_)) hm
  subst e
  cases r3
  refine wpAny_truthy_bool ?_
  cases k with
  | false => exact ite_ff ⟨.bl false, H3, I3, rfl, q3⟩
  | true =>
    refine ite_tt (chain_link (thn (hc.run pins s3 σ H3 _ I3 q3) fun w' s4 ⟨z', H4, I4, r4, q4⟩ => thn (ho' pins s4 σ H4 y z' u w' _ I4 r2 r4 q4) fun d1 s5 ⟨z2, H5, I5, r5, k', e', q5⟩ => ?_))
    subst e'
    cases r5
    refine wpAny_truthy_bool ?_
    cases k' with
    | false => exact ite_ff ⟨.bl false, H5, I5, rfl, q5⟩
    | true => exact ite_tt (chain_last (thn (hd.run pins s5 σ H5 _ I5 q5) fun w2 s6 ⟨z3, H6, I6, r6, q6⟩ => ho'' pins s6 σ H6 z' z3 w' w2 Q I6 r4 r6 q6))
theorem pt_chain3 {a b c d : Expr} {pos : Pos} {ta tb tc td : TE} {op op' op'' : CmpOp} {r r' r'' : R2} (ho : OpR X (compareOp op) r) (ho' : OpR X (compareOp op') r') (ho'' : OpR X (compareOp op'') r'') (ha : PE X a ta) (hb : PE X b tb) (hc : PE X c tc) (hd : PE X d td)
    (hm : lastMarks [op, op', op''] [b, c, d] = false := by with_unfolding_all rfl) : PT X (.Compare a [op, op', op''] [b, c, d] pos) (tTest (tChain3 r r' r'' ta tb tc td)) := by
  refine ⟨fun pins s σ H Q I h => ?_⟩
  refine isTrue_chain (thn (ha.run pins s σ H _ I h) fun v s1 ⟨x, H1, I1, r1, q1⟩ => test_link (thn (hb.run pins s1 σ H1 _ I1 q1) fun u s2 ⟨y, H2, I2, r2, q2⟩ =>
    thn (ho pins s2 σ H2 x y v u _ I2 r1 r2 q2) fun d0 s3 ⟨z, H3, I3, r3, k, e, q3⟩ => ?_)) hm
  subst e
  cases r3
  refine wpAny_truthy_bool ?_
  cases k with
  | false =>
    obtain ⟨k', e', q'⟩ := q3
    cases e'
    exact ite_ff ⟨H3, I3, q'⟩
  | true =>
    refine ite_tt (test_link (thn (hc.run pins s3 σ H3 _ I3 q3) fun w' s4 ⟨z', H4, I4, r4, q4⟩ => thn (ho' pins s4 σ H4 y z' u w' _ I4 r2 r4 q4) fun d1 s5 ⟨z2, H5, I5, r5, k', e', q5⟩ => ?_))
    subst e'
    cases r5
    refine wpAny_truthy_bool ?_
    cases k' with
    | false =>
      obtain ⟨k2, e2, q'⟩ := q5
      cases e2
      exact ite_ff ⟨H5, I5, q'⟩
    | true =>
      refine ite_tt (test_last (thn (hd.run pins s5 σ H5 _ I5 q5) fun w2 s6 ⟨z3, H6, I6, r6, q6⟩ => thn (ho'' pins s6 σ H6 z' z3 w' w2 _ I6 r4 r6 q6) fun d2 s7 ⟨z4, H7, I7, r7, k2, e2, q7⟩ => ?_))
      subst e2
      cases r7
      exact wpAny_truthy_bool ⟨H7, I7, q7⟩
def mChain3 (g g' g'' : F2) (fa fb fc fd : ME) : ME := fun P ρ S => (fa P ρ S).bind fun x S1 => (fb P ρ S1).bind fun y S2 => (lift (g x y P S2)).bind fun z S3 => match isTrueD z with
  | some true => (fc P ρ S3).bind fun u S4 => (lift (g' y u P S4)).bind fun z' S5 => match isTrueD z' with
    | some true => (fd P ρ S5).bind fun v S6 => lift (g'' u v P S6)
    | some false => .ok (.t (.bl false)) S5
    | none => .no
  | some false => .ok (.t (.bl false)) S3
  | none => .no
theorem tChain3_of {g g' g'' : F2} {fa fb fc fd : ME} {σ : L2.St} {H : Hp} {Q : VK} (h : tM X.K W (mChain3 g g' g'' fa fb fc fd) σ H Q) : tChain3 (rM2 X.K g) (rM2 X.K g') (rM2 X.K g'') (tM X.K W fa) (tM X.K W fb) (tM X.K W fc) (tM X.K W fd) σ H Q := by
  obtain ⟨c, P, ρ, S, hE, hS, h⟩ := h
  refine tM_bind hE hS h fun d v S1 c1 H1 e1 E1 s1 r1 h1 => ?_
  refine tM_bind E1 s1 h1 fun d2 v2 S2 c2 H2 e2 E2 s2 r2 h2 => ?_
  refine ⟨c2, P, S2, d, d2, s2, r1.mono e2, r2, ?_⟩
  generalize g d d2 P S2 = r at h2
  cases r with
  | none => exact h2
  | some p =>
    obtain ⟨z, S3⟩ := p
    intro c3 v3 H3 e3 s3 r3
    have h3 := Post.ev s2.pl e3 h2
    simp only [lift_some, R.bind_ok] at h3
    cases q : isTrueD z with
    | none => rw [q] at h3; exact h3.elim
    | some k =>
      rw [q] at h3
      rw [isTrueD_some q] at r3
      refine ⟨k, r3.isBl, ?_⟩
      cases k with
      | false =>
        rw [if_neg Bool.false_ne_true]
        exact h3 c3 _ H3 (Ev.refl s3) s3 (RV.bl false)
      | true =>
        rw [if_pos rfl]
        refine tM_bind (E2.mono e3) s3 h3 fun d4 v4 S4 c4 H4 e4 E4 s4 r4 h4 => ?_
        refine ⟨c4, P, S4, d2, d4, s4, (r2.mono e3).mono e4, r4, ?_⟩
        generalize g' d2 d4 P S4 = r' at h4
        cases r' with
        | none => exact h4
        | some p =>
          obtain ⟨z', S5⟩ := p
          intro c5 v5 H5 e5 s5 r5
          have h5 := Post.ev s4.pl e5 h4
          simp only [lift_some, R.bind_ok] at h5
          cases q' : isTrueD z' with
          | none => rw [q'] at h5; exact h5.elim
          | some k' =>
            rw [q'] at h5
            rw [isTrueD_some q'] at r5
            refine ⟨k', r5.isBl, ?_⟩
            cases k' with
            | false =>
              rw [if_neg Bool.false_ne_true]
              exact h5 c5 _ H5 (Ev.refl s5) s5 (RV.bl false)
            | true =>
              rw [if_pos rfl]
              refine tM_bind (E4.mono e5) s5 h5 fun d6 v6 S6 c6 H6 e6 E6 s6 r6 h6 => ?_
              exact ⟨c6, P, S6, d4, d6, s6, (r4.mono e5).mono e6, r6, h6.low⟩
theorem pm_chain3 {a b c d : Expr} {pos : Pos} {fa fb fc fd : ME} {op op' op'' : CmpOp} {g g' g'' : F2} (ho : OpM X (compareOp op) g) (ho' : OpM X (compareOp op') g') (ho'' : OpM X (compareOp op'') g'') (ha : PM X W a fa) (hb : PM X W b fb) (hc : PM X W c fc) (hd : PM X W d fd) (hm : lastMarks [op, op', op''] [b, c, d] = false := by rfl) : PM X W (.Compare a [op, op', op''] [b, c, d] pos) (mChain3 g g' g'' fa fb fc fd) :=
  ⟨pe_weak (pe_chain3 ho.run ho'.run ho''.run ha.run hb.run hc.run hd.run hm) fun _ _ _ h => tChain3_of h⟩
theorem pmt_chain3 {a b c d : Expr} {pos : Pos} {fa fb fc fd : ME} {op op' op'' : CmpOp} {g g' g'' : F2} (ho : OpM X (compareOp op) g) (ho' : OpM X (compareOp op') g') (ho'' : OpM X (compareOp op'') g'') (ha : PM X W a fa) (hb : PM X W b fb) (hc : PM X W c fc) (hd : PM X W d fd) (hm : lastMarks [op, op', op''] [b, c, d] = false := by rfl) : PMT X W (.Compare a [op, op', op''] [b, c, d] pos) (mB (mChain3 g g' g'' fa fb fc fd)) :=
  ⟨pt_weak (pt_chain3 ho.run ho'.run ho''.run ha.run hb.run hc.run hd.run hm) (test_of fun _ _ _ h => tChain3_of h)⟩
end
end Fm

/-! FmW: how often a text stands in a list of texts. -/
namespace Fm
open PySem PySem.Spec PyProof.Rows L2
theorem countIn_tx (u : Tx) : ∀ xs : List Tx, countIn (.str (sv u)) ((xs.map sv).map PyData.str) = (xs.count u : Nat)
  | [] => rfl
  | x :: xs => by
    rw [List.map_cons, List.map_cons, countIn, countIn_tx u xs, List.count_cons]
    have hs : same (.str (sv x)) (.str (sv u)) = decide (x = u) := sv_beq x u
    rw [hs]
    by_cases h : x = u
    · subst h; simp; omega
    · simp [h]
def rCntS (K : PySem.W.Frag) : V → List V → Hp → VK → Prop := fun x xs H Q => ∃ (p : Addr) (ss : List Str) (k : Str), x = .ref p ∧ xs = [.str k] ∧ SqL K H p (ss.map V.str) ∧ Q (.int (countIn (.str k) (ss.map PyData.str))) H
section
variable {X : Cx}
theorem mt_countS : MtR X "list.count" (rCntS X.K) := by
  intro pins s σ H x xs v us Q I rx rxs h
  obtain ⟨p, ss, k, rfl, rfl, hs, q⟩ := h
  cases rx
  obtain ⟨u, rfl, ru⟩ := rxs.one
  obtain ⟨t, rfl⟩ := ru
  obtain ⟨its, rv, hl, hlen⟩ := I.list hs
  exact count_list_strs hl.isList (Vals.strs rv) ⟨.int _, H, I.tok _, ⟨s.toks, rfl⟩, q⟩
def countG : FM := fun d ds _ S => match d, ds with
  | .t (.lst l), [.t (.str u)] => (strsOf l).map fun xs => (.t (.int (xs.count u : Nat)), S)
  | _, _ => none
theorem mt_countM : MtdM X "list.count" countG := by
  refine ⟨fun pins s σ H x xs v us Q I rx rs h => ?_⟩
  obtain ⟨c, P, S, d, ds, hS, rd, rds, q⟩ := h
  unfold countG at q
  split at q
  · rename_i l u
    cases e : strsOf l with
    | none => rw [e] at q; exact q.elim
    | some zs =>
      rw [e] at q
      obtain ⟨y, rfl, ry⟩ := rds.one
      cases ry with
      | str _ hf =>
        cases rd with
        | lst _ a vs h1 h2 h3 h4 =>
          have ev := h4.strs e
          subst ev
          refine mt_countS pins s σ H _ _ v us Q I rx rs ⟨a, zs.map sv, sv u, rfl, rfl, SqL.of h2, ?_⟩
          rw [countIn_tx]
          exact q c _ H (Ev.refl hS) hS (RV.int _)
  · exact q.elim
end
end Fm

/-! FmZ: tuple[::-1], isinstance of dicts. -/
namespace Fm
open PySem PySem.Spec PyProof.Rows L2 HT
section
variable {prog : Program} {w : World} {A : Around} {E : Value → Shared → Prop} {s : Shared}
theorem adjust_rev (n : Nat) : Builtin.Slice.sliceAdjust none none (-1) (n : Int) = ((n : Int) - 1, -1) := by
  unfold Builtin.Slice.sliceAdjust
  have h1 : ((-1 : Int) < 0) := by omega
  simp only [h1, if_true]
theorem places_rev (n : Nat) : Builtin.Slice.slicePlaces ((n : Int) - 1) (-1) (-1) = n := by
  unfold Builtin.Slice.slicePlaces
  have h1 : ¬ ((-1 : Int) > 0) := by omega
  simp only [h1, if_false, Int.neg_neg, Int.ediv_one]
  split <;> omega
theorem sliceApplied_rev {sl : Addr} {vl vu vs : Value} {n : Nat} {Q : Int × Int × Nat → Shared → Prop} (hs : s.heap.IsSliceOf sl vl vu vs) (pl : IsPart vl none) (pu : IsPart vu none) (ps : IsPart vs (some (-1)))
    (h : Q ((n : Int) - 1, -1, n) s) : wpAny (model prog w) A (Builtin.Slice.sliceApplied (.ref sl) (pure (n : Int))) Q E s := by
  obtain ⟨os, hos, hcs, hds⟩ := id hs
  unfold Builtin.Slice.sliceApplied Builtin.Slice.sliceFields
  refine wpAny_bind (wpAny_bind (wpAny_field hos hds (x := vl) rfl (wpAny_bind (wpAny_field hos hds (x := vu) rfl (wpAny_bind (wpAny_field hos hds (x := vs) rfl (wpAny_pure ?_)))))))
  refine wpAny_bind (slicePart_ ps ?_)
  show wpAny _ _ (if ((-1 : Int) == 0) = true then _ else _) _ _ s
  rw [if_neg (by decide)]
  refine wpAny_bind (slicePart_ pl (wpAny_bind (slicePart_ pu (wpAny_bind (wpAny_pure ?_)))))
  show wpAny _ _ (match Builtin.Slice.sliceAdjust none none (-1) (n : Int) with | (lo, hi) => pure (lo, (-1 : Int), Builtin.Slice.slicePlaces lo hi (-1))) _ _ s
  rw [adjust_rev n]
  show wpAny _ _ (pure (((n : Int) - 1), (-1 : Int), Builtin.Slice.slicePlaces ((n : Int) - 1) (-1) (-1))) _ _ s
  rw [places_rev n]
  exact wpAny_pure h
theorem pick_rev (xs : Array Value) : ((List.range xs.size).filterMap fun (k : Nat) => xs[((xs.size : Int) - 1 + (k : Int) * (-1)).toNat]?).toArray = xs.toList.reverse.toArray := by
  congr 1
  apply List.ext_getElem?
  intro i
  have hs : ∀ l : List Nat, (∀ k ∈ l, k < xs.size) → (l.filterMap fun (k : Nat) => xs[((xs.size : Int) - 1 + (k : Int) * (-1)).toNat]?) = l.map fun k => xs.toList.getD (xs.size - 1 - k) .none := by
    intro l
    induction l with
    | nil => exact fun _ => rfl
    | cons k l ih =>
      intro h
      have hk := h k List.mem_cons_self
      have e : ((xs.size : Int) - 1 + (k : Int) * (-1)).toNat = xs.size - 1 - k := by omega
      have hc : xs[((xs.size : Int) - 1 + (k : Int) * (-1)).toNat]? = some (xs.toList.getD (xs.size - 1 - k) .none) := by
        rw [e, ← Array.getElem?_toList, List.getD_eq_getElem?_getD, List.getElem?_eq_getElem (by rw [Array.length_toList]; omega)]
        rfl
      rw [List.filterMap_cons, List.map_cons, ih fun x hx => h x (List.mem_cons_of_mem _ hx), hc]
  rw [hs _ fun k hk => List.mem_range.mp hk, List.getElem?_map]
  by_cases hi : i < xs.size
  · rw [List.getElem?_range hi, List.getElem?_reverse (by rw [Array.length_toList]; exact hi), Array.length_toList]
    show some (xs.toList.getD (xs.size - 1 - i) .none) = _
    rw [List.getD_eq_getElem?_getD, List.getElem?_eq_getElem (by rw [Array.length_toList]; omega)]
    rfl
  · rw [List.getElem?_eq_none (by rw [List.length_range]; omega), List.getElem?_eq_none (by rw [List.length_reverse, Array.length_toList]; omega)]
    rfl
theorem getItem_tuple_rev {t sl : Addr} {items : Array Value} {vl vu vs : Value} {Q : Value → Shared → Prop} (ht : IsTup s.heap t items) (hs : s.heap.IsSliceOf sl vl vu vs) (pl : IsPart vl none) (pu : IsPart vu none) (ps : IsPart vs (some (-1)))
    (h : Q (.ref s.heap.objs.size) { s with heap := s.heap.push { cls := .type "tuple", data := .seq items.toList.reverse.toArray } })
    (hsz : items.size ≤ sizeLine) : wpAny (model prog w) A (getItem (.ref t) (.ref sl)) Q E s := by
  have hrev : sizeOk (.seq items.toList.reverse.toArray) := by
    show items.toList.reverse.toArray.size ≤ sizeLine
    rw [List.size_toArray, List.length_reverse, Array.length_toList]
    omega
  obtain ⟨os, hos, hcs, hds⟩ := id hs
  have hTs : s.TypeIs (.ref sl) "slice" := ⟨os, hos, hcs⟩
  unfold getItem
  try with_reducible refine wpAny_holding ?_
  first | refine wpAny_bind (wpAny_pure ?_) | skip
  refine wpAny_bind (wpAny_sequenceKey ht.typeIs (by decide) ?_)
  refine wpAny_bind (wpAny_callSpecial?_slot (name := Str.ofString "__getitem__") ht.typeIs PyProof.Rows.slot_tuple_getitem
    (wpAny_call_entry PyProof.Rows.slot_tuple_getitem ht.typeIs entry_tuple_getitem ?_ (args_tuple_getitem _ _)))
  show wpAny _ _ (Builtin.Tuple.tupleItemsOf (.ref t) >>= _) _ _ s
  refine wpAny_bind (tupleItemsOf_ ht ?_)
  refine wpAny_bind (wpAny_typeOf hTs ?_)
  rw [if_pos (by decide)]
  refine wpAny_bind (sliceApplied_rev hs pl pu ps ?_)
  have hno : ¬ ((((items.size : Int) - 1) == 0 && (-1 : Int) == 1 && items.size == items.size) = true) := by simp
  show wpAny _ _ (if (((items.size : Int) - 1) == 0 && (-1 : Int) == 1 && items.size == items.size) = true then _ else _) _ _ s
  rw [if_neg hno, pick_rev items]
  first
    | exact wpAny_bind (m := Builtin.Tuple.tupleExact _) (wpAny_newObj_type (wpAny_pure ⟨_, rfl, wpAny_pure h⟩) hrev)
    | exact wpAny_bind (m := Builtin.Tuple.tupleExact _) (wpAny_newObj_type (wpAny_bind (wpAny_pure (wpAny_pure ⟨_, rfl, wpAny_pure h⟩))) hrev)
    | exact wpAny_bind (wpAny_bind (m := Builtin.Tuple.tupleExact _) (wpAny_newObj_type (wpAny_pure (wpAny_pure ⟨_, rfl, wpAny_pure h⟩)) hrev))
    | exact wpAny_bind (wpAny_bind (m := Builtin.Tuple.tupleExact _) (wpAny_newObj_type (wpAny_pure ⟨_, rfl, wpAny_pure h⟩) hrev))
end
section
variable {X : Cx} {W : WX} {e : Expr} {f : ME}
def tRevT (K : PySem.W.Frag) (te : TE) : TE := fun σ H Q => te σ H fun x H1 => ∃ a xs, x = .ref a ∧ SqT K H1 a xs ∧ ∀ p, H1 p = none → xs.length ≤ sizeLine → Q (.ref p) (upd H1 p (.tup xs.reverse))
theorem pe_revT {te : TE} {k : Nat} {p1 p2 p3 pos : Pos} (he : PE X e te) : PE X (.Subscript e (.Slice none none (some (.UnaryOp .USub (.Constant (.int 1) k p1) p2)) p3) pos) (tRevT X.K te) := by
  refine ⟨fun pins s σ H Q I h => ?_⟩
  refine Subscript_ (thn (he.run pins s σ H _ I h) fun v s1 ⟨x, H1, I1, r1, q1⟩ => ?_)
  have hst : PO X (some (.UnaryOp .USub (.Constant (.int 1) k p1) p2)) (tPart (tUn (rU fun i => .int (-i)) (tC (.int 1)))) := po_some (pe_un un_neg pe_int)
  refine wpAny_Slice (thn (po_none.run pins s1 σ H1 (fun o H2 => o = none ∧ H2 = H1) I1 ⟨rfl, rfl⟩) fun vl s2 ⟨l, H2, I2, pl, el, e2⟩ => ?_)
  subst el e2
  refine thn (po_none.run pins s2 σ H2 (fun o H3 => o = none ∧ H3 = H2) I2 ⟨rfl, rfl⟩) fun vu s3 ⟨u, H3, I3, pu, eu, e3⟩ => ?_
  subst eu e3
  refine thn (hst.run pins s3 σ H3 (fun o H4 => o = some (-1) ∧ H4 = H3) I3 ⟨1, rfl, -1, rfl, rfl, rfl⟩) fun vs s4 ⟨o, H4, I4, ps, eo, e4⟩ => ?_
  subst eo e4
  have I5 : Inv X pins σ H4 { s4 with heap := s4.heap.push { cls := .type "slice", data := .fields #[vl, vu, vs] } } := I4.kept (t' := s4.toks) fun b ob q => Heap.get?_push_of_some _ q
  obtain ⟨a, xs, ex, hx, q⟩ := q1
  subst ex
  cases r1
  obtain ⟨its, r, ht, hz⟩ := I5.tuple hx
  have hlen := r.length
  show wpAny (model X.prog X.w) X.A (subscriptTail e (.Slice none none (some (.UnaryOp .USub (.Constant (.int 1) k p1) p2)) p3) (.ref a) (.ref s4.heap.objs.size)) (EP X pins σ Q) X.xe { s4 with heap := s4.heap.push { cls := .type "slice", data := .fields #[vl, vu, vs] } }
  refine tail_any (ops := [.ref a, .ref s4.heap.objs.size]) ht.typeIs (PyProof.Rows.slot_tuple_getitem.lookup) ?_ (by with_unfolding_all rfl)
  have hz' : xs.length ≤ sizeLine := hz
  refine getItem_tuple_rev ht (Heap.IsSliceOf.new _ vl vu vs) pl pu ps ?_ (by rw [List.size_toArray]; omega)
  refine ⟨.ref _, _, I5.laid (t' := s4.toks) (o := .tup xs.reverse) (fun b ob q => Heap.get?_push_of_some _ q) (Nat.le_refl _) ?_, rfl, q _ (I5.hok.fresh (Nat.le_refl _)) hz'⟩
  exact ⟨by rw [List.length_reverse]; exact hz', its.reverse, r.reverse, _, Heap.get?_push_size _ rfl, rfl, 0, rfl⟩
def mRevT (f : ME) : ME := fun P ρ S => (f P ρ S).bind fun d S1 => match d with
  | .t (.tup l) => .ok (.t (.tup l.reverse)) S1
  | _ => .no
theorem pm_revT {k : Nat} {p1 p2 p3 pos : Pos} (h : PM X W e f) : PM X W (.Subscript e (.Slice none none (some (.UnaryOp .USub (.Constant (.int 1) k p1) p2)) p3) pos) (mRevT f) := by
  refine ⟨pe_weak (pe_revT h.run) fun σ H Q q => ?_⟩
  obtain ⟨c, P, ρ, S, hE, hS, q⟩ := q
  refine tM_bind hE hS q fun d v S1 c1 H1 e1 E1 s1 r1 h1 => ?_
  cases d with
  | ref i => exact h1.elim
  | t d =>
    cases d <;> first | exact h1.elim | skip
    rename_i l
    cases r1 with
    | tup _ a vs g1 g2 g3 g4 =>
      exact ⟨a, vs, rfl, SqT.of g2, fun p hp hl => h1 (c1.zed p) (.ref p) _ (Ev.alloc s1 hp) (Sim.alloc s1 hp) (RV.tup _ p _ (.inr rfl) upd_same (by rw [List.length_reverse]; exact hl) (RVs.mono' (Ev.alloc s1 hp) g4.revV))⟩
/-! ### isinstance of dicts too -/
def isiD : FL := fun ds P S => match ds with
  | [.t (.dic _), .t (.ty n)] => if n = "tuple" ∨ n = "str" ∨ n = "int" ∨ n = "bool" ∨ n = "list" then some (.t (.bl false), S) else none
  | [.t (.dit _), .t (.ty n)] => if n = "tuple" ∨ n = "str" ∨ n = "int" ∨ n = "bool" ∨ n = "list" then some (.t (.bl false), S) else none
  | ds => isiG ds P S
theorem call_isiDM : CallM X (.builtin "isinstance") isiD := by
  refine ⟨fun pins s σ H xs us Q I rx hh => ?_⟩
  obtain ⟨c, P, S, ds, hS, ra, q⟩ := hh
  have go : ∀ {a : Addr} {n : String}, xs = [.ref a, .ty n] → (∃ o, s.heap.get? a = some o ∧ o.cls = .type "dict") → (n = "tuple" ∨ n = "str" ∨ n = "int" ∨ n = "bool" ∨ n = "list") → Post0 X.K P c H (RD X.K) (some (.t (.bl false), S)) Q → wpAny (model X.prog X.w) X.A (call (.builtin "isinstance") us) (EP X pins σ Q) X.xe s := fun {a n} ex ho hn q => by
    subst ex
    obtain ⟨u, u', rfl, ru, ru'⟩ := vals2 rx
    cases (show u' = Value.type n from ru')
    cases (show u = Value.ref a from ru)
    have hk : kitB "dict" n = some false := by rcases hn with rfl | rfl | rfl | rfl | rfl <;> decide +kernel
    exact PySem.W.kia_one (PySem.W.kitx_dict (a := a)) I.kIn ho (kit_ty hk) (fun z => nomatch z) fun tk => ⟨.bl false, H, I.tok tk, rfl, q c _ H (Ev.refl hS) hS (RV.bl false)⟩
  unfold isiD at q
  split at q
  · rename_i l n
    split at q
    · rename_i hn
      obtain ⟨v, v2, rfl, r, r'⟩ := ra.two
      cases r'
      cases r with
      | dic _ a kvs h1 h2 h3 =>
        obtain ⟨_, _, _, _, o, _, _, e1, e2, _⟩ := (show ObjOk X.prog X.w H s.heap a (.dK kvs) from h2.ok I.hok)
        exact go rfl ⟨o, e1, e2.1⟩ hn q
    · exact q.elim
  · rename_i l n
    split at q
    · rename_i hn
      obtain ⟨v, v2, rfl, r, r'⟩ := ra.two
      cases r'
      cases r with
      | dit _ a kvs h1 h2 h3 =>
        obtain ⟨_, _, _, _, o, _, _, e1, e2, _⟩ := (show ObjOk X.prog X.w H s.heap a (.dT kvs) from h2.ok I.hok)
        exact go rfl ⟨o, e1, e2.1⟩ hn q
    · exact q.elim
  · exact call_isiM.run pins s σ H xs us Q I rx ⟨c, P, S, _, hS, ra, q⟩
end
end Fm

/-! FmZ2: the alphabet's index; a[i], b[j] = x, y. -/
namespace Fm
open PySem PySem.Spec PyProof.Rows L2
abbrev abcTx : Tx := cs "abcdefghijklmnopqrstuvwxyz"
theorem abc_occ : ∀ c : Nat, c < 26 → Builtin.Str.occurrences (sv abcTx) (sv [97 + c]) 0 (sv abcTx).length 1 = [c] := by decide +kernel
/-- "abc..z".index(c), c a small letter -/
def indexG : FM := fun d ds _ S => match d, ds with
  | .t (.str s), [.t (.str [c])] => if s = abcTx ∧ 97 ≤ c ∧ c ≤ 122 then some (.t (.int ((c - 97 : Nat) : Int)), S) else none
  | _, _ => none
section
variable {X : Cx} {W : WX}
theorem mt_indexM : MtdM X "str.index" indexG := by
  refine ⟨fun pins s σ H x xs v us Q I rx rs hh => ?_⟩
  obtain ⟨c, P, S, d, ds, hS, rd, rds, q⟩ := hh
  unfold indexG at q
  split at q
  · rename_i s u
    split at q
    · rename_i hu
      obtain ⟨rfl, h1, h2⟩ := hu
      cases rd
      cases rds with
      | cons r1 r2 =>
        cases r1
        cases r2
        have ho := abc_occ (u - 97) (by omega)
        rw [show 97 + (u - 97) = u by omega] at ho
        exact mt_sindex pins _ σ H _ _ v us Q I rx rs ⟨_, _, u - 97, [], rfl, rfl, ho, q c _ H (Ev.refl hS) hS (.int _)⟩
    · exact q.elim
  · exact q.elim
def sPut2 (fo1 fi1 fo2 fi2 fe : ME) : MS := fun P ρ S => (fe P ρ S).oc ρ fun v S1 => match v with
  | .t (.tup [x, y]) => (fo1 P ρ S1).oc ρ fun d S2 => (fi1 P ρ S2).oc ρ fun i S3 => match setG d i (.t x) P S3 with
    | some S4 => (fo2 P ρ S4).oc ρ fun d2 S5 => (fi2 P ρ S5).oc ρ fun i2 S6 => match setG d2 i2 (.t y) P S6 with
      | some S7 => .nx ρ S7
      | none => .no
    | none => .no
  | _ => .no
variable {o i o2 i2 e : Expr} {fo fi fo2 fi2 fe : ME} {pos p1 p2 p3 : Pos} {kt : Nat}
theorem pms_put2 (hc : X.calm = true) (hu : X.A.units + 1 < cLine) (ho : PM X W o fo) (hi : PM X W i fi) (ho2 : PM X W o2 fo2) (hi2 : PM X W i2 fi2) (he : PM X W e fe)
    (ha : ∀ v, assign (.Subscript o i p1) X.env v = (do
      let ov ← holding [v] (eval o X.env)
      let iv ← holding [v, ov] (eval i X.env)
      standAt p1
      holding [v, ov, iv] (setItem ov iv v)
      release [v, ov, iv] []) := by intro _; rfl)
    (ha2 : ∀ v, assign (.Subscript o2 i2 p2) X.env v = (do
      let ov ← holding [v] (eval o2 X.env)
      let iv ← holding [v, ov] (eval i2 X.env)
      standAt p2
      holding [v, ov, iv] (setItem ov iv v)
      release [v, ov, iv] []) := by intro _; rfl)
    (hs1 : (assignEach [.Subscript o i p1, .Subscript o2 i2 p2] X.env).map (·.2) = assign (.Subscript o i p1) X.env :: (assignEach [.Subscript o2 i2 p2] X.env).map (·.2) := by rfl)
    (hs2 : (assignEach [.Subscript o2 i2 p2] X.env).map (·.2) = assign (.Subscript o2 i2 p2) X.env :: (assignEach [] X.env).map (·.2) := by rfl)
    (hn : (assignEach [.Subscript o i p1, .Subscript o2 i2 p2] X.env).length = 2 := by rfl) (hst : (assignEach [.Subscript o i p1, .Subscript o2 i2 p2] X.env).findIdx? (·.1) = none := by rfl)
    (hs : swapsWithSole [.Tuple [.Subscript o i p1, .Subscript o2 i2 p2] kt p3] e pos.line X.env = pure false := by rfl) (hw : swappedStores [.Tuple [.Subscript o i p1, .Subscript o2 i2 p2] kt p3] e X.env = pure none := by rfl)
    (h1 : (assignEach [.Tuple [.Subscript o i p1, .Subscript o2 i2 p2] kt p3] X.env).map (·.2) = [assign (.Tuple [.Subscript o i p1, .Subscript o2 i2 p2] kt p3) X.env] := by rfl) :
    PMS X W (.Assign [.Tuple [.Subscript o i p1, .Subscript o2 i2 p2] kt p3] e pos) (sPut2 fo fi fo2 fi2 fe) := by
  refine ⟨ps_weak (ps_asg he.run (pg_tup hc (pgs_cons (pg_sub ho.run hi.run (set_any hu) ha) (pgs_cons (pg_sub ho2.run hi2.run (set_any hu) ha2) pgs_nil hs2) hs1) hn hst) hs hw (h1 := h1)) fun D σ H h => ?_⟩
  obtain ⟨c, P, ρ, S, hE, hS, h⟩ := h
  refine tM_oc hE hS h fun v vv S1 c1 H1 e1 E1 s1 r1 h1 => ?_
  cases v with
  | ref j => exact h1.elim
  | t v =>
    cases v <;> first | exact h1.elim | skip
    rename_i l
    match l, r1, h1 with
    | [], _, h1 => exact h1.elim
    | [_], _, h1 => exact h1.elim
    | _ :: _ :: _ :: _, _, h1 => exact h1.elim
    | [x, y], r1, h1 =>
      cases r1 with
      | tup _ a vs g1 g2 g3 g4 =>
        cases g4 with
        | cons _ vx _ _ rx g5 =>
          cases g5 with
          | cons _ vy _ _ ry g6 =>
            cases g6
            refine ⟨a, [vx, vy], rfl, SqT.of g2, rfl, vx, [vy], rfl, ?_⟩
            refine tM_oc E1 s1 h1 fun d dv S2 c2 H2 e2 E2 s2 r2 h2 => ?_
            refine tM_oc E2 s2 h2 fun k kv S3 c3 H3 e3 E3 s3 r3 h3 => ?_
            cases q : setG d k (.t x) P S3 with
            | none => rw [q] at h3; exact h3.elim
            | some S4 =>
              rw [q] at h3
              have rx3 : RD X.K c3 H3 (.t x) vx := RD.mono e3 (RD.mono e2 (show RD X.K c1 H1 (.t x) vx from rx))
              refine setG_ok s3 (r2.mono e3) r3 rx3 q fun c4 H4 e4 s4 => ?_
              have h4 := PostS.ev s3.pl e4 h3
              refine ⟨vy, [], rfl, ?_⟩
              refine tM_oc (E3.mono e4) s4 h4 fun d2 dv2 S5 c5 H5 e5 E5 s5 r5 h5 => ?_
              refine tM_oc E5 s5 h5 fun k2 kv2 S6 c6 H6 e6 E6 s6 r6 h6 => ?_
              cases q2 : setG d2 k2 (.t y) P S6 with
              | none => rw [q2] at h6; exact h6.elim
              | some S7 =>
                rw [q2] at h6
                have ry6 : RD X.K c6 H6 (.t y) vy := RD.mono e6 (RD.mono e5 (RD.mono e4 (RD.mono e3 (RD.mono e2 (show RD X.K c1 H1 (.t y) vy from ry)))))
                refine setG_ok s6 (r5.mono e6) r6 ry6 q2 fun c7 H7 e7 s7 => ?_
                exact ⟨rfl, h6 c7 σ H7 e7 s7 (E6.mono e7)⟩
end
end Fm

/-! FmZ3: slices of lists in cells. -/
namespace Fm
open PySem PySem.Spec PyProof.Rows L2
section
variable {X : Cx} {W : WX} {e : Expr} {fo : ME} {pos p2 : Pos}
def mSlC (fo : ME) (fl fh : Option ME) : ME := fun P ρ S => (fo P ρ S).bind fun d S1 => (mPart fl P ρ S1).bind fun lo S2 => (mPart fh P ρ S2).bind fun hi S3 => match d with
  | .ref i => match (P ++ S3)[i]? with
    | some (.lst l) => match trees l with
      | some ts => .ok (.t (.lst (cutL ts lo hi))) S3
      | none => .no
    | _ => .no
  | _ => .no
theorem pm_slC {fl fh : Option ME} {lo hi : Option Expr} (ho : PM X W e fo) (hl : PMP X W lo fl) (hh : PMP X W hi fh) : PM X W (.Subscript e (.Slice lo hi none p2) pos) (mSlC fo fl fh) := by
  obtain ⟨tl, pl, kl⟩ := hl.run
  obtain ⟨th, ph, kh⟩ := hh.run
  refine ⟨pe_weak (pe_slice (sl_str.or (sl_list.or sl_tupA)) ho.run pl ph) fun σ H Q h => ?_⟩
  obtain ⟨c, P, ρ, S, hE, hS, h⟩ := h
  refine tM_bind hE hS h fun d v S1 c1 H1 e1 E1 s1 r1 h1 => ?_
  refine kl c1 P ρ S1 σ H1 _ E1 s1 ?_
  generalize mPart fl P ρ S1 = rl at h1
  cases rl with
  | ex x S' => exact h1
  | no => exact h1
  | ok l S2 =>
    intro c2 l' H2 e2 s2 rl
    cases (show l = l' from rl)
    have h2 := Post.ev s1.pl e2 h1
    refine kh c2 P ρ S2 σ H2 _ (E1.mono e2) s2 ?_
    simp only [R.bind_ok] at h2
    generalize mPart fh P ρ S2 = rh at h2
    cases rh with
    | ex x S' => exact h2
    | no => exact h2
    | ok u S3 =>
      intro c3 u' H3 e3 s3 ru
      cases (show u = u' from ru)
      have h3 := Post.ev s2.pl e3 h2
      have r3 := (r1.mono e2).mono e3
      simp only [R.bind_ok] at h3
      cases d with
      | t x => exact h3.elim
      | ref i =>
        obtain ⟨hi, rfl⟩ := r3
        cases eo : (P ++ S3)[i]? with
        | none => simp only [eo] at h3; exact h3.elim
        | some o =>
          cases o with
          | lst l' =>
            obtain ⟨vs, hH, hl, rr⟩ := s3.ro _ _ eo
            cases et : trees l' with
            | none => simp only [eo, et] at h3; exact h3.elim
            | some ts =>
              simp only [eo, et] at h3
              have g4 := rr.trees et
              exact .inr (.inl ⟨_, vs, rfl, SqL.of hH, fun p hp => h3 (c3.zed p) _ _ (Ev.alloc s3 hp) (Sim.alloc s3 hp) (RV.lst _ p _ (.inr rfl) upd_same (Nat.le_trans (cutV_length _ _ _) hl) ((g4.cutL l u).up s3 hp))⟩)
          | dead => simp only [eo] at h3; exact h3.elim
          | dic l => simp only [eo] at h3; exact h3.elim
          | dit l => simp only [eo] at h3; exact h3.elim
          | ins C fs => simp only [eo] at h3; exact h3.elim
end
end Fm

/-! FmZ4: isinstance of all trees; x == (). -/
namespace Fm
open PySem PySem.Spec PyProof.Rows L2
/-- the name of a tree's type -/
def T.kind : T → Option String
  | .non => some "NoneType"
  | .bl _ => some "bool"
  | .int _ => some "int"
  | .str _ => some "str"
  | .lst _ => some "list"
  | .tup _ => some "tuple"
  | .dic _ => some "dict"
  | .dit _ => some "dict"
  | _ => none
def fiveN (n : String) : Bool := n = "tuple" ∨ n = "str" ∨ n = "int" ∨ n = "bool" ∨ n = "list"
def isKind (k n : String) : Bool := k = n ∨ (k = "bool" ∧ n = "int")
def isiX : FL := fun ds P S => match ds with
  | [.t x, .t (.ty n)] => match x.kind with
    | some k => if fiveN n then some (.t (.bl (isKind k n)), S) else none
    | none => none
  | ds => isiG ds P S
section
variable {X : Cx} {W : WX}
theorem kind_kit {k n : String} (hk : k = "NoneType" ∨ k = "bool" ∨ k = "int" ∨ k = "str" ∨ k = "list" ∨ k = "tuple" ∨ k = "dict") (hn : fiveN n = true) : kitB k n = some (isKind k n) := by
  have hn : n = "tuple" ∨ n = "str" ∨ n = "int" ∨ n = "bool" ∨ n = "list" := by simpa [fiveN] using hn
  rcases hk with rfl | rfl | rfl | rfl | rfl | rfl | rfl <;> rcases hn with rfl | rfl | rfl | rfl | rfl <;> decide +kernel
theorem call_isiXM : CallM X (.builtin "isinstance") isiX := by
  refine ⟨fun pins s σ H xs us Q I rx hh => ?_⟩
  obtain ⟨c, P, S, ds, hS, ra, q⟩ := hh
  unfold isiX at q
  split at q
  · rename_i x n
    obtain ⟨v, v2, rfl, r, r'⟩ := ra.two
    cases r'
    have fin : ∀ {k : String}, (k = "NoneType" ∨ k = "bool" ∨ k = "int" ∨ k = "str" ∨ k = "list" ∨ k = "tuple" ∨ k = "dict") → TyX X.K H v (.type k) → Post0 X.K P c H (RD X.K) (if fiveN n then some (.t (.bl (isKind k n)), S) else none) Q → wpAny (model X.prog X.w) X.A (call (.builtin "isinstance") us) (EP X pins σ Q) X.xe s := fun {k} hk ty q => by
      by_cases hn : fiveN n = true
      · rw [if_pos hn] at q
        exact call_isi pins s σ H _ us Q I rx ⟨_, .ty n, .type k, .type n, isKind k n, rfl, .ty n, ty, kit_ty (kind_kit hk hn), q c _ H (Ev.refl hS) hS (RV.bl _)⟩
      · rw [if_neg hn] at q
        exact q.elim
    have dic : ∀ {a : Addr}, v = .ref a → (∃ o, s.heap.get? a = some o ∧ o.cls = .type "dict") → Post0 X.K P c H (RD X.K) (if fiveN n then some (.t (.bl (isKind "dict" n)), S) else none) Q → wpAny (model X.prog X.w) X.A (call (.builtin "isinstance") us) (EP X pins σ Q) X.xe s := fun {a} ev ho q => by
      subst ev
      by_cases hn : fiveN n = true
      · rw [if_pos hn] at q
        obtain ⟨u, u', rfl, ru, ru'⟩ := vals2 rx
        cases (show u' = Value.type n from ru')
        cases (show u = Value.ref a from ru)
        exact PySem.W.kia_one (PySem.W.kitx_dict (a := a)) I.kIn ho (kit_ty (kind_kit (.inr (.inr (.inr (.inr (.inr (.inr rfl)))))) hn)) (fun z => nomatch z) fun tk => ⟨.bl _, H, I.tok tk, rfl, q c _ H (Ev.refl hS) hS (RV.bl _)⟩
      · rw [if_neg hn] at q
        exact q.elim
    cases r with
    | non => exact fin (k := "NoneType") (by simp) (.base .non) q
    | bl b => exact fin (k := "bool") (by simp) (.base (.bl b)) q
    | int i => exact fin (k := "int") (by simp) (.base (.int i)) q
    | str z h => exact fin (k := "str") (by simp) (.base (.str _)) q
    | lst l a vs h1 h2 h3 h4 => exact fin (k := "list") (by simp) (.base (.lst h2)) q
    | tup l a vs h1 h2 h3 h4 => exact fin (k := "tuple") (by simp) (.base (.tup h2)) q
    | dic l a kvs h1 h2 h3 =>
      obtain ⟨_, _, _, _, o, _, _, e1, e2, _⟩ := (show ObjOk X.prog X.w H s.heap a (.dK kvs) from h2.ok I.hok)
      exact dic rfl ⟨o, e1, e2.1⟩ q
    | dit l a kvs h1 h2 h3 =>
      obtain ⟨_, _, _, _, o, _, _, e1, e2, _⟩ := (show ObjOk X.prog X.w H s.heap a (.dT kvs) from h2.ok I.hok)
      exact dic rfl ⟨o, e1, e2.1⟩ q
    | _ => exact q.elim
  · exact call_isiM.run pins s σ H xs us Q I rx ⟨c, P, S, _, hS, ra, q⟩
@[simp] theorem isiX_ss (s : Tx) (P S : List O) : isiX [.t (.str s), .t (.ty "str")] P S = some (.t (.bl true), S) := rfl
@[simp] theorem isiX_ii (i : Int) (P S : List O) : isiX [.t (.int i), .t (.ty "int")] P S = some (.t (.bl true), S) := rfl
@[simp] theorem isiX_ib (i : Int) (P S : List O) : isiX [.t (.int i), .t (.ty "bool")] P S = some (.t (.bl false), S) := rfl
@[simp] theorem isiX_tt (l : List T) (P S : List O) : isiX [.t (.tup l), .t (.ty "tuple")] P S = some (.t (.bl true), S) := rfl
/-- x == () -/
def eqZT (t u : T) : Option T := match t, u with
  | .tup l, .tup [] => some (.bl (decide (l.length = 0)))
  | _, _ => none
theorem op_eqZM (hu : X.A.units + 64 < cLine) : OpM X (compareOp .Eq) (lT2 eqZT) := by
  refine opM_of fun pins s σ H x y v u Q Z a b z I rx ry ra rb e q q2 up => ?_
  unfold eqZT at e
  split at e
  · rename_i l
    cases e
    cases ra with
    | tup _ p vs h1 h2 h3 h4 =>
      cases rb with
      | tup _ p' vs' g1 g2 g3 g4 =>
        cases g4
        cases rx
        cases ry
        obtain ⟨its, r1, k1, _⟩ := I.tuple (SqT.of h2)
        obtain ⟨its2, r2, k2, _⟩ := I.tuple (SqT.of g2)
        cases r2
        have hl : its.length = l.length := r1.length.symm.trans h4.len.symm
        refine PySem.SeqAt.eq_tupleAt (e := fun _ => true) k1 k2 (by omega) (fun j _ h => absurd h (by simp)) ?_
        have e : ((List.range (min its.toArray.size ([] : List Value).toArray.size)).all (fun _ => true) && its.toArray.size == ([] : List Value).toArray.size) = decide (l.length = 0) := by
          rw [List.size_toArray, hl]
          by_cases c : l.length = 0 <;> simp [c]
        rw [e]
        exact ⟨.bl _, H, I, rfl, q _ (.bl _)⟩
  · cases e
end
end Fm

/-! FmZ5: tuple(text). -/
namespace Fm
open PySem PySem.Spec PyProof.Rows L2
def signsT : List T → Option T
  | [.str s] => some (.tup (s.map fun c => .str [c]))
  | _ => none
theorem call_tsigns {X : Cx} (hc : X.calm = true) : CallM X (.type "tuple") (lTL signsT) := by
  refine callM_of fun pins s σ H xs us Q Z ts z I rx ra e q q2 up => ?_
  unfold signsT at e
  split at e
  · rename_i x
    cases e
    cases ra with
    | cons _ _ _ _ r1 r2 =>
      cases r2
      cases r1 with
      | str _ hl =>
        obtain ⟨u, rfl, t, rfl⟩ := vals1 rx
        refine PySem.call_tuple_str (I.ok.hd hc) (sv x) t (fun h' tk acc' hk hacc => ?_) (by rw [← sv_len] at hl; exact hl)
        have hz : (x.map fun c => V.str (sv [c])).length ≤ sizeLine := by rw [List.length_map]; exact hl
        have vals : Vals (x.map fun c => V.str (sv [c])) acc'.toList := by
          have len : acc'.toList.length = x.length := by
            rw [Array.length_toList, hacc.1]
            show (sv x).cps.size = _
            exact sv_len x
          refine paired_get (by rw [List.length_map, len]) fun j v u h1 h2 => ?_
          rw [List.getElem?_map] at h1
          cases q : x[j]? with
          | none => rw [q] at h1; cases h1
          | some c0 =>
            rw [q] at h1
            cases h1
            obtain ⟨c1, t1, g1, rfl⟩ := hacc.2 j u (by simpa using h2)
            have : (sv x).cps[j]? = some c0 := by
              show (x.toArray)[j]? = _
              rw [List.getElem?_toArray]; exact q
            rw [this] at g1
            cases g1
            exact ⟨t1, rfl⟩
        have I1 : Inv X pins σ H { s with heap := h', toks := tk } := I.kept (t' := tk) fun b o e => hk b o e
        refine ⟨.ref _, _, I1.laid (t' := tk) (o := .tup (x.map fun c => V.str (sv [c]))) (fun b ob q => Heap.get?_push_of_some _ q) (Nat.le_refl _) ⟨hz, acc'.toList, vals, _, Heap.get?_push_size _ rfl, rfl, 0, by simp⟩, rfl, ?_⟩
        exact q2 _ _ (I1.hok.fresh (Nat.le_refl _)) (RV.tup _ _ _ (.inr rfl) upd_same hz (RVs.mono (fun a h => .inl h) (fun a u h1 h2 h3 => h2) (fun a u h1 h2 h3 h4 => h4) (rvs_signs x)))
  · cases e
end Fm

/-! Pl: plain rules of mirrors, for reading what a mirror gives. -/
namespace Fm
open PySem PySem.Spec PyProof.Rows L2
section
variable (P : List O) (ρ : En) (S : List O)
@[simp] theorem e_var (i : Nat) : mVar i P ρ S = (match ρ[i]? with | some (some d) => .ok d S | _ => .no) := rfl
@[simp] theorem e_c (x : T) : mC x P ρ S = .ok (.t x) S := rfl
@[simp] theorem e_op2 (g : F2) (fa fb : ME) : mOp2 g fa fb P ρ S = (fa P ρ S).bind fun x S1 => (fb P ρ S1).bind fun y S2 => lift (g x y P S2) := rfl
@[simp] theorem e_op1 (g : F1) (fa : ME) : mOp1 g fa P ρ S = (fa P ρ S).bind fun x S1 => lift (g x P S1) := rfl
@[simp] theorem e_call (g : MF) (fs : MA) : mCall g fs P ρ S = (fs P ρ S).bind fun ds S1 => (g ds P S1).nx := rfl
@[simp] theorem e_callB (g : FL) (fs : MA) : mCallB g fs P ρ S = (fs P ρ S).bind fun ds S1 => lift (g ds P S1) := rfl
@[simp] theorem e_nil : mNil P ρ S = .ok [] S := rfl
@[simp] theorem e_cons (f : ME) (g : MA) : mCons f g P ρ S = (f P ρ S).bind fun d S1 => (g P ρ S1).bind fun ds S2 => .ok (d :: ds) S2 := rfl
@[simp] theorem e_if (ft : MT) (fa fb : ME) : mIf ft fa fb P ρ S = (ft P ρ S).bind fun b S1 => if b then fa P ρ S1 else fb P ρ S1 := rfl
@[simp] theorem e_T (f : ME) : mT f P ρ S = (f P ρ S).bind fun d S1 => match isTrueD d with
  | some b => .ok b S1
  | none => .no := rfl
@[simp] theorem e_B (f : ME) : mB f P ρ S = (f P ρ S).bind fun d S1 => match d with
  | .t (.bl b) => .ok b S1
  | _ => .no := rfl
@[simp] theorem e_andT (f g : MT) : mAndT f g P ρ S = (f P ρ S).bind fun b S1 => if b then g P ρ S1 else .ok false S1 := rfl
@[simp] theorem e_orT (f g : MT) : mOrT f g P ρ S = (f P ρ S).bind fun b S1 => if b then .ok true S1 else g P ρ S1 := rfl
@[simp] theorem e_notT (f : MT) : mNotT f P ρ S = (f P ρ S).bind fun b S1 => .ok (!b) S1 := rfl
@[simp] theorem e_and (fa fb : ME) : mAnd fa fb P ρ S = (fa P ρ S).bind fun d S1 => match isTrueD d with
  | some true => fb P ρ S1
  | some false => .ok (.t (.bl false)) S1
  | none => .no := rfl
@[simp] theorem e_or (fa fb : ME) : mOr fa fb P ρ S = (fa P ρ S).bind fun d S1 => match isTrueD d with
  | some true => .ok (.t (.bl true)) S1
  | some false => fb P ρ S1
  | none => .no := rfl
@[simp] theorem e_not (fa : ME) : mNot fa P ρ S = (fa P ρ S).bind fun d S1 => match isTrueD d with
  | some b => .ok (.t (.bl !b)) S1
  | none => .no := rfl
@[simp] theorem e_tup (fs : MA) : mTup fs P ρ S = (fs P ρ S).bind fun ds S1 => match trees ds with
  | some ts => if ts.length ≤ sizeLine then .ok (.t (.tup ts)) S1 else .no
  | none => .no := rfl
@[simp] theorem e_lst (fs : MA) : mLst fs P ρ S = (fs P ρ S).bind fun ds S1 => match trees ds with
  | some ts => if ts.length ≤ sizeLine then .ok (.t (.lst ts)) S1 else .no
  | none => .no := rfl
@[simp] theorem e_lstC (fs : MA) : mLstC fs P ρ S = (fs P ρ S).bind fun ds S1 => if ds.length ≤ sizeLine then .ok (.ref (P.length + S1.length)) (S1 ++ [.lst ds]) else .no := rfl
@[simp] theorem e_chain (g g' : F2) (fa fb fc : ME) : mChain g g' fa fb fc P ρ S = (fa P ρ S).bind fun x S1 => (fb P ρ S1).bind fun y S2 => (lift (g x y P S2)).bind fun z S3 => match isTrueD z with
  | some true => (fc P ρ S3).bind fun u S4 => lift (g' y u P S4)
  | some false => .ok (.t (.bl false)) S3
  | none => .no := rfl
@[simp] theorem e_partN : mPart none P ρ S = .ok none S := rfl
@[simp] theorem e_partS (f : ME) : mPart (some f) P ρ S = (f P ρ S).bind fun d S1 => match d with
  | .t (.int i) => .ok (some i) S1
  | _ => .no := rfl
@[simp] theorem e_sl (fo : ME) (fl fh : Option ME) : mSl fo fl fh P ρ S = (fo P ρ S).bind fun d S1 => (mPart fl P ρ S1).bind fun lo S2 => (mPart fh P ρ S2).bind fun hi S3 => match d with
  | .t (.str s) => .ok (.t (.str (cutL s lo hi))) S3
  | .t (.lst l) => .ok (.t (.lst (cutL l lo hi))) S3
  | .t (.tup l) => .ok (.t (.tup (cutL l lo hi))) S3
  | .t (.scr l) => .ok (.t (.lst ((cutL l lo hi).map .int))) S3
  | _ => .no := rfl
@[simp] theorem e_sNil : sNil P ρ S = .nx ρ S := rfl
@[simp] theorem e_seq (f g : MS) : sSeq f g P ρ S = (f P ρ S).sq fun ρ1 S1 => g P ρ1 S1 := rfl
@[simp] theorem e_set (i : Nat) (f : ME) : sSet i f P ρ S = (f P ρ S).oc ρ fun d S1 => .nx (ρ.set i (some d)) S1 := rfl
@[simp] theorem e_ret (f : ME) : sRet f P ρ S = (f P ρ S).oc ρ fun d S1 => .rt d S1 := rfl
@[simp] theorem e_retN : sRetN P ρ S = .rt (.t .non) S := rfl
@[simp] theorem e_expr (f : ME) : sExpr f P ρ S = (f P ρ S).oc ρ fun _ S1 => .nx ρ S1 := rfl
@[simp] theorem e_sif (ft : MT) (f g : MS) : sIf ft f g P ρ S = (ft P ρ S).oc ρ fun b S1 => if b then f P ρ S1 else g P ρ S1 := rfl
@[simp] theorem e_brk : sBreak P ρ S = .bk ρ S := rfl
@[simp] theorem e_cnt : sCont P ρ S = .ct ρ S := rfl
@[simp] theorem e_asg (g : MG) (f : ME) : sAsg g f P ρ S = (f P ρ S).oc ρ fun d S1 => match g d ρ with
  | some ρ1 => .nx ρ1 S1
  | none => .no := rfl
@[simp] theorem e_par2 (i j : Nat) (fs : MA) : sPar2 i j fs P ρ S = (fs P ρ S).oc ρ fun ds S1 => match ds with
  | [u, v] => .nx ((ρ.set i (some u)).set j (some v)) S1
  | _ => .no := rfl
@[simp] theorem e_par3 (i j l : Nat) (fs : MA) : sPar3 i j l fs P ρ S = (fs P ρ S).oc ρ fun ds S1 => match ds with
  | [u, v, w] => .nx (((ρ.set i (some u)).set j (some v)).set l (some w)) S1
  | _ => .no := rfl
@[simp] theorem e_put (fo fi fe : ME) : sPut fo fi fe P ρ S = (fe P ρ S).oc ρ fun v S1 => (fo P ρ S1).oc ρ fun d S2 => (fi P ρ S2).oc ρ fun i S3 => match setG d i v P S3 with
  | some S4 => .nx ρ S4
  | none => .no := rfl
@[simp] theorem e_gN (i : Nat) (d : D) : gN i d ρ = some (ρ.set i (some d)) := rfl
@[simp] theorem e_dicC : mDicC P ρ S = .ok (.ref (P.length + S.length)) (S ++ [.dic []]) := rfl
@[simp] theorem e_it (f : ME) : mIt f P ρ S = (f P ρ S).bind fun d S1 => match itemsOf P d with
  | some l => .ok l S1
  | none => .no := rfl
@[simp] theorem e_I (g : List D → Option (List D)) (f : MA) : mI g f P ρ S = (f P ρ S).bind fun ds S1 => match g ds with
  | some l => .ok l S1
  | none => .no := rfl
@[simp] theorem e_lenSet (f : ME) : mLenSet f P ρ S = (f P ρ S).bind fun d S1 => match setSrc P S1 d with
  | some xs => if (onceM xs).length + 1 < scanBound then .ok (.t (.int (onceM xs).length)) S1 else .no
  | none => .no := rfl
@[simp] theorem e_sortSet (fin : List T → List O → List O → R D) (f : ME) : mSortSet fin f P ρ S = (f P ρ S).bind fun d S1 => match setSrc P S1 d with
  | some xs => if (onceM xs).length + 1 < scanBound then fin ((sortTx (onceM xs)).map T.str) P S1 else .no
  | none => .no := rfl
@[simp] theorem e_sort (fin : List T → List O → List O → R D) (f : ME) : mSort fin f P ρ S = (f P ρ S).bind fun d S1 => match sortIn P S1 d with
  | some l => fin l P S1
  | none => .no := rfl
@[simp] theorem e_mkT (l : List T) : mkT l P S = .ok (.t (.lst l)) S := rfl
@[simp] theorem e_mkC (l : List T) : mkC l P S = .ok (.ref (P.length + S.length)) (S ++ [.lst (l.map D.t)]) := rfl
@[simp] theorem e_meth (kd : Kd) (g : FM) (fo : ME) (fs : MA) : mMeth kd g fo fs P ρ S = (fo P ρ S).bind fun d S1 => if kd d P S1 then (fs P ρ S1).bind fun ds S2 => lift (g d ds P S2) else .no := rfl
@[simp] theorem e_for (fi : MI) (g : MG) (fb : MS) : sFor fi g fb P ρ S = (fi P ρ S).oc ρ fun ds S1 => forGo g fb P ds ρ S1 := rfl
@[simp] theorem e_while (ft : MT) (fb : MS) : sWhile ft fb P ρ S = whileGo ft fb P bigN ρ S := rfl
@[simp] theorem e_lc (fin : List D → List O → List O → R D) (fi : MI) (g : MG) (vs : List Nat) (ft : MT) (fe : ME) : mLcG fin fi g vs ft fe P ρ S = (fi P ρ S).bind fun ds S1 => (lcGo g ft fe P (wipeE ρ vs) ds S1).bind fun r S2 => fin r P S2 := rfl
@[simp] theorem e_dc (fin : List (At × D) → List O → List O → R D) (fi : MI) (g : MG) (vs : List Nat) (ft : MT) (fk fv : ME) : mDcG fin fi g vs ft fk fv P ρ S = (fi P ρ S).bind fun ds S1 => (dcGo g ft fk fv P (wipeE ρ vs) ds S1 []).bind fun r S2 => fin r P S2 := rfl
@[simp] theorem e_callK (g : MF) (n m : Nat) (ix : List Nat) (fs fk : MA) : mCallK g n m ix fs fk P ρ S = (fs P ρ S).bind fun ds S1 => (fk P ρ S1).bind fun zs S2 => if ds.length = n ∧ zs.length = m then (g (pickI ix (ds ++ zs)) P S2).nx else .no := rfl
@[simp] theorem e_yes : mYes P ρ S = .ok true S := rfl
@[simp] theorem e_finT (r : List D) : finT r P S = (match trees r with | some ts => .ok (.t (.lst ts)) S | none => .no) := rfl
@[simp] theorem e_finC (r : List D) : finC r P S = .ok (.ref (P.length + S.length)) (S ++ [.lst r]) := rfl
@[simp] theorem e_wipe0 : wipeE ρ [] = ρ := rfl
@[simp] theorem e_wipe (v : Nat) (vs : List Nat) : wipeE ρ (v :: vs) = (wipeE ρ vs).set v none := rfl
theorem e_def (n : Nat) (fb : MS) (ds : List D) : mDef n fb ds P S = (match fb P (ds.map some ++ List.replicate (n - ds.length) none) S with
  | .rt d S' => .ok d S'
  | .nx _ S' => .ok (.t .non) S'
  | .ex x _ S' => .ex x S'
  | _ => .no) := rfl
@[simp] theorem nx_ok {α : Type} (a : α) : (R.ok a S).nx = .ok a S := rfl
end
@[simp] theorem szl : PySem.sizeLine = 16777216 := rfl
@[simp] theorem pick_nil {α : Type} (l : List α) : pickI [] l = [] := rfl
@[simp] theorem pick_cons {α : Type} (j : Nat) (ix : List Nat) (l : List α) : pickI (j :: ix) l = (match l[j]? with | some a => a :: pickI ix l | none => pickI ix l) := by
  unfold pickI
  rw [List.filterMap_cons]
  cases l[j]? <;> rfl
@[simp] theorem isTrueD_bl (b : Bool) : isTrueD (.t (.bl b)) = some b := rfl
@[simp] theorem addT_int (i j : Int) : addT (.int i) (.int j) = some (.int (i + j)) := rfl
@[simp] theorem subT_int (i j : Int) : subT (.int i) (.int j) = some (.int (i - j)) := rfl
@[simp] theorem negT_int (i : Int) : negT (.int i) = some (.int (-i)) := rfl
@[simp] theorem intT_int (i : Int) : intT [.int i] = some (.int i) := rfl
@[simp] theorem intT_bl (b : Bool) : intT [.bl b] = some (.int (if b then 1 else 0)) := rfl
@[simp] theorem absT_int (i : Int) : absT [.int i] = some (.int (if i < 0 then -i else i)) := rfl
@[simp] theorem max2T_int (i j : Int) : max2T [.int i, .int j] = some (.int (if j > i then j else i)) := rfl
@[simp] theorem min2T_int (i j : Int) : min2T [.int i, .int j] = some (.int (if j < i then j else i)) := rfl
@[simp] theorem lTL_one (h : List T → Option T) (x : T) (P S : List O) : lTL h [.t x] P S = (h [x]).map fun z => (.t z, S) := rfl
@[simp] theorem lTL_two (h : List T → Option T) (x y : T) (P S : List O) : lTL h [.t x, .t y] P S = (h [x, y]).map fun z => (.t z, S) := rfl
theorem addT_str {a b : Tx} (h : a.length + b.length ≤ sizeLine) : addT (.str a) (.str b) = some (.str (a ++ b)) := if_pos h
theorem mulT_int {i j : Int} (h : mulOk i j) : mulT (.int i) (.int j) = some (.int (i * j)) := if_pos h
theorem modT_int {i j : Int} (h : 0 < j) : modT (.int i) (.int j) = some (.int (i % j)) := if_pos h
theorem fdivT_int {i j : Int} (h : 0 < j) (h2 : j.natAbs < 2 ^ 4000) : fdivT (.int i) (.int j) = some (.int (i / j)) := if_pos ⟨h, h2⟩
theorem powT_int {i : Int} {n : Nat} (h : n ≤ 1000000) (h2 : i.natAbs < 2 ^ 60) : powT (.int i) (.int n) = some (.int (i ^ n)) := by
  show (if (0 : Int) ≤ n ∧ (n : Int) ≤ 1000000 ∧ i.natAbs < 2 ^ 60 then some (T.int (i ^ (n : Int).toNat)) else none) = _
  rw [if_pos ⟨by omega, by omega, h2⟩]; rfl
theorem big60 : (2 : Nat) ^ 60 = 1152921504606846976 := by decide
theorem mulOk_l {i j : Int} (h : i.natAbs < 1152921504606846976) : mulOk i j := .inl (by rw [big60]; exact h)
theorem mulOk_r {i j : Int} (h : j.natAbs < 1152921504606846976) : mulOk i j := .inr (.inl (by rw [big60]; exact h))
theorem big_lt {n : Nat} (h : n < 10 ^ 1000) : n < 2 ^ 4000 := Nat.lt_of_lt_of_le h (by
  have : (10 : Nat) ^ 1000 ≤ 16 ^ 1000 := Nat.pow_le_pow_left (by decide) _
  have e : (16 : Nat) ^ 1000 = 2 ^ 4000 := by rw [show (16 : Nat) = 2 ^ 4 from rfl, ← Nat.pow_mul]
  rw [← e]; exact this)
theorem mulOk_b {i j : Int} (h : i.natAbs < 10 ^ 1000) (h2 : j.natAbs < 10 ^ 1000) : mulOk i j := .inr (.inr ⟨big_lt h, big_lt h2⟩)
theorem big_of {n : Nat} (h : n < 10 ^ 100) : n < 10 ^ 1000 := Nat.lt_of_lt_of_le h (Nat.pow_le_pow_right (by decide) (by decide))
end Fm

/-! Pl2: loops, comprehensions, subscripts: what is known behind them. -/
namespace Fm
open PySem PySem.Spec PyProof.Rows L2
theorem lc_inv {g : MG} {ft : MT} {fe : ME} {P : List O} {ρ : En} (I : Nat → List O → Prop) (Rl : D → Prop) (K : Nat) : ∀ (ds : List D) (k : Nat) (S : List O), k + ds.length ≤ K →
    (∀ d ∈ ds, ∀ k S, k < K → I k S → ∃ ρ1 y S', g d ρ = some ρ1 ∧ ft P ρ1 S = .ok true S ∧ fe P ρ1 S = .ok y S' ∧ I (k + 1) S' ∧ Rl y) → I k S →
    ∃ ys S', lcGo g ft fe P ρ ds S = .ok ys S' ∧ I (k + ds.length) S' ∧ ys.length = ds.length ∧ ∀ y ∈ ys, Rl y
  | [], k, S, _, _, h => ⟨[], S, rfl, h, rfl, fun _ z => nomatch z⟩
  | d :: ds, k, S, hK, st, h => by
    obtain ⟨ρ1, y, S1, e1, e2, e3, h1, r1⟩ := st d List.mem_cons_self k S (by rw [List.length_cons] at hK; omega) h
    obtain ⟨ys, S2, e4, h2, hl, hr⟩ := lc_inv I Rl K ds (k + 1) S1 (by rw [List.length_cons] at hK; omega) (fun d hd => st d (List.mem_cons_of_mem _ hd)) h1
    refine ⟨y :: ys, S2, ?_, ?_, by rw [List.length_cons, hl, List.length_cons], fun z hz => ?_⟩
    · simp [lcGo, e1, e2, e3, e4, R.nx, R.bind]
    · rw [List.length_cons, show k + (ds.length + 1) = k + 1 + ds.length by omega]; exact h2
    · rcases List.mem_cons.mp hz with rfl | hz
      · exact r1
      · exact hr z hz
/-- no effect: a map -/
theorem lc_map {g : MG} {ft : MT} {fe : ME} {P : List O} {ρ : En} {S : List O} (F : D → D) : ∀ ds : List D, (∀ d ∈ ds, ∃ ρ1, g d ρ = some ρ1 ∧ ft P ρ1 S = .ok true S ∧ fe P ρ1 S = .ok (F d) S) → lcGo g ft fe P ρ ds S = .ok (ds.map F) S
  | [], _ => rfl
  | d :: ds, h => by
    obtain ⟨ρ1, e1, e2, e3⟩ := h d List.mem_cons_self
    simp [lcGo, e1, e2, e3, lc_map F ds fun d hd => h d (List.mem_cons_of_mem _ hd), R.nx, R.bind]
theorem choice_map {α β : Type} {F : α → β} {p : α → Prop} : ∀ ys : List β, (∀ y ∈ ys, ∃ x, y = F x ∧ p x) → ∃ xs : List α, ys = xs.map F ∧ ∀ x ∈ xs, p x
  | [], _ => ⟨[], rfl, fun _ h => nomatch h⟩
  | y :: ys, h => by
    obtain ⟨x, e, hx⟩ := h y List.mem_cons_self
    obtain ⟨xs, e2, hxs⟩ := choice_map ys fun z hz => h z (List.mem_cons_of_mem _ hz)
    refine ⟨x :: xs, by rw [e, e2]; rfl, fun z hz => ?_⟩
    rcases List.mem_cons.mp hz with rfl | hz
    · exact hx
    · exact hxs z hz
theorem for_inv {g : MG} {fb : MS} {P : List O} (J : Nat → En → List O → Prop) : ∀ (ds : List D) (i : Nat) (ρ : En) (S : List O),
    (∀ k d ρ S, ds[k]? = some d → J (i + k) ρ S → ∃ ρ1, g d ρ = some ρ1 ∧ ∃ ρ2 S2, (fb P ρ1 S = .nx ρ2 S2 ∨ fb P ρ1 S = .ct ρ2 S2) ∧ J (i + k + 1) ρ2 S2) → J i ρ S → ∃ ρ' S', forGo g fb P ds ρ S = .nx ρ' S' ∧ J (i + ds.length) ρ' S'
  | [], i, ρ, S, _, h => ⟨ρ, S, rfl, h⟩
  | d :: ds, i, ρ, S, st, h => by
    obtain ⟨ρ1, e1, ρ2, S2, e2, h2⟩ := st 0 d ρ S rfl h
    obtain ⟨ρ', S', e3, h3⟩ := for_inv J ds (i + 1) ρ2 S2 (fun k d ρ S hk hJ => by
      have := st (k + 1) d ρ S (by simpa using hk) (by rw [show i + (k + 1) = i + 1 + k by omega]; exact hJ)
      rw [show i + (k + 1) + 1 = i + 1 + k + 1 by omega] at this
      exact this) h2
    refine ⟨ρ', S', ?_, by rw [List.length_cons, show i + (ds.length + 1) = i + 1 + ds.length by omega]; exact h3⟩
    rcases e2 with e2 | e2 <;> simp [forGo, e1, e2, e3]
theorem while_inv {ft : MT} {fb : MS} {P : List O} (J : Nat → En → List O → Prop) (Dn : En → List O → Prop) : ∀ (n m : Nat) (ρ : En) (S : List O), m < n →
    (∀ m ρ S, J m ρ S → (∃ S1, ft P ρ S = .ok false S1 ∧ Dn ρ S1) ∨ ∃ S1 ρ2 S2, ft P ρ S = .ok true S1 ∧ fb P ρ S1 = .nx ρ2 S2 ∧ ∃ m', m' < m ∧ J m' ρ2 S2) → J m ρ S → ∃ ρ' S', whileGo ft fb P n ρ S = .nx ρ' S' ∧ Dn ρ' S'
  | 0, m, ρ, S, h, _, _ => absurd h (Nat.not_lt_zero _)
  | n + 1, m, ρ, S, h, st, hJ => by
    rcases st m ρ S hJ with ⟨S1, e1, d⟩ | ⟨S1, ρ2, S2, e1, e2, m', hm, hJ2⟩
    · exact ⟨ρ, S1, by simp [whileGo, e1, R.oc], d⟩
    · obtain ⟨ρ', S', e3, d⟩ := while_inv J Dn n m' ρ2 S2 (by omega) st hJ2
      exact ⟨ρ', S', by simp [whileGo, e1, e2, e3, R.oc], d⟩
theorem lt_bigN {m : Nat} (h : m < 10 ^ 100) : m < bigN := Nat.lt_of_lt_of_le h (Nat.pow_le_pow_right (by decide) (by decide))
theorem sub_str (P S : List O) {s : Tx} {r : Int} (h0 : 0 ≤ r) (h1 : r < s.length) : ∃ c, c ∈ s ∧ s[r.toNat]? = some c ∧ subG (.t (.str s)) (.t (.int r)) P S = some (.t (.str [c]), S) := by
  have hl : r.toNat < s.length := by omega
  refine ⟨s[r.toNat], List.getElem_mem hl, List.getElem?_eq_getElem hl, ?_⟩
  simp [subG, seqIx, L2.atI, L2.ixN, h0, h1, hl]
theorem sub_lst (P S : List O) {l : List T} {r : Int} (h0 : 0 ≤ r) (h1 : r < l.length) : ∃ x, x ∈ l ∧ l[r.toNat]? = some x ∧ subG (.t (.lst l)) (.t (.int r)) P S = some (.t x, S) := by
  have hl : r.toNat < l.length := by omega
  refine ⟨l[r.toNat], List.getElem_mem hl, List.getElem?_eq_getElem hl, ?_⟩
  simp [subG, seqIx, L2.atI, L2.ixN, h0, h1, hl]
theorem rngOf_mem {i j : Int} {d : D} (h : d ∈ rngOf i j) : ∃ k : Int, d = .t (.int k) ∧ i ≤ k ∧ k < j := by
  obtain ⟨k, hk, rfl⟩ := List.mem_map.mp h
  have := List.mem_range.mp hk
  exact ⟨_, rfl, by omega, by omega⟩
theorem rngOf_len (i j : Int) : (rngOf i j).length = (j - i).toNat := by
  unfold rngOf
  rw [List.length_map, List.length_range]
theorem rngOf_at {i j : Int} {k : Nat} {d : D} (h : (rngOf i j)[k]? = some d) : d = .t (.int (i + k)) ∧ (k : Int) < j - i := by
  unfold rngOf at h
  rw [List.getElem?_map] at h
  cases e : (List.range (j - i).toNat)[k]? with
  | none => rw [e] at h; cases h
  | some x =>
    rw [e] at h
    cases h
    obtain ⟨h1, h2⟩ := List.getElem?_eq_some_iff.mp e
    rw [List.length_range] at h1
    rw [List.getElem_range] at h2
    exact ⟨by rw [h2], by omega⟩
theorem rng1_ok {j : Int} (h : -(2 ^ 62) ≤ j ∧ j ≤ 16777216) : rng1Of [.t (.int j)] = some (rngOf 0 j) := if_pos h
theorem join_one (cs : List Nat) : joinTx [] (cs.map fun c => [c]) = cs := by
  induction cs with
  | nil => rfl
  | cons c r ih =>
    cases r with
    | nil => rfl
    | cons d r =>
      rw [List.map_cons, List.map_cons, joinTx]
      rw [List.map_cons] at ih
      rw [ih]; rfl
theorem join_ok (P S : List O) (cs : List Nat) (h : cs.length ≤ 16777216) : joinG (.t (.str [])) [.t (.lst (cs.map fun c => T.str [c]))] P S = some (.t (.str cs), S) := by
  have e : strsOf (cs.map fun c => T.str [c]) = some (cs.map fun c => [c]) := strsOf_mapf (fun c => [c]) cs
  have hl : ((cs.map fun c => [c]).map List.length).sum = cs.length := by
    clear h e
    induction cs with
    | nil => rfl
    | cons c r ih => rw [List.map_cons, List.map_cons, List.sum_cons, ih, List.length_cons]; simp; omega
  unfold joinG
  simp only [e, hl]
  rw [if_pos (show cs.length + (cs.map fun c => [c]).length * ([] : Tx).length ≤ sizeLine by simp; exact h), join_one]
theorem cutL_mem {α : Type} {l : List α} {a b : Option Int} {x : α} (h : x ∈ cutL l a b) : x ∈ l := List.mem_of_mem_drop (List.mem_of_mem_take h)
theorem sIx_pos {n d : Nat} {i : Int} (h : 0 ≤ i) : HT.sIx n d (some i) = min i.toNat n := by
  obtain ⟨k, rfl⟩ : ∃ k : Nat, i = k := ⟨i.toNat, by omega⟩
  exact HT.sIx_nat n d k
theorem cutL_to {α : Type} (l : List α) {j : Int} (h : 0 ≤ j) : cutL l none (some j) = l.take j.toNat := by
  unfold cutL
  rw [HT.sIx_none, sIx_pos h, List.drop_zero, Nat.sub_zero]
  by_cases c : j.toNat ≤ l.length
  · rw [Nat.min_eq_left c]
  · rw [Nat.min_eq_right (by omega), List.take_of_length_le (Nat.le_refl _), List.take_of_length_le (by omega)]
theorem cutL_mid {α : Type} (l : List α) {i j : Int} (hi : 0 ≤ i) (h : 0 ≤ j) : cutL l (some i) (some j) = (l.drop i.toNat).take (j.toNat - i.toNat) := by
  unfold cutL
  rw [sIx_pos hi, sIx_pos h]
  by_cases c1 : i.toNat ≤ l.length
  · rw [Nat.min_eq_left c1]
    by_cases c : j.toNat ≤ l.length
    · rw [Nat.min_eq_left c]
    · rw [Nat.min_eq_right (by omega), List.take_of_length_le (by rw [List.length_drop]; omega), List.take_of_length_le (by rw [List.length_drop]; omega)]
  · rw [Nat.min_eq_right (by omega : l.length ≤ i.toNat), List.drop_of_length_le (Nat.le_refl _), List.drop_of_length_le (by omega)]
    simp
theorem cutL_from {α : Type} (l : List α) {i : Int} (hi : 0 ≤ i) : cutL l (some i) none = l.drop i.toNat := by
  unfold cutL
  rw [sIx_pos hi, HT.sIx_none]
  by_cases c1 : i.toNat ≤ l.length
  · rw [Nat.min_eq_left c1, List.take_of_length_le (by rw [List.length_drop]; omega)]
  · rw [Nat.min_eq_right (by omega : l.length ≤ i.toNat), List.drop_of_length_le (Nat.le_refl _), List.drop_of_length_le (by omega)]
    simp
@[simp] theorem cs_nil : cs "" = [] := rfl
theorem trees_mapF {α : Type} (F : α → T) (l : List α) : trees (l.map fun x => D.t (F x)) = some (l.map F) := by
  have := trees_map (l.map F)
  rw [List.map_map] at this
  exact this
/-! ### calls seen from without -/
theorem pureZ_t {g : MF} {ds : List D} {P S S' : List O} {x : T} (h : g ds (P ++ S) [] = .ok (.t x) S') : pureZ g ds P S = .ok (.t x) S := by
  simp [pureZ, h, frzD]
theorem newF_l {g : MF} {ds : List D} {P S S' : List O} {l : List D} {ts : List T} {i : Nat} (h : g ds (P ++ S) [] = .ok (.ref i) S') (hi : (P ++ S).length ≤ i) (hS : S'[i - (P ++ S).length]? = some (.lst l)) (ht : trees l = some ts) : newF g ds P S = .ok (.ref (P.length + S.length)) (S ++ [.lst l]) := by
  unfold newF
  rw [h]
  simp only
  rw [if_pos hi, hS]
  simp only [ht]
/-! ### letters -/
@[simp] theorem isi_tree (x : T) (n : String) (P S : List O) : isiG [.t x, .t (.ty n)] P S = (if x.plain then (isiB x n).map T.bl else none).map fun z => (.t z, S) := rfl
theorem isi_cellL {P S : List O} {i : Nat} {l : List D} (h : (P ++ S)[i]? = some (.lst l)) : isiG [.ref i, .t (.ty "list")] P S = some (.t (.bl true), S) := by
  unfold isiG
  simp only [h]
  rfl
theorem isi_cellT {P S : List O} {i : Nat} {l : List D} (h : (P ++ S)[i]? = some (.lst l)) : isiG [.ref i, .t (.ty "tuple")] P S = some (.t (.bl false), S) := by
  unfold isiG
  simp only [h]
  rfl
@[simp] theorem len_str (s : Tx) (P S : List O) : lenG [.t (.str s)] P S = some (.t (.int s.length), S) := rfl
@[simp] theorem len_lst (l : List T) (P S : List O) : lenG [.t (.lst l)] P S = some (.t (.int l.length), S) := rfl
@[simp] theorem len_scr (l : List Int) (P S : List O) : lenG [.t (.scr l)] P S = some (.t (.int l.length), S) := rfl
@[simp] theorem len_tup (l : List T) (P S : List O) : lenG [.t (.tup l)] P S = some (.t (.int l.length), S) := rfl
theorem len_cell {P S : List O} {i : Nat} {l : List D} (h : (P ++ S)[i]? = some (.lst l)) : lenG [.ref i] P S = some (.t (.int l.length), S) := by
  unfold lenG
  simp only [h]
@[simp] theorem isiB_lst (l : List T) (n : String) : isiB (.lst l) "list" = some true := rfl
@[simp] theorem plain_str (s : Tx) : (T.str s).plain = true := rfl
@[simp] theorem plain_int (i : Int) : (T.int i).plain = true := rfl
@[simp] theorem plain_bl (i : Bool) : (T.bl i).plain = true := rfl
@[simp] theorem plain_non : T.non.plain = true := rfl
@[simp] theorem plain_lst (l : List T) : (T.lst l).plain = T.plains l := rfl
@[simp] theorem plain_tup (l : List T) : (T.tup l).plain = T.plains l := rfl
/-! ### sets of texts -/
theorem nodup_sort {a b : List Tx} (ha : a.Nodup) (hb : b.Nodup) (h : ∀ x, x ∈ a ↔ x ∈ b) : sortTx a = sortTx b := sortTx_of_perm ((List.perm_ext_iff_of_nodup ha hb).mpr h)
/-- the texts of a list, ascending, each once -/
def setTx (l : List Tx) : List Tx := sortTx (onceM l)
theorem setTx_of {a l : List Tx} (ha : a.Nodup) (h : ∀ x, x ∈ a ↔ x ∈ l) : sortTx a = setTx l := nodup_sort ha (onceM_nodup l) fun x => (h x).trans (onceM_mem x l).symm
/-- a dict whose keys are the texts a, in this sequence -/
def KeysTx (d : List (At × D)) (a : List Tx) : Prop := d.map (·.1) = a.map At.str
theorem putD_keys {d : List (At × D)} {a : List Tx} (h : KeysTx d a) (k : Tx) (v : D) : KeysTx (putD d (.str k) v) (if k ∈ a then a else a ++ [k]) := by
  unfold KeysTx at h ⊢
  have hm : (d.any fun p => decide (p.1 = At.str k)) = true ↔ k ∈ a := by
    rw [List.any_eq_true]
    constructor
    · rintro ⟨p, hp, e⟩
      have e := of_decide_eq_true e
      have : p.1 ∈ a.map At.str := by rw [← h]; exact List.mem_map_of_mem hp
      rw [e] at this
      obtain ⟨x, hx, ex⟩ := List.mem_map.mp this
      cases ex
      exact hx
    · intro hk
      have : At.str k ∈ d.map (·.1) := by rw [h]; exact List.mem_map_of_mem hk
      obtain ⟨p, hp, e⟩ := List.mem_map.mp this
      exact ⟨p, hp, decide_eq_true e⟩
  unfold putD
  by_cases c : k ∈ a
  · rw [if_pos c, if_pos (hm.mpr c), ← h, List.map_map]
    apply List.map_congr_left
    intro p _
    simp only [Function.comp]
    split
    · rfl
    · rfl
  · rw [if_neg c, if_neg (fun z => c (hm.mp z)), List.map_append, List.map_append, h]
    rfl
theorem keys_nodup {a : List Tx} (h : a.Nodup) (k : Tx) : (if k ∈ a then a else a ++ [k]).Nodup := by
  split
  · exact h
  · rename_i c
    rw [List.nodup_append]
    refine ⟨h, by simp, fun x hx y hy => ?_⟩
    rw [List.mem_singleton.mp hy]
    rintro rfl
    exact c hx
theorem keys_mem (a : List Tx) (k x : Tx) : x ∈ (if k ∈ a then a else a ++ [k]) ↔ x ∈ a ∨ x = k := by
  split
  · rename_i c
    constructor
    · exact .inl
    · rintro (h | rfl)
      · exact h
      · exact c
  · simp
/-- {x: v for x in texts} -/
theorem dc_keys {ft : MT} {fk fv : ME} {g : MG} {P : List O} {ρ : En} {S : List O} : ∀ (l : List Tx) (acc : List (At × D)) (a : List Tx), KeysTx acc a → a.Nodup →
    (∀ x ∈ l, ∃ ρ1 v, g (.t (.str x)) ρ = some ρ1 ∧ ft P ρ1 S = .ok true S ∧ fk P ρ1 S = .ok (.t (.str x)) S ∧ fv P ρ1 S = .ok (.t v) S) → (∀ p ∈ acc, ∃ x, p.2 = D.t x) →
    ∃ (d : List (At × D)) (b : List Tx), dcGo g ft fk fv P ρ (l.map fun x => D.t (.str x)) S acc = .ok d S ∧ KeysTx d b ∧ b.Nodup ∧ (∀ x, x ∈ b ↔ x ∈ a ∨ x ∈ l) ∧ ∀ p ∈ d, ∃ x, p.2 = D.t x
  | [], acc, a, h, n, _, ht => ⟨acc, a, rfl, h, n, fun x => by simp, ht⟩
  | x :: l, acc, a, h, n, st, ht => by
    obtain ⟨ρ1, v, e1, e2, e3, e4⟩ := st x List.mem_cons_self
    obtain ⟨d, b, e5, h5, n5, m5, t5⟩ := dc_keys l (putD acc (.str x) (.t v)) _ (putD_keys h x (.t v)) (keys_nodup n x) (fun y hy => st y (List.mem_cons_of_mem _ hy)) (fun p hp => by
      unfold putD at hp
      split at hp
      · obtain ⟨q, hq, rfl⟩ := List.mem_map.mp hp
        split
        · exact ⟨_, rfl⟩
        · exact ht q hq
      · rcases List.mem_append.mp hp with hp | hp
        · exact ht p hp
        · rw [List.mem_singleton.mp hp]; exact ⟨_, rfl⟩)
    refine ⟨d, b, ?_, h5, n5, fun y => ?_, t5⟩
    · simp [dcGo, e1, e2, e3, e4, R.nx, R.bind, T.at, e5]
    · rw [m5, keys_mem, List.mem_cons]
      constructor
      · rintro ((z | z) | z)
        · exact .inl z
        · exact .inr (.inl z)
        · exact .inr (.inr z)
      · rintro (z | z | z)
        · exact .inl (.inl z)
        · exact .inl (.inr z)
        · exact .inr z
theorem treesK_of : ∀ {d : List (At × D)}, (∀ p ∈ d, ∃ x, p.2 = D.t x) → ∃ ts, treesK d = some ts ∧ ts.map (·.1) = d.map (·.1)
  | [], _ => ⟨[], rfl, rfl⟩
  | (k, v) :: d, h => by
    obtain ⟨x, e⟩ := h _ List.mem_cons_self
    have e : v = .t x := e
    subst e
    obtain ⟨ts, e1, e2⟩ := treesK_of fun p hp => h p (List.mem_cons_of_mem _ hp)
    exact ⟨(k, x) :: ts, by rw [treesK, e1]; rfl, by rw [List.map_cons, List.map_cons, e2]⟩
theorem keys_tr {α : Type} {d : List (At × α)} {a : List Tx} (h : d.map (·.1) = a.map At.str) : (d.map fun p => p.1.tr) = a.map T.str := by
  have : (d.map fun p => p.1.tr) = (d.map (·.1)).map At.tr := by rw [List.map_map]; rfl
  rw [this, h, List.map_map]; rfl
open Classical in
theorem sort_dic {P S : List O} {d : List (At × T)} {a : List Tx} (h : d.map (·.1) = a.map At.str) : sortIn P S (.t (.dic d)) = some ((sortTx a).map T.str) := by
  have ok := sortOk_strs a
  have e := keys_tr h
  unfold sortIn
  simp only
  rw [e, if_pos ok, sortL_str]
open Classical in
theorem sort_cell {P S : List O} {d : List (At × D)} {a : List Tx} {i : Nat} (hi : (P ++ S)[i]? = some (.dic d)) (h : d.map (·.1) = a.map At.str) : sortIn P S (.ref i) = some ((sortTx a).map T.str) := by
  have ok := sortOk_strs a
  have e := keys_tr h
  unfold sortIn
  simp only [hi]
  rw [e, if_pos ok, sortL_str]
/-- the steps of z signs of a text -/
def stepsTx (z : Nat) (s : Tx) : List Tx := (List.range (s.length + 1 - z)).map fun i => (s.drop i).take z
theorem isi_strs (l : List Tx) : T.plains (l.map T.str) = true := by simp [T.plain]
theorem strs_at' {ws : List Tx} {k : Nat} {P S : List O} (h : k < ws.length) : subG (.t (.lst (ws.map T.str))) (.t (.int k)) P S = some (.t (.str (ws[k]'h)), S) := by
  obtain ⟨x, _, x2, x3⟩ := sub_lst P S (l := ws.map T.str) (r := k) (by omega) (by simp; exact h)
  rw [x3]
  simp [h] at x2
  rw [← x2]
theorem cell_at' {ws : List Tx} {k i : Nat} {P S : List O} (hi : (P ++ S)[i]? = some (.lst (ws.map fun x => D.t (.str x)))) (h : k < ws.length) : subG (.ref i) (.t (.int k)) P S = some (.t (.str (ws[k]'h)), S) := by
  have e : seqIx P S (.ref i) (k : Int) = some (.t (.str (ws[k]'h))) := by
    simp [seqIx, hi, L2.atI, L2.ixN, h]
  simp [subG, e]
end Fm

/-! Pl3: plain rules for FmD, FmE, FmG. -/
namespace Fm
open PySem PySem.Spec PyProof.Rows L2
section
variable (P : List O) (ρ : En) (S : List O)
@[simp] theorem e_get2 (fo fk fx : ME) : mGet2 fo fk fx P ρ S = (fo P ρ S).bind fun d S1 => if isDic d P S1 then (fk P ρ S1).bind fun k S2 => (fx P ρ S2).bind fun x S3 => match k with
  | .ref _ => .no
  | .t k => match dGet P S3 d k with
    | some r => .ok (r.getD x) S3
    | none => .no
  else .no := rfl
@[simp] theorem e_dic1 (fin : List (At × D) → List O → List O → R D) (fk fv : ME) : mDic1 fin fk fv P ρ S = (fk P ρ S).nx.bind fun k S1 => (fv P ρ S1).nx.bind fun y S2 => match k with
  | .ref _ => .no
  | .t k => match k.at with
    | some k => fin [(k, y)] P S2
    | none => .no := rfl
@[simp] theorem e_dicZ (neg : Bool) (fa : ME) : mDicZ neg fa P ρ S = (fa P ρ S).bind fun d S1 => match dLen P S1 d with
  | some n => .ok (.t (.bl (neg ^^ (n == 0)))) S1
  | none => .no := rfl
@[simp] theorem e_forK (i : Nat) (g : MG) (fb : MS) : sForK i g fb P ρ S = (match ρ[i]? with
  | some (some (.t (.dic l))) => if l.length ≤ sizeLine then (forGo g fb P (keysD l) ρ S).noex else .no
  | _ => .no) := rfl
@[simp] theorem e_frz (i : Nat) : sFrz i P ρ S = (match ρ[i]? with
  | some (some d) => match frzD P d S with
    | some (d', S') => .nx (ρ.set i (some d')) S'
    | none => .no
  | _ => .no) := rfl
@[simp] theorem e_frzZ (z : FZ) (i : Nat) : sFrzZ z i P ρ S = (match ρ[i]? with
  | some (some d) => match z P d S with
    | some (d', S') => .nx (ρ.set i (some d')) S'
    | none => .no
  | _ => .no) := rfl
@[simp] theorem e_augI (i : Nat) (f : Int → Int → Int) (fe : ME) : sAugI i f fe P ρ S = (match ρ[i]? with
  | some (some (.t (.int x))) => (fe P ρ S).oc ρ fun y S1 => match y with
    | .t (.int y) => .nx (ρ.set i (some (.t (.int (f x y))))) S1
    | _ => .no
  | _ => .no) := rfl
@[simp] theorem e_finDC (r : List (At × D)) : finDC r P S = .ok (.ref (P.length + S.length)) (S ++ [.dic r]) := rfl
@[simp] theorem e_finD (r : List (At × D)) : finD r P S = (match treesK r with | some ts => .ok (.t (.dic ts)) S | none => .no) := rfl
end
@[simp] theorem min2X_int (i j : Int) : min2X [.int i, .int j] = some (.int (if j < i then j else i)) := rfl
@[simp] theorem min2X_str (i j : Tx) : min2X [.str i, .str j] = some (.str (if j < i then j else i)) := rfl
end Fm

/-! Pl4: loops that may return. -/
namespace Fm
open PySem PySem.Spec PyProof.Rows L2
theorem for_ret {g : MG} {fb : MS} {P : List O} (J : Nat → En → List O → Prop) (Dn : D → List O → Prop) : ∀ (ds : List D) (i : Nat) (ρ : En) (S : List O),
    (∀ k d ρ S, ds[k]? = some d → J (i + k) ρ S → ∃ ρ1, g d ρ = some ρ1 ∧ ((∃ ρ2 S2, fb P ρ1 S = .nx ρ2 S2 ∧ J (i + k + 1) ρ2 S2) ∨ ∃ r S2, fb P ρ1 S = .rt r S2 ∧ Dn r S2)) → J i ρ S →
    (∃ ρ' S', forGo g fb P ds ρ S = .nx ρ' S' ∧ J (i + ds.length) ρ' S') ∨ ∃ r S', forGo g fb P ds ρ S = .rt r S' ∧ Dn r S'
  | [], i, ρ, S, _, h => .inl ⟨ρ, S, rfl, h⟩
  | d :: ds, i, ρ, S, st, h => by
    obtain ⟨ρ1, e1, h2⟩ := st 0 d ρ S rfl h
    rcases h2 with ⟨ρ2, S2, e2, h2⟩ | ⟨r, S2, e2, h2⟩
    · rcases for_ret J Dn ds (i + 1) ρ2 S2 (fun k d ρ S hk hJ => by
        have := st (k + 1) d ρ S (by simpa using hk) (by rw [show i + (k + 1) = i + 1 + k by omega]; exact hJ)
        rw [show i + (k + 1) + 1 = i + 1 + k + 1 by omega] at this
        exact this) h2 with ⟨ρ', S', e3, h3⟩ | ⟨r, S', e3, h3⟩
      · refine .inl ⟨ρ', S', by simp [forGo, e1, e2, e3], ?_⟩
        rw [List.length_cons, show i + (ds.length + 1) = i + 1 + ds.length by omega]; exact h3
      · exact .inr ⟨r, S', by simp [forGo, e1, e2, e3], h3⟩
    · exact .inr ⟨r, S2, by simp [forGo, e1, e2], h2⟩
theorem while_ret {ft : MT} {fb : MS} {P : List O} (J : Nat → En → List O → Prop) (Dn : En → List O → Prop) (Rn : D → List O → Prop) : ∀ (n m : Nat) (ρ : En) (S : List O), m < n →
    (∀ m ρ S, J m ρ S → (∃ S1, ft P ρ S = .ok false S1 ∧ Dn ρ S1) ∨ ∃ S1, ft P ρ S = .ok true S1 ∧ ((∃ ρ2 S2, fb P ρ S1 = .nx ρ2 S2 ∧ ∃ m', m' < m ∧ J m' ρ2 S2) ∨ ∃ r S2, fb P ρ S1 = .rt r S2 ∧ Rn r S2)) → J m ρ S →
    (∃ ρ' S', whileGo ft fb P n ρ S = .nx ρ' S' ∧ Dn ρ' S') ∨ ∃ r S', whileGo ft fb P n ρ S = .rt r S' ∧ Rn r S'
  | 0, m, ρ, S, h, _, _ => absurd h (Nat.not_lt_zero _)
  | n + 1, m, ρ, S, h, st, hJ => by
    rcases st m ρ S hJ with ⟨S1, e1, d⟩ | ⟨S1, e1, ⟨ρ2, S2, e2, m', hm, hJ2⟩ | ⟨r, S2, e2, hr⟩⟩
    · exact .inl ⟨ρ, S1, by simp [whileGo, e1, R.oc], d⟩
    · rcases while_ret J Dn Rn n m' ρ2 S2 (by omega) st hJ2 with ⟨ρ', S', e3, d⟩ | ⟨r, S', e3, d⟩
      · exact .inl ⟨ρ', S', by simp [whileGo, e1, e2, e3, R.oc], d⟩
      · exact .inr ⟨r, S', by simp [whileGo, e1, e2, e3, R.oc], d⟩
    · exact .inr ⟨r, S2, by simp [whileGo, e1, e2, R.oc], hr⟩
theorem len_dcell {P S : List O} {i : Nat} {l : List (At × D)} (h : (P ++ S)[i]? = some (.dic l)) : lenG [.ref i] P S = some (.t (.int l.length), S) := by
  unfold lenG
  simp only [h]
@[simp] theorem len_dic (l : List (At × T)) (P S : List O) : lenG [.t (.dic l)] P S = some (.t (.int l.length), S) := rfl
theorem eqV_cell {neg : Bool} {P S : List O} {i : Nat} {ws : List Tx} (h : (P ++ S)[i]? = some (.lst (ws.map fun x => D.t (.str x)))) : eqVG neg (.ref i) (.t (.lst [])) P S = some (.t (.bl (neg ^^ decide (ws = []))), S) := by
  have e1 : viewT P S (.ref i) = some (.lst (ws.map T.str)) := by
    unfold viewT
    simp only [h]
    rw [trees_mapF T.str ws]; rfl
  have hl : (T.lst (ws.map T.str)).low = true := by
    unfold T.low
    apply decide_eq_true
    show (PySem.PyData.list (T.pds (ws.map T.str))).depth ≤ 40
    rw [pds_map]
    have := depth_strs ws
    have e : (ws.map fun x => (T.str x).pd) = ws.map fun y => PySem.PyData.str (sv y) := rfl
    rw [e]
    simp only [PySem.PyData.depth]
    omega
  unfold eqVG
  rw [e1]
  show (if (T.lst (ws.map T.str)).plain && (T.lst []).plain && (T.lst (ws.map T.str)).low then _ else _) = _
  rw [hl, show (T.lst (ws.map T.str)).plain = true from isi_strs ws]
  show some (D.t (T.bl (neg ^^ T.eqv _ _)), S) = _
  cases ws <;> rfl
end Fm

/-! Df: a def that returns -/
namespace Fm
open PySem PySem.Spec PyProof.Rows L2
theorem def_rt {n : Nat} {fb : MS} {ds : List D} {P S S' : List O} {d : D} (h : fb P (ds.map some ++ List.replicate (n - ds.length) none) S = .rt d S') : mDef n fb ds P S = .ok d S' := by
  rw [e_def, h]
theorem set_ok {i : Nat} {f : ME} {P : List O} {ρ : En} {S S' : List O} {d : D} (h : f P ρ S = .ok d S') : sSet i f P ρ S = .nx (ρ.set i (some d)) S' := by
  rw [e_set, h]; rfl
theorem ret_ok {f : ME} {P : List O} {ρ : En} {S S' : List O} {d : D} (h : f P ρ S = .ok d S') : sRet f P ρ S = .rt d S' := by
  rw [e_ret, h]; rfl
theorem for_ok {fi : MI} {g : MG} {fb : MS} {P : List O} {ρ : En} {S S1 : List O} {ds : List D} {r : Oc} (h : fi P ρ S = .ok ds S1) (h2 : forGo g fb P ds ρ S1 = r) : sFor fi g fb P ρ S = r := by
  rw [e_for, h]; exact h2
theorem if_nx {ft : MT} {f g : MS} {P : List O} {ρ : En} {S S1 : List O} {b : Bool} {r : Oc} (h : ft P ρ S = .ok b S1) (h2 : (if b then f P ρ S1 else g P ρ S1) = r) : sIf ft f g P ρ S = r := by
  rw [e_sif, h]; exact h2
theorem seq_rt {a b : MS} {P : List O} {ρ : En} {S S' : List O} {d : D} (h : a P ρ S = .rt d S') : sSeq a b P ρ S = .rt d S' := by
  rw [e_seq, h]; rfl
theorem seq_nx' {a b : MS} {P : List O} {ρ ρ' : En} {S S' : List O} {r : Oc} (h : a P ρ S = .nx ρ' S') (h2 : b P ρ' S' = r) : sSeq a b P ρ S = r := by
  rw [e_seq, h]; exact h2
@[simp] theorem e_forS (f : T → Option (List D)) (i : Nat) (g : MG) (fb : MS) (P : List O) (ρ : En) (S : List O) : sForS f i g fb P ρ S = (match ρ[i]? with
  | some (some (.t x)) => match f x with
    | some l => (forGo g fb P l ρ S).noex
    | none => .no
  | _ => .no) := rfl
@[simp] theorem e_dit1 (fk fv : ME) (P : List O) (ρ : En) (S : List O) : mDit1 fk fv P ρ S = (fk P ρ S).nx.bind fun k S1 => (fv P ρ S1).nx.bind fun y S2 => match k with
  | .ref _ => .no
  | .t k => match k.tat with
    | some ks => .ok (.ref (P.length + S2.length)) (S2 ++ [.dit [(ks, y)]])
    | none => .no := rfl
@[simp] theorem e_forC (i : Nat) (g : MG) (fb : MS) (P : List O) (ρ : En) (S : List O) : sForC i g fb P ρ S = (match ρ[i]? with
  | some (some (.ref j)) => match (P ++ S)[j]? with
    | some (.lst l) => forCo g fb P j l l ρ S
    | _ => .no
  | _ => .no) := rfl
theorem for_invC {g : MG} {fb : MS} {P : List O} {j : Nat} {l : List D} (J : Nat → En → List O → Prop) (hj : ∀ k ρ S, J k ρ S → (P ++ S)[j]? = some (.lst l)) : ∀ (ds : List D) (i : Nat) (ρ : En) (S : List O),
    (∀ k d ρ S, ds[k]? = some d → J (i + k) ρ S → ∃ ρ1, g d ρ = some ρ1 ∧ ∃ ρ2 S2, (fb P ρ1 S = .nx ρ2 S2 ∨ fb P ρ1 S = .ct ρ2 S2) ∧ J (i + k + 1) ρ2 S2) → J i ρ S → ∃ ρ' S', forCo g fb P j l ds ρ S = .nx ρ' S' ∧ J (i + ds.length) ρ' S'
  | [], i, ρ, S, _, h => ⟨ρ, S, rfl, h⟩
  | d :: ds, i, ρ, S, st, h => by
    obtain ⟨ρ1, e1, ρ2, S2, e2, h2⟩ := st 0 d ρ S rfl h
    obtain ⟨ρ', S', e3, h3⟩ := for_invC J hj ds (i + 1) ρ2 S2 (fun k d ρ S hk hJ => by
      have := st (k + 1) d ρ S (by simpa using hk) (by rw [show i + (k + 1) = i + 1 + k by omega]; exact hJ)
      rw [show i + (k + 1) + 1 = i + 1 + k + 1 by omega] at this
      exact this) h2
    refine ⟨ρ', S', ?_, by rw [List.length_cons, show i + (ds.length + 1) = i + 1 + ds.length by omega]; exact h3⟩
    have hq := hj _ _ _ h2
    rcases e2 with e2 | e2 <;> (unfold forCo; simp only [e1, e2, hq, if_true]; exact e3)
@[simp] theorem e_par4 (i j l m : Nat) (fs : MA) (P : List O) (ρ : En) (S : List O) : sPar4 i j l m fs P ρ S = (fs P ρ S).oc ρ fun ds S1 => match ds with
  | [u, v, w, x] => .nx ((((ρ.set i (some u)).set j (some v)).set l (some w)).set m (some x)) S1
  | _ => .no := rfl
theorem keep_ok {g : MF} {ds : List D} {P S S1 X : List O} {x : T} (h : g ds P S = .ok (.t x) (S1 ++ X)) (hl : S1.length = S.length) (hf : S1.all O.flat = true) : keepF g ds P S = .ok (.t x) S1 := by
  unfold keepF
  rw [h]
  simp only
  rw [← hl, List.take_left' rfl, if_pos ⟨by rw [List.length_append]; omega, hf⟩]
theorem last2_ok {g : MF} {ds : List D} {S S' : List O} {a b : O} {d : D} (h : g ds S [a, b] = .ok d S') : last2F g ds [] (S ++ [a, b]) = .ok d (S ++ S') := by
  unfold last2F
  simp [h]
end Fm

/-! Tm: rules as terms; depth of trees; great letters -/
namespace Fm
open PySem PySem.Spec PyProof.Rows L2
section
variable {P : List O} {ρ : En} {S S1 S2 S3 S4 : List O}
theorem x_cons {f : ME} {g : MA} {d : D} {ds : List D} (h1 : f P ρ S = .ok d S1) (h2 : g P ρ S1 = .ok ds S2) : mCons f g P ρ S = .ok (d :: ds) S2 := by
  rw [e_cons, h1, R.bind_ok, h2, R.bind_ok]
theorem x_call {g : MF} {fs : MA} {ds : List D} {d : D} (h1 : fs P ρ S = .ok ds S1) (h2 : g ds P S1 = .ok d S2) : mCall g fs P ρ S = .ok d S2 := by
  rw [e_call, h1, R.bind_ok, h2, nx_ok]
theorem x_op2 {g : F2} {fa fb : ME} {x y d : D} (ha : fa P ρ S = .ok x S1) (hb : fb P ρ S1 = .ok y S2) (h : g x y P S2 = some (d, S3)) : mOp2 g fa fb P ρ S = .ok d S3 := by
  rw [e_op2, ha, R.bind_ok, hb, R.bind_ok, h, lift_some]
theorem x_T2 {g : T → T → Option T} {fa fb : ME} {x y v : T} (ha : fa P ρ S = .ok (.t x) S1) (hb : fb P ρ S1 = .ok (.t y) S2) (h : g x y = some v) : mOp2 (lT2 g) fa fb P ρ S = .ok (.t v) S2 :=
  x_op2 ha hb (by rw [lT2_t, h]; rfl)
theorem x_neg {f : ME} {i : Int} (h : f P ρ S = .ok (.t (.int i)) S1) : mOp1 (lT1 negT) f P ρ S = .ok (.t (.int (-i))) S1 := by
  rw [e_op1, h, R.bind_ok, lT1_t, negT_int]; rfl
theorem x_tup {fs : MA} {ts : List T} (h : fs P ρ S = .ok (ts.map D.t) S1) (hl : ts.length ≤ 16777216) : mTup fs P ρ S = .ok (.t (.tup ts)) S1 := by
  rw [e_tup, h, R.bind_ok, trees_map]; exact if_pos (by rw [szl]; exact hl)
theorem x_lst {fs : MA} {ts : List T} (h : fs P ρ S = .ok (ts.map D.t) S1) (hl : ts.length ≤ 16777216) : mLst fs P ρ S = .ok (.t (.lst ts)) S1 := by
  rw [e_lst, h, R.bind_ok, trees_map]; exact if_pos (by rw [szl]; exact hl)
theorem x_B {g : FL} {fs : MA} {ds : List D} {d : D} (h : fs P ρ S = .ok ds S1) (hg : g ds P S1 = some (d, S2)) : mCallB g fs P ρ S = .ok d S2 := by
  rw [e_callB, h, R.bind_ok, hg, lift_some]
theorem x_B1 {h : List T → Option T} {f : ME} {x v : T} (hf : f P ρ S = .ok (.t x) S1) (hg : h [x] = some v) : mCallB (lTL h) (mCons f mNil) P ρ S = .ok (.t v) S1 :=
  x_B (x_cons hf rfl) (by rw [lTL_one, hg]; rfl)
theorem x_B2 {h : List T → Option T} {f g : ME} {x y v : T} (hf : f P ρ S = .ok (.t x) S1) (hg' : g P ρ S1 = .ok (.t y) S2) (hg : h [x, y] = some v) : mCallB (lTL h) (mCons f (mCons g mNil)) P ρ S = .ok (.t v) S2 :=
  x_B (x_cons hf (x_cons hg' rfl)) (by rw [lTL_two, hg]; rfl)
theorem x_slT {f : ME} {l : List T} {lo hi : Option ME} {i j : Option Int} (h : f P ρ S = .ok (.t (.tup l)) S1) (hl : mPart lo P ρ S1 = .ok i S2) (hh : mPart hi P ρ S2 = .ok j S3) : mSl f lo hi P ρ S = .ok (.t (.tup (cutL l i j))) S3 := by
  rw [e_sl, h, R.bind_ok, hl, R.bind_ok, hh, R.bind_ok]
theorem x_slL {f : ME} {l : List T} {lo hi : Option ME} {i j : Option Int} (h : f P ρ S = .ok (.t (.lst l)) S1) (hl : mPart lo P ρ S1 = .ok i S2) (hh : mPart hi P ρ S2 = .ok j S3) : mSl f lo hi P ρ S = .ok (.t (.lst (cutL l i j))) S3 := by
  rw [e_sl, h, R.bind_ok, hl, R.bind_ok, hh, R.bind_ok]
theorem x_slS {f : ME} {l : Tx} {lo hi : Option ME} {i j : Option Int} (h : f P ρ S = .ok (.t (.str l)) S1) (hl : mPart lo P ρ S1 = .ok i S2) (hh : mPart hi P ρ S2 = .ok j S3) : mSl f lo hi P ρ S = .ok (.t (.str (cutL l i j))) S3 := by
  rw [e_sl, h, R.bind_ok, hl, R.bind_ok, hh, R.bind_ok]
theorem x_part {f : ME} {i : Int} (h : f P ρ S = .ok (.t (.int i)) S1) : mPart (some f) P ρ S = .ok (some i) S1 := by
  rw [e_partS, h]; rfl
theorem x_revT {f : ME} {l : List T} (h : f P ρ S = .ok (.t (.tup l)) S1) : mRevT f P ρ S = .ok (.t (.tup l.reverse)) S1 := by
  unfold mRevT; rw [h]; rfl
theorem x_meth {kd : Kd} {g : FM} {fo : ME} {fs : MA} {d r : D} {ds : List D} (h : fo P ρ S = .ok d S1) (k : kd d P S1 = true) (ha : fs P ρ S1 = .ok ds S2) (hg : g d ds P S2 = some (r, S3)) : mMeth kd g fo fs P ρ S = .ok r S3 := by
  rw [e_meth, h, R.bind_ok, if_pos k, ha, R.bind_ok, hg, lift_some]
theorem x_Tt {f : ME} {b : Bool} (h : f P ρ S = .ok (.t (.bl b)) S1) : mT f P ρ S = .ok b S1 := by
  rw [e_T, h]; rfl
theorem x_Bt {f : ME} {b : Bool} (h : f P ρ S = .ok (.t (.bl b)) S1) : mB f P ρ S = .ok b S1 := by
  rw [e_B, h]; rfl
theorem x_notT {f : MT} {b : Bool} (h : f P ρ S = .ok b S1) : mNotT f P ρ S = .ok (!b) S1 := by
  rw [e_notT, h]; rfl
theorem x_not {f : ME} {b : Bool} (h : f P ρ S = .ok (.t (.bl b)) S1) : mNot f P ρ S = .ok (.t (.bl (!b))) S1 := by
  rw [e_not, h]; rfl
theorem x_orT0 {f g : MT} {b : Bool} (h : f P ρ S = .ok false S1) (h2 : g P ρ S1 = .ok b S2) : mOrT f g P ρ S = .ok b S2 := by
  rw [e_orT, h, R.bind_ok, if_neg Bool.false_ne_true, h2]
theorem x_orT1 {f g : MT} (h : f P ρ S = .ok true S1) : mOrT f g P ρ S = .ok true S1 := by
  rw [e_orT, h, R.bind_ok, if_pos rfl]
theorem x_andT1 {f g : MT} {b : Bool} (h : f P ρ S = .ok true S1) (h2 : g P ρ S1 = .ok b S2) : mAndT f g P ρ S = .ok b S2 := by
  rw [e_andT, h, R.bind_ok, if_pos rfl, h2]
theorem x_andT0 {f g : MT} (h : f P ρ S = .ok false S1) : mAndT f g P ρ S = .ok false S1 := by
  rw [e_andT, h, R.bind_ok, if_neg Bool.false_ne_true]
theorem x_and1 {f g : ME} {d : D} (h : f P ρ S = .ok (.t (.bl true)) S1) (h2 : g P ρ S1 = .ok d S2) : mAnd f g P ρ S = .ok d S2 := by
  rw [e_and, h, R.bind_ok]; exact h2
theorem x_and0 {f g : ME} (h : f P ρ S = .ok (.t (.bl false)) S1) : mAnd f g P ρ S = .ok (.t (.bl false)) S1 := by
  rw [e_and, h, R.bind_ok]; rfl
theorem x_or0 {f g : ME} {d : D} (h : f P ρ S = .ok (.t (.bl false)) S1) (h2 : g P ρ S1 = .ok d S2) : mOr f g P ρ S = .ok d S2 := by
  rw [e_or, h, R.bind_ok]; exact h2
theorem x_or1 {f g : ME} (h : f P ρ S = .ok (.t (.bl true)) S1) : mOr f g P ρ S = .ok (.t (.bl true)) S1 := by
  rw [e_or, h, R.bind_ok]; rfl
theorem x_if {ft : MT} {fa fb : ME} {b : Bool} {d : D} (h : ft P ρ S = .ok b S1) (h2 : (if b then fa P ρ S1 else fb P ρ S1) = .ok d S2) : mIf ft fa fb P ρ S = .ok d S2 := by
  rw [e_if, h, R.bind_ok]; exact h2
theorem x_callK {g : MF} {n m : Nat} {ix : List Nat} {fs fk : MA} {ds zs : List D} {d : D} (h1 : fs P ρ S = .ok ds S1) (h2 : fk P ρ S1 = .ok zs S2) (hn : ds.length = n ∧ zs.length = m) (h3 : g (pickI ix (ds ++ zs)) P S2 = .ok d S3) : mCallK g n m ix fs fk P ρ S = .ok d S3 := by
  rw [e_callK, h1, R.bind_ok, h2, R.bind_ok, if_pos hn, h3, nx_ok]
theorem x_I {g : List D → Option (List D)} {f : MA} {ds l : List D} (h : f P ρ S = .ok ds S1) (hg : g ds = some l) : mI g f P ρ S = .ok l S1 := by
  rw [e_I, h, R.bind_ok, hg]
theorem x_It {f : ME} {d : D} {l : List D} (h : f P ρ S = .ok d S1) (hg : itemsOf P d = some l) : mIt f P ρ S = .ok l S1 := by
  rw [e_it, h, R.bind_ok, hg]
theorem x_lc {fi : MI} {g : MG} {vs : List Nat} {ft : MT} {fe : ME} {ds : List D} {ts : List T} (h : fi P ρ S = .ok ds S1) (hl : lcGo g ft fe P (wipeE ρ vs) ds S1 = .ok (ts.map D.t) S2) : mLcG finT fi g vs ft fe P ρ S = .ok (.t (.lst ts)) S2 := by
  rw [e_lc, h, R.bind_ok, hl, R.bind_ok, e_finT, trees_map]
theorem x_lcC {fi : MI} {g : MG} {vs : List Nat} {ft : MT} {fe : ME} {ds r : List D} (h : fi P ρ S = .ok ds S1) (hl : lcGo g ft fe P (wipeE ρ vs) ds S1 = .ok r S2) : mLcG finC fi g vs ft fe P ρ S = .ok (.ref (P.length + S2.length)) (S2 ++ [.lst r]) := by
  rw [e_lc, h, R.bind_ok, hl, R.bind_ok, e_finC]
theorem x_expr {f : ME} {d : D} (h : f P ρ S = .ok d S1) : sExpr f P ρ S = .nx ρ S1 := by
  rw [e_expr, h]; rfl
theorem x_asg {g : MG} {f : ME} {d : D} {ρ1 : En} (h : f P ρ S = .ok d S1) (hg : g d ρ = some ρ1) : sAsg g f P ρ S = .nx ρ1 S1 := by
  rw [e_asg, h, R.oc_ok, hg]
theorem x_par2 {i j : Nat} {fs : MA} {u v : D} (h : fs P ρ S = .ok [u, v] S1) : sPar2 i j fs P ρ S = .nx ((ρ.set i (some u)).set j (some v)) S1 := by
  rw [e_par2, h]; rfl
theorem x_par3 {i j l : Nat} {fs : MA} {u v w : D} (h : fs P ρ S = .ok [u, v, w] S1) : sPar3 i j l fs P ρ S = .nx (((ρ.set i (some u)).set j (some v)).set l (some w)) S1 := by
  rw [e_par3, h]; rfl
theorem x_put {fo fi fe : ME} {v d i : D} (h1 : fe P ρ S = .ok v S1) (h2 : fo P ρ S1 = .ok d S2) (h3 : fi P ρ S2 = .ok i S3) (h4 : setG d i v P S3 = some S4) : sPut fo fi fe P ρ S = .nx ρ S4 := by
  rw [e_put, h1, R.oc_ok, h2, R.oc_ok, h3, R.oc_ok, h4]
theorem x_sort {f : ME} {d : D} {l : List T} (h : f P ρ S = .ok d S1) (hs : sortIn P S1 d = some l) : mSort mkT f P ρ S = .ok (.t (.lst l)) S1 := by
  rw [e_sort, h, R.bind_ok, hs]; rfl
theorem x_sortSet {f : ME} {d : D} {xs : List Tx} (h : f P ρ S = .ok d S1) (hs : setSrc P S1 d = some xs) (hb : (onceM xs).length + 1 < PySem.scanBound) : mSortSet mkT f P ρ S = .ok (.t (.lst ((sortTx (onceM xs)).map T.str))) S1 := by
  rw [e_sortSet, h, R.bind_ok, hs]
  simp only
  rw [if_pos hb]; rfl
theorem x_lenSet {f : ME} {d : D} {xs : List Tx} (h : f P ρ S = .ok d S1) (hs : setSrc P S1 d = some xs) (hb : (onceM xs).length + 1 < PySem.scanBound) : mLenSet f P ρ S = .ok (.t (.int (onceM xs).length)) S1 := by
  rw [e_lenSet, h, R.bind_ok, hs]
  simp only
  rw [if_pos hb]
theorem x_dic1 {fk fv : ME} {k : T} {a : At} {v : T} (h1 : fk P ρ S = .ok (.t k) S1) (h2 : fv P ρ S1 = .ok (.t v) S2) (ha : k.at = some a) : mDic1 finD fk fv P ρ S = .ok (.t (.dic [(a, v)])) S2 := by
  rw [e_dic1, h1, nx_ok, R.bind_ok, h2, nx_ok, R.bind_ok]
  simp only [ha]
  rfl
theorem x_retB {f : ME} {d : D} {n : Nat} {ds : List D} (h : f P (ds.map some ++ List.replicate (n - ds.length) none) S = .ok d S1) : mDef n (sRet f) ds P S = .ok d S1 := def_rt (ret_ok h)
theorem x_lT {f : ME} {x : T} {i : Nat} (h : f P ρ S = .ok (.t x) S1) : sSet i f P ρ S = .nx (ρ.set i (some (.t x))) S1 := set_ok h
end
/-! ### the last cell -/
section
variable (P S : List O)
theorem end_at (o : O) : (P ++ (S ++ [o]))[P.length + S.length]? = some o := by
  rw [← List.append_assoc, List.getElem?_append_right (by rw [List.length_append]; omega), List.length_append, Nat.sub_self]; rfl
theorem end_atS (o : O) : (S ++ [o])[P.length + S.length - P.length]? = some o := by
  rw [show P.length + S.length - P.length = S.length by omega, List.getElem?_append_right (Nat.le_refl _), Nat.sub_self]; rfl
theorem end_set (o u : O) : (S ++ [o]).set (P.length + S.length - P.length) u = S ++ [u] := by
  rw [show P.length + S.length - P.length = S.length by omega, List.set_append_right _ _ (Nat.le_refl _), Nat.sub_self]; rfl
theorem end_frz (ts : List T) : frzD P (.ref (P.length + S.length)) (S ++ [.lst (ts.map D.t)]) = some (.t (.lst ts), S ++ [.dead]) := by
  unfold frzD
  simp only
  rw [if_pos (by omega), end_atS]
  simp only [trees_map]
  rw [end_set]; rfl
theorem end_kd (l : List D) : kdLst (.ref (P.length + S.length)) P (S ++ [.lst l]) = true := by
  unfold kdLst
  simp only
  rw [end_at]
theorem end_app (l : List D) (x : D) (h : l.length < 16777216) : appendG (.ref (P.length + S.length)) [x] P (S ++ [.lst l]) = some (.t .non, S ++ [.lst (l ++ [x])]) := by
  unfold appendG cellL
  simp only
  rw [if_pos (by omega), end_atS]
  simp only
  rw [if_pos (by rw [szl]; exact h), end_set]
theorem x_frz {ρ : En} {i : Nat} {d d' : D} {S' : List O} (h : ρ[i]? = some (some d)) (e : frzD P d S = some (d', S')) : sFrz i P ρ S = .nx (ρ.set i (some d')) S' := by
  rw [e_frz, h]
  simp only [e]
end
@[simp] theorem leT_str (i j : Tx) : leT (.str i) (.str j) = some (.bl (decide (i ≤ j))) := by
  unfold leT; rw [if_pos (show alk (.str i) (.str j) = true by rfl), lt_str']
  by_cases h : j < i
  · rw [decide_eq_true h, decide_eq_false (List.not_le.mpr h)]; rfl
  · rw [decide_eq_false h, decide_eq_true (List.not_lt.mp h)]; rfl
@[simp] theorem geT_str (i j : Tx) : geT (.str i) (.str j) = some (.bl (decide (j ≤ i))) := by
  unfold geT; rw [if_pos (show alk (.str i) (.str j) = true by rfl), lt_str']
  by_cases h : i < j
  · rw [decide_eq_true h, decide_eq_false (List.not_le.mpr h)]; rfl
  · rw [decide_eq_false h, decide_eq_true (List.not_lt.mp h)]; rfl
/-! ### depth -/
theorem dep_all : ∀ {l : List T} {n : Nat}, (∀ x ∈ l, x.pd.depth ≤ n) → PyData.depthAll (T.pds l) ≤ n
  | [], _, _ => Nat.zero_le _
  | x :: l, n, h => by
    show PyData.depthAll (x.pd :: T.pds l) ≤ n
    rw [PyData.depthAll]
    have h1 := h x List.mem_cons_self
    have h2 := dep_all fun y hy => h y (List.mem_cons_of_mem _ hy)
    omega
theorem dep_tup {l : List T} {n : Nat} (h : ∀ x ∈ l, x.pd.depth ≤ n) : (T.tup l).pd.depth ≤ n + 1 := by
  show (PyData.tuple (T.pds l)).depth ≤ n + 1
  have := dep_all h
  simp only [PyData.depth]
  omega
theorem dep_lst {l : List T} {n : Nat} (h : ∀ x ∈ l, x.pd.depth ≤ n) : (T.lst l).pd.depth ≤ n + 1 := by
  show (PyData.list (T.pds l)).depth ≤ n + 1
  have := dep_all h
  simp only [PyData.depth]
  omega
/-- data of little depth -/
def Dat (n : Nat) (x : T) : Prop := x.plain = true ∧ x.pd.depth ≤ n
theorem Dat.mono {n m : Nat} {x : T} (h : Dat n x) (k : n ≤ m) : Dat m x := ⟨h.1, Nat.le_trans h.2 k⟩
theorem dat_str {n : Nat} (s : Tx) (h : 1 ≤ n) : Dat n (.str s) := by
  have e : (T.str s).pd.depth ≤ 1 := by first | exact Nat.le_refl _ | simp [T.pd, PyData.depth]
  exact ⟨rfl, by omega⟩
theorem dat_int {n : Nat} (i : Int) (h : 1 ≤ n) : Dat n (.int i) := by
  have e : (T.int i).pd.depth ≤ 1 := by first | exact Nat.le_refl _ | simp [T.pd, PyData.depth]
  exact ⟨rfl, by omega⟩
theorem dat_bl {n : Nat} (i : Bool) (h : 1 ≤ n) : Dat n (.bl i) := by
  have e : (T.bl i).pd.depth ≤ 1 := by first | exact Nat.le_refl _ | simp [T.pd, PyData.depth]
  exact ⟨rfl, by omega⟩
theorem dat_non {n : Nat} (h : 1 ≤ n) : Dat n (.non) := by
  have e : (T.non).pd.depth ≤ 1 := by first | exact Nat.le_refl _ | simp [T.pd, PyData.depth]
  exact ⟨rfl, by omega⟩
theorem dat_tup {n : Nat} {l : List T} (h : ∀ x ∈ l, Dat n x) : Dat (n + 1) (.tup l) := ⟨(plains_iff l).mpr fun x hx => (h x hx).1, dep_tup fun x hx => (h x hx).2⟩
theorem dat_lst {n : Nat} {l : List T} (h : ∀ x ∈ l, Dat n x) : Dat (n + 1) (.lst l) := ⟨(plains_iff l).mpr fun x hx => (h x hx).1, dep_lst fun x hx => (h x hx).2⟩
theorem dat_strs {n : Nat} {l : List Tx} (h : 1 ≤ n) : ∀ x ∈ l.map T.str, Dat n x := fun x hx => by
  obtain ⟨s, _, rfl⟩ := List.mem_map.mp hx
  exact dat_str s h
theorem Dat.low {n : Nat} {x : T} (h : Dat n x) (k : n ≤ 40) : x.low = true := decide_eq_true (Nat.le_trans h.2 k)
/-! ### great letters -/
theorem upTx_eq {s : Tx} (h : ∀ c ∈ s, c < 128) : upTx s = s.map PyProof.Rows.up1 := by
  unfold upTx
  have e := SX.upper_S (a := s) (List.all_eq_true.mpr fun c hc => decide_eq_true (h c hc))
  have e2 : Txt.upper (sv s) = sv (s.map PyProof.Rows.up1) := e
  rw [e2, sv_list]
theorem x_upper {s : Tx} (h : ∀ c ∈ s, c < 128) (hl : s.length ≤ 10 ^ 6) (P S : List O) : upperG (.t (.str s)) [] P S = some (.t (.str (s.map PyProof.Rows.up1)), S) := by
  have e := upTx_eq h
  show Option.map _ (if s.length ≤ 1000000 ∧ (upTx s).length ≤ sizeLine then some (T.str (upTx s)) else none) = _
  rw [if_pos ⟨by omega, by rw [e, List.length_map, szl]; omega⟩, e]; rfl
end Fm

set_option maxHeartbeats 4000000
namespace Lw
open PySem PySem.Spec PyProof.Rows L2 Fm
def top (i : Nat) : Stmt := PySem.Challenge.pw_surepieces_k01_books_ring_texts_and_piec.main.body.getD i (.Pass ⟨0, 0, 0, 0⟩)
structure Wd (K : PySem.W.Frag) (mg : Str → Option Value) where
  _law_source : Hd K mg "_law_source" "_law_source" (top 25)
  _law_pick : Hd K mg "_law_pick" "_law_pick" (top 26)
  _law_letters : Hd K mg "_law_letters" "_law_letters" (top 27)
  _law_round : Hd K mg "_law_round" "_law_round" (top 29)
  _law_word : Hd K mg "_law_word" "_law_word" (top 28)
  _law_ring : Hd K mg "_law_ring" "_law_ring" (top 30)
  _law_book : Hd K mg "_law_book" "_law_book" (top 31)
  _law_odd_window : Hd K mg "_law_odd_window" "_law_odd_window" (top 35)
  _law_bent_book : Hd K mg "_law_bent_book" "_law_bent_book" (top 36)
  _law_is_word : Hd K mg "_law_is_word" "_law_is_word" (top 33)
  _law_is_book : Hd K mg "_law_is_book" "_law_is_book" (top 34)
  _law_same : Hd K mg "_law_same" "_law_same" (top 32)
  is_integer : Hd K mg "is_integer" "is_integer" (top 7)
  is_size : Hd K mg "is_size" "is_size" (top 11)
  is_word : Hd K mg "is_word" "is_word" (top 10)
  are_ascending : Hd K mg "are_ascending" "are_ascending" (top 9)
  are_windows : Hd K mg "are_windows" "are_windows" (top 12)
  is_a_book : Hd K mg "is_a_book" "is_a_book" (top 13)
  is_book : Hd K mg "is_book" "is_book" (top 20)
  _law_books_right : Hd K mg "_law_books_right" "_law_books_right" (top 40)
  _law_odd_texts : Hd K mg "_law_odd_texts" "_law_odd_texts" (top 39)
  _law_piece : Hd K mg "_law_piece" "_law_piece" (top 37)
  _law_is_piece : Hd K mg "_law_is_piece" "_law_is_piece" (top 38)
  need_book : Hd K mg "need_book" "need_book" (top 18)
  steps_of : Hd K mg "steps_of" "steps_of" (top 15)
  is_a_piece : Hd K mg "is_a_piece" "is_a_piece" (top 16)
  is_piece : Hd K mg "is_piece" "is_piece" (top 22)
  is_a_ring : Hd K mg "is_a_ring" "is_a_ring" (top 14)
  is_ring : Hd K mg "is_ring" "is_ring" (top 21)
  _law_texts_right : Hd K mg "_law_texts_right" "_law_texts_right" (top 41)
  places_of : Hd K mg "places_of" "places_of" (top 17)
  places : Hd K mg "places" "places" (top 23)
  _law_places_right : Hd K mg "_law_places_right" "_law_places_right" (top 43)
  _law_great_right : Hd K mg "_law_great_right" "_law_great_right" (top 42)
  law : Hd K mg "law" "law" (top 44)
  n_abs : mg "abs" = none
  n_all : mg "all" = none
  n_bool : mg "bool" = none
  n_int : mg "int" = none
  n_isinstance : mg "isinstance" = none
  n_len : mg "len" = none
  n_list : mg "list" = none
  n_max : mg "max" = none
  n_min : mg "min" = none
  n_range : mg "range" = none
  n_set : mg "set" = none
  n_sorted : mg "sorted" = none
  n_str : mg "str" = none
  n_tuple : mg "tuple" = none
  t_LEAST_SIZE : Tok
  c_LEAST_SIZE : mg "LEAST_SIZE" = some (.int 2 t_LEAST_SIZE)
  t_LETTERS : Tok
  c_LETTERS : mg "LETTERS" = some (.str (Str.ofString "abcdefghijklmnopqrstuvwxyz") t_LETTERS)
  t_MOST_SIZE : Tok
  c_MOST_SIZE : mg "MOST_SIZE" = some (.int 6 t_MOST_SIZE)
section
variable {P : Program} {w : World} {K : PySem.W.Frag} {mg : Str → Option Value} {base : Heap}
abbrev st__law_source : Stmt := top 25
theorem sc__law_source : FnScope ["script", "k", "cell", "total", "other"] ["script", "k"] (defScope st__law_source) := ⟨rfl, rfl, rfl, by decide +kernel, rfl, by decide +kernel, by decide +kernel⟩
noncomputable def b__law_source : MS := (sSeq (sSet 2 (mIf (mB (mOp2 (lT2 ltT) (mVar 1) (mCallB lenG (mCons (mVar 0) mNil)))) (mOp2 subG (mVar 0) (mVar 1)) (mOp2 (lT2 addT) (mOp2 (lT2 mulT) (mC (.int 41)) (mVar 1)) (mC (.int 17))))) (sSeq (sSet 3 (mCallB lenG (mCons (mVar 0) mNil))) (sSeq (sFor (mIt (mVar 0)) (gN 4) (sSet 3 (mOp2 (lT2 modT) (mCallB (lTL intT) (mCons (mOp2 (lT2 addT) (mOp2 (lT2 mulT) (mVar 3) (mC (.int 7919))) (mOp2 (lT2 modT) (mCallB (lTL intT) (mCons (mVar 4) mNil)) (mOp2 (lT2 addT) (mOp2 (lT2 powT) (mC (.int 10)) (mC (.int 20))) (mC (.int 39))))) mNil)) (mOp2 (lT2 addT) (mOp2 (lT2 powT) (mC (.int 10)) (mC (.int 26))) (mC (.int 67)))))) (sRet (mLstC (mCons (mCallB (lTL max2T) (mCons (mC (.int 0)) (mCons (mOp2 (lT2 subT) (mVar 2) (mOp2 (lT2 powT) (mC (.int 10)) (mC (.int 18)))) mNil))) (mCons (mOp2 (lT2 modT) (mCallB (lTL intT) (mCons (mOp2 (lT2 addT) (mOp2 (lT2 addT) (mOp2 (lT2 addT) (mOp2 (lT2 mulT) (mCallB (lTL absT) (mCons (mVar 2) mNil)) (mC (.int 8191))) (mOp2 (lT2 mulT) (mC (.int 13)) (mVar 3))) (mCallB (lTL intT) (mCons (mOp2 (lT2 ltT) (mVar 2) (mC (.int 0))) mNil))) (mOp2 (lT2 mulT) (mC (.int 5)) (mVar 1))) mNil)) (mOp2 (lT2 addT) (mOp2 (lT2 powT) (mC (.int 10)) (mC (.int 29))) (mC (.int 319)))) (mCons (mC (.int 0)) mNil))))))))
noncomputable def m__law_source : MF := mDef 5 b__law_source
theorem ok__law_source (T : Wd K mg) : FnG P w K mg base CX0 1 T._law_source.f T._law_source.fd ["script", "k"] (spM K 2 m__law_source) :=
  fng_ok (fb := b__law_source) (N := ["script", "k", "cell", "total", "other"]) (ps := ["script", "k"]) (k := 0) T._law_source.F sc__law_source fun cdv A outer s H E gd hr => (pmb_cons (pms_set 2 sc__law_source.nd (pm_if (pmt_cmp (op_ltM (r64 hr)) (pm_var 1) (pm_callB call_lenM (by rfl) T.n_len bt_len (pma_cons (pm_var 0) pma_nil))) (ix_M (r1 hr) (fun _ _ => rfl) (fun _ _ => rfl) (pm_var 0) (pm_var 1)) (pm_bin op_addM (pm_bin op_mulM pm_int (pm_var 1)) pm_int))) (pmb_cons (pms_set 3 sc__law_source.nd (pm_callB call_lenM (by rfl) T.n_len bt_len (pma_cons (pm_var 0) pma_nil))) (pmb_cons (pms_for PassesOwn.never rfl (pmi_seq (pm_var 0)) (pmg_name 4 sc__law_source.nd) (pmb_one (pms_set 3 sc__law_source.nd (pm_bin op_modM (pm_callTy call_intM (by rfl) T.n_int bt_int (pma_cons (pm_bin op_addM (pm_bin op_mulM (pm_var 3) pm_int) (pm_bin op_modM (pm_callTy call_intM (by rfl) T.n_int bt_int (pma_cons (pm_var 4) pma_nil)) (pm_bin op_addM (pm_bin op_powM pm_int pm_int) pm_int))) pma_nil)) (pm_bin op_addM (pm_bin op_powM pm_int pm_int) pm_int))))) (pmb_one (pms_ret (pm_lstC (pma_cons (pm_callB (call_max2M rfl) (by rfl) T.n_max bt_max (pma_cons pm_int (pma_cons (pm_bin op_subM (pm_var 2) (pm_bin op_powM pm_int pm_int)) pma_nil))) (pma_cons (pm_bin op_modM (pm_callTy call_intM (by rfl) T.n_int bt_int (pma_cons (pm_bin op_addM (pm_bin op_addM (pm_bin op_addM (pm_bin op_mulM (pm_callB call_absM (by rfl) T.n_abs bt_abs (pma_cons (pm_var 2) pma_nil)) pm_int) (pm_bin op_mulM pm_int (pm_var 3))) (pm_callTy call_intM (by rfl) T.n_int bt_int (pma_cons (pm_cmp (op_ltM (r64 hr)) (pm_var 2) pm_int) pma_nil))) (pm_bin op_mulM pm_int (pm_var 1))) pma_nil)) (pm_bin op_addM (pm_bin op_powM pm_int pm_int) pm_int)) (pma_cons pm_int pma_nil)))))))))
abbrev st__law_pick : Stmt := top 26
theorem sc__law_pick : FnScope ["source", "top", "found", "mixed"] ["source", "top"] (defScope st__law_pick) := ⟨rfl, rfl, rfl, by decide +kernel, rfl, by decide +kernel, by decide +kernel⟩
noncomputable def b__law_pick : MS := (sSeq (sIf (mB (mOp2 (lT2 gtT) (mOp2 subG (mVar 0) (mC (.int 0))) (mC (.int 0)))) (sSeq (sSet 2 (mOp2 (lT2 modT) (mCallB (lTL intT) (mCons (mOp2 subG (mVar 0) (mC (.int 0))) mNil)) (mVar 1))) (sSeq (sPut (mVar 0) (mC (.int 0)) (mOp2 (lT2 fdivT) (mOp2 subG (mVar 0) (mC (.int 0))) (mVar 1))) (sRet (mVar 2)))) sNil) (sSeq (sPut (mVar 0) (mC (.int 2)) (mOp2 (lT2 addT) (mOp2 subG (mVar 0) (mC (.int 2))) (mC (.int 1)))) (sSeq (sSet 3 (mOp2 (lT2 modT) (mCallB (lTL intT) (mCons (mOp2 (lT2 addT) (mOp2 (lT2 addT) (mOp2 subG (mVar 0) (mC (.int 1))) (mOp2 (lT2 mulT) (mOp2 (lT2 mulT) (mC (.int 899809363)) (mOp2 subG (mVar 0) (mC (.int 2)))) (mOp2 subG (mVar 0) (mC (.int 2))))) (mOp2 (lT2 mulT) (mC (.int 32416190071)) (mOp2 subG (mVar 0) (mC (.int 2))))) mNil)) (mOp2 (lT2 addT) (mOp2 (lT2 powT) (mC (.int 10)) (mC (.int 29))) (mC (.int 319))))) (sSeq (sSet 3 (mOp2 (lT2 modT) (mCallB (lTL intT) (mCons (mOp2 (lT2 addT) (mOp2 (lT2 mulT) (mOp2 (lT2 mulT) (mVar 3) (mVar 3)) (mVar 3)) (mOp2 subG (mVar 0) (mC (.int 2)))) mNil)) (mOp2 (lT2 addT) (mOp2 (lT2 powT) (mC (.int 10)) (mC (.int 31))) (mC (.int 33))))) (sRet (mOp2 (lT2 modT) (mOp2 (lT2 fdivT) (mOp2 (lT2 modT) (mCallB (lTL intT) (mCons (mOp2 (lT2 mulT) (mVar 3) (mOp2 (lT2 addT) (mVar 3) (mC (.int 104717)))) mNil)) (mOp2 (lT2 addT) (mOp2 (lT2 powT) (mC (.int 10)) (mC (.int 32))) (mC (.int 49)))) (mC (.int 7907))) (mVar 1)))))))
noncomputable def m__law_pick : MF := mDef 4 b__law_pick
theorem ok__law_pick (T : Wd K mg) : FnG P w K mg base CX0 1 T._law_pick.f T._law_pick.fd ["source", "top"] (spM K 2 m__law_pick) :=
  fng_ok (fb := b__law_pick) (N := ["source", "top", "found", "mixed"]) (ps := ["source", "top"]) (k := 0) T._law_pick.F sc__law_pick fun cdv A outer s H E gd hr => (pmb_cons (pms_if (pmt_cmp (op_gtM (r64 hr)) (ix_M (r1 hr) (fun _ _ => rfl) (fun _ _ => rfl) (pm_var 0) pm_int) pm_int) (pmb_cons (pms_set 2 sc__law_pick.nd (pm_bin op_modM (pm_callTy call_intM (by rfl) T.n_int bt_int (pma_cons (ix_M (r1 hr) (fun _ _ => rfl) (fun _ _ => rfl) (pm_var 0) pm_int) pma_nil)) (pm_var 1))) (pmb_cons (pms_put (r1 hr) (pm_var 0) pm_int (pm_bin op_fdivM (ix_M (r1 hr) (fun _ _ => rfl) (fun _ _ => rfl) (pm_var 0) pm_int) (pm_var 1))) (pmb_one (pms_ret (pm_var 2))))) pmb_nil) (pmb_cons (pms_put (r1 hr) (pm_var 0) pm_int (pm_bin op_addM (ix_M (r1 hr) (fun _ _ => rfl) (fun _ _ => rfl) (pm_var 0) pm_int) pm_int)) (pmb_cons (pms_set 3 sc__law_pick.nd (pm_bin op_modM (pm_callTy call_intM (by rfl) T.n_int bt_int (pma_cons (pm_bin op_addM (pm_bin op_addM (ix_M (r1 hr) (fun _ _ => rfl) (fun _ _ => rfl) (pm_var 0) pm_int) (pm_bin op_mulM (pm_bin op_mulM pm_int (ix_M (r1 hr) (fun _ _ => rfl) (fun _ _ => rfl) (pm_var 0) pm_int)) (ix_M (r1 hr) (fun _ _ => rfl) (fun _ _ => rfl) (pm_var 0) pm_int))) (pm_bin op_mulM pm_int (ix_M (r1 hr) (fun _ _ => rfl) (fun _ _ => rfl) (pm_var 0) pm_int))) pma_nil)) (pm_bin op_addM (pm_bin op_powM pm_int pm_int) pm_int))) (pmb_cons (pms_set 3 sc__law_pick.nd (pm_bin op_modM (pm_callTy call_intM (by rfl) T.n_int bt_int (pma_cons (pm_bin op_addM (pm_bin op_mulM (pm_bin op_mulM (pm_var 3) (pm_var 3)) (pm_var 3)) (ix_M (r1 hr) (fun _ _ => rfl) (fun _ _ => rfl) (pm_var 0) pm_int)) pma_nil)) (pm_bin op_addM (pm_bin op_powM pm_int pm_int) pm_int))) (pmb_one (pms_ret (pm_bin op_modM (pm_bin op_fdivM (pm_bin op_modM (pm_callTy call_intM (by rfl) T.n_int bt_int (pma_cons (pm_bin op_mulM (pm_var 3) (pm_bin op_addM (pm_var 3) pm_int)) pma_nil)) (pm_bin op_addM (pm_bin op_powM pm_int pm_int) pm_int)) pm_int) (pm_var 1))))))))
abbrev st__law_letters : Stmt := top 27
theorem sc__law_letters : FnScope ["source", "menu"] ["source"] (defScope st__law_letters) := ⟨rfl, rfl, rfl, by decide +kernel, rfl, by decide +kernel, by decide +kernel⟩
noncomputable def b__law_letters : MS := (sSeq (sSet 1 (mLst (mCons (mC (.str (cs "ab"))) (mCons (mC (.str (cs "abc"))) (mCons (mC (.str (cs "acgt"))) (mCons (mC (.str (cs "zyxa"))) (mCons (mC (.str (cs "abcdef"))) (mCons (mC (.str (cs "abcdefghijklmnopqrstuvwxyz"))) (mCons (mC (.str (cs "ab"))) (mCons (mC (.str (cs "abcd"))) (mCons (mC (.str (cs "acgt"))) (mCons (mC (.str (cs "bz"))) (mCons (mC (.str (cs "cab"))) (mCons (mC (.str (cs "a"))) mNil)))))))))))))) (sRet (mOp2 subG (mVar 1) (mCall m__law_pick (mCons (mVar 0) (mCons (mC (.int 12)) mNil))))))
noncomputable def m__law_letters : MF := mDef 2 b__law_letters
theorem ok__law_letters (T : Wd K mg) : FnG P w K mg base CX0 2 T._law_letters.f T._law_letters.fd ["source"] (spM K 1 m__law_letters) :=
  fng_ok (fb := b__law_letters) (N := ["source", "menu"]) (ps := ["source"]) (k := 1) T._law_letters.F sc__law_letters fun cdv A outer s H E gd hr => (pmb_cons (pms_set 1 sc__law_letters.nd (pm_lst (pma_cons (pm_str (cs "ab") (sv_cs _) (by decide)) (pma_cons (pm_str (cs "abc") (sv_cs _) (by decide)) (pma_cons (pm_str (cs "acgt") (sv_cs _) (by decide)) (pma_cons (pm_str (cs "zyxa") (sv_cs _) (by decide)) (pma_cons (pm_str (cs "abcdef") (sv_cs _) (by decide)) (pma_cons (pm_str (cs "abcdefghijklmnopqrstuvwxyz") (sv_cs _) (by decide)) (pma_cons (pm_str (cs "ab") (sv_cs _) (by decide)) (pma_cons (pm_str (cs "abcd") (sv_cs _) (by decide)) (pma_cons (pm_str (cs "acgt") (sv_cs _) (by decide)) (pma_cons (pm_str (cs "bz") (sv_cs _) (by decide)) (pma_cons (pm_str (cs "cab") (sv_cs _) (by decide)) (pma_cons (pm_str (cs "a") (sv_cs _) (by decide)) pma_nil)))))))))))))) (pmb_one (pms_ret (ix_M (r1 hr) (fun _ _ => rfl) (fun _ _ => rfl) (pm_var 1) (pmG_call (ok__law_pick T) gd (hr.mono (by decide)) (by rfl) T._law_pick.m T._law_pick.F.kp (L2.Fun.binds (ps := ["source", "top"]) T._law_pick.F fun _ _ _ _ _ _ us hl => match us, hl with | [_, _], _ => rfl) (pma_cons (pm_var 0) (pma_cons pm_int pma_nil)) (cnt_cons (cnt_cons cnt_nil)))))))
abbrev st__law_round : Stmt := top 29
theorem sc__law_round : FnScope ["size", "ring", "beads", "more", "at"] ["size", "ring"] (defScope st__law_round) := ⟨rfl, rfl, rfl, by decide +kernel, rfl, by decide +kernel, by decide +kernel⟩
noncomputable def b__law_round : MS := (sSeq (sSet 2 (mCallB lenG (mCons (mVar 1) mNil))) (sRet (mLcG finT (mI rng1Of (mCons (mVar 2) mNil)) (gN 4) [4] mYes (mMeth kdStr joinG (mC (.str (cs ""))) (mCons (mLcG finT (mI rng1Of (mCons (mVar 0) mNil)) (gN 3) [3] mYes (mOp2 subG (mVar 1) (mOp2 (lT2 modT) (mCallB (lTL intT) (mCons (mOp2 (lT2 addT) (mVar 4) (mVar 3)) mNil)) (mVar 2)))) mNil)))))
noncomputable def m__law_round : MF := mDef 5 b__law_round
theorem ok__law_round (T : Wd K mg) : FnG P w K mg base CX0 1 T._law_round.f T._law_round.fd ["size", "ring"] (spM K 2 m__law_round) :=
  fng_ok (fb := b__law_round) (N := ["size", "ring", "beads", "more", "at"]) (ps := ["size", "ring"]) (k := 0) T._law_round.F sc__law_round fun cdv A outer s H E gd hr => (pmb_cons (pms_set 2 sc__law_round.nd (pm_callB call_lenM (by rfl) T.n_len bt_len (pma_cons (pm_var 1) pma_nil))) (pmb_one (pms_ret (pm_lcG (own := [(("at" : Str), 4)]) (ow := [4]) fin_T rfl sc__law_round.nd (pmi_range1 (by rfl) T.n_range (pma_cons (pm_var 2) pma_nil)) ⟨rfl, of_decide_eq_true (by kernel_rfl), of_decide_eq_true (by kernel_rfl), of_decide_eq_true (by kernel_rfl), of_decide_eq_true (by kernel_rfl)⟩ (fun s H C cl fp => (pmg_name 4 sc__law_round.nd)) (fun s H C cl fp => pmts_nil) (fun s H C cl fp => (pm_meth PySem.F.plainAttrs_str PySem.F.slot_str_join PySem.F.type_str_join kd_str mt_joinM (pm_str (cs "") (sv_cs _) (by decide)) (pma_cons (pm_lcG (own := [(("more" : Str), 3)]) (ow := [3]) fin_T rfl sc__law_round.nd (pmi_range1 (by rfl) T.n_range (pma_cons (pm_var 0) pma_nil)) ⟨rfl, of_decide_eq_true (by kernel_rfl), of_decide_eq_true (by kernel_rfl), of_decide_eq_true (by kernel_rfl), of_decide_eq_true (by kernel_rfl)⟩ (fun s H C cl fp => (pmg_name 3 sc__law_round.nd)) (fun s H C cl fp => pmts_nil) (fun s H C cl fp => (ix_M (r1 hr) (fun _ _ => rfl) (fun _ _ => rfl) (pm_var 1) (pm_bin op_modM (pm_callTy call_intM (by rfl) T.n_int bt_int (pma_cons (pm_bin op_addM (pm_var 4) (pm_var 3)) pma_nil)) (pm_var 2))))) pma_nil)))))))
abbrev st__law_word : Stmt := top 28
theorem sc__law_word : FnScope ["source", "letters", "size", "at"] ["source", "letters", "size"] (defScope st__law_word) := ⟨rfl, rfl, rfl, by decide +kernel, rfl, by decide +kernel, by decide +kernel⟩
noncomputable def b__law_word : MS := (sRet (mMeth kdStr joinG (mC (.str (cs ""))) (mCons (mLcG finT (mI rng1Of (mCons (mVar 2) mNil)) (gN 3) [3] mYes (mOp2 subG (mVar 1) (mCall m__law_pick (mCons (mVar 0) (mCons (mCallB lenG (mCons (mVar 1) mNil)) mNil))))) mNil)))
noncomputable def m__law_word : MF := mDef 4 b__law_word
theorem ok__law_word (T : Wd K mg) : FnG P w K mg base CX0 2 T._law_word.f T._law_word.fd ["source", "letters", "size"] (spM K 3 m__law_word) :=
  fng_ok (fb := b__law_word) (N := ["source", "letters", "size", "at"]) (ps := ["source", "letters", "size"]) (k := 1) T._law_word.F sc__law_word fun cdv A outer s H E gd hr => (pmb_one (pms_ret (pm_meth PySem.F.plainAttrs_str PySem.F.slot_str_join PySem.F.type_str_join kd_str mt_joinM (pm_str (cs "") (sv_cs _) (by decide)) (pma_cons (pm_lcG (own := [(("at" : Str), 3)]) (ow := [3]) fin_T rfl sc__law_word.nd (pmi_range1 (by rfl) T.n_range (pma_cons (pm_var 2) pma_nil)) ⟨rfl, of_decide_eq_true (by kernel_rfl), of_decide_eq_true (by kernel_rfl), of_decide_eq_true (by kernel_rfl), of_decide_eq_true (by kernel_rfl)⟩ (fun s H C cl fp => (pmg_name 3 sc__law_word.nd)) (fun s H C cl fp => pmts_nil) (fun s H C cl fp => (ix_M (r1 hr) (fun _ _ => rfl) (fun _ _ => rfl) (pm_var 1) (pmG_call (ok__law_pick T) gd (hr.mono (by decide)) (by rfl) T._law_pick.m T._law_pick.F.kp (L2.Fun.binds (ps := ["source", "top"]) T._law_pick.F fun _ _ _ _ _ _ us hl => match us, hl with | [_, _], _ => rfl) (pma_cons (pm_var 0) (pma_cons (pm_callB call_lenM (by rfl) T.n_len bt_len (pma_cons (pm_var 1) pma_nil)) pma_nil)) (cnt_cons (cnt_cons cnt_nil)))))) pma_nil))))
abbrev st__law_ring : Stmt := top 30
theorem sc__law_ring : FnScope ["source", "letters", "most", "size", "kind", "words", "turn", "found", "at"] ["source", "letters", "most"] (defScope st__law_ring) := ⟨rfl, rfl, rfl, by decide +kernel, rfl, by decide +kernel, by decide +kernel⟩
noncomputable def b__law_ring : MS := (sSeq (sPar2 3 4 (mCons (mOp2 (lT2 addT) (mC (.int 1)) (mCall m__law_pick (mCons (mVar 0) (mCons (mVar 2) mNil)))) (mCons (mCall m__law_pick (mCons (mVar 0) (mCons (mC (.int 4)) mNil))) mNil))) (sSeq (sIf (mB (mOp2 (lT2 ltT) (mVar 4) (mC (.int 2)))) (sRet (mCall m__law_word (mCons (mVar 0) (mCons (mVar 1) (mCons (mVar 3) mNil))))) sNil) (sSeq (sSet 5 (mLcG finT (mI rng1Of (mCons (mOp2 (lT2 addT) (mC (.int 1)) (mCall m__law_pick (mCons (mVar 0) (mCons (mC (.int 3)) mNil)))) mNil)) (gN 6) [6] mYes (mCall m__law_word (mCons (mVar 0) (mCons (mVar 1) (mCons (mOp2 (lT2 addT) (mC (.int 1)) (mCall m__law_pick (mCons (mVar 0) (mCons (mC (.int 5)) mNil)))) mNil)))))) (sSeq (sSet 7 (mC (.str (cs "")))) (sSeq (sWhile (mB (mOp2 (lT2 ltT) (mCallB lenG (mCons (mVar 7) mNil)) (mVar 3))) (sSet 7 (mOp2 (lT2 addT) (mVar 7) (mOp2 subG (mVar 5) (mCall m__law_pick (mCons (mVar 0) (mCons (mCallB lenG (mCons (mVar 5) mNil)) mNil))))))) (sSeq (sSet 8 (mCall m__law_pick (mCons (mVar 0) (mCons (mVar 3) mNil)))) (sRet (mIf (mB (mOp2 (lT2 eqT) (mVar 4) (mC (.int 3)))) (mOp2 (lT2 addT) (mOp2 (lT2 addT) (mSl (mVar 7) none (some (mVar 8))) (mOp2 subG (mVar 1) (mCall m__law_pick (mCons (mVar 0) (mCons (mCallB lenG (mCons (mVar 1) mNil)) mNil))))) (mSl (mVar 7) (some (mOp2 (lT2 addT) (mVar 8) (mC (.int 1)))) (some (mVar 3)))) (mSl (mVar 7) none (some (mVar 3)))))))))))
noncomputable def m__law_ring : MF := mDef 9 b__law_ring
theorem ok__law_ring (T : Wd K mg) : FnG P w K mg base CX0 3 T._law_ring.f T._law_ring.fd ["source", "letters", "most"] (spM K 3 m__law_ring) :=
  fng_ok (fb := b__law_ring) (N := ["source", "letters", "most", "size", "kind", "words", "turn", "found", "at"]) (ps := ["source", "letters", "most"]) (k := 2) T._law_ring.F sc__law_ring fun cdv A outer s H E gd hr => (pmb_cons (pms_par2 3 4 rfl sc__law_ring.nd (pma_cons (pm_bin op_addM pm_int (pmG_call (ok__law_pick T) gd (hr.mono (by decide)) (by rfl) T._law_pick.m T._law_pick.F.kp (L2.Fun.binds (ps := ["source", "top"]) T._law_pick.F fun _ _ _ _ _ _ us hl => match us, hl with | [_, _], _ => rfl) (pma_cons (pm_var 0) (pma_cons (pm_var 2) pma_nil)) (cnt_cons (cnt_cons cnt_nil)))) (pma_cons (pmG_call (ok__law_pick T) gd (hr.mono (by decide)) (by rfl) T._law_pick.m T._law_pick.F.kp (L2.Fun.binds (ps := ["source", "top"]) T._law_pick.F fun _ _ _ _ _ _ us hl => match us, hl with | [_, _], _ => rfl) (pma_cons (pm_var 0) (pma_cons pm_int pma_nil)) (cnt_cons (cnt_cons cnt_nil))) pma_nil))) (pmb_cons (pms_if (pmt_cmp (op_ltM (r64 hr)) (pm_var 4) pm_int) (pmb_one (pms_ret (pmG_call (ok__law_word T) gd (hr.mono (by decide)) (by rfl) T._law_word.m T._law_word.F.kp (L2.Fun.binds (ps := ["source", "letters", "size"]) T._law_word.F fun _ _ _ _ _ _ us hl => match us, hl with | [_, _, _], _ => rfl) (pma_cons (pm_var 0) (pma_cons (pm_var 1) (pma_cons (pm_var 3) pma_nil))) (cnt_cons (cnt_cons (cnt_cons cnt_nil)))))) pmb_nil) (pmb_cons (pms_setLcG 5 (own := [(("turn" : Str), 6)]) (ow := [6]) fin_T rfl sc__law_ring.nd (pmi_range1 (by rfl) T.n_range (pma_cons (pm_bin op_addM pm_int (pmG_call (ok__law_pick T) gd (hr.mono (by decide)) (by rfl) T._law_pick.m T._law_pick.F.kp (L2.Fun.binds (ps := ["source", "top"]) T._law_pick.F fun _ _ _ _ _ _ us hl => match us, hl with | [_, _], _ => rfl) (pma_cons (pm_var 0) (pma_cons pm_int pma_nil)) (cnt_cons (cnt_cons cnt_nil)))) pma_nil)) ⟨rfl, of_decide_eq_true (by kernel_rfl), of_decide_eq_true (by kernel_rfl), of_decide_eq_true (by kernel_rfl), of_decide_eq_true (by kernel_rfl)⟩ (fun s H C cl fp => (pmg_name 6 sc__law_ring.nd)) (fun s H C cl fp => pmts_nil) (fun s H C cl fp => (pmG_call (ok__law_word T) gd (hr.mono (by decide)) (by rfl) T._law_word.m T._law_word.F.kp (L2.Fun.binds (ps := ["source", "letters", "size"]) T._law_word.F fun _ _ _ _ _ _ us hl => match us, hl with | [_, _, _], _ => rfl) (pma_cons (pm_var 0) (pma_cons (pm_var 1) (pma_cons (pm_bin op_addM pm_int (pmG_call (ok__law_pick T) gd (hr.mono (by decide)) (by rfl) T._law_pick.m T._law_pick.F.kp (L2.Fun.binds (ps := ["source", "top"]) T._law_pick.F fun _ _ _ _ _ _ us hl => match us, hl with | [_, _], _ => rfl) (pma_cons (pm_var 0) (pma_cons pm_int pma_nil)) (cnt_cons (cnt_cons cnt_nil)))) pma_nil))) (cnt_cons (cnt_cons (cnt_cons cnt_nil)))))) (pmb_cons (pms_set 7 sc__law_ring.nd (pm_str (cs "") (sv_cs _) (by decide))) (pmb_cons (pms_while PassesOwn.never (pmt_cmp (op_ltM (r64 hr)) (pm_callB call_lenM (by rfl) T.n_len bt_len (pma_cons (pm_var 7) pma_nil)) (pm_var 3)) (pmb_one (pms_set 7 sc__law_ring.nd (pm_bin op_addM (pm_var 7) (ix_M (r1 hr) (fun _ _ => rfl) (fun _ _ => rfl) (pm_var 5) (pmG_call (ok__law_pick T) gd (hr.mono (by decide)) (by rfl) T._law_pick.m T._law_pick.F.kp (L2.Fun.binds (ps := ["source", "top"]) T._law_pick.F fun _ _ _ _ _ _ us hl => match us, hl with | [_, _], _ => rfl) (pma_cons (pm_var 0) (pma_cons (pm_callB call_lenM (by rfl) T.n_len bt_len (pma_cons (pm_var 5) pma_nil)) pma_nil)) (cnt_cons (cnt_cons cnt_nil)))))))) (pmb_cons (pms_set 8 sc__law_ring.nd (pmG_call (ok__law_pick T) gd (hr.mono (by decide)) (by rfl) T._law_pick.m T._law_pick.F.kp (L2.Fun.binds (ps := ["source", "top"]) T._law_pick.F fun _ _ _ _ _ _ us hl => match us, hl with | [_, _], _ => rfl) (pma_cons (pm_var 0) (pma_cons (pm_var 3) pma_nil)) (cnt_cons (cnt_cons cnt_nil)))) (pmb_one (pms_ret (pm_if (pmt_cmp (op_eqM (r64 hr)) (pm_var 4) pm_int) (pm_bin op_addM (pm_bin op_addM (pm_sl (pm_var 7) pmp_none (pmp_some (pm_var 8))) (ix_M (r1 hr) (fun _ _ => rfl) (fun _ _ => rfl) (pm_var 1) (pmG_call (ok__law_pick T) gd (hr.mono (by decide)) (by rfl) T._law_pick.m T._law_pick.F.kp (L2.Fun.binds (ps := ["source", "top"]) T._law_pick.F fun _ _ _ _ _ _ us hl => match us, hl with | [_, _], _ => rfl) (pma_cons (pm_var 0) (pma_cons (pm_callB call_lenM (by rfl) T.n_len bt_len (pma_cons (pm_var 1) pma_nil)) pma_nil)) (cnt_cons (cnt_cons cnt_nil))))) (pm_sl (pm_var 7) (pmp_some (pm_bin op_addM (pm_var 8) pm_int)) (pmp_some (pm_var 3)))) (pm_sl (pm_var 7) pmp_none (pmp_some (pm_var 3))))))))))))
abbrev st__law_book : Stmt := top 31
theorem sc__law_book : FnScope ["source", "most", "size", "letters", "kind", "windows", "lost", "window", "old", "letter", "text", "at", "turn"] ["source", "most"] (defScope st__law_book) := ⟨rfl, rfl, rfl, by decide +kernel, rfl, by decide +kernel, by decide +kernel⟩
noncomputable def b__law_book : MS := (sSeq (sAsg (gT 3 (gsCons (gN 2) (gsCons (gN 3) (gsCons (gN 4) gsNil)))) (mTup (mCons (mOp2 (lT2 addT) (mC (.int 2)) (mCall m__law_pick (mCons (mVar 0) (mCons (mC (.int 5)) mNil)))) (mCons (mCall m__law_letters (mCons (mVar 0) mNil)) (mCons (mCall m__law_pick (mCons (mVar 0) (mCons (mC (.int 7)) mNil))) mNil))))) (sSeq (sSet 5 (mCall (pureZ m__law_round) (mCons (mVar 2) (mCons (mCall m__law_ring (mCons (mVar 0) (mCons (mVar 3) (mCons (mVar 1) mNil)))) mNil)))) (sSeq (sIf (mAndT (mB (mOp2 (lT2 eqT) (mVar 4) (mC (.int 3)))) (mB (mOp2 (lT2 gtT) (mCallB lenG (mCons (mVar 5) mNil)) (mC (.int 1))))) (sSeq (sSet 6 (mOp2 subG (mVar 5) (mCall m__law_pick (mCons (mVar 0) (mCons (mCallB lenG (mCons (mVar 5) mNil)) mNil))))) (sSet 5 (mOp2 (lT2 addT) (mLcG finT (mIt (mVar 5)) (gN 7) [7] (mB (mOp2 (lT2 neT) (mVar 7) (mVar 6))) (mVar 7)) (mSl (mVar 5) none (some (mC (.int 1))))))) sNil) (sSeq (sIf (mB (mOp2 (lT2 eqT) (mVar 4) (mC (.int 4)))) (sSeq (sPar2 8 9 (mCons (mOp2 subG (mVar 5) (mCall m__law_pick (mCons (mVar 0) (mCons (mCallB lenG (mCons (mVar 5) mNil)) mNil)))) (mCons (mOp2 subG (mVar 3) (mCall m__law_pick (mCons (mVar 0) (mCons (mCallB lenG (mCons (mVar 3) mNil)) mNil)))) mNil))) (sSet 5 (mOp2 (lT2 addT) (mSl (mVar 5) none (some (mOp2 (lT2 subT) (mVar 1) (mC (.int 1))))) (mLst (mCons (mOp2 subG (mLst (mCons (mOp2 (lT2 addT) (mSl (mVar 8) (some (mC (.int 1))) none) (mVar 9)) (mCons (mOp2 (lT2 addT) (mVar 9) (mSl (mVar 8) none (some (mOp1 (lT1 negT) (mC (.int 1)))))) mNil))) (mCall m__law_pick (mCons (mVar 0) (mCons (mC (.int 2)) mNil)))) mNil))))) sNil) (sSeq (sIf (mB (mOp2 (lT2 eqT) (mVar 4) (mC (.int 5)))) (sSeq (sSet 10 (mCall m__law_word (mCons (mVar 0) (mCons (mVar 3) (mCons (mOp2 (lT2 addT) (mVar 2) (mCall m__law_pick (mCons (mVar 0) (mCons (mVar 1) mNil)))) mNil))))) (sSet 5 (mLcG finT (mI rng1Of (mCons (mOp2 (lT2 addT) (mOp2 (lT2 subT) (mCallB lenG (mCons (mVar 10) mNil)) (mVar 2)) (mC (.int 1))) mNil)) (gN 11) [11] mYes (mSl (mVar 10) (some (mVar 11)) (some (mOp2 (lT2 addT) (mVar 11) (mVar 2))))))) sNil) (sSeq (sIf (mB (mOp2 (lT2 eqT) (mVar 4) (mC (.int 6)))) (sSet 5 (mLcG finT (mI rng1Of (mCons (mOp2 (lT2 addT) (mC (.int 1)) (mCall m__law_pick (mCons (mVar 0) (mCons (mVar 1) mNil)))) mNil)) (gN 12) [12] mYes (mCall m__law_word (mCons (mVar 0) (mCons (mVar 3) (mCons (mVar 2) mNil)))))) sNil) (sRet (mTup (mCons (mVar 2) (mCons (mCallB (lTL tupOfT) (mCons (mSl (mSortSet mkT (mVar 5)) none (some (mVar 1))) mNil)) mNil))))))))))
noncomputable def m__law_book : MF := mDef 13 b__law_book
theorem ok__law_book (T : Wd K mg) : FnG P w K mg base CX0 4 T._law_book.f T._law_book.fd ["source", "most"] (spM K 2 m__law_book) :=
  fng_ok (fb := b__law_book) (N := ["source", "most", "size", "letters", "kind", "windows", "lost", "window", "old", "letter", "text", "at", "turn"]) (ps := ["source", "most"]) (k := 3) T._law_book.F sc__law_book fun cdv A outer s H E gd hr => (pmb_cons (pms_asg (pm_tup (pma_cons (pm_bin op_addM pm_int (pmG_call (ok__law_pick T) gd (hr.mono (by decide)) (by rfl) T._law_pick.m T._law_pick.F.kp (L2.Fun.binds (ps := ["source", "top"]) T._law_pick.F fun _ _ _ _ _ _ us hl => match us, hl with | [_, _], _ => rfl) (pma_cons (pm_var 0) (pma_cons pm_int pma_nil)) (cnt_cons (cnt_cons cnt_nil)))) (pma_cons (pmG_call (ok__law_letters T) gd (hr.mono (by decide)) (by rfl) T._law_letters.m T._law_letters.F.kp (L2.Fun.binds (ps := ["source"]) T._law_letters.F fun _ _ _ _ _ _ us hl => match us, hl with | [_], _ => rfl) (pma_cons (pm_var 0) pma_nil) (cnt_cons cnt_nil)) (pma_cons (pmG_call (ok__law_pick T) gd (hr.mono (by decide)) (by rfl) T._law_pick.m T._law_pick.F.kp (L2.Fun.binds (ps := ["source", "top"]) T._law_pick.F fun _ _ _ _ _ _ us hl => match us, hl with | [_, _], _ => rfl) (pma_cons (pm_var 0) (pma_cons pm_int pma_nil)) (cnt_cons (cnt_cons cnt_nil))) pma_nil)))) (pmg_tup rfl (pmgs_cons (pmg_name 2 sc__law_book.nd) (pmgs_cons (pmg_name 3 sc__law_book.nd) (pmgs_cons (pmg_name 4 sc__law_book.nd) pmgs_nil))))) (pmb_cons (pms_set 5 sc__law_book.nd (pmG_call (fng_tree (ok__law_round T)) gd (hr.mono (by decide)) (by rfl) T._law_round.m T._law_round.F.kp (L2.Fun.binds (ps := ["size", "ring"]) T._law_round.F fun _ _ _ _ _ _ us hl => match us, hl with | [_, _], _ => rfl) (pma_cons (pm_var 2) (pma_cons (pmG_call (ok__law_ring T) gd (hr.mono (by decide)) (by rfl) T._law_ring.m T._law_ring.F.kp (L2.Fun.binds (ps := ["source", "letters", "most"]) T._law_ring.F fun _ _ _ _ _ _ us hl => match us, hl with | [_, _, _], _ => rfl) (pma_cons (pm_var 0) (pma_cons (pm_var 3) (pma_cons (pm_var 1) pma_nil))) (cnt_cons (cnt_cons (cnt_cons cnt_nil)))) pma_nil)) (cnt_cons (cnt_cons cnt_nil)))) (pmb_cons (pms_if ((pmw_and (pmt_cmp (op_eqM (r64 hr)) (pm_var 4) pm_int) (pmw_and1 (pmt_cmp (op_gtM (r64 hr)) (pm_callB call_lenM (by rfl) T.n_len bt_len (pma_cons (pm_var 5) pma_nil)) pm_int)))).pt (pmb_cons (pms_set 6 sc__law_book.nd (ix_M (r1 hr) (fun _ _ => rfl) (fun _ _ => rfl) (pm_var 5) (pmG_call (ok__law_pick T) gd (hr.mono (by decide)) (by rfl) T._law_pick.m T._law_pick.F.kp (L2.Fun.binds (ps := ["source", "top"]) T._law_pick.F fun _ _ _ _ _ _ us hl => match us, hl with | [_, _], _ => rfl) (pma_cons (pm_var 0) (pma_cons (pm_callB call_lenM (by rfl) T.n_len bt_len (pma_cons (pm_var 5) pma_nil)) pma_nil)) (cnt_cons (cnt_cons cnt_nil))))) (pmb_one (pms_set 5 sc__law_book.nd (pm_bin op_addM (pm_lcG (own := [(("window" : Str), 7)]) (ow := [7]) fin_T rfl sc__law_book.nd (pmi_seq (pm_var 5)) ⟨rfl, of_decide_eq_true (by kernel_rfl), of_decide_eq_true (by kernel_rfl), of_decide_eq_true (by kernel_rfl), of_decide_eq_true (by kernel_rfl)⟩ (fun s H C cl fp => (pmg_name 7 sc__law_book.nd)) (fun s H C cl fp => (pmts_one (pmt_cmp (op_neM (r64 hr)) (pm_var 7) (pm_var 6)))) (fun s H C cl fp => (pm_var 7))) (pm_sl (pm_var 5) pmp_none (pmp_some pm_int)))))) pmb_nil) (pmb_cons (pms_if (pmt_cmp (op_eqM (r64 hr)) (pm_var 4) pm_int) (pmb_cons (pms_par2 8 9 rfl sc__law_book.nd (pma_cons (ix_M (r1 hr) (fun _ _ => rfl) (fun _ _ => rfl) (pm_var 5) (pmG_call (ok__law_pick T) gd (hr.mono (by decide)) (by rfl) T._law_pick.m T._law_pick.F.kp (L2.Fun.binds (ps := ["source", "top"]) T._law_pick.F fun _ _ _ _ _ _ us hl => match us, hl with | [_, _], _ => rfl) (pma_cons (pm_var 0) (pma_cons (pm_callB call_lenM (by rfl) T.n_len bt_len (pma_cons (pm_var 5) pma_nil)) pma_nil)) (cnt_cons (cnt_cons cnt_nil)))) (pma_cons (ix_M (r1 hr) (fun _ _ => rfl) (fun _ _ => rfl) (pm_var 3) (pmG_call (ok__law_pick T) gd (hr.mono (by decide)) (by rfl) T._law_pick.m T._law_pick.F.kp (L2.Fun.binds (ps := ["source", "top"]) T._law_pick.F fun _ _ _ _ _ _ us hl => match us, hl with | [_, _], _ => rfl) (pma_cons (pm_var 0) (pma_cons (pm_callB call_lenM (by rfl) T.n_len bt_len (pma_cons (pm_var 3) pma_nil)) pma_nil)) (cnt_cons (cnt_cons cnt_nil)))) pma_nil))) (pmb_one (pms_set 5 sc__law_book.nd (pm_bin op_addM (pm_sl (pm_var 5) pmp_none (pmp_some (pm_bin op_subM (pm_var 1) pm_int))) (pm_lst (pma_cons (ix_M (r1 hr) (fun _ _ => rfl) (fun _ _ => rfl) (pm_lst (pma_cons (pm_bin op_addM (pm_sl (pm_var 8) (pmp_some pm_int) pmp_none) (pm_var 9)) (pma_cons (pm_bin op_addM (pm_var 9) (pm_sl (pm_var 8) pmp_none (pmp_some (pm_un un_negM pm_int)))) pma_nil))) (pmG_call (ok__law_pick T) gd (hr.mono (by decide)) (by rfl) T._law_pick.m T._law_pick.F.kp (L2.Fun.binds (ps := ["source", "top"]) T._law_pick.F fun _ _ _ _ _ _ us hl => match us, hl with | [_, _], _ => rfl) (pma_cons (pm_var 0) (pma_cons pm_int pma_nil)) (cnt_cons (cnt_cons cnt_nil)))) pma_nil)))))) pmb_nil) (pmb_cons (pms_if (pmt_cmp (op_eqM (r64 hr)) (pm_var 4) pm_int) (pmb_cons (pms_set 10 sc__law_book.nd (pmG_call (ok__law_word T) gd (hr.mono (by decide)) (by rfl) T._law_word.m T._law_word.F.kp (L2.Fun.binds (ps := ["source", "letters", "size"]) T._law_word.F fun _ _ _ _ _ _ us hl => match us, hl with | [_, _, _], _ => rfl) (pma_cons (pm_var 0) (pma_cons (pm_var 3) (pma_cons (pm_bin op_addM (pm_var 2) (pmG_call (ok__law_pick T) gd (hr.mono (by decide)) (by rfl) T._law_pick.m T._law_pick.F.kp (L2.Fun.binds (ps := ["source", "top"]) T._law_pick.F fun _ _ _ _ _ _ us hl => match us, hl with | [_, _], _ => rfl) (pma_cons (pm_var 0) (pma_cons (pm_var 1) pma_nil)) (cnt_cons (cnt_cons cnt_nil)))) pma_nil))) (cnt_cons (cnt_cons (cnt_cons cnt_nil))))) (pmb_one (pms_setLcG 5 (own := [(("at" : Str), 11)]) (ow := [11]) fin_T rfl sc__law_book.nd (pmi_range1 (by rfl) T.n_range (pma_cons (pm_bin op_addM (pm_bin op_subM (pm_callB call_lenM (by rfl) T.n_len bt_len (pma_cons (pm_var 10) pma_nil)) (pm_var 2)) pm_int) pma_nil)) ⟨rfl, of_decide_eq_true (by kernel_rfl), of_decide_eq_true (by kernel_rfl), of_decide_eq_true (by kernel_rfl), of_decide_eq_true (by kernel_rfl)⟩ (fun s H C cl fp => (pmg_name 11 sc__law_book.nd)) (fun s H C cl fp => pmts_nil) (fun s H C cl fp => (pm_sl (pm_var 10) (pmp_some (pm_var 11)) (pmp_some (pm_bin op_addM (pm_var 11) (pm_var 2)))))))) pmb_nil) (pmb_cons (pms_if (pmt_cmp (op_eqM (r64 hr)) (pm_var 4) pm_int) (pmb_one (pms_setLcG 5 (own := [(("turn" : Str), 12)]) (ow := [12]) fin_T rfl sc__law_book.nd (pmi_range1 (by rfl) T.n_range (pma_cons (pm_bin op_addM pm_int (pmG_call (ok__law_pick T) gd (hr.mono (by decide)) (by rfl) T._law_pick.m T._law_pick.F.kp (L2.Fun.binds (ps := ["source", "top"]) T._law_pick.F fun _ _ _ _ _ _ us hl => match us, hl with | [_, _], _ => rfl) (pma_cons (pm_var 0) (pma_cons (pm_var 1) pma_nil)) (cnt_cons (cnt_cons cnt_nil)))) pma_nil)) ⟨rfl, of_decide_eq_true (by kernel_rfl), of_decide_eq_true (by kernel_rfl), of_decide_eq_true (by kernel_rfl), of_decide_eq_true (by kernel_rfl)⟩ (fun s H C cl fp => (pmg_name 12 sc__law_book.nd)) (fun s H C cl fp => pmts_nil) (fun s H C cl fp => (pmG_call (ok__law_word T) gd (hr.mono (by decide)) (by rfl) T._law_word.m T._law_word.F.kp (L2.Fun.binds (ps := ["source", "letters", "size"]) T._law_word.F fun _ _ _ _ _ _ us hl => match us, hl with | [_, _, _], _ => rfl) (pma_cons (pm_var 0) (pma_cons (pm_var 3) (pma_cons (pm_var 2) pma_nil))) (cnt_cons (cnt_cons (cnt_cons cnt_nil))))))) pmb_nil) (pmb_one (pms_ret (pm_tup (pma_cons (pm_var 2) (pma_cons (pm_callTy call_tupM (by rfl) T.n_tuple bt_tuple (pma_cons (pm_sl (pm_sortSet mk_T rfl (r65 hr) (by rfl) T.n_sorted (by rfl) T.n_set (pm_var 5)) pmp_none (pmp_some (pm_var 1))) pma_nil)) pma_nil)))))))))))
abbrev st__law_odd_window : Stmt := top 35
theorem sc__law_odd_window : FnScope ["source", "window", "at", "sign", "odd"] ["source", "window"] (defScope st__law_odd_window) := ⟨rfl, rfl, rfl, by decide +kernel, rfl, by decide +kernel, by decide +kernel⟩
noncomputable def b__law_odd_window : MS := (sSeq (sSet 2 (mCall m__law_pick (mCons (mVar 0) (mCons (mCallB lenG (mCons (mVar 1) mNil)) mNil)))) (sSeq (sSet 3 (mOp2 subG (mC (.str (cs "AZ0 .
-{`~"))) (mCall m__law_pick (mCons (mVar 0) (mCons (mC (.int 10)) mNil))))) (sSeq (sSet 4 (mLst (mCons (mOp2 (lT2 addT) (mOp2 (lT2 addT) (mSl (mVar 1) none (some (mVar 2))) (mVar 3)) (mSl (mVar 1) (some (mOp2 (lT2 addT) (mVar 2) (mC (.int 1)))) none)) (mCons (mOp2 (lT2 addT) (mVar 1) (mC (.str (cs "a")))) (mCons (mSl (mVar 1) none (some (mOp1 (lT1 negT) (mC (.int 1))))) (mCons (mC (.str (cs ""))) (mCons (mMeth kdStr upperG (mVar 1) mNil) (mCons (mC .non) (mCons (mC (.int 7)) (mCons (mC (.bl true)) (mCons (mTup (mCons (mVar 1) mNil)) mNil))))))))))) (sSeq (sSet 4 (mOp2 (lT2 addT) (mVar 4) (mLst (mCons (mLst (mCons (mVar 1) mNil)) (mCons (mCallB (lTL fun ts => (signsL ts).map .lst) (mCons (mVar 1) mNil)) (mCons (mOp2 (lT2 addT) (mVar 1) (mC (.str (cs "
")))) (mCons (mRev (mVar 1)) (mCons (mDic1 finD (mVar 1) (mC (.int 1))) (mCons (mSl (mC (.str (cs "aaaaaaa"))) none (some (mCallB lenG (mCons (mVar 1) mNil)))) (mCons (mOp1 (lT1 negT) (mC (.int 1))) (mCons (mTup mNil) mNil))))))))))) (sRet (mOp2 subG (mVar 4) (mCall m__law_pick (mCons (mVar 0) (mCons (mCallB lenG (mCons (mVar 4) mNil)) mNil)))))))))
noncomputable def m__law_odd_window : MF := mDef 5 b__law_odd_window
theorem ok__law_odd_window (T : Wd K mg) : FnG P w K mg base CX0 2 T._law_odd_window.f T._law_odd_window.fd ["source", "window"] (spM K 2 m__law_odd_window) :=
  fng_ok (fb := b__law_odd_window) (N := ["source", "window", "at", "sign", "odd"]) (ps := ["source", "window"]) (k := 1) T._law_odd_window.F sc__law_odd_window fun cdv A outer s H E gd hr => (pmb_cons (pms_set 2 sc__law_odd_window.nd (pmG_call (ok__law_pick T) gd (hr.mono (by decide)) (by rfl) T._law_pick.m T._law_pick.F.kp (L2.Fun.binds (ps := ["source", "top"]) T._law_pick.F fun _ _ _ _ _ _ us hl => match us, hl with | [_, _], _ => rfl) (pma_cons (pm_var 0) (pma_cons (pm_callB call_lenM (by rfl) T.n_len bt_len (pma_cons (pm_var 1) pma_nil)) pma_nil)) (cnt_cons (cnt_cons cnt_nil)))) (pmb_cons (pms_set 3 sc__law_odd_window.nd (ix_M (r1 hr) (fun _ _ => rfl) (fun _ _ => rfl) (pm_str (cs "AZ0 .
-{`~") (sv_cs _) (by decide)) (pmG_call (ok__law_pick T) gd (hr.mono (by decide)) (by rfl) T._law_pick.m T._law_pick.F.kp (L2.Fun.binds (ps := ["source", "top"]) T._law_pick.F fun _ _ _ _ _ _ us hl => match us, hl with | [_, _], _ => rfl) (pma_cons (pm_var 0) (pma_cons pm_int pma_nil)) (cnt_cons (cnt_cons cnt_nil))))) (pmb_cons (pms_set 4 sc__law_odd_window.nd (pm_lst (pma_cons (pm_bin op_addM (pm_bin op_addM (pm_sl (pm_var 1) pmp_none (pmp_some (pm_var 2))) (pm_var 3)) (pm_sl (pm_var 1) (pmp_some (pm_bin op_addM (pm_var 2) pm_int)) pmp_none)) (pma_cons (pm_bin op_addM (pm_var 1) (pm_str (cs "a") (sv_cs _) (by decide))) (pma_cons (pm_sl (pm_var 1) pmp_none (pmp_some (pm_un un_negM pm_int))) (pma_cons (pm_str (cs "") (sv_cs _) (by decide)) (pma_cons (pm_meth0 PySem.F.plainAttrs_str PySem.F.slot_str_upper PySem.F.type_str_upper kd_str mt_upperM (pm_var 1)) (pma_cons pm_non (pma_cons pm_int (pma_cons pm_bl (pma_cons (pm_tup (pma_cons (pm_var 1) pma_nil)) pma_nil))))))))))) (pmb_cons (pms_set 4 sc__law_odd_window.nd (pm_bin op_addM (pm_var 4) (pm_lst (pma_cons (pm_lst (pma_cons (pm_var 1) pma_nil)) (pma_cons (pm_callTy (call_signsM rfl) (by rfl) T.n_list bt_list (pma_cons (pm_var 1) pma_nil)) (pma_cons (pm_bin op_addM (pm_var 1) (pm_str (cs "
") (sv_cs _) (by decide))) (pma_cons (pm_rev (pm_var 1)) (pma_cons (pm_dic1 fin_D (pm_var 1) pm_int) (pma_cons (pm_sl (pm_str (cs "aaaaaaa") (sv_cs _) (by decide)) pmp_none (pmp_some (pm_callB call_lenM (by rfl) T.n_len bt_len (pma_cons (pm_var 1) pma_nil)))) (pma_cons (pm_un un_negM pm_int) (pma_cons (pm_tup pma_nil) pma_nil))))))))))) (pmb_one (pms_ret (ix_M (r1 hr) (fun _ _ => rfl) (fun _ _ => rfl) (pm_var 4) (pmG_call (ok__law_pick T) gd (hr.mono (by decide)) (by rfl) T._law_pick.m T._law_pick.F.kp (L2.Fun.binds (ps := ["source", "top"]) T._law_pick.F fun _ _ _ _ _ _ us hl => match us, hl with | [_, _], _ => rfl) (pma_cons (pm_var 0) (pma_cons (pm_callB call_lenM (by rfl) T.n_len bt_len (pma_cons (pm_var 4) pma_nil)) pma_nil)) (cnt_cons (cnt_cons cnt_nil))))))))))
abbrev st__law_bent_book : Stmt := top 36
theorem sc__law_bent_book : FnScope ["source", "book", "size", "windows", "kind", "at", "others", "sizes", "turned", "rows"] ["source", "book"] (defScope st__law_bent_book) := ⟨rfl, rfl, rfl, by decide +kernel, rfl, by decide +kernel, by decide +kernel⟩
noncomputable def b__law_bent_book : MS := (sSeq (sAsg (gT 2 (gsCons (gN 2) (gsCons (gN 3) gsNil))) (mVar 1)) (sSeq (sPar2 4 5 (mCons (mCall m__law_pick (mCons (mVar 0) (mCons (mC (.int 4)) mNil))) (mCons (mCall m__law_pick (mCons (mVar 0) (mCons (mCallB lenG (mCons (mVar 3) mNil)) mNil))) mNil))) (sSeq (sIf (mB (mOp2 (lT2 eqT) (mVar 4) (mC (.int 0)))) (sSeq (sSet 6 (mLst (mCons (mCallB (lTL lstOfT) (mCons (mVar 1) mNil)) (mCons (mSl (mVar 1) none (some (mC (.int 1)))) (mCons (mOp2 (lT2 addT) (mVar 1) (mTup (mCons (mC (.int 0)) mNil))) (mCons (mRevT (mVar 1)) (mCons (mTup (mCons (mVar 1) mNil)) (mCons (mVar 3) (mCons (mVar 2) (mCons (mC .non) (mCons (mC (.bl true)) (mCons (mC (.str (cs "book"))) (mCons (mTup mNil) (mCons (mFrz mDicC) (mCons (mLst (mCons (mVar 1) mNil)) mNil))))))))))))))) (sRet (mOp2 subG (mVar 6) (mCall m__law_pick (mCons (mVar 0) (mCons (mC (.int 13)) mNil)))))) sNil) (sSeq (sIf (mB (mOp2 (lT2 eqT) (mVar 4) (mC (.int 1)))) (sSeq (sSet 7 (mLst (mCons (mOp2 (lT2 addT) (mVar 2) (mC (.int 1))) (mCons (mOp2 (lT2 subT) (mVar 2) (mC (.int 1))) (mCons (mC (.int 1)) (mCons (mC (.int 7)) (mCons (mC (.int 0)) (mCons (mOp1 (lT1 negT) (mVar 2)) (mCons (mC (.bl true)) (mCons (mC .non) (mCons (mC (.str (cs "2"))) (mCons (mTup (mCons (mVar 2) mNil)) (mCons (mLst (mCons (mVar 2) mNil)) (mCons (mOp2 (lT2 powT) (mC (.int 10)) (mC (.int 30))) (mCons (mOp2 (lT2 addT) (mVar 2) (mOp2 (lT2 powT) (mC (.int 10)) (mC (.int 20)))) mNil))))))))))))))) (sRet (mTup (mCons (mOp2 subG (mVar 7) (mCall m__law_pick (mCons (mVar 0) (mCons (mC (.int 13)) mNil)))) (mCons (mVar 3) mNil))))) sNil) (sSeq (sIf (mB (mOp2 (lT2 eqT) (mVar 4) (mC (.int 2)))) (sSeq (sSet 8 (mOp2 (lT2 addT) (mOp2 (lT2 addT) (mOp2 (lT2 addT) (mSl (mVar 3) none (some (mVar 5))) (mSl (mVar 3) (some (mOp2 (lT2 addT) (mVar 5) (mC (.int 1)))) (some (mOp2 (lT2 addT) (mVar 5) (mC (.int 2)))))) (mSl (mVar 3) (some (mVar 5)) (some (mOp2 (lT2 addT) (mVar 5) (mC (.int 1)))))) (mSl (mVar 3) (some (mOp2 (lT2 addT) (mVar 5) (mC (.int 2)))) none))) (sSeq (sSet 9 (mLst (mCons (mCallB (lTL lstOfT) (mCons (mVar 3) mNil)) (mCons (mTup mNil) (mCons (mRevT (mVar 3)) (mCons (mVar 8) (mCons (mOp2 (lT2 addT) (mVar 3) (mSl (mVar 3) (some (mOp1 (lT1 negT) (mC (.int 1)))) none)) (mCons (mOp2 (lT2 addT) (mSl (mVar 3) (some (mVar 5)) (some (mOp2 (lT2 addT) (mVar 5) (mC (.int 1))))) (mVar 3)) (mCons (mFrzZ frzJ (mDit1 (mVar 3) (mC (.bl true)))) mNil))))))))) (sSeq (sSet 9 (mOp2 (lT2 addT) (mVar 9) (mLst (mCons (mMeth kdStr joinG (mC (.str (cs ""))) (mCons (mVar 3) mNil)) (mCons (mC .non) (mCons (mC (.int 0)) (mCons (mOp2 (lT2 addT) (mSl (mVar 3) none (some (mVar 5))) (mSl (mVar 3) (some (mOp2 (lT2 addT) (mVar 5) (mC (.int 1)))) none)) (mCons (mTup (mCons (mVar 3) mNil)) (mCons (mCallB (lTL lstOfT) (mCons (mSl (mVar 3) none (some (mC (.int 1)))) mNil)) mNil))))))))) (sRet (mTup (mCons (mVar 2) (mCons (mOp2 subG (mVar 9) (mCall m__law_pick (mCons (mVar 0) (mCons (mC (.int 13)) mNil)))) mNil))))))) sNil) (sRet (mTup (mCons (mVar 2) (mCons (mOp2 (lT2 addT) (mOp2 (lT2 addT) (mSl (mVar 3) none (some (mVar 5))) (mTup (mCons (mCall m__law_odd_window (mCons (mVar 0) (mCons (mOp2 subG (mVar 3) (mVar 5)) mNil))) mNil))) (mSl (mVar 3) (some (mOp2 (lT2 addT) (mVar 5) (mC (.int 1)))) none)) mNil)))))))))
noncomputable def m__law_bent_book : MF := mDef 10 b__law_bent_book
theorem ok__law_bent_book (T : Wd K mg) : FnG P w K mg base CX0 3 T._law_bent_book.f T._law_bent_book.fd ["source", "book"] (spM K 2 m__law_bent_book) :=
  fng_ok (fb := b__law_bent_book) (N := ["source", "book", "size", "windows", "kind", "at", "others", "sizes", "turned", "rows"]) (ps := ["source", "book"]) (k := 2) T._law_bent_book.F sc__law_bent_book fun cdv A outer s H E gd hr => (pmb_cons (pms_asg (pm_var 1) (pmg_tup rfl (pmgs_cons (pmg_name 2 sc__law_bent_book.nd) (pmgs_cons (pmg_name 3 sc__law_bent_book.nd) pmgs_nil)))) (pmb_cons (pms_par2 4 5 rfl sc__law_bent_book.nd (pma_cons (pmG_call (ok__law_pick T) gd (hr.mono (by decide)) (by rfl) T._law_pick.m T._law_pick.F.kp (L2.Fun.binds (ps := ["source", "top"]) T._law_pick.F fun _ _ _ _ _ _ us hl => match us, hl with | [_, _], _ => rfl) (pma_cons (pm_var 0) (pma_cons pm_int pma_nil)) (cnt_cons (cnt_cons cnt_nil))) (pma_cons (pmG_call (ok__law_pick T) gd (hr.mono (by decide)) (by rfl) T._law_pick.m T._law_pick.F.kp (L2.Fun.binds (ps := ["source", "top"]) T._law_pick.F fun _ _ _ _ _ _ us hl => match us, hl with | [_, _], _ => rfl) (pma_cons (pm_var 0) (pma_cons (pm_callB call_lenM (by rfl) T.n_len bt_len (pma_cons (pm_var 3) pma_nil)) pma_nil)) (cnt_cons (cnt_cons cnt_nil))) pma_nil))) (pmb_cons (pms_if (pmt_cmp (op_eqM (r64 hr)) (pm_var 4) pm_int) (pmb_cons (pms_set 6 sc__law_bent_book.nd (pm_lst (pma_cons (pm_callTy call_lstM (by rfl) T.n_list bt_list (pma_cons (pm_var 1) pma_nil)) (pma_cons (pm_sl (pm_var 1) pmp_none (pmp_some pm_int)) (pma_cons (pm_bin op_addM (pm_var 1) (pm_tup (pma_cons pm_int pma_nil))) (pma_cons (pm_revT (pm_var 1)) (pma_cons (pm_tup (pma_cons (pm_var 1) pma_nil)) (pma_cons (pm_var 3) (pma_cons (pm_var 2) (pma_cons pm_non (pma_cons pm_bl (pma_cons (pm_str (cs "book") (sv_cs _) (by decide)) (pma_cons (pm_tup pma_nil) (pma_cons (pm_frz pm_dicC) (pma_cons (pm_lst (pma_cons (pm_var 1) pma_nil)) pma_nil))))))))))))))) (pmb_one (pms_ret (ix_M (r1 hr) (fun _ _ => rfl) (fun _ _ => rfl) (pm_var 6) (pmG_call (ok__law_pick T) gd (hr.mono (by decide)) (by rfl) T._law_pick.m T._law_pick.F.kp (L2.Fun.binds (ps := ["source", "top"]) T._law_pick.F fun _ _ _ _ _ _ us hl => match us, hl with | [_, _], _ => rfl) (pma_cons (pm_var 0) (pma_cons pm_int pma_nil)) (cnt_cons (cnt_cons cnt_nil))))))) pmb_nil) (pmb_cons (pms_if (pmt_cmp (op_eqM (r64 hr)) (pm_var 4) pm_int) (pmb_cons (pms_set 7 sc__law_bent_book.nd (pm_lst (pma_cons (pm_bin op_addM (pm_var 2) pm_int) (pma_cons (pm_bin op_subM (pm_var 2) pm_int) (pma_cons pm_int (pma_cons pm_int (pma_cons pm_int (pma_cons (pm_un un_negM (pm_var 2)) (pma_cons pm_bl (pma_cons pm_non (pma_cons (pm_str (cs "2") (sv_cs _) (by decide)) (pma_cons (pm_tup (pma_cons (pm_var 2) pma_nil)) (pma_cons (pm_lst (pma_cons (pm_var 2) pma_nil)) (pma_cons (pm_bin op_powM pm_int pm_int) (pma_cons (pm_bin op_addM (pm_var 2) (pm_bin op_powM pm_int pm_int)) pma_nil))))))))))))))) (pmb_one (pms_ret (pm_tup (pma_cons (ix_M (r1 hr) (fun _ _ => rfl) (fun _ _ => rfl) (pm_var 7) (pmG_call (ok__law_pick T) gd (hr.mono (by decide)) (by rfl) T._law_pick.m T._law_pick.F.kp (L2.Fun.binds (ps := ["source", "top"]) T._law_pick.F fun _ _ _ _ _ _ us hl => match us, hl with | [_, _], _ => rfl) (pma_cons (pm_var 0) (pma_cons pm_int pma_nil)) (cnt_cons (cnt_cons cnt_nil)))) (pma_cons (pm_var 3) pma_nil)))))) pmb_nil) (pmb_cons (pms_if (pmt_cmp (op_eqM (r64 hr)) (pm_var 4) pm_int) (pmb_cons (pms_set 8 sc__law_bent_book.nd (pm_bin op_addM (pm_bin op_addM (pm_bin op_addM (pm_sl (pm_var 3) pmp_none (pmp_some (pm_var 5))) (pm_sl (pm_var 3) (pmp_some (pm_bin op_addM (pm_var 5) pm_int)) (pmp_some (pm_bin op_addM (pm_var 5) pm_int)))) (pm_sl (pm_var 3) (pmp_some (pm_var 5)) (pmp_some (pm_bin op_addM (pm_var 5) pm_int)))) (pm_sl (pm_var 3) (pmp_some (pm_bin op_addM (pm_var 5) pm_int)) pmp_none))) (pmb_cons (pms_set 9 sc__law_bent_book.nd (pm_lst (pma_cons (pm_callTy call_lstM (by rfl) T.n_list bt_list (pma_cons (pm_var 3) pma_nil)) (pma_cons (pm_tup pma_nil) (pma_cons (pm_revT (pm_var 3)) (pma_cons (pm_var 8) (pma_cons (pm_bin op_addM (pm_var 3) (pm_sl (pm_var 3) (pmp_some (pm_un un_negM pm_int)) pmp_none)) (pma_cons (pm_bin op_addM (pm_sl (pm_var 3) (pmp_some (pm_var 5)) (pmp_some (pm_bin op_addM (pm_var 5) pm_int))) (pm_var 3)) (pma_cons (pm_frzZ fz_J (pm_dit1 (r1 hr) (pm_var 3) pm_bl)) pma_nil))))))))) (pmb_cons (pms_set 9 sc__law_bent_book.nd (pm_bin op_addM (pm_var 9) (pm_lst (pma_cons (pm_meth PySem.F.plainAttrs_str PySem.F.slot_str_join PySem.F.type_str_join kd_str mt_joinM (pm_str (cs "") (sv_cs _) (by decide)) (pma_cons (pm_var 3) pma_nil)) (pma_cons pm_non (pma_cons pm_int (pma_cons (pm_bin op_addM (pm_sl (pm_var 3) pmp_none (pmp_some (pm_var 5))) (pm_sl (pm_var 3) (pmp_some (pm_bin op_addM (pm_var 5) pm_int)) pmp_none)) (pma_cons (pm_tup (pma_cons (pm_var 3) pma_nil)) (pma_cons (pm_callTy call_lstM (by rfl) T.n_list bt_list (pma_cons (pm_sl (pm_var 3) pmp_none (pmp_some pm_int)) pma_nil)) pma_nil))))))))) (pmb_one (pms_ret (pm_tup (pma_cons (pm_var 2) (pma_cons (ix_M (r1 hr) (fun _ _ => rfl) (fun _ _ => rfl) (pm_var 9) (pmG_call (ok__law_pick T) gd (hr.mono (by decide)) (by rfl) T._law_pick.m T._law_pick.F.kp (L2.Fun.binds (ps := ["source", "top"]) T._law_pick.F fun _ _ _ _ _ _ us hl => match us, hl with | [_, _], _ => rfl) (pma_cons (pm_var 0) (pma_cons pm_int pma_nil)) (cnt_cons (cnt_cons cnt_nil)))) pma_nil)))))))) pmb_nil) (pmb_one (pms_ret (pm_tup (pma_cons (pm_var 2) (pma_cons (pm_bin op_addM (pm_bin op_addM (pm_sl (pm_var 3) pmp_none (pmp_some (pm_var 5))) (pm_tup (pma_cons (pmG_call (ok__law_odd_window T) gd (hr.mono (by decide)) (by rfl) T._law_odd_window.m T._law_odd_window.F.kp (L2.Fun.binds (ps := ["source", "window"]) T._law_odd_window.F fun _ _ _ _ _ _ us hl => match us, hl with | [_, _], _ => rfl) (pma_cons (pm_var 0) (pma_cons (ix_M (r1 hr) (fun _ _ => rfl) (fun _ _ => rfl) (pm_var 3) (pm_var 5)) pma_nil)) (cnt_cons (cnt_cons cnt_nil))) pma_nil))) (pm_sl (pm_var 3) (pmp_some (pm_bin op_addM (pm_var 5) pm_int)) pmp_none)) pma_nil))))))))))
abbrev st__law_is_word : Stmt := top 33
theorem sc__law_is_word : FnScope ["value", "least", "sign"] ["value", "least"] (defScope st__law_is_word) := ⟨rfl, rfl, rfl, by decide +kernel, rfl, by decide +kernel, by decide +kernel⟩
noncomputable def b__law_is_word : MS := (sSeq (sIf (mOrT (mNotT (mT (mCallB isiX (mCons (mVar 0) (mCons (mC (.ty "str")) mNil))))) (mB (mOp2 (lT2 ltT) (mCallB lenG (mCons (mVar 0) mNil)) (mVar 1)))) (sRet (mC (.bl false))) sNil) (sRet (mOp2 (lT2 eqT) (mLcG finT (mIt (mVar 0)) (gN 2) [2] (mB (mOp2 (inG true) (mVar 2) (mC (.str (cs "abcdefghijklmnopqrstuvwxyz"))))) (mVar 2)) (mLst mNil))))
noncomputable def m__law_is_word : MF := mDef 3 b__law_is_word
theorem ok__law_is_word (T : Wd K mg) : FnG P w K mg base CX0 1 T._law_is_word.f T._law_is_word.fd ["value", "least"] (spM K 2 m__law_is_word) :=
  fng_ok (fb := b__law_is_word) (N := ["value", "least", "sign"]) (ps := ["value", "least"]) (k := 0) T._law_is_word.F sc__law_is_word fun cdv A outer s H E gd hr => (pmb_cons (pms_if ((pmw_or (pmt_not (pmt_val (pm_callB call_isiXM (by rfl) T.n_isinstance bt_isinstance (pma_cons (pm_var 0) (pma_cons (pm_ty (by rfl) T.n_str bt_str) pma_nil))))) (pmw_or1 (pmt_cmp (op_ltM (r64 hr)) (pm_callB call_lenM (by rfl) T.n_len bt_len (pma_cons (pm_var 0) pma_nil)) (pm_var 1))))).pt (pmb_one (pms_ret pm_bl)) pmb_nil) (pmb_one (pms_ret (pm_cmp (op_eqM (r64 hr)) (pm_lcG (own := [(("sign" : Str), 2)]) (ow := [2]) fin_T rfl sc__law_is_word.nd (pmi_seq (pm_var 0)) ⟨rfl, of_decide_eq_true (by kernel_rfl), of_decide_eq_true (by kernel_rfl), of_decide_eq_true (by kernel_rfl), of_decide_eq_true (by kernel_rfl)⟩ (fun s H C cl fp => (pmg_name 2 sc__law_is_word.nd)) (fun s H C cl fp => (pmts_one (pmt_cmp (op_inM true (r65 hr)) (pm_var 2) (pm_str (cs "abcdefghijklmnopqrstuvwxyz") (sv_cs _) (by decide))))) (fun s H C cl fp => (pm_var 2))) (pm_lst pma_nil)))))
abbrev st__law_is_book : Stmt := top 34
theorem sc__law_is_book : FnScope ["value", "size", "window"] ["value"] (defScope st__law_is_book) := ⟨rfl, rfl, rfl, by decide +kernel, rfl, by decide +kernel, by decide +kernel⟩
noncomputable def b__law_is_book : MS := (sSeq (sIf (mOrT (mNotT (mT (mCallB isiX (mCons (mVar 0) (mCons (mC (.ty "tuple")) mNil))))) (mOrT (mB (mOp2 (lT2 neT) (mCallB lenG (mCons (mVar 0) mNil)) (mC (.int 2)))) (mOrT (mNotT (mT (mCallB isiX (mCons (mOp2 subG (mVar 0) (mC (.int 1))) (mCons (mC (.ty "tuple")) mNil))))) (mB (mOp2 (lT2 eqZT) (mOp2 subG (mVar 0) (mC (.int 1))) (mTup mNil)))))) (sRet (mC (.bl false))) sNil) (sSeq (sSet 1 (mOp2 subG (mVar 0) (mC (.int 0)))) (sSeq (sIf (mOrT (mNotT (mT (mCallB isiX (mCons (mVar 1) (mCons (mC (.ty "int")) mNil))))) (mOrT (mT (mCallB isiX (mCons (mVar 1) (mCons (mC (.ty "bool")) mNil)))) (mNotT (mB (mChain (lT2 ltT) (lT2 ltT) (mC (.int 1)) (mVar 1) (mC (.int 7))))))) (sRet (mC (.bl false))) sNil) (sSeq (sIf (mNotT (mT (mCallB (lTL allT) (mCons (mLcG finT (mIt (mOp2 subG (mVar 0) (mC (.int 1)))) (gN 2) [2] mYes (mAnd (mCall (pureZ m__law_is_word) (mCons (mVar 2) (mCons (mVar 1) mNil))) (mOp2 (lT2 eqT) (mCallB lenG (mCons (mVar 2) mNil)) (mVar 1)))) mNil)))) (sRet (mC (.bl false))) sNil) (sRet (mOp2 (lT2 eqT) (mCallB (lTL lstOfT) (mCons (mOp2 subG (mVar 0) (mC (.int 1))) mNil)) (mSortSet mkT (mOp2 subG (mVar 0) (mC (.int 1))))))))))
noncomputable def m__law_is_book : MF := mDef 3 b__law_is_book
theorem ok__law_is_book (T : Wd K mg) : FnG P w K mg base CX0 2 T._law_is_book.f T._law_is_book.fd ["value"] (spM K 1 m__law_is_book) :=
  fng_ok (fb := b__law_is_book) (N := ["value", "size", "window"]) (ps := ["value"]) (k := 1) T._law_is_book.F sc__law_is_book fun cdv A outer s H E gd hr => (pmb_cons (pms_if ((pmw_or (pmt_not (pmt_val (pm_callB call_isiXM (by rfl) T.n_isinstance bt_isinstance (pma_cons (pm_var 0) (pma_cons (pm_ty (by rfl) T.n_tuple bt_tuple) pma_nil))))) (pmw_or (pmt_cmp (op_neM (r64 hr)) (pm_callB call_lenM (by rfl) T.n_len bt_len (pma_cons (pm_var 0) pma_nil)) pm_int) (pmw_or (pmt_not (pmt_val (pm_callB call_isiXM (by rfl) T.n_isinstance bt_isinstance (pma_cons (ix_M (r1 hr) (fun _ _ => rfl) (fun _ _ => rfl) (pm_var 0) pm_int) (pma_cons (pm_ty (by rfl) T.n_tuple bt_tuple) pma_nil))))) (pmw_or1 (pmt_cmp (op_eqZM (r64 hr)) (ix_M (r1 hr) (fun _ _ => rfl) (fun _ _ => rfl) (pm_var 0) pm_int) (pm_tup pma_nil))))))).pt (pmb_one (pms_ret pm_bl)) pmb_nil) (pmb_cons (pms_set 1 sc__law_is_book.nd (ix_M (r1 hr) (fun _ _ => rfl) (fun _ _ => rfl) (pm_var 0) pm_int)) (pmb_cons (pms_if ((pmw_or (pmt_not (pmt_val (pm_callB call_isiXM (by rfl) T.n_isinstance bt_isinstance (pma_cons (pm_var 1) (pma_cons (pm_ty (by rfl) T.n_int bt_int) pma_nil))))) (pmw_or (pmt_val (pm_callB call_isiXM (by rfl) T.n_isinstance bt_isinstance (pma_cons (pm_var 1) (pma_cons (pm_ty (by rfl) T.n_bool bt_bool) pma_nil)))) (pmw_or1 (pmt_not (pmt_chain (op_ltM (r64 hr)) (op_ltM (r64 hr)) pm_int (pm_var 1) pm_int)))))).pt (pmb_one (pms_ret pm_bl)) pmb_nil) (pmb_cons (pms_if (pmt_not (pmt_val (pm_callB (call_allM rfl) (by rfl) T.n_all bt_all (pma_cons (pm_lcG (own := [(("window" : Str), 2)]) (ow := [2]) fin_T rfl sc__law_is_book.nd (pmi_seq (ix_M (r1 hr) (fun _ _ => rfl) (fun _ _ => rfl) (pm_var 0) pm_int)) ⟨rfl, of_decide_eq_true (by kernel_rfl), of_decide_eq_true (by kernel_rfl), of_decide_eq_true (by kernel_rfl), of_decide_eq_true (by kernel_rfl)⟩ (fun s H C cl fp => (pmg_name 2 sc__law_is_book.nd)) (fun s H C cl fp => pmts_nil) (fun s H C cl fp => (pm_and (pmG_call (fng_tree (ok__law_is_word T)) gd (hr.mono (by decide)) (by rfl) T._law_is_word.m T._law_is_word.F.kp (L2.Fun.binds (ps := ["value", "least"]) T._law_is_word.F fun _ _ _ _ _ _ us hl => match us, hl with | [_, _], _ => rfl) (pma_cons (pm_var 2) (pma_cons (pm_var 1) pma_nil)) (cnt_cons (cnt_cons cnt_nil))) (pm_one (pm_cmp (op_eqM (r64 hr)) (pm_callB call_lenM (by rfl) T.n_len bt_len (pma_cons (pm_var 2) pma_nil)) (pm_var 1)))))) pma_nil)))) (pmb_one (pms_ret pm_bl)) pmb_nil) (pmb_one (pms_ret (pm_cmp (op_eqM (r64 hr)) (pm_callTy call_lstM (by rfl) T.n_list bt_list (pma_cons (ix_M (r1 hr) (fun _ _ => rfl) (fun _ _ => rfl) (pm_var 0) pm_int) pma_nil)) (pm_sortSet mk_T rfl (r65 hr) (by rfl) T.n_sorted (by rfl) T.n_set (ix_M (r1 hr) (fun _ _ => rfl) (fun _ _ => rfl) (pm_var 0) pm_int)))))))))
abbrev st__law_same : Stmt := top 32
theorem sc__law_same : FnScope ["found", "due", "at"] ["found", "due"] (defScope st__law_same) := ⟨rfl, rfl, rfl, by decide +kernel, rfl, by decide +kernel, by decide +kernel⟩
noncomputable def m__law_same : Nat → MF
  | 0 => fun _ _ _ => .no
  | k + 1 => mDef 3 ((sSeq (sIf (mOrT (mT (mCallB isiG (mCons (mVar 1) (mCons (mC (.ty "list")) mNil)))) (mT (mCallB isiG (mCons (mVar 1) (mCons (mC (.ty "tuple")) mNil))))) (sSeq (sIf (mOrT (mB (mOp2 (lT2 neT) (mCallB isiG (mCons (mVar 0) (mCons (mC (.ty "list")) mNil))) (mCallB isiG (mCons (mVar 1) (mCons (mC (.ty "list")) mNil))))) (mB (mOp2 (lT2 neT) (mCallB isiG (mCons (mVar 0) (mCons (mC (.ty "tuple")) mNil))) (mCallB isiG (mCons (mVar 1) (mCons (mC (.ty "tuple")) mNil)))))) (sRet (mC (.bl false))) sNil) (sRet (mAnd (mOp2 (lT2 eqT) (mCallB lenG (mCons (mVar 0) mNil)) (mCallB lenG (mCons (mVar 1) mNil))) (mCallB (lTL allT) (mCons (mLcG finT (mI rng1Of (mCons (mCallB lenG (mCons (mVar 1) mNil)) mNil)) (gN 2) [2] mYes (mCall (pureZ (m__law_same k)) (mCons (mOp2 subG (mVar 0) (mVar 2)) (mCons (mOp2 subG (mVar 1) (mVar 2)) mNil)))) mNil))))) sNil) (sSeq (sIf (mT (mCallB isiG (mCons (mVar 1) (mCons (mC (.ty "bool")) mNil)))) (sRet (mAnd (mCallB isiG (mCons (mVar 0) (mCons (mC (.ty "bool")) mNil))) (mOp2 (lT2 eqT) (mVar 0) (mVar 1)))) sNil) (sSeq (sIf (mT (mCallB isiG (mCons (mVar 1) (mCons (mC (.ty "str")) mNil)))) (sRet (mAnd (mCallB isiG (mCons (mVar 0) (mCons (mC (.ty "str")) mNil))) (mOp2 (lT2 eqT) (mVar 0) (mVar 1)))) sNil) (sRet (mOp2 (isNoneG false) (mVar 0) (mC .non)))))))
theorem ok__law_same (T : Wd K mg) : ∀ k : Nat, FnG P w K mg base CX0 (k + 0 + 1) T._law_same.f T._law_same.fd ["found", "due"] (spM K 2 (m__law_same k))
  | 0 => FnG.no
  | k + 1 => by
    have ih := ok__law_same T k
    exact fng_ok (N := ["found", "due", "at"]) (ps := ["found", "due"]) (k := k + 0 + 1) T._law_same.F sc__law_same fun cdv A outer s H E gd hr => (pmb_cons (pms_if ((pmw_or (pmt_val (pm_callB call_isiM (by rfl) T.n_isinstance bt_isinstance (pma_cons (pm_var 1) (pma_cons (pm_ty (by rfl) T.n_list bt_list) pma_nil)))) (pmw_or1 (pmt_val (pm_callB call_isiM (by rfl) T.n_isinstance bt_isinstance (pma_cons (pm_var 1) (pma_cons (pm_ty (by rfl) T.n_tuple bt_tuple) pma_nil))))))).pt (pmb_cons (pms_if ((pmw_or (pmt_cmp (op_neM (r64 hr)) (pm_callB call_isiM (by rfl) T.n_isinstance bt_isinstance (pma_cons (pm_var 0) (pma_cons (pm_ty (by rfl) T.n_list bt_list) pma_nil))) (pm_callB call_isiM (by rfl) T.n_isinstance bt_isinstance (pma_cons (pm_var 1) (pma_cons (pm_ty (by rfl) T.n_list bt_list) pma_nil)))) (pmw_or1 (pmt_cmp (op_neM (r64 hr)) (pm_callB call_isiM (by rfl) T.n_isinstance bt_isinstance (pma_cons (pm_var 0) (pma_cons (pm_ty (by rfl) T.n_tuple bt_tuple) pma_nil))) (pm_callB call_isiM (by rfl) T.n_isinstance bt_isinstance (pma_cons (pm_var 1) (pma_cons (pm_ty (by rfl) T.n_tuple bt_tuple) pma_nil))))))).pt (pmb_one (pms_ret pm_bl)) pmb_nil) (pmb_one (pms_ret (pm_and (pm_cmp (op_eqM (r64 hr)) (pm_callB call_lenM (by rfl) T.n_len bt_len (pma_cons (pm_var 0) pma_nil)) (pm_callB call_lenM (by rfl) T.n_len bt_len (pma_cons (pm_var 1) pma_nil))) (pm_one (pm_callB (call_allM rfl) (by rfl) T.n_all bt_all (pma_cons (pm_lcG (own := [(("at" : Str), 2)]) (ow := [2]) fin_T rfl sc__law_same.nd (pmi_range1 (by rfl) T.n_range (pma_cons (pm_callB call_lenM (by rfl) T.n_len bt_len (pma_cons (pm_var 1) pma_nil)) pma_nil)) ⟨rfl, of_decide_eq_true (by kernel_rfl), of_decide_eq_true (by kernel_rfl), of_decide_eq_true (by kernel_rfl), of_decide_eq_true (by kernel_rfl)⟩ (fun s H C cl fp => (pmg_name 2 sc__law_same.nd)) (fun s H C cl fp => pmts_nil) (fun s H C cl fp => (pmG_call (fng_tree ih) gd hr (by rfl) T._law_same.m T._law_same.F.kp (L2.Fun.binds (ps := ["found", "due"]) T._law_same.F fun _ _ _ _ _ _ us hl => match us, hl with | [_, _], _ => rfl) (pma_cons (ix_M (r1 hr) (fun _ _ => rfl) (fun _ _ => rfl) (pm_var 0) (pm_var 2)) (pma_cons (ix_M (r1 hr) (fun _ _ => rfl) (fun _ _ => rfl) (pm_var 1) (pm_var 2)) pma_nil)) (cnt_cons (cnt_cons cnt_nil))))) pma_nil))))))) pmb_nil) (pmb_cons (pms_if (pmt_val (pm_callB call_isiM (by rfl) T.n_isinstance bt_isinstance (pma_cons (pm_var 1) (pma_cons (pm_ty (by rfl) T.n_bool bt_bool) pma_nil)))) (pmb_one (pms_ret (pm_and (pm_callB call_isiM (by rfl) T.n_isinstance bt_isinstance (pma_cons (pm_var 0) (pma_cons (pm_ty (by rfl) T.n_bool bt_bool) pma_nil))) (pm_one (pm_cmp (op_eqM (r64 hr)) (pm_var 0) (pm_var 1)))))) pmb_nil) (pmb_cons (pms_if (pmt_val (pm_callB call_isiM (by rfl) T.n_isinstance bt_isinstance (pma_cons (pm_var 1) (pma_cons (pm_ty (by rfl) T.n_str bt_str) pma_nil)))) (pmb_one (pms_ret (pm_and (pm_callB call_isiM (by rfl) T.n_isinstance bt_isinstance (pma_cons (pm_var 0) (pma_cons (pm_ty (by rfl) T.n_str bt_str) pma_nil))) (pm_one (pm_cmp (op_eqM (r64 hr)) (pm_var 0) (pm_var 1)))))) pmb_nil) (pmb_one (pms_ret (pm_cmp (op_isM false) (pm_var 0) pm_non))))))
abbrev st_is_integer : Stmt := top 7
theorem sc_is_integer : FnScope ["value"] ["value"] (defScope st_is_integer) := ⟨rfl, rfl, rfl, by decide +kernel, rfl, by decide +kernel, by decide +kernel⟩
noncomputable def b_is_integer : MS := (sRet (mAnd (mCallB isiX (mCons (mVar 0) (mCons (mC (.ty "int")) mNil))) (mNot (mCallB isiX (mCons (mVar 0) (mCons (mC (.ty "bool")) mNil))))))
noncomputable def m_is_integer : MF := mDef 1 b_is_integer
theorem ok_is_integer (T : Wd K mg) : FnG P w K mg base CX0 1 T.is_integer.f T.is_integer.fd ["value"] (spM K 1 m_is_integer) :=
  fng_ok (fb := b_is_integer) (N := ["value"]) (ps := ["value"]) (k := 0) T.is_integer.F sc_is_integer fun cdv A outer s H E gd hr => (pmb_one (pms_ret (pm_and (pm_callB call_isiXM (by rfl) T.n_isinstance bt_isinstance (pma_cons (pm_var 0) (pma_cons (pm_ty (by rfl) T.n_int bt_int) pma_nil))) (pm_one (pm_not (pm_callB call_isiXM (by rfl) T.n_isinstance bt_isinstance (pma_cons (pm_var 0) (pma_cons (pm_ty (by rfl) T.n_bool bt_bool) pma_nil))))))))
abbrev st_is_size : Stmt := top 11
theorem sc_is_size : FnScope ["value"] ["value"] (defScope st_is_size) := ⟨rfl, rfl, rfl, by decide +kernel, rfl, by decide +kernel, by decide +kernel⟩
noncomputable def b_is_size : MS := (sRet (mAnd (mCall (pureZ m_is_integer) (mCons (mVar 0) mNil)) (mChain (lT2 leT) (lT2 leT) (mC (.int 2)) (mVar 0) (mC (.int 6)))))
noncomputable def m_is_size : MF := mDef 1 b_is_size
theorem ok_is_size (T : Wd K mg) : FnG P w K mg base CX0 2 T.is_size.f T.is_size.fd ["value"] (spM K 1 m_is_size) :=
  fng_ok (fb := b_is_size) (N := ["value"]) (ps := ["value"]) (k := 1) T.is_size.F sc_is_size fun cdv A outer s H E gd hr => (pmb_one (pms_ret (pm_and (pmG_call (fng_tree (ok_is_integer T)) gd (hr.mono (by decide)) (by rfl) T.is_integer.m T.is_integer.F.kp (L2.Fun.binds (ps := ["value"]) T.is_integer.F fun _ _ _ _ _ _ us hl => match us, hl with | [_], _ => rfl) (pma_cons (pm_var 0) pma_nil) (cnt_cons cnt_nil)) (pm_one (pm_chain (op_leM (r64 hr)) (op_leM (r64 hr)) (pm_globI (by rfl) T.c_LEAST_SIZE) (pm_var 0) (pm_globI (by rfl) T.c_MOST_SIZE))))))
abbrev st_is_word : Stmt := top 10
theorem sc_is_word : FnScope ["value", "sign"] ["value"] (defScope st_is_word) := ⟨rfl, rfl, rfl, by decide +kernel, rfl, by decide +kernel, by decide +kernel⟩
noncomputable def b_is_word : MS := (sRet (mAnd (mCallB isiX (mCons (mVar 0) (mCons (mC (.ty "str")) mNil))) (mCallB (lTL allT) (mCons (mLcG finT (mIt (mVar 0)) (gN 1) [1] mYes (mOp2 (inG false) (mVar 1) (mC (.str (cs "abcdefghijklmnopqrstuvwxyz"))))) mNil))))
noncomputable def m_is_word : MF := mDef 2 b_is_word
theorem ok_is_word (T : Wd K mg) : FnG P w K mg base CX0 1 T.is_word.f T.is_word.fd ["value"] (spM K 1 m_is_word) :=
  fng_ok (fb := b_is_word) (N := ["value", "sign"]) (ps := ["value"]) (k := 0) T.is_word.F sc_is_word fun cdv A outer s H E gd hr => (pmb_one (pms_ret (pm_and (pm_callB call_isiXM (by rfl) T.n_isinstance bt_isinstance (pma_cons (pm_var 0) (pma_cons (pm_ty (by rfl) T.n_str bt_str) pma_nil))) (pm_one (pm_callB (call_allM rfl) (by rfl) T.n_all bt_all (pma_cons (pm_lcG (own := [(("sign" : Str), 1)]) (ow := [1]) fin_T rfl sc_is_word.nd (pmi_seq (pm_var 0)) ⟨rfl, of_decide_eq_true (by kernel_rfl), of_decide_eq_true (by kernel_rfl), of_decide_eq_true (by kernel_rfl), of_decide_eq_true (by kernel_rfl)⟩ (fun s H C cl fp => (pmg_name 1 sc_is_word.nd)) (fun s H C cl fp => pmts_nil) (fun s H C cl fp => (pm_cmp (op_inM false (r65 hr)) (pm_var 1) (pm_globS (cs "abcdefghijklmnopqrstuvwxyz") (by rfl) T.c_LETTERS (sv_cs _) (by decide))))) pma_nil))))))
abbrev st_are_ascending : Stmt := top 9
theorem sc_are_ascending : FnScope ["values", "at"] ["values"] (defScope st_are_ascending) := ⟨rfl, rfl, rfl, by decide +kernel, rfl, by decide +kernel, by decide +kernel⟩
noncomputable def b_are_ascending : MS := (sRet (mCallB (lTL allT) (mCons (mLcG finT (mI rng1Of (mCons (mOp2 (lT2 subT) (mCallB lenG (mCons (mVar 0) mNil)) (mC (.int 1))) mNil)) (gN 1) [1] mYes (mOp2 (lT2 ltT) (mOp2 subG (mVar 0) (mVar 1)) (mOp2 subG (mVar 0) (mOp2 (lT2 addT) (mVar 1) (mC (.int 1)))))) mNil)))
noncomputable def m_are_ascending : MF := mDef 2 b_are_ascending
theorem ok_are_ascending (T : Wd K mg) : FnG P w K mg base CX0 1 T.are_ascending.f T.are_ascending.fd ["values"] (spM K 1 m_are_ascending) :=
  fng_ok (fb := b_are_ascending) (N := ["values", "at"]) (ps := ["values"]) (k := 0) T.are_ascending.F sc_are_ascending fun cdv A outer s H E gd hr => (pmb_one (pms_ret (pm_callB (call_allM rfl) (by rfl) T.n_all bt_all (pma_cons (pm_lcG (own := [(("at" : Str), 1)]) (ow := [1]) fin_T rfl sc_are_ascending.nd (pmi_range1 (by rfl) T.n_range (pma_cons (pm_bin op_subM (pm_callB call_lenM (by rfl) T.n_len bt_len (pma_cons (pm_var 0) pma_nil)) pm_int) pma_nil)) ⟨rfl, of_decide_eq_true (by kernel_rfl), of_decide_eq_true (by kernel_rfl), of_decide_eq_true (by kernel_rfl), of_decide_eq_true (by kernel_rfl)⟩ (fun s H C cl fp => (pmg_name 1 sc_are_ascending.nd)) (fun s H C cl fp => pmts_nil) (fun s H C cl fp => (pm_cmp (op_ltM (r64 hr)) (ix_M (r1 hr) (fun _ _ => rfl) (fun _ _ => rfl) (pm_var 0) (pm_var 1)) (ix_M (r1 hr) (fun _ _ => rfl) (fun _ _ => rfl) (pm_var 0) (pm_bin op_addM (pm_var 1) pm_int))))) pma_nil))))
abbrev st_are_windows : Stmt := top 12
theorem sc_are_windows : FnScope ["size", "value", "window"] ["size", "value"] (defScope st_are_windows) := ⟨rfl, rfl, rfl, by decide +kernel, rfl, by decide +kernel, by decide +kernel⟩
noncomputable def b_are_windows : MS := (sSeq (sIf (mOrT (mNotT (mT (mCallB isiX (mCons (mVar 1) (mCons (mC (.ty "tuple")) mNil))))) (mNotT (mT (mCallB (lTL allT) (mCons (mLcG finT (mIt (mVar 1)) (gN 2) [2] mYes (mAnd (mCall (pureZ m_is_word) (mCons (mVar 2) mNil)) (mOp2 (lT2 eqT) (mCallB lenG (mCons (mVar 2) mNil)) (mVar 0)))) mNil))))) (sRet (mC (.bl false))) sNil) (sRet (mCall (pureZ m_are_ascending) (mCons (mVar 1) mNil))))
noncomputable def m_are_windows : MF := mDef 3 b_are_windows
theorem ok_are_windows (T : Wd K mg) : FnG P w K mg base CX0 2 T.are_windows.f T.are_windows.fd ["size", "value"] (spM K 2 m_are_windows) :=
  fng_ok (fb := b_are_windows) (N := ["size", "value", "window"]) (ps := ["size", "value"]) (k := 1) T.are_windows.F sc_are_windows fun cdv A outer s H E gd hr => (pmb_cons (pms_if ((pmw_or (pmt_not (pmt_val (pm_callB call_isiXM (by rfl) T.n_isinstance bt_isinstance (pma_cons (pm_var 1) (pma_cons (pm_ty (by rfl) T.n_tuple bt_tuple) pma_nil))))) (pmw_or1 (pmt_not (pmt_val (pm_callB (call_allM rfl) (by rfl) T.n_all bt_all (pma_cons (pm_lcG (own := [(("window" : Str), 2)]) (ow := [2]) fin_T rfl sc_are_windows.nd (pmi_seq (pm_var 1)) ⟨rfl, of_decide_eq_true (by kernel_rfl), of_decide_eq_true (by kernel_rfl), of_decide_eq_true (by kernel_rfl), of_decide_eq_true (by kernel_rfl)⟩ (fun s H C cl fp => (pmg_name 2 sc_are_windows.nd)) (fun s H C cl fp => pmts_nil) (fun s H C cl fp => (pm_and (pmG_call (fng_tree (ok_is_word T)) gd (hr.mono (by decide)) (by rfl) T.is_word.m T.is_word.F.kp (L2.Fun.binds (ps := ["value"]) T.is_word.F fun _ _ _ _ _ _ us hl => match us, hl with | [_], _ => rfl) (pma_cons (pm_var 2) pma_nil) (cnt_cons cnt_nil)) (pm_one (pm_cmp (op_eqM (r64 hr)) (pm_callB call_lenM (by rfl) T.n_len bt_len (pma_cons (pm_var 2) pma_nil)) (pm_var 0)))))) pma_nil))))))).pt (pmb_one (pms_ret pm_bl)) pmb_nil) (pmb_one (pms_ret (pmG_call (fng_tree (ok_are_ascending T)) gd (hr.mono (by decide)) (by rfl) T.are_ascending.m T.are_ascending.F.kp (L2.Fun.binds (ps := ["values"]) T.are_ascending.F fun _ _ _ _ _ _ us hl => match us, hl with | [_], _ => rfl) (pma_cons (pm_var 1) pma_nil) (cnt_cons cnt_nil)))))
abbrev st_is_a_book : Stmt := top 13
theorem sc_is_a_book : FnScope ["value"] ["value"] (defScope st_is_a_book) := ⟨rfl, rfl, rfl, by decide +kernel, rfl, by decide +kernel, by decide +kernel⟩
noncomputable def b_is_a_book : MS := (sSeq (sIf (mOrT (mNotT (mT (mCallB isiX (mCons (mVar 0) (mCons (mC (.ty "tuple")) mNil))))) (mOrT (mB (mOp2 (lT2 neT) (mCallB lenG (mCons (mVar 0) mNil)) (mC (.int 2)))) (mNotT (mT (mCall (pureZ m_is_size) (mCons (mOp2 subG (mVar 0) (mC (.int 0))) mNil)))))) (sRet (mC (.bl false))) sNil) (sRet (mAnd (mCall (pureZ m_are_windows) (mCons (mOp2 subG (mVar 0) (mC (.int 0))) (mCons (mOp2 subG (mVar 0) (mC (.int 1))) mNil))) (mOp2 (lT2 gtT) (mCallB lenG (mCons (mOp2 subG (mVar 0) (mC (.int 1))) mNil)) (mC (.int 0))))))
noncomputable def m_is_a_book : MF := mDef 1 b_is_a_book
theorem ok_is_a_book (T : Wd K mg) : FnG P w K mg base CX0 3 T.is_a_book.f T.is_a_book.fd ["value"] (spM K 1 m_is_a_book) :=
  fng_ok (fb := b_is_a_book) (N := ["value"]) (ps := ["value"]) (k := 2) T.is_a_book.F sc_is_a_book fun cdv A outer s H E gd hr => (pmb_cons (pms_if ((pmw_or (pmt_not (pmt_val (pm_callB call_isiXM (by rfl) T.n_isinstance bt_isinstance (pma_cons (pm_var 0) (pma_cons (pm_ty (by rfl) T.n_tuple bt_tuple) pma_nil))))) (pmw_or (pmt_cmp (op_neM (r64 hr)) (pm_callB call_lenM (by rfl) T.n_len bt_len (pma_cons (pm_var 0) pma_nil)) pm_int) (pmw_or1 (pmt_not (pmt_val (pmG_call (fng_tree (ok_is_size T)) gd (hr.mono (by decide)) (by rfl) T.is_size.m T.is_size.F.kp (L2.Fun.binds (ps := ["value"]) T.is_size.F fun _ _ _ _ _ _ us hl => match us, hl with | [_], _ => rfl) (pma_cons (ix_M (r1 hr) (fun _ _ => rfl) (fun _ _ => rfl) (pm_var 0) pm_int) pma_nil) (cnt_cons cnt_nil)))))))).pt (pmb_one (pms_ret pm_bl)) pmb_nil) (pmb_one (pms_ret (pm_and (pmG_call (fng_tree (ok_are_windows T)) gd (hr.mono (by decide)) (by rfl) T.are_windows.m T.are_windows.F.kp (L2.Fun.binds (ps := ["size", "value"]) T.are_windows.F fun _ _ _ _ _ _ us hl => match us, hl with | [_, _], _ => rfl) (pma_cons (ix_M (r1 hr) (fun _ _ => rfl) (fun _ _ => rfl) (pm_var 0) pm_int) (pma_cons (ix_M (r1 hr) (fun _ _ => rfl) (fun _ _ => rfl) (pm_var 0) pm_int) pma_nil)) (cnt_cons (cnt_cons cnt_nil))) (pm_one (pm_cmp (op_gtM (r64 hr)) (pm_callB call_lenM (by rfl) T.n_len bt_len (pma_cons (ix_M (r1 hr) (fun _ _ => rfl) (fun _ _ => rfl) (pm_var 0) pm_int) pma_nil)) pm_int))))))
abbrev st_is_book : Stmt := top 20
theorem sc_is_book : FnScope ["value"] ["value"] (defScope st_is_book) := ⟨rfl, rfl, rfl, by decide +kernel, rfl, by decide +kernel, by decide +kernel⟩
noncomputable def b_is_book : MS := (sRet (mCall (pureZ m_is_a_book) (mCons (mVar 0) mNil)))
noncomputable def m_is_book : MF := mDef 1 b_is_book
theorem ok_is_book (T : Wd K mg) : FnG P w K mg base CX0 4 T.is_book.f T.is_book.fd ["value"] (spM K 1 m_is_book) :=
  fng_ok (fb := b_is_book) (N := ["value"]) (ps := ["value"]) (k := 3) T.is_book.F sc_is_book fun cdv A outer s H E gd hr => (pmb_one (pms_ret (pmG_call (fng_tree (ok_is_a_book T)) gd (hr.mono (by decide)) (by rfl) T.is_a_book.m T.is_a_book.F.kp (L2.Fun.binds (ps := ["value"]) T.is_a_book.F fun _ _ _ _ _ _ us hl => match us, hl with | [_], _ => rfl) (pma_cons (pm_var 0) pma_nil) (cnt_cons cnt_nil))))
abbrev st__law_books_right : Stmt := top 40
theorem sc__law_books_right : FnScope ["source", "book", "values", "turn", "value", "due"] ["source", "book"] (defScope st__law_books_right) := ⟨rfl, rfl, rfl, by decide +kernel, rfl, by decide +kernel, by decide +kernel⟩
noncomputable def b__law_books_right : MS := (sSeq (sSet 2 (mOp2 addC (mLst (mCons (mVar 1) mNil)) (mLcG finT (mI rng1Of (mCons (mC (.int 4)) mNil)) (gN 3) [3] mYes (mCall m__law_bent_book (mCons (mVar 0) (mCons (mVar 1) mNil)))))) (sSeq (sExpr (mMeth kdLst appendG (mVar 2) (mCons (mIf (mT (mCall (pureZ m__law_is_book) (mCons (mOp2 subG (mVar 2) (mOp1 (lT1 negT) (mC (.int 1)))) mNil))) (mCall m__law_bent_book (mCons (mVar 0) (mCons (mOp2 subG (mVar 2) (mOp1 (lT1 negT) (mC (.int 1)))) mNil))) (mVar 1)) mNil))) (sSeq (sFrz 2) (sSeq (sFor (mIt (mVar 2)) (gN 4) (sSeq (sSet 5 (mCall (pureZ m__law_is_book) (mCons (mVar 4) mNil))) (sIf (mNotT (mT (mCall (pureZ (m__law_same 6)) (mCons (mLst (mCons (mCall (pureZ m_is_book) (mCons (mVar 4) mNil)) (mCons (mCallK (pureZ m_is_book) 0 1 [0] mNil (mCons (mVar 4) mNil)) mNil))) (mCons (mLst (mCons (mVar 5) (mCons (mVar 5) mNil))) mNil))))) (sRet (mC (.bl false))) sNil))) (sRet (mC (.bl true)))))))
noncomputable def m__law_books_right : MF := mDef 6 b__law_books_right
theorem ok__law_books_right (T : Wd K mg) : FnG P w K mg base CX0 8 T._law_books_right.f T._law_books_right.fd ["source", "book"] (spM K 2 m__law_books_right) :=
  fng_ok (fb := b__law_books_right) (N := ["source", "book", "values", "turn", "value", "due"]) (ps := ["source", "book"]) (k := 7) T._law_books_right.F sc__law_books_right fun cdv A outer s H E gd hr => (pmb_cons (pms_set 2 sc__law_books_right.nd (pm_bin op_addC (pm_lst (pma_cons (pm_var 1) pma_nil)) (pm_lcG (own := [(("turn" : Str), 3)]) (ow := [3]) fin_T rfl sc__law_books_right.nd (pmi_range1 (by rfl) T.n_range (pma_cons pm_int pma_nil)) ⟨rfl, of_decide_eq_true (by kernel_rfl), of_decide_eq_true (by kernel_rfl), of_decide_eq_true (by kernel_rfl), of_decide_eq_true (by kernel_rfl)⟩ (fun s H C cl fp => (pmg_name 3 sc__law_books_right.nd)) (fun s H C cl fp => pmts_nil) (fun s H C cl fp => (pmG_call (ok__law_bent_book T) gd (hr.mono (by decide)) (by rfl) T._law_bent_book.m T._law_bent_book.F.kp (L2.Fun.binds (ps := ["source", "book"]) T._law_bent_book.F fun _ _ _ _ _ _ us hl => match us, hl with | [_, _], _ => rfl) (pma_cons (pm_var 0) (pma_cons (pm_var 1) pma_nil)) (cnt_cons (cnt_cons cnt_nil))))))) (pmb_cons (pms_expr (pm_meth PySem.F.plainAttrs_list PySem.F.slot_list_append PySem.F.type_list_append kd_lst mt_appendM (pm_var 2) (pma_cons (pm_if (pmt_val (pmG_call (fng_tree (ok__law_is_book T)) gd (hr.mono (by decide)) (by rfl) T._law_is_book.m T._law_is_book.F.kp (L2.Fun.binds (ps := ["value"]) T._law_is_book.F fun _ _ _ _ _ _ us hl => match us, hl with | [_], _ => rfl) (pma_cons (ix_M (r1 hr) (fun _ _ => rfl) (fun _ _ => rfl) (pm_var 2) (pm_un un_negM pm_int)) pma_nil) (cnt_cons cnt_nil))) (pmG_call (ok__law_bent_book T) gd (hr.mono (by decide)) (by rfl) T._law_bent_book.m T._law_bent_book.F.kp (L2.Fun.binds (ps := ["source", "book"]) T._law_bent_book.F fun _ _ _ _ _ _ us hl => match us, hl with | [_, _], _ => rfl) (pma_cons (pm_var 0) (pma_cons (ix_M (r1 hr) (fun _ _ => rfl) (fun _ _ => rfl) (pm_var 2) (pm_un un_negM pm_int)) pma_nil)) (cnt_cons (cnt_cons cnt_nil))) (pm_var 1)) pma_nil))) (pmb_frz 2 (pmb_cons (pms_for PassesOwn.never rfl (pmi_seq (pm_var 2)) (pmg_name 4 sc__law_books_right.nd) (pmb_cons (pms_set 5 sc__law_books_right.nd (pmG_call (fng_tree (ok__law_is_book T)) gd (hr.mono (by decide)) (by rfl) T._law_is_book.m T._law_is_book.F.kp (L2.Fun.binds (ps := ["value"]) T._law_is_book.F fun _ _ _ _ _ _ us hl => match us, hl with | [_], _ => rfl) (pma_cons (pm_var 4) pma_nil) (cnt_cons cnt_nil))) (pmb_one (pms_if (pmt_not (pmt_val (pmG_call (fng_tree (ok__law_same T 6)) gd (hr.mono (by decide)) (by rfl) T._law_same.m T._law_same.F.kp (L2.Fun.binds (ps := ["found", "due"]) T._law_same.F fun _ _ _ _ _ _ us hl => match us, hl with | [_, _], _ => rfl) (pma_cons (pm_lst (pma_cons (pmG_call (fng_tree (ok_is_book T)) gd (hr.mono (by decide)) (by rfl) T.is_book.m T.is_book.F.kp (L2.Fun.binds (ps := ["value"]) T.is_book.F fun _ _ _ _ _ _ us hl => match us, hl with | [_], _ => rfl) (pma_cons (pm_var 4) pma_nil) (cnt_cons cnt_nil)) (pma_cons (pmG_callK0 (n := 1) (m1 := 1) (ix := [0]) (fng_tree (ok_is_book T)) gd (hr.mono (by decide)) (by rfl) T.is_book.m T.is_book.F.kp (fun_kb (ps := ["value"]) T.is_book.F ["value"] 0 1 [0] (by decide) (fun _ _ _ _ _ _ us ws h1 h2 => match us, ws, h1, h2 with | [], [_], _, _ => rfl)) (pmk_cons (pm_var 4) pmk_nil) (fun l hl => match l, hl with | [_], _ => rfl)) pma_nil))) (pma_cons (pm_lst (pma_cons (pm_var 5) (pma_cons (pm_var 5) pma_nil))) pma_nil)) (cnt_cons (cnt_cons cnt_nil))))) (pmb_one (pms_ret pm_bl)) pmb_nil)))) (pmb_one (pms_ret pm_bl))))))
abbrev st__law_odd_texts : Stmt := top 39
theorem sc__law_odd_texts : FnScope ["source", "text", "at", "letter", "odd", "turn"] ["source", "text"] (defScope st__law_odd_texts) := ⟨rfl, rfl, rfl, by decide +kernel, rfl, by decide +kernel, by decide +kernel⟩
noncomputable def b__law_odd_texts : MS := (sSeq (sPar2 2 3 (mCons (mCall m__law_pick (mCons (mVar 0) (mCons (mCallB lenG (mCons (mVar 1) mNil)) mNil))) (mCons (mOp2 subG (mC (.str (cs "abcdz"))) (mCall m__law_pick (mCons (mVar 0) (mCons (mC (.int 5)) mNil)))) mNil))) (sSeq (sSet 4 (mLst (mCons (mVar 1) (mCons (mOp2 (lT2 addT) (mOp2 (lT2 addT) (mSl (mVar 1) none (some (mVar 2))) (mVar 3)) (mSl (mVar 1) (some (mOp2 (lT2 addT) (mVar 2) (mC (.int 1)))) none)) (mCons (mOp2 (lT2 addT) (mOp2 (lT2 addT) (mSl (mVar 1) none (some (mVar 2))) (mVar 3)) (mSl (mVar 1) (some (mVar 2)) none)) (mCons (mOp2 (lT2 addT) (mSl (mVar 1) none (some (mVar 2))) (mSl (mVar 1) (some (mOp2 (lT2 addT) (mVar 2) (mC (.int 1)))) none)) (mCons (mSl (mVar 1) none (some (mVar 2))) mNil))))))) (sSeq (sSet 4 (mOp2 (lT2 addT) (mVar 4) (mLst (mCons (mSl (mVar 1) (some (mVar 2)) none) (mCons (mOp2 (lT2 addT) (mVar 1) (mVar 1)) (mCons (mRev (mVar 1)) (mCons (mMeth kdStr upperG (mVar 1) mNil) (mCons (mOp2 (lT2 addT) (mVar 1) (mC (.str (cs "
")))) (mCons (mOp2 (lT2 addT) (mOp2 (lT2 addT) (mSl (mVar 1) none (some (mVar 2))) (mC (.str (cs " ")))) (mSl (mVar 1) (some (mVar 2)) none)) (mCons (mC (.str (cs ""))) (mCons (mC (.str (cs "a"))) mNil))))))))))) (sSeq (sSet 4 (mOp2 (lT2 addT) (mVar 4) (mLst (mCons (mCallB (lTL fun ts => (signsL ts).map .lst) (mCons (mVar 1) mNil)) (mCons (mCallB (lTL signsT) (mCons (mVar 1) mNil)) (mCons (mLst (mCons (mVar 1) mNil)) (mCons (mTup (mCons (mVar 1) mNil)) (mCons (mC .non) (mCons (mC (.int 7)) (mCons (mC (.bl true)) (mCons (mDic1 finD (mC (.str (cs "a"))) (mVar 1)) (mCons (mOp2 (lT2 addT) (mOp2 (lT2 addT) (mSl (mVar 1) none (some (mVar 2))) (mC (.str (cs "1")))) (mSl (mVar 1) (some (mOp2 (lT2 addT) (mVar 2) (mC (.int 1)))) none)) mNil)))))))))))) (sRet (mOp2 (lT2 addT) (mLcG finT (mI rng1Of (mCons (mC (.int 4)) mNil)) (gN 5) [5] mYes (mOp2 subG (mVar 4) (mCall m__law_pick (mCons (mVar 0) (mCons (mCallB lenG (mCons (mVar 4) mNil)) mNil))))) (mLst (mCons (mVar 1) mNil))))))))
noncomputable def m__law_odd_texts : MF := mDef 6 b__law_odd_texts
theorem ok__law_odd_texts (T : Wd K mg) : FnG P w K mg base CX0 2 T._law_odd_texts.f T._law_odd_texts.fd ["source", "text"] (spM K 2 m__law_odd_texts) :=
  fng_ok (fb := b__law_odd_texts) (N := ["source", "text", "at", "letter", "odd", "turn"]) (ps := ["source", "text"]) (k := 1) T._law_odd_texts.F sc__law_odd_texts fun cdv A outer s H E gd hr => (pmb_cons (pms_par2 2 3 rfl sc__law_odd_texts.nd (pma_cons (pmG_call (ok__law_pick T) gd (hr.mono (by decide)) (by rfl) T._law_pick.m T._law_pick.F.kp (L2.Fun.binds (ps := ["source", "top"]) T._law_pick.F fun _ _ _ _ _ _ us hl => match us, hl with | [_, _], _ => rfl) (pma_cons (pm_var 0) (pma_cons (pm_callB call_lenM (by rfl) T.n_len bt_len (pma_cons (pm_var 1) pma_nil)) pma_nil)) (cnt_cons (cnt_cons cnt_nil))) (pma_cons (ix_M (r1 hr) (fun _ _ => rfl) (fun _ _ => rfl) (pm_str (cs "abcdz") (sv_cs _) (by decide)) (pmG_call (ok__law_pick T) gd (hr.mono (by decide)) (by rfl) T._law_pick.m T._law_pick.F.kp (L2.Fun.binds (ps := ["source", "top"]) T._law_pick.F fun _ _ _ _ _ _ us hl => match us, hl with | [_, _], _ => rfl) (pma_cons (pm_var 0) (pma_cons pm_int pma_nil)) (cnt_cons (cnt_cons cnt_nil)))) pma_nil))) (pmb_cons (pms_set 4 sc__law_odd_texts.nd (pm_lst (pma_cons (pm_var 1) (pma_cons (pm_bin op_addM (pm_bin op_addM (pm_sl (pm_var 1) pmp_none (pmp_some (pm_var 2))) (pm_var 3)) (pm_sl (pm_var 1) (pmp_some (pm_bin op_addM (pm_var 2) pm_int)) pmp_none)) (pma_cons (pm_bin op_addM (pm_bin op_addM (pm_sl (pm_var 1) pmp_none (pmp_some (pm_var 2))) (pm_var 3)) (pm_sl (pm_var 1) (pmp_some (pm_var 2)) pmp_none)) (pma_cons (pm_bin op_addM (pm_sl (pm_var 1) pmp_none (pmp_some (pm_var 2))) (pm_sl (pm_var 1) (pmp_some (pm_bin op_addM (pm_var 2) pm_int)) pmp_none)) (pma_cons (pm_sl (pm_var 1) pmp_none (pmp_some (pm_var 2))) pma_nil))))))) (pmb_cons (pms_set 4 sc__law_odd_texts.nd (pm_bin op_addM (pm_var 4) (pm_lst (pma_cons (pm_sl (pm_var 1) (pmp_some (pm_var 2)) pmp_none) (pma_cons (pm_bin op_addM (pm_var 1) (pm_var 1)) (pma_cons (pm_rev (pm_var 1)) (pma_cons (pm_meth0 PySem.F.plainAttrs_str PySem.F.slot_str_upper PySem.F.type_str_upper kd_str mt_upperM (pm_var 1)) (pma_cons (pm_bin op_addM (pm_var 1) (pm_str (cs "
") (sv_cs _) (by decide))) (pma_cons (pm_bin op_addM (pm_bin op_addM (pm_sl (pm_var 1) pmp_none (pmp_some (pm_var 2))) (pm_str (cs " ") (sv_cs _) (by decide))) (pm_sl (pm_var 1) (pmp_some (pm_var 2)) pmp_none)) (pma_cons (pm_str (cs "") (sv_cs _) (by decide)) (pma_cons (pm_str (cs "a") (sv_cs _) (by decide)) pma_nil))))))))))) (pmb_cons (pms_set 4 sc__law_odd_texts.nd (pm_bin op_addM (pm_var 4) (pm_lst (pma_cons (pm_callTy (call_signsM rfl) (by rfl) T.n_list bt_list (pma_cons (pm_var 1) pma_nil)) (pma_cons (pm_callTy (call_tsigns rfl) (by rfl) T.n_tuple bt_tuple (pma_cons (pm_var 1) pma_nil)) (pma_cons (pm_lst (pma_cons (pm_var 1) pma_nil)) (pma_cons (pm_tup (pma_cons (pm_var 1) pma_nil)) (pma_cons pm_non (pma_cons pm_int (pma_cons pm_bl (pma_cons (pm_dic1 fin_D (pm_str (cs "a") (sv_cs _) (by decide)) (pm_var 1)) (pma_cons (pm_bin op_addM (pm_bin op_addM (pm_sl (pm_var 1) pmp_none (pmp_some (pm_var 2))) (pm_str (cs "1") (sv_cs _) (by decide))) (pm_sl (pm_var 1) (pmp_some (pm_bin op_addM (pm_var 2) pm_int)) pmp_none)) pma_nil)))))))))))) (pmb_one (pms_ret (pm_bin op_addM (pm_lcG (own := [(("turn" : Str), 5)]) (ow := [5]) fin_T rfl sc__law_odd_texts.nd (pmi_range1 (by rfl) T.n_range (pma_cons pm_int pma_nil)) ⟨rfl, of_decide_eq_true (by kernel_rfl), of_decide_eq_true (by kernel_rfl), of_decide_eq_true (by kernel_rfl), of_decide_eq_true (by kernel_rfl)⟩ (fun s H C cl fp => (pmg_name 5 sc__law_odd_texts.nd)) (fun s H C cl fp => pmts_nil) (fun s H C cl fp => (ix_M (r1 hr) (fun _ _ => rfl) (fun _ _ => rfl) (pm_var 4) (pmG_call (ok__law_pick T) gd (hr.mono (by decide)) (by rfl) T._law_pick.m T._law_pick.F.kp (L2.Fun.binds (ps := ["source", "top"]) T._law_pick.F fun _ _ _ _ _ _ us hl => match us, hl with | [_, _], _ => rfl) (pma_cons (pm_var 0) (pma_cons (pm_callB call_lenM (by rfl) T.n_len bt_len (pma_cons (pm_var 4) pma_nil)) pma_nil)) (cnt_cons (cnt_cons cnt_nil)))))) (pm_lst (pma_cons (pm_var 1) pma_nil)))))))))
abbrev st__law_piece : Stmt := top 37
theorem sc__law_piece : FnScope ["source", "book", "most", "text", "size", "turn", "later", "window"] ["source", "book", "most"] (defScope st__law_piece) := ⟨rfl, rfl, rfl, by decide +kernel, rfl, by decide +kernel, by decide +kernel⟩
noncomputable def b__law_piece : MS := (sSeq (sAsg (gT 2 (gsCons (gN 3) (gsCons (gN 4) gsNil))) (mTup (mCons (mOp2 subG (mOp2 subG (mVar 1) (mC (.int 1))) (mCall m__law_pick (mCons (mVar 0) (mCons (mCallB lenG (mCons (mOp2 subG (mVar 1) (mC (.int 1))) mNil)) mNil)))) (mCons (mOp2 subG (mVar 1) (mC (.int 0))) mNil)))) (sSeq (sFor (mI rng1Of (mCons (mCall m__law_pick (mCons (mVar 0) (mCons (mOp2 (lT2 addT) (mOp2 (lT2 subT) (mVar 2) (mVar 4)) (mC (.int 1))) mNil))) mNil)) (gN 5) (sSeq (sSet 6 (mLcG finT (mIt (mOp2 subG (mVar 1) (mC (.int 1)))) (gN 7) [7] (mB (mOp2 (lT2 eqT) (mSl (mVar 7) none (some (mOp1 (lT1 negT) (mC (.int 1))))) (mSl (mVar 3) (some (mOp2 (lT2 subT) (mC (.int 1)) (mVar 4))) none))) (mVar 7))) (sIf (mB (mOp2 (lT2 neT) (mVar 6) (mLst mNil))) (sSet 3 (mOp2 (lT2 addT) (mVar 3) (mOp2 subG (mOp2 subG (mVar 6) (mCall m__law_pick (mCons (mVar 0) (mCons (mCallB lenG (mCons (mVar 6) mNil)) mNil)))) (mOp1 (lT1 negT) (mC (.int 1)))))) sNil))) (sRet (mVar 3))))
noncomputable def m__law_piece : MF := mDef 8 b__law_piece
theorem ok__law_piece (T : Wd K mg) : FnG P w K mg base CX0 2 T._law_piece.f T._law_piece.fd ["source", "book", "most"] (spM K 3 m__law_piece) :=
  fng_ok (fb := b__law_piece) (N := ["source", "book", "most", "text", "size", "turn", "later", "window"]) (ps := ["source", "book", "most"]) (k := 1) T._law_piece.F sc__law_piece fun cdv A outer s H E gd hr => (pmb_cons (pms_asg (pm_tup (pma_cons (ix_M (r1 hr) (fun _ _ => rfl) (fun _ _ => rfl) (ix_M (r1 hr) (fun _ _ => rfl) (fun _ _ => rfl) (pm_var 1) pm_int) (pmG_call (ok__law_pick T) gd (hr.mono (by decide)) (by rfl) T._law_pick.m T._law_pick.F.kp (L2.Fun.binds (ps := ["source", "top"]) T._law_pick.F fun _ _ _ _ _ _ us hl => match us, hl with | [_, _], _ => rfl) (pma_cons (pm_var 0) (pma_cons (pm_callB call_lenM (by rfl) T.n_len bt_len (pma_cons (ix_M (r1 hr) (fun _ _ => rfl) (fun _ _ => rfl) (pm_var 1) pm_int) pma_nil)) pma_nil)) (cnt_cons (cnt_cons cnt_nil)))) (pma_cons (ix_M (r1 hr) (fun _ _ => rfl) (fun _ _ => rfl) (pm_var 1) pm_int) pma_nil))) (pmg_tup rfl (pmgs_cons (pmg_name 3 sc__law_piece.nd) (pmgs_cons (pmg_name 4 sc__law_piece.nd) pmgs_nil)))) (pmb_cons (pms_for PassesOwn.never rfl (pmi_range1 (by rfl) T.n_range (pma_cons (pmG_call (ok__law_pick T) gd (hr.mono (by decide)) (by rfl) T._law_pick.m T._law_pick.F.kp (L2.Fun.binds (ps := ["source", "top"]) T._law_pick.F fun _ _ _ _ _ _ us hl => match us, hl with | [_, _], _ => rfl) (pma_cons (pm_var 0) (pma_cons (pm_bin op_addM (pm_bin op_subM (pm_var 2) (pm_var 4)) pm_int) pma_nil)) (cnt_cons (cnt_cons cnt_nil))) pma_nil)) (pmg_name 5 sc__law_piece.nd) (pmb_cons (pms_setLcG 6 (own := [(("window" : Str), 7)]) (ow := [7]) fin_T rfl sc__law_piece.nd (pmi_seq (ix_M (r1 hr) (fun _ _ => rfl) (fun _ _ => rfl) (pm_var 1) pm_int)) ⟨rfl, of_decide_eq_true (by kernel_rfl), of_decide_eq_true (by kernel_rfl), of_decide_eq_true (by kernel_rfl), of_decide_eq_true (by kernel_rfl)⟩ (fun s H C cl fp => (pmg_name 7 sc__law_piece.nd)) (fun s H C cl fp => (pmts_one (pmt_cmp (op_eqM (r64 hr)) (pm_sl (pm_var 7) pmp_none (pmp_some (pm_un un_negM pm_int))) (pm_sl (pm_var 3) (pmp_some (pm_bin op_subM pm_int (pm_var 4))) pmp_none)))) (fun s H C cl fp => (pm_var 7))) (pmb_one (pms_if (pmt_cmp (op_neM (r64 hr)) (pm_var 6) (pm_lst pma_nil)) (pmb_one (pms_set 3 sc__law_piece.nd (pm_bin op_addM (pm_var 3) (ix_M (r1 hr) (fun _ _ => rfl) (fun _ _ => rfl) (ix_M (r1 hr) (fun _ _ => rfl) (fun _ _ => rfl) (pm_var 6) (pmG_call (ok__law_pick T) gd (hr.mono (by decide)) (by rfl) T._law_pick.m T._law_pick.F.kp (L2.Fun.binds (ps := ["source", "top"]) T._law_pick.F fun _ _ _ _ _ _ us hl => match us, hl with | [_, _], _ => rfl) (pma_cons (pm_var 0) (pma_cons (pm_callB call_lenM (by rfl) T.n_len bt_len (pma_cons (pm_var 6) pma_nil)) pma_nil)) (cnt_cons (cnt_cons cnt_nil)))) (pm_un un_negM pm_int))))) pmb_nil)))) (pmb_one (pms_ret (pm_var 3)))))
abbrev st__law_is_piece : Stmt := top 38
theorem sc__law_is_piece : FnScope ["book", "value", "size", "at"] ["book", "value"] (defScope st__law_is_piece) := ⟨rfl, rfl, rfl, by decide +kernel, rfl, by decide +kernel, by decide +kernel⟩
noncomputable def b__law_is_piece : MS := (sSeq (sSet 2 (mOp2 subG (mVar 0) (mC (.int 0)))) (sSeq (sIf (mNotT (mT (mCall (pureZ m__law_is_word) (mCons (mVar 1) (mCons (mVar 2) mNil))))) (sRet (mC (.bl false))) sNil) (sRet (mOp2 (lT2 eqT) (mLcG finT (mI rng1Of (mCons (mOp2 (lT2 addT) (mOp2 (lT2 subT) (mCallB lenG (mCons (mVar 1) mNil)) (mVar 2)) (mC (.int 1))) mNil)) (gN 3) [3] (mB (mOp2 (inG true) (mSl (mVar 1) (some (mVar 3)) (some (mOp2 (lT2 addT) (mVar 3) (mVar 2)))) (mOp2 subG (mVar 0) (mC (.int 1))))) (mVar 3)) (mLst mNil)))))
noncomputable def m__law_is_piece : MF := mDef 4 b__law_is_piece
theorem ok__law_is_piece (T : Wd K mg) : FnG P w K mg base CX0 2 T._law_is_piece.f T._law_is_piece.fd ["book", "value"] (spM K 2 m__law_is_piece) :=
  fng_ok (fb := b__law_is_piece) (N := ["book", "value", "size", "at"]) (ps := ["book", "value"]) (k := 1) T._law_is_piece.F sc__law_is_piece fun cdv A outer s H E gd hr => (pmb_cons (pms_set 2 sc__law_is_piece.nd (ix_M (r1 hr) (fun _ _ => rfl) (fun _ _ => rfl) (pm_var 0) pm_int)) (pmb_cons (pms_if (pmt_not (pmt_val (pmG_call (fng_tree (ok__law_is_word T)) gd (hr.mono (by decide)) (by rfl) T._law_is_word.m T._law_is_word.F.kp (L2.Fun.binds (ps := ["value", "least"]) T._law_is_word.F fun _ _ _ _ _ _ us hl => match us, hl with | [_, _], _ => rfl) (pma_cons (pm_var 1) (pma_cons (pm_var 2) pma_nil)) (cnt_cons (cnt_cons cnt_nil))))) (pmb_one (pms_ret pm_bl)) pmb_nil) (pmb_one (pms_ret (pm_cmp (op_eqM (r64 hr)) (pm_lcG (own := [(("at" : Str), 3)]) (ow := [3]) fin_T rfl sc__law_is_piece.nd (pmi_range1 (by rfl) T.n_range (pma_cons (pm_bin op_addM (pm_bin op_subM (pm_callB call_lenM (by rfl) T.n_len bt_len (pma_cons (pm_var 1) pma_nil)) (pm_var 2)) pm_int) pma_nil)) ⟨rfl, of_decide_eq_true (by kernel_rfl), of_decide_eq_true (by kernel_rfl), of_decide_eq_true (by kernel_rfl), of_decide_eq_true (by kernel_rfl)⟩ (fun s H C cl fp => (pmg_name 3 sc__law_is_piece.nd)) (fun s H C cl fp => (pmts_one (pmt_cmp (op_inM true (r65 hr)) (pm_sl (pm_var 1) (pmp_some (pm_var 3)) (pmp_some (pm_bin op_addM (pm_var 3) (pm_var 2)))) (ix_M (r1 hr) (fun _ _ => rfl) (fun _ _ => rfl) (pm_var 0) pm_int)))) (fun s H C cl fp => (pm_var 3))) (pm_lst pma_nil))))))
abbrev st_need_book : Stmt := top 18
theorem sc_need_book : FnScope ["book"] ["book"] (defScope st_need_book) := ⟨rfl, rfl, rfl, by decide +kernel, rfl, by decide +kernel, by decide +kernel⟩
noncomputable def b_need_book : MS := (sIf (mNotT (mT (mCall (pureZ m_is_a_book) (mCons (mVar 0) mNil)))) sNo sNil)
noncomputable def m_need_book : MF := mDef 1 b_need_book
theorem ok_need_book (T : Wd K mg) : FnG P w K mg base CX0 4 T.need_book.f T.need_book.fd ["book"] (spM K 1 m_need_book) :=
  fng_ok (fb := b_need_book) (N := ["book"]) (ps := ["book"]) (k := 3) T.need_book.F sc_need_book fun cdv A outer s H E gd hr => (pmb_one (pms_if (pmt_not (pmt_val (pmG_call (fng_tree (ok_is_a_book T)) gd (hr.mono (by decide)) (by rfl) T.is_a_book.m T.is_a_book.F.kp (L2.Fun.binds (ps := ["value"]) T.is_a_book.F fun _ _ _ _ _ _ us hl => match us, hl with | [_], _ => rfl) (pma_cons (pm_var 0) pma_nil) (cnt_cons cnt_nil)))) (pmb_one pms_no) pmb_nil))
abbrev st_steps_of : Stmt := top 15
theorem sc_steps_of : FnScope ["size", "text", "at"] ["size", "text"] (defScope st_steps_of) := ⟨rfl, rfl, rfl, by decide +kernel, rfl, by decide +kernel, by decide +kernel⟩
noncomputable def b_steps_of : MS := (sRet (mLcG finT (mI rng1Of (mCons (mOp2 (lT2 addT) (mOp2 (lT2 subT) (mCallB lenG (mCons (mVar 1) mNil)) (mVar 0)) (mC (.int 1))) mNil)) (gN 2) [2] mYes (mSl (mVar 1) (some (mVar 2)) (some (mOp2 (lT2 addT) (mVar 2) (mVar 0))))))
noncomputable def m_steps_of : MF := mDef 3 b_steps_of
theorem ok_steps_of (T : Wd K mg) : FnG P w K mg base CX0 1 T.steps_of.f T.steps_of.fd ["size", "text"] (spM K 2 m_steps_of) :=
  fng_ok (fb := b_steps_of) (N := ["size", "text", "at"]) (ps := ["size", "text"]) (k := 0) T.steps_of.F sc_steps_of fun cdv A outer s H E gd hr => (pmb_one (pms_ret (pm_lcG (own := [(("at" : Str), 2)]) (ow := [2]) fin_T rfl sc_steps_of.nd (pmi_range1 (by rfl) T.n_range (pma_cons (pm_bin op_addM (pm_bin op_subM (pm_callB call_lenM (by rfl) T.n_len bt_len (pma_cons (pm_var 1) pma_nil)) (pm_var 0)) pm_int) pma_nil)) ⟨rfl, of_decide_eq_true (by kernel_rfl), of_decide_eq_true (by kernel_rfl), of_decide_eq_true (by kernel_rfl), of_decide_eq_true (by kernel_rfl)⟩ (fun s H C cl fp => (pmg_name 2 sc_steps_of.nd)) (fun s H C cl fp => pmts_nil) (fun s H C cl fp => (pm_sl (pm_var 1) (pmp_some (pm_var 2)) (pmp_some (pm_bin op_addM (pm_var 2) (pm_var 0))))))))
abbrev st_is_a_piece : Stmt := top 16
theorem sc_is_a_piece : FnScope ["book", "value", "known", "window", "step"] ["book", "value"] (defScope st_is_a_piece) := ⟨rfl, rfl, rfl, by decide +kernel, rfl, by decide +kernel, by decide +kernel⟩
noncomputable def b_is_a_piece : MS := (sSeq (sIf (mOrT (mNotT (mT (mCall (pureZ m_is_word) (mCons (mVar 1) mNil)))) (mB (mOp2 (lT2 ltT) (mCallB lenG (mCons (mVar 1) mNil)) (mOp2 subG (mVar 0) (mC (.int 0)))))) (sRet (mC (.bl false))) sNil) (sSeq (sSet 2 (mDcG finD (mIt (mOp2 subG (mVar 0) (mC (.int 1)))) (gN 3) [3] mYes (mVar 3) (mC (.bl true)))) (sRet (mCallB (lTL allT) (mCons (mLcG finT (mIt (mCall (pureZ m_steps_of) (mCons (mOp2 subG (mVar 0) (mC (.int 0))) (mCons (mVar 1) mNil)))) (gN 4) [4] mYes (mOp2 (inG false) (mVar 4) (mVar 2))) mNil)))))
noncomputable def m_is_a_piece : MF := mDef 5 b_is_a_piece
theorem ok_is_a_piece (T : Wd K mg) : FnG P w K mg base CX0 2 T.is_a_piece.f T.is_a_piece.fd ["book", "value"] (spM K 2 m_is_a_piece) :=
  fng_ok (fb := b_is_a_piece) (N := ["book", "value", "known", "window", "step"]) (ps := ["book", "value"]) (k := 1) T.is_a_piece.F sc_is_a_piece fun cdv A outer s H E gd hr => (pmb_cons (pms_if ((pmw_or (pmt_not (pmt_val (pmG_call (fng_tree (ok_is_word T)) gd (hr.mono (by decide)) (by rfl) T.is_word.m T.is_word.F.kp (L2.Fun.binds (ps := ["value"]) T.is_word.F fun _ _ _ _ _ _ us hl => match us, hl with | [_], _ => rfl) (pma_cons (pm_var 1) pma_nil) (cnt_cons cnt_nil)))) (pmw_or1 (pmt_cmp (op_ltM (r64 hr)) (pm_callB call_lenM (by rfl) T.n_len bt_len (pma_cons (pm_var 1) pma_nil)) (ix_M (r1 hr) (fun _ _ => rfl) (fun _ _ => rfl) (pm_var 0) pm_int))))).pt (pmb_one (pms_ret pm_bl)) pmb_nil) (pmb_cons (pms_set 2 sc_is_a_piece.nd (pm_dcG (own := [(("window" : Str), 3)]) (ow := [3]) fin_D rfl sc_is_a_piece.nd (pmi_seq (ix_M (r1 hr) (fun _ _ => rfl) (fun _ _ => rfl) (pm_var 0) pm_int)) ⟨rfl, of_decide_eq_true (by kernel_rfl), of_decide_eq_true (by kernel_rfl), of_decide_eq_true (by kernel_rfl), of_decide_eq_true (by kernel_rfl)⟩ (fun s H C cl fp => (pmg_name 3 sc_is_a_piece.nd)) (fun s H C cl fp => pmts_nil) (fun s H C cl fp => (pm_var 3)) (fun s H C cl fp => pm_bl))) (pmb_one (pms_ret (pm_callB (call_allM rfl) (by rfl) T.n_all bt_all (pma_cons (pm_lcG (own := [(("step" : Str), 4)]) (ow := [4]) fin_T rfl sc_is_a_piece.nd (pmi_seq (pmG_call (fng_tree (ok_steps_of T)) gd (hr.mono (by decide)) (by rfl) T.steps_of.m T.steps_of.F.kp (L2.Fun.binds (ps := ["size", "text"]) T.steps_of.F fun _ _ _ _ _ _ us hl => match us, hl with | [_, _], _ => rfl) (pma_cons (ix_M (r1 hr) (fun _ _ => rfl) (fun _ _ => rfl) (pm_var 0) pm_int) (pma_cons (pm_var 1) pma_nil)) (cnt_cons (cnt_cons cnt_nil)))) ⟨rfl, of_decide_eq_true (by kernel_rfl), of_decide_eq_true (by kernel_rfl), of_decide_eq_true (by kernel_rfl), of_decide_eq_true (by kernel_rfl)⟩ (fun s H C cl fp => (pmg_name 4 sc_is_a_piece.nd)) (fun s H C cl fp => pmts_nil) (fun s H C cl fp => (pm_cmp (op_inM false (r65 hr)) (pm_var 4) (pm_var 2)))) pma_nil))))))
abbrev st_is_piece : Stmt := top 22
theorem sc_is_piece : FnScope ["book", "value"] ["book", "value"] (defScope st_is_piece) := ⟨rfl, rfl, rfl, by decide +kernel, rfl, by decide +kernel, by decide +kernel⟩
noncomputable def b_is_piece : MS := (sSeq (sExpr (mCall (pureZ m_need_book) (mCons (mVar 0) mNil))) (sRet (mCall (pureZ m_is_a_piece) (mCons (mVar 0) (mCons (mVar 1) mNil)))))
noncomputable def m_is_piece : MF := mDef 2 b_is_piece
theorem ok_is_piece (T : Wd K mg) : FnG P w K mg base CX0 5 T.is_piece.f T.is_piece.fd ["book", "value"] (spM K 2 m_is_piece) :=
  fng_ok (fb := b_is_piece) (N := ["book", "value"]) (ps := ["book", "value"]) (k := 4) T.is_piece.F sc_is_piece fun cdv A outer s H E gd hr => (pmb_cons (pms_expr (pmG_call (fng_tree (ok_need_book T)) gd (hr.mono (by decide)) (by rfl) T.need_book.m T.need_book.F.kp (L2.Fun.binds (ps := ["book"]) T.need_book.F fun _ _ _ _ _ _ us hl => match us, hl with | [_], _ => rfl) (pma_cons (pm_var 0) pma_nil) (cnt_cons cnt_nil))) (pmb_one (pms_ret (pmG_call (fng_tree (ok_is_a_piece T)) gd (hr.mono (by decide)) (by rfl) T.is_a_piece.m T.is_a_piece.F.kp (L2.Fun.binds (ps := ["book", "value"]) T.is_a_piece.F fun _ _ _ _ _ _ us hl => match us, hl with | [_, _], _ => rfl) (pma_cons (pm_var 0) (pma_cons (pm_var 1) pma_nil)) (cnt_cons (cnt_cons cnt_nil))))))
abbrev st_is_a_ring : Stmt := top 14
theorem sc_is_a_ring : FnScope ["value"] ["value"] (defScope st_is_a_ring) := ⟨rfl, rfl, rfl, by decide +kernel, rfl, by decide +kernel, by decide +kernel⟩
noncomputable def b_is_a_ring : MS := (sRet (mAnd (mCall (pureZ m_is_word) (mCons (mVar 0) mNil)) (mOp2 (lT2 gtT) (mCallB lenG (mCons (mVar 0) mNil)) (mC (.int 0)))))
noncomputable def m_is_a_ring : MF := mDef 1 b_is_a_ring
theorem ok_is_a_ring (T : Wd K mg) : FnG P w K mg base CX0 2 T.is_a_ring.f T.is_a_ring.fd ["value"] (spM K 1 m_is_a_ring) :=
  fng_ok (fb := b_is_a_ring) (N := ["value"]) (ps := ["value"]) (k := 1) T.is_a_ring.F sc_is_a_ring fun cdv A outer s H E gd hr => (pmb_one (pms_ret (pm_and (pmG_call (fng_tree (ok_is_word T)) gd (hr.mono (by decide)) (by rfl) T.is_word.m T.is_word.F.kp (L2.Fun.binds (ps := ["value"]) T.is_word.F fun _ _ _ _ _ _ us hl => match us, hl with | [_], _ => rfl) (pma_cons (pm_var 0) pma_nil) (cnt_cons cnt_nil)) (pm_one (pm_cmp (op_gtM (r64 hr)) (pm_callB call_lenM (by rfl) T.n_len bt_len (pma_cons (pm_var 0) pma_nil)) pm_int)))))
abbrev st_is_ring : Stmt := top 21
theorem sc_is_ring : FnScope ["value"] ["value"] (defScope st_is_ring) := ⟨rfl, rfl, rfl, by decide +kernel, rfl, by decide +kernel, by decide +kernel⟩
noncomputable def b_is_ring : MS := (sRet (mCall (pureZ m_is_a_ring) (mCons (mVar 0) mNil)))
noncomputable def m_is_ring : MF := mDef 1 b_is_ring
theorem ok_is_ring (T : Wd K mg) : FnG P w K mg base CX0 3 T.is_ring.f T.is_ring.fd ["value"] (spM K 1 m_is_ring) :=
  fng_ok (fb := b_is_ring) (N := ["value"]) (ps := ["value"]) (k := 2) T.is_ring.F sc_is_ring fun cdv A outer s H E gd hr => (pmb_one (pms_ret (pmG_call (fng_tree (ok_is_a_ring T)) gd (hr.mono (by decide)) (by rfl) T.is_a_ring.m T.is_a_ring.F.kp (L2.Fun.binds (ps := ["value"]) T.is_a_ring.F fun _ _ _ _ _ _ us hl => match us, hl with | [_], _ => rfl) (pma_cons (pm_var 0) pma_nil) (cnt_cons cnt_nil))))
abbrev st__law_texts_right : Stmt := top 41
theorem sc__law_texts_right : FnScope ["source", "book", "value", "due"] ["source", "book"] (defScope st__law_texts_right) := ⟨rfl, rfl, rfl, by decide +kernel, rfl, by decide +kernel, by decide +kernel⟩
noncomputable def b__law_texts_right : MS := (sSeq (sFor (mIt (mCall m__law_odd_texts (mCons (mVar 0) (mCons (mCall m__law_piece (mCons (mVar 0) (mCons (mVar 1) (mCons (mC (.int 60)) mNil)))) mNil)))) (gN 2) (sSeq (sSet 3 (mCall (pureZ m__law_is_piece) (mCons (mVar 1) (mCons (mVar 2) mNil)))) (sSeq (sIf (mNotT (mT (mCall (pureZ (m__law_same 6)) (mCons (mLst (mCons (mCall (pureZ m_is_piece) (mCons (mVar 1) (mCons (mVar 2) mNil))) (mCons (mCallK (pureZ m_is_piece) 0 2 [1, 0] mNil (mCons (mVar 2) (mCons (mVar 1) mNil))) mNil))) (mCons (mLst (mCons (mVar 3) (mCons (mVar 3) mNil))) mNil))))) (sRet (mC (.bl false))) sNil) (sSeq (sSet 3 (mCall (pureZ m__law_is_word) (mCons (mVar 2) (mCons (mC (.int 1)) mNil)))) (sIf (mNotT (mT (mCall (pureZ (m__law_same 6)) (mCons (mLst (mCons (mCall (pureZ m_is_ring) (mCons (mVar 2) mNil)) (mCons (mCallK (pureZ m_is_ring) 0 1 [0] mNil (mCons (mVar 2) mNil)) mNil))) (mCons (mLst (mCons (mVar 3) (mCons (mVar 3) mNil))) mNil))))) (sRet (mC (.bl false))) sNil))))) (sRet (mC (.bl true))))
noncomputable def m__law_texts_right : MF := mDef 4 b__law_texts_right
theorem ok__law_texts_right (T : Wd K mg) : FnG P w K mg base CX0 8 T._law_texts_right.f T._law_texts_right.fd ["source", "book"] (spM K 2 m__law_texts_right) :=
  fng_ok (fb := b__law_texts_right) (N := ["source", "book", "value", "due"]) (ps := ["source", "book"]) (k := 7) T._law_texts_right.F sc__law_texts_right fun cdv A outer s H E gd hr => (pmb_cons (pms_for PassesOwn.never rfl (pmi_seq (pmG_call (ok__law_odd_texts T) gd (hr.mono (by decide)) (by rfl) T._law_odd_texts.m T._law_odd_texts.F.kp (L2.Fun.binds (ps := ["source", "text"]) T._law_odd_texts.F fun _ _ _ _ _ _ us hl => match us, hl with | [_, _], _ => rfl) (pma_cons (pm_var 0) (pma_cons (pmG_call (ok__law_piece T) gd (hr.mono (by decide)) (by rfl) T._law_piece.m T._law_piece.F.kp (L2.Fun.binds (ps := ["source", "book", "most"]) T._law_piece.F fun _ _ _ _ _ _ us hl => match us, hl with | [_, _, _], _ => rfl) (pma_cons (pm_var 0) (pma_cons (pm_var 1) (pma_cons pm_int pma_nil))) (cnt_cons (cnt_cons (cnt_cons cnt_nil)))) pma_nil)) (cnt_cons (cnt_cons cnt_nil)))) (pmg_name 2 sc__law_texts_right.nd) (pmb_cons (pms_set 3 sc__law_texts_right.nd (pmG_call (fng_tree (ok__law_is_piece T)) gd (hr.mono (by decide)) (by rfl) T._law_is_piece.m T._law_is_piece.F.kp (L2.Fun.binds (ps := ["book", "value"]) T._law_is_piece.F fun _ _ _ _ _ _ us hl => match us, hl with | [_, _], _ => rfl) (pma_cons (pm_var 1) (pma_cons (pm_var 2) pma_nil)) (cnt_cons (cnt_cons cnt_nil)))) (pmb_cons (pms_if (pmt_not (pmt_val (pmG_call (fng_tree (ok__law_same T 6)) gd (hr.mono (by decide)) (by rfl) T._law_same.m T._law_same.F.kp (L2.Fun.binds (ps := ["found", "due"]) T._law_same.F fun _ _ _ _ _ _ us hl => match us, hl with | [_, _], _ => rfl) (pma_cons (pm_lst (pma_cons (pmG_call (fng_tree (ok_is_piece T)) gd (hr.mono (by decide)) (by rfl) T.is_piece.m T.is_piece.F.kp (L2.Fun.binds (ps := ["book", "value"]) T.is_piece.F fun _ _ _ _ _ _ us hl => match us, hl with | [_, _], _ => rfl) (pma_cons (pm_var 1) (pma_cons (pm_var 2) pma_nil)) (cnt_cons (cnt_cons cnt_nil))) (pma_cons (pmG_callK0 (n := 2) (m1 := 2) (ix := [1, 0]) (fng_tree (ok_is_piece T)) gd (hr.mono (by decide)) (by rfl) T.is_piece.m T.is_piece.F.kp (fun_kb (ps := ["book", "value"]) T.is_piece.F ["value", "book"] 0 2 [1, 0] (by decide) (fun _ _ _ _ _ _ us ws h1 h2 => match us, ws, h1, h2 with | [], [_, _], _, _ => rfl)) (pmk_cons (pm_var 2) (pmk_cons (pm_var 1) pmk_nil)) (fun l hl => match l, hl with | [_, _], _ => rfl)) pma_nil))) (pma_cons (pm_lst (pma_cons (pm_var 3) (pma_cons (pm_var 3) pma_nil))) pma_nil)) (cnt_cons (cnt_cons cnt_nil))))) (pmb_one (pms_ret pm_bl)) pmb_nil) (pmb_cons (pms_set 3 sc__law_texts_right.nd (pmG_call (fng_tree (ok__law_is_word T)) gd (hr.mono (by decide)) (by rfl) T._law_is_word.m T._law_is_word.F.kp (L2.Fun.binds (ps := ["value", "least"]) T._law_is_word.F fun _ _ _ _ _ _ us hl => match us, hl with | [_, _], _ => rfl) (pma_cons (pm_var 2) (pma_cons pm_int pma_nil)) (cnt_cons (cnt_cons cnt_nil)))) (pmb_one (pms_if (pmt_not (pmt_val (pmG_call (fng_tree (ok__law_same T 6)) gd (hr.mono (by decide)) (by rfl) T._law_same.m T._law_same.F.kp (L2.Fun.binds (ps := ["found", "due"]) T._law_same.F fun _ _ _ _ _ _ us hl => match us, hl with | [_, _], _ => rfl) (pma_cons (pm_lst (pma_cons (pmG_call (fng_tree (ok_is_ring T)) gd (hr.mono (by decide)) (by rfl) T.is_ring.m T.is_ring.F.kp (L2.Fun.binds (ps := ["value"]) T.is_ring.F fun _ _ _ _ _ _ us hl => match us, hl with | [_], _ => rfl) (pma_cons (pm_var 2) pma_nil) (cnt_cons cnt_nil)) (pma_cons (pmG_callK0 (n := 1) (m1 := 1) (ix := [0]) (fng_tree (ok_is_ring T)) gd (hr.mono (by decide)) (by rfl) T.is_ring.m T.is_ring.F.kp (fun_kb (ps := ["value"]) T.is_ring.F ["value"] 0 1 [0] (by decide) (fun _ _ _ _ _ _ us ws h1 h2 => match us, ws, h1, h2 with | [], [_], _, _ => rfl)) (pmk_cons (pm_var 2) pmk_nil) (fun l hl => match l, hl with | [_], _ => rfl)) pma_nil))) (pma_cons (pm_lst (pma_cons (pm_var 3) (pma_cons (pm_var 3) pma_nil))) pma_nil)) (cnt_cons (cnt_cons cnt_nil))))) (pmb_one (pms_ret pm_bl)) pmb_nil)))))) (pmb_one (pms_ret pm_bl)))
abbrev st_places_of : Stmt := top 17
theorem sc_places_of : FnScope ["book", "found", "window"] ["book"] (defScope st_places_of) := ⟨rfl, rfl, rfl, by decide +kernel, rfl, by decide +kernel, by decide +kernel⟩
noncomputable def b_places_of : MS := (sSeq (sSet 1 mDicC) (sSeq (sFor (mIt (mOp2 subG (mVar 0) (mC (.int 1)))) (gN 2) (sSeq (sPut (mVar 1) (mSl (mVar 2) none (some (mOp1 (lT1 negT) (mC (.int 1))))) (mC (.bl true))) (sPut (mVar 1) (mSl (mVar 2) (some (mC (.int 1))) none) (mC (.bl true))))) (sRet (mSort mkC (mVar 1)))))
noncomputable def m_places_of : MF := mDef 3 b_places_of
theorem ok_places_of (T : Wd K mg) : FnG P w K mg base CX0 1 T.places_of.f T.places_of.fd ["book"] (spM K 1 m_places_of) :=
  fng_ok (fb := b_places_of) (N := ["book", "found", "window"]) (ps := ["book"]) (k := 0) T.places_of.F sc_places_of fun cdv A outer s H E gd hr => (pmb_cons (pms_set 1 sc_places_of.nd pm_dicC) (pmb_cons (pms_for PassesOwn.never rfl (pmi_seq (ix_M (r1 hr) (fun _ _ => rfl) (fun _ _ => rfl) (pm_var 0) pm_int)) (pmg_name 2 sc_places_of.nd) (pmb_cons (pms_put (r1 hr) (pm_var 1) (pm_sl (pm_var 2) pmp_none (pmp_some (pm_un un_negM pm_int))) pm_bl) (pmb_one (pms_put (r1 hr) (pm_var 1) (pm_sl (pm_var 2) (pmp_some pm_int) pmp_none) pm_bl)))) (pmb_one (pms_ret (pm_sort mk_C rfl (r65 hr) (by rfl) T.n_sorted (pm_var 1))))))
abbrev st_places : Stmt := top 23
theorem sc_places : FnScope ["book"] ["book"] (defScope st_places) := ⟨rfl, rfl, rfl, by decide +kernel, rfl, by decide +kernel, by decide +kernel⟩
noncomputable def b_places : MS := (sSeq (sExpr (mCall (pureZ m_need_book) (mCons (mVar 0) mNil))) (sRet (mCall (newF m_places_of) (mCons (mVar 0) mNil))))
noncomputable def m_places : MF := mDef 1 b_places
theorem ok_places (T : Wd K mg) : FnG P w K mg base CX0 5 T.places.f T.places.fd ["book"] (spM K 1 m_places) :=
  fng_ok (fb := b_places) (N := ["book"]) (ps := ["book"]) (k := 4) T.places.F sc_places fun cdv A outer s H E gd hr => (pmb_cons (pms_expr (pmG_call (fng_tree (ok_need_book T)) gd (hr.mono (by decide)) (by rfl) T.need_book.m T.need_book.F.kp (L2.Fun.binds (ps := ["book"]) T.need_book.F fun _ _ _ _ _ _ us hl => match us, hl with | [_], _ => rfl) (pma_cons (pm_var 0) pma_nil) (cnt_cons cnt_nil))) (pmb_one (pms_ret (pmG_call (fng_new (ok_places_of T)) gd (hr.mono (by decide)) (by rfl) T.places_of.m T.places_of.F.kp (L2.Fun.binds (ps := ["book"]) T.places_of.F fun _ _ _ _ _ _ us hl => match us, hl with | [_], _ => rfl) (pma_cons (pm_var 0) pma_nil) (cnt_cons cnt_nil)))))
abbrev st__law_places_right : Stmt := top 43
theorem sc__law_places_right : FnScope ["book", "due", "window", "first"] ["book"] (defScope st__law_places_right) := ⟨rfl, rfl, rfl, by decide +kernel, rfl, by decide +kernel, by decide +kernel⟩
noncomputable def b__law_places_right : MS := (sSeq (sSet 1 (mSortSet mkT (mOp2 (lT2 addT) (mLcG finT (mIt (mOp2 subG (mVar 0) (mC (.int 1)))) (gN 2) [2] mYes (mSl (mVar 2) none (some (mOp1 (lT1 negT) (mC (.int 1)))))) (mLcG finT (mIt (mOp2 subG (mVar 0) (mC (.int 1)))) (gN 2) [2] mYes (mSl (mVar 2) (some (mC (.int 1))) none))))) (sSeq (sSet 3 (mCall (newF m_places) (mCons (mVar 0) mNil))) (sSeq (sIf (mNotT (mT (mCall (pureZ (m__law_same 6)) (mCons (mVar 3) (mCons (mVar 1) mNil))))) (sRet (mC (.bl false))) sNil) (sSeq (sExpr (mMeth kdLst appendG (mVar 3) (mCons (mC (.str (cs "zz"))) mNil))) (sSeq (sPut (mVar 3) (mC (.int 0)) (mC (.str (cs "")))) (sRet (mCall (pureZ (m__law_same 6)) (mCons (mLst (mCons (mFrz (mCallK (newF m_places) 0 1 [0] mNil (mCons (mVar 0) mNil))) (mCons (mFrz (mCall (newF m_places) (mCons (mVar 0) mNil))) mNil))) (mCons (mLst (mCons (mVar 1) (mCons (mVar 1) mNil))) mNil)))))))))
noncomputable def m__law_places_right : MF := mDef 4 b__law_places_right
theorem ok__law_places_right (T : Wd K mg) : FnG P w K mg base CX0 8 T._law_places_right.f T._law_places_right.fd ["book"] (spM K 1 m__law_places_right) :=
  fng_ok (fb := b__law_places_right) (N := ["book", "due", "window", "first"]) (ps := ["book"]) (k := 7) T._law_places_right.F sc__law_places_right fun cdv A outer s H E gd hr => (pmb_cons (pms_set 1 sc__law_places_right.nd (pm_sortSet mk_T rfl (r65 hr) (by rfl) T.n_sorted (by rfl) T.n_set (pm_bin op_addM (pm_lcG (own := [(("window" : Str), 2)]) (ow := [2]) fin_T rfl sc__law_places_right.nd (pmi_seq (ix_M (r1 hr) (fun _ _ => rfl) (fun _ _ => rfl) (pm_var 0) pm_int)) ⟨rfl, of_decide_eq_true (by kernel_rfl), of_decide_eq_true (by kernel_rfl), of_decide_eq_true (by kernel_rfl), of_decide_eq_true (by kernel_rfl)⟩ (fun s H C cl fp => (pmg_name 2 sc__law_places_right.nd)) (fun s H C cl fp => pmts_nil) (fun s H C cl fp => (pm_sl (pm_var 2) pmp_none (pmp_some (pm_un un_negM pm_int))))) (pm_lcG (own := [(("window" : Str), 2)]) (ow := [2]) fin_T rfl sc__law_places_right.nd (pmi_seq (ix_M (r1 hr) (fun _ _ => rfl) (fun _ _ => rfl) (pm_var 0) pm_int)) ⟨rfl, of_decide_eq_true (by kernel_rfl), of_decide_eq_true (by kernel_rfl), of_decide_eq_true (by kernel_rfl), of_decide_eq_true (by kernel_rfl)⟩ (fun s H C cl fp => (pmg_name 2 sc__law_places_right.nd)) (fun s H C cl fp => pmts_nil) (fun s H C cl fp => (pm_sl (pm_var 2) (pmp_some pm_int) pmp_none)))))) (pmb_cons (pms_set 3 sc__law_places_right.nd (pmG_call (fng_new (ok_places T)) gd (hr.mono (by decide)) (by rfl) T.places.m T.places.F.kp (L2.Fun.binds (ps := ["book"]) T.places.F fun _ _ _ _ _ _ us hl => match us, hl with | [_], _ => rfl) (pma_cons (pm_var 0) pma_nil) (cnt_cons cnt_nil))) (pmb_cons (pms_if (pmt_not (pmt_val (pmG_call (fng_tree (ok__law_same T 6)) gd (hr.mono (by decide)) (by rfl) T._law_same.m T._law_same.F.kp (L2.Fun.binds (ps := ["found", "due"]) T._law_same.F fun _ _ _ _ _ _ us hl => match us, hl with | [_, _], _ => rfl) (pma_cons (pm_var 3) (pma_cons (pm_var 1) pma_nil)) (cnt_cons (cnt_cons cnt_nil))))) (pmb_one (pms_ret pm_bl)) pmb_nil) (pmb_cons (pms_expr (pm_meth PySem.F.plainAttrs_list PySem.F.slot_list_append PySem.F.type_list_append kd_lst mt_appendM (pm_var 3) (pma_cons (pm_str (cs "zz") (sv_cs _) (by decide)) pma_nil))) (pmb_cons (pms_put (r1 hr) (pm_var 3) pm_int (pm_str (cs "") (sv_cs _) (by decide))) (pmb_one (pms_ret (pmG_call (fng_tree (ok__law_same T 6)) gd (hr.mono (by decide)) (by rfl) T._law_same.m T._law_same.F.kp (L2.Fun.binds (ps := ["found", "due"]) T._law_same.F fun _ _ _ _ _ _ us hl => match us, hl with | [_, _], _ => rfl) (pma_cons (pm_lst (pma_cons (pm_frz (pmG_callK0 (n := 1) (m1 := 1) (ix := [0]) (fng_new (ok_places T)) gd (hr.mono (by decide)) (by rfl) T.places.m T.places.F.kp (fun_kb (ps := ["book"]) T.places.F ["book"] 0 1 [0] (by decide) (fun _ _ _ _ _ _ us ws h1 h2 => match us, ws, h1, h2 with | [], [_], _, _ => rfl)) (pmk_cons (pm_var 0) pmk_nil) (fun l hl => match l, hl with | [_], _ => rfl))) (pma_cons (pm_frz (pmG_call (fng_new (ok_places T)) gd (hr.mono (by decide)) (by rfl) T.places.m T.places.F.kp (L2.Fun.binds (ps := ["book"]) T.places.F fun _ _ _ _ _ _ us hl => match us, hl with | [_], _ => rfl) (pma_cons (pm_var 0) pma_nil) (cnt_cons cnt_nil))) pma_nil))) (pma_cons (pm_lst (pma_cons (pm_var 1) (pma_cons (pm_var 1) pma_nil))) pma_nil)) (cnt_cons (cnt_cons cnt_nil))))))))))
abbrev st__law_great_right : Stmt := top 42
theorem sc__law_great_right : FnScope ["source", "size", "text", "book", "bad", "told"] ["source"] (defScope st__law_great_right) := ⟨rfl, rfl, rfl, by decide +kernel, rfl, by decide +kernel, by decide +kernel⟩
noncomputable def b__law_great_right : MS := (sSeq (sSet 1 (mOp2 (lT2 addT) (mC (.int 4)) (mCall m__law_pick (mCons (mVar 0) (mCons (mC (.int 3)) mNil))))) (sSeq (sSet 2 (mCall m__law_word (mCons (mVar 0) (mCons (mC (.str (cs "acgt"))) (mCons (mOp2 (lT2 addT) (mC (.int 61)) (mCall m__law_pick (mCons (mVar 0) (mCons (mC (.int 40)) mNil)))) mNil))))) (sSeq (sSet 3 (mTup (mCons (mVar 1) (mCons (mCallB (lTL tupOfT) (mCons (mSortSet mkT (mCall (pureZ m__law_round) (mCons (mVar 1) (mCons (mVar 2) mNil)))) mNil)) mNil)))) (sSeq (sSet 4 (mTup (mCons (mVar 1) (mCons (mOp2 (lT2 addT) (mSl (mOp2 subG (mVar 3) (mC (.int 1))) none (some (mC (.int 50)))) (mSl (mOp2 subG (mVar 3) (mC (.int 1))) (some (mC (.int 49))) none)) mNil)))) (sSeq (sSet 5 (mLst (mCons (mCall (pureZ m_is_book) (mCons (mVar 3) mNil)) (mCons (mCall (pureZ m_is_book) (mCons (mVar 4) mNil)) (mCons (mCall (pureZ m_is_ring) (mCons (mOp2 (lT2 mulT) (mVar 2) (mC (.int 25))) mNil)) (mCons (mCall (pureZ m_is_ring) (mCons (mOp2 (lT2 addT) (mOp2 (lT2 mulT) (mVar 2) (mC (.int 25))) (mC (.str (cs "A")))) mNil)) (mCons (mCall (pureZ m_is_piece) (mCons (mVar 3) (mCons (mOp2 (lT2 addT) (mVar 2) (mVar 2)) mNil))) mNil))))))) (sRet (mCall (pureZ (m__law_same 6)) (mCons (mOp2 (lT2 addT) (mVar 5) (mLst (mCons (mCall (pureZ m_is_piece) (mCons (mVar 3) (mCons (mOp2 (lT2 addT) (mVar 2) (mC (.str (cs "z")))) mNil))) mNil))) (mCons (mLst (mCons (mC (.bl true)) (mCons (mOp2 (lT2 ltT) (mCallB lenG (mCons (mOp2 subG (mVar 3) (mC (.int 1))) mNil)) (mC (.int 50))) (mCons (mC (.bl true)) (mCons (mC (.bl false)) (mCons (mC (.bl true)) (mCons (mC (.bl false)) mNil))))))) mNil)))))))))
noncomputable def m__law_great_right : MF := mDef 6 b__law_great_right
theorem ok__law_great_right (T : Wd K mg) : FnG P w K mg base CX0 8 T._law_great_right.f T._law_great_right.fd ["source"] (spM K 1 m__law_great_right) :=
  fng_ok (fb := b__law_great_right) (N := ["source", "size", "text", "book", "bad", "told"]) (ps := ["source"]) (k := 7) T._law_great_right.F sc__law_great_right fun cdv A outer s H E gd hr => (pmb_cons (pms_set 1 sc__law_great_right.nd (pm_bin op_addM pm_int (pmG_call (ok__law_pick T) gd (hr.mono (by decide)) (by rfl) T._law_pick.m T._law_pick.F.kp (L2.Fun.binds (ps := ["source", "top"]) T._law_pick.F fun _ _ _ _ _ _ us hl => match us, hl with | [_, _], _ => rfl) (pma_cons (pm_var 0) (pma_cons pm_int pma_nil)) (cnt_cons (cnt_cons cnt_nil))))) (pmb_cons (pms_set 2 sc__law_great_right.nd (pmG_call (ok__law_word T) gd (hr.mono (by decide)) (by rfl) T._law_word.m T._law_word.F.kp (L2.Fun.binds (ps := ["source", "letters", "size"]) T._law_word.F fun _ _ _ _ _ _ us hl => match us, hl with | [_, _, _], _ => rfl) (pma_cons (pm_var 0) (pma_cons (pm_str (cs "acgt") (sv_cs _) (by decide)) (pma_cons (pm_bin op_addM pm_int (pmG_call (ok__law_pick T) gd (hr.mono (by decide)) (by rfl) T._law_pick.m T._law_pick.F.kp (L2.Fun.binds (ps := ["source", "top"]) T._law_pick.F fun _ _ _ _ _ _ us hl => match us, hl with | [_, _], _ => rfl) (pma_cons (pm_var 0) (pma_cons pm_int pma_nil)) (cnt_cons (cnt_cons cnt_nil)))) pma_nil))) (cnt_cons (cnt_cons (cnt_cons cnt_nil))))) (pmb_cons (pms_set 3 sc__law_great_right.nd (pm_tup (pma_cons (pm_var 1) (pma_cons (pm_callTy call_tupM (by rfl) T.n_tuple bt_tuple (pma_cons (pm_sortSet mk_T rfl (r65 hr) (by rfl) T.n_sorted (by rfl) T.n_set (pmG_call (fng_tree (ok__law_round T)) gd (hr.mono (by decide)) (by rfl) T._law_round.m T._law_round.F.kp (L2.Fun.binds (ps := ["size", "ring"]) T._law_round.F fun _ _ _ _ _ _ us hl => match us, hl with | [_, _], _ => rfl) (pma_cons (pm_var 1) (pma_cons (pm_var 2) pma_nil)) (cnt_cons (cnt_cons cnt_nil)))) pma_nil)) pma_nil)))) (pmb_cons (pms_set 4 sc__law_great_right.nd (pm_tup (pma_cons (pm_var 1) (pma_cons (pm_bin op_addM (pm_sl (ix_M (r1 hr) (fun _ _ => rfl) (fun _ _ => rfl) (pm_var 3) pm_int) pmp_none (pmp_some pm_int)) (pm_sl (ix_M (r1 hr) (fun _ _ => rfl) (fun _ _ => rfl) (pm_var 3) pm_int) (pmp_some pm_int) pmp_none)) pma_nil)))) (pmb_cons (pms_set 5 sc__law_great_right.nd (pm_lst (pma_cons (pmG_call (fng_tree (ok_is_book T)) gd (hr.mono (by decide)) (by rfl) T.is_book.m T.is_book.F.kp (L2.Fun.binds (ps := ["value"]) T.is_book.F fun _ _ _ _ _ _ us hl => match us, hl with | [_], _ => rfl) (pma_cons (pm_var 3) pma_nil) (cnt_cons cnt_nil)) (pma_cons (pmG_call (fng_tree (ok_is_book T)) gd (hr.mono (by decide)) (by rfl) T.is_book.m T.is_book.F.kp (L2.Fun.binds (ps := ["value"]) T.is_book.F fun _ _ _ _ _ _ us hl => match us, hl with | [_], _ => rfl) (pma_cons (pm_var 4) pma_nil) (cnt_cons cnt_nil)) (pma_cons (pmG_call (fng_tree (ok_is_ring T)) gd (hr.mono (by decide)) (by rfl) T.is_ring.m T.is_ring.F.kp (L2.Fun.binds (ps := ["value"]) T.is_ring.F fun _ _ _ _ _ _ us hl => match us, hl with | [_], _ => rfl) (pma_cons (pm_bin op_mulM (pm_var 2) pm_int) pma_nil) (cnt_cons cnt_nil)) (pma_cons (pmG_call (fng_tree (ok_is_ring T)) gd (hr.mono (by decide)) (by rfl) T.is_ring.m T.is_ring.F.kp (L2.Fun.binds (ps := ["value"]) T.is_ring.F fun _ _ _ _ _ _ us hl => match us, hl with | [_], _ => rfl) (pma_cons (pm_bin op_addM (pm_bin op_mulM (pm_var 2) pm_int) (pm_str (cs "A") (sv_cs _) (by decide))) pma_nil) (cnt_cons cnt_nil)) (pma_cons (pmG_call (fng_tree (ok_is_piece T)) gd (hr.mono (by decide)) (by rfl) T.is_piece.m T.is_piece.F.kp (L2.Fun.binds (ps := ["book", "value"]) T.is_piece.F fun _ _ _ _ _ _ us hl => match us, hl with | [_, _], _ => rfl) (pma_cons (pm_var 3) (pma_cons (pm_bin op_addM (pm_var 2) (pm_var 2)) pma_nil)) (cnt_cons (cnt_cons cnt_nil))) pma_nil))))))) (pmb_one (pms_ret (pmG_call (fng_tree (ok__law_same T 6)) gd (hr.mono (by decide)) (by rfl) T._law_same.m T._law_same.F.kp (L2.Fun.binds (ps := ["found", "due"]) T._law_same.F fun _ _ _ _ _ _ us hl => match us, hl with | [_, _], _ => rfl) (pma_cons (pm_bin op_addM (pm_var 5) (pm_lst (pma_cons (pmG_call (fng_tree (ok_is_piece T)) gd (hr.mono (by decide)) (by rfl) T.is_piece.m T.is_piece.F.kp (L2.Fun.binds (ps := ["book", "value"]) T.is_piece.F fun _ _ _ _ _ _ us hl => match us, hl with | [_, _], _ => rfl) (pma_cons (pm_var 3) (pma_cons (pm_bin op_addM (pm_var 2) (pm_str (cs "z") (sv_cs _) (by decide))) pma_nil)) (cnt_cons (cnt_cons cnt_nil))) pma_nil))) (pma_cons (pm_lst (pma_cons pm_bl (pma_cons (pm_cmp (op_ltM (r64 hr)) (pm_callB call_lenM (by rfl) T.n_len bt_len (pma_cons (ix_M (r1 hr) (fun _ _ => rfl) (fun _ _ => rfl) (pm_var 3) pm_int) pma_nil)) pm_int) (pma_cons pm_bl (pma_cons pm_bl (pma_cons pm_bl (pma_cons pm_bl pma_nil))))))) pma_nil)) (cnt_cons (cnt_cons cnt_nil))))))))))
abbrev st_law : Stmt := top 44
theorem sc_law : FnScope ["script", "k", "source", "book"] ["script"] (defScope st_law) := ⟨rfl, rfl, rfl, by decide +kernel, rfl, by decide +kernel, by decide +kernel⟩
noncomputable def b_law : MS := (sSeq (sFor (mI rng1Of (mCons (mCallB (lTL max2T) (mCons (mC (.int 1)) (mCons (mCallB (lTL min2X) (mCons (mC (.int 3)) (mCons (mCallB lenG (mCons (mVar 0) mNil)) mNil))) mNil))) mNil)) (gN 1) (sSeq (sSet 2 (mCall (newF m__law_source) (mCons (mVar 0) (mCons (mVar 1) mNil)))) (sSeq (sSet 3 (mCall (lastF m__law_book) (mCons (mVar 2) (mCons (mOp2 subG (mLst (mCons (mC (.int 12)) (mCons (mC (.int 12)) (mCons (mC (.int 40)) mNil)))) (mCall (lastF m__law_pick) (mCons (mVar 2) (mCons (mC (.int 3)) mNil)))) mNil)))) (sSeq (sIf (mOrT (mNotT (mT (mCall (lastF (keepF m__law_books_right)) (mCons (mVar 2) (mCons (mVar 3) mNil))))) (mOrT (mNotT (mT (mCall (lastF (keepF m__law_texts_right)) (mCons (mVar 2) (mCons (mVar 3) mNil))))) (mNotT (mT (mCall (pureZ m__law_places_right) (mCons (mVar 3) mNil)))))) (sRet (mC (.bl false))) sNil) (sIf (mAndT (mB (mOp2 (lT2 eqT) (mVar 1) (mC (.int 0)))) (mNotT (mT (mCall (lastF (keepF m__law_great_right)) (mCons (mVar 2) mNil))))) (sRet (mC (.bl false))) sNil))))) (sRet (mC (.bl true))))
noncomputable def m_law : MF := mDef 4 b_law
theorem ok_law (T : Wd K mg) : FnG P w K mg base CX0 9 T.law.f T.law.fd ["script"] (spM K 1 m_law) :=
  fng_ok (fb := b_law) (N := ["script", "k", "source", "book"]) (ps := ["script"]) (k := 8) T.law.F sc_law fun cdv A outer s H E gd hr => (pmb_cons (pms_for PassesOwn.never rfl (pmi_range1 (by rfl) T.n_range (pma_cons (pm_callB (call_max2M rfl) (by rfl) T.n_max bt_max (pma_cons pm_int (pma_cons (pm_callB (call_min2X rfl) (by rfl) T.n_min bt_min (pma_cons pm_int (pma_cons (pm_callB call_lenM (by rfl) T.n_len bt_len (pma_cons (pm_var 0) pma_nil)) pma_nil))) pma_nil))) pma_nil)) (pmg_name 1 sc_law.nd) (pmb_cons (pms_set 2 sc_law.nd (pmG_call (fng_new (ok__law_source T)) gd (hr.mono (by decide)) (by rfl) T._law_source.m T._law_source.F.kp (L2.Fun.binds (ps := ["script", "k"]) T._law_source.F fun _ _ _ _ _ _ us hl => match us, hl with | [_, _], _ => rfl) (pma_cons (pm_var 0) (pma_cons (pm_var 1) pma_nil)) (cnt_cons (cnt_cons cnt_nil)))) (pmb_cons (pms_set 3 sc_law.nd (pmG_call (fng_last (ok__law_book T)) gd (hr.mono (by decide)) (by rfl) T._law_book.m T._law_book.F.kp (L2.Fun.binds (ps := ["source", "most"]) T._law_book.F fun _ _ _ _ _ _ us hl => match us, hl with | [_, _], _ => rfl) (pma_cons (pm_var 2) (pma_cons (ix_M (r1 hr) (fun _ _ => rfl) (fun _ _ => rfl) (pm_lst (pma_cons pm_int (pma_cons pm_int (pma_cons pm_int pma_nil)))) (pmG_call (fng_last (ok__law_pick T)) gd (hr.mono (by decide)) (by rfl) T._law_pick.m T._law_pick.F.kp (L2.Fun.binds (ps := ["source", "top"]) T._law_pick.F fun _ _ _ _ _ _ us hl => match us, hl with | [_, _], _ => rfl) (pma_cons (pm_var 2) (pma_cons pm_int pma_nil)) (cnt_cons (cnt_cons cnt_nil)))) pma_nil)) (cnt_cons (cnt_cons cnt_nil)))) (pmb_cons (pms_if ((pmw_or (pmt_not (pmt_val (pmG_call (fng_last (fng_keep (ok__law_books_right T))) gd (hr.mono (by decide)) (by rfl) T._law_books_right.m T._law_books_right.F.kp (L2.Fun.binds (ps := ["source", "book"]) T._law_books_right.F fun _ _ _ _ _ _ us hl => match us, hl with | [_, _], _ => rfl) (pma_cons (pm_var 2) (pma_cons (pm_var 3) pma_nil)) (cnt_cons (cnt_cons cnt_nil))))) (pmw_or (pmt_not (pmt_val (pmG_call (fng_last (fng_keep (ok__law_texts_right T))) gd (hr.mono (by decide)) (by rfl) T._law_texts_right.m T._law_texts_right.F.kp (L2.Fun.binds (ps := ["source", "book"]) T._law_texts_right.F fun _ _ _ _ _ _ us hl => match us, hl with | [_, _], _ => rfl) (pma_cons (pm_var 2) (pma_cons (pm_var 3) pma_nil)) (cnt_cons (cnt_cons cnt_nil))))) (pmw_or1 (pmt_not (pmt_val (pmG_call (fng_tree (ok__law_places_right T)) gd (hr.mono (by decide)) (by rfl) T._law_places_right.m T._law_places_right.F.kp (L2.Fun.binds (ps := ["book"]) T._law_places_right.F fun _ _ _ _ _ _ us hl => match us, hl with | [_], _ => rfl) (pma_cons (pm_var 3) pma_nil) (cnt_cons cnt_nil)))))))).pt (pmb_one (pms_ret pm_bl)) pmb_nil) (pmb_one (pms_if ((pmw_and (pmt_cmp (op_eqM (r64 hr)) (pm_var 1) pm_int) (pmw_and1 (pmt_not (pmt_val (pmG_call (fng_last (fng_keep (ok__law_great_right T))) gd (hr.mono (by decide)) (by rfl) T._law_great_right.m T._law_great_right.F.kp (L2.Fun.binds (ps := ["source"]) T._law_great_right.F fun _ _ _ _ _ _ us hl => match us, hl with | [_], _ => rfl) (pma_cons (pm_var 2) pma_nil) (cnt_cons cnt_nil))))))).pt (pmb_one (pms_ret pm_bl)) pmb_nil)))))) (pmb_one (pms_ret pm_bl)))
end
theorem all_mk {l : PySem.W.OpenLaw} {w : World} {K : PySem.W.Frag} {h : Heap} {mg : Str → Option Value} {fa f1 f2 f3 f4 f5 f6 f7 f8 f9 f10 f11 f12 f13 f14 f15 f16 f17 f18 f19 f20 f21 f22 f23 f24 f25 f26 f27 f28 f29 f30 f31 f32 f33 f34 f35 : Addr} (X : K.In h) (G : h.Ns mainGlobals mg) (hfa : mg "law" = some (.ref fa))
    {od1 an1 od2 an2 od3 an3 od4 an4 od5 an5 od6 an6 od7 an7 od8 an8 od9 an9 od10 an10 od11 an11 od12 an12 od13 an13 od14 an14 od15 an15 od16 an16 od17 an17 od18 an18 od19 an19 od20 an20 od21 an21 od22 an22 od23 an23 od24 an24 od25 an25 od26 an26 od27 an27 od28 an28 od29 an29 od30 an30 od31 an31 od32 an32 od33 an33 od34 an34 od35 an35 : Option Addr} {sl1 sl2 sl3 sl4 sl5 sl6 sl7 sl8 sl9 sl10 sl11 sl12 sl13 sl14 sl15 sl16 sl17 sl18 sl19 sl20 sl21 sl22 sl23 sl24 sl25 sl26 sl27 sl28 sl29 sl30 sl31 sl32 sl33 sl34 sl35 : Array (Option Value)} {oc1 kV1 dc1 pm1 cd1 ct1 oc2 kV2 dc2 pm2 cd2 ct2 oc3 kV3 dc3 pm3 cd3 ct3 oc4 kV4 dc4 pm4 cd4 ct4 oc5 kV5 dc5 pm5 cd5 ct5 oc6 kV6 dc6 pm6 cd6 ct6 oc7 kV7 dc7 pm7 cd7 ct7 oc8 kV8 dc8 pm8 cd8 ct8 oc9 kV9 dc9 pm9 cd9 ct9 oc10 kV10 dc10 pm10 cd10 ct10 oc11 kV11 dc11 pm11 cd11 ct11 oc12 kV12 dc12 pm12 cd12 ct12 oc13 kV13 dc13 pm13 cd13 ct13 oc14 kV14 dc14 pm14 cd14 ct14 oc15 kV15 dc15 pm15 cd15 ct15 oc16 kV16 dc16 pm16 cd16 ct16 oc17 kV17 dc17 pm17 cd17 ct17 oc18 kV18 dc18 pm18 cd18 ct18 oc19 kV19 dc19 pm19 cd19 ct19 oc20 kV20 dc20 pm20 cd20 ct20 oc21 kV21 dc21 pm21 cd21 ct21 oc22 kV22 dc22 pm22 cd22 ct22 oc23 kV23 dc23 pm23 cd23 ct23 oc24 kV24 dc24 pm24 cd24 ct24 oc25 kV25 dc25 pm25 cd25 ct25 oc26 kV26 dc26 pm26 cd26 ct26 oc27 kV27 dc27 pm27 cd27 ct27 oc28 kV28 dc28 pm28 cd28 ct28 oc29 kV29 dc29 pm29 cd29 ct29 oc30 kV30 dc30 pm30 cd30 ct30 oc31 kV31 dc31 pm31 cd31 ct31 oc32 kV32 dc32 pm32 cd32 ct32 oc33 kV33 dc33 pm33 cd33 ct33 oc34 kV34 dc34 pm34 cd34 ct34 oc35 kV35 dc35 pm35 cd35 ct35 : Value} {t_LEAST_SIZE t_LETTERS t_MOST_SIZE : Tok}
    (a1 : PySem.W.nsIn K mainGlobals "_law_source" = some (some (.ref f1))) (l1 : K.lookup f1 = some ⟨oc1, od1, .func (PySem.W.fnOf "_law_source" "_law_source" (defArgs st__law_source) (defBody st__law_source) (defScope st__law_source) .none kV1 dc1 pm1 an1 cd1 ct1), sl1⟩) (c1 : PySem.W.codeIn K cd1 "_law_source" = true) (k1 : PySem.W.keepIn K (.ref f1) = true)
    (a2 : PySem.W.nsIn K mainGlobals "_law_pick" = some (some (.ref f2))) (l2 : K.lookup f2 = some ⟨oc2, od2, .func (PySem.W.fnOf "_law_pick" "_law_pick" (defArgs st__law_pick) (defBody st__law_pick) (defScope st__law_pick) .none kV2 dc2 pm2 an2 cd2 ct2), sl2⟩) (c2 : PySem.W.codeIn K cd2 "_law_pick" = true) (k2 : PySem.W.keepIn K (.ref f2) = true)
    (a3 : PySem.W.nsIn K mainGlobals "_law_letters" = some (some (.ref f3))) (l3 : K.lookup f3 = some ⟨oc3, od3, .func (PySem.W.fnOf "_law_letters" "_law_letters" (defArgs st__law_letters) (defBody st__law_letters) (defScope st__law_letters) .none kV3 dc3 pm3 an3 cd3 ct3), sl3⟩) (c3 : PySem.W.codeIn K cd3 "_law_letters" = true) (k3 : PySem.W.keepIn K (.ref f3) = true)
    (a4 : PySem.W.nsIn K mainGlobals "_law_round" = some (some (.ref f4))) (l4 : K.lookup f4 = some ⟨oc4, od4, .func (PySem.W.fnOf "_law_round" "_law_round" (defArgs st__law_round) (defBody st__law_round) (defScope st__law_round) .none kV4 dc4 pm4 an4 cd4 ct4), sl4⟩) (c4 : PySem.W.codeIn K cd4 "_law_round" = true) (k4 : PySem.W.keepIn K (.ref f4) = true)
    (a5 : PySem.W.nsIn K mainGlobals "_law_word" = some (some (.ref f5))) (l5 : K.lookup f5 = some ⟨oc5, od5, .func (PySem.W.fnOf "_law_word" "_law_word" (defArgs st__law_word) (defBody st__law_word) (defScope st__law_word) .none kV5 dc5 pm5 an5 cd5 ct5), sl5⟩) (c5 : PySem.W.codeIn K cd5 "_law_word" = true) (k5 : PySem.W.keepIn K (.ref f5) = true)
    (a6 : PySem.W.nsIn K mainGlobals "_law_ring" = some (some (.ref f6))) (l6 : K.lookup f6 = some ⟨oc6, od6, .func (PySem.W.fnOf "_law_ring" "_law_ring" (defArgs st__law_ring) (defBody st__law_ring) (defScope st__law_ring) .none kV6 dc6 pm6 an6 cd6 ct6), sl6⟩) (c6 : PySem.W.codeIn K cd6 "_law_ring" = true) (k6 : PySem.W.keepIn K (.ref f6) = true)
    (a7 : PySem.W.nsIn K mainGlobals "_law_book" = some (some (.ref f7))) (l7 : K.lookup f7 = some ⟨oc7, od7, .func (PySem.W.fnOf "_law_book" "_law_book" (defArgs st__law_book) (defBody st__law_book) (defScope st__law_book) .none kV7 dc7 pm7 an7 cd7 ct7), sl7⟩) (c7 : PySem.W.codeIn K cd7 "_law_book" = true) (k7 : PySem.W.keepIn K (.ref f7) = true)
    (a8 : PySem.W.nsIn K mainGlobals "_law_odd_window" = some (some (.ref f8))) (l8 : K.lookup f8 = some ⟨oc8, od8, .func (PySem.W.fnOf "_law_odd_window" "_law_odd_window" (defArgs st__law_odd_window) (defBody st__law_odd_window) (defScope st__law_odd_window) .none kV8 dc8 pm8 an8 cd8 ct8), sl8⟩) (c8 : PySem.W.codeIn K cd8 "_law_odd_window" = true) (k8 : PySem.W.keepIn K (.ref f8) = true)
    (a9 : PySem.W.nsIn K mainGlobals "_law_bent_book" = some (some (.ref f9))) (l9 : K.lookup f9 = some ⟨oc9, od9, .func (PySem.W.fnOf "_law_bent_book" "_law_bent_book" (defArgs st__law_bent_book) (defBody st__law_bent_book) (defScope st__law_bent_book) .none kV9 dc9 pm9 an9 cd9 ct9), sl9⟩) (c9 : PySem.W.codeIn K cd9 "_law_bent_book" = true) (k9 : PySem.W.keepIn K (.ref f9) = true)
    (a10 : PySem.W.nsIn K mainGlobals "_law_is_word" = some (some (.ref f10))) (l10 : K.lookup f10 = some ⟨oc10, od10, .func (PySem.W.fnOf "_law_is_word" "_law_is_word" (defArgs st__law_is_word) (defBody st__law_is_word) (defScope st__law_is_word) .none kV10 dc10 pm10 an10 cd10 ct10), sl10⟩) (c10 : PySem.W.codeIn K cd10 "_law_is_word" = true) (k10 : PySem.W.keepIn K (.ref f10) = true)
    (a11 : PySem.W.nsIn K mainGlobals "_law_is_book" = some (some (.ref f11))) (l11 : K.lookup f11 = some ⟨oc11, od11, .func (PySem.W.fnOf "_law_is_book" "_law_is_book" (defArgs st__law_is_book) (defBody st__law_is_book) (defScope st__law_is_book) .none kV11 dc11 pm11 an11 cd11 ct11), sl11⟩) (c11 : PySem.W.codeIn K cd11 "_law_is_book" = true) (k11 : PySem.W.keepIn K (.ref f11) = true)
    (a12 : PySem.W.nsIn K mainGlobals "_law_same" = some (some (.ref f12))) (l12 : K.lookup f12 = some ⟨oc12, od12, .func (PySem.W.fnOf "_law_same" "_law_same" (defArgs st__law_same) (defBody st__law_same) (defScope st__law_same) .none kV12 dc12 pm12 an12 cd12 ct12), sl12⟩) (c12 : PySem.W.codeIn K cd12 "_law_same" = true) (k12 : PySem.W.keepIn K (.ref f12) = true)
    (a13 : PySem.W.nsIn K mainGlobals "is_integer" = some (some (.ref f13))) (l13 : K.lookup f13 = some ⟨oc13, od13, .func (PySem.W.fnOf "is_integer" "is_integer" (defArgs st_is_integer) (defBody st_is_integer) (defScope st_is_integer) .none kV13 dc13 pm13 an13 cd13 ct13), sl13⟩) (c13 : PySem.W.codeIn K cd13 "is_integer" = true) (k13 : PySem.W.keepIn K (.ref f13) = true)
    (a14 : PySem.W.nsIn K mainGlobals "is_size" = some (some (.ref f14))) (l14 : K.lookup f14 = some ⟨oc14, od14, .func (PySem.W.fnOf "is_size" "is_size" (defArgs st_is_size) (defBody st_is_size) (defScope st_is_size) .none kV14 dc14 pm14 an14 cd14 ct14), sl14⟩) (c14 : PySem.W.codeIn K cd14 "is_size" = true) (k14 : PySem.W.keepIn K (.ref f14) = true)
    (a15 : PySem.W.nsIn K mainGlobals "is_word" = some (some (.ref f15))) (l15 : K.lookup f15 = some ⟨oc15, od15, .func (PySem.W.fnOf "is_word" "is_word" (defArgs st_is_word) (defBody st_is_word) (defScope st_is_word) .none kV15 dc15 pm15 an15 cd15 ct15), sl15⟩) (c15 : PySem.W.codeIn K cd15 "is_word" = true) (k15 : PySem.W.keepIn K (.ref f15) = true)
    (a16 : PySem.W.nsIn K mainGlobals "are_ascending" = some (some (.ref f16))) (l16 : K.lookup f16 = some ⟨oc16, od16, .func (PySem.W.fnOf "are_ascending" "are_ascending" (defArgs st_are_ascending) (defBody st_are_ascending) (defScope st_are_ascending) .none kV16 dc16 pm16 an16 cd16 ct16), sl16⟩) (c16 : PySem.W.codeIn K cd16 "are_ascending" = true) (k16 : PySem.W.keepIn K (.ref f16) = true)
    (a17 : PySem.W.nsIn K mainGlobals "are_windows" = some (some (.ref f17))) (l17 : K.lookup f17 = some ⟨oc17, od17, .func (PySem.W.fnOf "are_windows" "are_windows" (defArgs st_are_windows) (defBody st_are_windows) (defScope st_are_windows) .none kV17 dc17 pm17 an17 cd17 ct17), sl17⟩) (c17 : PySem.W.codeIn K cd17 "are_windows" = true) (k17 : PySem.W.keepIn K (.ref f17) = true)
    (a18 : PySem.W.nsIn K mainGlobals "is_a_book" = some (some (.ref f18))) (l18 : K.lookup f18 = some ⟨oc18, od18, .func (PySem.W.fnOf "is_a_book" "is_a_book" (defArgs st_is_a_book) (defBody st_is_a_book) (defScope st_is_a_book) .none kV18 dc18 pm18 an18 cd18 ct18), sl18⟩) (c18 : PySem.W.codeIn K cd18 "is_a_book" = true) (k18 : PySem.W.keepIn K (.ref f18) = true)
    (a19 : PySem.W.nsIn K mainGlobals "is_book" = some (some (.ref f19))) (l19 : K.lookup f19 = some ⟨oc19, od19, .func (PySem.W.fnOf "is_book" "is_book" (defArgs st_is_book) (defBody st_is_book) (defScope st_is_book) .none kV19 dc19 pm19 an19 cd19 ct19), sl19⟩) (c19 : PySem.W.codeIn K cd19 "is_book" = true) (k19 : PySem.W.keepIn K (.ref f19) = true)
    (a20 : PySem.W.nsIn K mainGlobals "_law_books_right" = some (some (.ref f20))) (l20 : K.lookup f20 = some ⟨oc20, od20, .func (PySem.W.fnOf "_law_books_right" "_law_books_right" (defArgs st__law_books_right) (defBody st__law_books_right) (defScope st__law_books_right) .none kV20 dc20 pm20 an20 cd20 ct20), sl20⟩) (c20 : PySem.W.codeIn K cd20 "_law_books_right" = true) (k20 : PySem.W.keepIn K (.ref f20) = true)
    (a21 : PySem.W.nsIn K mainGlobals "_law_odd_texts" = some (some (.ref f21))) (l21 : K.lookup f21 = some ⟨oc21, od21, .func (PySem.W.fnOf "_law_odd_texts" "_law_odd_texts" (defArgs st__law_odd_texts) (defBody st__law_odd_texts) (defScope st__law_odd_texts) .none kV21 dc21 pm21 an21 cd21 ct21), sl21⟩) (c21 : PySem.W.codeIn K cd21 "_law_odd_texts" = true) (k21 : PySem.W.keepIn K (.ref f21) = true)
    (a22 : PySem.W.nsIn K mainGlobals "_law_piece" = some (some (.ref f22))) (l22 : K.lookup f22 = some ⟨oc22, od22, .func (PySem.W.fnOf "_law_piece" "_law_piece" (defArgs st__law_piece) (defBody st__law_piece) (defScope st__law_piece) .none kV22 dc22 pm22 an22 cd22 ct22), sl22⟩) (c22 : PySem.W.codeIn K cd22 "_law_piece" = true) (k22 : PySem.W.keepIn K (.ref f22) = true)
    (a23 : PySem.W.nsIn K mainGlobals "_law_is_piece" = some (some (.ref f23))) (l23 : K.lookup f23 = some ⟨oc23, od23, .func (PySem.W.fnOf "_law_is_piece" "_law_is_piece" (defArgs st__law_is_piece) (defBody st__law_is_piece) (defScope st__law_is_piece) .none kV23 dc23 pm23 an23 cd23 ct23), sl23⟩) (c23 : PySem.W.codeIn K cd23 "_law_is_piece" = true) (k23 : PySem.W.keepIn K (.ref f23) = true)
    (a24 : PySem.W.nsIn K mainGlobals "need_book" = some (some (.ref f24))) (l24 : K.lookup f24 = some ⟨oc24, od24, .func (PySem.W.fnOf "need_book" "need_book" (defArgs st_need_book) (defBody st_need_book) (defScope st_need_book) .none kV24 dc24 pm24 an24 cd24 ct24), sl24⟩) (c24 : PySem.W.codeIn K cd24 "need_book" = true) (k24 : PySem.W.keepIn K (.ref f24) = true)
    (a25 : PySem.W.nsIn K mainGlobals "steps_of" = some (some (.ref f25))) (l25 : K.lookup f25 = some ⟨oc25, od25, .func (PySem.W.fnOf "steps_of" "steps_of" (defArgs st_steps_of) (defBody st_steps_of) (defScope st_steps_of) .none kV25 dc25 pm25 an25 cd25 ct25), sl25⟩) (c25 : PySem.W.codeIn K cd25 "steps_of" = true) (k25 : PySem.W.keepIn K (.ref f25) = true)
    (a26 : PySem.W.nsIn K mainGlobals "is_a_piece" = some (some (.ref f26))) (l26 : K.lookup f26 = some ⟨oc26, od26, .func (PySem.W.fnOf "is_a_piece" "is_a_piece" (defArgs st_is_a_piece) (defBody st_is_a_piece) (defScope st_is_a_piece) .none kV26 dc26 pm26 an26 cd26 ct26), sl26⟩) (c26 : PySem.W.codeIn K cd26 "is_a_piece" = true) (k26 : PySem.W.keepIn K (.ref f26) = true)
    (a27 : PySem.W.nsIn K mainGlobals "is_piece" = some (some (.ref f27))) (l27 : K.lookup f27 = some ⟨oc27, od27, .func (PySem.W.fnOf "is_piece" "is_piece" (defArgs st_is_piece) (defBody st_is_piece) (defScope st_is_piece) .none kV27 dc27 pm27 an27 cd27 ct27), sl27⟩) (c27 : PySem.W.codeIn K cd27 "is_piece" = true) (k27 : PySem.W.keepIn K (.ref f27) = true)
    (a28 : PySem.W.nsIn K mainGlobals "is_a_ring" = some (some (.ref f28))) (l28 : K.lookup f28 = some ⟨oc28, od28, .func (PySem.W.fnOf "is_a_ring" "is_a_ring" (defArgs st_is_a_ring) (defBody st_is_a_ring) (defScope st_is_a_ring) .none kV28 dc28 pm28 an28 cd28 ct28), sl28⟩) (c28 : PySem.W.codeIn K cd28 "is_a_ring" = true) (k28 : PySem.W.keepIn K (.ref f28) = true)
    (a29 : PySem.W.nsIn K mainGlobals "is_ring" = some (some (.ref f29))) (l29 : K.lookup f29 = some ⟨oc29, od29, .func (PySem.W.fnOf "is_ring" "is_ring" (defArgs st_is_ring) (defBody st_is_ring) (defScope st_is_ring) .none kV29 dc29 pm29 an29 cd29 ct29), sl29⟩) (c29 : PySem.W.codeIn K cd29 "is_ring" = true) (k29 : PySem.W.keepIn K (.ref f29) = true)
    (a30 : PySem.W.nsIn K mainGlobals "_law_texts_right" = some (some (.ref f30))) (l30 : K.lookup f30 = some ⟨oc30, od30, .func (PySem.W.fnOf "_law_texts_right" "_law_texts_right" (defArgs st__law_texts_right) (defBody st__law_texts_right) (defScope st__law_texts_right) .none kV30 dc30 pm30 an30 cd30 ct30), sl30⟩) (c30 : PySem.W.codeIn K cd30 "_law_texts_right" = true) (k30 : PySem.W.keepIn K (.ref f30) = true)
    (a31 : PySem.W.nsIn K mainGlobals "places_of" = some (some (.ref f31))) (l31 : K.lookup f31 = some ⟨oc31, od31, .func (PySem.W.fnOf "places_of" "places_of" (defArgs st_places_of) (defBody st_places_of) (defScope st_places_of) .none kV31 dc31 pm31 an31 cd31 ct31), sl31⟩) (c31 : PySem.W.codeIn K cd31 "places_of" = true) (k31 : PySem.W.keepIn K (.ref f31) = true)
    (a32 : PySem.W.nsIn K mainGlobals "places" = some (some (.ref f32))) (l32 : K.lookup f32 = some ⟨oc32, od32, .func (PySem.W.fnOf "places" "places" (defArgs st_places) (defBody st_places) (defScope st_places) .none kV32 dc32 pm32 an32 cd32 ct32), sl32⟩) (c32 : PySem.W.codeIn K cd32 "places" = true) (k32 : PySem.W.keepIn K (.ref f32) = true)
    (a33 : PySem.W.nsIn K mainGlobals "_law_places_right" = some (some (.ref f33))) (l33 : K.lookup f33 = some ⟨oc33, od33, .func (PySem.W.fnOf "_law_places_right" "_law_places_right" (defArgs st__law_places_right) (defBody st__law_places_right) (defScope st__law_places_right) .none kV33 dc33 pm33 an33 cd33 ct33), sl33⟩) (c33 : PySem.W.codeIn K cd33 "_law_places_right" = true) (k33 : PySem.W.keepIn K (.ref f33) = true)
    (a34 : PySem.W.nsIn K mainGlobals "_law_great_right" = some (some (.ref f34))) (l34 : K.lookup f34 = some ⟨oc34, od34, .func (PySem.W.fnOf "_law_great_right" "_law_great_right" (defArgs st__law_great_right) (defBody st__law_great_right) (defScope st__law_great_right) .none kV34 dc34 pm34 an34 cd34 ct34), sl34⟩) (c34 : PySem.W.codeIn K cd34 "_law_great_right" = true) (k34 : PySem.W.keepIn K (.ref f34) = true)
    (a35 : PySem.W.nsIn K mainGlobals "law" = some (some (.ref f35))) (l35 : K.lookup f35 = some ⟨oc35, od35, .func (PySem.W.fnOf "law" "law" (defArgs st_law) (defBody st_law) (defScope st_law) .none kV35 dc35 pm35 an35 cd35 ct35), sl35⟩) (c35 : PySem.W.codeIn K cd35 "law" = true) (k35 : PySem.W.keepIn K (.ref f35) = true)
    (z_abs : PySem.W.nsIn K mainGlobals "abs" = some none)
    (z_all : PySem.W.nsIn K mainGlobals "all" = some none)
    (z_bool : PySem.W.nsIn K mainGlobals "bool" = some none)
    (z_int : PySem.W.nsIn K mainGlobals "int" = some none)
    (z_isinstance : PySem.W.nsIn K mainGlobals "isinstance" = some none)
    (z_len : PySem.W.nsIn K mainGlobals "len" = some none)
    (z_list : PySem.W.nsIn K mainGlobals "list" = some none)
    (z_max : PySem.W.nsIn K mainGlobals "max" = some none)
    (z_min : PySem.W.nsIn K mainGlobals "min" = some none)
    (z_range : PySem.W.nsIn K mainGlobals "range" = some none)
    (z_set : PySem.W.nsIn K mainGlobals "set" = some none)
    (z_sorted : PySem.W.nsIn K mainGlobals "sorted" = some none)
    (z_str : PySem.W.nsIn K mainGlobals "str" = some none)
    (z_tuple : PySem.W.nsIn K mainGlobals "tuple" = some none)
    (v_LEAST_SIZE : PySem.W.nsIn K mainGlobals "LEAST_SIZE" = some (some (.int 2 t_LEAST_SIZE)))
    (v_LETTERS : PySem.W.nsIn K mainGlobals "LETTERS" = some (some (.str (Str.ofString "abcdefghijklmnopqrstuvwxyz") t_LETTERS)))
    (v_MOST_SIZE : PySem.W.nsIn K mainGlobals "MOST_SIZE" = some (some (.int 6 t_MOST_SIZE)))
    : ∃ fd : FuncData, (∀ (s : Shared) (v : Value), BindsTo s fd ⟨[v], []⟩ [("script", v)]) ∧ ∀ base : Heap, K.In base → base.Ns mainGlobals mg → FnG l.prog w K mg base CX0 9 fa fd ["script"] (spM K 1 m_law) := by
  have e := hfa.symm.trans (PySem.W.mg_of X G a35)
  cases e
  let T : Wd K mg := { _law_source := ⟨f1, _, fun_mk (st := st__law_source) l1 c1 k1, PySem.W.mg_of X G a1⟩, _law_pick := ⟨f2, _, fun_mk (st := st__law_pick) l2 c2 k2, PySem.W.mg_of X G a2⟩, _law_letters := ⟨f3, _, fun_mk (st := st__law_letters) l3 c3 k3, PySem.W.mg_of X G a3⟩, _law_round := ⟨f4, _, fun_mk (st := st__law_round) l4 c4 k4, PySem.W.mg_of X G a4⟩, _law_word := ⟨f5, _, fun_mk (st := st__law_word) l5 c5 k5, PySem.W.mg_of X G a5⟩, _law_ring := ⟨f6, _, fun_mk (st := st__law_ring) l6 c6 k6, PySem.W.mg_of X G a6⟩, _law_book := ⟨f7, _, fun_mk (st := st__law_book) l7 c7 k7, PySem.W.mg_of X G a7⟩, _law_odd_window := ⟨f8, _, fun_mk (st := st__law_odd_window) l8 c8 k8, PySem.W.mg_of X G a8⟩, _law_bent_book := ⟨f9, _, fun_mk (st := st__law_bent_book) l9 c9 k9, PySem.W.mg_of X G a9⟩, _law_is_word := ⟨f10, _, fun_mk (st := st__law_is_word) l10 c10 k10, PySem.W.mg_of X G a10⟩, _law_is_book := ⟨f11, _, fun_mk (st := st__law_is_book) l11 c11 k11, PySem.W.mg_of X G a11⟩, _law_same := ⟨f12, _, fun_mk (st := st__law_same) l12 c12 k12, PySem.W.mg_of X G a12⟩, is_integer := ⟨f13, _, fun_mk (st := st_is_integer) l13 c13 k13, PySem.W.mg_of X G a13⟩, is_size := ⟨f14, _, fun_mk (st := st_is_size) l14 c14 k14, PySem.W.mg_of X G a14⟩, is_word := ⟨f15, _, fun_mk (st := st_is_word) l15 c15 k15, PySem.W.mg_of X G a15⟩, are_ascending := ⟨f16, _, fun_mk (st := st_are_ascending) l16 c16 k16, PySem.W.mg_of X G a16⟩, are_windows := ⟨f17, _, fun_mk (st := st_are_windows) l17 c17 k17, PySem.W.mg_of X G a17⟩, is_a_book := ⟨f18, _, fun_mk (st := st_is_a_book) l18 c18 k18, PySem.W.mg_of X G a18⟩, is_book := ⟨f19, _, fun_mk (st := st_is_book) l19 c19 k19, PySem.W.mg_of X G a19⟩, _law_books_right := ⟨f20, _, fun_mk (st := st__law_books_right) l20 c20 k20, PySem.W.mg_of X G a20⟩, _law_odd_texts := ⟨f21, _, fun_mk (st := st__law_odd_texts) l21 c21 k21, PySem.W.mg_of X G a21⟩, _law_piece := ⟨f22, _, fun_mk (st := st__law_piece) l22 c22 k22, PySem.W.mg_of X G a22⟩, _law_is_piece := ⟨f23, _, fun_mk (st := st__law_is_piece) l23 c23 k23, PySem.W.mg_of X G a23⟩, need_book := ⟨f24, _, fun_mk (st := st_need_book) l24 c24 k24, PySem.W.mg_of X G a24⟩, steps_of := ⟨f25, _, fun_mk (st := st_steps_of) l25 c25 k25, PySem.W.mg_of X G a25⟩, is_a_piece := ⟨f26, _, fun_mk (st := st_is_a_piece) l26 c26 k26, PySem.W.mg_of X G a26⟩, is_piece := ⟨f27, _, fun_mk (st := st_is_piece) l27 c27 k27, PySem.W.mg_of X G a27⟩, is_a_ring := ⟨f28, _, fun_mk (st := st_is_a_ring) l28 c28 k28, PySem.W.mg_of X G a28⟩, is_ring := ⟨f29, _, fun_mk (st := st_is_ring) l29 c29 k29, PySem.W.mg_of X G a29⟩, _law_texts_right := ⟨f30, _, fun_mk (st := st__law_texts_right) l30 c30 k30, PySem.W.mg_of X G a30⟩, places_of := ⟨f31, _, fun_mk (st := st_places_of) l31 c31 k31, PySem.W.mg_of X G a31⟩, places := ⟨f32, _, fun_mk (st := st_places) l32 c32 k32, PySem.W.mg_of X G a32⟩, _law_places_right := ⟨f33, _, fun_mk (st := st__law_places_right) l33 c33 k33, PySem.W.mg_of X G a33⟩, _law_great_right := ⟨f34, _, fun_mk (st := st__law_great_right) l34 c34 k34, PySem.W.mg_of X G a34⟩, law := ⟨fa, _, fun_mk (st := st_law) l35 c35 k35, PySem.W.mg_of X G a35⟩, n_abs := PySem.W.mg_none_of X G z_abs, n_all := PySem.W.mg_none_of X G z_all, n_bool := PySem.W.mg_none_of X G z_bool, n_int := PySem.W.mg_none_of X G z_int, n_isinstance := PySem.W.mg_none_of X G z_isinstance, n_len := PySem.W.mg_none_of X G z_len, n_list := PySem.W.mg_none_of X G z_list, n_max := PySem.W.mg_none_of X G z_max, n_min := PySem.W.mg_none_of X G z_min, n_range := PySem.W.mg_none_of X G z_range, n_set := PySem.W.mg_none_of X G z_set, n_sorted := PySem.W.mg_none_of X G z_sorted, n_str := PySem.W.mg_none_of X G z_str, n_tuple := PySem.W.mg_none_of X G z_tuple, t_LEAST_SIZE := t_LEAST_SIZE, c_LEAST_SIZE := PySem.W.mg_of X G v_LEAST_SIZE, t_LETTERS := t_LETTERS, c_LETTERS := PySem.W.mg_of X G v_LETTERS, t_MOST_SIZE := t_MOST_SIZE, c_MOST_SIZE := PySem.W.mg_of X G v_MOST_SIZE }
  exact ⟨PySem.W.fnOf "law" "law" (defArgs st_law) (defBody st_law) (defScope st_law) .none kV35 dc35 pm35 an35 cd35 ct35, fun s v => .of_eq rfl, fun base _ _ => ok_law T⟩
end Lw

/-! Rt: texts that are read round. -/
namespace Fm
open PySem PySem.Spec PyProof.Rows L2
/-- the sign at place i, read round -/
def rd (s : Tx) (i : Nat) : Nat := s.getD (i % s.length) 0
/-- n signs from place a on, read round -/
def readTx (s : Tx) (a n : Nat) : Tx := (List.range n).map fun j => rd s (a + j)
def Stands (s t : Tx) : Prop := ∃ a, readTx s a t.length = t
@[simp] theorem readTx_len (s : Tx) (a n : Nat) : (readTx s a n).length = n := by simp [readTx]
theorem readTx_at (s : Tx) (a n i : Nat) (h : i < n) : (readTx s a n).getD i 0 = rd s (a + i) := by
  simp [readTx, List.getD_eq_getElem?_getD, h]
theorem rd_mod (s : Tx) (i : Nat) : rd s (i % s.length) = rd s i := by
  unfold rd
  rw [Nat.mod_mod]
theorem rd_congr {s : Tx} {i j : Nat} (h : i % s.length = j % s.length) : rd s i = rd s j := by
  unfold rd
  rw [h]
theorem rd_lt {s : Tx} {i : Nat} (h : i < s.length) : rd s i = s.getD i 0 := by
  unfold rd
  rw [Nat.mod_eq_of_lt h]
theorem tx_ext {s t : Tx} (hl : s.length = t.length) (h : ∀ i, i < s.length → s.getD i 0 = t.getD i 0) : s = t := by
  apply List.ext_getElem hl
  intro i h1 h2
  have := h i h1
  rw [List.getD_eq_getElem?_getD, List.getD_eq_getElem?_getD, List.getElem?_eq_getElem h1, List.getElem?_eq_getElem h2] at this
  exact this
theorem read_eq {s t : Tx} {a : Nat} : readTx s a t.length = t ↔ ∀ j, j < t.length → t.getD j 0 = rd s (a + j) := by
  constructor
  · intro h j hj
    have := readTx_at s a t.length j hj
    rw [h] at this
    exact this
  · intro h
    refine tx_ext (by simp) fun i hi => ?_
    rw [readTx_len] at hi
    rw [readTx_at _ _ _ _ hi, h i hi]
theorem stands_iff {s t : Tx} : Stands s t ↔ ∃ a, ∀ j, j < t.length → t.getD j 0 = rd s (a + j) := by
  unfold Stands
  exact exists_congr fun a => read_eq
theorem stands_lt {s t : Tx} (h0 : s ≠ []) (h : Stands s t) : ∃ a, a < s.length ∧ ∀ j, j < t.length → t.getD j 0 = rd s (a + j) := by
  obtain ⟨a, h⟩ := stands_iff.mp h
  have hp : 0 < s.length := List.length_pos_iff.mpr h0
  refine ⟨a % s.length, Nat.mod_lt _ hp, fun j hj => ?_⟩
  rw [h j hj]
  exact rd_congr (Nat.mod_add_mod a s.length j).symm
/-! ### s * k -/
def rep (k : Nat) (s : Tx) : Tx := (List.replicate k s).flatten
@[simp] theorem rep_length (k : Nat) (s : Tx) : (rep k s).length = k * s.length := by simp [rep]
theorem rep_getD (s : Tx) : ∀ (k i : Nat), i < k * s.length → (rep k s).getD i 0 = rd s i
  | 0, i, h => by simp at h
  | k + 1, i, h => by
    have e : rep (k + 1) s = s ++ rep k s := by unfold rep; rw [List.replicate_succ, List.flatten_cons]
    rw [e]
    by_cases c : i < s.length
    · rw [rd_lt c]
      simp [List.getD_eq_getElem?_getD, List.getElem?_append_left c]
    · have ih := rep_getD s k (i - s.length) (by rw [Nat.succ_mul] at h; omega)
      have e2 : rd s (i - s.length) = rd s i := rd_congr (Nat.mod_eq_sub_mod (by omega)).symm
      rw [← e2, ← ih]
      simp [List.getD_eq_getElem?_getD, List.getElem?_append_right (show s.length ≤ i by omega)]
theorem rep_ne {k : Nat} {s : Tx} (hk : 0 < k) (h : s ≠ []) : rep k s ≠ [] := by
  intro e
  have := congrArg List.length e
  rw [rep_length, List.length_nil] at this
  have hp : 0 < s.length := List.length_pos_iff.mpr h
  rcases Nat.mul_eq_zero.mp this with z | z <;> omega
theorem rep_rd {k : Nat} (hk : 0 < k) (s : Tx) (i : Nat) : rd (rep k s) i = rd s i := by
  by_cases h0 : s = []
  · subst h0
    unfold rd rep
    simp
  · have hp : 0 < s.length := List.length_pos_iff.mpr h0
    have hm : i % (k * s.length) < k * s.length := Nat.mod_lt _ (Nat.mul_pos hk hp)
    show (rep k s).getD (i % (rep k s).length) 0 = _
    rw [rep_length, rep_getD s k _ hm]
    exact rd_congr (Nat.mod_mul_left_mod i k s.length)
theorem stands_rep {k : Nat} (hk : 0 < k) {s t : Tx} : Stands (rep k s) t ↔ Stands s t := by
  rw [stands_iff, stands_iff]
  exact exists_congr fun a => by
    constructor
    · intro h j hj; rw [h j hj, rep_rd hk]
    · intro h j hj; rw [h j hj, rep_rd hk]
theorem isSub_iff {t l : Tx} (h0 : t ≠ []) : isSub t l = true ↔ ∃ i, i + t.length ≤ l.length ∧ ∀ j, j < t.length → t.getD j 0 = l.getD (i + j) 0 := by
  have hp : 0 < t.length := List.length_pos_iff.mpr h0
  unfold isSub
  rw [List.any_eq_true]
  constructor
  · rintro ⟨i, hi, e⟩
    have e := of_decide_eq_true e
    have hl := congrArg List.length e
    rw [List.length_take, List.length_drop] at hl
    refine ⟨i, by omega, fun j hj => ?_⟩
    conv => lhs; rw [← e]
    simp [List.getD_eq_getElem?_getD, List.getElem?_take, hj]
  · rintro ⟨i, hi, e⟩
    refine ⟨i, List.mem_range.mpr (by omega), decide_eq_true (tx_ext (by rw [List.length_take, List.length_drop]; omega) fun j hj => ?_)⟩
    rw [List.length_take, List.length_drop] at hj
    have hj' : j < t.length := by omega
    rw [e j hj']
    simp [List.getD_eq_getElem?_getD, List.getElem?_take, hj']
/-- piece in ring * k -/
theorem sub_rep {s t : Tx} {k : Nat} (h0 : s ≠ []) (h1 : t ≠ []) (hk : t.length + s.length ≤ k * s.length + 1) : isSub t (rep k s) = true ↔ Stands s t := by
  rw [isSub_iff h1, stands_iff]
  constructor
  · rintro ⟨i, hi, e⟩
    rw [rep_length] at hi
    exact ⟨i, fun j hj => by rw [e j hj, rep_getD s k _ (by omega)]⟩
  · intro h
    obtain ⟨a, ha, h⟩ := stands_lt h0 (stands_iff.mpr h)
    refine ⟨a, by rw [rep_length]; omega, fun j hj => ?_⟩
    rw [h j hj, rep_getD s k _ (by omega)]
/-! ### from behind -/
theorem rd_rev {s : Tx} (h0 : s ≠ []) (i : Nat) : rd s.reverse i = rd s (s.length - 1 - i % s.length) := by
  have hp : 0 < s.length := List.length_pos_iff.mpr h0
  have hm := Nat.mod_lt i hp
  unfold rd
  rw [List.length_reverse, Nat.mod_eq_of_lt (show s.length - 1 - i % s.length < s.length by omega)]
  rw [List.getD_eq_getElem?_getD, List.getElem?_reverse hm, List.getD_eq_getElem?_getD]
theorem stands_rev1 {s t : Tx} (h0 : s ≠ []) (h : Stands s t) : Stands s.reverse t.reverse := by
  have hp : 0 < s.length := List.length_pos_iff.mpr h0
  obtain ⟨a, h⟩ := stands_iff.mp h
  refine stands_iff.mpr ⟨s.length * (a + t.length) - a - t.length, fun j hj => ?_⟩
  rw [List.length_reverse] at hj
  rw [List.getD_eq_getElem?_getD, List.getElem?_reverse hj, ← List.getD_eq_getElem?_getD, h _ (by omega), rd_rev h0]
  apply rd_congr
  have hle : a + t.length ≤ s.length * (a + t.length) := Nat.le_mul_of_pos_left _ hp
  have hm := Nat.mod_lt (s.length * (a + t.length) - a - t.length + j) hp
  generalize hx : (s.length * (a + t.length) - a - t.length + j) % s.length = x at hm ⊢
  have hd := Nat.div_add_mod (s.length * (a + t.length) - a - t.length + j) s.length
  rw [hx] at hd
  generalize (s.length * (a + t.length) - a - t.length + j) / s.length = q at hd
  -- (a + (|t|-1-j)) + 1 + (s q + x) = s (a + |t|)
  have e1 : a + (t.length - 1 - j) + 1 + (s.length * q + x) = s.length * (a + t.length) := by omega
  have hq : q ≤ a + t.length := by
    rcases Nat.lt_or_ge (a + t.length) q with c | c
    · have := Nat.mul_le_mul_left s.length (Nat.succ_le_of_lt c)
      rw [Nat.mul_succ] at this
      omega
    · exact c
  obtain ⟨r, hr⟩ : ∃ r, a + t.length = q + r := ⟨a + t.length - q, by omega⟩
  rw [hr, Nat.mul_add] at e1
  have e2 : a + (t.length - 1 - j) = s.length * r - 1 - x := by omega
  rw [e2, Nat.mod_eq_of_lt (show s.length - 1 - x < s.length by omega)]
  have hr1 : 1 ≤ r := by
    rcases Nat.eq_zero_or_pos r with z | z
    · subst z; omega
    · exact z
  obtain ⟨r', rfl⟩ : ∃ r', r = r' + 1 := ⟨r - 1, by omega⟩
  rw [Nat.mul_succ, show s.length * r' + s.length - 1 - x = (s.length - 1 - x) + s.length * r' by omega, Nat.add_mul_mod_self_left]
  exact Nat.mod_eq_of_lt (by omega)
theorem stands_rev {s t : Tx} (h0 : s ≠ []) : Stands s.reverse t.reverse ↔ Stands s t := by
  constructor
  · intro h
    have := stands_rev1 (by simpa using h0) h
    rw [List.reverse_reverse, List.reverse_reverse] at this
    exact this
  · exact stands_rev1 h0
/-! ### parts -/
theorem stands_part {s t : Tx} {i n : Nat} (h : Stands s t) : Stands s ((t.drop i).take n) := by
  obtain ⟨a, h⟩ := stands_iff.mp h
  refine stands_iff.mpr ⟨a + i, fun j hj => ?_⟩
  rw [List.length_take, List.length_drop] at hj
  have e : ((t.drop i).take n).getD j 0 = t.getD (i + j) 0 := by
    simp [List.getD_eq_getElem?_getD, List.getElem?_take, show j < n by omega]
  rw [e, h _ (by omega), Nat.add_assoc]
end Fm

/-! Rt2: turns, the least one; filters. -/
namespace Fm
open PySem PySem.Spec PyProof.Rows L2
/-- a comprehension with a test, no effect -/
theorem lc_filter {α : Type} {g : MG} {ft : MT} {fe : ME} {P : List O} {ρ : En} {S : List O} (G : α → D) (p : α → Bool) (F : α → D) : ∀ l : List α, (∀ x ∈ l, ∃ ρ1, g (G x) ρ = some ρ1 ∧ ft P ρ1 S = .ok (p x) S ∧ (p x = true → fe P ρ1 S = .ok (F x) S)) →
    lcGo g ft fe P ρ (l.map G) S = .ok ((l.filter p).map F) S
  | [], _ => rfl
  | x :: l, h => by
    obtain ⟨ρ1, e1, e2, e3⟩ := h x List.mem_cons_self
    have ih := lc_filter G p F l fun y hy => h y (List.mem_cons_of_mem _ hy)
    rw [List.map_cons]
    cases c : p x with
    | true =>
      rw [c] at e2
      simp [lcGo, e1, e2, e3 c, ih, R.nx, R.bind, c]
    | false =>
      rw [c] at e2
      simp [lcGo, e1, e2, ih, R.nx, R.bind, c]
theorem low_ints (l : List Int) : (T.lst (l.map T.int)).low = true := by
  unfold T.low
  apply decide_eq_true
  show (PyData.list (T.pds (l.map T.int))).depth ≤ 40
  rw [pds_map]
  have := depth_ints l
  have e : (l.map fun x => (T.int x).pd) = l.map fun y => PyData.int y := rfl
  rw [e]
  simp only [PyData.depth]
  omega
theorem low_strs (l : List Tx) : (T.lst (l.map T.str)).low = true := by
  unfold T.low
  apply decide_eq_true
  show (PyData.list (T.pds (l.map T.str))).depth ≤ 40
  rw [pds_map]
  have := depth_strs l
  have e : (l.map fun x => (T.str x).pd) = l.map fun y => PyData.str (sv y) := rfl
  rw [e]
  simp only [PyData.depth]
  omega
theorem plains_ints (l : List Int) : T.plains (l.map T.int) = true := by simp [T.plain]
theorem eq_nil_ints (l : List Int) : eqT (.lst (l.map T.int)) (.lst []) = some (.bl (decide (l = []))) := by
  have := eqvs_int l []
  rw [List.map_nil] at this
  unfold eqT
  rw [low_ints, plain_lst, plain_lst, plains_ints, eqv_lst, this]
  rfl
theorem sub_strN (P S : List O) {s : Tx} {k : Nat} (h : k < s.length) : subG (.t (.str s)) (.t (.int k)) P S = some (.t (.str [s.getD k 0]), S) := by
  obtain ⟨c, _, c2, c3⟩ := sub_str P S (s := s) (r := k) (by omega) (by omega)
  rw [c3, List.getD_eq_getElem?_getD]
  rw [show ((k : Int)).toNat = k from rfl] at c2
  rw [c2]; rfl
@[simp] theorem e_rev (f : ME) (P : List O) (ρ : En) (S : List O) : mRev f P ρ S = (f P ρ S).bind fun d S1 => match revIn P S1 d with
  | some x => .ok (.t x) S1
  | none => .no := rfl
@[simp] theorem rev_str (P S : List O) (s : Tx) : revIn P S (.t (.str s)) = some (.str s.reverse) := rfl
@[simp] theorem rev_lst (P S : List O) (s : List T) : revIn P S (.t (.lst s)) = some (.lst s.reverse) := rfl
/-! ### turns -/
def turnsTx (s : Tx) : List Tx := (List.range s.length).map fun a => s.drop a ++ s.take a
theorem turn_read {s : Tx} {a : Nat} (h : a < s.length) : s.drop a ++ s.take a = readTx s a s.length := by
  refine tx_ext (by simp; omega) fun i hi => ?_
  rw [List.length_append, List.length_drop, List.length_take] at hi
  rw [readTx_at _ _ _ _ (by omega)]
  by_cases c : i < s.length - a
  · rw [rd_lt (by omega)]
    simp [List.getD_eq_getElem?_getD, List.getElem?_append_left (show i < (s.drop a).length by rw [List.length_drop]; exact c)]
  · have e : rd s (a + i) = rd s (a + i - s.length) := rd_congr (Nat.mod_eq_sub_mod (by omega))
    rw [e, rd_lt (by omega)]
    have e2 : a + i - s.length = i - (s.length - a) := by omega
    rw [e2]
    simp only [List.getD_eq_getElem?_getD]
    rw [List.getElem?_append_right (show (s.drop a).length ≤ i by rw [List.length_drop]; omega), List.length_drop, List.getElem?_take]
    rw [if_pos (by omega)]
theorem turns_eq (s : Tx) : turnsTx s = (List.range s.length).map fun a => readTx s a s.length := by
  unfold turnsTx
  apply List.map_congr_left
  intro a ha
  exact turn_read (List.mem_range.mp ha)
/-- t is a turn of s -/
theorem turns_mem {s t : Tx} (h0 : s ≠ []) : t ∈ turnsTx s ↔ t.length = s.length ∧ Stands s t := by
  have hp : 0 < s.length := List.length_pos_iff.mpr h0
  rw [turns_eq, List.mem_map]
  constructor
  · rintro ⟨a, ha, rfl⟩
    refine ⟨by simp, a, ?_⟩
    rw [readTx_len]
  · rintro ⟨hl, h⟩
    obtain ⟨a, ha, h⟩ := stands_lt h0 h
    refine ⟨a, List.mem_range.mpr ha, ?_⟩
    have := read_eq.mpr h
    rw [hl] at this
    exact this
theorem turn_all {s t : Tx} {a : Nat} (hl : t.length = s.length) (h0 : s ≠ []) (h : ∀ j, j < t.length → t.getD j 0 = rd s (a + j)) (i : Nat) : rd t i = rd s (a + i) := by
  have hp : 0 < s.length := List.length_pos_iff.mpr h0
  have hm := Nat.mod_lt i hp
  show t.getD (i % t.length) 0 = _
  rw [hl, h _ (by omega)]
  exact rd_congr (by rw [Nat.add_mod_mod])
theorem stands_trans {s t u : Tx} (hl : t.length = s.length) (h0 : s ≠ []) (h1 : Stands s t) (h2 : Stands t u) : Stands s u := by
  obtain ⟨a, h1⟩ := stands_iff.mp h1
  obtain ⟨b, h2⟩ := stands_iff.mp h2
  refine stands_iff.mpr ⟨a + b, fun j hj => ?_⟩
  rw [h2 j hj, turn_all hl h0 h1, Nat.add_assoc]
theorem stands_symm {s t : Tx} (hl : t.length = s.length) (h0 : s ≠ []) (h1 : Stands s t) : Stands t s := by
  have hp : 0 < s.length := List.length_pos_iff.mpr h0
  obtain ⟨a, ha, h1⟩ := stands_lt h0 h1
  refine stands_iff.mpr ⟨s.length - a, fun j hj => ?_⟩
  rw [turn_all hl h0 h1, ← rd_lt hj]
  apply rd_congr
  rw [show a + (s.length - a + j) = j + s.length by omega, Nat.add_mod_right]
theorem stands_refl (s : Tx) : Stands s s := stands_iff.mpr ⟨0, fun j hj => by rw [Nat.zero_add, rd_lt hj]⟩
/-! ### the least -/
theorem minTx_mem : ∀ (bs : List Tx) (b : Tx), minTx b bs = b ∨ minTx b bs ∈ bs
  | [], b => .inl rfl
  | y :: bs, b => by
    unfold minTx
    rw [List.foldl_cons]
    have := minTx_mem bs (if y < b then y else b)
    unfold minTx at this
    split at this <;> rename_i c <;> simp only [c, if_true, if_false] at this ⊢
    · rcases this with h | h
      · exact .inr (by rw [h]; exact List.mem_cons_self)
      · exact .inr (List.mem_cons_of_mem _ h)
    · rcases this with h | h
      · exact .inl h
      · exact .inr (List.mem_cons_of_mem _ h)
theorem minTx_le : ∀ (bs : List Tx) (b : Tx), minTx b bs ≤ b ∧ ∀ y ∈ bs, minTx b bs ≤ y
  | [], b => ⟨List.le_refl _, fun _ h => nomatch h⟩
  | x :: bs, b => by
    have e : minTx b (x :: bs) = minTx (if x < b then x else b) bs := rfl
    rw [e]
    obtain ⟨h1, h2⟩ := minTx_le bs (if x < b then x else b)
    have hx : (if x < b then x else b) ≤ x ∧ (if x < b then x else b) ≤ b := by
      split
      · rename_i c; exact ⟨List.le_refl _, List.le_of_lt c⟩
      · rename_i c; exact ⟨List.not_lt.mp c, List.le_refl _⟩
    refine ⟨List.le_trans h1 hx.2, fun y hy => ?_⟩
    rcases List.mem_cons.mp hy with rfl | hy
    · exact List.le_trans h1 hx.1
    · exact h2 y hy
def minL' : List Tx → Tx
  | [] => []
  | b :: bs => minTx b bs
theorem minL_mem {l : List Tx} (h : l ≠ []) : minL' l ∈ l := by
  cases l with
  | nil => exact absurd rfl h
  | cons b bs =>
    rcases minTx_mem bs b with e | e
    · show minTx b bs ∈ _
      rw [e]; exact List.mem_cons_self
    · exact List.mem_cons_of_mem _ e
theorem minL_le {l : List Tx} {x : Tx} (h : x ∈ l) : minL' l ≤ x := by
  cases l with
  | nil => cases h
  | cons b bs =>
    obtain ⟨h1, h2⟩ := minTx_le bs b
    rcases List.mem_cons.mp h with rfl | h
    · exact h1
    · exact h2 x h
theorem minL_eq {l m : List Tx} (h : l ≠ []) (e : ∀ x, x ∈ l ↔ x ∈ m) : minL' l = minL' m := by
  have hm : m ≠ [] := fun z => by
    have := (e _).mp (minL_mem h)
    rw [z] at this
    cases this
  exact List.le_antisymm (minL_le ((e _).mpr (minL_mem hm))) (minL_le ((e _).mp (minL_mem h)))
def leastTx (s : Tx) : Tx := minL' (turnsTx s)
theorem turns_ne {s : Tx} (h0 : s ≠ []) : turnsTx s ≠ [] := by
  intro e
  have := congrArg List.length e
  simp [turnsTx] at this
  exact h0 this
theorem least_turn_eq {s t : Tx} (h0 : s ≠ []) (hl : t.length = s.length) (h : Stands s t) : leastTx t = leastTx s := by
  have t0 : t ≠ [] := fun z => by
    rw [z] at hl
    exact h0 (List.length_eq_zero_iff.mp hl.symm)
  refine minL_eq (turns_ne t0) fun x => ?_
  rw [turns_mem t0, turns_mem h0]
  constructor
  · rintro ⟨a, b⟩
    exact ⟨a.trans hl, stands_trans hl h0 h b⟩
  · rintro ⟨a, b⟩
    exact ⟨a.trans hl.symm, stands_trans hl.symm t0 (stands_symm hl h0 h) b⟩
theorem least_iff {s t : Tx} (h0 : s ≠ []) (t0 : t ≠ []) (hl : t.length = s.length) : leastTx t = leastTx s ↔ Stands s t := by
  constructor
  · intro e
    have a := (turns_mem t0).mp (minL_mem (turns_ne t0))
    have b := (turns_mem h0).mp (minL_mem (turns_ne h0))
    have e : minL' (turnsTx t) = minL' (turnsTx s) := e
    rw [e] at a
    exact stands_trans b.1 h0 b.2 (stands_symm a.1 t0 a.2)
  · exact least_turn_eq h0 hl
theorem minOf_tx {l : List Tx} (h : l ≠ []) : minOf [.lst (l.map T.str)] = some (.str (minL' l)) := by
  cases l with
  | nil => exact absurd rfl h
  | cons b bs =>
    unfold minOf
    simp only [strsOf_map]
    rfl
/-! ### the law's own look at what stands -/
theorem due_iff {s t : Tx} (h0 : s ≠ []) : ((∃ a, a < s.length ∧ readTx s a (t.take s.length).length = t.take s.length) ∧ ∀ k, s.length ≤ k → k < t.length → t.getD k 0 = t.getD (k - s.length) 0) ↔ Stands s t := by
  have hp : 0 < s.length := List.length_pos_iff.mpr h0
  constructor
  · rintro ⟨⟨a, ha, h⟩, h2⟩
    have h := read_eq.mp h
    refine stands_iff.mpr ⟨a, fun j hj => ?_⟩
    induction j using Nat.strongRecOn with
    | ind j ih =>
      by_cases c : j < s.length
      · have := h j (by rw [List.length_take]; omega)
        rw [← this]
        simp [List.getD_eq_getElem?_getD, List.getElem?_take, c]
      · rw [h2 j (by omega) hj, ih (j - s.length) (by omega) (by omega)]
        apply rd_congr
        rw [show a + j = a + (j - s.length) + s.length by omega, Nat.add_mod_right]
  · intro h
    obtain ⟨a, ha, h⟩ := stands_lt h0 h
    refine ⟨⟨a, ha, read_eq.mpr fun j hj => ?_⟩, fun k hk hk2 => ?_⟩
    · rw [List.length_take] at hj
      rw [← h j (by omega)]
      simp [List.getD_eq_getElem?_getD, List.getElem?_take, show j < s.length by omega]
    · rw [h k hk2, h (k - s.length) (by omega)]
      apply rd_congr
      rw [show a + k = a + (k - s.length) + s.length by omega, Nat.add_mod_right]
end Fm

/-! Rt3: turns of repeated texts. -/
namespace Fm
open PySem PySem.Spec PyProof.Rows L2
theorem app_lt : ∀ {a b : Tx} (x y : Tx), a.length = b.length → a < b → a ++ x < b ++ y
  | [], [], _, _, _, h => absurd h (by decide)
  | [], _ :: _, _, _, hl, _ => by simp at hl
  | _ :: _, [], _, _, hl, _ => by simp at hl
  | c :: a, d :: b, x, y, hl, h => by
    rw [List.cons_append, List.cons_append, List.cons_lt_cons_iff]
    rw [List.cons_lt_cons_iff] at h
    rcases h with h | ⟨h1, h2⟩
    · exact .inl h
    · exact .inr ⟨h1, app_lt x y (by simpa using hl) h2⟩
theorem rep_le {a b : Tx} (k : Nat) (hl : a.length = b.length) (h : a ≤ b) : rep k a ≤ rep k b := by
  by_cases e : a = b
  · rw [e]; exact List.le_refl _
  · have hlt : a < b := Decidable.byContradiction fun c => e (List.le_antisymm h (List.not_lt.mp c))
    cases k with
    | zero => exact List.le_refl _
    | succ k =>
      have e1 : ∀ s : Tx, rep (k + 1) s = s ++ rep k s := fun s => by unfold rep; rw [List.replicate_succ, List.flatten_cons]
      rw [e1, e1]
      exact List.le_of_lt (app_lt _ _ hl hlt)
/-- the turns of a repeated text -/
theorem turns_rep {t x : Tx} {k : Nat} (h0 : t ≠ []) (hk : 0 < k) : x ∈ turnsTx (rep k t) ↔ ∃ u ∈ turnsTx t, x = rep k u := by
  rw [turns_mem (rep_ne hk h0), stands_rep hk, rep_length]
  constructor
  · rintro ⟨hl, hs⟩
    obtain ⟨a, h⟩ := stands_iff.mp hs
    have hu : readTx t a t.length ∈ turnsTx t := (turns_mem h0).mpr ⟨readTx_len _ _ _, a, by rw [readTx_len]⟩
    refine ⟨_, hu, tx_ext (by rw [rep_length, readTx_len, hl]) fun j hj => ?_⟩
    rw [rep_getD _ _ _ (by rw [readTx_len]; omega), h j hj]
    exact (turn_all (s := t) (readTx_len _ _ _) h0 (fun i hi => by rw [readTx_len] at hi; exact readTx_at _ _ _ _ hi) j).symm
  · rintro ⟨u, hu, rfl⟩
    obtain ⟨h1, h2⟩ := (turns_mem h0).mp hu
    refine ⟨by rw [rep_length, h1], ?_⟩
    obtain ⟨a, h⟩ := stands_iff.mp h2
    refine stands_iff.mpr ⟨a, fun j hj => ?_⟩
    rw [rep_length] at hj
    rw [rep_getD _ _ _ hj, turn_all h1 h0 h]
theorem least_rep {t : Tx} {k : Nat} (h0 : t ≠ []) (hk : 0 < k) : leastTx (rep k t) = rep k (leastTx t) := by
  have m1 : leastTx (rep k t) ∈ turnsTx (rep k t) := minL_mem (turns_ne (rep_ne hk h0))
  have m2 : leastTx t ∈ turnsTx t := minL_mem (turns_ne h0)
  obtain ⟨u, hu, e⟩ := (turns_rep h0 hk).mp m1
  apply List.le_antisymm
  · exact minL_le ((turns_rep h0 hk).mpr ⟨_, m2, rfl⟩)
  · rw [e]
    refine rep_le k ?_ (minL_le hu)
    rw [((turns_mem h0).mp m2).1, ((turns_mem h0).mp hu).1]
theorem least_stands {t : Tx} (h0 : t ≠ []) : (leastTx t).length = t.length ∧ Stands t (leastTx t) := (turns_mem h0).mp (minL_mem (turns_ne h0))
theorem least_idem {t : Tx} (h0 : t ≠ []) : leastTx (leastTx t) = leastTx t := least_turn_eq h0 (least_stands h0).1 (least_stands h0).2
/-- a loop that ends with a find -/
theorem for_find {α : Type} {g : MG} {fb : MS} {P : List O} {S : List O} (G : α → D) (p : α → Bool) (v : D) (I : En → Prop) : ∀ (l : List α) (ρ : En), I ρ → (∀ x ∈ l, ∀ ρ, I ρ → ∃ ρ1, g (G x) ρ = some ρ1 ∧ (p x = true → fb P ρ1 S = .rt v S) ∧ (p x = false → ∃ ρ2, fb P ρ1 S = .nx ρ2 S ∧ I ρ2)) →
    (l.any p = true → forGo g fb P (l.map G) ρ S = .rt v S) ∧ (l.any p = false → ∃ ρ2, forGo g fb P (l.map G) ρ S = .nx ρ2 S ∧ I ρ2)
  | [], ρ, h, _ => ⟨fun q => by simp at q, fun _ => ⟨ρ, rfl, h⟩⟩
  | x :: l, ρ, h, st => by
    obtain ⟨ρ1, e1, e2, e3⟩ := st x List.mem_cons_self ρ h
    rw [List.map_cons, List.any_cons]
    cases c : p x with
    | true =>
      refine ⟨fun _ => ?_, fun q => by simp at q⟩
      simp [forGo, e1, e2 c]
    | false =>
      obtain ⟨ρ2, e4, h2⟩ := e3 c
      have ih := for_find G p v I l ρ2 h2 fun y hy => st y (List.mem_cons_of_mem _ hy)
      rw [Bool.false_or]
      refine ⟨fun q => ?_, fun q => ?_⟩
      · simp [forGo, e1, e4, ih.1 q]
      · obtain ⟨ρ3, e5, h3⟩ := ih.2 q
        exact ⟨ρ3, by simp [forGo, e1, e4, e5], h3⟩
end Fm

namespace Lw
open Fm
def pot (a b c : Int) : O := .lst [.t (.int a), .t (.int b), .t (.int c)]
@[simp] theorem at_len (P R : List O) (o : O) : (P ++ o :: R)[P.length]? = some o := by
  rw [List.getElem?_append_right (Nat.le_refl _), Nat.sub_self]; rfl
theorem sub_pot0 (P R : List O) (a b c : Int) : subG (.ref P.length) (.t (.int 0)) P (pot a b c :: R) = some (.t (.int a), pot a b c :: R) := by
  simp [subG, seqIx, pot, L2.atI, L2.ixN]
theorem sub_pot1 (P R : List O) (a b c : Int) : subG (.ref P.length) (.t (.int 1)) P (pot a b c :: R) = some (.t (.int b), pot a b c :: R) := by
  simp [subG, seqIx, pot, L2.atI, L2.ixN]
theorem sub_pot2 (P R : List O) (a b c : Int) : subG (.ref P.length) (.t (.int 2)) P (pot a b c :: R) = some (.t (.int c), pot a b c :: R) := by
  simp [subG, seqIx, pot, L2.atI, L2.ixN]
theorem set_pot0 (P R : List O) (a b c x : Int) : setG (.ref P.length) (.t (.int 0)) (.t (.int x)) P (pot a b c :: R) = some (pot x b c :: R) := by
  simp [setG, pot, L2.ixN]
theorem set_pot2 (P R : List O) (a b c x : Int) : setG (.ref P.length) (.t (.int 2)) (.t (.int x)) P (pot a b c :: R) = some (pot a b x :: R) := by
  simp [setG, pot, L2.ixN]
theorem p18 : powT (.int 10) (.int 18) = some (.int 1000000000000000000) := powT_int (n := 18) (by decide) (by decide)
theorem p20 : powT (.int 10) (.int 20) = some (.int (10 ^ 20)) := powT_int (n := 20) (by decide) (by decide)
theorem p26 : powT (.int 10) (.int 26) = some (.int (10 ^ 26)) := powT_int (n := 26) (by decide) (by decide)
theorem p29 : powT (.int 10) (.int 29) = some (.int (10 ^ 29)) := powT_int (n := 29) (by decide) (by decide)
theorem p31 : powT (.int 10) (.int 31) = some (.int (10 ^ 31)) := powT_int (n := 31) (by decide) (by decide)
theorem p32 : powT (.int 10) (.int 32) = some (.int (10 ^ 32)) := powT_int (n := 32) (by decide) (by decide)
theorem nab_lt {i : Int} {n : Nat} (h1 : -(n : Int) < i) (h2 : i < n) : i.natAbs < n := by omega
theorem nab_big {i : Int} (h1 : -(10 ^ 200 : Int) < i) (h2 : i < 10 ^ 200) : i.natAbs < 10 ^ 1000 := Nat.lt_of_lt_of_le (show i.natAbs < 10 ^ 200 by
  have e : ((10 ^ 200 : Nat) : Int) = (10 ^ 200 : Int) := by norm_cast
  omega) (Nat.pow_le_pow_right (by decide) (by decide))
set_option maxHeartbeats 1000000
theorem pick_ok (P R : List O) (a b c top : Int) (hc : 0 ≤ c) (hc2 : c < 10 ^ 20) (ht : 0 < top) (ht2 : top < 10 ^ 20) :
    ∃ r a' b' c', m__law_pick [.ref P.length, .t (.int top)] P (pot a b c :: R) = .ok (.t (.int r)) (pot a' b' c' :: R) ∧ 0 ≤ r ∧ r < top ∧ 0 ≤ c' ∧ c' ≤ c + 1 := by
  by_cases h : 0 < a
  · refine ⟨a % top, a / top, b, c, ?_, Int.emod_nonneg _ (by omega), Int.emod_lt_of_pos _ ht, hc, by omega⟩
    have hb : top.natAbs < 2 ^ 4000 := big_lt (nab_big (by omega) (by omega))
    simp [m__law_pick, e_def, b__law_pick, sub_pot0, h, modT_int ht, fdivT_int ht hb, set_pot0]
  · have e : ∃ r, m__law_pick [.ref P.length, .t (.int top)] P (pot a b c :: R) = .ok (.t (.int (r % top))) (pot a b (c + 1) :: R) := by
      have e1 : mulT (.int 899809363) (.int (c + 1)) = some (.int (899809363 * (c + 1))) := mulT_int (mulOk_l (by decide))
      have e2 : mulT (.int (899809363 * (c + 1))) (.int (c + 1)) = some (.int (899809363 * (c + 1) * (c + 1))) := mulT_int (mulOk_b (nab_big (by omega) (by omega)) (nab_big (by omega) (by omega)))
      have e3 : mulT (.int 32416190071) (.int (c + 1)) = some (.int (32416190071 * (c + 1))) := mulT_int (mulOk_l (by decide))
      simp [m__law_pick, e_def, b__law_pick, sub_pot0, sub_pot1, sub_pot2, h, modT_int ht, set_pot2, e1, e2, e3, p29, p31, p32, modT_int]
      generalize hm : (b + 899809363 * (c + 1) * (c + 1) + 32416190071 * (c + 1)) % 100000000000000000000000000319 = m
      have m1 : 0 ≤ m := by omega
      have m2 : m < 100000000000000000000000000319 := by omega
      have e4 : mulT (.int m) (.int m) = some (.int (m * m)) := mulT_int (mulOk_b (nab_big (by omega) (by omega)) (nab_big (by omega) (by omega)))
      have mm : 0 ≤ m * m := Int.mul_nonneg m1 m1
      have mm2 : m * m ≤ 10 ^ 60 := by
        have := Int.mul_le_mul (Int.le_of_lt m2) (Int.le_of_lt m2) m1 (by omega)
        omega
      have e5 : mulT (.int (m * m)) (.int m) = some (.int (m * m * m)) := mulT_int (mulOk_b (nab_big (by omega) (by omega)) (nab_big (by omega) (by omega)))
      rw [e4]
      simp [e5, sub_pot2, modT_int]
      generalize hk : (m * m * m + (c + 1)) % 10000000000000000000000000000033 = k
      have k1 : 0 ≤ k := by omega
      have k2 : k < 10000000000000000000000000000033 := by omega
      have e6 : mulT (.int k) (.int (k + 104717)) = some (.int (k * (k + 104717))) := mulT_int (mulOk_b (nab_big (by omega) (by omega)) (nab_big (by omega) (by omega)))
      simp [e6, modT_int, fdivT_int (i := k * (k + 104717) % 100000000000000000000000000000049) (j := 7907) (by decide) (big_lt (nab_big (by decide) (by decide)))]
      rw [modT_int ht]
      exact ⟨_, rfl⟩
    obtain ⟨r, e⟩ := e
    exact ⟨r % top, a, b, c + 1, e, Int.emod_nonneg _ (by omega), Int.emod_lt_of_pos _ ht, by omega, by omega⟩
def Pt (n : Nat) (R S : List O) : Prop := ∃ a b c, S = pot a b c :: R ∧ 0 ≤ c ∧ c ≤ n
theorem Pt.mono {n m : Nat} {R S : List O} (h : Pt n R S) (hm : n ≤ m) : Pt m R S := by
  obtain ⟨a, b, c, e, h1, h2⟩ := h
  exact ⟨a, b, c, e, h1, by omega⟩
theorem pick_pt (P : List O) {n : Nat} {R S : List O} {top : Int} (h : Pt n R S) (hn : n < 10 ^ 15) (ht : 0 < top) (ht2 : top < 10 ^ 15) :
    ∃ r S', m__law_pick [.ref P.length, .t (.int top)] P S = .ok (.t (.int r)) S' ∧ 0 ≤ r ∧ r < top ∧ Pt (n + 1) R S' := by
  obtain ⟨a, b, c, rfl, h1, h2⟩ := h
  obtain ⟨r, a', b', c', e, r1, r2, c1, c2⟩ := pick_ok P R a b c top h1 (by omega) ht (by omega)
  exact ⟨r, _, e, r1, r2, a', b', c', rfl, c1, by omega⟩
def Small (s : Tx) : Prop := ∀ c ∈ s, 97 ≤ c ∧ c ≤ 122
instance (s : Tx) : Decidable (Small s) := inferInstanceAs (Decidable (∀ c ∈ s, 97 ≤ c ∧ c ≤ 122))
theorem letters_ok (P : List O) {n : Nat} {R S : List O} (h : Pt n R S) (hn : n < 10 ^ 15) :
    ∃ s S', m__law_letters [.ref P.length] P S = .ok (.t (.str s)) S' ∧ Pt (n + 1) R S' ∧ Small s ∧ s ≠ [] ∧ s.length ≤ 26 := by
  obtain ⟨r, S', e, r1, r2, h'⟩ := pick_pt P (top := 12) h hn (by decide) (by decide)
  have base : ∀ s : Tx, subG (.t (.lst [.str (cs "ab"), .str (cs "abc"), .str (cs "acgt"), .str (cs "zyxa"), .str (cs "abcdef"), .str (cs "abcdefghijklmnopqrstuvwxyz"), .str (cs "ab"), .str (cs "abcd"), .str (cs "acgt"), .str (cs "bz"), .str (cs "cab"), .str (cs "a")])) (.t (.int r)) P S' = some (.t (.str s), S') →
      m__law_letters [.ref P.length] P S = .ok (.t (.str s)) S' := fun s hs2 => by
    simp [m__law_letters, e_def, b__law_letters, e, hs2]
  have : r = 0 ∨ r = 1 ∨ r = 2 ∨ r = 3 ∨ r = 4 ∨ r = 5 ∨ r = 6 ∨ r = 7 ∨ r = 8 ∨ r = 9 ∨ r = 10 ∨ r = 11 := by omega
  rcases this with rfl | rfl | rfl | rfl | rfl | rfl | rfl | rfl | rfl | rfl | rfl | rfl <;>
    exact ⟨_, S', base _ rfl, h', by decide, by decide, by decide⟩
theorem word_ok (P : List O) {n : Nat} {R S : List O} {l : Tx} {z : Int} (h : Pt n R S) (hn : n < 10 ^ 14) (hl : l ≠ []) (hl2 : l.length ≤ 30) (h0 : 0 ≤ z) (h1 : z ≤ 2000) :
    ∃ s S', m__law_word [.ref P.length, .t (.str l), .t (.int z)] P S = .ok (.t (.str s)) S' ∧ Pt (n + 2000) R S' ∧ s.length = z.toNat ∧ ∀ c ∈ s, c ∈ l := by
  have hlp : 0 < l.length := List.length_pos_iff.mpr hl
  obtain ⟨ys, S1, e1, p1, l1, r1⟩ := lc_inv (g := gN 3) (ft := mYes) (P := P) (ρ := [some (.ref P.length), some (.t (.str l)), some (.t (.int z)), none])
    (fe := mOp2 subG (mVar 1) (mCall m__law_pick (mCons (mVar 0) (mCons (mCallB lenG (mCons (mVar 1) mNil)) mNil))))
    (fun k S => Pt (n + k) R S) (fun y => ∃ c, y = D.t (.str [c]) ∧ c ∈ l) 2000 (rngOf 0 z) 0 S (by rw [rngOf_len]; omega) (fun d hd k S hk hI => by
      obtain ⟨r, S2, e2, q1, q2, q3⟩ := pick_pt P (top := l.length) hI (by omega) (by omega) (by omega)
      obtain ⟨c, c1, c2, c3⟩ := sub_str P S2 q1 q2
      refine ⟨_, .t (.str [c]), S2, rfl, rfl, ?_, q3, c, rfl, c1⟩
      simp [lenG, lenT, e2, c3]) h
  obtain ⟨s, rfl, hs⟩ := choice_map ys r1
  rw [List.length_map, rngOf_len] at l1
  refine ⟨s, S1, ?_, p1.mono (by rw [rngOf_len]; omega), by rw [l1]; omega, hs⟩
  have e3 := join_ok P S1 s (by omega)
  have e4 := trees_mapF (fun c => T.str [c]) s
  simp [m__law_word, e_def, b__law_word, rng1_ok (j := z) ⟨by omega, by omega⟩, e1, kdStr, e3, e4]
theorem ring_ok (P : List O) {n : Nat} {R S : List O} {l : Tx} {z : Int} (h : Pt n R S) (hn : n < 10 ^ 13) (hl : l ≠ []) (hl2 : l.length ≤ 30) (h0 : 1 ≤ z) (h1 : z ≤ 2000) :
    ∃ s S', m__law_ring [.ref P.length, .t (.str l), .t (.int z)] P S = .ok (.t (.str s)) S' ∧ Pt (n + 20000) R S' ∧ (s.length : Int) ≤ z ∧ s ≠ [] ∧ ∀ c ∈ s, c ∈ l := by
  have hlp : 0 < l.length := List.length_pos_iff.mpr hl
  obtain ⟨r1, S1, e1, a1, b1, p1⟩ := pick_pt P (top := z) h (by omega) (by omega) (by omega)
  obtain ⟨r2, S2, e2, a2, b2, p2⟩ := pick_pt P (top := 4) p1 (by omega) (by decide) (by decide)
  by_cases k : r2 < 2
  · obtain ⟨s, S3, e3, p3, l3, m3⟩ := word_ok P (z := 1 + r1) p2 (by omega) hl (by omega) (by omega) (by omega)
    refine ⟨s, S3, ?_, p3.mono (by omega), by omega, fun q => ?_, m3⟩
    · simp [m__law_ring, e_def, b__law_ring, e1, e2, k, e3]
    · rw [q] at l3
      simp at l3
      omega
  · obtain ⟨r3, S3, e3, a3, b3, p3⟩ := pick_pt P (top := 3) p2 (by omega) (by decide) (by decide)
    obtain ⟨ys, S4, e4, p4, l4, q4⟩ := lc_inv (g := gN 6) (ft := mYes) (P := P) (ρ := [some (.ref P.length), some (.t (.str l)), some (.t (.int z)), some (.t (.int (1 + r1))), some (.t (.int r2)), none, none, none, none])
      (fe := mCall m__law_word (mCons (mVar 0) (mCons (mVar 1) (mCons (mOp2 (lT2 addT) (mC (.int 1)) (mCall m__law_pick (mCons (mVar 0) (mCons (mC (.int 5)) mNil)))) mNil))))
      (fun k S => Pt (n + 3 + 2001 * k) R S) (fun y => ∃ w : Tx, y = D.t (.str w) ∧ 1 ≤ w.length ∧ w.length ≤ 5 ∧ ∀ c ∈ w, c ∈ l) 3 (rngOf 0 (1 + r3)) 0 S3 (by rw [rngOf_len]; omega) (fun d hd k S hk hI => by
        obtain ⟨r, S5, e5, q1, q2, q3⟩ := pick_pt P (top := 5) hI (by omega) (by decide) (by decide)
        obtain ⟨w, S6, e6, q6, l6, m6⟩ := word_ok P (z := 1 + r) q3 (by omega) hl (by omega) (by omega) (by omega)
        refine ⟨_, .t (.str w), S6, rfl, rfl, ?_, q6.mono (by omega), w, rfl, by omega, by omega, m6⟩
        simp [e5, e6]) (p3.mono (by omega))
    obtain ⟨ws, rfl, hw⟩ := choice_map ys q4
    rw [List.length_map, rngOf_len] at l4
    rw [rngOf_len] at p4
    have tw := trees_mapF T.str ws
    obtain ⟨ρ5, S5, e5, found, rfl, f1, f2, f3, p5⟩ := while_inv (ft := mB (mOp2 (lT2 ltT) (mCallB lenG (mCons (mVar 7) mNil)) (mVar 3))) (P := P)
      (fb := sSet 7 (mOp2 (lT2 addT) (mVar 7) (mOp2 subG (mVar 5) (mCall m__law_pick (mCons (mVar 0) (mCons (mCallB lenG (mCons (mVar 5) mNil)) mNil))))))
      (fun m ρ S => ∃ found : Tx, ρ = [some (.ref P.length), some (.t (.str l)), some (.t (.int z)), some (.t (.int (1 + r1))), some (.t (.int r2)), some (.t (.lst (ws.map T.str))), none, some (.t (.str found)), none] ∧ found.length + m = 2005 ∧ found.length ≤ 2005 ∧ (∀ c ∈ found, c ∈ l) ∧ Pt (n + 6100 + found.length) R S)
      (fun ρ S => ∃ found : Tx, ρ = [some (.ref P.length), some (.t (.str l)), some (.t (.int z)), some (.t (.int (1 + r1))), some (.t (.int r2)), some (.t (.lst (ws.map T.str))), none, some (.t (.str found)), none] ∧ r1 + 1 ≤ found.length ∧ found.length ≤ 2005 ∧ (∀ c ∈ found, c ∈ l) ∧ Pt (n + 9000) R S)
      bigN 2005 [some (.ref P.length), some (.t (.str l)), some (.t (.int z)), some (.t (.int (1 + r1))), some (.t (.int r2)), some (.t (.lst (ws.map T.str))), none, some (.t (.str [])), none] S4 (lt_bigN (by decide)) (fun m ρ S hJ => by
        obtain ⟨f, rfl, hm, hf, hc, hp⟩ := hJ
        by_cases c : (f.length : Int) < 1 + r1
        · right
          obtain ⟨r, S6, e6, q1, q2, q3⟩ := pick_pt P (top := ws.length) hp (by omega) (by omega) (by omega)
          obtain ⟨x, x1, x2, x3⟩ := sub_lst P S6 (l := ws.map T.str) q1 (by rw [List.length_map]; exact q2)
          obtain ⟨w, w1, rfl⟩ := List.mem_map.mp x1
          obtain ⟨g1, g2, g3⟩ := hw w w1
          have ea := addT_str (a := f) (b := w) (by show _ ≤ 16777216; omega)
          refine ⟨S, _, S6, by simp [lenG, lenT, c], by simp [lenG, lenT, e6, x3, ea], 2005 - (f ++ w).length, by rw [List.length_append]; omega, f ++ w, rfl, by rw [List.length_append]; omega, by rw [List.length_append]; omega, fun c hc' => ?_, q3.mono (by rw [List.length_append]; omega)⟩
          rcases List.mem_append.mp hc' with z | z
          · exact hc c z
          · exact g3 c z
        · left
          exact ⟨S, by simp [lenG, lenT, c], f, rfl, by omega, hf, hc, hp.mono (by omega)⟩) ⟨[], rfl, rfl, by decide, by simp, p4.mono (by simp only [List.length_nil]; omega)⟩
    obtain ⟨r6, S6, e6, a6, b6, p6⟩ := pick_pt P (top := 1 + r1) p5 (by omega) (by omega) (by omega)
    by_cases k3 : r2 = 3
    · subst k3
      obtain ⟨r7, S7, e7, a7, b7, p7⟩ := pick_pt P (top := l.length) p6 (by omega) (by omega) (by omega)
      obtain ⟨c, c1, c2, c3⟩ := sub_str P S7 a7 b7
      have ea := addT_str (a := found.take r6.toNat) (b := [c]) (by show _ ≤ 16777216; rw [List.length_take]; simp; omega)
      have eb := addT_str (a := found.take r6.toNat ++ [c]) (b := (found.drop (r6 + 1).toNat).take ((1 + r1).toNat - (r6 + 1).toNat)) (by show _ ≤ 16777216; simp; omega)
      refine ⟨found.take r6.toNat ++ [c] ++ (found.drop (r6 + 1).toNat).take ((1 + r1).toNat - (r6 + 1).toNat), S7, ?_, p7.mono (by omega), ?_, ?_, ?_⟩
      · simp [m__law_ring, e_def, b__law_ring, e1, e2, e3, e4, tw, rng1_ok (j := 1 + r3) ⟨by omega, by omega⟩, e5, e6, e7, lenG, lenT, cutL_to found a6, cutL_mid found (show 0 ≤ r6 + 1 by omega) (show 0 ≤ 1 + r1 by omega), c3, ea, eb]
      · have g1 := List.length_take_le r6.toNat found
        have g2 := List.length_take_le ((1 + r1).toNat - (r6 + 1).toNat) (found.drop (r6 + 1).toNat)
        rw [List.length_append, List.length_append, List.length_singleton]
        omega
      · simp
      · intro x hx
        rcases List.mem_append.mp hx with hx | hx
        · rcases List.mem_append.mp hx with hx | hx
          · exact f3 x (List.mem_of_mem_take hx)
          · rw [List.mem_singleton.mp hx]; exact c1
        · exact f3 x (List.mem_of_mem_drop (List.mem_of_mem_take hx))
    · refine ⟨found.take (1 + r1).toNat, S6, ?_, p6.mono (by omega), ?_, ?_, ?_⟩
      · simp [m__law_ring, e_def, b__law_ring, e1, e2, e3, e4, tw, rng1_ok (j := 1 + r3) ⟨by omega, by omega⟩, e5, e6, k, k3, cutL_to found (show 0 ≤ 1 + r1 by omega)]
      · have g1 := List.length_take_le (1 + r1).toNat found
        omega
      · intro q
        have := congrArg List.length q
        rw [List.length_take, List.length_nil] at this
        omega
      · exact fun c hc => f3 c (List.mem_of_mem_take hc)
end Lw

/-! As: dicts with texts as keys, plain. -/
namespace Fm
open PySem PySem.Spec PyProof.Rows L2
section
variable {α : Type}
def getA (l : List (Tx × α)) (k : Tx) : Option α := (l.find? fun p => decide (p.1 = k)).map (·.2)
def putA (l : List (Tx × α)) (k : Tx) (v : α) : List (Tx × α) := if l.any (fun p => decide (p.1 = k)) then l.map fun p => if p.1 = k then (p.1, v) else p else l ++ [(k, v)]
def keyA (l : List (Tx × α)) : List Tx := l.map (·.1)
def encD (f : α → D) (l : List (Tx × α)) : List (At × D) := l.map fun p => (At.str p.1, f p.2)
def encT (f : α → T) (l : List (Tx × α)) : List (At × T) := l.map fun p => (At.str p.1, f p.2)
theorem at_str_dec (a b : Tx) : decide (At.str a = At.str b) = decide (a = b) := by
  by_cases h : a = b
  · subst h; simp
  · simp [h]
theorem celGet_enc (f : α → D) (l : List (Tx × α)) (k : Tx) : celGet (encD f l) (.str k) = (getA l k).map f := by
  unfold celGet encD getA
  rw [List.find?_map]
  have : (fun p : At × D => decide (p.1 = At.str k)) ∘ (fun p : Tx × α => (At.str p.1, f p.2)) = fun p : Tx × α => decide (p.1 = k) := by
    funext p; exact at_str_dec p.1 k
  rw [this]
  cases l.find? fun p => decide (p.1 = k) <;> rfl
theorem dicGet_enc (f : α → T) (l : List (Tx × α)) (k : Tx) : dicGet (encT f l) (.str k) = (getA l k).map f := by
  unfold dicGet encT getA
  rw [List.find?_map]
  have : (fun p : At × T => decide (p.1 = At.str k)) ∘ (fun p : Tx × α => (At.str p.1, f p.2)) = fun p : Tx × α => decide (p.1 = k) := by
    funext p; exact at_str_dec p.1 k
  rw [this]
  cases l.find? fun p => decide (p.1 = k) <;> rfl
theorem putD_enc (f : α → D) (l : List (Tx × α)) (k : Tx) (v : α) : putD (encD f l) (.str k) (f v) = encD f (putA l k v) := by
  unfold putD encD putA
  rw [List.any_map]
  have : (fun p : At × D => decide (p.1 = At.str k)) ∘ (fun p : Tx × α => (At.str p.1, f p.2)) = fun p : Tx × α => decide (p.1 = k) := by
    funext p; exact at_str_dec p.1 k
  rw [this]
  split
  · rw [List.map_map, List.map_map]
    apply List.map_congr_left
    intro p _
    simp only [Function.comp]
    by_cases c : p.1 = k
    · rw [if_pos c, if_pos (by rw [c])]
    · rw [if_neg c, if_neg (fun e => c (by injection e))]
  · rw [List.map_append]; rfl
theorem treesK_enc (f : α → T) : ∀ l : List (Tx × α), treesK (encD (fun x => D.t (f x)) l) = some (encT f l)
  | [] => rfl
  | p :: l => by
    show (treesK (encD (fun x => D.t (f x)) l)).map _ = _
    rw [treesK_enc f l]; rfl
theorem keyA_enc (f : α → T) (l : List (Tx × α)) : (encT f l).map (·.1) = (keyA l).map At.str := by
  unfold encT keyA
  rw [List.map_map, List.map_map]; rfl
theorem keyA_encD (f : α → D) (l : List (Tx × α)) : (encD f l).map (·.1) = (keyA l).map At.str := by
  unfold encD keyA
  rw [List.map_map, List.map_map]; rfl
theorem keysD_enc (f : α → T) (l : List (Tx × α)) : keysD (encT f l) = (keyA l).map fun x => D.t (.str x) := by
  unfold keysD encT keyA
  rw [List.map_map, List.map_map]; rfl
theorem getA_mem {l : List (Tx × α)} {k : Tx} {v : α} (h : getA l k = some v) : (k, v) ∈ l := by
  unfold getA at h
  cases e : l.find? fun p => decide (p.1 = k) with
  | none => rw [e] at h; cases h
  | some p =>
    rw [e] at h
    cases h
    have := List.find?_some e
    have h2 : p.1 = k := of_decide_eq_true this
    rw [← h2]
    exact List.mem_of_find?_eq_some e
theorem getA_key {l : List (Tx × α)} {k : Tx} : k ∈ keyA l ↔ ∃ v, getA l k = some v := by
  constructor
  · intro h
    obtain ⟨p, hp, e⟩ := List.mem_map.mp h
    unfold getA
    cases q : l.find? fun p => decide (p.1 = k) with
    | none =>
      have := List.find?_eq_none.mp q p hp
      simp [e] at this
    | some r => exact ⟨r.2, rfl⟩
  · rintro ⟨v, h⟩
    exact List.mem_map.mpr ⟨_, getA_mem h, rfl⟩
theorem getA_none {l : List (Tx × α)} {k : Tx} (h : k ∉ keyA l) : getA l k = none := by
  cases e : getA l k with
  | none => rfl
  | some v => exact absurd (getA_key.mpr ⟨v, e⟩) h
theorem getA_put (l : List (Tx × α)) (k j : Tx) (v : α) : getA (putA l k v) j = if j = k then some v else getA l j := by
  induction l with
  | nil =>
    by_cases c : k = j
    · simp [getA, putA, c]
    · simp [getA, putA, c, Ne.symm c]
  | cons p l ih =>
    unfold putA getA at ih ⊢
    by_cases c : p.1 = k
    · have ha : ((p :: l).any fun p => decide (p.1 = k)) = true := by rw [List.any_cons, decide_eq_true c]; rfl
      rw [if_pos ha, List.map_cons, if_pos c]
      by_cases cj : j = k
      · rw [if_pos cj, List.find?_cons_of_pos (by simp [c, cj])]; rfl
      · rw [if_neg cj, List.find?_cons_of_neg (by simp [c]; exact Ne.symm cj), List.find?_cons_of_neg (by simp [c]; exact Ne.symm cj)]
        clear ha ih
        induction l with
        | nil => rfl
        | cons q l ih =>
          rw [List.map_cons]
          by_cases cq : q.1 = k
          · rw [if_pos cq, List.find?_cons_of_neg (by simp [cq]; exact Ne.symm cj), List.find?_cons_of_neg (by simp [cq]; exact Ne.symm cj)]
            exact ih
          · rw [if_neg cq]
            by_cases cqj : q.1 = j
            · rw [List.find?_cons_of_pos (by simp [cqj]), List.find?_cons_of_pos (by simp [cqj])]
            · rw [List.find?_cons_of_neg (by simp [cqj]), List.find?_cons_of_neg (by simp [cqj])]
              exact ih
    · have ha : ((p :: l).any fun p => decide (p.1 = k)) = (l.any fun p => decide (p.1 = k)) := by rw [List.any_cons, decide_eq_false c, Bool.false_or]
      rw [ha]
      by_cases cp : p.1 = j
      · have cjk : j ≠ k := fun e => c (cp.trans e)
        rw [if_neg cjk]
        split
        · rw [List.map_cons, if_neg c, List.find?_cons_of_pos (by simp [cp]), List.find?_cons_of_pos (by simp [cp])]
        · rw [List.cons_append, List.find?_cons_of_pos (by simp [cp]), List.find?_cons_of_pos (by simp [cp])]
      · rw [List.find?_cons_of_neg (l := l) (by simp [cp])]
        rw [← ih]
        split
        · rw [List.map_cons, if_neg c, List.find?_cons_of_neg (by simp [cp])]
        · rw [List.cons_append, List.find?_cons_of_neg (by simp [cp])]
theorem keyA_put (l : List (Tx × α)) (k : Tx) (v : α) : keyA (putA l k v) = if k ∈ keyA l then keyA l else keyA l ++ [k] := by
  unfold putA
  have hm : (l.any fun p => decide (p.1 = k)) = true ↔ k ∈ keyA l := by
    rw [List.any_eq_true]
    constructor
    · rintro ⟨p, hp, e⟩
      exact List.mem_map.mpr ⟨p, hp, of_decide_eq_true e⟩
    · intro h
      obtain ⟨p, hp, e⟩ := List.mem_map.mp h
      exact ⟨p, hp, decide_eq_true e⟩
  by_cases c : k ∈ keyA l
  · rw [if_pos (hm.mpr c), if_pos c]
    unfold keyA
    rw [List.map_map]
    apply List.map_congr_left
    intro p _
    simp only [Function.comp]
    split <;> rfl
  · rw [if_neg (fun h => c (hm.mp h)), if_neg c]
    unfold keyA
    rw [List.map_append]; rfl
theorem nodup_put {l : List (Tx × α)} (h : (keyA l).Nodup) (k : Tx) (v : α) : (keyA (putA l k v)).Nodup := by
  rw [keyA_put]; exact keys_nodup h k
theorem mem_put {l : List (Tx × α)} {k : Tx} {v : α} {x : Tx} : x ∈ keyA (putA l k v) ↔ x ∈ keyA l ∨ x = k := by
  rw [keyA_put]; exact keys_mem _ _ _
theorem len_keyA (l : List (Tx × α)) : (keyA l).length = l.length := List.length_map ..
theorem len_put (l : List (Tx × α)) (k : Tx) (v : α) : (putA l k v).length ≤ l.length + 1 := by
  rw [← len_keyA, ← len_keyA, keyA_put]
  split
  · omega
  · rw [List.length_append]; simp
theorem len_encD (f : α → D) (l : List (Tx × α)) : (encD f l).length = l.length := List.length_map ..
theorem len_encT (f : α → T) (l : List (Tx × α)) : (encT f l).length = l.length := List.length_map ..
end
section
variable {α : Type} (P S : List O)
theorem dget_tree (f : α → T) (l : List (Tx × α)) (k : Tx) : dGet P S (.t (.dic (encT f l))) (.str k) = some ((getA l k).map fun v => D.t (f v)) := by
  show some ((dicGet (encT f l) (.str k)).map D.t) = _
  rw [dicGet_enc, Option.map_map]; rfl
theorem dget_cell {i : Nat} (f : α → D) (l : List (Tx × α)) (h : (P ++ S)[i]? = some (.dic (encD f l))) (k : Tx) : dGet P S (.ref i) (.str k) = some ((getA l k).map f) := by
  unfold dGet
  simp only [h]
  show some (celGet (encD f l) (.str k)) = _
  rw [celGet_enc]
theorem dsub_tree (f : α → T) (l : List (Tx × α)) {k : Tx} {v : α} (h : getA l k = some v) : subG (.t (.dic (encT f l))) (.t (.str k)) P S = some (.t (f v), S) := by
  have := dget_tree P S f l k
  rw [h] at this
  simp [subG, seqIx, this]
theorem dsub_cell {i : Nat} (f : α → D) (l : List (Tx × α)) (hi : (P ++ S)[i]? = some (.dic (encD f l))) {k : Tx} {v : α} (h : getA l k = some v) : subG (.ref i) (.t (.str k)) P S = some (f v, S) := by
  have := dget_cell P S f l hi k
  rw [h] at this
  simp [subG, seqIx, hi, this]
theorem din_cell {i : Nat} (neg : Bool) (f : α → D) (l : List (Tx × α)) (hi : (P ++ S)[i]? = some (.dic (encD f l))) (k : Tx) : inG neg (.t (.str k)) (.ref i) P S = some (.t (.bl (neg ^^ decide (k ∈ keyA l))), S) := by
  have := dget_cell P S f l hi k
  have e : ((getA l k).map f).isSome = decide (k ∈ keyA l) := by
    rw [Bool.eq_iff_iff, decide_eq_true_iff, getA_key]
    cases getA l k <;> simp
  unfold inG
  simp only [this]
  show some (D.t (.bl (neg ^^ ((getA l k).map f).isSome)), S) = _
  rw [e]
theorem din_tree (neg : Bool) (f : α → T) (l : List (Tx × α)) (k : Tx) : inG neg (.t (.str k)) (.t (.dic (encT f l))) P S = some (.t (.bl (neg ^^ decide (k ∈ keyA l))), S) := by
  have := dget_tree P S f l k
  have e : ((getA l k).map fun v => D.t (f v)).isSome = decide (k ∈ keyA l) := by
    rw [Bool.eq_iff_iff, decide_eq_true_iff, getA_key]
    cases getA l k <;> simp
  unfold inG
  simp only [this]
  show some (D.t (.bl (neg ^^ ((getA l k).map fun v => D.t (f v)).isSome)), S) = _
  rw [e]
end
end Fm

/-! Cm: what several laws ask of ring texts and books -/
namespace Lw
open Fm
theorem small_letters {c : Nat} (h : 97 ≤ c ∧ c ≤ 122) : c ∈ cs "abcdefghijklmnopqrstuvwxyz" := by
  have e : cs "abcdefghijklmnopqrstuvwxyz" = (List.range 26).map (97 + ·) := by decide
  rw [e]
  exact List.mem_map.mpr ⟨c - 97, List.mem_range.mpr (by omega), by omega⟩
theorem rng_nat {j : Int} : rngOf 0 j = (List.range j.toNat).map fun k : Nat => D.t (.int (k : Int)) := by
  unfold rngOf
  rw [Int.sub_zero]
  apply List.map_congr_left
  intro k _
  rw [Int.zero_add]
theorem isword (P S : List O) {s : Tx} (h : Small s) : pureZ m_is_word [.t (.str s)] P S = .ok (.t (.bl true)) S := by
  refine pureZ_t (S' := []) ?_
  have e := lc_map (g := gN 1) (ft := mYes) (P := P ++ S) (S := []) (ρ := [some (.t (.str s)), none]) (fe := mOp2 (inG false) (mVar 1) (mC (.str (cs "abcdefghijklmnopqrstuvwxyz")))) (fun _ => D.t (.bl true)) (s.map fun c => D.t (.str [c])) (fun d hd => by
    obtain ⟨c, hc, rfl⟩ := List.mem_map.mp hd
    refine ⟨_, rfl, rfl, ?_⟩
    simp [inG, isSub_one, small_letters (h c hc)])
  rw [List.map_map] at e
  have et := trees_mapF (fun _ : Nat => T.bl true) s
  have eb := bls_mapf (fun _ : Nat => true) s
  have e2 : lcGo (gN 1) mYes (mOp2 (inG false) (mVar 1) (mC (.str (cs "abcdefghijklmnopqrstuvwxyz")))) (P ++ S) [some (.t (.str s)), none] (s.map fun c => D.t (.str [c])) [] = .ok (s.map fun _ => D.t (.bl true)) [] := e
  simp [m_is_word, e_def, b_is_word, isiB, itemsOf, e2, et, allT, eb]
theorem mul_str {s : Tx} {k : Nat} (h : s.length * k ≤ 16777216) (hk : k < 2 ^ 62) : mulT (.str s) (.int k) = some (.str (rep k s)) := by
  have h1 : (0 : Int) ≤ (k : Int) := Int.natCast_nonneg k
  have h2 : (k : Int) < 2 ^ 62 := by
    have : (2 : Int) ^ 62 = 4611686018427387904 := by decide
    omega
  have h3 : s.length * (k : Int).toNat ≤ PySem.sizeLine := by rw [szl, Int.toNat_natCast]; exact h
  unfold mulT
  simp only
  rw [if_pos ⟨⟨h1, h2⟩, h3⟩, Int.toNat_natCast]
  rfl
/-! ### what is the same -/
theorem same_str (P S : List O) (k : Nat) (w : Tx) : pureZ (m__law_same (k + 1)) [.t (.str w), .t (.str w)] P S = .ok (.t (.bl true)) S :=
  pureZ_t (S' := []) (by simp [m__law_same, e_def, isiB])
theorem same_bl (P S : List O) (k : Nat) (w : Bool) : pureZ (m__law_same (k + 1)) [.t (.bl w), .t (.bl w)] P S = .ok (.t (.bl true)) S :=
  pureZ_t (S' := []) (by simp [m__law_same, e_def, isiB])
theorem same_bls (P S : List O) (k : Nat) (l : List Bool) (hl : l.length ≤ 10 ^ 6) : pureZ (m__law_same (k + 2)) [.t (.lst (l.map T.bl)), .t (.lst (l.map T.bl))] P S = .ok (.t (.bl true)) S := by
  refine pureZ_t (S' := []) ?_
  generalize P ++ S = P'
  have e := lc_map (g := gN 2) (ft := mYes) (P := P') (S := []) (ρ := [some (.t (.lst (l.map T.bl))), some (.t (.lst (l.map T.bl))), none]) (fe := mCall (pureZ (m__law_same (k + 1))) (mCons (mOp2 subG (mVar 0) (mVar 2)) (mCons (mOp2 subG (mVar 1) (mVar 2)) mNil)))
    (fun _ => D.t (.bl true)) (rngOf 0 (l.length : Int)) (fun d hd => by
    obtain ⟨j, rfl, h1, h2⟩ := rngOf_mem hd
    obtain ⟨x, x1, x2, x3⟩ := sub_lst P' [] (l := l.map T.bl) h1 (by rw [List.length_map]; exact h2)
    obtain ⟨b, _, rfl⟩ := List.mem_map.mp x1
    refine ⟨_, rfl, rfl, ?_⟩
    simp [x3, same_bl])
  have et := trees_mapF (fun _ : D => T.bl true) (rngOf 0 (l.length : Int))
  have eb := bls_mapf (fun _ : D => true) (rngOf 0 (l.length : Int))
  have hp : T.plains (l.map T.bl) = true := by simp [T.plain]
  rw [show k + 2 = k + 1 + 1 from rfl, m__law_same]
  generalize m__law_same (k + 1) = g at e ⊢
  simp [e_def, isiB, hp, rng1_ok (j := (l.length : Int)) ⟨by omega, by omega⟩, e, et, allT, eb]
/-! ### stands_in -/
theorem small_rev {s : Tx} (h : Small s) : Small s.reverse := fun c hc => h c (List.mem_reverse.mp hc)
theorem small_rep {k : Nat} {s : Tx} (h : Small s) : Small (rep k s) := fun c hc => by
  obtain ⟨l, hl, hc⟩ := List.mem_flatten.mp hc
  rw [List.eq_of_mem_replicate hl] at hc
  exact h c hc
theorem small_cut {s : Tx} {i n : Nat} (h : Small s) : Small ((s.drop i).take n) := fun c hc => h c (List.mem_of_mem_drop (List.mem_of_mem_take hc))
theorem cutL_m1 {α : Type} (l : List α) : cutL l none (some (-1)) = l.take (l.length - 1) := by
  unfold cutL
  have e : HT.sIx l.length l.length (some (-1)) = ((-1 : Int) + (l.length : Int)).toNat := by
    unfold HT.sIx
    simp only
    rw [if_pos (by decide)]
  rw [HT.sIx_none, e, List.drop_zero, Nat.sub_zero]
  congr 1
  omega
theorem cutL_neg {α : Type} (l : List α) {i : Int} (h : i < 0) : cutL l (some i) none = l.drop (i + (l.length : Int)).toNat := by
  unfold cutL
  rw [HT.sIx_none]
  have e : HT.sIx l.length 0 (some i) = (i + (l.length : Int)).toNat := if_pos h
  rw [e]
  exact List.take_of_length_le (by rw [List.length_drop]; exact Nat.le_refl _)
theorem sub_last (P S : List O) {w : Tx} (h : w ≠ []) : subG (.t (.str w)) (.t (.int (-1))) P S = some (.t (.str [w.getD (w.length - 1) 0]), S) := by
  have hp : 0 < w.length := List.length_pos_iff.mpr h
  have e : L2.atI w (-1) = some (w.getD (w.length - 1) 0) := by
    have e2 : L2.ixN w.length (-1) = some (w.length - 1) := by
      unfold L2.ixN
      rw [if_neg (by decide), if_pos (by omega)]
      congr 1
      omega
    unfold L2.atI
    rw [e2]
    show w[w.length - 1]? = _
    rw [List.getD_eq_getElem?_getD, List.getElem?_eq_getElem (by omega)]
    rfl
  have e3 : seqIx P S (.t (.str w)) (-1) = some (.t (.str [w.getD (w.length - 1) 0])) := by
    show (L2.atI w (-1)).map (fun c => D.t (.str [c])) = _
    rw [e]; rfl
  simp [subG, e3]
theorem addT_lst {a b : List T} (h : a.length + b.length ≤ 16777216) : addT (.lst a) (.lst b) = some (.lst (a ++ b)) := if_pos h
theorem small_app {a b : Tx} (ha : Small a) (hb : Small b) : Small (a ++ b) := fun c hc => by
  rcases List.mem_append.mp hc with h | h
  · exact ha c h
  · exact hb c h
theorem small_take {a : Tx} {n : Nat} (h : Small a) : Small (a.take n) := fun c hc => h c (List.mem_of_mem_take hc)
theorem small_drop {a : Tx} {n : Nat} (h : Small a) : Small (a.drop n) := fun c hc => h c (List.mem_of_mem_drop hc)
theorem small_read {s : Tx} (h0 : s ≠ []) (h : Small s) (a n : Nat) : Small (readTx s a n) := fun c hc => by
  obtain ⟨j, _, rfl⟩ := List.mem_map.mp hc
  have hp : 0 < s.length := List.length_pos_iff.mpr h0
  have hm := Nat.mod_lt (a + j) hp
  unfold rd
  rw [List.getD_eq_getElem?_getD, List.getElem?_eq_getElem hm]
  exact h _ (List.getElem_mem hm)
def roundTx (z : Nat) (s : Tx) : List Tx := (List.range s.length).map fun i => (List.range z).map fun m => rd s (i + m)
theorem lawround_at (P S : List O) {s : Tx} {z : Nat} (hs : s.length ≤ 10 ^ 5) (h0 : s ≠ []) (hz : 2 ≤ z ∧ z ≤ 6) : pureZ m__law_round [.t (.int z), .t (.str s)] P S = .ok (.t (.lst ((roundTx z s).map T.str))) S := by
  have hp : 0 < s.length := List.length_pos_iff.mpr h0
  refine pureZ_t (S' := []) ?_
  generalize P ++ S = P'
  have inner : ∀ i : Nat, i < s.length → lcGo (gN 3) mYes (mOp2 subG (mVar 1) (mOp2 (lT2 modT) (mCallB (lTL intT) (mCons (mOp2 (lT2 addT) (mVar 4) (mVar 3)) mNil)) (mVar 2))) P' [some (.t (.int z)), some (.t (.str s)), some (.t (.int s.length)), none, some (.t (.int i))] (rngOf 0 z) [] =
      .ok (((List.range z).map fun m => rd s (i + m)).map fun c => D.t (.str [c])) [] := fun i hi => by
    have e := lc_map (g := gN 3) (ft := mYes) (P := P') (S := []) (ρ := [some (.t (.int z)), some (.t (.str s)), some (.t (.int s.length)), none, some (.t (.int i))]) (fe := mOp2 subG (mVar 1) (mOp2 (lT2 modT) (mCallB (lTL intT) (mCons (mOp2 (lT2 addT) (mVar 4) (mVar 3)) mNil)) (mVar 2)))
      (fun d => match d with
        | .t (.int m) => D.t (.str [rd s (i + m.toNat)])
        | d => d) (rngOf 0 (z : Int)) (fun d hd => by
      obtain ⟨m, rfl, h1, h2⟩ := rngOf_mem hd
      obtain ⟨m, rfl⟩ : ∃ n : Nat, m = n := ⟨m.toNat, by omega⟩
      refine ⟨_, rfl, rfl, ?_⟩
      have hb : (i + m) % s.length < s.length := Nat.mod_lt _ hp
      obtain ⟨c, c1, c2, c3⟩ := sub_str P' [] (s := s) (r := ((i : Int) + m) % s.length) (Int.emod_nonneg _ (by omega)) (Int.emod_lt_of_pos _ (by omega))
      have ht : (((i : Int) + m) % s.length).toNat = (i + m) % s.length := by
        rw [show ((i : Int) + m) % s.length = (((i + m) % s.length : Nat) : Int) by simp]; rfl
      rw [ht] at c2
      have hp' : (0 : Int) < s.length := by omega
      simp [modT_int hp', c3, rd, List.getD_eq_getElem?_getD, c2])
    rw [e]
    congr 1
    rw [rng_nat, List.map_map, List.map_map]
    rfl
  have outer := lc_map (g := gN 4) (ft := mYes) (P := P') (S := []) (ρ := [some (.t (.int z)), some (.t (.str s)), some (.t (.int s.length)), none, none])
    (fe := mMeth kdStr joinG (mC (.str (cs ""))) (mCons (mLcG finT (mI rng1Of (mCons (mVar 0) mNil)) (gN 3) [3] mYes (mOp2 subG (mVar 1) (mOp2 (lT2 modT) (mCallB (lTL intT) (mCons (mOp2 (lT2 addT) (mVar 4) (mVar 3)) mNil)) (mVar 2)))) mNil))
    (fun d => match d with
      | .t (.int i) => D.t (.str ((List.range z).map fun m => rd s (i.toNat + m)))
      | d => d) (rngOf 0 (s.length : Int)) (fun d hd => by
    obtain ⟨i, rfl, h1, h2⟩ := rngOf_mem hd
    obtain ⟨i, rfl⟩ : ∃ n : Nat, i = n := ⟨i.toNat, by omega⟩
    refine ⟨_, rfl, rfl, ?_⟩
    have e := inner i (by omega)
    have et := trees_mapF (fun c : Nat => T.str [c]) ((List.range z).map fun m => rd s (i + m))
    have ej := join_ok P' [] ((List.range z).map fun m => rd s (i + m)) (by rw [List.length_map, List.length_range]; omega)
    simp only [e_meth, e_cons, e_nil, e_lc, e_I, e_var, e_c, cs_nil, R.bind_ok, e_wipe, e_wipe0, List.set, List.getElem?_cons_zero, rng1_ok (j := (z : Int)) ⟨by omega, by omega⟩, e, e_finT, et, ej, kdStr, ite_true, lift_some]
    rfl)
  have et := trees_mapF T.str (roundTx z s)
  have el : (rngOf 0 (s.length : Int)).map (fun d => match d with
      | .t (.int i) => D.t (.str ((List.range z).map fun m => rd s (i.toNat + m)))
      | d => d) = (roundTx z s).map fun x => D.t (.str x) := by
    rw [rng_nat, List.map_map, roundTx, List.map_map]
    rfl
  rw [el] at outer
  simp only [m__law_round, e_def, b__law_round, e_seq, e_set, e_ret, e_callB, e_cons, e_nil, e_var, R.bind_ok, R.oc_ok, Oc.sq_nx, len_str, lift_some, List.map, List.replicate, List.set, List.length, List.cons_append, List.nil_append, List.getElem?_cons_zero, List.getElem?_cons_succ, e_lc, e_I, e_wipe, e_wipe0, rng1_ok (j := (s.length : Int)) ⟨by omega, by omega⟩, outer, e_finT, et]
theorem round_read (z : Nat) (s : Tx) : roundTx z s = (List.range s.length).map fun i => readTx s i z := rfl
theorem round_mem {z : Nat} {s x : Tx} (h : x ∈ roundTx z s) : ∃ i, i < s.length ∧ x = readTx s i z := by
  rw [round_read] at h
  obtain ⟨i, hi, rfl⟩ := List.mem_map.mp h
  exact ⟨i, List.mem_range.mp hi, rfl⟩
theorem mem_round {z : Nat} {s : Tx} (h0 : s ≠ []) (i : Nat) : readTx s i z ∈ roundTx z s := by
  have hp : 0 < s.length := List.length_pos_iff.mpr h0
  rw [round_read]
  refine List.mem_map.mpr ⟨i % s.length, List.mem_range.mpr (Nat.mod_lt _ hp), ?_⟩
  unfold readTx
  apply List.map_congr_left
  intro j _
  exact rd_congr (by rw [Nat.mod_add_mod])
theorem round_len (z : Nat) (s : Tx) : (roundTx z s).length = s.length := by simp [roundTx]
theorem read_take (s : Tx) (a n m : Nat) (h : m ≤ n) : (readTx s a n).take m = readTx s a m := by
  unfold readTx
  rw [← List.map_take, List.take_range, Nat.min_eq_left h]
theorem read_drop1 (s : Tx) (a n : Nat) : (readTx s a (n + 1)).drop 1 = readTx s (a + 1) n := by
  unfold readTx
  rw [List.range_succ_eq_map, List.map_cons, List.map_map]
  show List.map _ _ = _
  apply List.map_congr_left
  intro j _
  show rd s (a + (j + 1)) = rd s (a + 1 + j)
  congr 1
  omega
theorem read_snoc (s : Tx) (a n : Nat) : readTx s a (n + 1) = readTx s a n ++ [rd s (a + n)] := by
  unfold readTx
  rw [List.range_succ, List.map_append]
  rfl
theorem low_str (x : Tx) : (T.str x).low = true := by
  unfold T.low
  apply decide_eq_true
  show (PySem.PyData.str (sv x)).depth ≤ 40
  simp [PySem.PyData.depth]
theorem inAny_str (x : Tx) (l : List Tx) : inAny (.str x) (l.map T.str) = decide (x ∈ l) := by
  unfold inAny
  rw [List.any_map]
  by_cases h : x ∈ l
  · rw [decide_eq_true h, List.any_eq_true]
    exact ⟨x, h, by simp⟩
  · rw [decide_eq_false h]
    apply Bool.eq_false_iff.mpr
    intro z
    obtain ⟨y, hy, e⟩ := List.any_eq_true.mp z
    have : y = x := by simpa using e
    exact h (this ▸ hy)
theorem in_lst (neg : Bool) (x : Tx) (l : List Tx) (P S : List O) : inG neg (.t (.str x)) (.t (.lst (l.map T.str))) P S = some (.t (.bl (neg ^^ decide (x ∈ l))), S) := by
  unfold inG
  simp only [plain_str, isi_strs, low_str, Bool.and_self, if_true, inAny_str]
theorem dic_get {ts : List (At × T)} {b : List Tx} (h : ts.map (·.1) = b.map At.str) (x : Tx) : (dicGet ts (.str x)).isSome = decide (x ∈ b) := by
  induction ts generalizing b with
  | nil =>
    cases b with
    | nil => rfl
    | cons y b => cases h
  | cons p ts ih =>
    cases b with
    | nil => cases h
    | cons y b =>
      obtain ⟨k, v⟩ := p
      rw [List.map_cons, List.map_cons] at h
      injection h with h1 h2
      have h1 : k = At.str y := h1
      subst h1
      have := ih h2
      unfold dicGet at this ⊢
      by_cases c : y = x
      · subst c
        simp
      · have c2 : ¬ x = y := fun e => c e.symm
        have e : decide (At.str y = At.str x) = false := decide_eq_false fun e => c (by cases e; rfl)
        rw [List.find?_cons]
        show (Option.map (fun x => x.snd) (match decide (At.str y = At.str x) with
          | true => some (At.str y, v)
          | false => List.find? (fun p => decide (p.fst = At.str x)) ts)).isSome = _
        rw [e]
        refine this.trans ?_
        simp [c2]
theorem in_dic {ts : List (At × T)} {b : List Tx} (h : ts.map (·.1) = b.map At.str) (x : Tx) (P S : List O) : inG false (.t (.str x)) (.t (.dic ts)) P S = some (.t (.bl (decide (x ∈ b))), S) := by
  rw [← dic_get h x]
  show ((dGet P S (.t (.dic ts)) (.str x)).map fun r => (D.t (.bl (false ^^ r.isSome)), S)) = _
  show (some ((dicGet ts (At.str x)).map D.t)).map _ = _
  simp
theorem isint (P S : List O) (z : Int) : pureZ m_is_integer [.t (.int z)] P S = .ok (.t (.bl true)) S :=
  pureZ_t (S' := []) (by simp [m_is_integer, e_def, b_is_integer, isiB])
theorem issize (P S : List O) {z : Int} (h : 2 ≤ z ∧ z ≤ 6) : pureZ m_is_size [.t (.int z)] P S = .ok (.t (.bl true)) S :=
  pureZ_t (S' := []) (by simp [m_is_size, e_def, b_is_size, isint, h.1, h.2])
/-- what a book's windows are -/
structure Wins (z : Nat) (W : List Tx) : Prop where
  asc : W.Pairwise (· < ·)
  len : ∀ x ∈ W, x.length = z
  sm : ∀ x ∈ W, Small x
  ne : W ≠ []
  few : W.length ≤ 10 ^ 6
theorem sub_tup (P S : List O) {l : List T} {k : Nat} (h : k < l.length) : subG (.t (.tup l)) (.t (.int k)) P S = some (.t (l[k]'h), S) := by
  have h1 : (k : Int) < l.length := by omega
  simp [subG, seqIx, L2.atI, L2.ixN, h, h1]
theorem ascend (P S : List O) {z : Nat} {W : List Tx} (w : Wins z W) : pureZ m_are_ascending [.t (.tup (W.map T.str))] P S = .ok (.t (.bl true)) S := by
  refine pureZ_t (S' := []) ?_
  generalize P ++ S = P'
  have few := w.few
  have hl : (W.map T.str).length = W.length := List.length_map ..
  have e := lc_map (g := gN 1) (ft := mYes) (P := P') (S := []) (ρ := [some (.t (.tup (W.map T.str))), none]) (fe := mOp2 (lT2 ltT) (mOp2 subG (mVar 0) (mVar 1)) (mOp2 subG (mVar 0) (mOp2 (lT2 addT) (mVar 1) (mC (.int 1))))) (fun _ => D.t (.bl true)) (rngOf 0 ((W.length : Int) - 1)) (fun d hd => by
    obtain ⟨k, rfl, h1, h2⟩ := rngOf_mem hd
    obtain ⟨k, rfl⟩ : ∃ n : Nat, k = n := ⟨k.toNat, by omega⟩
    have k1 : k < W.length := by omega
    have k2 : k + 1 < W.length := by omega
    have s1 := sub_tup P' [] (l := W.map T.str) (k := k) (by rw [hl]; exact k1)
    have s2 := sub_tup P' [] (l := W.map T.str) (k := k + 1) (by rw [hl]; exact k2)
    have ek : (k : Int) + 1 = ((k + 1 : Nat) : Int) := by omega
    have hlt := List.pairwise_iff_getElem.mp w.asc k (k + 1) k1 k2 (by omega)
    refine ⟨_, rfl, rfl, ?_⟩
    rw [List.getElem_map] at s1 s2
    simp only [e_op2, e_var, e_c, gN, List.set, List.getElem?_cons_zero, List.getElem?_cons_succ, R.bind_ok, s1, lift_some, lT2_t, addT_int, Option.map]
    rw [ek, s2]
    simp only [R.bind_ok, lift_some, lT2_t, ltT_str, Option.map, decide_eq_true hlt])
  have et := trees_mapF (fun _ : D => T.bl true) (rngOf 0 ((W.length : Int) - 1))
  have eb := bls_mapf (fun _ : D => true) (rngOf 0 ((W.length : Int) - 1))
  simp [m_are_ascending, e_def, b_are_ascending, rng1_ok (j := (W.length : Int) - 1) ⟨by omega, by omega⟩, e, et, allT, eb]
theorem arewindows (P S : List O) {z : Nat} {W : List Tx} (w : Wins z W) : pureZ m_are_windows [.t (.int z), .t (.tup (W.map T.str))] P S = .ok (.t (.bl true)) S := by
  refine pureZ_t (S' := []) ?_
  generalize P ++ S = P'
  have e := lc_map (g := gN 2) (ft := mYes) (P := P') (S := []) (ρ := [some (.t (.int z)), some (.t (.tup (W.map T.str))), none]) (fe := mAnd (mCall (pureZ m_is_word) (mCons (mVar 2) mNil)) (mOp2 (lT2 eqT) (mCallB lenG (mCons (mVar 2) mNil)) (mVar 0))) (fun _ => D.t (.bl true)) ((W.map T.str).map D.t) (fun d hd => by
    obtain ⟨y, hy, rfl⟩ := List.mem_map.mp hd
    obtain ⟨x, hx, rfl⟩ := List.mem_map.mp hy
    refine ⟨_, rfl, rfl, ?_⟩
    have hl := w.len x hx
    simp [isword P' [] (w.sm x hx), hl])
  have et := trees_mapF (fun _ : D => T.bl true) ((W.map T.str).map D.t)
  have eb := bls_mapf (fun _ : D => true) ((W.map T.str).map D.t)
  have hp : T.plains (W.map T.str) = true := isi_strs W
  generalize hL : (W.map T.str).map D.t = L at *
  simp [m_are_windows, e_def, b_are_windows, isiB, hp, itemsOf, hL, e, et, allT, eb, ascend P' [] w]
theorem isbook (P S : List O) {z : Nat} {W : List Tx} (w : Wins z W) (hz : 2 ≤ z ∧ z ≤ 6) : pureZ m_is_a_book [.t (.tup [.int z, .tup (W.map T.str)])] P S = .ok (.t (.bl true)) S := by
  refine pureZ_t (S' := []) ?_
  generalize P ++ S = P'
  have s0 := sub_tup P' [] (l := [T.int z, .tup (W.map T.str)]) (k := 0) (by simp)
  have s1 := sub_tup P' [] (l := [T.int z, .tup (W.map T.str)]) (k := 1) (by simp)
  simp only [List.getElem_cons_zero, List.getElem_cons_succ] at s0 s1
  have hp : T.plains [T.int z, .tup (W.map T.str)] = true := by simp [T.plains]
  have hpos : 0 < W.length := List.length_pos_iff.mpr w.ne
  simp at s0 s1
  simp [m_is_a_book, e_def, b_is_a_book, isiB, hp, s0, s1, issize P' [] (z := z) ⟨by omega, by omega⟩, arewindows P' [] w, hpos, w.ne]
theorem needbook (P S : List O) {z : Nat} {W : List Tx} (w : Wins z W) (hz : 2 ≤ z ∧ z ≤ 6) : pureZ m_need_book [.t (.tup [.int z, .tup (W.map T.str)])] P S = .ok (.t .non) S :=
  pureZ_t (S' := []) (by simp [m_need_book, e_def, b_need_book, isbook _ _ w hz])
/-- the windows of a ring text make a book -/
theorem wins_round {s : Tx} {z : Nat} (h0 : s ≠ []) (hs : Small s) (ls : s.length ≤ 1000) (hz : 2 ≤ z) : Wins z (setTx (roundTx z s)) where
  asc := by
    have h1 := sortTx_sorted (onceM (roundTx z s))
    have h2 : (sortTx (onceM (roundTx z s))).Nodup := (sortTx_perm _).nodup_iff.mpr (onceM_nodup _)
    have := h1.and h2
    exact this.imp fun ⟨a, b⟩ => Decidable.byContradiction fun c => b (List.le_antisymm a (List.not_lt.mp c))
  len := fun x hx => by
    obtain ⟨i, _, rfl⟩ := round_mem ((onceM_mem x _).mp ((sortTx_perm _).mem_iff.mp hx))
    exact readTx_len _ _ _
  sm := fun x hx => by
    obtain ⟨i, _, rfl⟩ := round_mem ((onceM_mem x _).mp ((sortTx_perm _).mem_iff.mp hx))
    exact small_read h0 hs _ _
  ne := fun e => by
    have := (sortTx_perm (onceM (roundTx z s))).mem_iff.mpr ((onceM_mem _ _).mpr (mem_round (z := z) h0 0))
    have e : sortTx (onceM (roundTx z s)) = [] := e
    rw [e] at this
    cases this
  few := by
    unfold setTx
    rw [(sortTx_perm _).length_eq]
    have : ∀ r m : List Tx, (r.foldl addM m).length ≤ m.length + r.length := by
      intro r
      induction r with
      | nil => exact fun m => Nat.le_refl _
      | cons x r ih =>
        intro m
        have h1 := ih (addM m x)
        have h2 := (addM_len m x).1
        rw [List.foldl_cons, List.length_cons]
        omega
    have := this (roundTx z s) []
    rw [round_len] at this
    unfold onceM
    simp only [List.length_nil] at this
    omega
theorem set_mem {l : List Tx} {x : Tx} : x ∈ setTx l ↔ x ∈ l := ((sortTx_perm _).mem_iff).trans (onceM_mem x l)
end Lw

/-! Cm: what several laws ask of ring texts and books -/
namespace Lw
open Fm
theorem isring (P S : List O) {s : Tx} (h : Small s) (h0 : s ≠ []) : pureZ m_is_a_ring [.t (.str s)] P S = .ok (.t (.bl true)) S := by
  have : 0 < s.length := List.length_pos_iff.mpr h0
  exact pureZ_t (S' := []) (by simp [m_is_a_ring, e_def, b_is_a_ring, isword _ _ h, h0, this])
end Lw

/-! Bk: the drawn books -/
namespace Lw
open Fm
structure WL (z : Nat) (L : List Tx) : Prop where
  len : ∀ x ∈ L, x.length = z
  sm : ∀ x ∈ L, Small x
  ne : L ≠ []
  few : L.length ≤ 200
theorem strs_pick (P S : List O) {L : List Tx} {r : Int} (h0 : 0 ≤ r) (h1 : r < L.length) : ∃ x ∈ L, subG (.t (.lst (L.map T.str))) (.t (.int r)) P S = some (.t (.str x), S) := by
  have hl : r.toNat < L.length := by omega
  refine ⟨L[r.toNat], List.getElem_mem hl, ?_⟩
  have := strs_at' (ws := L) (k := r.toNat) (P := P) (S := S) hl
  rw [show ((r.toNat : Nat) : Int) = r by omega] at this
  exact this
theorem letter_pick (P S : List O) {l : Tx} {r : Int} (h0 : 0 ≤ r) (h1 : r < l.length) (hl : Small l) : ∃ c, 97 ≤ c ∧ c ≤ 122 ∧ c ∈ l ∧ subG (.t (.str l)) (.t (.int r)) P S = some (.t (.str [c]), S) := by
  obtain ⟨c, c1, _, c3⟩ := sub_str P S h0 h1
  exact ⟨c, (hl c c1).1, (hl c c1).2, c1, c3⟩
noncomputable abbrev bkA : MS := (sIf (mAndT (mB (mOp2 (lT2 eqT) (mVar 4) (mC (.int 3)))) (mB (mOp2 (lT2 gtT) (mCallB lenG (mCons (mVar 5) mNil)) (mC (.int 1))))) (sSeq (sSet 6 (mOp2 subG (mVar 5) (mCall m__law_pick (mCons (mVar 0) (mCons (mCallB lenG (mCons (mVar 5) mNil)) mNil))))) (sSet 5 (mOp2 (lT2 addT) (mLcG finT (mIt (mVar 5)) (gN 7) [7] (mB (mOp2 (lT2 neT) (mVar 7) (mVar 6))) (mVar 7)) (mSl (mVar 5) none (some (mC (.int 1))))))) sNil)
theorem neT_str (x y : Tx) : neT (.str x) (.str y) = some (.bl (!decide (x = y))) := by
  unfold neT
  rw [if_pos (show (T.plain (.str x) && T.plain (.str y) && T.low (.str x)) = true by rfl), eqv_str]
theorem bkA_ok (P : List O) {n : Nat} {R S : List O} {kind : Int} {d1 d2 d3 : Option D} {z : Nat} {L : List Tx} {o8 o9 o10 o11 o12 : Option D} (h : Pt n R S) (hn : n < 10 ^ 13) (w : WL z L) (lf : L.length ≤ 100) :
    ∃ L' S' o6 o7, bkA P [some (.ref P.length), d1, d2, d3, some (.t (.int kind)), some (.t (.lst (L.map T.str))), none, none, o8, o9, o10, o11, o12] S = .nx [some (.ref P.length), d1, d2, d3, some (.t (.int kind)), some (.t (.lst (L'.map T.str))), o6, o7, o8, o9, o10, o11, o12] S' ∧ Pt (n + 1) R S' ∧ WL z L' ∧ L'.length ≤ 101 := by
  by_cases c1 : kind = 3
  · by_cases c2 : (1 : Int) < L.length
    · obtain ⟨r, S1, e1, a1, b1, p1⟩ := pick_pt P (top := L.length) h (by omega) (by omega) (by omega)
      obtain ⟨x, hx, ex⟩ := strs_pick P S1 a1 b1
      have el := lc_filter (g := gN 7) (ft := mB (mOp2 (lT2 neT) (mVar 7) (mVar 6))) (fe := mVar 7) (P := P) (S := S1) (ρ := [some (.ref P.length), d1, d2, d3, some (.t (.int kind)), some (.t (.lst (L.map T.str))), some (.t (.str x)), none, o8, o9, o10, o11, o12])
        (fun y => D.t (.str y)) (fun y => !decide (y = x)) (fun y => D.t (.str y)) L (fun y _ => ⟨_, rfl, by simp [neT_str], fun _ => rfl⟩)
      have et := trees_mapF T.str (L.filter fun y => !decide (y = x))
      have mp : (L.map T.str).map D.t = L.map fun y => D.t (.str y) := by rw [List.map_map]; rfl
      refine ⟨(L.filter fun y => !decide (y = x)) ++ L.take 1, S1, some (.t (.str x)), none, ?_, p1, ⟨fun y hy => ?_, fun y hy => ?_, fun e => ?_, ?_⟩, ?_⟩
      · have hle : (List.filter (fun y => !decide (y = x)) L).length + (L.take 1).length ≤ 16777216 := by
          have := List.length_filter_le (fun y => !decide (y = x)) L
          rw [List.length_take]; omega
        have ha : addT (.lst ((L.filter fun y => !decide (y = x)).map T.str)) (.lst ((L.map T.str).take 1)) = some (.lst ((L.filter fun y => !decide (y = x)).map T.str ++ (L.map T.str).take 1)) :=
          addT_lst (by rw [List.length_map, ← List.map_take, List.length_map]; exact hle)
        have hc : cutL (L.map T.str) none (some 1) = (L.map T.str).take 1 := cutL_to _ (by decide)
        simp [bkA, c1, e1, ex, c2, itemsOf, mp, Function.comp_def]
        rw [c1] at el
        rw [el]
        simp [et, hc, ha]
      · rcases List.mem_append.mp hy with hy | hy
        · exact w.len y (List.mem_filter.mp hy).1
        · exact w.len y (List.mem_of_mem_take hy)
      · rcases List.mem_append.mp hy with hy | hy
        · exact w.sm y (List.mem_filter.mp hy).1
        · exact w.sm y (List.mem_of_mem_take hy)
      · have := congrArg List.length e
        rw [List.length_append, List.length_take, List.length_nil] at this
        omega
      · have := List.length_filter_le (fun y => !decide (y = x)) L
        rw [List.length_append, List.length_take]; omega
      · have := List.length_filter_le (fun y => !decide (y = x)) L
        rw [List.length_append, List.length_take]; omega
    · refine ⟨L, S, none, none, ?_, h.mono (by omega), w, by omega⟩
      simp [bkA, c1, c2]
  · refine ⟨L, S, none, none, ?_, h.mono (by omega), w, by omega⟩
    simp [bkA, c1]
theorem mem_take_len {z : Nat} {L : List Tx} (w : WL z L) {V : List Tx} (h : ∀ x ∈ V, x ∈ L) (ne : V ≠ []) (few : V.length ≤ 200) : WL z V := ⟨fun x hx => w.len x (h x hx), fun x hx => w.sm x (h x hx), ne, few⟩
noncomputable abbrev bkB : MS := (sIf (mB (mOp2 (lT2 eqT) (mVar 4) (mC (.int 4)))) (sSeq (sPar2 8 9 (mCons (mOp2 subG (mVar 5) (mCall m__law_pick (mCons (mVar 0) (mCons (mCallB lenG (mCons (mVar 5) mNil)) mNil)))) (mCons (mOp2 subG (mVar 3) (mCall m__law_pick (mCons (mVar 0) (mCons (mCallB lenG (mCons (mVar 3) mNil)) mNil)))) mNil))) (sSet 5 (mOp2 (lT2 addT) (mSl (mVar 5) none (some (mOp2 (lT2 subT) (mVar 1) (mC (.int 1))))) (mLst (mCons (mOp2 subG (mLst (mCons (mOp2 (lT2 addT) (mSl (mVar 8) (some (mC (.int 1))) none) (mVar 9)) (mCons (mOp2 (lT2 addT) (mVar 9) (mSl (mVar 8) none (some (mOp1 (lT1 negT) (mC (.int 1)))))) mNil))) (mCall m__law_pick (mCons (mVar 0) (mCons (mC (.int 2)) mNil)))) mNil))))) sNil)
theorem bkB_ok (P : List O) {n : Nat} {R S : List O} {kind : Int} {d2 : Option D} {most z : Nat} {l : Tx} {L : List Tx} {o6 o7 o10 o11 o12 : Option D} (h : Pt n R S) (hn : n < 10 ^ 13) (w : WL z L) (lf : L.length ≤ 101) (hz : 2 ≤ z ∧ z ≤ 6) (hl : Small l) (l0 : l ≠ []) (ll : l.length ≤ 26) (m1 : 1 ≤ most) (m2 : most ≤ 100) :
    ∃ L' S' o8 o9, bkB P [some (.ref P.length), some (.t (.int most)), d2, some (.t (.str l)), some (.t (.int kind)), some (.t (.lst (L.map T.str))), o6, o7, none, none, o10, o11, o12] S = .nx [some (.ref P.length), some (.t (.int most)), d2, some (.t (.str l)), some (.t (.int kind)), some (.t (.lst (L'.map T.str))), o6, o7, o8, o9, o10, o11, o12] S' ∧ Pt (n + 3) R S' ∧ WL z L' ∧ L'.length ≤ 102 := by
  by_cases c1 : kind = 4
  · have hp := List.length_pos_iff.mpr w.ne
    have hlp := List.length_pos_iff.mpr l0
    obtain ⟨r, S1, e1, a1, b1, p1⟩ := pick_pt P (top := L.length) h (by omega) (by omega) (by omega)
    obtain ⟨x, hx, ex⟩ := strs_pick P S1 a1 b1
    obtain ⟨r2, S2, e2, a2, b2, p2⟩ := pick_pt P (top := l.length) p1 (by omega) (by omega) (by omega)
    obtain ⟨c, k1, k2, hc, ec⟩ := letter_pick P S2 a2 b2 hl
    obtain ⟨r3, S3, e3, a3, b3, p3⟩ := pick_pt P (top := 2) p2 (by omega) (by decide) (by decide)
    have xl := w.len x hx
    have u1 : addT (.str (x.drop 1)) (.str [c]) = some (.str (x.drop 1 ++ [c])) := addT_str (by rw [List.length_drop]; simp; omega)
    have u2 : addT (.str [c]) (.str (x.take (x.length - 1))) = some (.str ([c] ++ x.take (x.length - 1))) := addT_str (by rw [List.length_take]; simp; omega)
    have q1 : cutL x (some 1) none = x.drop 1 := cutL_from x (by decide)
    have q2 := cutL_m1 x
    have q3 : cutL (L.map T.str) none (some ((most : Int) - 1)) = (L.take (most - 1)).map T.str := by
      rw [cutL_to _ (by omega), List.map_take]
      congr 1
      omega
    obtain ⟨y, ey, hy, ym⟩ : ∃ y : Tx, subG (.t (.lst [.str (x.drop 1 ++ [c]), .str ([c] ++ x.take (x.length - 1))])) (.t (.int r3)) P S3 = some (.t (.str y), S3) ∧ y.length = z ∧ Small y := by
      have xs := w.sm x hx
      rcases (show r3 = 0 ∨ r3 = 1 by omega) with rfl | rfl
      · exact ⟨_, rfl, by rw [List.length_append, List.length_drop]; simp; omega, small_app (small_drop xs) fun d hd => by rw [List.mem_singleton.mp hd]; exact ⟨k1, k2⟩⟩
      · exact ⟨_, rfl, by rw [List.length_append, List.length_take]; simp; omega, small_app (fun d hd => by rw [List.mem_singleton.mp hd]; exact ⟨k1, k2⟩) (small_take xs)⟩
    have ha : addT (.lst ((L.take (most - 1)).map T.str)) (.lst [.str y]) = some (.lst ((L.take (most - 1) ++ [y]).map T.str)) := by
      rw [addT_lst (by rw [List.length_map, List.length_take]; simp; omega), List.map_append]; rfl
    refine ⟨L.take (most - 1) ++ [y], S3, some (.t (.str x)), some (.t (.str [c])), ?_, p3, ⟨fun v hv => ?_, fun v hv => ?_, by simp, ?_⟩, ?_⟩
    · simp only [bkB, e_sif, e_B, e_op2, e_var, e_c, List.getElem?_cons_zero, List.getElem?_cons_succ, Fm.R.bind_ok, lT2_t, c1, eqT_int, decide_true, Option.map, lift_some, Fm.R.oc_ok, if_true, e_seq, e_par2, e_cons, e_call, e_callB, len_lst, List.length_map, e_nil, e1, nx_ok, ex, len_str, e2, ec, List.set, Fm.Oc.sq_nx, e_set, e_sl, e_partN, e_partS, subT_int, q3, e_lst, q1, u1, e_op1, lT1_t, negT_int, q2, u2, e3, ey, trees_cons, trees_nil, List.length_cons, List.length_nil, szl, Nat.zero_add, Nat.reduceAdd, Nat.reduceLeDiff, ha]
    · rcases List.mem_append.mp hv with hv | hv
      · exact w.len v (List.mem_of_mem_take hv)
      · rw [List.mem_singleton.mp hv]; exact hy
    · rcases List.mem_append.mp hv with hv | hv
      · exact w.sm v (List.mem_of_mem_take hv)
      · rw [List.mem_singleton.mp hv]; exact ym
    · rw [List.length_append, List.length_take]; simp; omega
    · rw [List.length_append, List.length_take]; simp; omega
  · refine ⟨L, S, none, none, ?_, h.mono (by omega), w, by omega⟩
    simp [bkB, c1]
noncomputable abbrev bkC : MS := (sIf (mB (mOp2 (lT2 eqT) (mVar 4) (mC (.int 5)))) (sSeq (sSet 10 (mCall m__law_word (mCons (mVar 0) (mCons (mVar 3) (mCons (mOp2 (lT2 addT) (mVar 2) (mCall m__law_pick (mCons (mVar 0) (mCons (mVar 1) mNil)))) mNil))))) (sSet 5 (mLcG finT (mI rng1Of (mCons (mOp2 (lT2 addT) (mOp2 (lT2 subT) (mCallB lenG (mCons (mVar 10) mNil)) (mVar 2)) (mC (.int 1))) mNil)) (gN 11) [11] mYes (mSl (mVar 10) (some (mVar 11)) (some (mOp2 (lT2 addT) (mVar 11) (mVar 2))))))) sNil)
/-- the steps of a text, by their beginnings -/
theorem steps_lc {P : List O} {ρ : En} {S : List O} {fe : ME} {j z : Nat} {s : Tx} (h : ∀ a : Nat, a + z ≤ s.length → fe P (ρ.set j (some (.t (.int a)))) S = .ok (.t (.str ((s.drop a).take z))) S) (hz : z ≤ s.length) :
    lcGo (gN j) mYes fe P ρ (rngOf 0 ((s.length : Int) - z + 1)) S = .ok (((stepsTx z s).map T.str).map D.t) S := by
  have := lc_map (g := gN j) (ft := mYes) (P := P) (S := S) (ρ := ρ) (fe := fe) (fun d => match d with | .t (.int a) => D.t (.str ((s.drop a.toNat).take z)) | d => d) (rngOf 0 ((s.length : Int) - z + 1)) (fun d hd => by
    obtain ⟨k, rfl, h1, h2⟩ := rngOf_mem hd
    refine ⟨_, rfl, rfl, ?_⟩
    have := h k.toNat (by omega)
    rw [show ((k.toNat : Nat) : Int) = k by omega] at this
    exact this)
  rw [this, rng_nat]
  unfold stepsTx
  rw [show ((s.length : Int) - z + 1).toNat = s.length + 1 - z by omega, List.map_map, List.map_map, List.map_map]
  rfl
theorem bkC_ok (P : List O) {n : Nat} {R S : List O} {kind : Int} {most z : Nat} {l : Tx} {L : List Tx} {o6 o7 o8 o9 o12 : Option D} (h : Pt n R S) (hn : n < 10 ^ 13) (w : WL z L) (lf : L.length ≤ 102) (hz : 2 ≤ z ∧ z ≤ 6) (hl : Small l) (l0 : l ≠ []) (ll : l.length ≤ 26) (m1 : 1 ≤ most) (m2 : most ≤ 100) :
    ∃ L' S' o10 o11, bkC P [some (.ref P.length), some (.t (.int most)), some (.t (.int z)), some (.t (.str l)), some (.t (.int kind)), some (.t (.lst (L.map T.str))), o6, o7, o8, o9, none, none, o12] S = .nx [some (.ref P.length), some (.t (.int most)), some (.t (.int z)), some (.t (.str l)), some (.t (.int kind)), some (.t (.lst (L'.map T.str))), o6, o7, o8, o9, o10, o11, o12] S' ∧ Pt (n + 2001) R S' ∧ WL z L' ∧ L'.length ≤ 102 := by
  by_cases c1 : kind = 5
  · obtain ⟨r, S1, e1, a1, b1, p1⟩ := pick_pt P (top := most) h (by omega) (by omega) (by omega)
    obtain ⟨s, S2, e2, p2, ls, hs⟩ := word_ok P (l := l) (z := z + r) p1 (by omega) l0 (by omega) (by omega) (by omega)
    have hsm : Small s := fun c hc => hl c (hs c hc)
    have el := steps_lc (P := P) (S := S2) (j := 11) (z := z) (s := s) (fe := mSl (mVar 10) (some (mVar 11)) (some (mOp2 (lT2 addT) (mVar 11) (mVar 2))))
      (ρ := [some (.ref P.length), some (.t (.int most)), some (.t (.int z)), some (.t (.str l)), some (.t (.int 5)), some (.t (.lst (L.map T.str))), o6, o7, o8, o9, some (.t (.str s)), none, o12]) (fun a ha => by
        have q : cutL s (some (a : Int)) (some ((a : Int) + z)) = (s.drop a).take z := by
          rw [cutL_mid _ (by omega) (by omega)]
          congr 1
          omega
        simp [q]) (by omega)
    have et := trees_map ((stepsTx z s).map T.str)
    have hr := rng1_ok (j := (s.length : Int) - z + 1) ⟨by omega, by omega⟩
    have hm : ∀ x ∈ stepsTx z s, x.length = z ∧ Small x := fun x hx => by
      obtain ⟨i, hi, rfl⟩ := List.mem_map.mp hx
      have := List.mem_range.mp hi
      exact ⟨by rw [List.length_take, List.length_drop]; omega, small_cut hsm⟩
    have hlen : (stepsTx z s).length = s.length + 1 - z := by unfold stepsTx; rw [List.length_map, List.length_range]
    refine ⟨stepsTx z s, S2, some (.t (.str s)), none, ?_, p2.mono (by omega), ⟨fun x hx => (hm x hx).1, fun x hx => (hm x hx).2, fun e => ?_, by omega⟩, by omega⟩
    · simp only [bkC, e_sif, e_B, e_op2, e_var, e_c, List.getElem?_cons_zero, List.getElem?_cons_succ, Fm.R.bind_ok, lT2_t, c1, eqT_int, decide_true, Option.map, lift_some, Fm.R.oc_ok, if_true, e_seq, e_cons, e_call, e_nil, e1, nx_ok, addT_int, e2, List.set, Fm.Oc.sq_nx, e_set, e_lc, e_I, e_callB, len_str, subT_int, hr, e_wipe, e_wipe0, el, e_finT, et]
    · rw [e] at hlen; simp at hlen; omega
  · refine ⟨L, S, none, none, ?_, h.mono (by omega), w, by omega⟩
    simp [bkC, c1]
noncomputable abbrev bkD : MS := (sIf (mB (mOp2 (lT2 eqT) (mVar 4) (mC (.int 6)))) (sSet 5 (mLcG finT (mI rng1Of (mCons (mOp2 (lT2 addT) (mC (.int 1)) (mCall m__law_pick (mCons (mVar 0) (mCons (mVar 1) mNil)))) mNil)) (gN 12) [12] mYes (mCall m__law_word (mCons (mVar 0) (mCons (mVar 3) (mCons (mVar 2) mNil)))))) sNil)
theorem bkD_ok (P : List O) {n : Nat} {R S : List O} {kind : Int} {most z : Nat} {l : Tx} {L : List Tx} {o6 o7 o8 o9 o10 o11 : Option D} (h : Pt n R S) (hn : n < 10 ^ 12) (w : WL z L) (lf : L.length ≤ 102) (hz : 2 ≤ z ∧ z ≤ 6) (hl : Small l) (l0 : l ≠ []) (ll : l.length ≤ 26) (m1 : 1 ≤ most) (m2 : most ≤ 100) :
    ∃ L' S' o12, bkD P [some (.ref P.length), some (.t (.int most)), some (.t (.int z)), some (.t (.str l)), some (.t (.int kind)), some (.t (.lst (L.map T.str))), o6, o7, o8, o9, o10, o11, none] S = .nx [some (.ref P.length), some (.t (.int most)), some (.t (.int z)), some (.t (.str l)), some (.t (.int kind)), some (.t (.lst (L'.map T.str))), o6, o7, o8, o9, o10, o11, o12] S' ∧ Pt (n + 200001) R S' ∧ WL z L' ∧ L'.length ≤ 102 := by
  by_cases c1 : kind = 6
  · obtain ⟨r, S1, e1, a1, b1, p1⟩ := pick_pt P (top := most) h (by omega) (by omega) (by omega)
    obtain ⟨ys, S2, e2, p2, l2, r2⟩ := lc_inv (g := gN 12) (ft := mYes) (P := P) (fe := mCall m__law_word (mCons (mVar 0) (mCons (mVar 3) (mCons (mVar 2) mNil))))
      (ρ := [some (.ref P.length), some (.t (.int most)), some (.t (.int z)), some (.t (.str l)), some (.t (.int 6)), some (.t (.lst (L.map T.str))), o6, o7, o8, o9, o10, o11, none])
      (fun k S => Pt (n + 1 + 2000 * k) R S) (fun y => ∃ x : Tx, y = D.t (.str x) ∧ x.length = z ∧ Small x) 100 (rngOf 0 (1 + r)) 0 S1 (by rw [rngOf_len]; omega) (fun d hd k S hk hI => by
        obtain ⟨s, S3, e3, p3, ls, hs⟩ := word_ok P (l := l) (z := z) hI (by omega) l0 (by omega) (by omega) (by omega)
        refine ⟨_, .t (.str s), S3, rfl, rfl, ?_, p3.mono (by omega), s, rfl, by omega, fun c hc => hl c (hs c hc)⟩
        simp [e3]) (p1.mono (by omega))
    obtain ⟨V, rfl, hV⟩ := choice_map ys r2
    rw [List.length_map, rngOf_len] at l2
    have hr := rng1_ok (j := 1 + r) ⟨by omega, by omega⟩
    have et := trees_mapF T.str V
    refine ⟨V, S2, none, ?_, p2.mono (by rw [rngOf_len]; omega), ⟨fun x hx => (hV x hx).1, fun x hx => (hV x hx).2, fun e => ?_, by omega⟩, by omega⟩
    · simp only [bkD, e_sif, e_B, e_op2, e_var, e_c, List.getElem?_cons_zero, List.getElem?_cons_succ, Fm.R.bind_ok, lT2_t, c1, eqT_int, decide_true, Option.map, lift_some, Fm.R.oc_ok, if_true, e_seq, e_cons, e_call, e_nil, e1, nx_ok, addT_int, e2, List.set, e_set, e_lc, e_I, hr, e_wipe, e_wipe0, e_finT, et]
    · rw [e] at l2; simp at l2; omega
  · refine ⟨L, S, none, ?_, h.mono (by omega), w, by omega⟩
    simp [bkD, c1]
def bookT (z : Nat) (W : List Tx) : T := .tup [.int z, .tup (W.map T.str)]
theorem wl_wins {z : Nat} {L : List Tx} {most : Nat} (w : WL z L) (m1 : 1 ≤ most) : Wins z ((setTx L).take most) where
  asc := by
    have h1 : (setTx L).Pairwise (· < ·) := by
      have h1 := sortTx_sorted (onceM L)
      have h2 : (sortTx (onceM L)).Nodup := (sortTx_perm _).nodup_iff.mpr (onceM_nodup L)
      exact (h1.and h2).imp fun ⟨a, b⟩ => Decidable.byContradiction fun c => b (List.le_antisymm a (List.not_lt.mp c))
    exact h1.sublist (List.take_sublist _ _)
  len := fun x hx => w.len x (set_mem.mp (List.mem_of_mem_take hx))
  sm := fun x hx => w.sm x (set_mem.mp (List.mem_of_mem_take hx))
  ne := fun e => by
    obtain ⟨x, hx⟩ := List.exists_mem_of_ne_nil L w.ne
    have hm : x ∈ setTx L := set_mem.mpr hx
    have := List.length_pos_of_mem hm
    have := congrArg List.length e
    rw [List.length_take, List.length_nil] at this
    omega
  few := by
    have h1 := (sortTx_perm (onceM L)).length_eq
    have h2 : (onceM L).length ≤ L.length := (onceM_nodup L).length_le_of_subset fun x hx => (onceM_mem x L).mp hx
    have := w.few
    unfold setTx
    rw [List.length_take]
    omega
theorem once_len (L : List Tx) : (onceM L).length ≤ L.length := (onceM_nodup L).length_le_of_subset fun x hx => (onceM_mem x L).mp hx
end Lw

/-! Wb: books as webs, plain. -/
namespace Lw
open Fm
def bgn (w : Tx) : Tx := w.take (w.length - 1)
def fin (w : Tx) : Tx := w.drop 1
def lst (w : Tx) : Nat := w.getD (w.length - 1) 0
/-- the places -/
def spotsTx (W : List Tx) : List Tx := setTx (W.map bgn ++ W.map fin)
inductive Rch (W : List Tx) : Tx → Tx → Prop
  | refl (a : Tx) : Rch W a a
  | step {a : Tx} {w : Tx} : Rch W a (bgn w) → w ∈ W → Rch W a (fin w)
theorem Rch.trans {W : List Tx} {a b c : Tx} (h : Rch W a b) (k : Rch W b c) : Rch W a c := by
  induction k with
  | refl => exact h
  | step _ hw ih => exact .step ih hw
theorem Rch.one {W : List Tx} {w : Tx} (h : w ∈ W) : Rch W (bgn w) (fin w) := .step (.refl _) h
theorem Rch.head {W : List Tx} {a b : Tx} (h : Rch W a b) : a = b ∨ ∃ w ∈ W, bgn w = a ∧ Rch W (fin w) b := by
  induction h with
  | refl => exact .inl rfl
  | step k hw ih =>
    rename_i w
    rcases ih with e | ⟨v, hv, e, r⟩
    · exact .inr ⟨w, hw, e.symm, .refl _⟩
    · exact .inr ⟨v, hv, e, .step r hw⟩
def Joined (W : List Tx) : Prop := ∀ a ∈ spotsTx W, ∀ b ∈ spotsTx W, Rch W a b
theorem spots_mem {W : List Tx} {x : Tx} : x ∈ spotsTx W ↔ ∃ w ∈ W, x = bgn w ∨ x = fin w := by
  unfold spotsTx
  rw [show (x ∈ setTx (W.map bgn ++ W.map fin) ↔ x ∈ W.map bgn ++ W.map fin) from ((sortTx_perm _).mem_iff).trans (onceM_mem x _), List.mem_append, List.mem_map, List.mem_map]
  constructor
  · rintro (⟨w, h, e⟩ | ⟨w, h, e⟩)
    · exact ⟨w, h, .inl e.symm⟩
    · exact ⟨w, h, .inr e.symm⟩
  · rintro ⟨w, h, e | e⟩
    · exact .inl ⟨w, h, e.symm⟩
    · exact .inr ⟨w, h, e.symm⟩
theorem spots_bgn {W : List Tx} {w : Tx} (h : w ∈ W) : bgn w ∈ spotsTx W := spots_mem.mpr ⟨w, h, .inl rfl⟩
theorem spots_fin {W : List Tx} {w : Tx} (h : w ∈ W) : fin w ∈ spotsTx W := spots_mem.mpr ⟨w, h, .inr rfl⟩
theorem spots_nodup (W : List Tx) : (spotsTx W).Nodup := (sortTx_perm _).nodup_iff.mpr (onceM_nodup _)
theorem rch_spot {W : List Tx} {a b : Tx} (h : Rch W a b) (ha : a ∈ spotsTx W) : b ∈ spotsTx W := by
  cases h with
  | refl => exact ha
  | step _ hw => exact spots_fin hw
theorem spots_len (W : List Tx) : (spotsTx W).length ≤ 2 * W.length := by
  have h := (sortTx_perm (onceM (W.map bgn ++ W.map fin))).length_eq
  have h2 : (onceM (W.map bgn ++ W.map fin)).length ≤ (W.map bgn ++ W.map fin).length := (onceM_nodup _).length_le_of_subset fun x hx => (onceM_mem x _).mp hx
  rw [List.length_append, List.length_map, List.length_map] at h2
  unfold spotsTx setTx
  omega
/-! ### walks from a window -/
/-- the text t is read along n further steps from the window a to the window v -/
inductive Wk (W : List Tx) (a : Tx) : Nat → Tx → Tx → Prop
  | nil : Wk W a 0 a a
  | step {n : Nat} {u t v : Tx} : Wk W a n u t → v ∈ W → bgn v = fin u → Wk W a (n + 1) v (t ++ [lst v])
theorem Wk.len {W : List Tx} {a v t : Tx} {n : Nat} (h : Wk W a n v t) : t.length = a.length + n := by
  induction h with
  | nil => rfl
  | step _ _ _ ih => rw [List.length_append, ih]; rfl
theorem Wk.mem {W : List Tx} {a v t : Tx} {n : Nat} (h : Wk W a n v t) (ha : a ∈ W) : v ∈ W := by
  cases h with
  | nil => exact ha
  | step _ hv _ => exact hv
/-- as few steps as can be -/
def Dst (W : List Tx) (a v : Tx) (n : Nat) : Prop := (∃ t, Wk W a n v t) ∧ ∀ m, m < n → ¬ ∃ t, Wk W a m v t
def Best (W : List Tx) (a v : Tx) (t : Tx) : Prop := ∃ n, Dst W a v n ∧ Wk W a n v t ∧ ∀ t', Wk W a n v t' → t ≤ t'
theorem Dst.uniq {W : List Tx} {a v : Tx} {n m : Nat} (h : Dst W a v n) (k : Dst W a v m) : n = m := by
  rcases Nat.lt_trichotomy n m with c | c | c
  · exact absurd h.1 (k.2 n c)
  · exact c
  · exact absurd k.1 (h.2 m c)
theorem Best.uniq {W : List Tx} {a v t u : Tx} (h : Best W a v t) (k : Best W a v u) : t = u := by
  obtain ⟨n, d1, w1, l1⟩ := h
  obtain ⟨m, d2, w2, l2⟩ := k
  have := d1.uniq d2
  subst this
  exact List.le_antisymm (l1 u w2) (l2 t w1)
theorem dst_of {W : List Tx} {a v : Tx} (h : ∃ n t, Wk W a n v t) : ∃ n, Dst W a v n := by
  obtain ⟨n, h⟩ := h
  induction n using Nat.strongRecOn with
  | ind n ih =>
    by_cases c : ∃ m, m < n ∧ ∃ t, Wk W a m v t
    · obtain ⟨m, hm, k⟩ := c
      exact ih m hm k
    · exact ⟨n, h, fun m hm k => c ⟨m, hm, k⟩⟩
/-- a window that is come to with n + 1 steps is come to from one with n -/
theorem Dst.pred {W : List Tx} {a v : Tx} {n : Nat} (h : Dst W a v (n + 1)) : ∃ u, Dst W a u n ∧ v ∈ W ∧ bgn v = fin u := by
  obtain ⟨⟨t, k⟩, hm⟩ := h
  cases k with
  | step k hv e =>
    rename_i u t'
    refine ⟨u, ⟨⟨t', k⟩, fun m hlt ⟨t2, k2⟩ => hm (m + 1) (by omega) ⟨_, .step k2 hv e⟩⟩, hv, e⟩
theorem Dst.all {W : List Tx} {a v : Tx} {n : Nat} (h : Dst W a v n) : ∀ m, m ≤ n → ∃ u, Dst W a u m := by
  induction n generalizing v with
  | zero => intro m hm; exact ⟨v, by rw [show m = 0 by omega]; exact h⟩
  | succ n ih =>
    intro m hm
    by_cases c : m = n + 1
    · exact ⟨v, c ▸ h⟩
    · obtain ⟨u, hu, _⟩ := h.pred
      exact ih hu m (by omega)
theorem rch_walk {W : List Tx} {a b : Tx} (ha : a ∈ W) (h : Rch W (fin a) b) : ∀ v ∈ W, bgn v = b → ∃ n t, Wk W a n v t := by
  induction h with
  | refl => intro v hv hb; exact ⟨1, _, .step .nil hv hb⟩
  | step k0 hw ih =>
    rename_i w
    intro v hv hb
    obtain ⟨n, t, k⟩ := ih w hw rfl
    exact ⟨n + 1, _, .step k hv hb⟩
theorem walk_rch {W : List Tx} {a v t : Tx} {n : Nat} (h : Wk W a n v t) : v = a ∨ Rch W (fin a) (bgn v) := by
  induction h with
  | nil => exact .inl rfl
  | step k hv e ih =>
    rename_i u t v
    right
    rw [e]
    rcases ih with rfl | r
    · exact .refl _
    · cases k with
      | nil => exact .refl _
      | step k2 hu _ => exact .step r hu
theorem walk_iff {W : List Tx} {a v : Tx} (ha : a ∈ W) (hv : v ∈ W) : (∃ n t, Wk W a n v t) ↔ v = a ∨ Rch W (fin a) (bgn v) := by
  constructor
  · rintro ⟨n, t, h⟩; exact walk_rch h
  · rintro (rfl | h)
    · exact ⟨0, _, .nil⟩
    · exact rch_walk ha h v hv rfl
theorem joined_walk {W : List Tx} (h : Joined W) {a v : Tx} (ha : a ∈ W) (hv : v ∈ W) : ∃ n t, Wk W a n v t := rch_walk ha (h _ (spots_fin ha) _ (spots_bgn hv)) v hv rfl
theorem joined_next {W : List Tx} (h : Joined W) {a : Tx} (ha : a ∈ W) : ∃ v ∈ W, bgn v = fin a := by
  rcases (h _ (spots_fin ha) _ (spots_bgn ha)).head with e | ⟨w, hw, e, _⟩
  · exact ⟨a, ha, e.symm⟩
  · exact ⟨w, hw, e⟩
/-- the windows that end a walk's text -/
theorem Wk.tail {W : List Tx} {z : Nat} (hz : 1 ≤ z) (hl : ∀ x ∈ W, x.length = z) {a v t : Tx} {n : Nat} (ha : a ∈ W) (h : Wk W a n v t) : t.drop n = v := by
  induction h with
  | nil => rfl
  | step k hv e ih =>
    rename_i n u t v
    have lt := k.len
    have la := hl a ha
    have lv := hl v hv
    have hu : u ∈ W := k.mem ha
    have lu := hl u hu
    rw [List.drop_append_of_le_length (by omega), show n + 1 = n + 1 from rfl, ← List.drop_drop, ih]
    show fin u ++ [lst v] = v
    rw [← e]
    unfold bgn lst
    apply List.ext_getElem
    · rw [List.length_append, List.length_take, List.length_singleton]; omega
    · intro i h1 h2
      rw [List.length_append, List.length_take, List.length_singleton] at h1
      by_cases c : i < v.length - 1
      · rw [List.getElem_append_left (by rw [List.length_take]; omega), List.getElem_take]
      · have hi : i = v.length - 1 := by omega
        subst hi
        rw [List.getElem_append_right (by rw [List.length_take]; omega)]
        simp [List.getD, lv]
        rw [List.getElem?_eq_getElem (by omega)]
        rfl
theorem Wk.small {W : List Tx} {a v t : Tx} {n : Nat} {p : Nat → Prop} (hp : ∀ x ∈ W, ∀ c ∈ x, p c) (hne : ∀ x ∈ W, x ≠ []) (ha : a ∈ W) (h : Wk W a n v t) : ∀ c ∈ t, p c := by
  induction h with
  | nil => exact hp a ha
  | step k hv e ih =>
    rename_i n u t v
    intro c hc
    rcases List.mem_append.mp hc with hc | hc
    · exact ih c hc
    · rw [List.mem_singleton.mp hc]
      refine hp v hv _ ?_
      have := List.length_pos_iff.mpr (hne v hv)
      unfold lst
      rw [List.getD_eq_getElem?_getD, List.getElem?_eq_getElem (by omega)]
      exact List.getElem_mem _
/-- distances are less than the number of windows -/
theorem dst_list {W : List Tx} {a v : Tx} {n : Nat} (ha : a ∈ W) (h : Dst W a v n) : ∃ l : List Tx, l.length = n + 1 ∧ l.Nodup ∧ (∀ x ∈ l, x ∈ W) ∧ ∀ x ∈ l, ∃ m, m ≤ n ∧ Dst W a x m := by
  induction n generalizing v with
  | zero =>
    obtain ⟨t, k⟩ := h.1
    exact ⟨[v], rfl, by simp, fun x hx => by rw [List.mem_singleton.mp hx]; exact k.mem ha, fun x hx => ⟨0, Nat.le_refl _, by rw [List.mem_singleton.mp hx]; exact h⟩⟩
  | succ n ih =>
    obtain ⟨u, hu, hv, _⟩ := h.pred
    obtain ⟨l, h1, h2, h3, h4⟩ := ih hu
    refine ⟨v :: l, by rw [List.length_cons, h1], List.nodup_cons.mpr ⟨fun hm => ?_, h2⟩, fun x hx => ?_, fun x hx => ?_⟩
    · obtain ⟨m, hm1, hm2⟩ := h4 v hm
      have := h.uniq hm2
      omega
    · rcases List.mem_cons.mp hx with rfl | hx
      · exact hv
      · exact h3 x hx
    · rcases List.mem_cons.mp hx with rfl | hx
      · exact ⟨n + 1, Nat.le_refl _, h⟩
      · obtain ⟨m, hm1, hm2⟩ := h4 x hx
        exact ⟨m, by omega, hm2⟩
theorem dst_lt {W : List Tx} {a v : Tx} {n : Nat} (ha : a ∈ W) (h : Dst W a v n) : n < W.length := by
  obtain ⟨l, h1, h2, h3, _⟩ := dst_list ha h
  have := h2.length_le_of_subset h3
  omega
/-- the best texts, layer by layer -/
theorem best_zero {W : List Tx} (a : Tx) : Best W a a a := ⟨0, ⟨⟨a, .nil⟩, fun m hm => absurd hm (Nat.not_lt_zero _)⟩, .nil, fun t' h => by cases h; exact List.le_refl _⟩
def allW (W : List Tx) (a : Tx) : Nat → List (Tx × Tx)
  | 0 => [(a, a)]
  | n + 1 => (allW W a n).flatMap fun p => (W.filter fun v => decide (bgn v = fin p.1)).map fun v => (v, p.2 ++ [lst v])
theorem allW_mem {W : List Tx} {a : Tx} : ∀ {n : Nat} {v t : Tx}, (v, t) ∈ allW W a n ↔ Wk W a n v t
  | 0, v, t => by
    unfold allW
    rw [List.mem_singleton]
    constructor
    · intro e; cases e; exact .nil
    · intro h; cases h; rfl
  | n + 1, v, t => by
    unfold allW
    rw [List.mem_flatMap]
    constructor
    · rintro ⟨⟨u, t'⟩, hp, hm⟩
      obtain ⟨w, hw, e⟩ := List.mem_map.mp hm
      cases e
      obtain ⟨h1, h2⟩ := List.mem_filter.mp hw
      exact .step (allW_mem.mp hp) h1 (of_decide_eq_true h2)
    · intro h
      cases h with
      | step k hv e =>
        rename_i u t'
        exact ⟨(u, t'), allW_mem.mpr k, List.mem_map.mpr ⟨v, List.mem_filter.mpr ⟨hv, decide_eq_true e⟩, rfl⟩⟩
theorem best_ex {W : List Tx} {a v : Tx} {n : Nat} (h : ∃ t, Wk W a n v t) : ∃ t, Wk W a n v t ∧ ∀ t', Wk W a n v t' → t ≤ t' := by
  obtain ⟨t, k⟩ := h
  have key : ∀ {u : Tx}, u ∈ ((allW W a n).filter fun p => decide (p.1 = v)).map (·.2) ↔ Wk W a n v u := fun {u} => by
    rw [List.mem_map]
    constructor
    · rintro ⟨⟨x, y⟩, hp, rfl⟩
      obtain ⟨h1, h2⟩ := List.mem_filter.mp hp
      have h2 : x = v := of_decide_eq_true h2
      subst h2
      exact allW_mem.mp h1
    · intro k
      exact ⟨(v, u), List.mem_filter.mpr ⟨allW_mem.mpr k, decide_eq_true rfl⟩, rfl⟩
  have ne : ((allW W a n).filter fun p => decide (p.1 = v)).map (·.2) ≠ [] := fun e => by
    have := key.mpr k
    rw [e] at this
    cases this
  exact ⟨minL' _, key.mp (minL_mem ne), fun t' k' => minL_le (key.mpr k')⟩
theorem Dst.best {W : List Tx} {a v : Tx} {n : Nat} (h : Dst W a v n) : ∃ t, Best W a v t := by
  obtain ⟨t, k, l⟩ := best_ex h.1
  exact ⟨t, n, h, k, l⟩
theorem le_snoc {s t : Tx} {c : Nat} (hl : s.length = t.length) (h : s ≤ t) : s ++ [c] ≤ t ++ [c] := by
  rcases List.le_iff_lt_or_eq.mp h with h | h
  · exact List.le_of_lt (app_lt _ _ hl h)
  · rw [h]; exact List.le_refl _
/-- the best text to v by way of the best one to u -/
theorem best_step {W : List Tx} {a v : Tx} {n : Nat} {t : Tx} (hd : Dst W a v (n + 1)) (h1 : ∃ u s, Dst W a u n ∧ Best W a u s ∧ bgn v = fin u ∧ t = s ++ [lst v]) (h2 : ∀ u s, Dst W a u n → Best W a u s → bgn v = fin u → t ≤ s ++ [lst v]) (hv : v ∈ W) : Best W a v t := by
  refine ⟨n + 1, hd, ?_, fun t' k' => ?_⟩
  · obtain ⟨u, s, d, ⟨m, d2, k, _⟩, e, rfl⟩ := h1
    have := d.uniq d2
    subst this
    exact .step k hv e
  · cases k' with
    | step k hv' e =>
      rename_i u s
      have d : Dst W a u n := ⟨⟨s, k⟩, fun m hm ⟨x, kx⟩ => hd.2 (m + 1) (by omega) ⟨_, .step kx hv e⟩⟩
      obtain ⟨b, m, d2, kb, lb⟩ := d.best
      have := d.uniq d2
      subst this
      have h3 := h2 u b d ⟨n, d, kb, lb⟩ e
      have h4 := le_snoc (c := lst v) (by rw [kb.len, k.len]) (lb s k)
      exact List.le_trans h3 h4
end Lw

/-! WbS: small rules for books -/
namespace Lw
open Fm
theorem bk0 (P S : List O) (z : Nat) (W : List Tx) : subG (.t (bookT z W)) (.t (.int 0)) P S = some (.t (.int z), S) := by
  have := sub_tup P S (l := [T.int z, .tup (W.map T.str)]) (k := 0) (by simp)
  simpa [bookT] using this
theorem bk1 (P S : List O) (z : Nat) (W : List Tx) : subG (.t (bookT z W)) (.t (.int 1)) P S = some (.t (.tup (W.map T.str)), S) := by
  have := sub_tup P S (l := [T.int z, .tup (W.map T.str)]) (k := 1) (by simp)
  simpa [bookT] using this
theorem cut_fin (x : Tx) : cutL x (some 1) none = fin x := cutL_from x (by decide)
theorem cut_bgn (x : Tx) : cutL x none (some (-1)) = bgn x := cutL_m1 x
theorem items_tup (P : List O) (W : List Tx) : itemsOf P (.t (.tup (W.map T.str))) = some (W.map fun x => D.t (.str x)) := by
  show some ((W.map T.str).map D.t) = _
  rw [List.map_map]; rfl
theorem items_lst (P : List O) (W : List Tx) : itemsOf P (.t (.lst (W.map T.str))) = some (W.map fun x => D.t (.str x)) := by
  show some ((W.map T.str).map D.t) = _
  rw [List.map_map]; rfl
theorem lc_all {α : Type} {g : MG} {fe : ME} {P : List O} {ρ : En} {S : List O} (G : α → D) (F : α → T) (l : List α) (h : ∀ x ∈ l, ∃ ρ1, g (G x) ρ = some ρ1 ∧ fe P ρ1 S = .ok (.t (F x)) S) : lcGo g mYes fe P ρ (l.map G) S = .ok (l.map fun x => D.t (F x)) S := by
  have := lc_filter (g := g) (ft := mYes) (fe := fe) (P := P) (ρ := ρ) (S := S) G (fun _ => true) (fun x => D.t (F x)) l (fun x hx => let ⟨ρ1, e1, e2⟩ := h x hx; ⟨ρ1, e1, rfl, fun _ => e2⟩)
  rwa [List.filter_eq_self.mpr (fun _ _ => rfl)] at this
theorem src_lst (P S : List O) (L : List Tx) : setSrc P S (.t (.lst (L.map T.str))) = some L := strsOf_mapf id L |>.trans (by simp)
theorem sb_ok {L : List Tx} (h : L.length < 4095) : (onceM L).length + 1 < PySem.scanBound := by
  have hsb : PySem.scanBound = 4096 := rfl
  have := once_len L
  omega
theorem ne_nil (l : List Tx) : neT (.lst (l.map T.str)) (.lst []) = some (.bl (!decide (l = []))) := by
  unfold neT
  rw [low_strs, plain_lst, plain_lst, isi_strs]
  show some (T.bl (!T.eqv _ _)) = _
  cases l <;> rfl
theorem take_mem {W : List Tx} {k : Nat} {v : Tx} (h : W[k]? = some v) (x : Tx) : x ∈ W.take (k + 1) ↔ x ∈ W.take k ∨ x = v := by
  rw [List.take_add_one, h, List.mem_append]
  simp
theorem sub_back {F G : List Tx} (n : F.Nodup) (h : ∀ x ∈ F, x ∈ G) (l : G.length ≤ F.length) {b : Tx} (hb : b ∈ G) : b ∈ F := Classical.byContradiction fun c => by
  have : (b :: F).length ≤ G.length := (List.nodup_cons.mpr ⟨c, n⟩).length_le_of_subset fun x hx => by
    rcases List.mem_cons.mp hx with rfl | hx
    · exact hb
    · exact h x hx
  rw [List.length_cons] at this
  omega
theorem grown_all0 {W F : List Tx} {a : Tx} (nd : F.Nodup) (g : ∀ x, x ∈ F ↔ Rch W a x) (ha : a ∈ spotsTx W) : F.length = (spotsTx W).length ↔ ∀ b ∈ spotsTx W, Rch W a b := by
  have sub : ∀ x ∈ F, x ∈ spotsTx W := fun x hx => rch_spot ((g x).mp hx) ha
  constructor
  · intro h b hb
    exact (g b).mp (sub_back nd sub (by omega) hb)
  · intro h
    exact Nat.le_antisymm (nd.length_le_of_subset sub) ((spots_nodup W).length_le_of_subset fun x hx => (g x).mpr (h x hx))
end Lw

/-! Us: small rules that many laws use -/
namespace Lw
open Fm
theorem seq_nx {a b : MS} {P : List O} {ρ ρ' : En} {S S' : List O} (h : a P ρ S = .nx ρ' S') : sSeq a b P ρ S = b P ρ' S' := by rw [e_seq, h]; rfl
theorem low_tup (l : List Tx) : (T.tup (l.map T.str)).low = true := by
  unfold T.low
  apply decide_eq_true
  show (PySem.PyData.tuple (T.pds (l.map T.str))).depth ≤ 40
  rw [pds_map]
  have := depth_strs l
  have e : (l.map fun x => (T.str x).pd) = l.map fun y => PySem.PyData.str (sv y) := rfl
  rw [e]
  simp only [PySem.PyData.depth]
  omega
theorem eq_tups (l m : List Tx) : eqT (.tup (l.map T.str)) (.tup (m.map T.str)) = some (.bl (decide (l = m))) := by
  unfold eqT
  rw [low_tup, plain_tup, plain_tup, isi_strs, isi_strs, eqv_tup, eqvs_str]
  rfl
theorem eq_lsts (l m : List Tx) : eqT (.lst (l.map T.str)) (.lst (m.map T.str)) = some (.bl (decide (l = m))) := by
  unfold eqT
  rw [low_strs, plain_lst, plain_lst, isi_strs, isi_strs, eqv_lst, eqvs_str]
  rfl
theorem neT_strs (l m : List Tx) : neT (.lst (l.map T.str)) (.lst (m.map T.str)) = some (.bl (!decide (l = m))) := by
  unfold neT
  rw [low_strs, plain_lst, plain_lst, isi_strs, isi_strs, eqv_lst, eqvs_str]
  rfl
theorem neT_tups (l m : List Tx) : neT (.tup (l.map T.str)) (.tup (m.map T.str)) = some (.bl (!decide (l = m))) := by
  unfold neT
  rw [low_tup, plain_tup, plain_tup, isi_strs, isi_strs, eqv_tup, eqvs_str]
  rfl
theorem lstOf_tup (l : List T) : lstOfT [.tup l] = some (.lst l) := rfl
theorem tupOf_lst (l : List T) : tupOfT [.lst l] = some (.tup l) := rfl
theorem addT_tup {a b : List T} (h : a.length + b.length ≤ 16777216) : addT (.tup a) (.tup b) = some (.tup (a ++ b)) := if_pos h
theorem sort_strs (P S : List O) (l : List Tx) : sortIn P S (.t (.lst (l.map T.str))) = some ((sortTx l).map T.str) := by
  have ok := sortOk_strs l
  unfold sortIn
  simp only
  rw [if_pos ok, sortL_str]
theorem set_fin (P S : List O) {V W : List Tx} (h : setTx V = W) (few : W.length ≤ 1000) (fin : List T → List O → List O → R D) (f : ME) (ρ : En) (S0 : List O) (d : D) (e : f P ρ S0 = .ok d S) (hs : setSrc P S d = some V) : mSortSet fin f P ρ S0 = fin (W.map T.str) P S := by
  have hsb : PySem.scanBound = 4096 := rfl
  have h1 := (sortTx_perm (onceM V)).length_eq
  have h2 : (sortTx (onceM V)).length = W.length := by rw [← h]; rfl
  have sb : (onceM V).length + 1 < PySem.scanBound := by omega
  have eu : sortTx (onceM V) = W := h
  rw [e_sortSet, e]
  simp only [Fm.R.bind_ok, hs, sb, if_true, eu]
theorem src_lst1 (P S : List O) (V : List Tx) : setSrc P S (.t (.lst (V.map T.str))) = some V := strsOf_mapf id _ |>.trans (by simp)
theorem src_tup1 (P S : List O) (V : List Tx) : setSrc P S (.t (.tup (V.map T.str))) = some V := strsOf_mapf id _ |>.trans (by simp)
theorem join_nil (l : List Tx) : joinTx [] l = l.flatten := by
  induction l with
  | nil => rfl
  | cons a l ih =>
    cases l with
    | nil => simp [joinTx]
    | cons b l => rw [joinTx, ih]; simp
theorem join_tup (P S : List O) {ps : List Tx} (h : ps.flatten.length ≤ 10 ^ 6) : joinG (.t (.str (cs ""))) [.t (.tup (ps.map T.str))] P S = some (.t (.str ps.flatten), S) := by
  have e1 : strsOf (ps.map T.str) = some ps := strsOf_mapf id ps |>.trans (by simp)
  have e3 : (ps.map List.length).sum ≤ 10 ^ 6 := by
    rw [← List.length_flatten]; exact h
  show (match strsOf (ps.map T.str) with | some ss => _ | none => none) = _
  rw [e1]
  simp only
  rw [if_pos (by rw [szl]; simp; omega), show (cs "") = [] from rfl, join_nil]
theorem join_lst (P S : List O) {ps : List Tx} (h : ps.flatten.length ≤ 10 ^ 6) : joinG (.t (.str (cs ""))) [.t (.lst (ps.map T.str))] P S = some (.t (.str ps.flatten), S) := by
  have e1 : strsOf (ps.map T.str) = some ps := strsOf_mapf id ps |>.trans (by simp)
  have e3 : (ps.map List.length).sum ≤ 10 ^ 6 := by
    rw [← List.length_flatten]; exact h
  show (match strsOf (ps.map T.str) with | some ss => _ | none => none) = _
  rw [e1]
  simp only
  rw [if_pos (by rw [szl]; simp; omega), show (cs "") = [] from rfl, join_nil]
theorem isi_s (P S : List O) (u : Tx) : isiG [.t (.str u), .t (.ty "str")] P S = some (.t (.bl true), S) := by simp [isiB]
theorem isi_t (P S : List O) (l : List Tx) : isiG [.t (.tup (l.map T.str)), .t (.ty "tuple")] P S = some (.t (.bl true), S) := by
  rw [isi_tree, plain_tup, isi_strs]; simp [isiB]
theorem wins_sort {z : Nat} {V : List Tx} (nd : V.Nodup) (hl : ∀ x ∈ V, x.length = z) (hs : ∀ x ∈ V, Small x) (ne : V ≠ []) (few : V.length ≤ 10 ^ 6) : Wins z (sortTx V) := by
  have pm := sortTx_perm V
  refine ⟨?_, fun x hx => hl x (pm.mem_iff.mp hx), fun x hx => hs x (pm.mem_iff.mp hx), fun e => ?_, by rw [pm.length_eq]; exact few⟩
  · have h1 := sortTx_sorted V
    have h2 : (sortTx V).Nodup := pm.nodup_iff.mpr nd
    exact (h1.and h2).imp fun ⟨a, b⟩ => Decidable.byContradiction fun c => b (List.le_antisymm a (List.not_lt.mp c))
  · have := pm.length_eq
    rw [e] at this
    exact ne (List.eq_nil_of_length_eq_zero this.symm)
theorem wins_sub {z : Nat} {W V : List Tx} (w : Wins z W) (h : V.Sublist W) (ne : V ≠ []) : Wins z V := ⟨w.asc.sublist h, fun x hx => w.len x (h.subset hx), fun x hx => w.sm x (h.subset hx), ne, Nat.le_trans h.length_le w.few⟩
theorem drop_mid {α : Type} (W : List α) (k : Nat) : (W.take k ++ W.drop (k + 1)).Sublist W := by
  have h1 : (W.drop (k + 1)).Sublist (W.drop k) := by
    rw [← List.drop_drop]
    exact List.drop_sublist _ _
  have := (List.Sublist.refl (W.take k)).append h1
  rwa [List.take_append_drop] at this
theorem ascend_l (P S : List O) {W : List Tx} (asc : W.Pairwise (· < ·)) (few : W.length ≤ 10 ^ 6) : pureZ m_are_ascending [.t (.tup (W.map T.str))] P S = .ok (.t (.bl true)) S := by
  refine pureZ_t (S' := []) ?_
  generalize P ++ S = P'
  have hl : (W.map T.str).length = W.length := List.length_map ..
  have e := lc_map (g := gN 1) (ft := mYes) (P := P') (S := []) (ρ := [some (.t (.tup (W.map T.str))), none]) (fe := mOp2 (lT2 ltT) (mOp2 subG (mVar 0) (mVar 1)) (mOp2 subG (mVar 0) (mOp2 (lT2 addT) (mVar 1) (mC (.int 1))))) (fun _ => D.t (.bl true)) (rngOf 0 ((W.length : Int) - 1)) (fun d hd => by
    obtain ⟨k, rfl, h1, h2⟩ := rngOf_mem hd
    obtain ⟨k, rfl⟩ : ∃ n : Nat, k = n := ⟨k.toNat, by omega⟩
    have k1 : k < W.length := by omega
    have k2 : k + 1 < W.length := by omega
    have s1 := sub_tup P' [] (l := W.map T.str) (k := k) (by rw [hl]; exact k1)
    have s2 := sub_tup P' [] (l := W.map T.str) (k := k + 1) (by rw [hl]; exact k2)
    have ek : (k : Int) + 1 = ((k + 1 : Nat) : Int) := by omega
    have hlt := List.pairwise_iff_getElem.mp asc k (k + 1) k1 k2 (by omega)
    refine ⟨_, rfl, rfl, ?_⟩
    rw [List.getElem_map] at s1 s2
    simp only [e_op2, e_var, e_c, gN, List.set, List.getElem?_cons_zero, List.getElem?_cons_succ, R.bind_ok, s1, lift_some, lT2_t, addT_int, Option.map]
    rw [ek, s2]
    simp only [R.bind_ok, lift_some, lT2_t, ltT_str, Option.map, decide_eq_true hlt])
  have et := trees_mapF (fun _ : D => T.bl true) (rngOf 0 ((W.length : Int) - 1))
  have eb := bls_mapf (fun _ : D => true) (rngOf 0 ((W.length : Int) - 1))
  simp [m_are_ascending, e_def, b_are_ascending, rng1_ok (j := (W.length : Int) - 1) ⟨by omega, by omega⟩, e, et, allT, eb]
end Lw

set_option maxHeartbeats 4000000
/-! Asc: ascending texts -/
namespace Lw
open Fm
theorem tt_bl (b : Bool) : isTrueD (.t (.bl b)) = some b := rfl
theorem sort_asc {W : List Tx} (h : W.Pairwise (· < ·)) : sortTx W = W := by
  unfold sortTx
  apply List.mergeSort_of_pairwise
  exact h.imp fun h => decide_eq_true (List.le_of_lt h)
theorem asc_nodup {W : List Tx} (h : W.Pairwise (· < ·)) : W.Nodup := h.imp fun h e => by rw [e] at h; exact absurd h (List.lt_irrefl _)
theorem set_asc {W L : List Tx} (h : W.Pairwise (· < ·)) (m : ∀ x, x ∈ L ↔ x ∈ W) : setTx L = W := by
  have := setTx_of (a := W) (l := L) (asc_nodup h) fun x => (m x).symm
  rw [← this, sort_asc h]
theorem set_asc' (l : List Tx) : (setTx l).Pairwise (· < ·) := by
  have h1 := sortTx_sorted (onceM l)
  have h2 : (sortTx (onceM l)).Nodup := (sortTx_perm _).nodup_iff.mpr (onceM_nodup _)
  exact (h1.and h2).imp fun ⟨a, b⟩ => Decidable.byContradiction fun c => b (List.le_antisymm a (List.not_lt.mp c))
/-- ascending, as a test of neighbours -/
def ascB (M : List Tx) : Bool := (List.range (M.length - 1)).all fun k => decide (M.getD k [] < M.getD (k + 1) [])
theorem ascB_iff (M : List Tx) : ascB M = true ↔ M.Pairwise (· < ·) := by
  unfold ascB
  rw [List.all_eq_true]
  constructor
  · intro h
    have st : ∀ d k, k + d + 1 < M.length → M.getD k [] < M.getD (k + d + 1) [] := by
      intro d
      induction d with
      | zero => intro k hk; exact of_decide_eq_true (h k (List.mem_range.mpr (by omega)))
      | succ d ih =>
        intro k hk
        have h1 := ih k (by omega)
        have h2 := of_decide_eq_true (h (k + d + 1) (List.mem_range.mpr (by omega)))
        exact List.lt_trans h1 h2
    rw [List.pairwise_iff_getElem]
    intro i j hi hj hij
    have := st (j - i - 1) i (by omega)
    rw [show i + (j - i - 1) + 1 = j by omega] at this
    simpa [List.getD_eq_getElem?_getD, hi, hj] using this
  · intro h k hk
    have hk := List.mem_range.mp hk
    have := List.pairwise_iff_getElem.mp h k (k + 1) (by omega) (by omega) (by omega)
    apply decide_eq_true
    simpa [List.getD_eq_getElem?_getD, show k < M.length by omega, show k + 1 < M.length by omega] using this
theorem asc_set (M : List Tx) : M = setTx M ↔ M.Pairwise (· < ·) :=
  ⟨fun h => by rw [h]; exact set_asc' M, fun h => (set_asc h fun x => Iff.rfl).symm⟩
theorem ascend_b (P S : List O) {W : List Tx} (few : W.length ≤ 10 ^ 6) : pureZ m_are_ascending [.t (.tup (W.map T.str))] P S = .ok (.t (.bl (decide (W.Pairwise (· < ·))))) S := by
  refine pureZ_t (S' := []) ?_
  generalize P ++ S = P'
  have hl : (W.map T.str).length = W.length := List.length_map ..
  have e := lc_map (g := gN 1) (ft := mYes) (P := P') (S := []) (ρ := [some (.t (.tup (W.map T.str))), none]) (fe := mOp2 (lT2 ltT) (mOp2 subG (mVar 0) (mVar 1)) (mOp2 subG (mVar 0) (mOp2 (lT2 addT) (mVar 1) (mC (.int 1)))))
    (fun d => match d with
      | .t (.int i) => D.t (.bl (decide (W.getD i.toNat [] < W.getD (i.toNat + 1) [])))
      | d => d) (rngOf 0 ((W.length : Int) - 1)) (fun d hd => by
    obtain ⟨k, rfl, h1, h2⟩ := rngOf_mem hd
    obtain ⟨k, rfl⟩ : ∃ n : Nat, k = n := ⟨k.toNat, by omega⟩
    have k1 : k < W.length := by omega
    have k2 : k + 1 < W.length := by omega
    have s1 := sub_tup P' [] (l := W.map T.str) (k := k) (by rw [hl]; exact k1)
    have s2 := sub_tup P' [] (l := W.map T.str) (k := k + 1) (by rw [hl]; exact k2)
    have ek : (k : Int) + 1 = ((k + 1 : Nat) : Int) := by omega
    refine ⟨_, rfl, rfl, ?_⟩
    rw [List.getElem_map] at s1 s2
    simp only [e_op2, e_var, e_c, gN, List.set, List.getElem?_cons_zero, List.getElem?_cons_succ, R.bind_ok, s1, lift_some, lT2_t, addT_int, Option.map]
    rw [ek, s2]
    have g1 : W.getD k [] = W[k] := by simp [List.getD_eq_getElem?_getD, k1]
    have g2 : W.getD (k + 1) [] = W[k + 1] := by simp [List.getD_eq_getElem?_getD, k2]
    simp only [R.bind_ok, lift_some, lT2_t, ltT_str, Option.map, Int.toNat_natCast, g1, g2])
  have el : (rngOf 0 ((W.length : Int) - 1)).map (fun d => match d with
      | .t (.int i) => D.t (.bl (decide (W.getD i.toNat [] < W.getD (i.toNat + 1) [])))
      | d => d) = (List.range (W.length - 1)).map fun k => D.t (.bl (decide (W.getD k [] < W.getD (k + 1) []))) := by
    rw [rng_nat, List.map_map, show ((W.length : Int) - 1).toNat = W.length - 1 by omega]
    rfl
  rw [el] at e
  have et := trees_mapF (fun k : Nat => T.bl (decide (W.getD k [] < W.getD (k + 1) []))) (List.range (W.length - 1))
  have eb := bls_mapf (fun k : Nat => decide (W.getD k [] < W.getD (k + 1) [])) (List.range (W.length - 1))
  have ea : ((List.range (W.length - 1)).map fun k => decide (W.getD k [] < W.getD (k + 1) [])).all id = decide (W.Pairwise (· < ·)) := by
    rw [List.all_map]
    show ascB W = _
    rw [Bool.eq_iff_iff, ascB_iff, decide_eq_true_iff]
  rw [m_are_ascending]
  refine def_rt ?_
  show b_are_ascending P' [some (.t (.tup (W.map T.str))), none] [] = _
  unfold b_are_ascending
  simp only [e_ret, e_callB, e_cons, e_nil, e_lc, e_I, e_op2, e_var, e_c, List.getElem?_cons_zero, Fm.R.bind_ok, len_tup, List.length_map, lift_some, lT2_t, subT_int, Option.map, rng1_ok (j := (W.length : Int) - 1) ⟨by omega, by omega⟩, e_wipe, e_wipe0, List.set, e, e_finT, et, lTL_one, allT, eb, ea, Fm.R.oc_ok]
end Lw

/-! Sm: the law's sameness of lists -/
namespace Lw
open Fm
theorem same_non (P S : List O) (k : Nat) : pureZ (m__law_same (k + 1)) [.t .non, .t .non] P S = .ok (.t (.bl true)) S :=
  pureZ_t (S' := []) (by simp [m__law_same, e_def, isiB, isNoneG, D.isNon])
theorem same_lst (P S : List O) (k : Nat) (l : List T) (hl : l.length ≤ 10 ^ 6) (hp : T.plains l = true) (h : ∀ x ∈ l, ∀ P S, pureZ (m__law_same (k + 1)) [.t x, .t x] P S = .ok (.t (.bl true)) S) :
    pureZ (m__law_same (k + 2)) [.t (.lst l), .t (.lst l)] P S = .ok (.t (.bl true)) S := by
  refine pureZ_t (S' := []) ?_
  generalize P ++ S = P'
  have e := lc_map (g := gN 2) (ft := mYes) (P := P') (S := []) (ρ := [some (.t (.lst l)), some (.t (.lst l)), none]) (fe := mCall (pureZ (m__law_same (k + 1))) (mCons (mOp2 subG (mVar 0) (mVar 2)) (mCons (mOp2 subG (mVar 1) (mVar 2)) mNil)))
    (fun _ => D.t (.bl true)) (rngOf 0 (l.length : Int)) (fun d hd => by
    obtain ⟨j, rfl, h1, h2⟩ := rngOf_mem hd
    obtain ⟨x, x1, x2, x3⟩ := sub_lst P' [] (l := l) h1 h2
    refine ⟨_, rfl, rfl, ?_⟩
    simp [x3, h x x1])
  have et := trees_mapF (fun _ : D => T.bl true) (rngOf 0 (l.length : Int))
  have eb := bls_mapf (fun _ : D => true) (rngOf 0 (l.length : Int))
  rw [show k + 2 = k + 1 + 1 from rfl, m__law_same]
  generalize m__law_same (k + 1) = g at e ⊢
  simp [e_def, isiB, hp, rng1_ok (j := (l.length : Int)) ⟨by omega, by omega⟩, e, et, allT, eb]
end Lw

/-! Pc: pieces -/
namespace Lw
open Fm
theorem steps_at (P S : List O) {s : Tx} {z : Nat} (hs : s.length ≤ 10 ^ 6) (hz : z ≤ 10 ^ 6) : pureZ m_steps_of [.t (.int z), .t (.str s)] P S = .ok (.t (.lst ((stepsTx z s).map T.str))) S := by
  refine pureZ_t (S' := []) ?_
  have e := lc_map (g := gN 2) (ft := mYes) (P := P ++ S) (S := []) (ρ := [some (.t (.int z)), some (.t (.str s)), none]) (fe := mSl (mVar 1) (some (mVar 2)) (some (mOp2 (lT2 addT) (mVar 2) (mVar 0))))
    (fun d => match d with
      | .t (.int i) => D.t (.str ((s.drop i.toNat).take z))
      | d => d) (rngOf 0 ((s.length : Int) - z + 1)) (fun d hd => by
    obtain ⟨k, rfl, h1, h2⟩ := rngOf_mem hd
    refine ⟨_, rfl, rfl, ?_⟩
    simp [cutL_mid s h1 (show 0 ≤ k + (z : Int) by omega)]
    congr 1
    omega)
  have et := trees_mapF T.str (stepsTx z s)
  have el : (rngOf 0 ((s.length : Int) - z + 1)).map (fun d => match d with
      | .t (.int i) => D.t (.str ((s.drop i.toNat).take z))
      | d => d) = (stepsTx z s).map fun x => D.t (.str x) := by
    rw [rng_nat, List.map_map, stepsTx, List.map_map]
    have : ((s.length : Int) - z + 1).toNat = s.length + 1 - z := by omega
    rw [this]
    rfl
  rw [el] at e
  simp [m_steps_of, e_def, b_steps_of, lenG, lenT, rng1_ok (j := (s.length : Int) - z + 1) ⟨by omega, by omega⟩, e, et]
/-- t is a piece -/
def Pc (z : Nat) (W : List Tx) (t : Tx) : Prop := z ≤ t.length ∧ ∀ x ∈ stepsTx z t, x ∈ W
theorem sub_book0 (P S : List O) (z : Nat) (x : T) : subG (.t (.tup [.int z, x])) (.t (.int 0)) P S = some (.t (.int z), S) := by
  have := sub_tup P S (l := [T.int z, x]) (k := 0) (by simp)
  simpa using this
theorem sub_book1 (P S : List O) (z : Nat) (x : T) : subG (.t (.tup [.int z, x])) (.t (.int 1)) P S = some (.t x, S) := by
  have := sub_tup P S (l := [T.int z, x]) (k := 1) (by simp)
  simpa using this
open Classical in
theorem piece_at (P S : List O) {z : Nat} {W : List Tx} {t : Tx} (w : Wins z W) (hz : 2 ≤ z ∧ z ≤ 6) (ht : Small t) (lt : t.length ≤ 10 ^ 5) : pureZ m_is_piece [.t (.tup [.int z, .tup (W.map T.str)]), .t (.str t)] P S = .ok (.t (.bl (decide (Pc z W t)))) S := by
  refine pureZ_t (S' := []) ?_
  generalize P ++ S = P'
  have hn := needbook P' [] w hz
  have key : pureZ m_is_a_piece [.t (.tup [.int z, .tup (W.map T.str)]), .t (.str t)] P' [] = .ok (.t (.bl (decide (Pc z W t)))) [] := by
    refine pureZ_t (S' := []) ?_
    rw [List.append_nil]
    have hw := isword P' [] ht
    by_cases c : t.length < z
    · have d : decide (Pc z W t) = false := decide_eq_false fun h => by have := h.1; omega
      have c' : (t.length : Int) < z := by omega
      rw [d]
      simp [m_is_a_piece, e_def, b_is_a_piece, hw, sub_book0, c']
    · have c' : ¬ (t.length : Int) < z := by omega
      obtain ⟨dd, b, e, kb, nb, mb, tb⟩ := dc_keys (ft := mYes) (fk := mVar 3) (fv := mC (.bl true)) (g := gN 3) (P := P') (ρ := [some (.t (.tup [.int z, .tup (W.map T.str)])), some (.t (.str t)), none, none, none]) (S := []) W [] [] rfl List.nodup_nil (fun x hx => ⟨_, .bl true, rfl, rfl, rfl, rfl⟩) (fun p hp => nomatch hp)
      obtain ⟨ts, t1, t2⟩ := treesK_of tb
      have t2 : ts.map (·.1) = b.map At.str := t2.trans kb
      have hs := steps_at P' [] (s := t) (z := z) (by omega) (by omega)
      have el := lc_map (g := gN 4) (ft := mYes) (P := P') (S := []) (ρ := [some (.t (.tup [.int z, .tup (W.map T.str)])), some (.t (.str t)), some (.t (.dic ts)), none, none]) (fe := mOp2 (inG false) (mVar 4) (mVar 2)) (fun d => match d with
        | .t (.str x) => D.t (.bl (decide (x ∈ b)))
        | d => d) (((stepsTx z t).map T.str).map D.t) (fun d hd => by
          obtain ⟨y, hy, rfl⟩ := List.mem_map.mp hd
          obtain ⟨x, hx, rfl⟩ := List.mem_map.mp hy
          refine ⟨_, rfl, rfl, ?_⟩
          simp only [e_op2, e_var, gN, List.set, List.getElem?_cons_zero, List.getElem?_cons_succ, R.bind_ok, in_dic t2, lift_some])
      have em : (((stepsTx z t).map T.str).map D.t).map (fun d => match d with
        | .t (.str x) => D.t (.bl (decide (x ∈ b)))
        | d => d) = (stepsTx z t).map fun x => D.t (.bl (decide (x ∈ b))) := by
        rw [List.map_map, List.map_map]; rfl
      rw [em] at el
      have et := trees_mapF (fun x : Tx => T.bl (decide (x ∈ b))) (stepsTx z t)
      have eb := bls_mapf (fun x : Tx => decide (x ∈ b)) (stepsTx z t)
      have ea : ((stepsTx z t).map fun x => decide (x ∈ b)).all id = decide (Pc z W t) := by
        by_cases q : Pc z W t
        · rw [decide_eq_true q, List.all_map, List.all_eq_true]
          intro x hx
          exact decide_eq_true ((mb x).mpr (.inr (q.2 x hx)))
        · rw [decide_eq_false q]
          apply Bool.eq_false_iff.mpr
          intro h
          rw [List.all_map, List.all_eq_true] at h
          refine q ⟨by omega, fun x hx => ?_⟩
          rcases (mb x).mp (of_decide_eq_true (h x hx)) with h | h
          · cases h
          · exact h
      have hW : (W.map fun x => D.t (.str x)) = (W.map T.str).map D.t := by rw [List.map_map]; rfl
      rw [hW] at e
      simp only [m_is_a_piece, e_def, b_is_a_piece, e_seq, e_sif, e_orT, e_notT, e_T, e_B, e_call, e_callB, e_cons, e_nil, e_var, e_c, e_op2, R.bind_ok, R.oc_ok, Oc.sq_nx, List.set, List.length, List.replicate, List.map_cons, List.map_nil, List.cons_append, List.nil_append, List.getElem?_cons_zero, List.getElem?_cons_succ, hw, nx_ok, isTrueD_bl, Bool.not_true, Bool.false_eq_true, if_false, len_str, lift_some, sub_book0, sub_book1, lT2_t, ltT_int, Option.map, c', decide_false, e_sNil, e_set, e_dc, e_it, itemsOf, e_wipe, e_wipe0, e, finD, t1, e_ret, e_lc, hs, el, e_finT, et, lTL_one, allT, eb, ea]
  simp [m_is_piece, e_def, b_is_piece, hn, key]
end Lw

/-! St: cells at the head and at the end of a store -/
namespace Lw
open Fm
abbrev St (x : Tx) : D := D.t (.str x)
theorem at_last (P R : List O) (o p : O) : (P ++ p :: (R ++ [o]))[P.length + (R.length + 1)]? = some o := by
  rw [List.getElem?_append_right (by omega), Nat.add_sub_cancel_left, List.getElem?_cons_succ, List.getElem?_append_right (Nat.le_refl _), Nat.sub_self]
  rfl
theorem at_last2 (P R : List O) (o p : O) : (p :: (R ++ [o]))[P.length + (R.length + 1) - P.length]? = some o := by
  rw [Nat.add_sub_cancel_left, List.getElem?_cons_succ, List.getElem?_append_right (Nat.le_refl _), Nat.sub_self]
  rfl
theorem set_last (P R : List O) (o p u : O) : (p :: (R ++ [o])).set (P.length + (R.length + 1) - P.length) u = p :: (R ++ [u]) := by
  rw [Nat.add_sub_cancel_left, List.set_cons_succ, List.set_append_right _ _ (Nat.le_refl _), Nat.sub_self]
  rfl
theorem app_last (P R : List O) (p : O) (l : List D) (x : D) (h : l.length < 16777216) : appendG (.ref (P.length + (R.length + 1))) [x] P (p :: (R ++ [.lst l])) = some (.t .non, p :: (R ++ [.lst (l ++ [x])])) := by
  unfold appendG cellL
  simp only
  rw [if_pos (by omega), at_last2]
  simp only
  rw [if_pos (show l.length < PySem.sizeLine by rw [szl]; exact h), set_last]
theorem kd_last (P R : List O) (p : O) (l : List D) : kdLst (.ref (P.length + (R.length + 1))) P (p :: (R ++ [.lst l])) = true := by
  unfold kdLst
  simp only [at_last]
theorem frz_last (P R : List O) (p : O) (l : List D) (ts : List T) (h : trees l = some ts) : frzD P (.ref (P.length + (R.length + 1))) (p :: (R ++ [.lst l])) = some (.t (.lst ts), p :: (R ++ [.dead])) := by
  unfold frzD
  simp only
  rw [if_pos (by omega), at_last2]
  simp only [h]
  rw [set_last]
  rfl
theorem frzdic_last (P R : List O) (p : O) (l : List (At × D)) (ts : List (At × T)) (h : treesK l = some ts) : frzD P (.ref (P.length + (R.length + 1))) (p :: (R ++ [.dic l])) = some (.t (.dic ts), p :: (R ++ [.dead])) := by
  unfold frzD
  simp only
  rw [if_pos (by omega), at_last2]
  simp only [h]
  rw [set_last]
  rfl
theorem put_last (P R : List O) (p : O) (l : List (At × D)) (k : Tx) (v : D) (h : l.length < 16777216) : setG (.ref (P.length + (R.length + 1))) (.t (.str k)) v P (p :: (R ++ [.dic l])) = some (p :: (R ++ [.dic (putD l (.str k) v)])) := by
  unfold setG
  simp only
  rw [if_pos (by omega), at_last2]
  simp only [T.at]
  rw [if_pos (show l.length < PySem.sizeLine by rw [szl]; exact h), set_last]
theorem put_head (P R : List O) (l : List (At × D)) (k : Tx) (v : D) (h : l.length < 16777216) : setG (.ref P.length) (.t (.str k)) v P (.dic l :: R) = some (.dic (putD l (.str k) v) :: R) := by
  unfold setG
  simp only
  rw [if_pos (Nat.le_refl _), Nat.sub_self, List.getElem?_cons_zero]
  simp only [T.at]
  rw [if_pos (show l.length < PySem.sizeLine by rw [szl]; exact h)]
  rfl
end Lw

/-! BkO: a drawn book -/
namespace Lw
open Fm
theorem book_ok (P : List O) {n : Nat} {R S : List O} {most : Nat} (h : Pt n R S) (hn : n < 10 ^ 11) (m1 : 1 ≤ most) (m2 : most ≤ 100) :
    ∃ z W S', m__law_book [.ref P.length, .t (.int most)] P S = .ok (.t (bookT z W)) S' ∧ Pt (n + 300000) R S' ∧ (2 ≤ z ∧ z ≤ 6) ∧ Wins z W ∧ W.length ≤ most := by
  obtain ⟨r1, S1, e1, a1, b1, p1⟩ := pick_pt P (top := 5) h (by omega) (by decide) (by decide)
  obtain ⟨l, S2, e2, p2, hl, l0, ll⟩ := letters_ok P p1 (by omega)
  obtain ⟨r3, S3, e3, a3, b3, p3⟩ := pick_pt P (top := 7) p2 (by omega) (by decide) (by decide)
  obtain ⟨s, S4, e4, p4, ls, s0, hs⟩ := ring_ok P (l := l) (z := most) p3 (by omega) l0 (by omega) (by omega) (by omega)
  have hsm : Small s := fun c hc => hl c (hs c hc)
  obtain ⟨z, rfl⟩ : ∃ z : Nat, r1 = (z : Int) - 2 := ⟨(r1 + 2).toNat, by omega⟩
  have hz : 2 ≤ z ∧ z ≤ 6 := by omega
  have e5 := lawround_at P S4 (s := s) (z := z) (by omega) s0 hz
  have w0 : WL z (roundTx z s) := ⟨fun x hx => by
    obtain ⟨i, _, rfl⟩ := round_mem hx
    simp [readTx], fun x hx => by
    obtain ⟨i, _, rfl⟩ := round_mem hx
    exact small_read s0 hsm i z, fun e => by
    have := round_len z s
    rw [e] at this
    exact s0 (List.eq_nil_of_length_eq_zero this.symm), by rw [round_len]; omega⟩
  obtain ⟨L1, S5, o6, o7, f1, p5, w1, n1⟩ := bkA_ok P (d1 := some (.t (.int most))) (d2 := some (.t (.int z))) (d3 := some (.t (.str l))) (kind := r3) (o8 := none) (o9 := none) (o10 := none) (o11 := none) (o12 := none) p4 (by omega) w0 (by rw [round_len]; omega)
  obtain ⟨L2, S6, o8, o9, f2, p6, w2, n2⟩ := bkB_ok P (kind := r3) (d2 := some (.t (.int z))) (o6 := o6) (o7 := o7) (o10 := none) (o11 := none) (o12 := none) p5 (by omega) w1 n1 hz hl l0 ll m1 m2
  obtain ⟨L3, S7, o10, o11, f3, p7, w3, n3⟩ := bkC_ok P (kind := r3) (o6 := o6) (o7 := o7) (o8 := o8) (o9 := o9) (o12 := none) p6 (by omega) w2 n2 hz hl l0 ll m1 m2
  obtain ⟨L4, S8, o12, f4, p8, w4, n4⟩ := bkD_ok P (kind := r3) (o6 := o6) (o7 := o7) (o8 := o8) (o9 := o9) (o10 := o10) (o11 := o11) p7 (by omega) w3 n3 hz hl l0 ll m1 m2
  have hss : setSrc P S8 (.t (.lst (L4.map T.str))) = some L4 := strsOf_mapf id L4 |>.trans (by simp)
  have ho := once_len L4
  have hc : cutL ((sortTx (onceM L4)).map T.str) none (some (most : Int)) = ((setTx L4).take most).map T.str := by
    rw [cutL_to _ (by omega), List.map_take]; rfl
  refine ⟨z, (setTx L4).take most, S8, ?_, p8.mono (by omega), hz, wl_wins w4 m1, by rw [List.length_take]; omega⟩
  rw [m__law_book, e_def]
  show (match b__law_book P [some (.ref P.length), some (.t (.int most)), none, none, none, none, none, none, none, none, none, none, none] S with | .rt d S' => Fm.R.ok d S' | .nx _ S' => .ok (.t .non) S' | .ex x _ S' => .ex x S' | _ => .no) = _
  unfold b__law_book
  have e6 : addT (.int 2) (.int ((z : Int) - 2)) = some (.int z) := by rw [addT_int]; congr 2; omega
  have tup : tupOfT [.lst (((setTx L4).take most).map T.str)] = some (.tup (((setTx L4).take most).map T.str)) := rfl
  have hsb : PySem.scanBound = 4096 := rfl
  have sb : (onceM L4).length + 1 < PySem.scanBound := by omega
  simp only [e_seq, e_asg, e_tup, e_cons, e_op2, e_c, e_call, e_var, e_nil, List.getElem?_cons_zero, List.getElem?_cons_succ, Fm.R.bind_ok, e1, nx_ok, lT2_t, e6, Option.map, lift_some, e2, e3, trees_cons, trees_nil, List.length_cons, List.length_nil, szl, Nat.zero_add, Nat.reduceAdd, Nat.reduceLeDiff, if_true, Fm.R.oc_ok, gT, gsCons, gsNil, Option.bind, gN, List.set, Fm.Oc.sq_nx, e_set, e4, e5]
  unfold bkA at f1
  rw [f1]
  simp only [Fm.Oc.sq_nx]
  unfold bkB at f2
  rw [f2]
  simp only [Fm.Oc.sq_nx]
  unfold bkC at f3
  rw [f3]
  simp only [Fm.Oc.sq_nx]
  unfold bkD at f4
  rw [f4]
  simp only [Fm.Oc.sq_nx, e_ret, e_tup, e_cons, e_var, e_callB, e_nil, e_sl, e_partN, e_partS, e_sortSet, List.getElem?_cons_zero, List.getElem?_cons_succ, Fm.R.bind_ok, hss, sb, if_true, e_mkT, hc, lTL_one, tup, Option.map, lift_some, trees_cons, trees_nil, List.length_cons, List.length_nil, szl, Nat.zero_add, Nat.reduceAdd, Nat.reduceLeDiff, Fm.R.oc_ok]
  rfl
end Lw

set_option maxHeartbeats 4000000
/-! So: the source of the books family -/
namespace Lw
open Fm
theorem source_ok (P S : List O) (l : List Int) (k : Nat) (hk : k < 64) : ∃ a b, newF m__law_source [.t (.scr l), .t (.int k)] P S = .ok (.ref (P.length + S.length)) (S ++ [pot a b 0]) := by
  have key : ∃ a b S', m__law_source [.t (.scr l), .t (.int k)] (P ++ S) [] = .ok (.ref (P ++ S).length) [pot a b 0] ∧ S' = S := by
    obtain ⟨cell, hcell⟩ : ∃ cell : Int, mIf (mB (mOp2 (lT2 ltT) (mVar 1) (mCallB lenG (mCons (mVar 0) mNil)))) (mOp2 subG (mVar 0) (mVar 1)) (mOp2 (lT2 addT) (mOp2 (lT2 mulT) (mC (.int 41)) (mVar 1)) (mC (.int 17))) (P ++ S) [some (.t (.scr l)), some (.t (.int k)), none, none, none] [] = .ok (.t (.int cell)) [] := by
      by_cases c : (k : Int) < l.length
      · have hk' : k < l.length := by omega
        refine ⟨l[k], ?_⟩
        simp [c, subG, seqIx, L2.atI, L2.ixN, hk']
      · refine ⟨41 * k + 17, ?_⟩
        have hm : mulT (.int 41) (.int k) = some (.int (41 * k)) := mulT_int (mulOk_l (by decide))
        simp [c, hm]
    obtain ⟨ρ', S', e, total, o, rfl, rfl⟩ := for_inv (g := gN 4) (P := P ++ S) (fb := sSet 3 (mOp2 (lT2 modT) (mCallB (lTL intT) (mCons (mOp2 (lT2 addT) (mOp2 (lT2 mulT) (mVar 3) (mC (.int 7919))) (mOp2 (lT2 modT) (mCallB (lTL intT) (mCons (mVar 4) mNil)) (mOp2 (lT2 addT) (mOp2 (lT2 powT) (mC (.int 10)) (mC (.int 20))) (mC (.int 39))))) mNil)) (mOp2 (lT2 addT) (mOp2 (lT2 powT) (mC (.int 10)) (mC (.int 26))) (mC (.int 67)))))
      (fun _ ρ S' => ∃ (total : Int) (o : Option D), ρ = [some (.t (.scr l)), some (.t (.int k)), some (.t (.int cell)), some (.t (.int total)), o] ∧ S' = [])
      (l.map fun i => D.t (.int i)) 0 [some (.t (.scr l)), some (.t (.int k)), some (.t (.int cell)), some (.t (.int l.length)), none] [] (fun n d ρ S' hd hj => by
        obtain ⟨total, o, rfl, rfl⟩ := hj
        obtain ⟨x, hx, rfl⟩ := List.mem_map.mp (List.mem_of_getElem? hd)
        have hm : mulT (.int total) (.int 7919) = some (.int (total * 7919)) := mulT_int (mulOk_r (by decide))
        refine ⟨_, rfl, [some (.t (.scr l)), some (.t (.int k)), some (.t (.int cell)), some (.t (.int ((total * 7919 + x % (10 ^ 20 + 39)) % (10 ^ 26 + 67)))), some (.t (.int x))], [], .inl ?_, _, _, rfl, rfl⟩
        simp only [e_set, e_op2, e_callB, e_cons, e_nil, e_var, e_c, R.bind_ok, R.oc_ok, lift_some, List.set, List.getElem?_cons_zero, List.getElem?_cons_succ, lT2_t, lTL_one, addT_int, intT_int, Option.map, hm, p20, p26, modT_int (i := x) (j := 10 ^ 20 + 39) (by decide), modT_int (i := total * 7919 + x % (10 ^ 20 + 39)) (j := 10 ^ 26 + 67) (by decide)]) ⟨_, none, rfl, rfl⟩
    have h1 : mulT (.int (if cell < 0 then -cell else cell)) (.int 8191) = some (.int ((if cell < 0 then -cell else cell) * 8191)) := mulT_int (mulOk_r (by decide))
    have h2 : mulT (.int 13) (.int total) = some (.int (13 * total)) := mulT_int (mulOk_l (by decide))
    have h3 : mulT (.int 5) (.int k) = some (.int (5 * k)) := mulT_int (mulOk_l (by decide))
    have hmod : ∀ i : Int, modT (.int i) (.int (10 ^ 29 + 319)) = some (.int (i % (10 ^ 29 + 319))) := fun i => modT_int (by decide)
    suffices hh : ∃ a b, b__law_source (P ++ S) [some (.t (.scr l)), some (.t (.int k)), none, none, none] [] = .rt (.ref (P ++ S).length) [pot a b 0] by
      obtain ⟨a, b, hh⟩ := hh
      refine ⟨a, b, S, ?_, rfl⟩
      rw [m__law_source, e_def]
      show (match b__law_source (P ++ S) [some (.t (.scr l)), some (.t (.int k)), none, none, none] [] with
        | .rt d S' => R.ok d S'
        | .nx _ S' => .ok (.t .non) S'
        | .ex x _ S' => .ex x S'
        | _ => .no) = _
      rw [hh]
    unfold b__law_source
    rw [e_seq, e_set, hcell]
    simp only [R.oc_ok, Oc.sq_nx, List.set, e_seq, e_set, e_callB, e_cons, e_nil, e_var, List.getElem?_cons_zero, List.getElem?_cons_succ, R.bind_ok, len_scr, lift_some, e_for, e_it, itemsOf, e, e_ret, e_lstC, e_op2, e_c, lT2_t, lTL_two, lTL_one, subT_int, addT_int, max2T_int, absT_int, intT_int, ltT_int, intT_bl, Option.map, p18, p29, h1, h2, h3, hmod]
    have h16 : ∀ d1 d2 d3 : D, [d1, d2, d3].length ≤ PySem.sizeLine := fun _ _ _ => (by decide : 3 ≤ PySem.sizeLine)
    rw [if_pos (h16 _ _ _)]
    exact ⟨_, _, rfl⟩
  obtain ⟨a, b, _, e, _⟩ := key
  exact ⟨a, b, newF_l (l := [.t (.int a), .t (.int b), .t (.int 0)]) e (Nat.le_refl _) (by simp [pot]) rfl⟩
end Lw

set_option maxHeartbeats 4000000
/-! P01a: words and books, judged at any object -/
namespace Lw
open Fm
def K0 (x : T) : Prop := x.kind.isSome = true
def K1 (b : Nat) (x : T) : Prop := K0 x ∧ ∀ l, x = .tup l → (∀ y ∈ l, K0 y) ∧ l.length ≤ b
def K2 (b : Nat) (x : T) : Prop := K0 x ∧ ∀ l, x = .tup l → (∀ y ∈ l, K1 b y) ∧ l.length ≤ b
theorem k1_of {b : Nat} {x : T} (h : K0 x) (n : ∀ l, x ≠ .tup l) : K1 b x := ⟨h, fun l e => absurd e (n l)⟩
theorem k2_of {b : Nat} {x : T} (h : K0 x) (n : ∀ l, x ≠ .tup l) : K2 b x := ⟨h, fun l e => absurd e (n l)⟩
theorem k1_tup {b : Nat} {l : List T} (h : ∀ y ∈ l, K0 y) (hl : l.length ≤ b) : K1 b (.tup l) := ⟨rfl, fun m e => by cases e; exact ⟨h, hl⟩⟩
theorem k2_tup {b : Nat} {l : List T} (h : ∀ y ∈ l, K1 b y) (hl : l.length ≤ b) : K2 b (.tup l) := ⟨rfl, fun m e => by cases e; exact ⟨h, hl⟩⟩
theorem k0_strs (l : List Tx) : ∀ y ∈ l.map T.str, K0 y := fun y hy => by
  obtain ⟨s, _, rfl⟩ := List.mem_map.mp hy
  rfl
def isStr : T → Bool
  | .str _ => true
  | _ => false
def isTup : T → Bool
  | .tup _ => true
  | _ => false
theorem isx_str (P S : List O) {x : T} (h : K0 x) : isiX [.t x, .t (.ty "str")] P S = some (.t (.bl (isStr x)), S) := by
  cases x <;> first | rfl | exact (Bool.false_ne_true h).elim
theorem isx_tup (P S : List O) {x : T} (h : K0 x) : isiX [.t x, .t (.ty "tuple")] P S = some (.t (.bl (isTup x)), S) := by
  cases x <;> first | rfl | exact (Bool.false_ne_true h).elim
def isNum : T → Bool
  | .int _ => true
  | .bl _ => true
  | _ => false
def isBool : T → Bool
  | .bl _ => true
  | _ => false
theorem isx_int (P S : List O) {x : T} (h : K0 x) : isiX [.t x, .t (.ty "int")] P S = some (.t (.bl (isNum x)), S) := by
  cases x <;> first | rfl | exact (Bool.false_ne_true h).elim
theorem isx_bool (P S : List O) {x : T} (h : K0 x) : isiX [.t x, .t (.ty "bool")] P S = some (.t (.bl (isBool x)), S) := by
  cases x <;> first | rfl | exact (Bool.false_ne_true h).elim
instance (s : Tx) : Decidable (Small s) := inferInstanceAs (Decidable (∀ c ∈ s, 97 ≤ c ∧ c ≤ 122))
theorem sub_abc (c : Nat) : isSub [c] (cs "abcdefghijklmnopqrstuvwxyz") = decide (97 ≤ c ∧ c ≤ 122) := by
  rw [isSub_one]
  refine decide_eq_decide.mpr ⟨fun h => ?_, small_letters⟩
  have e : cs "abcdefghijklmnopqrstuvwxyz" = (List.range 26).map (97 + ·) := by decide
  rw [e] at h
  obtain ⟨i, hi, rfl⟩ := List.mem_map.mp h
  have := List.mem_range.mp hi
  omega
theorem in_abc (neg : Bool) (c : Nat) (P S : List O) : inG neg (.t (.str [c])) (.t (.str (cs "abcdefghijklmnopqrstuvwxyz"))) P S = some (.t (.bl (neg ^^ decide (97 ≤ c ∧ c ≤ 122))), S) := by
  show some (((.t (.bl (neg ^^ isSub [c] (cs "abcdefghijklmnopqrstuvwxyz")))) : D), S) = _
  rw [sub_abc]
def wordB : T → Bool
  | .str s => decide (Small s)
  | _ => false
theorem isword_v (P S : List O) {v : T} (h : K0 v) : pureZ m_is_word [.t v] P S = .ok (.t (.bl (wordB v))) S := by
  refine pureZ_t (S' := []) ?_
  generalize P ++ S = P'
  have i1 := isx_str P' [] h
  rw [m_is_word]
  refine def_rt ?_
  show b_is_word P' [some (.t v), none] [] = _
  unfold b_is_word
  by_cases c : isStr v = true
  · cases v <;> first | exact (Bool.false_ne_true c).elim | skip
    rename_i s
    have e := lc_all (g := gN 1) (P := P') (S := []) (ρ := [some (.t (.str s)), none]) (fe := mOp2 (inG false) (mVar 1) (mC (.str (cs "abcdefghijklmnopqrstuvwxyz")))) (fun c => D.t (.str [c])) (fun c => T.bl (decide (97 ≤ c ∧ c ≤ 122))) s (fun c _ => ⟨_, rfl, x_op2 rfl rfl (by rw [in_abc, Bool.false_xor])⟩)
    have b := bls_mapf (fun c : Nat => decide (97 ≤ c ∧ c ≤ 122)) s
    have a : ((s.map fun c => decide (97 ≤ c ∧ c ≤ 122)).all id) = decide (Small s) := by
      rw [List.all_map, Bool.eq_iff_iff, List.all_eq_true, decide_eq_true_iff]
      exact ⟨fun h c hc => of_decide_eq_true (h c hc), fun h c hc => decide_eq_true (h c hc)⟩
    exact ret_ok (x_and1 (x_B (x_cons rfl (x_cons rfl rfl)) i1) (x_B1 (x_lc (ts := s.map fun c => T.bl (decide (97 ≤ c ∧ c ≤ 122))) (x_It rfl rfl) (e.trans (by rw [List.map_map]; rfl))) (by
      show Option.map _ (bls _) = _
      rw [b]
      show some (T.bl _) = _
      rw [a]; rfl)))
  · have c' : isStr v = false := Bool.eq_false_iff.mpr c
    rw [c'] at i1
    have e : wordB v = false := by cases v <;> first | rfl | exact absurd rfl c
    rw [e]
    exact ret_ok (x_and0 (x_B (x_cons rfl (x_cons rfl rfl)) i1))
def lwordB (k : Nat) : T → Bool
  | .str s => decide (k ≤ s.length ∧ Small s)
  | _ => false
def sizeB : T → Bool
  | .int z => decide (2 ≤ z ∧ z ≤ 6)
  | _ => false
theorem islawword_v (P S : List O) {v : T} {k : Nat} (h : K0 v) : pureZ m__law_is_word [.t v, .t (.int k)] P S = .ok (.t (.bl (lwordB k v))) S := by
  refine pureZ_t (S' := []) ?_
  generalize P ++ S = P'
  have i1 := isx_str P' [] h
  rw [m__law_is_word]
  refine def_rt ?_
  show b__law_is_word P' [some (.t v), some (.t (.int k)), none] [] = _
  unfold b__law_is_word
  by_cases c : isStr v = true
  · cases v <;> first | exact (Bool.false_ne_true c).elim | skip
    rename_i s
    have e := lc_filter (g := gN 2) (P := P') (S := []) (ρ := [some (.t (.str s)), some (.t (.int k)), none]) (ft := mB (mOp2 (inG true) (mVar 2) (mC (.str (cs "abcdefghijklmnopqrstuvwxyz"))))) (fe := mVar 2) (fun c => D.t (.str [c])) (fun c => !decide (97 ≤ c ∧ c ≤ 122)) (fun c => D.t (.str [c])) s (fun c _ => ⟨_, rfl, x_Bt (x_op2 rfl rfl (by rw [in_abc, Bool.true_xor])), fun _ => rfl⟩)
    have q := eq_lsts ((s.filter fun c => !decide (97 ≤ c ∧ c ≤ 122)).map fun c => [c]) []
    rw [List.map_nil] at q
    have hd : decide (((s.filter fun c => !decide (97 ≤ c ∧ c ≤ 122)).map fun c => [c]) = []) = decide (Small s) := decide_eq_decide.mpr (by
      rw [List.map_eq_nil_iff, List.filter_eq_nil_iff]
      exact ⟨fun h c hc => by simpa using h c hc, fun h c hc => by simpa using h c hc⟩)
    rw [hd] at q
    by_cases cl : k ≤ s.length
    · have hl : ltT (.int s.length) (.int k) = some (.bl false) := by rw [ltT_int, decide_eq_false (by omega)]
      have he : lwordB k (.str s) = decide (Small s) := decide_eq_decide.mpr ⟨fun h => h.2, fun h => ⟨cl, h⟩⟩
      rw [he]
      refine seq_nx' (if_nx (b := false) (x_orT0 (x_notT (b := true) (x_Tt (x_B (x_cons rfl (x_cons rfl rfl)) i1))) (x_Bt (x_T2 (x_B (x_cons rfl rfl) (len_str _ _ _)) rfl hl))) rfl) ?_
      exact ret_ok (x_T2 (x_lc (ts := ((s.filter fun c => !decide (97 ≤ c ∧ c ≤ 122)).map fun c => [c]).map T.str) (x_It rfl rfl) (e.trans (by rw [List.map_map, List.map_map]; rfl))) (x_lst (ts := []) rfl (by simp)) q)
    · have hl : ltT (.int s.length) (.int k) = some (.bl true) := by rw [ltT_int, decide_eq_true (by omega)]
      have he : lwordB k (.str s) = false := decide_eq_false fun h => cl h.1
      rw [he]
      exact seq_rt (if_nx (b := true) (x_orT0 (x_notT (b := true) (x_Tt (x_B (x_cons rfl (x_cons rfl rfl)) i1))) (x_Bt (x_T2 (x_B (x_cons rfl rfl) (len_str _ _ _)) rfl hl))) (ret_ok rfl))
  · have c' : isStr v = false := Bool.eq_false_iff.mpr c
    rw [c'] at i1
    have e : lwordB k v = false := by cases v <;> first | rfl | exact absurd rfl c
    rw [e]
    exact seq_rt (if_nx (b := true) (x_orT1 (x_notT (b := false) (x_Tt (x_B (x_cons rfl (x_cons rfl rfl)) i1)))) (ret_ok rfl))
def winB (z : Int) : T → Bool
  | .str s => decide (Small s) && decide ((s.length : Int) = z)
  | _ => false
/-- the windows of a book of this size -/
def WinsB (z : Int) (M : List Tx) : Prop := (∀ x ∈ M, Small x ∧ (x.length : Int) = z) ∧ M.Pairwise (· < ·)
instance (z : Int) (M : List Tx) : Decidable (WinsB z M) := inferInstanceAs (Decidable (_ ∧ _))
def winsB (z : Int) : T → Bool
  | .tup l => match strsOf l with
    | some M => decide (WinsB z M)
    | none => false
  | _ => false
theorem all_win {z : Int} : ∀ {l : List T}, l.all (winB z) = true → ∃ M : List Tx, l = M.map T.str ∧ ∀ x ∈ M, Small x ∧ (x.length : Int) = z
  | [], _ => ⟨[], rfl, fun _ h => nomatch h⟩
  | x :: l, h => by
    rw [List.all_cons, Bool.and_eq_true] at h
    obtain ⟨M, e1, e2⟩ := all_win h.2
    cases x <;> first | exact (Bool.false_ne_true h.1).elim | skip
    rename_i s
    have h1 := h.1
    unfold winB at h1
    rw [Bool.and_eq_true, decide_eq_true_iff, decide_eq_true_iff] at h1
    exact ⟨s :: M, by rw [e1]; rfl, fun y hy => (List.mem_cons.mp hy).elim (fun q => by rw [q]; exact h1) (e2 y)⟩
theorem win_all {z : Int} {M : List Tx} : (M.map T.str).all (winB z) = true ↔ ∀ x ∈ M, Small x ∧ (x.length : Int) = z := by
  rw [List.all_map, List.all_eq_true]
  constructor
  · intro h x hx
    have := h x hx
    simpa [winB] using this
  · intro h x hx
    have := h x hx
    simp [winB, this]
theorem winsB_no {z : Int} {l : List T} (h : ¬ (l.all (winB z) = true)) : winsB z (.tup l) = false := by
  unfold winsB
  cases q : strsOf l with
  | none => simp only [q]
  | some M =>
    have := strsOf_eq q
    subst this
    simp only [q]
    exact decide_eq_false fun hh => h (win_all.mpr hh.1)
theorem winsB_str {z : Int} {M : List Tx} : winsB z (.tup (M.map T.str)) = decide (WinsB z M) := by
  unfold winsB
  simp only [strsOf_map]
/-- all([word(x) and len(x) == z for x in l]) -/
theorem arewin_v (P S : List O) {z : Int} {v : T} {b : Nat} (hb : b ≤ 4000) (h : K1 b v) : pureZ m_are_windows [.t (.int z), .t v] P S = .ok (.t (.bl (winsB z v))) S := by
  refine pureZ_t (S' := []) ?_
  generalize P ++ S = P'
  have i1 := isx_tup P' [] h.1
  rw [m_are_windows]
  refine def_rt ?_
  show b_are_windows P' [some (.t (.int z)), some (.t v), none] [] = _
  unfold b_are_windows
  by_cases c : isTup v = true
  · cases v <;> first | exact (Bool.false_ne_true c).elim | skip
    rename_i l
    obtain ⟨hk, hlen⟩ := h.2 l rfl
    have e := lc_all (g := gN 2) (P := P') (S := []) (ρ := [some (.t (.int z)), some (.t (.tup l)), none]) (fe := mAnd (mCall (pureZ m_is_word) (mCons (mVar 2) mNil)) (mOp2 (lT2 eqT) (mCallB lenG (mCons (mVar 2) mNil)) (mVar 0))) D.t (fun x => T.bl (winB z x)) l (fun x hx => by
      have w := isword_v P' [] (hk x hx)
      refine ⟨_, rfl, ?_⟩
      by_cases cw : wordB x = true
      · cases x <;> first | exact (Bool.false_ne_true cw).elim | skip
        rename_i s
        rw [cw] at w
        have hw : winB z (.str s) = decide ((s.length : Int) = z) := by
          show (decide (Small s) && decide ((s.length : Int) = z)) = _
          rw [show decide (Small s) = true from cw, Bool.true_and]
        rw [hw]
        exact x_and1 (x_call (ds := [.t (.str s)]) (x_cons rfl rfl) w) (x_T2 (x_B (x_cons rfl rfl) (len_str _ _ _)) rfl (by rw [eqT_int]))
      · have cw' : wordB x = false := Bool.eq_false_iff.mpr cw
        rw [cw'] at w
        have hw : winB z x = false := by
          cases x <;> first | rfl | skip
          rename_i s
          show (decide (Small s) && decide ((s.length : Int) = z)) = _
          rw [show decide (Small s) = false from cw', Bool.false_and]
        rw [hw]
        exact x_and0 (x_call (ds := [.t x]) (x_cons rfl rfl) w))
    have b := bls_mapf (winB z) l
    have a : allT [.lst (l.map fun x => T.bl (winB z x))] = some (.bl (l.all (winB z))) := by
      show Option.map _ (bls _) = _
      rw [b]
      show some (T.bl _) = _
      rw [List.all_map]; rfl
    have e2 : mCallB (lTL allT) (mCons (mLcG finT (mIt (mVar 1)) (gN 2) [2] mYes (mAnd (mCall (pureZ m_is_word) (mCons (mVar 2) mNil)) (mOp2 (lT2 eqT) (mCallB lenG (mCons (mVar 2) mNil)) (mVar 0)))) mNil) P' [some (.t (.int z)), some (.t (.tup l)), none] [] = .ok (.t (.bl (l.all (winB z)))) [] :=
      x_B1 (x_lc (ts := l.map fun x => T.bl (winB z x)) (x_It rfl rfl) (e.trans (by rw [List.map_map]; rfl))) a
    by_cases ca : l.all (winB z) = true
    · obtain ⟨M, rfl, hM⟩ := all_win ca
      rw [ca] at e2
      rw [List.length_map] at hlen
      have asc := ascend_b P' [] (W := M) (by omega)
      have hd : decide (M.Pairwise (· < ·)) = decide (WinsB z M) := decide_eq_decide.mpr ⟨fun h => ⟨hM, h⟩, fun h => h.2⟩
      rw [winsB_str, ← hd]
      refine seq_nx' (if_nx (b := false) (x_orT0 (x_notT (b := true) (x_Tt (x_B (x_cons rfl (x_cons rfl rfl)) i1))) (x_notT (b := true) (x_Tt e2))) rfl) ?_
      exact ret_ok (x_call (ds := [.t (.tup (M.map T.str))]) (x_cons rfl rfl) asc)
    · rw [winsB_no ca]
      have ca' : l.all (winB z) = false := Bool.eq_false_iff.mpr ca
      rw [ca'] at e2
      exact seq_rt (if_nx (b := true) (x_orT0 (x_notT (b := true) (x_Tt (x_B (x_cons rfl (x_cons rfl rfl)) i1))) (x_notT (b := false) (x_Tt e2))) (ret_ok rfl))
  · have c' : isTup v = false := Bool.eq_false_iff.mpr c
    rw [c'] at i1
    have e : winsB z v = false := by cases v <;> first | rfl | exact absurd rfl c
    rw [e]
    exact seq_rt (if_nx (b := true) (x_orT1 (x_notT (b := false) (x_Tt (x_B (x_cons rfl (x_cons rfl rfl)) i1)))) (ret_ok rfl))
/-- whether an object is a book -/
def bookB : T → Bool
  | .tup [.int z, .tup l] => decide (2 ≤ z ∧ z ≤ 6) && !decide (l.length = 0) && winsB z (.tup l)
  | _ => false
theorem issize_v (P S : List O) {v : T} (h : K0 v) : pureZ m_is_size [.t v] P S = .ok (.t (.bl (sizeB v))) S := by
  refine pureZ_t (S' := []) ?_
  generalize P ++ S = P'
  have i1 := isx_int P' [] h
  have i2 := isx_bool P' [] h
  have hint : pureZ m_is_integer [.t v] P' [] = .ok (.t (.bl (isNum v && !isBool v))) [] := by
    refine pureZ_t (S' := []) ?_
    have i1 := isx_int (P' ++ []) [] h
    have i2 := isx_bool (P' ++ []) [] h
    rw [m_is_integer]
    refine def_rt ?_
    show b_is_integer (P' ++ []) [some (.t v)] [] = _
    unfold b_is_integer
    cases hn : isNum v with
    | true =>
      rw [hn] at i1
      exact ret_ok (x_and1 (x_B (x_cons rfl (x_cons rfl rfl)) i1) (x_not (x_B (x_cons rfl (x_cons rfl rfl)) i2)))
    | false =>
      rw [hn] at i1
      exact ret_ok (x_and0 (x_B (x_cons rfl (x_cons rfl rfl)) i1))
  rw [m_is_size]
  refine def_rt ?_
  show b_is_size P' [some (.t v)] [] = _
  unfold b_is_size
  cases v <;> first
    | exact (Bool.false_ne_true h).elim
    | exact ret_ok (x_and0 (x_call (ds := [_]) (x_cons rfl rfl) hint))
    | skip
  rename_i z
  refine ret_ok (x_and1 (x_call (ds := [.t (.int z)]) (x_cons rfl rfl) hint) ?_)
  simp only [e_chain, e_c, e_var, List.getElem?_cons_zero, Fm.R.bind_ok, lT2_t, leT_int, Option.map, lift_some, tt_bl]
  by_cases c1 : (2 : Int) ≤ z
  · have hd : sizeB (.int z) = decide (z ≤ 6) := decide_eq_decide.mpr ⟨fun h => h.2, fun h => ⟨c1, h⟩⟩
    rw [hd]
    simp only [c1, decide_true]
  · have hd : sizeB (.int z) = false := decide_eq_false fun h => c1 h.1
    rw [hd]
    simp only [c1, decide_false]
theorem neT_len (n : Nat) : neT (.int (n : Int)) (.int 2) = some (.bl (!decide (n = 2))) := by
  rw [neT_int]
  congr 3
  exact decide_eq_decide.mpr (by omega)
theorem isabook_v (P S : List O) {v : T} {b : Nat} (hb : b ≤ 4000) (h : K2 b v) : pureZ m_is_a_book [.t v] P S = .ok (.t (.bl (bookB v))) S := by
  refine pureZ_t (S' := []) ?_
  generalize P ++ S = P'
  have i1 := isx_tup P' [] h.1
  rw [m_is_a_book]
  refine def_rt ?_
  show b_is_a_book P' [some (.t v)] [] = _
  unfold b_is_a_book
  by_cases c : isTup v = true
  · cases v <;> first | exact (Bool.false_ne_true c).elim | skip
    rename_i l
    obtain ⟨hk, _⟩ := h.2 l rfl
    have nl := neT_len l.length
    by_cases c2 : l.length = 2
    · match l, c2, hk, nl, i1 with
      | [x, y], _, hk, nl, i1 =>
        have hx := hk x (by simp)
        have hy := hk y (by simp)
        have s1 := issize_v P' [] hx.1
        by_cases cz : sizeB x = true
        · rw [cz] at s1
          obtain ⟨z, rfl⟩ : ∃ z, x = .int z := by cases x <;> first | exact ⟨_, rfl⟩ | exact (Bool.false_ne_true cz).elim
          have w := arewin_v P' [] (z := z) hb hy
          refine seq_nx' (if_nx (b := false) (x_orT0 (x_notT (b := true) (x_Tt (x_B (x_cons rfl (x_cons rfl rfl)) i1))) (x_orT0 (x_Bt (x_T2 (x_B (x_cons rfl rfl) (len_tup _ _ _)) rfl nl)) (x_notT (b := true) (x_Tt (x_call (ds := [.t (.int z)]) (x_cons (x_op2 rfl rfl rfl) rfl) s1))))) rfl) ?_
          by_cases cw : winsB z y = true
          · rw [cw] at w
            obtain ⟨m, rfl⟩ : ∃ m, y = .tup m := by cases y <;> first | exact ⟨_, rfl⟩ | exact (Bool.false_ne_true cw).elim
            have e : bookB (.tup [.int z, .tup m]) = decide ((0 : Int) < m.length) := by
              show (decide (2 ≤ z ∧ z ≤ 6) && !decide (m.length = 0) && winsB z (.tup m)) = _
              rw [cw, Bool.and_true, show decide (2 ≤ z ∧ z ≤ 6) = true from cz, Bool.true_and]
              by_cases c0 : m.length = 0
              · rw [decide_eq_true c0, decide_eq_false (by omega)]; rfl
              · rw [decide_eq_false c0, decide_eq_true (by omega)]; rfl
            rw [e]
            exact ret_ok (x_and1 (x_call (ds := [.t (.int z), .t (.tup m)]) (x_cons (x_op2 rfl rfl rfl) (x_cons (x_op2 rfl rfl rfl) rfl)) w) (x_T2 (x_B (x_cons (x_op2 rfl rfl rfl) rfl) (len_tup _ _ _)) rfl (by rw [gtT_int])))
          · have cw' : winsB z y = false := Bool.eq_false_iff.mpr cw
            rw [cw'] at w
            have e : bookB (.tup [.int z, y]) = false := by
              by_cases q : ∃ m, y = .tup m
              · obtain ⟨m, rfl⟩ := q
                show (decide (2 ≤ z ∧ z ≤ 6) && !decide (m.length = 0) && winsB z (.tup m)) = _
                rw [cw', Bool.and_false]
              · cases y <;> first | rfl | exact absurd ⟨_, rfl⟩ q
            rw [e]
            exact ret_ok (x_and0 (x_call (ds := [.t (.int z), .t y]) (x_cons (x_op2 rfl rfl rfl) (x_cons (x_op2 rfl rfl rfl) rfl)) w))
        · have cz' := Bool.eq_false_iff.mpr cz
          rw [cz'] at s1
          have e : bookB (.tup [x, y]) = false := by
            by_cases q : ∃ z m, x = .int z ∧ y = .tup m
            · obtain ⟨z, m, rfl, rfl⟩ := q
              show (decide (2 ≤ z ∧ z ≤ 6) && !decide (m.length = 0) && winsB z (.tup m)) = _
              rw [show decide (2 ≤ z ∧ z ≤ 6) = false from cz', Bool.false_and, Bool.false_and]
            · cases x <;> first | rfl | (cases y <;> first | rfl | exact absurd ⟨_, _, rfl, rfl⟩ q)
          rw [e]
          exact seq_rt (if_nx (b := true) (x_orT0 (x_notT (b := true) (x_Tt (x_B (x_cons rfl (x_cons rfl rfl)) i1))) (x_orT0 (x_Bt (x_T2 (x_B (x_cons rfl rfl) (len_tup _ _ _)) rfl nl)) (x_notT (b := false) (x_Tt (x_call (ds := [.t x]) (x_cons (x_op2 rfl rfl rfl) rfl) s1))))) (ret_ok rfl))
    · rw [decide_eq_false c2] at nl
      have e : bookB (.tup l) = false := by
        match l, c2 with
        | [], _ => rfl
        | [x], _ => cases x <;> rfl
        | [_, _], c2 => exact absurd rfl c2
        | x :: y :: _ :: _, _ => cases x <;> first | rfl | (cases y <;> rfl)
      rw [e]
      exact seq_rt (if_nx (b := true) (x_orT0 (x_notT (b := true) (x_Tt (x_B (x_cons rfl (x_cons rfl rfl)) i1))) (x_orT1 (x_Bt (x_T2 (x_B (x_cons rfl rfl) (len_tup _ _ _)) rfl nl)))) (ret_ok rfl))
  · have c' : isTup v = false := Bool.eq_false_iff.mpr c
    rw [c'] at i1
    have e : bookB v = false := by cases v <;> first | rfl | exact absurd rfl c
    rw [e]
    exact seq_rt (if_nx (b := true) (x_orT1 (x_notT (b := false) (x_Tt (x_B (x_cons rfl (x_cons rfl rfl)) i1)))) (ret_ok rfl))
end Lw

set_option maxHeartbeats 4000000
/-! P01b: the law's own look at books; books with one thing other -/
namespace Lw
open Fm
theorem x_frzE {P : List O} {ρ : En} {S S1 S2 : List O} {f : ME} {d d' : D} (h : f P ρ S = .ok d S1) (e : frzD P d S1 = some (d', S2)) : mFrz f P ρ S = .ok d' S2 := by
  unfold mFrz
  rw [h, Fm.R.bind_ok, e, lift_some]
theorem x_frzJ {P : List O} {ρ : En} {S S1 S2 : List O} {f : ME} {d d' : D} (h : f P ρ S = .ok d S1) (e : frzJ P d S1 = some (d', S2)) : mFrzZ frzJ f P ρ S = .ok d' S2 := by
  unfold mFrzZ
  rw [h, Fm.R.bind_ok, e, lift_some]
theorem end_frzd (P S : List O) : frzD P (.ref (P.length + S.length)) (S ++ [.dic []]) = some (.t (.dic []), S ++ [.dead]) := by
  unfold frzD
  simp only
  rw [if_pos (by omega), end_atS]
  simp only [treesK]
  rw [end_set]; rfl
theorem end_frzj (P S : List O) (k : List At) (x : T) : frzJ P (.ref (P.length + S.length)) (S ++ [.dit [(k, .t x)]]) = some (.t (.dit [(k, x)]), S ++ [.dead]) := by
  unfold frzJ
  simp only
  rw [if_pos (by omega), end_atS]
  simp only [treesJ, Option.map]
  rw [end_set]
theorem ats_strs : ∀ l : List Tx, ats (l.map T.str) = some (l.map At.str)
  | [] => rfl
  | x :: l => by
    rw [List.map_cons, ats, ats_strs l]; rfl
theorem x_dit1 {P : List O} {ρ : En} {S S1 S2 : List O} {fk fv : ME} {k v : T} {ks : List At} (h1 : fk P ρ S = .ok (.t k) S1) (h2 : fv P ρ S1 = .ok (.t v) S2) (e : k.tat = some ks) : mDit1 fk fv P ρ S = .ok (.ref (P.length + S2.length)) (S2 ++ [.dit [(ks, .t v)]]) := by
  rw [e_dit1, h1, nx_ok, Fm.R.bind_ok, h2, nx_ok, Fm.R.bind_ok]
  simp only [e]
theorem islawbook_v (P S : List O) {v : T} {b : Nat} (hb : b ≤ 4000) (h : K2 b v) : pureZ m__law_is_book [.t v] P S = .ok (.t (.bl (bookB v))) S := by
  refine pureZ_t (S' := []) ?_
  generalize P ++ S = P'
  have i1 := isx_tup P' [] h.1
  rw [m__law_is_book]
  refine def_rt ?_
  show b__law_is_book P' [some (.t v), none, none] [] = _
  unfold b__law_is_book
  by_cases c : isTup v = true
  · obtain ⟨l, rfl⟩ : ∃ l, v = .tup l := by cases v <;> first | exact ⟨_, rfl⟩ | exact (Bool.false_ne_true c).elim
    obtain ⟨hk, _⟩ := h.2 l rfl
    have nl := neT_len l.length
    have first : mNotT (mT (mCallB isiX (mCons (mVar 0) (mCons (mC (.ty "tuple")) mNil)))) P' [some (.t (.tup l)), none, none] [] = .ok false [] := x_notT (b := true) (x_Tt (x_B (x_cons rfl (x_cons rfl rfl)) i1))
    by_cases c2 : l.length = 2
    · match l, c2, hk, nl, i1, first with
      | [x, y], _, hk, nl, i1, first =>
        have hx := hk x (by simp)
        have hy := hk y (by simp)
        have second : mB (mOp2 (lT2 neT) (mCallB lenG (mCons (mVar 0) mNil)) (mC (.int 2))) P' [some (.t (.tup [x, y])), none, none] [] = .ok false [] := x_Bt (x_T2 (x_B (x_cons rfl rfl) (len_tup _ _ _)) rfl nl)
        have iy := isx_tup P' [] hy.1
        by_cases cy : isTup y = true
        · obtain ⟨m, rfl⟩ : ∃ m, y = .tup m := by cases y <;> first | exact ⟨_, rfl⟩ | exact (Bool.false_ne_true cy).elim
          obtain ⟨hm, lm⟩ := hy.2 m rfl
          have third : mNotT (mT (mCallB isiX (mCons (mOp2 subG (mVar 0) (mC (.int 1))) (mCons (mC (.ty "tuple")) mNil)))) P' [some (.t (.tup [x, .tup m])), none, none] [] = .ok false [] := x_notT (b := true) (x_Tt (x_B (x_cons (x_op2 rfl rfl rfl) (x_cons rfl rfl)) iy))
          have fourth : mB (mOp2 (lT2 eqZT) (mOp2 subG (mVar 0) (mC (.int 1))) (mTup mNil)) P' [some (.t (.tup [x, .tup m])), none, none] [] = .ok (decide (m.length = 0)) [] := x_Bt (x_T2 (x_op2 rfl rfl rfl) (x_tup (ts := []) rfl (by simp)) rfl)
          by_cases c0 : m.length = 0
          · rw [decide_eq_true c0] at fourth
            have e : bookB (.tup [x, .tup m]) = false := by
              by_cases q : ∃ z, x = .int z
              · obtain ⟨z, rfl⟩ := q
                show (decide (2 ≤ z ∧ z ≤ 6) && !decide (m.length = 0) && winsB z (.tup m)) = _
                rw [decide_eq_true c0, Bool.not_true, Bool.and_false, Bool.false_and]
              · cases x <;> first | rfl | exact absurd ⟨_, rfl⟩ q
            rw [e]
            exact seq_rt (if_nx (b := true) (x_orT0 first (x_orT0 second (x_orT0 third fourth))) (ret_ok rfl))
          · rw [decide_eq_false c0] at fourth
            refine seq_nx' (if_nx (b := false) (x_orT0 first (x_orT0 second (x_orT0 third fourth))) rfl) ?_
            refine seq_nx' (set_ok (x_op2 rfl rfl rfl)) ?_
            have ix1 := isx_int P' [] hx.1
            have ix2 := isx_bool P' [] hx.1
            by_cases cz : sizeB x = true
            · obtain ⟨z, rfl⟩ : ∃ z, x = .int z := by cases x <;> first | exact ⟨_, rfl⟩ | exact (Bool.false_ne_true cz).elim
              have hz : 2 ≤ z ∧ z ≤ 6 := of_decide_eq_true cz
              obtain ⟨k, rfl⟩ : ∃ k : Nat, z = k := ⟨z.toNat, by omega⟩
              have chain : mB (mChain (lT2 ltT) (lT2 ltT) (mC (.int 1)) (mVar 1) (mC (.int 7))) P' [some (.t (.tup [.int (k : Int), .tup m])), some (.t (.int (k : Int))), none] [] = .ok true [] := by
                refine x_Bt ?_
                simp only [e_chain, e_c, e_var, List.getElem?_cons_zero, List.getElem?_cons_succ, Fm.R.bind_ok, lT2_t, ltT_int, Option.map, lift_some, tt_bl]
                simp only [show (1 : Int) < k by omega, show (k : Int) < 7 by omega, decide_true]
              refine seq_nx' (if_nx (b := false) (x_orT0 (x_notT (b := true) (x_Tt (x_B (x_cons rfl (x_cons rfl rfl)) ix1))) (x_orT0 (x_Tt (x_B (x_cons rfl (x_cons rfl rfl)) ix2)) (x_notT (b := true) chain))) rfl) ?_
              have e := lc_all (g := gN 2) (P := P') (S := []) (ρ := [some (.t (.tup [.int (k : Int), .tup m])), some (.t (.int (k : Int))), none]) (fe := mAnd (mCall (pureZ m__law_is_word) (mCons (mVar 2) (mCons (mVar 1) mNil))) (mOp2 (lT2 eqT) (mCallB lenG (mCons (mVar 2) mNil)) (mVar 1))) D.t (fun x => T.bl (winB k x)) m (fun x hx => by
                have w := islawword_v P' [] (k := k) (hm x hx)
                refine ⟨_, rfl, ?_⟩
                by_cases cw : lwordB k x = true
                · obtain ⟨s, rfl⟩ : ∃ s, x = .str s := by cases x <;> first | exact ⟨_, rfl⟩ | exact (Bool.false_ne_true cw).elim
                  rw [cw] at w
                  have hs : k ≤ s.length ∧ Small s := of_decide_eq_true cw
                  have hw : winB k (.str s) = decide ((s.length : Int) = k) := by
                    show (decide (Small s) && decide ((s.length : Int) = k)) = _
                    rw [decide_eq_true hs.2, Bool.true_and]
                  rw [hw]
                  exact x_and1 (x_call (ds := [.t (.str s), .t (.int k)]) (x_cons rfl (x_cons rfl rfl)) w) (x_T2 (x_B (x_cons rfl rfl) (len_str _ _ _)) rfl (by rw [eqT_int]))
                · have cw' : lwordB k x = false := Bool.eq_false_iff.mpr cw
                  rw [cw'] at w
                  have hw : winB k x = false := by
                    by_cases q : ∃ s, x = .str s
                    · obtain ⟨s, rfl⟩ := q
                      show (decide (Small s) && decide ((s.length : Int) = k)) = _
                      have : ¬ (k ≤ s.length ∧ Small s) := of_decide_eq_false cw'
                      by_cases cs : Small s
                      · rw [decide_eq_false (show ¬ (s.length : Int) = k from fun e => this ⟨by omega, cs⟩), Bool.and_false]
                      · rw [decide_eq_false cs, Bool.false_and]
                    · cases x <;> first | rfl | exact absurd ⟨_, rfl⟩ q
                  rw [hw]
                  exact x_and0 (x_call (ds := [.t x, .t (.int k)]) (x_cons rfl (x_cons rfl rfl)) w))
              have b := bls_mapf (winB k) m
              have a : allT [.lst (m.map fun x => T.bl (winB k x))] = some (.bl (m.all (winB k))) := by
                show Option.map _ (bls _) = _
                rw [b]
                show some (T.bl _) = _
                rw [List.all_map]; rfl
              have e2 : mCallB (lTL allT) (mCons (mLcG finT (mIt (mOp2 subG (mVar 0) (mC (.int 1)))) (gN 2) [2] mYes (mAnd (mCall (pureZ m__law_is_word) (mCons (mVar 2) (mCons (mVar 1) mNil))) (mOp2 (lT2 eqT) (mCallB lenG (mCons (mVar 2) mNil)) (mVar 1)))) mNil) P' [some (.t (.tup [.int (k : Int), .tup m])), some (.t (.int (k : Int))), none] [] = .ok (.t (.bl (m.all (winB k)))) [] :=
                x_B1 (x_lc (ts := m.map fun x => T.bl (winB k x)) (x_It (x_op2 rfl rfl rfl) rfl) (e.trans (by rw [List.map_map]; rfl))) a
              have eb : bookB (.tup [.int (k : Int), .tup m]) = winsB k (.tup m) := by
                show (decide (2 ≤ (k : Int) ∧ (k : Int) ≤ 6) && !decide (m.length = 0) && winsB k (.tup m)) = _
                rw [decide_eq_true hz, decide_eq_false c0]; rfl
              rw [eb]
              by_cases ca : m.all (winB k) = true
              · obtain ⟨M, rfl, hM⟩ := all_win ca
                rw [ca] at e2
                rw [List.length_map] at lm
                have hd : decide (M = setTx M) = decide (WinsB k M) := decide_eq_decide.mpr ((asc_set M).trans ⟨fun h => ⟨hM, h⟩, fun h => h.2⟩)
                have q := eq_lsts M (setTx M)
                rw [hd] at q
                rw [winsB_str]
                refine seq_nx' (if_nx (b := false) (x_notT (b := true) (x_Tt e2)) rfl) ?_
                exact ret_ok (x_T2 (x_B1 (x_op2 rfl rfl rfl) rfl) (x_sortSet (x_op2 rfl rfl rfl) (src_tup1 P' [] M) (sb_ok (by omega))) q)
              · rw [winsB_no ca]
                have ca' : m.all (winB k) = false := Bool.eq_false_iff.mpr ca
                rw [ca'] at e2
                exact seq_rt (if_nx (b := true) (x_notT (b := false) (x_Tt e2)) (ret_ok rfl))
            · have cz' : sizeB x = false := Bool.eq_false_iff.mpr cz
              have e : bookB (.tup [x, .tup m]) = false := by
                by_cases q : ∃ z, x = .int z
                · obtain ⟨z, rfl⟩ := q
                  show (decide (2 ≤ z ∧ z ≤ 6) && !decide (m.length = 0) && winsB z (.tup m)) = _
                  rw [show decide (2 ≤ z ∧ z ≤ 6) = false from cz', Bool.false_and, Bool.false_and]
                · cases x <;> first | rfl | exact absurd ⟨_, rfl⟩ q
              rw [e]
              refine seq_rt (if_nx (b := true) (S1 := []) ?_ (ret_ok rfl))
              by_cases q : ∃ z, x = .int z
              · obtain ⟨z, rfl⟩ := q
                refine x_orT0 (x_notT (b := true) (x_Tt (x_B (x_cons rfl (x_cons rfl rfl)) ix1))) (x_orT0 (x_Tt (x_B (x_cons rfl (x_cons rfl rfl)) ix2)) (x_notT (b := false) (x_Bt ?_)))
                have hz : ¬ (2 ≤ z ∧ z ≤ 6) := of_decide_eq_false cz'
                simp only [e_chain, e_c, e_var, List.set, List.getElem?_cons_zero, List.getElem?_cons_succ, Fm.R.bind_ok, lT2_t, ltT_int, Option.map, lift_some, tt_bl]
                by_cases c1 : (1 : Int) < z
                · simp only [c1, show ¬ z < 7 by omega, decide_true, decide_false]
                · simp only [c1, decide_false]
              · by_cases qb : isBool x = true
                · rw [qb] at ix2
                  have qn : isNum x = true := by cases x <;> first | rfl | exact (Bool.false_ne_true qb).elim
                  rw [qn] at ix1
                  exact x_orT0 (x_notT (b := true) (x_Tt (x_B (x_cons rfl (x_cons rfl rfl)) ix1))) (x_orT1 (x_Tt (x_B (x_cons rfl (x_cons rfl rfl)) ix2)))
                · have qn : isNum x = false := by cases x <;> first | rfl | exact absurd ⟨_, rfl⟩ q | exact absurd rfl qb
                  rw [qn] at ix1
                  exact x_orT1 (x_notT (b := false) (x_Tt (x_B (x_cons rfl (x_cons rfl rfl)) ix1)))
        · have cy' : isTup y = false := Bool.eq_false_iff.mpr cy
          rw [cy'] at iy
          have e : bookB (.tup [x, y]) = false := by cases x <;> first | rfl | (cases y <;> first | rfl | exact absurd rfl cy)
          rw [e]
          exact seq_rt (if_nx (b := true) (x_orT0 first (x_orT0 second (x_orT1 (x_notT (b := false) (x_Tt (x_B (x_cons (x_op2 rfl rfl rfl) (x_cons rfl rfl)) iy)))))) (ret_ok rfl))
    · rw [decide_eq_false c2] at nl
      have e : bookB (.tup l) = false := by
        match l, c2 with
        | [], _ => rfl
        | [x], _ => cases x <;> rfl
        | [_, _], c2 => exact absurd rfl c2
        | x :: y :: _ :: _, _ => cases x <;> first | rfl | (cases y <;> rfl)
      rw [e]
      exact seq_rt (if_nx (b := true) (x_orT0 first (x_orT1 (x_Bt (x_T2 (x_B (x_cons rfl rfl) (len_tup _ _ _)) rfl nl)))) (ret_ok rfl))
  · have c' : isTup v = false := Bool.eq_false_iff.mpr c
    rw [c'] at i1
    have e : bookB v = false := by cases v <;> first | rfl | exact absurd rfl c
    rw [e]
    exact seq_rt (if_nx (b := true) (x_orT1 (x_notT (b := false) (x_Tt (x_B (x_cons rfl (x_cons rfl rfl)) i1)))) (ret_ok rfl))
theorem sub_any (P S : List O) {l : List T} {r : Int} (h0 : 0 ≤ r) (h1 : r < l.length) : ∃ x ∈ l, subG (.t (.lst l)) (.t (.int r)) P S = some (.t x, S) := by
  obtain ⟨x, x1, x2, x3⟩ := sub_lst P S (l := l) h0 h1
  exact ⟨x, x1, x3⟩
theorem rev_s (P S : List O) {f : ME} {ρ : En} {x : Tx} (h : f P ρ S = .ok (.t (.str x)) S) : mRev f P ρ S = .ok (.t (.str x.reverse)) S := by
  rw [e_rev, h]; rfl
theorem oddwin_ok (P : List O) {n : Nat} {R S : List O} {x : Tx} (h : Pt n R S) (hn : n < 10 ^ 14) (sx : Small x) (x0 : x ≠ []) (lx : x.length ≤ 10) :
    ∃ v S', m__law_odd_window [.ref P.length, .t (.str x)] P S = .ok (.t v) S' ∧ Pt (n + 3) R S' ∧ K0 v := by
  have xp := List.length_pos_iff.mpr x0
  obtain ⟨r, S1, e1, r0, r1, p1⟩ := pick_pt P (top := x.length) h (by omega) (by omega) (by omega)
  obtain ⟨q, S2, e2, q0, q1, p2⟩ := pick_pt P (top := 10) p1 (by omega) (by decide) (by decide)
  obtain ⟨c, _, _, e3⟩ := sub_str P S2 (s := cs "AZ0 .\n-{`~") q0 (by show q < 10; omega)
  have hc := fun (i j : Option Int) => cutL_len x i j
  have ad : ∀ a b : Tx, a.length ≤ 1000 → b.length ≤ 1000 → addT (.str a) (.str b) = some (.str (a ++ b)) := fun a b h1 h2 => addT_str (by rw [szl]; omega)
  have up := x_upper (s := x) (fun c hc => by have := (sx c hc).2; omega) (by omega) P S2
  obtain ⟨O1, hO1⟩ : ∃ O1 : List T, O1 = [.str (cutL x none (some r) ++ [c] ++ cutL x (some (r + 1)) none), .str (x ++ cs "a"), .str (cutL x none (some (-1))), .str (cs ""), .str (x.map PyProof.Rows.up1), .non, .int 7, .bl true, .tup [.str x]] := ⟨_, rfl⟩
  obtain ⟨O2, hO2⟩ : ∃ O2 : List T, O2 = [.lst [.str x], .lst (x.map fun c => .str [c]), .str (x ++ cs "\n"), .str x.reverse, .dic [(.str x, .int 1)], .str (cutL (cs "aaaaaaa") none (some (x.length : Int))), .int (-1), .tup []] := ⟨_, rfl⟩
  have l1 : O1.length = 9 := by rw [hO1]; rfl
  have l2 : O2.length = 8 := by rw [hO2]; rfl
  have k : ∀ v ∈ O1 ++ O2, K0 v := fun v hv => by
    rcases List.mem_append.mp hv with hv | hv
    · rw [hO1] at hv
      simp only [List.mem_cons, List.not_mem_nil, or_false] at hv
      rcases hv with rfl | rfl | rfl | rfl | rfl | rfl | rfl | rfl | rfl <;> rfl
    · rw [hO2] at hv
      simp only [List.mem_cons, List.not_mem_nil, or_false] at hv
      rcases hv with rfl | rfl | rfl | rfl | rfl | rfl | rfl | rfl <;> rfl
  obtain ⟨t, S3, e4, t0, t1, p3⟩ := pick_pt P (top := ((O1 ++ O2).length : Int)) p2 (by omega) (by rw [List.length_append]; omega) (by rw [List.length_append]; omega)
  obtain ⟨v, hv, ev⟩ := sub_any P S3 t0 t1
  refine ⟨v, S3, ?_, p3, k v hv⟩
  rw [m__law_odd_window]
  refine def_rt ?_
  show b__law_odd_window P [some (.ref P.length), some (.t (.str x)), none, none, none] S = _
  have cr : ∀ (ρ : En), ρ[2]? = some (some (D.t (.int r))) → mOp2 (lT2 addT) (mVar 2) (mC (.int 1)) P ρ S2 = .ok (.t (.int (r + 1))) S2 := fun ρ h4 => x_T2 (by simp only [e_var, h4]) rfl (addT_int r 1)
  unfold b__law_odd_window
  refine seq_nx' (set_ok (x_call (ds := [.ref P.length, .t (.int x.length)]) (x_cons rfl (x_cons (x_B (x_cons rfl rfl) (len_str _ _ _)) rfl)) e1)) ?_
  refine seq_nx' (set_ok (x_op2 (S1 := S1) rfl (x_call (ds := [.ref P.length, .t (.int 10)]) (x_cons rfl (x_cons rfl rfl)) e2) e3)) ?_
  refine seq_nx' (set_ok (x_lst (ts := O1) (by
    rw [hO1]
    exact x_cons (x_T2 (x_T2 (x_slS rfl rfl (x_part rfl)) rfl (ad _ _ (by have := hc none (some r); omega) (by simp))) (x_slS rfl (x_part (cr _ rfl)) rfl) (ad _ _ (by have := hc none (some r); simp; omega) (by have := hc (some (r + 1)) none; omega)))
      (x_cons (x_T2 rfl rfl (ad _ _ (by omega) (by decide)))
      (x_cons (x_slS rfl rfl (x_part (x_neg rfl)))
      (x_cons rfl
      (x_cons (x_meth rfl rfl rfl up)
      (x_cons rfl (x_cons rfl (x_cons rfl (x_cons (x_tup (ts := [.str x]) (x_cons rfl rfl) (by simp)) rfl))))))))) (by rw [l1]; decide))) ?_
  refine seq_nx' (set_ok (x_T2 (y := .lst O2) rfl (x_lst (by
    rw [hO2]
    exact x_cons (x_lst (ts := [.str x]) (x_cons rfl rfl) (by simp))
      (x_cons (x_B (x_cons rfl rfl) rfl)
      (x_cons (x_T2 rfl rfl (ad _ _ (by omega) (by decide)))
      (x_cons (rev_s P S2 rfl)
      (x_cons (x_dic1 rfl rfl rfl)
      (x_cons (x_slS rfl rfl (x_part (x_B (x_cons rfl rfl) (len_str _ _ _))))
      (x_cons (x_neg rfl) (x_cons (x_tup (ts := []) rfl (by simp)) rfl)))))))) (by rw [l2]; decide)) (addT_lst (by omega)))) ?_
  exact ret_ok (x_op2 (S1 := S2) rfl (x_call (ds := [.ref P.length, .t (.int ((O1 ++ O2).length : Nat))]) (x_cons rfl (x_cons (x_B (x_cons rfl rfl) (len_lst _ _ _)) rfl)) e4) ev)
end Lw

set_option maxHeartbeats 4000000
/-! P01c: books with one thing other; books judged -/
namespace Lw
open Fm
theorem p30 : powT (.int 10) (.int 30) = some (.int (10 ^ 30)) := powT_int (i := 10) (n := 30) (by decide) (by decide)
theorem sub_tupA (P S : List O) {l : List T} {r : Int} (h0 : 0 ≤ r) (h1 : r < l.length) : ∃ x ∈ l, subG (.t (.tup l)) (.t (.int r)) P S = some (.t x, S) := by
  have hl : r.toNat < l.length := by omega
  have := sub_tup P S (l := l) (k := r.toNat) hl
  rw [show ((r.toNat : Nat) : Int) = r by omega] at this
  exact ⟨_, List.getElem_mem hl, this⟩
theorem pt_dead {n : Nat} {R S : List O} (h : Pt n R S) (o : O) : Pt n (R ++ [o]) (S ++ [o]) := by
  obtain ⟨a, b, c, e, h1, h2⟩ := h
  exact ⟨a, b, c, by rw [e]; rfl, h1, h2⟩
theorem k1_n {b : Nat} {x : T} (h : K0 x) (n : isTup x = false) : K1 b x := k1_of h fun l e => by rw [e] at n; exact Bool.false_ne_true n.symm
theorem flat6 : ∀ V : List Tx, (∀ x ∈ V, x.length ≤ 6) → V.flatten.length ≤ 6 * V.length := by
  intro V
  induction V with
  | nil => intro _; simp
  | cons x V ih =>
    intro h
    have h1 := h x List.mem_cons_self
    have h2 := ih fun y hy => h y (List.mem_cons_of_mem _ hy)
    rw [List.flatten_cons, List.length_append, List.length_cons]
    omega
theorem bent_ok (P : List O) {n z : Nat} {R S : List O} {M : List Tx} (h : Pt n R S) (hn : n < 10 ^ 13) (hz : 2 ≤ z ∧ z ≤ 6) (M0 : M ≠ []) (lM : M.length ≤ 900) (hM : ∀ x ∈ M, Small x ∧ x.length = z) :
    ∃ v S' X, m__law_bent_book [.ref P.length, .t (bookT z M)] P S = .ok (.t v) S' ∧ Pt (n + 10) (R ++ X) S' ∧ K2 (4 * M.length + 13) v := by
  obtain ⟨q4, hq4⟩ : ∃ q4, q4 = 4 * M.length + 13 := ⟨_, rfl⟩
  rw [← hq4]
  have hMp := List.length_pos_iff.mpr M0
  have hA : (M.map T.str).length = M.length := List.length_map ..
  obtain ⟨k, S1, e1, k0, k4, p1⟩ := pick_pt P (top := 4) h (by omega) (by decide) (by decide)
  obtain ⟨r, S2, e2, r0, r1, p2⟩ := pick_pt P (top := M.length) p1 (by omega) (by omega) (by omega)
  have hc := fun (i j : Option Int) => cutL_len (M.map T.str) i j
  have kc : ∀ (i j : Option Int), ∀ x ∈ cutL (M.map T.str) i j, K0 x := fun i j x hx => k0_strs M x (cutL_mem hx)
  have kA : ∀ x ∈ M.map T.str, K0 x := k0_strs M
  have k1A : K1 q4 (.tup (M.map T.str)) := k1_tup kA (by omega)
  have k1c : ∀ i j, K1 q4 (.tup (cutL (M.map T.str) i j)) := fun i j => k1_tup (kc i j) (by have := hc i j; omega)
  have k1i : ∀ i, K1 q4 (.int i) := fun i => k1_of rfl (fun _ e => nomatch e)
  have pair : ∀ x : T, ∀ y : T, K1 q4 x → K1 q4 y → K2 q4 (.tup [x, y]) := fun x y hx hy => k2_tup (fun w hw => by
    rcases List.mem_cons.mp hw with rfl | hw
    · exact hx
    · rw [List.mem_singleton.mp hw]; exact hy) (by simp; omega)
  have k2B : K2 q4 (bookT z M) := pair _ _ (k1i _) k1A
  have k1B : K1 q4 (bookT z M) := k1_tup (fun w hw => by
    rcases List.mem_cons.mp hw with rfl | hw
    · rfl
    · rw [List.mem_singleton.mp hw]; rfl) (by simp; omega)
  have lenA : lenG [.t (.tup (M.map T.str))] P S1 = some (.t (.int M.length), S1) := by rw [len_tup, hA]
  have start : ∀ rest, (∀ ρ, rest P [some (.ref P.length), some (.t (bookT z M)), some (.t (.int z)), some (.t (.tup (M.map T.str))), some (.t (.int k)), some (.t (.int r)), none, none, none, none] S2 = ρ → (sSeq (sAsg (gT 2 (gsCons (gN 2) (gsCons (gN 3) gsNil))) (mVar 1)) (sSeq (sPar2 4 5 (mCons (mCall m__law_pick (mCons (mVar 0) (mCons (mC (.int 4)) mNil))) (mCons (mCall m__law_pick (mCons (mVar 0) (mCons (mCallB lenG (mCons (mVar 3) mNil)) mNil))) mNil))) rest)) P [some (.ref P.length), some (.t (bookT z M)), none, none, none, none, none, none, none, none] S = ρ) := fun rest ρ hr => by
    refine seq_nx' (x_asg (d := .t (bookT z M)) rfl rfl) ?_
    exact seq_nx' (x_par2 (x_cons (x_call (ds := [.ref P.length, .t (.int 4)]) (x_cons rfl (x_cons rfl rfl)) e1) (x_cons (x_call (ds := [.ref P.length, .t (.int M.length)]) (x_cons rfl (x_cons (x_B (x_cons rfl rfl) lenA) rfl)) e2) rfl))) hr
  have cr : ∀ (ρ : En) (i : Int), ρ[5]? = some (some (D.t (.int r))) → mOp2 (lT2 addT) (mVar 5) (mC (.int i)) P ρ S2 = .ok (.t (.int (r + i))) S2 := fun ρ i h4 => x_T2 (by simp only [e_var, h4]) rfl (addT_int r i)
  have ad := fun (a b : List T) (h1 : a.length ≤ 5000) (h2 : b.length ≤ 5000) => addT_tup (a := a) (b := b) (by omega)
  rcases (show k = 0 ∨ k = 1 ∨ k = 2 ∨ k = 3 by omega) with rfl | rfl | rfl | rfl
  · -- another object
    obtain ⟨O1, hO1⟩ : ∃ O1 : List T, O1 = [.lst [.int z, .tup (M.map T.str)], .tup (cutL [.int z, .tup (M.map T.str)] none (some 1)), .tup ([.int z, .tup (M.map T.str)] ++ [.int 0]), .tup [.int z, .tup (M.map T.str)].reverse, .tup [bookT z M], .tup (M.map T.str), .int z, .non, .bl true, .str (cs "book"), .tup [], .dic [], .lst [bookT z M]] := ⟨_, rfl⟩
    have l1 : O1.length = 13 := by rw [hO1]; rfl
    have kO : ∀ v ∈ O1, K2 q4 v := by
      rw [hO1]
      have lt : ∀ {v : T}, K0 v → (∀ l, v ≠ .tup l) → K2 q4 v := fun a b => k2_of a b
      refine List.forall_mem_cons.mpr ⟨lt rfl (fun _ e => nomatch e), List.forall_mem_cons.mpr ⟨?_, List.forall_mem_cons.mpr ⟨?_, List.forall_mem_cons.mpr ⟨?_, List.forall_mem_cons.mpr ⟨?_, List.forall_mem_cons.mpr ⟨?_, List.forall_mem_cons.mpr ⟨lt rfl (fun _ e => nomatch e), List.forall_mem_cons.mpr ⟨lt rfl (fun _ e => nomatch e), List.forall_mem_cons.mpr ⟨lt rfl (fun _ e => nomatch e), List.forall_mem_cons.mpr ⟨lt rfl (fun _ e => nomatch e), List.forall_mem_cons.mpr ⟨k2_tup (fun _ h => nomatch h) (by first | (simp; done) | (simp; omega)), List.forall_mem_cons.mpr ⟨lt rfl (fun _ e => nomatch e), List.forall_mem_cons.mpr ⟨lt rfl (fun _ e => nomatch e), fun _ h => nomatch h⟩⟩⟩⟩⟩⟩⟩⟩⟩⟩⟩⟩⟩
      · refine k2_tup (fun x hx => ?_) (by have := cutL_len ([.int z, .tup (M.map T.str)] : List T) none (some 1); simp at this; omega)
        have hx := cutL_mem hx
        simp only [List.mem_cons, List.not_mem_nil, or_false] at hx
        rcases hx with rfl | rfl
        · exact k1i _
        · exact k1A
      · refine k2_tup (fun x hx => ?_) (by first | (simp; done) | (simp; omega))
        simp only [List.mem_append, List.mem_cons, List.not_mem_nil, or_false] at hx
        rcases hx with (rfl | rfl) | rfl
        · exact k1i _
        · exact k1A
        · exact k1i _
      · refine k2_tup (fun x hx => ?_) (by first | (simp; done) | (simp; omega))
        have hx := List.mem_reverse.mp hx
        simp only [List.mem_cons, List.not_mem_nil, or_false] at hx
        rcases hx with rfl | rfl
        · exact k1i _
        · exact k1A
      · exact k2_tup (fun x hx => by rw [List.mem_singleton.mp hx]; exact k1B) (by first | (simp; done) | (simp; omega))
      · exact k2_tup (fun x hx => by
          obtain ⟨s, _, rfl⟩ := List.mem_map.mp hx
          exact k1_of rfl (fun _ e => nomatch e)) (by omega)
    obtain ⟨t, S4, e4, t0, t1, p4⟩ := pick_pt P (top := 13) (pt_dead p2 .dead) (by omega) (by decide) (by decide)
    obtain ⟨v, hv, ev⟩ := sub_any P S4 (l := O1) t0 (by omega)
    refine ⟨v, S4, [.dead], ?_, p4.mono (by omega), kO v hv⟩
    rw [m__law_bent_book]
    refine def_rt ?_
    refine start _ _ ?_
    refine seq_rt (if_nx (b := true) (x_Bt (x_T2 rfl rfl (by rw [eqT_int, decide_eq_true rfl]))) ?_)
    rw [if_pos rfl]
    refine seq_nx' (set_ok (x_lst (ts := O1) (S1 := S2 ++ [.dead]) (by
      rw [hO1]
      exact x_cons (x_B1 rfl rfl)
        (x_cons (x_slT rfl rfl (x_part rfl))
        (x_cons (x_T2 rfl (x_tup (ts := [.int 0]) (x_cons rfl rfl) (by simp)) (ad _ _ (by simp) (by simp)))
        (x_cons (x_revT rfl)
        (x_cons (x_tup (ts := [bookT z M]) (x_cons rfl rfl) (by simp))
        (x_cons rfl (x_cons rfl (x_cons rfl (x_cons rfl (x_cons rfl
        (x_cons (x_tup (ts := []) rfl (by simp))
        (x_cons (S1 := S2 ++ [.dead]) (x_frzE rfl (end_frzd P S2))
        (x_cons (x_lst (ts := [bookT z M]) (x_cons rfl rfl) (by simp)) rfl))))))))))))) (by rw [l1]; decide))) ?_
    exact ret_ok (x_op2 (S1 := S2 ++ [.dead]) rfl (x_call (ds := [.ref P.length, .t (.int 13)]) (x_cons rfl (x_cons rfl rfl)) e4) ev)
  · -- another size
    obtain ⟨O1, hO1⟩ : ∃ O1 : List T, O1 = [.int (z + 1), .int (z - 1), .int 1, .int 7, .int 0, .int (-z), .bl true, .non, .str (cs "2"), .tup [.int z], .lst [.int z], .int (10 ^ 30), .int (z + 10 ^ 20)] := ⟨_, rfl⟩
    have l1 : O1.length = 13 := by rw [hO1]; rfl
    have kO : ∀ v ∈ O1, K1 q4 v := by
      rw [hO1]
      intro v hv
      simp only [List.mem_cons, List.not_mem_nil, or_false] at hv
      rcases hv with rfl | rfl | rfl | rfl | rfl | rfl | rfl | rfl | rfl | rfl | rfl | rfl | rfl <;> first
        | exact k1_n rfl rfl
        | exact k1_tup (fun x hx => by rw [List.mem_singleton.mp hx]; rfl) (by first | (simp; done) | (simp; omega))
    obtain ⟨t, S4, e4, t0, t1, p4⟩ := pick_pt P (top := 13) p2 (by omega) (by decide) (by decide)
    obtain ⟨v, hv, ev⟩ := sub_any P S4 (l := O1) t0 (by omega)
    refine ⟨.tup [v, .tup (M.map T.str)], S4, [], ?_, by rw [List.append_nil]; exact p4.mono (by omega), pair _ _ (kO v hv) k1A⟩
    rw [m__law_bent_book]
    refine def_rt ?_
    refine start _ _ ?_
    refine seq_nx' (if_nx (b := false) (x_Bt (x_T2 rfl rfl (by rw [eqT_int, decide_eq_false (by decide)]))) rfl) ?_
    refine seq_rt (if_nx (b := true) (x_Bt (x_T2 rfl rfl (by rw [eqT_int, decide_eq_true rfl]))) ?_)
    rw [if_pos rfl]
    refine seq_nx' (set_ok (x_lst (ts := O1) (S1 := S2) (by
      rw [hO1]
      exact x_cons (x_T2 rfl rfl (addT_int _ _)) (x_cons (x_T2 rfl rfl (subT_int _ _)) (x_cons rfl (x_cons rfl (x_cons rfl
        (x_cons (x_neg rfl) (x_cons rfl (x_cons rfl (x_cons rfl
        (x_cons (x_tup (ts := [.int z]) (x_cons rfl rfl) (by simp))
        (x_cons (x_lst (ts := [.int z]) (x_cons rfl rfl) (by simp))
        (x_cons (x_T2 rfl rfl p30)
        (x_cons (x_T2 rfl (x_T2 rfl rfl p20) (addT_int _ _)) rfl))))))))))))) (by rw [l1]; decide))) ?_
    exact ret_ok (x_tup (ts := [v, .tup (M.map T.str)]) (x_cons (x_op2 (S1 := S2) rfl (x_call (ds := [.ref P.length, .t (.int 13)]) (x_cons rfl (x_cons rfl rfl)) e4) ev) (x_cons rfl rfl)) (by simp))
  · -- other windows
    have hflat := flat6 M fun x hx => by rw [(hM x hx).2]; exact hz.2
    obtain ⟨tr, htr⟩ : ∃ tr : List T, tr = cutL (M.map T.str) none (some r) ++ cutL (M.map T.str) (some (r + 1)) (some (r + 2)) ++ cutL (M.map T.str) (some r) (some (r + 1)) ++ cutL (M.map T.str) (some (r + 2)) none := ⟨_, rfl⟩
    have ltr : tr.length ≤ q4 := by
      rw [htr]
      have := hc none (some r); have := hc (some (r + 1)) (some (r + 2)); have := hc (some r) (some (r + 1)); have := hc (some (r + 2)) none
      simp only [List.length_append]; omega
    have ktr : K1 q4 (.tup tr) := k1_tup (fun x hx => by
      rw [htr] at hx
      rcases List.mem_append.mp hx with hx | hx
      · rcases List.mem_append.mp hx with hx | hx
        · rcases List.mem_append.mp hx with hx | hx
          · exact kc _ _ x hx
          · exact kc _ _ x hx
        · exact kc _ _ x hx
      · exact kc _ _ x hx) ltr
    obtain ⟨O1, hO1⟩ : ∃ O1 : List T, O1 = [.lst (M.map T.str), .tup [], .tup (M.map T.str).reverse, .tup tr, .tup (M.map T.str ++ cutL (M.map T.str) (some (-1)) none), .tup (cutL (M.map T.str) (some r) (some (r + 1)) ++ M.map T.str), .dit [(M.map At.str, .bl true)]] := ⟨_, rfl⟩
    obtain ⟨O2, hO2⟩ : ∃ O2 : List T, O2 = [.str M.flatten, .non, .int 0, .tup (cutL (M.map T.str) none (some r) ++ cutL (M.map T.str) (some (r + 1)) none), .tup [.tup (M.map T.str)], .lst (cutL (M.map T.str) none (some 1))] := ⟨_, rfl⟩
    have l1 : O1.length = 7 := by rw [hO1]; rfl
    have l2 : O2.length = 6 := by rw [hO2]; rfl
    have kO : ∀ v ∈ O1 ++ O2, K1 q4 v := fun v hv => by
      have k0 : ∀ {v : T}, K0 v → (∀ l, v ≠ .tup l) → K1 q4 v := fun a b => k1_of a b
      rcases List.mem_append.mp hv with hv | hv
      · rw [hO1] at hv
        revert v
        intro v _ hv
        revert v
        refine fun v _ hv => ?_
        simp only [List.mem_cons, List.not_mem_nil, or_false] at hv
        rcases hv with rfl | rfl | rfl | rfl | rfl | rfl | rfl
        · exact k0 rfl (fun _ e => nomatch e)
        · exact k1_tup (fun _ h => nomatch h) (by first | (simp; done) | (simp; omega))
        · exact k1_tup (fun x hx => kA x (List.mem_reverse.mp hx)) (by rw [List.length_reverse]; omega)
        · exact ktr
        · exact k1_tup (fun x hx => (List.mem_append.mp hx).elim (kA x) (kc _ _ x)) (by have := hc (some (-1)) none; rw [List.length_append]; omega)
        · exact k1_tup (fun x hx => (List.mem_append.mp hx).elim (kc _ _ x) (kA x)) (by have := hc (some r) (some (r + 1)); rw [List.length_append]; omega)
        · exact k0 rfl (fun _ e => nomatch e)
      · rw [hO2] at hv
        simp only [List.mem_cons, List.not_mem_nil, or_false] at hv
        rcases hv with rfl | rfl | rfl | rfl | rfl | rfl
        · exact k0 rfl (fun _ e => nomatch e)
        · exact k0 rfl (fun _ e => nomatch e)
        · exact k0 rfl (fun _ e => nomatch e)
        · exact k1_tup (fun x hx => (List.mem_append.mp hx).elim (kc _ _ x) (kc _ _ x)) (by have := hc none (some r); have := hc (some (r + 1)) none; rw [List.length_append]; omega)
        · exact k1_tup (fun x hx => by rw [List.mem_singleton.mp hx]; rfl) (by first | (simp; done) | (simp; omega))
        · exact k0 rfl (fun _ e => nomatch e)
    obtain ⟨t, S4, e4, t0, t1, p4⟩ := pick_pt P (top := 13) (pt_dead p2 .dead) (by omega) (by decide) (by decide)
    obtain ⟨v, hv, ev⟩ := sub_any P S4 (l := O1 ++ O2) t0 (by rw [List.length_append]; omega)
    refine ⟨.tup [.int z, v], S4, [.dead], ?_, p4.mono (by omega), pair _ _ (k1i _) (kO v hv)⟩
    rw [m__law_bent_book]
    refine def_rt ?_
    refine start _ _ ?_
    refine seq_nx' (if_nx (b := false) (x_Bt (x_T2 rfl rfl (by rw [eqT_int, decide_eq_false (by decide)]))) rfl) ?_
    refine seq_nx' (if_nx (b := false) (x_Bt (x_T2 rfl rfl (by rw [eqT_int, decide_eq_false (by decide)]))) rfl) ?_
    refine seq_rt (if_nx (b := true) (x_Bt (x_T2 rfl rfl (by rw [eqT_int, decide_eq_true rfl]))) ?_)
    rw [if_pos rfl]
    refine seq_nx' (S' := S2) (set_ok (d := .t (.tup tr)) ?_) ?_
    · rw [htr]
      have h1 := hc none (some r); have h2 := hc (some (r + 1)) (some (r + 2)); have h3 := hc (some r) (some (r + 1)); have h4 := hc (some (r + 2)) none
      exact x_T2 (x_T2 (x_T2 (x_slT rfl rfl (x_part rfl)) (x_slT rfl (x_part (cr _ 1 rfl)) (x_part (cr _ 2 rfl))) (ad _ _ (by omega) (by omega))) (x_slT rfl (x_part rfl) (x_part (cr _ 1 rfl))) (ad _ _ (by rw [List.length_append]; omega) (by omega))) (x_slT rfl (x_part (cr _ 2 rfl)) rfl) (ad _ _ (by rw [List.length_append, List.length_append]; omega) (by omega))
    refine seq_nx' (set_ok (x_lst (ts := O1) (S1 := S2 ++ [.dead]) (by
      rw [hO1]
      have h1 := hc (some (-1)) none; have h2 := hc (some r) (some (r + 1))
      exact x_cons (x_B1 rfl rfl)
        (x_cons (x_tup (ts := []) rfl (by simp))
        (x_cons (x_revT rfl)
        (x_cons rfl
        (x_cons (x_T2 rfl (x_slT rfl (x_part (x_neg rfl)) rfl) (ad _ _ (by omega) (by omega)))
        (x_cons (x_T2 (x_slT rfl (x_part rfl) (x_part (cr _ 1 rfl))) rfl (ad _ _ (by omega) (by omega)))
        (x_cons (S1 := S2 ++ [.dead]) (x_frzJ (x_dit1 (v := .bl true) rfl rfl (show T.tat (.tup (M.map T.str)) = some (M.map At.str) from ats_strs M)) (end_frzj P S2 (M.map At.str) (.bl true))) rfl))))))) (by rw [l1]; decide))) ?_
    have cr' : ∀ (ρ : En) (i : Int), ρ[5]? = some (some (D.t (.int r))) → mOp2 (lT2 addT) (mVar 5) (mC (.int i)) P ρ (S2 ++ [.dead]) = .ok (.t (.int (r + i))) (S2 ++ [.dead]) := fun ρ i h4 => x_T2 (by simp only [e_var, h4]) rfl (addT_int r i)
    refine seq_nx' (set_ok (x_T2 (y := .lst O2) rfl (x_lst (by
      rw [hO2]
      have h1 := hc none (some r); have h2 := hc (some (r + 1)) none
      exact x_cons (x_meth (d := .t (.str (cs ""))) rfl rfl (x_cons rfl rfl) (join_tup P (S2 ++ [.dead]) (by omega)))
        (x_cons rfl (x_cons rfl
        (x_cons (x_T2 (x_slT rfl rfl (x_part rfl)) (x_slT rfl (x_part (cr' _ 1 rfl)) rfl) (ad _ _ (by omega) (by omega)))
        (x_cons (x_tup (ts := [.tup (M.map T.str)]) (x_cons rfl rfl) (by simp))
        (x_cons (x_B1 (x_slT rfl rfl (x_part rfl)) rfl) rfl)))))) (by rw [l2]; decide)) (addT_lst (by omega)))) ?_
    exact ret_ok (x_tup (ts := [.int z, v]) (x_cons rfl (x_cons (x_op2 (S1 := S2 ++ [.dead]) rfl (x_call (ds := [.ref P.length, .t (.int 13)]) (x_cons rfl (x_cons rfl rfl)) e4) ev) rfl)) (by simp))
  · -- another window
    obtain ⟨x, hx, ex⟩ := sub_tupA P S2 (l := M.map T.str) r0 (by omega)
    obtain ⟨s, hs, rfl⟩ := List.mem_map.mp hx
    have hs2 := hM s hs
    obtain ⟨v, S4, e4, p4, kv⟩ := oddwin_ok P (x := s) p2 (by omega) hs2.1 (fun e => by have := hs2.2; rw [e] at this; simp at this; omega) (by omega)
    have h1 := hc none (some r); have h2 := hc (some (r + 1)) none
    refine ⟨.tup [.int z, .tup (cutL (M.map T.str) none (some r) ++ [v] ++ cutL (M.map T.str) (some (r + 1)) none)], S4, [], ?_, by rw [List.append_nil]; exact p4.mono (by omega), pair _ _ (k1i _) (k1_tup (fun x hx => ?_) (by simp only [List.length_append, List.length_singleton]; omega))⟩
    · rw [m__law_bent_book]
      refine def_rt ?_
      refine start _ _ ?_
      refine seq_nx' (if_nx (b := false) (x_Bt (x_T2 rfl rfl (by rw [eqT_int, decide_eq_false (by decide)]))) rfl) ?_
      refine seq_nx' (if_nx (b := false) (x_Bt (x_T2 rfl rfl (by rw [eqT_int, decide_eq_false (by decide)]))) rfl) ?_
      refine seq_nx' (if_nx (b := false) (x_Bt (x_T2 rfl rfl (by rw [eqT_int, decide_eq_false (by decide)]))) rfl) ?_
      exact ret_ok (x_tup (ts := [.int z, .tup (cutL (M.map T.str) none (some r) ++ [v] ++ cutL (M.map T.str) (some (r + 1)) none)]) (x_cons rfl (x_cons (x_T2 (x_T2 (x_slT rfl rfl (x_part rfl)) (x_tup (ts := [v]) (x_cons (x_call (ds := [.ref P.length, .t (.str s)]) (x_cons rfl (x_cons (x_op2 rfl rfl ex) rfl)) e4) rfl) (by simp)) (ad _ _ (by omega) (by simp))) (x_slT rfl (x_part (x_T2 rfl rfl (addT_int r 1))) rfl) (ad _ _ (by rw [List.length_append, List.length_singleton]; omega) (by omega))) rfl)) (by simp))
    · rcases List.mem_append.mp hx with hx | hx
      · rcases List.mem_append.mp hx with hx | hx
        · exact kc _ _ x hx
        · rw [List.mem_singleton.mp hx]; exact kv
      · exact kc _ _ x hx
end Lw

set_option maxHeartbeats 4000000
/-! P01d: the books -/
namespace Lw
open Fm
section
variable (P R X : List O) (p o u : O)
theorem at_m : (P ++ p :: (R ++ o :: X))[P.length + (R.length + 1)]? = some o := by
  rw [List.getElem?_append_right (by omega), show P.length + (R.length + 1) - P.length = R.length + 1 by omega, List.getElem?_cons_succ, List.getElem?_append_right (Nat.le_refl _), Nat.sub_self]; rfl
theorem rel_m : (p :: (R ++ o :: X))[P.length + (R.length + 1) - P.length]? = some o := by
  rw [show P.length + (R.length + 1) - P.length = R.length + 1 by omega, List.getElem?_cons_succ, List.getElem?_append_right (Nat.le_refl _), Nat.sub_self]; rfl
theorem set_m : (p :: (R ++ o :: X)).set (P.length + (R.length + 1) - P.length) u = p :: (R ++ u :: X) := by
  rw [show P.length + (R.length + 1) - P.length = R.length + 1 by omega, List.set_cons_succ, List.set_append_right _ _ (Nat.le_refl _), Nat.sub_self]; rfl
theorem kd_m (l : List D) : kdLst (.ref (P.length + (R.length + 1))) P (p :: (R ++ .lst l :: X)) = true := by
  unfold kdLst
  simp only
  rw [at_m]
theorem app_m (l : List D) (x : D) (h : l.length ≤ 1000) : appendG (.ref (P.length + (R.length + 1))) [x] P (p :: (R ++ .lst l :: X)) = some (.t .non, p :: (R ++ .lst (l ++ [x]) :: X)) := by
  unfold appendG cellL
  simp only
  rw [if_pos (by omega), rel_m]
  simp only
  rw [if_pos (by rw [szl]; omega), set_m]
theorem frz_m (ts : List T) : frzD P (.ref (P.length + (R.length + 1))) (p :: (R ++ .lst (ts.map D.t) :: X)) = some (.t (.lst ts), p :: (R ++ .dead :: X)) := by
  unfold frzD
  simp only
  rw [if_pos (by omega), rel_m]
  simp only [trees_map]
  rw [set_m]; rfl
end
theorem same2 (P S : List O) (b : Bool) : pureZ (m__law_same 6) [.t (.lst [.bl b, .bl b]), .t (.lst [.bl b, .bl b])] P S = .ok (.t (.bl true)) S := same_bls P S 4 [b, b] (by simp)
theorem book_form {v : T} (h : bookB v = true) {b : Nat} (h2 : K2 b v) : ∃ (z : Nat) (M : List Tx), v = bookT z M ∧ (2 ≤ z ∧ z ≤ 6) ∧ M ≠ [] ∧ M.length ≤ b ∧ ∀ x ∈ M, Small x ∧ x.length = z := by
  by_cases q : ∃ z m, v = .tup [.int z, .tup m]
  · obtain ⟨z, m, rfl⟩ := q
    have h : (decide (2 ≤ z ∧ z ≤ 6) && !decide (m.length = 0) && winsB z (.tup m)) = true := h
    rw [Bool.and_eq_true, Bool.and_eq_true] at h
    obtain ⟨⟨hz, h0⟩, hw⟩ := h
    have hz := of_decide_eq_true hz
    have lm := ((h2.2 _ rfl).1 (.tup m) (by simp)).2 m rfl
    have hw : (match strsOf m with | some M => decide (WinsB z M) | none => false) = true := hw
    cases e : strsOf m with
    | none => rw [e] at hw; exact (Bool.false_ne_true hw).elim
    | some M =>
      have := strsOf_eq e
      subst this
      have hw3 := hw
      rw [e] at hw3
      have hw : WinsB z M := of_decide_eq_true hw3
      refine ⟨z.toNat, M, ?_, by omega, fun e => by subst e; simp at h0, by have := lm.2; rwa [List.length_map] at this, fun x hx => ⟨(hw.1 x hx).1, by have := (hw.1 x hx).2; omega⟩⟩
      unfold bookT
      rw [show ((z.toNat : Nat) : Int) = z by omega]
  · exfalso
    cases v <;> first | exact Bool.false_ne_true h | skip
    rename_i l
    match l, h, q with
    | [], h, _ => exact Bool.false_ne_true h
    | [x], h, _ => cases x <;> exact Bool.false_ne_true h
    | [x, y], h, q => cases x <;> first | exact Bool.false_ne_true h | (cases y <;> first | exact Bool.false_ne_true h | exact q ⟨_, _, rfl⟩)
    | x :: y :: _ :: _, h, _ => cases x <;> first | exact Bool.false_ne_true h | (cases y <;> exact Bool.false_ne_true h)
theorem K1.mono {b c : Nat} {x : T} (h : K1 b x) (l : b ≤ c) : K1 c x := ⟨h.1, fun m e => ⟨(h.2 m e).1, Nat.le_trans (h.2 m e).2 l⟩⟩
theorem K2.mono {b c : Nat} {x : T} (h : K2 b x) (l : b ≤ c) : K2 c x := ⟨h.1, fun m e => ⟨fun y hy => ((h.2 m e).1 y hy).mono l, Nat.le_trans (h.2 m e).2 l⟩⟩
theorem k2_book {z b : Nat} {M : List Tx} (l : M.length ≤ b) (l2 : 2 ≤ b) : K2 b (bookT z M) := k2_tup (fun w hw => by
  rcases List.mem_cons.mp hw with rfl | hw
  · exact k1_n rfl rfl
  · rw [List.mem_singleton.mp hw]; exact k1_tup (k0_strs M) (by rw [List.length_map]; exact l)) (by simp; omega)
theorem isbook_any (P S : List O) {v : T} {b : Nat} (hb : b ≤ 4000) (h : K2 b v) : pureZ m_is_book [.t v] P S = .ok (.t (.bl (bookB v))) S := by
  refine pureZ_t (S' := []) ?_
  have e := isabook_v (P ++ S) [] hb h
  rw [m_is_book]
  exact x_retB (x_call (ds := [.t v]) (x_cons rfl rfl) e)
theorem booksright_ok (P : List O) {n z : Nat} {S : List O} {W : List Tx} (h : Pt n [] S) (hn : n < 10 ^ 12) (hz : 2 ≤ z ∧ z ≤ 6) (W0 : W ≠ []) (few : W.length ≤ 40) (hW : ∀ x ∈ W, Small x ∧ x.length = z) :
    ∃ S', keepF m__law_books_right [.ref P.length, .t (bookT z W)] P S = .ok (.t (.bl true)) S' ∧ Pt (n + 60) [] S' := by
  obtain ⟨ys, S1, e1, ⟨X, p1⟩, l1, r1⟩ := lc_inv (g := gN 3) (ft := mYes) (P := P) (fe := mCall m__law_bent_book (mCons (mVar 0) (mCons (mVar 1) mNil)))
    (ρ := [some (.ref P.length), some (.t (bookT z W)), none, none, none, none])
    (fun k S => ∃ X, Pt (n + 10 * k) ([] ++ X) S) (fun y => ∃ x : T, y = D.t x ∧ K2 200 x) 4 (rngOf 0 4) 0 S (by rw [rngOf_len]; decide) (fun d hd k S hk ⟨X, hI⟩ => by
      obtain ⟨v, S', X', e, p, kv⟩ := bent_ok P hI (by omega) hz W0 (by omega) hW
      exact ⟨_, .t v, S', rfl, rfl, x_call (ds := [.ref P.length, .t (bookT z W)]) (x_cons rfl (x_cons rfl rfl)) e, ⟨X ++ X', by rw [← List.append_assoc]; exact p.mono (by omega)⟩, v, rfl, kv.mono (by omega)⟩) ⟨[], h⟩
  obtain ⟨vs, rfl, hvs⟩ := choice_map ys r1
  rw [List.length_map, rngOf_len] at l1
  rw [rngOf_len, List.nil_append] at p1
  have p1 : Pt (n + 40) X S1 := p1.mono (by have : (4 - 0 : Int).toNat = 4 := rfl; omega)
  have l1 : vs.length = 4 := l1
  obtain ⟨v1, v2, v3, v4, rfl⟩ : ∃ v1 v2 v3 v4, vs = [v1, v2, v3, v4] := by
    match vs, l1 with
    | [a, b, c, d], _ => exact ⟨a, b, c, d, rfl⟩
  have k4 := hvs v4 (by simp)
  have e2 := islawbook_v P (S1 ++ [.lst [.t (bookT z W), .t v1, .t v2, .t v3, .t v4]]) (b := 200) (by decide) k4
  obtain ⟨a, b, c, rfl, hc1, hc2⟩ := p1
  have p2 : Pt (n + 40) (X ++ [.lst [.t (bookT z W), .t v1, .t v2, .t v3, .t v4]]) (pot a b c :: (X ++ [.lst [.t (bookT z W), .t v1, .t v2, .t v3, .t v4]])) := ⟨a, b, c, rfl, hc1, hc2⟩
  have hlast : ∀ ρ : En, ρ[2]? = some (some (.ref (P.length + (X.length + 1)))) → mOp2 subG (mVar 2) (mOp1 (lT1 negT) (mC (.int 1))) P ρ (pot a b c :: (X ++ [.lst [.t (bookT z W), .t v1, .t v2, .t v3, .t v4]])) = .ok (.t v4) (pot a b c :: (X ++ [.lst [.t (bookT z W), .t v1, .t v2, .t v3, .t v4]])) := fun ρ h2 => x_op2 (by rw [e_var, h2]) (x_neg rfl) (by
    have := at_m P X [] (pot a b c) (.lst [.t (bookT z W), .t v1, .t v2, .t v3, .t v4])
    simp only [subG, seqIx, this]
    rfl)
  -- the sixth value
  obtain ⟨v5, S2, X2, e3, kv5, p3⟩ : ∃ v5 S2 X2, mIf (mT (mCall (pureZ m__law_is_book) (mCons (mOp2 subG (mVar 2) (mOp1 (lT1 negT) (mC (.int 1)))) mNil))) (mCall m__law_bent_book (mCons (mVar 0) (mCons (mOp2 subG (mVar 2) (mOp1 (lT1 negT) (mC (.int 1)))) mNil))) (mVar 1) P
      [some (.ref P.length), some (.t (bookT z W)), some (.ref (P.length + (X.length + 1))), none, none, none] (pot a b c :: (X ++ [.lst [.t (bookT z W), .t v1, .t v2, .t v3, .t v4]])) = .ok (.t v5) S2 ∧ K2 4000 v5 ∧ Pt (n + 50) (X ++ .lst [.t (bookT z W), .t v1, .t v2, .t v3, .t v4] :: X2) S2 := by
    have e2' : pureZ m__law_is_book [.t v4] P (pot a b c :: (X ++ [.lst [.t (bookT z W), .t v1, .t v2, .t v3, .t v4]])) = .ok (.t (.bl (bookB v4))) (pot a b c :: (X ++ [.lst [.t (bookT z W), .t v1, .t v2, .t v3, .t v4]])) := e2
    have ht : mT (mCall (pureZ m__law_is_book) (mCons (mOp2 subG (mVar 2) (mOp1 (lT1 negT) (mC (.int 1)))) mNil)) P [some (.ref P.length), some (.t (bookT z W)), some (.ref (P.length + (X.length + 1))), none, none, none] (pot a b c :: (X ++ [.lst [.t (bookT z W), .t v1, .t v2, .t v3, .t v4]])) = .ok (bookB v4) (pot a b c :: (X ++ [.lst [.t (bookT z W), .t v1, .t v2, .t v3, .t v4]])) :=
      x_Tt (x_call (ds := [.t v4]) (x_cons (hlast _ rfl) rfl) e2')
    by_cases cb : bookB v4 = true
    · obtain ⟨z', M, rfl, hz', M0, lM, hM⟩ := book_form cb k4
      rw [cb] at ht
      obtain ⟨v5, S2, X2, e, p, kv⟩ := bent_ok P p2 (by omega) hz' M0 (by omega) hM
      exact ⟨v5, S2, X2, x_if ht (by rw [if_pos rfl]; exact x_call (ds := [.ref P.length, .t (bookT z' M)]) (x_cons rfl (x_cons (hlast _ rfl) rfl)) e), kv.mono (by omega), by rw [List.append_assoc] at p; exact p⟩
    · rw [Bool.eq_false_iff.mpr cb] at ht
      exact ⟨bookT z W, _, [], x_if ht rfl, k2_book (by omega) (by omega), p2.mono (by omega)⟩
  obtain ⟨a2, b2, c2, rfl, hc21, hc22⟩ := p3
  -- all judged
  have kAll : ∀ v ∈ [bookT z W, v1, v2, v3, v4, v5], K2 4000 v := fun v hv => by
    simp only [List.mem_cons, List.not_mem_nil, or_false] at hv
    rcases hv with rfl | rfl | rfl | rfl | rfl | rfl
    · exact k2_book (by omega) (by omega)
    · exact (hvs _ (by simp)).mono (by omega)
    · exact (hvs _ (by simp)).mono (by omega)
    · exact (hvs _ (by simp)).mono (by omega)
    · exact (hvs _ (by simp)).mono (by omega)
    · exact kv5
  generalize hvl : [bookT z W, v1, v2, v3, v4, v5] = vl at kAll
  obtain ⟨ρ3, S3, e4, d4, d5, rfl, rfl⟩ := for_inv (g := gN 4) (P := P) (fb := (sSeq (sSet 5 (mCall (pureZ m__law_is_book) (mCons (mVar 4) mNil))) (sIf (mNotT (mT (mCall (pureZ (m__law_same 6)) (mCons (mLst (mCons (mCall (pureZ m_is_book) (mCons (mVar 4) mNil)) (mCons (mCallK (pureZ m_is_book) 0 1 [0] mNil (mCons (mVar 4) mNil)) mNil))) (mCons (mLst (mCons (mVar 5) (mCons (mVar 5) mNil))) mNil))))) (sRet (mC (.bl false))) sNil)))
    (fun _ ρ S => ∃ (d4 d5 : Option D), ρ = [some (.ref P.length), some (.t (bookT z W)), some (.t (.lst vl)), none, d4, d5] ∧ S = pot a2 b2 c2 :: (X ++ .dead :: X2))
    (vl.map D.t) 0 [some (.ref P.length), some (.t (bookT z W)), some (.t (.lst vl)), none, none, none] (pot a2 b2 c2 :: (X ++ .dead :: X2))
    (fun i d ρ S hd ⟨d4, d5, hρ, hS⟩ => by
      subst hρ hS
      obtain ⟨v, hv, rfl⟩ := List.mem_map.mp (List.mem_of_getElem? hd)
      have f1 := islawbook_v P (pot a2 b2 c2 :: (X ++ .dead :: X2)) (Nat.le_refl _) (kAll v hv)
      have f2 := isbook_any P (pot a2 b2 c2 :: (X ++ .dead :: X2)) (Nat.le_refl _) (kAll v hv)
      refine ⟨_, rfl, [some (.ref P.length), some (.t (bookT z W)), some (.t (.lst vl)), none, some (.t v), some (.t (.bl (bookB v)))], _, .inl ?_, _, _, rfl, rfl⟩
      refine seq_nx' (set_ok (x_call (ds := [.t v]) (x_cons rfl rfl) f1)) ?_
      exact if_nx (b := false) (x_notT (b := true) (x_Tt (x_call (ds := [.t (.lst [.bl (bookB v), .bl (bookB v)]), .t (.lst [.bl (bookB v), .bl (bookB v)])]) (x_cons (x_lst (ts := [.bl (bookB v), .bl (bookB v)]) (x_cons (x_call (ds := [.t v]) (x_cons rfl rfl) f2) (x_cons (x_callK (ds := []) (zs := [.t v]) rfl (x_cons rfl rfl) ⟨rfl, rfl⟩ f2) rfl)) (by simp)) (x_cons (x_lst (ts := [.bl (bookB v), .bl (bookB v)]) (x_cons rfl (x_cons rfl rfl)) (by simp)) rfl)) (same2 P _ (bookB v))))) rfl)
    ⟨none, none, rfl, rfl⟩
  obtain ⟨_, _, _, eSh, _, _⟩ := h
  refine ⟨[pot a2 b2 c2], keep_ok (S1 := [pot a2 b2 c2]) (X := X ++ .dead :: X2) ?_ (by rw [eSh]; rfl) rfl, a2, b2, c2, rfl, hc21, by omega⟩
  rw [m__law_books_right]
  refine def_rt ?_
  show b__law_books_right P [some (.ref P.length), some (.t (bookT z W)), none, none, none, none] S = _
  unfold b__law_books_right
  refine seq_nx' (ρ' := [some (.ref P.length), some (.t (bookT z W)), some (.ref (P.length + (X.length + 1))), none, none, none]) (S' := pot a b c :: (X ++ [.lst [.t (bookT z W), .t v1, .t v2, .t v3, .t v4]])) ?_ ?_
  · refine set_ok (x_op2 (S1 := S) (x_lst (ts := [bookT z W]) (x_cons rfl rfl) (by simp)) (x_lc (ts := [v1, v2, v3, v4]) (x_I (ds := [.t (.int 4)]) (x_cons rfl rfl) (rng1_ok (j := 4) ⟨by decide, by decide⟩)) e1) ?_)
    rfl
  refine seq_nx' (x_expr (x_meth (d := .ref (P.length + (X.length + 1))) rfl (kd_m P X [] _ _) (x_cons e3 rfl) (app_m P X X2 _ _ _ (by simp)))) ?_
  have fz := frz_m P X X2 (pot a2 b2 c2) vl
  rw [← hvl] at fz
  refine seq_nx' (x_frz P _ rfl fz) ?_
  rw [hvl]
  exact seq_nx' (for_ok (ds := vl.map D.t) (x_It rfl rfl) e4) (ret_ok rfl)
end Lw

set_option maxHeartbeats 4000000
/-! P01e: pieces and ring texts judged -/
namespace Lw
open Fm
theorem lst_in {x : Tx} (h : x ≠ []) : x.getD (x.length - 1) 0 ∈ x := by
  have := List.length_pos_iff.mpr h
  rw [List.getD_eq_getElem?_getD, List.getElem?_eq_getElem (by omega)]
  exact List.getElem_mem _
noncomputable abbrev pcB : MS := (sSeq (sSet 6 (mLcG finT (mIt (mOp2 subG (mVar 1) (mC (.int 1)))) (gN 7) [7] (mB (mOp2 (lT2 eqT) (mSl (mVar 7) none (some (mOp1 (lT1 negT) (mC (.int 1))))) (mSl (mVar 3) (some (mOp2 (lT2 subT) (mC (.int 1)) (mVar 4))) none))) (mVar 7))) (sIf (mB (mOp2 (lT2 neT) (mVar 6) (mLst mNil))) (sSet 3 (mOp2 (lT2 addT) (mVar 3) (mOp2 subG (mOp2 subG (mVar 6) (mCall m__law_pick (mCons (mVar 0) (mCons (mCallB lenG (mCons (mVar 6) mNil)) mNil)))) (mOp1 (lT1 negT) (mC (.int 1)))))) sNil))
theorem pcB_ok (P : List O) {n z : Nat} {R S : List O} {W : List Tx} {t : Tx} {d2 o5 o6 : Option D} (h : Pt n R S) (hn : n < 10 ^ 14) (w : Wins z W) (hz : 2 ≤ z ∧ z ≤ 6) (few : W.length ≤ 100) (lt : t.length ≤ 1000) (o : Small t) :
    ∃ t' o6' S', pcB P [some (.ref P.length), some (.t (bookT z W)), d2, some (.t (.str t)), some (.t (.int z)), o5, o6, none] S = .nx [some (.ref P.length), some (.t (bookT z W)), d2, some (.t (.str t')), some (.t (.int z)), o5, o6', none] S' ∧ Pt (n + 1) R S' ∧ t.length ≤ t'.length ∧ t'.length ≤ t.length + 1 ∧ Small t' := by
  obtain ⟨tail, ht⟩ : ∃ x, x = cutL t (some (1 - (z : Int))) none := ⟨_, rfl⟩
  have e1 := lc_filter (g := gN 7) (ft := (mB (mOp2 (lT2 eqT) (mSl (mVar 7) none (some (mOp1 (lT1 negT) (mC (.int 1))))) (mSl (mVar 3) (some (mOp2 (lT2 subT) (mC (.int 1)) (mVar 4))) none)))) (fe := mVar 7) (P := P) (S := S)
    (ρ := [some (.ref P.length), some (.t (bookT z W)), d2, some (.t (.str t)), some (.t (.int z)), o5, o6, none]) (fun x => D.t (.str x)) (fun x => decide (bgn x = tail)) (fun x => D.t (.str x)) W (fun x _ => by
      refine ⟨_, rfl, x_Bt (x_T2 (x_slS rfl rfl (x_part (x_neg rfl))) (x_slS rfl (x_part (x_T2 rfl rfl (subT_int 1 z))) rfl) ?_), fun _ => rfl⟩
      rw [cut_bgn, ← ht, eqT_str])
  generalize hL : W.filter (fun x => decide (bgn x = tail)) = L at e1
  have hLW : ∀ x ∈ L, x ∈ W := fun x hx => by rw [← hL] at hx; exact (List.mem_filter.mp hx).1
  have lL : L.length ≤ W.length := by rw [← hL]; exact List.length_filter_le _ _
  have e2 : mLcG finT (mIt (mOp2 subG (mVar 1) (mC (.int 1)))) (gN 7) [7] (mB (mOp2 (lT2 eqT) (mSl (mVar 7) none (some (mOp1 (lT1 negT) (mC (.int 1))))) (mSl (mVar 3) (some (mOp2 (lT2 subT) (mC (.int 1)) (mVar 4))) none))) (mVar 7) P [some (.ref P.length), some (.t (bookT z W)), d2, some (.t (.str t)), some (.t (.int z)), o5, o6, none] S = .ok (.t (.lst (L.map T.str))) S :=
    x_lc (x_It (x_op2 rfl rfl (bk1 P S z W)) (items_tup P W)) (e1.trans (by rw [List.map_map]; rfl))
  have nn := ne_nil L
  by_cases c : L = []
  · rw [decide_eq_true c] at nn
    exact ⟨t, _, S, seq_nx' (set_ok e2) (if_nx (b := false) (x_Bt (x_T2 rfl (x_lst (ts := []) rfl (by simp)) nn)) rfl), h.mono (by omega), Nat.le_refl _, by omega, o⟩
  · rw [decide_eq_false c] at nn
    have hp := List.length_pos_iff.mpr c
    obtain ⟨r, S1, e3, r0, r1, p1⟩ := pick_pt P (top := L.length) h (by omega) (by omega) (by omega)
    obtain ⟨x, hx, ex⟩ := strs_pick P S1 r0 r1
    have hxW := hLW x hx
    have xne : x ≠ [] := fun e => by have := w.len x hxW; rw [e] at this; simp at this; omega
    have lL' : lenG [.t (.lst (L.map T.str))] P S = some (.t (.int L.length), S) := by rw [len_lst, List.length_map]
    refine ⟨t ++ [x.getD (x.length - 1) 0], some (.t (.lst (L.map T.str))), S1, seq_nx' (set_ok e2) (if_nx (b := true) (x_Bt (x_T2 rfl (x_lst (ts := []) rfl (by simp)) nn)) ?_), p1, by simp, by simp, small_app o fun d hd => ?_⟩
    · rw [if_pos rfl]
      exact set_ok (x_T2 rfl (x_op2 (x_op2 (S1 := S) rfl (x_call (ds := [.ref P.length, .t (.int L.length)]) (x_cons rfl (x_cons (x_B (x_cons rfl rfl) lL') rfl)) e3) ex) (x_neg rfl) (sub_last P S1 xne)) (addT_str (by rw [szl]; simp; omega)))
    · rw [List.mem_singleton.mp hd]
      exact w.sm x hxW _ (lst_in xne)
theorem piece_ok (P : List O) {n z : Nat} {R S : List O} {W : List Tx} (h : Pt n R S) (hn : n < 10 ^ 12) (w : Wins z W) (hz : 2 ≤ z ∧ z ≤ 6) (few : W.length ≤ 100) :
    ∃ t S', m__law_piece [.ref P.length, .t (bookT z W), .t (.int 60)] P S = .ok (.t (.str t)) S' ∧ Pt (n + 100) R S' ∧ Small t ∧ t ≠ [] ∧ t.length ≤ 80 := by
  have hWp := List.length_pos_iff.mpr w.ne
  obtain ⟨q, S1, e1, q0, q1, p1⟩ := pick_pt P (top := W.length) h (by omega) (by omega) (by omega)
  obtain ⟨x, hx, ex⟩ := sub_tupA P S1 (l := W.map T.str) q0 (by rw [List.length_map]; omega)
  obtain ⟨s, hs, rfl⟩ := List.mem_map.mp hx
  have ls := w.len s hs
  obtain ⟨m, S2, e2, m0, m1, p2⟩ := pick_pt P (top := 60 - (z : Int) + 1) p1 (by omega) (by omega) (by omega)
  obtain ⟨ρ', S', e3, b, o5, o6, rfl, p3, lb1, lb2, sb⟩ := for_inv (g := gN 5) (P := P) (fb := pcB)
    (fun i ρ S => ∃ (b : Tx) (o5 o6 : Option D), ρ = [some (.ref P.length), some (.t (bookT z W)), some (.t (.int 60)), some (.t (.str b)), some (.t (.int z)), o5, o6, none] ∧ Pt (n + 2 + i) R S ∧ z ≤ b.length ∧ b.length ≤ z + i ∧ Small b)
    (rngOf 0 m) 0 [some (.ref P.length), some (.t (bookT z W)), some (.t (.int 60)), some (.t (.str s)), some (.t (.int z)), none, none, none] S2
    (fun i d ρ S hd ⟨b, o5, o6, hρ, hp, l1, l2, sb⟩ => by
      subst hρ
      obtain ⟨rfl, hlt⟩ := rngOf_at hd
      rw [Nat.zero_add] at *
      obtain ⟨b', o6', S', e, p, l3, l4, sb'⟩ := pcB_ok P (d2 := some (.t (.int 60))) (o5 := some (.t (.int (0 + (i : Int))))) (o6 := o6) hp (by omega) w hz few (by omega) sb
      exact ⟨_, rfl, _, S', .inl e, b', _, o6', rfl, p, by omega, by omega, sb'⟩)
    ⟨s, none, none, rfl, p2, by omega, by omega, w.sm s hs⟩
  rw [Nat.zero_add, rngOf_len] at p3 lb2
  refine ⟨b, S', ?_, p3.mono (by omega), sb, fun e => by rw [e] at lb1; simp at lb1; omega, by omega⟩
  rw [m__law_piece]
  refine def_rt ?_
  show b__law_piece P [some (.ref P.length), some (.t (bookT z W)), some (.t (.int 60)), none, none, none, none, none] S = _
  unfold b__law_piece
  have lenW : lenG [.t (.tup (W.map T.str))] P S = some (.t (.int W.length), S) := by rw [len_tup, List.length_map]
  refine seq_nx' (x_asg (ρ1 := [some (.ref P.length), some (.t (bookT z W)), some (.t (.int 60)), some (.t (.str s)), some (.t (.int z)), none, none, none]) (x_tup (ts := [.str s, .int z]) (x_cons (x_op2 (S1 := S) (x_op2 rfl rfl (bk1 P S z W)) (x_call (ds := [.ref P.length, .t (.int W.length)]) (x_cons rfl (x_cons (x_B (x_cons (x_op2 rfl rfl (bk1 P S z W)) rfl) lenW) rfl)) e1) ex) (x_cons (x_op2 rfl rfl (bk0 P S1 z W)) rfl)) (by simp)) rfl) ?_
  refine seq_nx' (for_ok (ds := rngOf 0 m) (x_I (ds := [.t (.int m)]) (x_cons (x_call (ds := [.ref P.length, .t (.int (60 - (z : Int) + 1))]) (x_cons rfl (x_cons (x_T2 (x_T2 rfl rfl (subT_int _ _)) rfl (addT_int _ _)) rfl)) e2) rfl) (rng1_ok (j := m) ⟨by omega, by omega⟩)) e3) ?_
  exact ret_ok rfl
theorem oddtx_ok (P : List O) {n : Nat} {R S : List O} {x : Tx} (h : Pt n R S) (hn : n < 10 ^ 14) (sx : Small x) (x0 : x ≠ []) (lx : x.length ≤ 100) :
    ∃ vs S', m__law_odd_texts [.ref P.length, .t (.str x)] P S = .ok (.t (.lst vs)) S' ∧ Pt (n + 10) R S' ∧ ∀ v ∈ vs, K0 v ∧ ∀ s, v = .str s → s.length ≤ 1000 := by
  have xp := List.length_pos_iff.mpr x0
  obtain ⟨r, S1, e1, r0, r1, p1⟩ := pick_pt P (top := x.length) h (by omega) (by omega) (by omega)
  obtain ⟨q, S2, e2, q0, q1, p2⟩ := pick_pt P (top := 5) p1 (by omega) (by decide) (by decide)
  obtain ⟨c, _, _, e3⟩ := sub_str P S2 (s := cs "abcdz") q0 (by show q < 5; omega)
  have hc := fun (i j : Option Int) => cutL_len x i j
  have ad : ∀ a b : Tx, a.length ≤ 1000 → b.length ≤ 1000 → addT (.str a) (.str b) = some (.str (a ++ b)) := fun a b h1 h2 => addT_str (by rw [szl]; omega)
  have up := x_upper (s := x) (fun c hc => by have := (sx c hc).2; omega) (by omega) P S2
  have ln : (cs "\n").length = 1 := by decide
  have lb : (cs " ").length = 1 := by decide
  have l1' : (cs "1").length = 1 := by decide
  have c1 := hc none (some r); have c2 := hc (some (r + 1)) none; have c3 := hc (some r) none
  obtain ⟨O1, hO1⟩ : ∃ O1 : List T, O1 = [.str x, .str (cutL x none (some r) ++ [c] ++ cutL x (some (r + 1)) none), .str (cutL x none (some r) ++ [c] ++ cutL x (some r) none), .str (cutL x none (some r) ++ cutL x (some (r + 1)) none), .str (cutL x none (some r))] := ⟨_, rfl⟩
  obtain ⟨O2, hO2⟩ : ∃ O2 : List T, O2 = [.str (cutL x (some r) none), .str (x ++ x), .str x.reverse, .str (x.map PyProof.Rows.up1), .str (x ++ cs "\n"), .str (cutL x none (some r) ++ cs " " ++ cutL x (some r) none), .str (cs ""), .str (cs "a")] := ⟨_, rfl⟩
  obtain ⟨O3, hO3⟩ : ∃ O3 : List T, O3 = [.lst (x.map fun c => .str [c]), .tup (x.map fun c => .str [c]), .lst [.str x], .tup [.str x], .non, .int 7, .bl true, .dic [(.str (cs "a"), .str x)], .str (cutL x none (some r) ++ cs "1" ++ cutL x (some (r + 1)) none)] := ⟨_, rfl⟩
  have l1 : O1.length = 5 := by rw [hO1]; rfl
  have l2 : O2.length = 8 := by rw [hO2]; rfl
  have l3 : O3.length = 9 := by rw [hO3]; rfl
  have k : ∀ v ∈ O1 ++ O2 ++ O3, K0 v ∧ ∀ s, v = .str s → s.length ≤ 1000 := fun v hv => by
    have st : ∀ s : Tx, s.length ≤ 1000 → K0 (.str s) ∧ ∀ t, T.str s = .str t → t.length ≤ 1000 := fun s hs => ⟨rfl, fun t e => by cases e; exact hs⟩
    have ot : ∀ v : T, K0 v → isStr v = false → K0 v ∧ ∀ t, v = .str t → t.length ≤ 1000 := fun v hv hn => ⟨hv, fun t e => by rw [e] at hn; exact (Bool.false_ne_true hn.symm).elim⟩
    rcases List.mem_append.mp hv with hv | hv
    · rcases List.mem_append.mp hv with hv | hv
      · rw [hO1] at hv
        simp only [List.mem_cons, List.not_mem_nil, or_false] at hv
        rcases hv with rfl | rfl | rfl | rfl | rfl <;> exact st _ (by first | omega | (simp only [List.length_append, List.length_singleton]; omega))
      · rw [hO2] at hv
        simp only [List.mem_cons, List.not_mem_nil, or_false] at hv
        rcases hv with rfl | rfl | rfl | rfl | rfl | rfl | rfl | rfl
        · exact st _ (by omega)
        · exact st _ (by rw [List.length_append]; omega)
        · exact st _ (by rw [List.length_reverse]; omega)
        · exact st _ (by rw [List.length_map]; omega)
        · exact st _ (by rw [List.length_append]; omega)
        · exact st _ (by rw [List.length_append, List.length_append]; omega)
        · exact st _ (by decide)
        · exact st _ (by decide)
    · rw [hO3] at hv
      simp only [List.mem_cons, List.not_mem_nil, or_false] at hv
      rcases hv with rfl | rfl | rfl | rfl | rfl | rfl | rfl | rfl | rfl
      · exact ot _ rfl rfl
      · exact ot _ rfl rfl
      · exact ot _ rfl rfl
      · exact ot _ rfl rfl
      · exact ot _ rfl rfl
      · exact ot _ rfl rfl
      · exact ot _ rfl rfl
      · exact ot _ rfl rfl
      · exact st _ (by rw [List.length_append, List.length_append]; omega)
  have lO : (O1 ++ O2 ++ O3).length = 22 := by rw [List.length_append, List.length_append]; omega
  obtain ⟨ys, S3, e5, p5, l5, r5⟩ := lc_inv (g := gN 5) (ft := mYes) (P := P) (fe := mOp2 subG (mVar 4) (mCall m__law_pick (mCons (mVar 0) (mCons (mCallB lenG (mCons (mVar 4) mNil)) mNil))))
    (ρ := [some (.ref P.length), some (.t (.str x)), some (.t (.int r)), some (.t (.str [c])), some (.t (.lst (O1 ++ O2 ++ O3))), none])
    (fun k S => Pt (n + 2 + k) R S) (fun y => ∃ v : T, y = D.t v ∧ (K0 v ∧ ∀ s, v = .str s → s.length ≤ 1000)) 4 (rngOf 0 4) 0 S2 (by rw [rngOf_len]; decide) (fun d hd k' S hk hI => by
      obtain ⟨t, S', e, a, b, p⟩ := pick_pt P (top := ((O1 ++ O2 ++ O3).length : Int)) hI (by omega) (by omega) (by omega)
      obtain ⟨v, hv, ev⟩ := sub_any P S' a b
      exact ⟨_, .t v, S', rfl, rfl, x_op2 (S1 := S) rfl (x_call (ds := [.ref P.length, .t (.int ((O1 ++ O2 ++ O3).length : Nat))]) (x_cons rfl (x_cons (x_B (x_cons rfl rfl) (len_lst _ _ _)) rfl)) e) ev, p.mono (by omega), v, rfl, k v hv⟩) p2
  obtain ⟨vs, rfl, hvs⟩ := choice_map ys r5
  rw [List.length_map, rngOf_len] at l5
  have l5 : vs.length = 4 := l5
  refine ⟨vs ++ [.str x], S3, ?_, p5.mono (by rw [rngOf_len]; omega), fun v hv => ?_⟩
  · rw [m__law_odd_texts]
    refine def_rt ?_
    show b__law_odd_texts P [some (.ref P.length), some (.t (.str x)), none, none, none, none] S = _
    have cr : ∀ (ρ : En), ρ[2]? = some (some (D.t (.int r))) → mOp2 (lT2 addT) (mVar 2) (mC (.int 1)) P ρ S2 = .ok (.t (.int (r + 1))) S2 := fun ρ h4 => x_T2 (by simp only [e_var, h4]) rfl (addT_int r 1)
    unfold b__law_odd_texts
    refine seq_nx' (x_par2 (x_cons (x_call (ds := [.ref P.length, .t (.int x.length)]) (x_cons rfl (x_cons (x_B (x_cons rfl rfl) (len_str _ _ _)) rfl)) e1) (x_cons (x_op2 (S1 := S1) rfl (x_call (ds := [.ref P.length, .t (.int 5)]) (x_cons rfl (x_cons rfl rfl)) e2) e3) rfl))) ?_
    refine seq_nx' (set_ok (x_lst (ts := O1) (S1 := S2) (by
      rw [hO1]
      exact x_cons rfl
        (x_cons (x_T2 (x_T2 (x_slS rfl rfl (x_part rfl)) rfl (ad _ _ (by omega) (by simp))) (x_slS rfl (x_part (cr _ rfl)) rfl) (ad _ _ (by simp; omega) (by omega)))
        (x_cons (x_T2 (x_T2 (x_slS rfl rfl (x_part rfl)) rfl (ad _ _ (by omega) (by simp))) (x_slS rfl (x_part rfl) rfl) (ad _ _ (by simp; omega) (by omega)))
        (x_cons (x_T2 (x_slS rfl rfl (x_part rfl)) (x_slS rfl (x_part (cr _ rfl)) rfl) (ad _ _ (by omega) (by omega)))
        (x_cons (x_slS rfl rfl (x_part rfl)) rfl))))) (by rw [l1]; decide))) ?_
    refine seq_nx' (set_ok (x_T2 (y := .lst O2) rfl (x_lst (by
      rw [hO2]
      exact x_cons (x_slS rfl (x_part rfl) rfl)
        (x_cons (x_T2 rfl rfl (ad _ _ (by omega) (by omega)))
        (x_cons (rev_s P S2 rfl)
        (x_cons (x_meth rfl rfl rfl up)
        (x_cons (x_T2 rfl rfl (ad _ _ (by omega) (by decide)))
        (x_cons (x_T2 (x_T2 (x_slS rfl rfl (x_part rfl)) rfl (ad _ _ (by omega) (by decide))) (x_slS rfl (x_part rfl) rfl) (ad _ _ (by rw [List.length_append]; omega) (by omega)))
        (x_cons rfl (x_cons rfl rfl)))))))) (by rw [l2]; decide)) (addT_lst (by omega)))) ?_
    refine seq_nx' (set_ok (x_T2 (y := .lst O3) rfl (x_lst (by
      rw [hO3]
      exact x_cons (x_B (x_cons rfl rfl) rfl)
        (x_cons (x_B (x_cons rfl rfl) rfl)
        (x_cons (x_lst (ts := [.str x]) (x_cons rfl rfl) (by simp))
        (x_cons (x_tup (ts := [.str x]) (x_cons rfl rfl) (by simp))
        (x_cons rfl (x_cons rfl (x_cons rfl
        (x_cons (x_dic1 rfl rfl rfl)
        (x_cons (x_T2 (x_T2 (x_slS rfl rfl (x_part rfl)) rfl (ad _ _ (by omega) (by decide))) (x_slS rfl (x_part (cr _ rfl)) rfl) (ad _ _ (by rw [List.length_append]; omega) (by omega))) rfl))))))))) (by rw [l3]; decide)) (addT_lst (by rw [List.length_append]; omega)))) ?_
    exact ret_ok (x_T2 (x_lc (ts := vs) (x_I (ds := [.t (.int 4)]) (x_cons rfl rfl) (rng1_ok (j := 4) ⟨by decide, by decide⟩)) e5) (x_lst (ts := [.str x]) (x_cons rfl rfl) (by simp)) (addT_lst (by simp; omega)))
  · rcases List.mem_append.mp hv with hv | hv
    · exact hvs v hv
    · rw [List.mem_singleton.mp hv]
      exact ⟨rfl, fun s e => by cases e; omega⟩
open Classical in
noncomputable def pieceB (z : Nat) (W : List Tx) : T → Bool
  | .str s => decide (Small s ∧ Pc z W s)
  | _ => false
open Classical in
theorem lawpiece_v (P S : List O) {z : Nat} {W : List Tx} {v : T} (w : Wins z W) (hz : 2 ≤ z ∧ z ≤ 6) (hv : K0 v ∧ ∀ s, v = .str s → s.length ≤ 1000) : pureZ m__law_is_piece [.t (bookT z W), .t v] P S = .ok (.t (.bl (pieceB z W v))) S := by
  refine pureZ_t (S' := []) ?_
  generalize P ++ S = P'
  have e1 := islawword_v P' [] (k := z) hv.1
  rw [m__law_is_piece]
  refine def_rt ?_
  show b__law_is_piece P' [some (.t (bookT z W)), some (.t v), none, none] [] = _
  unfold b__law_is_piece
  refine seq_nx' (set_ok (x_op2 rfl rfl (bk0 P' [] z W))) ?_
  by_cases c : lwordB z v = true
  · obtain ⟨s, rfl⟩ : ∃ s, v = .str s := by cases v <;> first | exact ⟨_, rfl⟩ | exact (Bool.false_ne_true c).elim
    have hs : z ≤ s.length ∧ Small s := of_decide_eq_true c
    have ls := hv.2 s rfl
    rw [c] at e1
    refine seq_nx' (if_nx (b := false) (x_notT (b := true) (x_Tt (x_call (ds := [.t (.str s), .t (.int z)]) (x_cons rfl (x_cons rfl rfl)) e1))) rfl) ?_
    have e2 := lc_filter (g := gN 3) (ft := (mB (mOp2 (inG true) (mSl (mVar 1) (some (mVar 3)) (some (mOp2 (lT2 addT) (mVar 3) (mVar 2)))) (mOp2 subG (mVar 0) (mC (.int 1)))))) (fe := mVar 3) (P := P') (S := [])
      (ρ := [some (.t (bookT z W)), some (.t (.str s)), some (.t (.int z)), none]) (fun k : Nat => D.t (.int (k : Int))) (fun k => !decide ((s.drop k).take z ∈ W)) (fun k => D.t (.int (k : Int))) (List.range (s.length + 1 - z)) (fun k _ => by
        refine ⟨_, rfl, x_Bt (x_op2 (x_slS rfl (x_part rfl) (x_part (x_T2 rfl rfl (addT_int _ _)))) (x_op2 rfl rfl (bk1 P' [] z W)) ?_), fun _ => rfl⟩
        have q : cutL s (some (k : Int)) (some ((k : Int) + z)) = (s.drop k).take z := by
          rw [cutL_mid _ (by omega) (by omega)]
          congr 1
          omega
        have : inG true (.t (.str ((s.drop k).take z))) (.t (.tup (W.map T.str))) P' [] = some (.t (.bl (true ^^ decide ((s.drop k).take z ∈ W))), []) := by
          show (if (T.str ((s.drop k).take z)).plain && T.plains (W.map T.str) && (T.str ((s.drop k).take z)).low then some ((.t (.bl (true ^^ inAny (.str ((s.drop k).take z)) (W.map T.str))) : D), ([] : List O)) else none) = _
          simp only [plain_str, isi_strs, low_str, Bool.and_self, if_true, inAny_str]
        rw [q, this, Bool.true_xor])
    have en := eq_nil_ints (((List.range (s.length + 1 - z)).filter fun k => !decide ((s.drop k).take z ∈ W)).map fun k : Nat => (k : Int))
    have hd : decide ((((List.range (s.length + 1 - z)).filter fun k => !decide ((s.drop k).take z ∈ W)).map fun k : Nat => (k : Int)) = []) = pieceB z W (.str s) := by
      unfold pieceB
      refine decide_eq_decide.mpr ?_
      rw [List.map_eq_nil_iff, List.filter_eq_nil_iff]
      constructor
      · intro h
        refine ⟨hs.2, hs.1, fun x hx => ?_⟩
        unfold stepsTx at hx
        obtain ⟨k, hk, rfl⟩ := List.mem_map.mp hx
        simpa using h k hk
      · intro h k hk
        have := h.2.2 ((s.drop k).take z) (by unfold stepsTx; exact List.mem_map_of_mem hk)
        simp [this]
    rw [hd] at en
    have hr := rng1_ok (j := (s.length : Int) - z + 1) ⟨by omega, by omega⟩
    have rg : rngOf 0 ((s.length : Int) - z + 1) = (List.range (s.length + 1 - z)).map fun k : Nat => D.t (.int (k : Int)) := by
      rw [rng_nat, show ((s.length : Int) - z + 1).toNat = s.length + 1 - z by omega]
    rw [rg] at hr
    exact ret_ok (x_T2 (x_lc (ts := (((List.range (s.length + 1 - z)).filter fun k => !decide ((s.drop k).take z ∈ W)).map fun k : Nat => (k : Int)).map T.int) (x_I (ds := [.t (.int ((s.length : Int) - z + 1))]) (x_cons (x_T2 (x_T2 (x_B (x_cons rfl rfl) (len_str _ _ _)) rfl (subT_int _ _)) rfl (addT_int _ _)) rfl) hr) (e2.trans (by rw [List.map_map, List.map_map]; rfl))) (x_lst (ts := []) rfl (by simp)) en)
  · rw [Bool.eq_false_iff.mpr c] at e1
    have e : pieceB z W v = false := by
      by_cases q : ∃ s, v = .str s
      · obtain ⟨s, rfl⟩ := q
        unfold pieceB
        exact decide_eq_false fun h => c (decide_eq_true ⟨h.2.1, h.1⟩)
      · cases v <;> first | rfl | exact absurd ⟨_, rfl⟩ q
    rw [e]
    exact seq_rt (if_nx (b := true) (x_notT (b := false) (x_Tt (x_call (ds := [.t v, .t (.int z)]) (x_cons rfl (x_cons rfl rfl)) e1))) (ret_ok rfl))
theorem needbookT (P S : List O) {z : Nat} {W : List Tx} (w : Wins z W) (hz : 2 ≤ z ∧ z ≤ 6) : pureZ m_need_book [.t (bookT z W)] P S = .ok (.t .non) S := needbook P S w hz
open Classical in
theorem ispiece_v (P S : List O) {z : Nat} {W : List Tx} {v : T} (w : Wins z W) (hz : 2 ≤ z ∧ z ≤ 6) (hv : K0 v ∧ ∀ s, v = .str s → s.length ≤ 1000) : pureZ m_is_piece [.t (bookT z W), .t v] P S = .ok (.t (.bl (pieceB z W v))) S := by
  by_cases c : wordB v = true
  · obtain ⟨s, rfl⟩ : ∃ s, v = .str s := by cases v <;> first | exact ⟨_, rfl⟩ | exact (Bool.false_ne_true c).elim
    have hs : Small s := of_decide_eq_true c
    have := piece_at P S w (t := s) hz hs (by have := hv.2 s rfl; omega)
    have e : pieceB z W (.str s) = decide (Pc z W s) := by
      unfold pieceB
      exact decide_eq_decide.mpr ⟨fun h => h.2, fun h => ⟨hs, h⟩⟩
    rw [e]
    exact this
  · refine pureZ_t (S' := []) ?_
    generalize P ++ S = P'
    have e1 := isword_v (P' ++ []) [] hv.1
    rw [Bool.eq_false_iff.mpr c] at e1
    have e : pieceB z W v = false := by
      by_cases q : ∃ s, v = .str s
      · obtain ⟨s, rfl⟩ := q
        unfold pieceB
        exact decide_eq_false fun h => c (decide_eq_true h.1)
      · cases v <;> first | rfl | exact absurd ⟨_, rfl⟩ q
    rw [e]
    have e2 : pureZ m_is_a_piece [.t (bookT z W), .t v] P' [] = .ok (.t (.bl false)) [] := by
      refine pureZ_t (S' := []) ?_
      rw [m_is_a_piece]
      refine def_rt ?_
      show b_is_a_piece (P' ++ []) [some (.t (bookT z W)), some (.t v), none, none, none] [] = _
      unfold b_is_a_piece
      exact seq_rt (if_nx (b := true) (x_orT1 (x_notT (b := false) (x_Tt (x_call (ds := [.t v]) (x_cons rfl rfl) e1)))) (ret_ok rfl))
    rw [m_is_piece]
    refine def_rt ?_
    show b_is_piece P' [some (.t (bookT z W)), some (.t v)] [] = _
    unfold b_is_piece
    exact seq_nx' (x_expr (x_call (ds := [.t (bookT z W)]) (x_cons rfl rfl) (needbookT P' [] w hz))) (ret_ok (x_call (ds := [.t (bookT z W), .t v]) (x_cons rfl (x_cons rfl rfl)) e2))
theorem isring_v (P S : List O) {v : T} (h : K0 v) : pureZ m_is_ring [.t v] P S = .ok (.t (.bl (lwordB 1 v))) S := by
  refine pureZ_t (S' := []) ?_
  generalize P ++ S = P'
  have e1 := isword_v (P' ++ []) [] h
  have e2 : pureZ m_is_a_ring [.t v] P' [] = .ok (.t (.bl (lwordB 1 v))) [] := by
    refine pureZ_t (S' := []) ?_
    rw [m_is_a_ring]
    refine def_rt ?_
    show b_is_a_ring (P' ++ []) [some (.t v)] [] = _
    unfold b_is_a_ring
    by_cases c : wordB v = true
    · obtain ⟨s, rfl⟩ : ∃ s, v = .str s := by cases v <;> first | exact ⟨_, rfl⟩ | exact (Bool.false_ne_true c).elim
      have hs : Small s := of_decide_eq_true c
      rw [c] at e1
      have e : lwordB 1 (.str s) = decide ((0 : Int) < s.length) := decide_eq_decide.mpr ⟨fun h => by omega, fun h => ⟨by omega, hs⟩⟩
      rw [e]
      exact ret_ok (x_and1 (x_call (ds := [.t (.str s)]) (x_cons rfl rfl) e1) (x_T2 (x_B (x_cons rfl rfl) (len_str _ _ _)) rfl (by rw [gtT_int])))
    · rw [Bool.eq_false_iff.mpr c] at e1
      have e : lwordB 1 v = false := by
        by_cases q : ∃ s, v = .str s
        · obtain ⟨s, rfl⟩ := q
          exact decide_eq_false fun h => c (decide_eq_true h.2)
        · cases v <;> first | rfl | exact absurd ⟨_, rfl⟩ q
      rw [e]
      exact ret_ok (x_and0 (x_call (ds := [.t v]) (x_cons rfl rfl) e1))
  rw [m_is_ring]
  exact x_retB (x_call (ds := [.t v]) (x_cons rfl rfl) e2)
theorem textsright_ok (P : List O) {n z : Nat} {S : List O} {W : List Tx} (h : Pt n [] S) (hn : n < 10 ^ 12) (w : Wins z W) (hz : 2 ≤ z ∧ z ≤ 6) (few : W.length ≤ 100) :
    ∃ S', keepF m__law_texts_right [.ref P.length, .t (bookT z W)] P S = .ok (.t (.bl true)) S' ∧ Pt (n + 200) [] S' := by
  obtain ⟨t, S1, e1, p1, st, t0, lt⟩ := piece_ok P h (by omega) w hz few
  obtain ⟨vs, S2, e2, p2, hvs⟩ := oddtx_ok P p1 (by omega) st t0 (by omega)
  obtain ⟨ρ3, S3, e4, d2, d3, rfl, rfl⟩ := for_inv (g := gN 2) (P := P) (fb := (sSeq (sSet 3 (mCall (pureZ m__law_is_piece) (mCons (mVar 1) (mCons (mVar 2) mNil)))) (sSeq (sIf (mNotT (mT (mCall (pureZ (m__law_same 6)) (mCons (mLst (mCons (mCall (pureZ m_is_piece) (mCons (mVar 1) (mCons (mVar 2) mNil))) (mCons (mCallK (pureZ m_is_piece) 0 2 [1, 0] mNil (mCons (mVar 2) (mCons (mVar 1) mNil))) mNil))) (mCons (mLst (mCons (mVar 3) (mCons (mVar 3) mNil))) mNil))))) (sRet (mC (.bl false))) sNil) (sSeq (sSet 3 (mCall (pureZ m__law_is_word) (mCons (mVar 2) (mCons (mC (.int 1)) mNil)))) (sIf (mNotT (mT (mCall (pureZ (m__law_same 6)) (mCons (mLst (mCons (mCall (pureZ m_is_ring) (mCons (mVar 2) mNil)) (mCons (mCallK (pureZ m_is_ring) 0 1 [0] mNil (mCons (mVar 2) mNil)) mNil))) (mCons (mLst (mCons (mVar 3) (mCons (mVar 3) mNil))) mNil))))) (sRet (mC (.bl false))) sNil)))))
    (fun _ ρ S => ∃ (d2 d3 : Option D), ρ = [some (.ref P.length), some (.t (bookT z W)), d2, d3] ∧ S = S2)
    (vs.map D.t) 0 [some (.ref P.length), some (.t (bookT z W)), none, none] S2
    (fun i d ρ S hd ⟨d2, d3, hρ, hS⟩ => by
      subst hρ hS
      obtain ⟨v, hv, rfl⟩ := List.mem_map.mp (List.mem_of_getElem? hd)
      have kv := hvs v hv
      have f1 := lawpiece_v P S w hz kv
      have f2 := ispiece_v P S w hz kv
      have f3 := islawword_v P S (k := 1) kv.1
      have f4 := isring_v P S kv.1
      generalize pieceB z W v = b1 at f1 f2
      generalize lwordB 1 v = b2 at f3 f4
      refine ⟨_, rfl, [some (.ref P.length), some (.t (bookT z W)), some (.t v), some (.t (.bl b2))], _, .inl ?_, _, _, rfl, rfl⟩
      refine seq_nx' (set_ok (x_call (ds := [.t (bookT z W), .t v]) (x_cons rfl (x_cons rfl rfl)) f1)) ?_
      refine seq_nx' (if_nx (b := false) (x_notT (b := true) (x_Tt (x_call (ds := [.t (.lst [.bl b1, .bl b1]), .t (.lst [.bl b1, .bl b1])]) (x_cons (x_lst (ts := [.bl b1, .bl b1]) (x_cons (x_call (ds := [.t (bookT z W), .t v]) (x_cons rfl (x_cons rfl rfl)) f2) (x_cons (x_callK (ds := []) (zs := [.t v, .t (bookT z W)]) rfl (x_cons rfl (x_cons rfl rfl)) ⟨rfl, rfl⟩ f2) rfl)) (by simp)) (x_cons (x_lst (ts := [.bl b1, .bl b1]) (x_cons rfl (x_cons rfl rfl)) (by simp)) rfl)) (same2 P _ b1)))) rfl) ?_
      refine seq_nx' (set_ok (x_call (ds := [.t v, .t (.int 1)]) (x_cons rfl (x_cons rfl rfl)) f3)) ?_
      exact if_nx (b := false) (x_notT (b := true) (x_Tt (x_call (ds := [.t (.lst [.bl b2, .bl b2]), .t (.lst [.bl b2, .bl b2])]) (x_cons (x_lst (ts := [.bl b2, .bl b2]) (x_cons (x_call (ds := [.t v]) (x_cons rfl rfl) f4) (x_cons (x_callK (ds := []) (zs := [.t v]) rfl (x_cons rfl rfl) ⟨rfl, rfl⟩ f4) rfl)) (by simp)) (x_cons (x_lst (ts := [.bl b2, .bl b2]) (x_cons rfl (x_cons rfl rfl)) (by simp)) rfl)) (same2 P _ b2)))) rfl)
    ⟨none, none, rfl, rfl⟩
  obtain ⟨a, b, c, eS2, hc1, hc2⟩ := p2
  obtain ⟨_, _, _, eSh, _, _⟩ := h
  refine ⟨S3, keep_ok (S1 := S3) (X := []) ?_ (by rw [eSh, eS2]; rfl) (by rw [eS2]; rfl), a, b, c, eS2, hc1, by omega⟩
  rw [List.append_nil, m__law_texts_right]
  refine def_rt ?_
  show b__law_texts_right P [some (.ref P.length), some (.t (bookT z W)), none, none] S = _
  unfold b__law_texts_right
  exact seq_nx' (for_ok (ds := vs.map D.t) (x_It (x_call (ds := [.ref P.length, .t (.str t)]) (x_cons rfl (x_cons (x_call (ds := [.ref P.length, .t (bookT z W), .t (.int 60)]) (x_cons rfl (x_cons rfl (x_cons rfl rfl))) e1) rfl)) e2) rfl) e4) (ret_ok rfl)
end Lw

set_option maxHeartbeats 4000000
/-! P01f: places; great books; the law -/
namespace Lw
open Fm
abbrev Marks := List (Tx × Unit)
def encM (l : Marks) : List (At × D) := encD (fun _ => D.t (.bl true)) l
def encMT (l : Marks) : List (At × T) := encT (fun _ => T.bl true) l
theorem put_enc (l : Marks) (k : Tx) : putD (encM l) (.str k) (.t (.bl true)) = encM (putA l k ()) := putD_enc (fun _ => D.t (.bl true)) l k ()
theorem len_encM (l : Marks) : (encM l).length = l.length := len_encD _ l
theorem placesofC (P' : List O) {z : Nat} {W : List Tx} (few : W.length ≤ 1000) : ∃ o, m_places_of [.t (bookT z W)] P' [] = .ok (.ref (P'.length + 1)) [o, .lst (((spotsTx W).map T.str).map D.t)] := by
  obtain ⟨ρ', S', e, F, o2, rfl, rfl, nd, lF, hm⟩ := for_inv (g := gN 2) (fb := (sSeq (sPut (mVar 1) (mSl (mVar 2) none (some (mOp1 (lT1 negT) (mC (.int 1))))) (mC (.bl true))) (sPut (mVar 1) (mSl (mVar 2) (some (mC (.int 1))) none) (mC (.bl true))))) (P := P')
    (fun k ρ S => ∃ (F : Marks) (o2 : Option D), ρ = [some (.t (bookT z W)), some (.ref P'.length), o2] ∧ S = [.dic (encM F)] ∧ (keyA F).Nodup ∧ F.length ≤ 2 * k ∧ ∀ x, x ∈ keyA F ↔ ∃ w ∈ W.take k, x = bgn w ∨ x = fin w)
    (W.map fun x => D.t (.str x)) 0 [some (.t (bookT z W)), some (.ref P'.length), none] [.dic (encM [])] (fun k d ρ S hk ⟨F, o2, hρ, hS, nd, lF, hm⟩ => by
      subst hρ hS
      rw [Nat.zero_add] at hm lF
      rw [List.getElem?_map] at hk
      cases q : W[k]? with
      | none => rw [q] at hk; cases hk
      | some w =>
        rw [q] at hk
        cases hk
        have hkl := (List.getElem?_eq_some_iff.mp q).1
        have l1 := len_put F (bgn w) ()
        have l2 := len_put (putA F (bgn w) ()) (fin w) ()
        have p1 := put_head P' [] (encM F) (bgn w) (.t (.bl true)) (by rw [len_encM]; omega)
        have p2 := put_head P' [] (encM (putA F (bgn w) ())) (fin w) (.t (.bl true)) (by rw [len_encM]; omega)
        rw [put_enc] at p1 p2
        refine ⟨_, rfl, [some (.t (bookT z W)), some (.ref P'.length), some (St w)], [.dic (encM (putA (putA F (bgn w) ()) (fin w) ()))], .inl ?_, _, _, rfl, rfl, nodup_put (nodup_put nd _ _) _ _, by omega, fun x => ?_⟩
        · simp only [e_seq, e_put, e_sl, e_var, e_partN, e_partS, e_op1, e_c, gN, List.set, List.getElem?_cons_zero, List.getElem?_cons_succ, Fm.R.bind_ok, lT1_t, negT_int, Option.map, lift_some, cut_bgn, Fm.R.oc_ok, p1, Fm.Oc.sq_nx, cut_fin, p2]
        · rw [mem_put, mem_put, hm x, Nat.zero_add]
          constructor
          · rintro ((⟨v, hv, e⟩ | e) | e)
            · exact ⟨v, (take_mem q v).mpr (.inl hv), e⟩
            · exact ⟨w, (take_mem q w).mpr (.inr rfl), .inl e⟩
            · exact ⟨w, (take_mem q w).mpr (.inr rfl), .inr e⟩
          · rintro ⟨v, hv, e⟩
            rcases (take_mem q v).mp hv with hv | rfl
            · exact .inl (.inl ⟨v, hv, e⟩)
            · exact e.elim (fun e => .inl (.inr e)) .inr) ⟨[], none, rfl, rfl, by simp [keyA], by simp, fun x => by simp [keyA]⟩
  rw [List.length_map, Nat.zero_add, List.take_length] at hm
  have hs := sort_cell (P := P') (S := [.dic (encM F)]) (at_len P' [] _) (keyA_encD (fun _ => D.t (.bl true)) F)
  have hsp : sortTx (keyA F) = spotsTx W := by
    unfold spotsTx
    refine setTx_of nd fun x => ?_
    rw [hm x, List.mem_append, List.mem_map, List.mem_map]
    constructor
    · rintro ⟨v, hv, e | e⟩
      · exact .inl ⟨v, hv, e.symm⟩
      · exact .inr ⟨v, hv, e.symm⟩
    · rintro (⟨v, hv, e⟩ | ⟨v, hv, e⟩)
      · exact ⟨v, hv, .inl e.symm⟩
      · exact ⟨v, hv, .inr e.symm⟩
  rw [hsp] at hs
  refine ⟨.dic (encM F), ?_⟩
  rw [m_places_of, e_def]
  show (match b_places_of P' [some (.t (bookT z W)), none, none] [] with | .rt d S' => Fm.R.ok d S' | .nx _ S' => .ok (.t .non) S' | .ex x _ S' => .ex x S' | _ => .no) = _
  unfold b_places_of
  simp only [e_seq, e_set, e_dicC, List.length_nil, Nat.add_zero, List.nil_append, Fm.R.oc_ok, List.set, Fm.Oc.sq_nx, e_for, e_it, e_op2, e_var, e_c, List.getElem?_cons_zero, List.getElem?_cons_succ, Fm.R.bind_ok, bk1, lift_some, items_tup] at e ⊢
  rw [show ([O.dic []] : List O) = [.dic (encM [])] from rfl, e]
  simp only [Fm.Oc.sq_nx, e_ret, e_sort, e_var, List.getElem?_cons_zero, List.getElem?_cons_succ, Fm.R.bind_ok, hs, e_mkC, Fm.R.oc_ok]
  rfl
theorem same_at (P S : List O) (ws : List Tx) {i : Nat} (k : Nat) (hi : (P ++ S)[i]? = some (.lst (ws.map fun x => D.t (.str x)))) (hl : ws.length ≤ 10 ^ 6) :
    pureZ (m__law_same (k + 2)) [.ref i, .t (.lst (ws.map T.str))] P S = .ok (.t (.bl true)) S := by
  refine pureZ_t (S' := []) ?_
  generalize P ++ S = P' at hi ⊢
  have hi2 : (P' ++ [])[i]? = some (.lst (ws.map fun x => D.t (.str x))) := by rw [List.append_nil]; exact hi
  have e := lc_map (g := gN 2) (ft := mYes) (P := P') (S := []) (ρ := [some (.ref i), some (.t (.lst (ws.map T.str))), none]) (fe := mCall (pureZ (m__law_same (k + 1))) (mCons (mOp2 subG (mVar 0) (mVar 2)) (mCons (mOp2 subG (mVar 1) (mVar 2)) mNil)))
    (fun _ => D.t (.bl true)) (rngOf 0 (ws.length : Int)) (fun d hd => by
    obtain ⟨j, rfl, h1, h2⟩ := rngOf_mem hd
    obtain ⟨n, rfl⟩ : ∃ n : Nat, j = n := ⟨j.toNat, by omega⟩
    have hn : n < ws.length := by omega
    refine ⟨_, rfl, rfl, ?_⟩
    simp [cell_at' hi2 hn, strs_at' hn, same_str])
  have et := trees_mapF (fun _ : D => T.bl true) (rngOf 0 (ws.length : Int))
  have eb := bls_mapf (fun _ : D => true) (rngOf 0 (ws.length : Int))
  have hp : T.plains (ws.map T.str) = true := isi_strs ws
  rw [show k + 2 = k + 1 + 1 from rfl, m__law_same]
  generalize m__law_same (k + 1) = g at e ⊢
  simp [e_def, isi_cellL hi2, isi_cellT hi2, isiB, len_cell hi2, rng1_ok (j := (ws.length : Int)) ⟨by omega, by omega⟩, e, et, allT, eb]
/-! ### windows of a text -/
theorem placesofN (P S : List O) {z : Nat} {W : List Tx} (few : W.length ≤ 1000) : newF m_places_of [.t (bookT z W)] P S = .ok (.ref (P.length + S.length)) (S ++ [.lst (((spotsTx W).map T.str).map D.t)]) := by
  obtain ⟨o, e⟩ := placesofC (P ++ S) (z := z) (W := W) few
  exact newF_l e (by omega) (by rw [show (P ++ S).length + 1 - (P ++ S).length = 1 by omega]; rfl) (trees_map _)
theorem placesN (P S : List O) {z : Nat} {W : List Tx} (w : Wins z W) (hz : 2 ≤ z ∧ z ≤ 6) (few : W.length ≤ 1000) : newF m_places [.t (bookT z W)] P S = .ok (.ref (P.length + S.length)) (S ++ [.lst (((spotsTx W).map T.str).map D.t)]) := by
  have e1 := needbookT (P ++ S) [] w hz
  have e2 := placesofN (P ++ S) [] (z := z) (W := W) few
  have e3 : m_places [.t (bookT z W)] (P ++ S) [] = .ok (.ref ((P ++ S).length + 0)) [.lst (((spotsTx W).map T.str).map D.t)] := by
    rw [m_places]
    refine def_rt ?_
    show b_places (P ++ S) [some (.t (bookT z W))] [] = _
    unfold b_places
    exact seq_nx' (x_expr (x_call (ds := [.t (bookT z W)]) (x_cons rfl rfl) e1)) (ret_ok (x_call (ds := [.t (bookT z W)]) (x_cons rfl rfl) e2))
  exact newF_l e3 (by omega) (by rw [show (P ++ S).length + 0 - (P ++ S).length = 0 by omega]; rfl) (trees_map _)
theorem same_strs (P S : List O) (k : Nat) (W : List Tx) (l : W.length ≤ 10 ^ 6) : pureZ (m__law_same (k + 2)) [.t (.lst (W.map T.str)), .t (.lst (W.map T.str))] P S = .ok (.t (.bl true)) S :=
  same_lst P S k _ (by rw [List.length_map]; omega) (isi_strs W) fun y hy P S => by
    obtain ⟨t, _, rfl⟩ := List.mem_map.mp hy
    exact same_str P S k t
theorem placesright_at (P S : List O) {z : Nat} {W : List Tx} (w : Wins z W) (hz : 2 ≤ z ∧ z ≤ 6) (few : W.length ≤ 100) : pureZ m__law_places_right [.t (bookT z W)] P S = .ok (.t (.bl true)) S := by
  have spl := spots_len W
  suffices hh : ∃ S', m__law_places_right [.t (bookT z W)] (P ++ S) [] = .ok (.t (.bl true)) S' by
    obtain ⟨S', e⟩ := hh
    exact pureZ_t e
  generalize P ++ S = P'
  have k1 := lc_all (g := gN 2) (P := P') (S := []) (ρ := [some (.t (bookT z W)), none, none, none]) (fe := mSl (mVar 2) none (some (mOp1 (lT1 negT) (mC (.int 1))))) (fun x => D.t (.str x)) (fun x => T.str (bgn x)) W (fun x _ => ⟨_, rfl, by rw [← cut_bgn]; exact x_slS rfl rfl (x_part (x_neg rfl))⟩)
  have k2 := lc_all (g := gN 2) (P := P') (S := []) (ρ := [some (.t (bookT z W)), none, none, none]) (fe := mSl (mVar 2) (some (mC (.int 1))) none) (fun x => D.t (.str x)) (fun x => T.str (fin x)) W (fun x _ => ⟨_, rfl, by rw [← cut_fin]; exact x_slS rfl (x_part rfl) rfl⟩)
  have sb := sb_ok (L := W.map bgn ++ W.map fin) (by rw [List.length_append, List.length_map, List.length_map]; omega)
  have e3 := placesN P' [] w hz (by omega)
  rw [List.nil_append, List.length_nil, Nat.add_zero] at e3
  obtain ⟨L, hL⟩ : ∃ L, L = ((spotsTx W).map T.str).map D.t := ⟨_, rfl⟩
  rw [← hL] at e3
  have hc : (P' ++ [O.lst L])[P'.length]? = some (.lst ((spotsTx W).map fun x => D.t (.str x))) := by
    rw [List.getElem?_append_right (Nat.le_refl _), Nat.sub_self, hL, List.map_map]; rfl
  have e4 := same_at P' [.lst L] (spotsTx W) 4 hc (by omega)
  have lL : L.length = (spotsTx W).length := by rw [hL, List.length_map, List.length_map]
  have sp0 : spotsTx W ≠ [] := fun e => by
    obtain ⟨v, hv⟩ := List.exists_mem_of_ne_nil W w.ne
    have := spots_bgn hv
    rw [e] at this; cases this
  have hLp := List.length_pos_iff.mpr sp0
  have ea := end_app P' [] L (.t (.str (cs "zz"))) (by omega)
  obtain ⟨M, hM⟩ : ∃ M, M = L ++ [D.t (.str (cs "zz"))] := ⟨_, rfl⟩
  have lM : M.length = (spotsTx W).length + 1 := by rw [hM, List.length_append, lL]; rfl
  rw [← hM] at ea
  have es : setG (.ref P'.length) (.t (.int 0)) (.t (.str (cs ""))) P' [.lst M] = some [.lst (M.set 0 (.t (.str (cs ""))))] := by
    unfold setG
    simp only
    rw [if_pos (Nat.le_refl _), Nat.sub_self]
    simp only [List.getElem?_cons_zero]
    have hx : L2.ixN M.length (0 : Int) = some 0 := by
      unfold L2.ixN
      rw [if_pos (by omega)]
      simp [lM]
    rw [hx]
    rfl
  obtain ⟨o, ho⟩ : ∃ o : O, o = .lst (M.set 0 (.t (.str (cs "")))) := ⟨_, rfl⟩
  rw [← ho] at es
  have e5 := placesN P' [o] w hz (by omega)
  have e6 := placesN P' [o, .dead] w hz (by omega)
  have z5 := end_frz P' [o] ((spotsTx W).map T.str)
  have z6 := end_frz P' [o, .dead] ((spotsTx W).map T.str)
  have e7 := same_lst P' [o, .dead, .dead] 4 [.lst ((spotsTx W).map T.str), .lst ((spotsTx W).map T.str)] (by simp) (by simp [T.plains, T.plain, isi_strs]) (fun x hx P S => by
    rcases List.mem_cons.mp hx with rfl | hx
    · exact same_strs P S 3 _ (by omega)
    · rw [List.mem_singleton.mp hx]; exact same_strs P S 3 _ (by omega))
  refine ⟨[o, .dead, .dead], ?_⟩
  rw [m__law_places_right]
  refine def_rt ?_
  show b__law_places_right P' [some (.t (bookT z W)), none, none, none] [] = _
  unfold b__law_places_right
  refine seq_nx' (ρ' := [some (.t (bookT z W)), some (.t (.lst ((spotsTx W).map T.str))), none, none]) (S' := []) (set_ok (x_sortSet (xs := W.map bgn ++ W.map fin) (x_T2 (x_lc (ts := (W.map bgn).map T.str) (x_It (x_op2 rfl rfl (bk1 P' [] z W)) (items_tup P' W)) (k1.trans (by rw [List.map_map, List.map_map]; rfl))) (x_lc (ts := (W.map fin).map T.str) (x_It (x_op2 rfl rfl (bk1 P' [] z W)) (items_tup P' W)) (k2.trans (by rw [List.map_map, List.map_map]; rfl))) (addT_lst (by simp only [List.length_map]; omega))) (by
    show strsOf _ = _
    rw [← List.map_append]
    exact strsOf_map _) sb)) ?_
  refine seq_nx' (set_ok (x_call (ds := [.t (bookT z W)]) (x_cons rfl rfl) e3)) ?_
  refine seq_nx' (if_nx (b := false) (x_notT (b := true) (x_Tt (x_call (ds := [.ref P'.length, .t (.lst ((spotsTx W).map T.str))]) (x_cons rfl (x_cons rfl rfl)) e4))) rfl) ?_
  refine seq_nx' (x_expr (x_meth (d := .ref P'.length) rfl (end_kd P' [] L) (x_cons rfl rfl) ea)) ?_
  refine seq_nx' (x_put (v := .t (.str (cs ""))) (d := .ref P'.length) (i := .t (.int 0)) rfl rfl rfl es) ?_
  exact ret_ok (x_call (ds := [.t (.lst [.lst ((spotsTx W).map T.str), .lst ((spotsTx W).map T.str)]), .t (.lst [.lst ((spotsTx W).map T.str), .lst ((spotsTx W).map T.str)])])
    (x_cons (x_lst (ts := [.lst ((spotsTx W).map T.str), .lst ((spotsTx W).map T.str)]) (S1 := [o, .dead, .dead]) (x_cons (S1 := [o, .dead]) (x_frzE (x_callK (ds := []) (zs := [.t (bookT z W)]) rfl (x_cons rfl rfl) ⟨rfl, rfl⟩ e5) z5) (x_cons (S1 := [o, .dead, .dead]) (x_frzE (x_call (ds := [.t (bookT z W)]) (x_cons rfl rfl) e6) z6) rfl)) (by simp))
    (x_cons (x_lst (ts := [.lst ((spotsTx W).map T.str), .lst ((spotsTx W).map T.str)]) (x_cons rfl (x_cons rfl rfl)) (by simp)) rfl)) e7)
end Lw

set_option maxHeartbeats 4000000
/-! P01g: a great book -/
namespace Lw
open Fm
theorem cut_two {s : Tx} {z k : Nat} (h : k + z ≤ 2 * s.length) : ((s ++ s).drop k).take z = readTx s k z := by
  have e : s ++ s = rep 2 s := by unfold rep; simp [List.replicate]
  rw [e]
  refine tx_ext (by simp; omega) fun i hi => ?_
  have hi : i < z := by simp at hi; omega
  rw [readTx_at _ _ _ _ hi, ← rep_getD s 2 (k + i) (by omega)]
  simp [List.getD_eq_getElem?_getD, List.getElem?_take, List.getElem?_drop, hi]
theorem pc_two {s : Tx} {z : Nat} (h0 : s ≠ []) (hz : z ≤ s.length) : Pc z (setTx (roundTx z s)) (s ++ s) := by
  refine ⟨by rw [List.length_append]; omega, fun x hx => ?_⟩
  unfold stepsTx at hx
  obtain ⟨k, hk, rfl⟩ := List.mem_map.mp hx
  have hk := List.mem_range.mp hk
  rw [List.length_append] at hk
  rw [cut_two (by omega)]
  exact set_mem.mpr (mem_round h0 k)
theorem read_in {s : Tx} (h0 : s ≠ []) {a n c : Nat} (hc : c ∈ readTx s a n) : c ∈ s := by
  obtain ⟨j, _, rfl⟩ := List.mem_map.mp hc
  have hm := Nat.mod_lt (a + j) (List.length_pos_iff.mpr h0)
  unfold rd
  rw [List.getD_eq_getElem?_getD, List.getElem?_eq_getElem hm]
  exact List.getElem_mem hm
theorem pc_z {s : Tx} {z c : Nat} (h0 : s ≠ []) (h1 : 2 ≤ z) (hz : z ≤ s.length) (hc : c ∉ s) : ¬ Pc z (setTx (roundTx z s)) (s ++ [c]) := fun h => by
  have hx := h.2 (((s ++ [c]).drop (s.length + 1 - z)).take z) (by
    unfold stepsTx
    exact List.mem_map_of_mem (List.mem_range.mpr (by rw [List.length_append, List.length_singleton]; omega)))
  obtain ⟨i, _, e⟩ := round_mem (set_mem.mp hx)
  have : c ∈ ((s ++ [c]).drop (s.length + 1 - z)).take z := by
    rw [List.drop_append_of_le_length (by omega), List.take_of_length_le (by simp; omega)]
    simp
  rw [e] at this
  exact hc (read_in h0 this)
theorem bad_b {z : Nat} {W : List Tx} (w : Wins z W) (hz : 2 ≤ z ∧ z ≤ 6) : bookB (.tup [.int z, .tup (W.map T.str |>.take 50 |> (· ++ (W.map T.str).drop 49))]) = decide (W.length < 50) := by
  have e : (W.map T.str).take 50 ++ (W.map T.str).drop 49 = (W.take 50 ++ W.drop 49).map T.str := by rw [List.map_append, List.map_take, List.map_drop]
  show bookB (.tup [.int z, .tup ((W.map T.str).take 50 ++ (W.map T.str).drop 49)]) = _
  rw [e]
  show (decide (2 ≤ (z : Int) ∧ (z : Int) ≤ 6) && !decide (((W.take 50 ++ W.drop 49).map T.str).length = 0) && winsB z (.tup ((W.take 50 ++ W.drop 49).map T.str))) = _
  have hp := List.length_pos_iff.mpr w.ne
  have h1 : (2 ≤ (z : Int) ∧ (z : Int) ≤ 6) := by omega
  have h2 : ¬ ((W.take 50 ++ W.drop 49).map T.str).length = 0 := by rw [List.length_map, List.length_append, List.length_take]; omega
  rw [winsB_str, decide_eq_true h1, Bool.true_and, decide_eq_false h2, Bool.not_false, Bool.true_and]
  refine decide_eq_decide.mpr ⟨fun h => ?_, fun h => ?_⟩
  · refine Classical.byContradiction fun c => ?_
    have h2 := List.pairwise_iff_getElem.mp h.2
    have l : (W.take 50 ++ W.drop 49).length = W.length + 1 := by simp; omega
    have := h2 49 50 (by omega) (by omega) (by omega)
    rw [List.getElem_append_left (by simp; omega), List.getElem_append_right (by simp; omega), List.getElem_take, List.getElem_drop] at this
    have q : 49 + (50 - (W.take 50).length) = 49 := by simp; omega
    simp only [q] at this
    exact absurd this (List.lt_irrefl _)
  · rw [List.take_of_length_le (by omega), List.drop_eq_nil_of_le (by omega), List.append_nil]
    exact ⟨fun x hx => ⟨w.sm x hx, by rw [w.len x hx]⟩, w.asc⟩
theorem set_len (L : List Tx) : (setTx L).length ≤ L.length := by
  unfold setTx
  rw [(sortTx_perm _).length_eq]
  exact once_len L
open Classical in
theorem great_ok (P : List O) {n : Nat} {S : List O} (h : Pt n [] S) (hn : n < 10 ^ 13) :
    ∃ S', keepF m__law_great_right [.ref P.length] P S = .ok (.t (.bl true)) S' ∧ Pt (n + 2002) [] S' := by
  obtain ⟨r1, S1, e1, a1, b1, p1⟩ := pick_pt P (top := 3) h (by omega) (by decide) (by decide)
  obtain ⟨r2, S2, e2, a2, b2, p2⟩ := pick_pt P (top := 40) p1 (by omega) (by decide) (by decide)
  obtain ⟨s, S3, e3, p3, ls, hs⟩ := word_ok P (l := cs "acgt") (z := 61 + r2) p2 (by omega) (by decide) (by decide) (by omega) (by omega)
  obtain ⟨z, hz⟩ : ∃ z : Nat, (4 : Int) + r1 = z := ⟨(4 + r1).toNat, by omega⟩
  have hz2 : 2 ≤ z ∧ z ≤ 6 := by omega
  have lz : s.length = (61 + r2).toNat := ls
  have s0 : s ≠ [] := fun e => by rw [e] at lz; simp at lz; omega
  have sm : Small s := fun c hc => (show Small (cs "acgt") by decide) c (hs c hc)
  have nz : (122 : Nat) ∉ s := fun hc => absurd (hs _ hc) (by decide)
  have w := wins_round (z := z) s0 sm (by omega) hz2.1
  obtain ⟨W, hW⟩ : ∃ W, W = setTx (roundTx z s) := ⟨_, rfl⟩
  have lW : W.length ≤ 100 := by
    have := set_len (roundTx z s)
    rw [round_len] at this
    rw [hW]; omega
  have t1 := pc_two (z := z) s0 (by omega)
  have t2 := pc_z (z := z) s0 hz2.1 (by omega) nz
  rw [← hW] at w t1 t2
  have lr := lawround_at P S3 (s := s) (z := z) (by omega) s0 hz2
  have sb := sb_ok (L := roundTx z s) (by rw [round_len]; omega)
  have f1 := isbook_any P S3 (v := bookT z W) (b := 200) (by omega) (k2_book (by omega) (by omega))
  have B1 : bookB (bookT z W) = true := by
    show (decide (2 ≤ (z : Int) ∧ (z : Int) ≤ 6) && !decide ((W.map T.str).length = 0) && winsB z (.tup (W.map T.str))) = true
    have hp := List.length_pos_iff.mpr w.ne
    have h1 : (2 ≤ (z : Int) ∧ (z : Int) ≤ 6) := by omega
    have h2 : ¬ (W.map T.str).length = 0 := by rw [List.length_map]; omega
    rw [winsB_str, decide_eq_true h1, Bool.true_and, decide_eq_false h2, Bool.not_false, Bool.true_and]
    exact decide_eq_true ⟨fun x hx => ⟨w.sm x hx, by rw [w.len x hx]⟩, w.asc⟩
  rw [B1] at f1
  have ct : cutL (W.map T.str) none (some 50) ++ cutL (W.map T.str) (some 49) none = (W.take 50 ++ W.drop 49).map T.str := by
    rw [cutL_to _ (by decide), cutL_from _ (by decide), List.map_append, List.map_take, List.map_drop]; rfl
  have lb : (W.take 50 ++ W.drop 49).length ≤ 200 := by simp; omega
  have f2 := isbook_any P S3 (v := bookT z (W.take 50 ++ W.drop 49)) (b := 200) (by omega) (k2_book (by omega) (by omega))
  have B2 : bookB (bookT z (W.take 50 ++ W.drop 49)) = decide (W.length < 50) := by
    have := bad_b w hz2
    rw [← this]
    show bookB (.tup [.int z, .tup ((W.take 50 ++ W.drop 49).map T.str)]) = bookB (.tup [.int z, .tup ((W.map T.str).take 50 ++ (W.map T.str).drop 49)])
    rw [List.map_append, List.map_take, List.map_drop]
  rw [B2] at f2
  have m25 := mul_str (s := s) (k := 25) (by omega) (by decide)
  have l25 : (rep 25 s).length = 25 * s.length := rep_length _ _
  have f3 := isring_v P S3 (v := .str (rep 25 s)) rfl
  have B3 : lwordB 1 (.str (rep 25 s)) = true := decide_eq_true ⟨by omega, small_rep sm⟩
  rw [B3] at f3
  have f4 := isring_v P S3 (v := .str (rep 25 s ++ cs "A")) rfl
  have B4 : lwordB 1 (.str (rep 25 s ++ cs "A")) = false := decide_eq_false fun hh => by
    have := hh.2 65 (List.mem_append_right _ (by decide))
    omega
  rw [B4] at f4
  have f5 := ispiece_v P S3 (v := .str (s ++ s)) w hz2 ⟨rfl, fun u e => by cases e; rw [List.length_append]; omega⟩
  have B5 : pieceB z W (.str (s ++ s)) = true := by
    unfold pieceB
    exact decide_eq_true ⟨small_app sm sm, t1⟩
  rw [B5] at f5
  have f6 := ispiece_v P S3 (v := .str (s ++ cs "z")) w hz2 ⟨rfl, fun u e => by cases e; rw [List.length_append, show (cs "z").length = 1 from rfl]; omega⟩
  have B6 : pieceB z W (.str (s ++ cs "z")) = false := by
    unfold pieceB
    exact decide_eq_false fun hh => t2 hh.2
  rw [B6] at f6
  obtain ⟨b, hb⟩ : ∃ b, b = decide (W.length < 50) := ⟨_, rfl⟩
  have hl : ltT (.int W.length) (.int 50) = some (.bl b) := by
    rw [ltT_int, hb]
    congr 2
    exact decide_eq_decide.mpr (by omega)
  rw [← hb] at f2
  have sa := same_bls P S3 4 [true, b, true, false, true, false] (by simp)
  obtain ⟨_, _, _, eSh, _, _⟩ := h
  obtain ⟨a, b', c, eS3, hc1, hc2⟩ := p3
  refine ⟨S3, keep_ok (S1 := S3) (X := []) ?_ (by rw [eSh, eS3]; rfl) (by rw [eS3]; rfl), a, b', c, eS3, hc1, by omega⟩
  rw [List.append_nil, m__law_great_right]
  refine def_rt ?_
  show b__law_great_right P [some (.ref P.length), none, none, none, none, none] S = _
  unfold b__law_great_right
  refine seq_nx' (ρ' := [some (.ref P.length), some (.t (.int z)), none, none, none, none]) (S' := S1) (set_ok (x_T2 rfl (x_call (ds := [.ref P.length, .t (.int 3)]) (x_cons rfl (x_cons rfl rfl)) e1) (by rw [addT_int, hz]))) ?_
  refine seq_nx' (set_ok (x_call (ds := [.ref P.length, .t (.str (cs "acgt")), .t (.int (61 + r2))]) (x_cons rfl (x_cons rfl (x_cons (x_T2 rfl (x_call (ds := [.ref P.length, .t (.int 40)]) (x_cons rfl (x_cons rfl rfl)) e2) (addT_int _ _)) rfl))) e3)) ?_
  refine seq_nx' (ρ' := [some (.ref P.length), some (.t (.int z)), some (.t (.str s)), some (.t (bookT z W)), none, none]) (S' := S3) (set_ok (x_tup (ts := [.int z, .tup (W.map T.str)]) (x_cons rfl (x_cons (x_B1 (x := .lst (W.map T.str)) (by rw [hW]; exact x_sortSet (x_call (ds := [.t (.int z), .t (.str s)]) (x_cons rfl (x_cons rfl rfl)) lr) (src_lst _ _ _) sb) rfl) rfl)) (by simp))) ?_
  refine seq_nx' (ρ' := [some (.ref P.length), some (.t (.int z)), some (.t (.str s)), some (.t (bookT z W)), some (.t (bookT z (W.take 50 ++ W.drop 49))), none]) (S' := S3) (set_ok (x_tup (ts := [.int z, .tup ((W.take 50 ++ W.drop 49).map T.str)]) (x_cons rfl (x_cons (by
    rw [← ct]
    exact x_T2 (x_slT (x_op2 rfl rfl (bk1 _ _ z W)) rfl (x_part rfl)) (x_slT (x_op2 rfl rfl (bk1 _ _ z W)) (x_part rfl) rfl) (addT_tup (by
      have := cutL_len (W.map T.str) none (some 50); have := cutL_len (W.map T.str) (some 49) none
      rw [List.length_map] at *; omega))) rfl)) (by simp))) ?_
  refine seq_nx' (set_ok (x_lst (ts := [.bl true, .bl b, .bl true, .bl false, .bl true]) (S1 := S3)
    (x_cons (x_call (ds := [.t (bookT z W)]) (x_cons rfl rfl) f1)
    (x_cons (x_call (ds := [.t (bookT z (W.take 50 ++ W.drop 49))]) (x_cons rfl rfl) f2)
    (x_cons (x_call (ds := [.t (.str (rep 25 s))]) (x_cons (x_T2 rfl rfl m25) rfl) f3)
    (x_cons (x_call (ds := [.t (.str (rep 25 s ++ cs "A"))]) (x_cons (x_T2 (x_T2 rfl rfl m25) rfl (addT_str (by rw [l25, szl, show (cs "A").length = 1 from rfl]; omega))) rfl) f4)
    (x_cons (x_call (ds := [.t (bookT z W), .t (.str (s ++ s))]) (x_cons rfl (x_cons (x_T2 rfl rfl (addT_str (by rw [szl]; omega))) rfl)) f5) rfl))))) (by simp))) ?_
  refine ret_ok (x_call (ds := [.t (.lst [.bl true, .bl b, .bl true, .bl false, .bl true, .bl false]), .t (.lst [.bl true, .bl b, .bl true, .bl false, .bl true, .bl false])])
    (x_cons (x_T2 (y := .lst [.bl false]) rfl (x_lst (ts := [.bl false]) (S1 := S3) (x_cons (x_call (ds := [.t (bookT z W), .t (.str (s ++ cs "z"))]) (x_cons rfl (x_cons (x_T2 rfl rfl (addT_str (by rw [szl, show (cs "z").length = 1 from rfl]; omega))) rfl)) f6) rfl) (by simp)) (addT_lst (by simp)))
    (x_cons (x_lst (ts := [.bl true, .bl b, .bl true, .bl false, .bl true, .bl false]) (x_cons rfl (x_cons (x_T2 (x_B (x_cons (x_op2 rfl rfl (bk1 _ _ z W)) rfl) (len_tup _ _ _)) rfl (by rw [List.length_map]; exact hl)) (x_cons rfl (x_cons rfl (x_cons rfl (x_cons rfl rfl)))))) (by simp)) rfl)) sa)
end Lw

set_option maxHeartbeats 4000000
/-! P01h: the law -/
namespace Lw
open Fm
theorem last_ok {g : MF} {ds : List D} {S S' : List O} {o : O} {d : D} (h : g ds S [o] = .ok d S') : lastF g ds [] (S ++ [o]) = .ok d (S ++ S') := by
  unfold lastF
  simp [h]
theorem pt_one {n : Nat} {S : List O} (h : Pt n [] S) : ∃ o, S = [o] := by
  obtain ⟨a, b, c, e, _, _⟩ := h
  exact ⟨_, e⟩
theorem law_true (l : List Int) (h : l.length ≤ 63) : ∃ S, m_law [.t (.scr l)] [] [] = .ok (.t (.bl true)) S := by
  obtain ⟨ρ', S', e, _, _, _, _⟩ := for_inv (g := gN 1) (P := []) (fb := (sSeq (sSet 2 (mCall (newF m__law_source) (mCons (mVar 0) (mCons (mVar 1) mNil)))) (sSeq (sSet 3 (mCall (lastF m__law_book) (mCons (mVar 2) (mCons (mOp2 subG (mLst (mCons (mC (.int 12)) (mCons (mC (.int 12)) (mCons (mC (.int 40)) mNil)))) (mCall (lastF m__law_pick) (mCons (mVar 2) (mCons (mC (.int 3)) mNil)))) mNil)))) (sSeq (sIf (mOrT (mNotT (mT (mCall (lastF (keepF m__law_books_right)) (mCons (mVar 2) (mCons (mVar 3) mNil))))) (mOrT (mNotT (mT (mCall (lastF (keepF m__law_texts_right)) (mCons (mVar 2) (mCons (mVar 3) mNil))))) (mNotT (mT (mCall (pureZ m__law_places_right) (mCons (mVar 3) mNil)))))) (sRet (mC (.bl false))) sNil) (sIf (mAndT (mB (mOp2 (lT2 eqT) (mVar 1) (mC (.int 0)))) (mNotT (mT (mCall (lastF (keepF m__law_great_right)) (mCons (mVar 2) mNil))))) (sRet (mC (.bl false))) sNil)))))
    (fun n ρ S' => (∃ o1 o2 o3, ρ = [some (.t (.scr l)), o1, o2, o3])) (rngOf 0 (if (1 : Int) < (if (l.length : Int) < 3 then (l.length : Int) else 3) then (if (l.length : Int) < 3 then (l.length : Int) else 3) else 1)) 0 [some (.t (.scr l)), none, none, none] [] (fun k d ρ S hd hj => by
      obtain ⟨o1, o2, o3, rfl⟩ := hj
      obtain ⟨rfl, hlt⟩ := rngOf_at hd
      have hk : k < 64 := by
        split at hlt <;> split at hlt <;> omega
      obtain ⟨a, b, es⟩ := source_ok [] S l k hk
      rw [List.length_nil, Nat.zero_add] at es
      obtain ⟨r, S1, e1, r0, r3, p1⟩ := pick_pt S (n := 0) (R := []) (S := [pot a b 0]) (top := 3) ⟨a, b, 0, rfl, by omega, by omega⟩ (by decide) (by decide) (by decide)
      obtain ⟨y1, rfl⟩ := pt_one p1
      obtain ⟨m, hm1, hm2, e2⟩ : ∃ m : Nat, 1 ≤ m ∧ m ≤ 40 ∧ subG (.t (.lst [.int 12, .int 12, .int 40])) (.t (.int r)) [] (S ++ [y1]) = some (.t (.int m), S ++ [y1]) := by
        rcases (show r = 0 ∨ r = 1 ∨ r = 2 by omega) with rfl | rfl | rfl
        · exact ⟨12, by decide, by decide, rfl⟩
        · exact ⟨12, by decide, by decide, rfl⟩
        · exact ⟨40, by decide, by decide, rfl⟩
      obtain ⟨z, W, S2, e3, p2, hz, w, lW⟩ := book_ok S (most := m) p1 (by decide) hm1 (by omega)
      obtain ⟨y2, rfl⟩ := pt_one p2
      obtain ⟨S3, e4, p3⟩ := booksright_ok S p2 (by decide) hz w.ne (by omega) (fun x hx => ⟨w.sm x hx, w.len x hx⟩)
      obtain ⟨y3, rfl⟩ := pt_one p3
      obtain ⟨S4, e5, p4⟩ := textsright_ok S p3 (by decide) w hz (by omega)
      obtain ⟨y4, rfl⟩ := pt_one p4
      have e6 := placesright_at [] (S ++ [y4]) w hz (by omega)
      obtain ⟨S5, e7, p5⟩ := great_ok S p4 (by decide)
      obtain ⟨y5, rfl⟩ := pt_one p5
      obtain ⟨dq, hdq⟩ : ∃ dq, dq = decide ((0 : Int) + k = 0) := ⟨_, rfl⟩
      refine ⟨_, rfl, [some (.t (.scr l)), some (.t (.int (0 + k))), some (.ref S.length), some (.t (bookT z W))], if dq then S ++ [y5] else S ++ [y4], .inl ?_, _, _, _, rfl⟩
      refine seq_nx' (set_ok (x_call (ds := [.t (.scr l), .t (.int (0 + k))]) (x_cons rfl (x_cons rfl rfl)) (by rw [Int.zero_add]; exact es))) ?_
      refine seq_nx' (set_ok (x_call (ds := [.ref S.length, .t (.int m)]) (x_cons rfl (x_cons (x_op2 (S1 := S ++ [pot a b 0]) (x_lst (ts := [.int 12, .int 12, .int 40]) (x_cons rfl (x_cons rfl (x_cons rfl rfl))) (by simp)) (x_call (ds := [.ref S.length, .t (.int 3)]) (x_cons rfl (x_cons rfl rfl)) (last_ok e1)) e2) rfl)) (last_ok e3))) ?_
      refine seq_nx' (if_nx (b := false) (x_orT0 (x_notT (b := true) (x_Tt (x_call (ds := [.ref S.length, .t (bookT z W)]) (x_cons rfl (x_cons rfl rfl)) (last_ok e4)))) (x_orT0 (x_notT (b := true) (x_Tt (x_call (ds := [.ref S.length, .t (bookT z W)]) (x_cons rfl (x_cons rfl rfl)) (last_ok e5)))) (x_notT (b := true) (x_Tt (x_call (ds := [.t (bookT z W)]) (x_cons rfl rfl) e6))))) rfl) ?_
      cases dq with
      | true => exact if_nx (b := false) (x_andT1 (x_Bt (x_T2 rfl rfl (by rw [eqT_int, ← hdq]))) (x_notT (b := true) (x_Tt (x_call (ds := [.ref S.length]) (x_cons rfl rfl) (last_ok e7))))) rfl
      | false => exact if_nx (b := false) (x_andT0 (x_Bt (x_T2 rfl rfl (by rw [eqT_int, ← hdq])))) rfl) ⟨none, none, none, rfl⟩
  refine ⟨S', ?_⟩
  have hr := rng1_ok (j := if (1 : Int) < (if (l.length : Int) < 3 then (l.length : Int) else 3) then (if (l.length : Int) < 3 then (l.length : Int) else 3) else 1) (by split <;> split <;> omega)
  rw [m_law]
  refine def_rt ?_
  show b_law [] [some (.t (.scr l)), none, none, none] [] = _
  unfold b_law
  refine seq_nx' (for_ok (ds := rngOf 0 (if (1 : Int) < (if (l.length : Int) < 3 then (l.length : Int) else 3) then (if (l.length : Int) < 3 then (l.length : Int) else 3) else 1)) ?_ e) (ret_ok rfl)
  exact x_I (ds := [.t (.int (if (1 : Int) < (if (l.length : Int) < 3 then (l.length : Int) else 3) then (if (l.length : Int) < 3 then (l.length : Int) else 3) else 1))]) (x_cons (x_B2 rfl (x_B2 rfl (x_B (x_cons rfl rfl) (len_scr ..)) rfl) rfl) rfl) hr
end Lw

open PySem PySem.W PyProof.Rows
set_option maxHeartbeats 0 in
theorem PySem.Challenge.cw_surepieces_k01_books_ring_texts_and_piec_holds : PySem.Challenge.rw_surepieces_k01_books_ring_texts_and_piec.Holds := by
  w_on; o_law; k_head; (case hw => w_witness2)
  k_fill
  refine Fm.walkG (l := PySem.Challenge.rw_surepieces_k01_books_ring_texts_and_piec) (n := 63) (k := 9) (x := "script") (g := Lw.m_law) rfl (by decide) rfl ⟨rfl, by decide, by decide⟩ (fun w h Y => PySem.W.kIn_of Y) ?F Lw.law_true
  case F =>
    intro w mg fa h KX G hmg
    refine' Lw.all_mk KX G hmg ?a1 ?l1 ?c1 ?k1 ?a2 ?l2 ?c2 ?k2 ?a3 ?l3 ?c3 ?k3 ?a4 ?l4 ?c4 ?k4 ?a5 ?l5 ?c5 ?k5 ?a6 ?l6 ?c6 ?k6 ?a7 ?l7 ?c7 ?k7 ?a8 ?l8 ?c8 ?k8 ?a9 ?l9 ?c9 ?k9 ?a10 ?l10 ?c10 ?k10 ?a11 ?l11 ?c11 ?k11 ?a12 ?l12 ?c12 ?k12 ?a13 ?l13 ?c13 ?k13 ?a14 ?l14 ?c14 ?k14 ?a15 ?l15 ?c15 ?k15 ?a16 ?l16 ?c16 ?k16 ?a17 ?l17 ?c17 ?k17 ?a18 ?l18 ?c18 ?k18 ?a19 ?l19 ?c19 ?k19 ?a20 ?l20 ?c20 ?k20 ?a21 ?l21 ?c21 ?k21 ?a22 ?l22 ?c22 ?k22 ?a23 ?l23 ?c23 ?k23 ?a24 ?l24 ?c24 ?k24 ?a25 ?l25 ?c25 ?k25 ?a26 ?l26 ?c26 ?k26 ?a27 ?l27 ?c27 ?k27 ?a28 ?l28 ?c28 ?k28 ?a29 ?l29 ?c29 ?k29 ?a30 ?l30 ?c30 ?k30 ?a31 ?l31 ?c31 ?k31 ?a32 ?l32 ?c32 ?k32 ?a33 ?l33 ?c33 ?k33 ?a34 ?l34 ?c34 ?k34 ?a35 ?l35 ?c35 ?k35 ?z_abs ?z_all ?z_bool ?z_int ?z_isinstance ?z_len ?z_list ?z_max ?z_min ?z_range ?z_set ?z_sorted ?z_str ?z_tuple ?v_LEAST_SIZE ?v_LETTERS ?v_MOST_SIZE
    (case a1 => k_is)
    (case l1 => k_is)
    (case c1 => k_is)
    (case k1 => k_is)
    (case a2 => k_is)
    (case l2 => k_is)
    (case c2 => k_is)
    (case k2 => k_is)
    (case a3 => k_is)
    (case l3 => k_is)
    (case c3 => k_is)
    (case k3 => k_is)
    (case a4 => k_is)
    (case l4 => k_is)
    (case c4 => k_is)
    (case k4 => k_is)
    (case a5 => k_is)
    (case l5 => k_is)
    (case c5 => k_is)
    (case k5 => k_is)
    (case a6 => k_is)
    (case l6 => k_is)
    (case c6 => k_is)
    (case k6 => k_is)
    (case a7 => k_is)
    (case l7 => k_is)
    (case c7 => k_is)
    (case k7 => k_is)
    (case a8 => k_is)
    (case l8 => k_is)
    (case c8 => k_is)
    (case k8 => k_is)
    (case a9 => k_is)
    (case l9 => k_is)
    (case c9 => k_is)
    (case k9 => k_is)
    (case a10 => k_is)
    (case l10 => k_is)
    (case c10 => k_is)
    (case k10 => k_is)
    (case a11 => k_is)
    (case l11 => k_is)
    (case c11 => k_is)
    (case k11 => k_is)
    (case a12 => k_is)
    (case l12 => k_is)
    (case c12 => k_is)
    (case k12 => k_is)
    (case a13 => k_is)
    (case l13 => k_is)
    (case c13 => k_is)
    (case k13 => k_is)
    (case a14 => k_is)
    (case l14 => k_is)
    (case c14 => k_is)
    (case k14 => k_is)
    (case a15 => k_is)
    (case l15 => k_is)
    (case c15 => k_is)
    (case k15 => k_is)
    (case a16 => k_is)
    (case l16 => k_is)
    (case c16 => k_is)
    (case k16 => k_is)
    (case a17 => k_is)
    (case l17 => k_is)
    (case c17 => k_is)
    (case k17 => k_is)
    (case a18 => k_is)
    (case l18 => k_is)
    (case c18 => k_is)
    (case k18 => k_is)
    (case a19 => k_is)
    (case l19 => k_is)
    (case c19 => k_is)
    (case k19 => k_is)
    (case a20 => k_is)
    (case l20 => k_is)
    (case c20 => k_is)
    (case k20 => k_is)
    (case a21 => k_is)
    (case l21 => k_is)
    (case c21 => k_is)
    (case k21 => k_is)
    (case a22 => k_is)
    (case l22 => k_is)
    (case c22 => k_is)
    (case k22 => k_is)
    (case a23 => k_is)
    (case l23 => k_is)
    (case c23 => k_is)
    (case k23 => k_is)
    (case a24 => k_is)
    (case l24 => k_is)
    (case c24 => k_is)
    (case k24 => k_is)
    (case a25 => k_is)
    (case l25 => k_is)
    (case c25 => k_is)
    (case k25 => k_is)
    (case a26 => k_is)
    (case l26 => k_is)
    (case c26 => k_is)
    (case k26 => k_is)
    (case a27 => k_is)
    (case l27 => k_is)
    (case c27 => k_is)
    (case k27 => k_is)
    (case a28 => k_is)
    (case l28 => k_is)
    (case c28 => k_is)
    (case k28 => k_is)
    (case a29 => k_is)
    (case l29 => k_is)
    (case c29 => k_is)
    (case k29 => k_is)
    (case a30 => k_is)
    (case l30 => k_is)
    (case c30 => k_is)
    (case k30 => k_is)
    (case a31 => k_is)
    (case l31 => k_is)
    (case c31 => k_is)
    (case k31 => k_is)
    (case a32 => k_is)
    (case l32 => k_is)
    (case c32 => k_is)
    (case k32 => k_is)
    (case a33 => k_is)
    (case l33 => k_is)
    (case c33 => k_is)
    (case k33 => k_is)
    (case a34 => k_is)
    (case l34 => k_is)
    (case c34 => k_is)
    (case k34 => k_is)
    (case a35 => k_is)
    (case l35 => k_is)
    (case c35 => k_is)
    (case k35 => k_is)
    (case z_abs => k_is)
    (case z_all => k_is)
    (case z_bool => k_is)
    (case z_int => k_is)
    (case z_isinstance => k_is)
    (case z_len => k_is)
    (case z_list => k_is)
    (case z_max => k_is)
    (case z_min => k_is)
    (case z_range => k_is)
    (case z_set => k_is)
    (case z_sorted => k_is)
    (case z_str => k_is)
    (case z_tuple => k_is)
    (case v_LEAST_SIZE => k_is)
    (case v_LETTERS => k_is)
    (case v_MOST_SIZE => k_is)

