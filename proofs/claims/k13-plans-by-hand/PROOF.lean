import PyProof.Rows.All
import HandS.ForMost
import HandS.ForExc
import HandS.CallSlots
import HandS.Defaults
import HandS.Flow
import HandS.Property
import HandS.Zip
import HandS.Deep
import HandS.TupAny
import HandS.Style
import HandS.IsInst
import HandS.Wide
import HandS.Text
import HandS.Dict
import HandS.Strs
import HandS.Codes
import HandS.DictComp
import KE.KSortKeySt
import HandS.SortKw
import HandS.Star
import HandS.NoneIn
import KE.GoesEnum
import HandS.Conv
import HandS.Ends
import HandS.More
import HandS.Words
import HandS.WordsExc
import HandS.Head0
import HandS.Head1
import HandS.Head2
import HandS.HeadEnd
import HandS.HeadHook1
import HandS.HeadHook2
import HandS.TupMul
import HandS.SlotsOwn
import OpenK.KMeth
import HandS.ListItems
import PySem.Challenge.RW_stretchneeds_k13_plans_by_hand
set_option Elab.async false
set_option linter.all false
set_option maxRecDepth 100000
set_option maxHeartbeats 0
namespace Mi
open PySem PySem.Spec PyProof.Rows L2

inductive T where
  | non | bl (b : Bool) | int (i : Int) | str (x : List Nat)
  | tup (xs : List T) | lst (xs : List T) | dct (tk : Bool) (kvs : List (T × T))
  | obj (c : Nat) (fs : List T)
  | ktup (xs : List T) | klst (xs : List T)
  | loc (n : Nat)
  deriving Inhabited

inductive MO where
  | gone | lst (xs : List T) | dct (tk : Bool) (kvs : List (T × T)) | obj (c : Nat) (fs : List T)
  deriving Inhabited

abbrev Mem := List MO
abbrev TV := List (Option T)

inductive Res (α : Type) where
  | ok (a : α) (M : Mem)
  | exc (c : Nat) (v : T) (M : Mem)
  | err
  deriving Inhabited

/-- what is fixed: the own classes by number, their attributes in the order in which they are made, the names that stand for signs -/
def symB : Nat := 1114112
/-- so many names stand for signs at most -/
def symN : Nat := 16
structure Om where
  cls : Nat → Addr
  fld : Nat → List Str
  /-- how many names stand for signs: unlike words of one to eight letters -/
  rho : Nat → List Nat
  rne : ∀ c, rho c ≠ []
  rle : ∀ c, (rho c).length ≤ 8
  rch : ∀ c x, x ∈ rho c → 97 ≤ x ∧ x ≤ 122
  rij : ∀ i j, i < symN → j < symN → rho (symB + i) = rho (symB + j) → i = j

def spell (r : Nat → List Nat) (x : List Nat) : List Nat := x.flatMap fun c => if c < symB then [c] else r c

def Live (ι : List Addr) (M : Mem) (a : Addr) : Prop := ∃ (n : Nat) (o : MO), ι[n]? = some a ∧ M[n]? = some o ∧ o ≠ .gone

/-- keys of dicts -/
inductive RK (Ω : Om) : T → Key → Prop
  | int (i) : RK Ω (.int i) (.inl i)
  | str (x s) : s.cps.toList = spell Ω.rho x → RK Ω (.str x) (.inr s)
inductive RKs (Ω : Om) : List T → List Key → Prop
  | nil : RKs Ω [] []
  | cons {t k ts ks} : RK Ω t k → RKs Ω ts ks → RKs Ω (t :: ts) (k :: ks)
inductive RKt (Ω : Om) : T → List Key → Prop
  | mk {ts ks} : RKs Ω ts ks → RKt Ω (.tup ts) ks
inductive RKts (Ω : Om) : List T → List (List Key) → Prop
  | nil : RKts Ω [] []
  | cons {t k ts ks} : RKt Ω t k → RKts Ω ts ks → RKts Ω (t :: ts) (k :: ks)


/-- the script's list, or a list of the module's own -/
abbrev KL (K : PySem.W.Frag) (H : Hp) (a : Addr) (vs : List V) : Prop := (∃ o, H a = some (.frz o (.lst vs))) ∨ ∃ (o : Obj) (its : Array Value) (n : Nat), K.lookup a = some o ∧ o.cls = .type "list" ∧ o.dict = none ∧ o.data = .seq its n ∧ its.size ≤ sizeLine ∧ Vals vs its.toList
theorem KL.sql {K : PySem.W.Frag} {H : Hp} {a : Addr} {vs : List V} (h : KL K H a vs) : SqL K H a vs := h.elim (fun q => .inl (.inr q)) .inr
section
variable (K : PySem.W.Frag) (Ω : Om) (Z : List Addr) (ι : List Addr) (M : Mem) (H : Hp)
/-- a stands still: it is neither mutable nor being made -/
def Still (a : Addr) : Prop := ¬ Live ι M a ∧ a ∉ Z
mutual
inductive R : T → V → Prop
  | non : R .non .non
  | bl (b) : R (.bl b) (.bl b)
  | int (i) : R (.int i) (.int i)
  | str (x s) : s.cps.toList = spell Ω.rho x → x.length ≤ 2000000 → R (.str x) (.str s)
  | tup {ts a vs} : H a = some (.tup vs) → Rs ts vs → R (.tup ts) (.ref a)
  | ktup {ts a vs} : SqT K H a vs → Rs ts vs → R (.ktup ts) (.ref a)
  | lst {ts a vs} : H a = some (.lst vs) → Still Z ι M a → Rs ts vs → R (.lst ts) (.ref a)
  | klst {ts a vs} : KL K H a vs → Rs ts vs → R (.klst ts) (.ref a)
  | dK {kvs a ws} : Rd H a (.dK ws) → Still Z ι M a → RKs Ω (kvs.map (·.1)) (ws.map (·.1)) → Rs (kvs.map (·.2)) (ws.map (·.2)) → R (.dct false kvs) (.ref a)
  | dT {kvs a ws} : Rd H a (.dT ws) → Still Z ι M a → RKts Ω (kvs.map (·.1)) (ws.map (·.1)) → Rs (kvs.map (·.2)) (ws.map (·.2)) → R (.dct true kvs) (.ref a)
  | obj {c fs a dx ws} : H a = some (.ins (Ω.cls c) dx ws) → Still Z ι M a → ws.map (·.1) = (Ω.fld c).take ws.length → Rs fs (ws.map (·.2)) → R (.obj c fs) (.ref a)
  | loc {n a} : ι[n]? = some a → R (.loc n) (.ref a)
inductive Rs : List T → List V → Prop
  | nil : Rs [] []
  | cons {t v ts vs} : R t v → Rs ts vs → Rs (t :: ts) (v :: vs)
end

/-- a mutable object -/
inductive RO : MO → Addr → Prop
  | gone {a o} : H a = some o → RO .gone a
  | lst {ts a vs} : H a = some (.lst vs) → Rs K Ω Z ι M H ts vs → RO (.lst ts) a
  | dK {kvs a ws} : H a = some (.dK ws) → RKs Ω (kvs.map (·.1)) (ws.map (·.1)) → Rs K Ω Z ι M H (kvs.map (·.2)) (ws.map (·.2)) → RO (.dct false kvs) a
  | dT {kvs a ws} : H a = some (.dT ws) → RKts Ω (kvs.map (·.1)) (ws.map (·.1)) → Rs K Ω Z ι M H (kvs.map (·.2)) (ws.map (·.2)) → RO (.dct true kvs) a
  | obj {c fs a dx ws} : H a = some (.ins (Ω.cls c) dx ws) → ws.map (·.1) = (Ω.fld c).take ws.length → Rs K Ω Z ι M H fs (ws.map (·.2)) → RO (.obj c fs) a

structure RM : Prop where
  len : ι.length = M.length
  nd : ∀ (i j : Nat) (a : Addr) (o u : MO), ι[i]? = some a → ι[j]? = some a → M[i]? = some o → M[j]? = some u → o ≠ .gone → u ≠ .gone → i = j
  mem : ∀ (n : Nat) (a : Addr) (o : MO), ι[n]? = some a → M[n]? = some o → RO K Ω Z ι M H o a
  zin : ∀ z ∈ Z, H z ≠ none ∧ ¬ Live ι M z
structure RV (σT : TV) (σ : L2.St) : Prop where
  len : σT.length = σ.length
  at_ : ∀ (i : Nat) (t : T), σT[i]? = some (some t) → ∃ v, σ[i]? = some (some v) ∧ R K Ω Z ι M H t v
end

structure Ext (Z : List Addr) (ι : List Addr) (M : Mem) (H : Hp) (ι' : List Addr) (M' : Mem) (H' : Hp) : Prop where
  pre : ∃ more, ι' = ι ++ more
  froz : ∀ a o, H a = some o → Still Z ι M a → H' a = some o ∧ ¬ Live ι' M' a
  tups : ∀ a vs, H a = some (.tup vs) → H' a = some (.tup vs)
  frzs : ∀ a o u, H a = some (.frz o u) → H' a = some (.frz o u)
  there : ∀ a, H a ≠ none → H' a ≠ none

section
variable {K : PySem.W.Frag} {Ω : Om} {Z : List Addr} {ι ι' ι'' : List Addr} {M M' M'' : Mem} {H H' H'' : Hp}
theorem Ext.to {Z' : List Addr} (e : Ext Z ι M H ι' M' H') (h : ∀ z ∈ Z, z ∈ Z') : Ext Z' ι M H ι' M' H' := ⟨e.pre, fun a o q n => e.froz a o q ⟨n.1, fun z => n.2 (h a z)⟩, e.tups, e.frzs, e.there⟩
theorem Ext.any (e : Ext [] ι M H ι' M' H') : Ext Z ι M H ι' M' H' := e.to (by simp)
/-- what was not there may have changed -/
theorem Ext.drop {p : Addr} (e : Ext (p :: Z) ι M H ι' M' H') (h : H p = none) : Ext Z ι M H ι' M' H' := ⟨e.pre, fun a o q n => e.froz a o q ⟨n.1, fun z => (List.mem_cons.mp z).elim (fun x => by rw [x, h] at q; cases q) n.2⟩, e.tups, e.frzs, e.there⟩
theorem Ext.refl : Ext Z ι M H ι M H := ⟨⟨[], by simp⟩, fun _ _ h n => ⟨h, n.1⟩, fun _ _ h => h, fun _ _ _ h => h, fun _ h => h⟩
theorem Ext.trans (a : Ext Z ι M H ι' M' H') (b : Ext Z ι' M' H' ι'' M'' H'') : Ext Z ι M H ι'' M'' H'' := by
  obtain ⟨m1, e1⟩ := a.pre
  obtain ⟨m2, e2⟩ := b.pre
  refine ⟨⟨m1 ++ m2, by rw [e2, e1, List.append_assoc]⟩, fun p o h n => ?_, fun p vs h => b.tups p vs (a.tups p vs h), fun p o u h => b.frzs p o u (a.frzs p o u h), fun p h => b.there p (a.there p h)⟩
  obtain ⟨h1, n1⟩ := a.froz p o h n
  exact b.froz p o h1 ⟨n1, n.2⟩
theorem Ext.still (e : Ext Z ι M H ι' M' H') {a : Addr} {o : HO} (h : H a = some o) (n : Still Z ι M a) : H' a = some o ∧ Still Z ι' M' a :=
  let q := e.froz a o h n
  ⟨q.1, q.2, n.2⟩
theorem Ext.rd (e : Ext Z ι M H ι' M' H') {a : Addr} {u : HO} (h : Rd H a u) (n : Still Z ι M a) : Rd H' a u ∧ Still Z ι' M' a := by
  rcases h with h | ⟨o, h⟩
  · exact ⟨.inl (e.still h n).1, (e.still h n).2⟩
  · exact ⟨.inr ⟨o, (e.still h n).1⟩, (e.still h n).2⟩
theorem Ext.sqt (e : Ext Z ι M H ι' M' H') {a : Addr} {vs : List V} (h : SqT K H a vs) : SqT K H' a vs := by
  rcases h with (h | ⟨o, h⟩) | h
  · exact .inl (.inl (e.tups a _ h))
  · exact .inl (.inr ⟨o, e.frzs a _ _ h⟩)
  · exact .inr h
mutual
theorem R.ext (e : Ext Z ι M H ι' M' H') : ∀ {t : T} {v : V}, R K Ω Z ι M H t v → R K Ω Z ι' M' H' t v
  | _, _, .non => .non
  | _, _, .bl b => .bl b
  | _, _, .int i => .int i
  | _, _, .str x s h l => .str x s h l
  | _, _, .tup h r => .tup (e.tups _ _ h) (Rs.ext e r)
  | _, _, .ktup h r => .ktup (e.sqt h) (Rs.ext e r)
  | _, _, .lst h n r => .lst (e.still h n).1 (e.still h n).2 (Rs.ext e r)
  | _, _, .klst h r => .klst (h.elim (fun ⟨o, q⟩ => .inl ⟨o, e.frzs _ _ _ q⟩) .inr) (Rs.ext e r)
  | _, _, .dK h n k r => .dK (e.rd h n).1 (e.rd h n).2 k (Rs.ext e r)
  | _, _, .dT h n k r => .dT (e.rd h n).1 (e.rd h n).2 k (Rs.ext e r)
  | _, _, .obj h n k r => .obj (e.still h n).1 (e.still h n).2 k (Rs.ext e r)
  | _, _, .loc h => .loc (by
      obtain ⟨m, q⟩ := e.pre
      rw [q, List.getElem?_append_left (List.getElem?_eq_some_iff.mp h).1]
      exact h)
theorem Rs.ext (e : Ext Z ι M H ι' M' H') : ∀ {ts : List T} {vs : List V}, Rs K Ω Z ι M H ts vs → Rs K Ω Z ι' M' H' ts vs
  | _, _, .nil => .nil
  | _, _, .cons r t => .cons (R.ext e r) (Rs.ext e t)
end
theorem RV.ext (e : Ext Z ι M H ι' M' H') {σT : TV} {σ : L2.St} (r : RV K Ω Z ι M H σT σ) : RV K Ω Z ι' M' H' σT σ := ⟨r.len, fun i t h =>
  let ⟨v, a, b⟩ := r.at_ i t h
  ⟨v, a, b.ext e⟩⟩
/-! ### fewer things are being made -/
theorem Still.sub {Z' : List Addr} (h : ∀ z ∈ Z', z ∈ Z) {a : Addr} (n : Still Z ι M a) : Still Z' ι M a := ⟨n.1, fun z => n.2 (h a z)⟩
mutual
theorem R.sub {Z' : List Addr} (h : ∀ z ∈ Z', z ∈ Z) : ∀ {t : T} {v : V}, R K Ω Z ι M H t v → R K Ω Z' ι M H t v
  | _, _, .non => .non
  | _, _, .bl b => .bl b
  | _, _, .int i => .int i
  | _, _, .str x s h l => .str x s h l
  | _, _, .tup q r => .tup q (Rs.sub h r)
  | _, _, .ktup q r => .ktup q (Rs.sub h r)
  | _, _, .lst q n r => .lst q (n.sub h) (Rs.sub h r)
  | _, _, .klst q r => .klst q (Rs.sub h r)
  | _, _, .dK q n k r => .dK q (n.sub h) k (Rs.sub h r)
  | _, _, .dT q n k r => .dT q (n.sub h) k (Rs.sub h r)
  | _, _, .obj q n k r => .obj q (n.sub h) k (Rs.sub h r)
  | _, _, .loc q => .loc q
theorem Rs.sub {Z' : List Addr} (h : ∀ z ∈ Z', z ∈ Z) : ∀ {ts : List T} {vs : List V}, Rs K Ω Z ι M H ts vs → Rs K Ω Z' ι M H ts vs
  | _, _, .nil => .nil
  | _, _, .cons r t => .cons (R.sub h r) (Rs.sub h t)
end
theorem RO.sub {Z' : List Addr} (h : ∀ z ∈ Z', z ∈ Z) : ∀ {o : MO} {a : Addr}, RO K Ω Z ι M H o a → RO K Ω Z' ι M H o a
  | _, _, .gone q => .gone q
  | _, _, .lst q r => .lst q (r.sub h)
  | _, _, .dK q k r => .dK q k (r.sub h)
  | _, _, .dT q k r => .dT q k (r.sub h)
  | _, _, .obj q k r => .obj q k (r.sub h)
theorem RM.sub {Z' : List Addr} (h : ∀ z ∈ Z', z ∈ Z) (m : RM K Ω Z ι M H) : RM K Ω Z' ι M H := ⟨m.len, m.nd, fun n a o x y => (m.mem n a o x y).sub h, fun z q => m.zin z (h z q)⟩
theorem RV.sub {Z' : List Addr} (h : ∀ z ∈ Z', z ∈ Z) {σT : TV} {σ : L2.St} (r : RV K Ω Z ι M H σT σ) : RV K Ω Z' ι M H σT σ := ⟨r.len, fun i t q =>
  let ⟨v, a, b⟩ := r.at_ i t q
  ⟨v, a, b.sub h⟩⟩
theorem RO.ext (e : Ext Z ι M H ι' M' H') (k : ∀ (a : Addr) (o : HO), H a = some o → (∃ n : Nat, ι[n]? = some a) → ∃ o', H' a = some o') : ∀ {o : MO} {a : Addr}, (∃ n : Nat, ι[n]? = some a) → RO K Ω Z ι M H o a → (o ≠ .gone → H' a = H a) → RO K Ω Z ι' M' H' o a
  | _, _, i, .gone q, _ => let ⟨_, z⟩ := k _ _ q i; .gone z
  | _, _, _, .lst q r, h => .lst ((h (by intro z; cases z)).trans q) (r.ext e)
  | _, _, _, .dK q k r, h => .dK ((h (by intro z; cases z)).trans q) k (r.ext e)
  | _, _, _, .dT q k r, h => .dT ((h (by intro z; cases z)).trans q) k (r.ext e)
  | _, _, _, .obj q k r, h => .obj ((h (by intro z; cases z)).trans q) k (r.ext e)
theorem RO.there : ∀ {o : MO} {a : Addr}, RO K Ω Z ι M H o a → H a ≠ none
  | _, _, .gone q => by rw [q]; exact nofun
  | _, _, .lst q _ => by rw [q]; exact nofun
  | _, _, .dK q _ _ => by rw [q]; exact nofun
  | _, _, .dT q _ _ => by rw [q]; exact nofun
  | _, _, .obj q _ _ => by rw [q]; exact nofun
theorem RM.at {n : Nat} {a : Addr} (m : RM K Ω Z ι M H) (h : ι[n]? = some a) : ∃ o, M[n]? = some o ∧ RO K Ω Z ι M H o a := by
  have hl : n < M.length := by rw [← m.len]; exact (List.getElem?_eq_some_iff.mp h).1
  exact ⟨M[n], List.getElem?_eq_getElem hl, m.mem n a _ h (List.getElem?_eq_getElem hl)⟩
theorem RM.addr {n : Nat} {o : MO} (m : RM K Ω Z ι M H) (h : M[n]? = some o) : ∃ a, ι[n]? = some a ∧ RO K Ω Z ι M H o a := by
  have hl : n < ι.length := by rw [m.len]; exact (List.getElem?_eq_some_iff.mp h).1
  exact ⟨ι[n], List.getElem?_eq_getElem hl, m.mem n _ _ (List.getElem?_eq_getElem hl) h⟩
theorem RM.new (m : RM K Ω Z ι M H) {p : Addr} (h : H p = none) : p ∉ ι := fun q => by
  obtain ⟨n, hn, e⟩ := List.getElem_of_mem q
  obtain ⟨o, _, r⟩ := m.at (n := n) (a := p) (by rw [List.getElem?_eq_getElem hn, e])
  exact r.there h
theorem RM.notLive (m : RM K Ω Z ι M H) {p : Addr} (h : H p = none) : ¬ Live ι M p := fun ⟨n, o, a, _, _⟩ => m.new h (List.mem_of_getElem? a)
theorem RM.notZ (m : RM K Ω Z ι M H) {p : Addr} (h : H p = none) : p ∉ Z := fun z => (m.zin p z).1 h
/-! ### a new object -/
theorem Ext.new {p : Addr} {o : HO} (h : H p = none) : Ext Z ι M H ι M (upd H p o) := by
  have ne : ∀ a, H a ≠ none → a ≠ p := fun a q e => q (by rw [e]; exact h)
  exact ⟨⟨[], by simp⟩, fun a u q n => ⟨by rw [upd_ne (ne a (by rw [q]; exact nofun))]; exact q, n.1⟩, fun a vs q => by rw [upd_ne (ne a (by rw [q]; exact nofun))]; exact q,
    fun a u x q => by rw [upd_ne (ne a (by rw [q]; exact nofun))]; exact q, fun a q => by rw [upd_ne (ne a q)]; exact q⟩
/-- laid, being made -/
theorem RM.lay (m : RM K Ω Z ι M H) {p : Addr} {o : HO} (h : H p = none) : RM K Ω Z ι M (upd H p o) := by
  have e : Ext Z ι M H ι M (upd H p o) := Ext.new h
  have ne : ∀ a, H a ≠ none → upd H p o a = H a := fun a q => upd_ne fun z => q (by rw [z]; exact h)
  refine ⟨m.len, m.nd, fun n a u x y => ?_, fun z q => ⟨by rw [ne z (m.zin z q).1]; exact (m.zin z q).1, (m.zin z q).2⟩⟩
  have r := m.mem n a u x y
  exact r.ext e (fun b w q _ => ⟨w, by rw [ne b (by rw [q]; exact nofun)]; exact q⟩) ⟨n, x⟩ (fun _ => ne a r.there)
theorem still_hide {p a : Addr} {u : HO} (h : H p = none) (q : Rd H a u) (n : Still Z ι M a) : Still (p :: Z) ι M a := ⟨n.1, fun z => (List.mem_cons.mp z).elim (fun e => by
  rcases q with q | ⟨_, q⟩ <;> (rw [e, h] at q; cases q)) n.2⟩
mutual
theorem R.hide {p : Addr} (h : H p = none) : ∀ {t : T} {v : V}, R K Ω Z ι M H t v → R K Ω (p :: Z) ι M H t v
  | _, _, .non => .non
  | _, _, .bl b => .bl b
  | _, _, .int i => .int i
  | _, _, .str x s h l => .str x s h l
  | _, _, .tup q r => .tup q (Rs.hide h r)
  | _, _, .ktup q r => .ktup q (Rs.hide h r)
  | _, _, .lst q n r => .lst q (still_hide h (.inl q) n) (Rs.hide h r)
  | _, _, .klst q r => .klst q (Rs.hide h r)
  | _, _, .dK q n k r => .dK q (still_hide h q n) k (Rs.hide h r)
  | _, _, .dT q n k r => .dT q (still_hide h q n) k (Rs.hide h r)
  | _, _, .obj q n k r => .obj q ⟨n.1, fun z => (List.mem_cons.mp z).elim (fun e => by rw [e, h] at q; cases q) n.2⟩ k (Rs.hide h r)
  | _, _, .loc q => .loc q
theorem Rs.hide {p : Addr} (h : H p = none) : ∀ {ts : List T} {vs : List V}, Rs K Ω Z ι M H ts vs → Rs K Ω (p :: Z) ι M H ts vs
  | _, _, .nil => .nil
  | _, _, .cons r t => .cons (R.hide h r) (Rs.hide h t)
end
theorem RO.hide {p : Addr} (h : H p = none) : ∀ {o : MO} {a : Addr}, RO K Ω Z ι M H o a → RO K Ω (p :: Z) ι M H o a
  | _, _, .gone q => .gone q
  | _, _, .lst q r => .lst q (r.hide h)
  | _, _, .dK q k r => .dK q k (r.hide h)
  | _, _, .dT q k r => .dT q k (r.hide h)
  | _, _, .obj q k r => .obj q k (r.hide h)
theorem RV.hide {p : Addr} (h : H p = none) {σT : TV} {σ : L2.St} (r : RV K Ω Z ι M H σT σ) : RV K Ω (p :: Z) ι M H σT σ := ⟨r.len, fun i t q =>
  let ⟨v, a, b⟩ := r.at_ i t q
  ⟨v, a, b.hide h⟩⟩
/-- laid and hidden -/
theorem RM.layH (m : RM K Ω Z ι M H) {p : Addr} {o : HO} (h : H p = none) : RM K Ω (p :: Z) ι M (upd H p o) := by
  have e : Ext (p :: Z) ι M H ι M (upd H p o) := Ext.new h
  have ne : ∀ a, H a ≠ none → upd H p o a = H a := fun a q => upd_ne fun z => q (by rw [z]; exact h)
  refine ⟨m.len, m.nd, fun n a u x y => ?_, fun z q => ?_⟩
  · have r := m.mem n a u x y
    exact (r.hide h).ext e (fun b w q _ => ⟨w, by rw [ne b (by rw [q]; exact nofun)]; exact q⟩) ⟨n, x⟩ (fun _ => ne a r.there)
  · rcases List.mem_cons.mp q with rfl | q
    · exact ⟨by rw [upd_same]; exact nofun, m.notLive h⟩
    · exact ⟨by rw [ne z (m.zin z q).1]; exact (m.zin z q).1, (m.zin z q).2⟩
/-- what is being made goes on -/
theorem Ext.turn {p : Addr} {o u : HO} (h : H p = some o) (t1 : ∀ xs, o ≠ .tup xs) (t2 : ∀ x y, o ≠ .frz x y) : Ext (p :: Z) ι M H ι M (upd H p u) := by
  refine ⟨⟨[], by simp⟩, fun a w q n => ⟨by rw [upd_ne (fun z => n.2 (by simp [z]))]; exact q, n.1⟩, fun a vs q => ?_, fun a w x q => ?_, fun a q => ?_⟩
  · by_cases z : a = p
    · rw [z, h] at q; exact absurd (Option.some.inj q) (t1 vs)
    · rw [upd_ne z]; exact q
  · by_cases z : a = p
    · rw [z, h] at q; exact absurd (Option.some.inj q) (t2 w x)
    · rw [upd_ne z]; exact q
  · by_cases z : a = p
    · rw [z, upd_same]; exact nofun
    · rw [upd_ne z]; exact q
theorem RM.notIota (m : RM K Ω Z ι M H) {p : Addr} (hp : p ∈ Z) {n : Nat} {o : MO} (h : ι[n]? = some p) (k : M[n]? = some o) : o = .gone := by
  cases o with
  | gone => rfl
  | lst _ => exact absurd ⟨n, _, h, k, nofun⟩ (m.zin p hp).2
  | dct _ _ => exact absurd ⟨n, _, h, k, nofun⟩ (m.zin p hp).2
  | obj _ _ => exact absurd ⟨n, _, h, k, nofun⟩ (m.zin p hp).2
theorem RM.turn {p : Addr} {o u : HO} (m : RM K Ω (p :: Z) ι M H) (h : H p = some o) (t1 : ∀ xs, o ≠ .tup xs) (t2 : ∀ x y, o ≠ .frz x y) : RM K Ω (p :: Z) ι M (upd H p u) := by
  have e : Ext (p :: Z) ι M H ι M (upd H p u) := Ext.turn h t1 t2
  refine ⟨m.len, m.nd, fun n a w x y => ?_, fun z q => ⟨e.there z (m.zin z q).1, (m.zin z q).2⟩⟩
  refine (m.mem n a w x y).ext e (fun b v q _ => ?_) ⟨n, x⟩ (fun ng => upd_ne fun z => ng (m.notIota (p := a) (by simp [z]) x y))
  have := e.there b (by rw [q]; exact nofun)
  cases r : upd H p u b with
  | none => exact absurd r this
  | some o' => exact ⟨o', rfl⟩
/-- a mutable object is changed -/
theorem live_set {n : Nat} {o o' : MO} {a : Addr} (h : M[n]? = some o) (ho : o ≠ .gone) (hn : ι[n]? = some a) (b : Addr) : Live ι (M.set n o') b → Live ι M b := fun ⟨m, u, x, y, z⟩ => by
  have hl : n < M.length := (List.getElem?_eq_some_iff.mp h).1
  by_cases e : n = m
  · subst e
    exact ⟨n, o, x, h, ho⟩
  · rw [List.getElem?_set_ne e] at y
    exact ⟨m, u, x, y, z⟩
theorem Ext.write {n : Nat} {a : Addr} {o o' : MO} {v u : HO} (hn : ι[n]? = some a) (h : M[n]? = some o) (ho : o ≠ .gone) (hv : H a = some v) (t1 : ∀ xs, v ≠ .tup xs) (t2 : ∀ x y, v ≠ .frz x y) : Ext Z ι M H ι (M.set n o') (upd H a u) := by
  have lv : Live ι M a := ⟨n, o, hn, h, ho⟩
  refine ⟨⟨[], by simp⟩, fun b w q s => ⟨by rw [upd_ne (fun z => s.1 (by rw [z]; exact lv))]; exact q, fun z => s.1 (live_set h ho hn b z)⟩, fun b vs q => ?_, fun b w x q => ?_, fun b q => ?_⟩
  · by_cases z : b = a
    · rw [z, hv] at q; exact absurd (Option.some.inj q) (t1 vs)
    · rw [upd_ne z]; exact q
  · by_cases z : b = a
    · rw [z, hv] at q; exact absurd (Option.some.inj q) (t2 w x)
    · rw [upd_ne z]; exact q
  · by_cases z : b = a
    · rw [z, upd_same]; exact nofun
    · rw [upd_ne z]; exact q
theorem RM.write (m : RM K Ω Z ι M H) {n : Nat} {a : Addr} {o o' : MO} {v u : HO} (hn : ι[n]? = some a) (h : M[n]? = some o) (ho : o ≠ .gone) (hv : H a = some v) (t1 : ∀ xs, v ≠ .tup xs) (t2 : ∀ x y, v ≠ .frz x y)
    (new : Ext Z ι M H ι (M.set n o') (upd H a u) → RO K Ω Z ι (M.set n o') (upd H a u) o' a) : RM K Ω Z ι (M.set n o') (upd H a u) := by
  have e : Ext Z ι M H ι (M.set n o') (upd H a u) := Ext.write hn h ho hv t1 t2
  have hl : n < M.length := (List.getElem?_eq_some_iff.mp h).1
  have back : ∀ (k : Nat) (w : MO), (M.set n o')[k]? = some w → w ≠ .gone → ∃ w', M[k]? = some w' ∧ w' ≠ .gone := fun k w y g => by
    by_cases z : n = k
    · subst z
      exact ⟨o, h, ho⟩
    · rw [List.getElem?_set_ne z] at y
      exact ⟨w, y, g⟩
  refine ⟨by rw [List.length_set]; exact m.len, fun i j b u w x y p q g1 g2 => ?_, fun k b w x y => ?_, fun z q => ⟨e.there z (m.zin z q).1, fun s => (m.zin z q).2 (live_set h ho hn z s)⟩⟩
  · obtain ⟨_, p1, p2⟩ := back i u p g1
    obtain ⟨_, q1, q2⟩ := back j w q g2
    exact m.nd i j b _ _ x y p1 q1 p2 q2
  by_cases z : n = k
  · subst z
    rw [List.getElem?_set_self hl] at y
    cases y
    rw [hn] at x
    cases x
    exact new e
  · rw [List.getElem?_set_ne z] at y
    have nb : w ≠ .gone → b ≠ a := fun g q => by
      subst q
      exact z (m.nd n k b o w hn x h y ho g)
    refine (m.mem k b w x y).ext e (fun c v q _ => ?_) ⟨k, x⟩ (fun g => upd_ne (nb g))
    have := e.there c (by rw [q]; exact nofun)
    cases r : upd H a u c with
    | none => exact absurd r this
    | some o' => exact ⟨o', rfl⟩
/-- frozen: it stands still from now on -/
theorem Ext.freeze {n : Nat} {o : MO} {a : Addr} (hn : ι[n]? = some a) (h : M[n]? = some o) (ho : o ≠ .gone) : Ext Z ι M H ι (M.set n .gone) H :=
  ⟨⟨[], by simp⟩, fun b w q s => ⟨q, fun z => s.1 (live_set h ho hn b z)⟩, fun b vs q => q, fun b w x q => q, fun b q => q⟩
theorem RM.freeze (m : RM K Ω Z ι M H) {n : Nat} {o : MO} {a : Addr} (hn : ι[n]? = some a) (h : M[n]? = some o) (ho : o ≠ .gone) : RM K Ω Z ι (M.set n .gone) H ∧ Still Z ι (M.set n .gone) a := by
  have e : Ext Z ι M H ι (M.set n .gone) H := Ext.freeze hn h ho
  have hl : n < M.length := (List.getElem?_eq_some_iff.mp h).1
  have back : ∀ (k : Nat) (w : MO), (M.set n .gone)[k]? = some w → w ≠ .gone → n ≠ k ∧ M[k]? = some w := fun k w y g => by
    by_cases z : n = k
    · subst z
      rw [List.getElem?_set_self hl] at y
      cases y
      exact absurd rfl g
    · rw [List.getElem?_set_ne z] at y
      exact ⟨z, y⟩
  have na : ¬ Live ι (M.set n .gone) a := fun ⟨k, w, x, y, z⟩ => by
    obtain ⟨q, y⟩ := back k w y z
    exact q (m.nd n k a o w hn x h y ho z)
  refine ⟨⟨by rw [List.length_set]; exact m.len, fun i j b u w x y p q g1 g2 => m.nd i j b _ _ x y (back i u p g1).2 (back j w q g2).2 g1 g2, fun k b w x y => ?_, fun z q => ⟨(m.zin z q).1, fun s => (m.zin z q).2 (live_set h ho hn z s)⟩⟩, na, fun z => (m.zin a z).2 ⟨n, o, hn, h, ho⟩⟩
  by_cases z : n = k
  · subst z
    rw [List.getElem?_set_self hl] at y
    cases y
    rw [hn] at x
    cases x
    cases q : H a with
    | none => exact absurd q (m.mem n a o hn h).there
    | some v => exact .gone q
  · rw [List.getElem?_set_ne z] at y
    exact (m.mem k b w x y).ext e (fun c v q _ => ⟨v, q⟩) ⟨k, x⟩ (fun _ => rfl)
/-- what was being made is a mutable object from now on -/
theorem live_push {p : Addr} {o : MO} (len : ι.length = M.length) {b : Addr} (h : Live (ι ++ [p]) (M ++ [o]) b) : Live ι M b ∨ b = p := by
  obtain ⟨k, w, x, y, z⟩ := h
  by_cases q : k < ι.length
  · rw [List.getElem?_append_left q] at x
    rw [List.getElem?_append_left (by omega)] at y
    exact .inl ⟨k, w, x, y, z⟩
  · rw [List.getElem?_append_right (by omega)] at x
    by_cases r : k - ι.length = 0
    · rw [r] at x
      exact .inr (Option.some.inj x).symm
    · rw [List.getElem?_eq_none (by simp; omega)] at x
      cases x
theorem Ext.push {p : Addr} {o : MO} (len : ι.length = M.length) : Ext (p :: Z) ι M H (ι ++ [p]) (M ++ [o]) H :=
  ⟨⟨[p], rfl⟩, fun b w q s => ⟨q, fun z => (live_push len z).elim s.1 fun e => s.2 (by simp [e])⟩, fun b vs q => q, fun b w x q => q, fun b q => q⟩
theorem RM.push {p : Addr} {o : MO} (m : RM K Ω (p :: Z) ι M H) (hz : p ∉ Z) (new : Ext (p :: Z) ι M H (ι ++ [p]) (M ++ [o]) H → RO K Ω Z (ι ++ [p]) (M ++ [o]) H o p) : RM K Ω Z (ι ++ [p]) (M ++ [o]) H := by
  have e : Ext (p :: Z) ι M H (ι ++ [p]) (M ++ [o]) H := Ext.push m.len
  have hs : ∀ z ∈ Z, z ∈ p :: Z := fun z q => List.mem_cons_of_mem _ q
  have nl : ¬ Live ι M p := (m.zin p (by simp)).2
  have two : ∀ (k : Nat) (b : Addr) (w : MO), (ι ++ [p])[k]? = some b → (M ++ [o])[k]? = some w → (ι[k]? = some b ∧ M[k]? = some w) ∨ (k = ι.length ∧ b = p) := fun k b w x y => by
    by_cases q : k < ι.length
    · rw [List.getElem?_append_left q] at x
      rw [List.getElem?_append_left (by rw [← m.len]; exact q)] at y
      exact .inl ⟨x, y⟩
    · have hk : k = ι.length := by
        have := (List.getElem?_eq_some_iff.mp x).1
        simp at this
        omega
      subst hk
      rw [List.getElem?_append_right (Nat.le_refl _), Nat.sub_self] at x
      exact .inr ⟨rfl, (Option.some.inj x).symm⟩
  refine ⟨by simp [m.len], fun i j b u w x y p1 q1 g1 g2 => ?_, fun k b w x y => ?_, fun z q => ⟨(m.zin z (hs z q)).1, fun s => (live_push m.len s).elim (m.zin z (hs z q)).2 fun e => hz (e ▸ q)⟩⟩
  · rcases two i b u x p1 with ⟨x1, p2⟩ | ⟨x1, x2⟩
    · rcases two j b w y q1 with ⟨y1, q2⟩ | ⟨y1, y2⟩
      · exact m.nd i j b u w x1 y1 p2 q2 g1 g2
      · subst y2
        exact absurd ⟨i, u, x1, p2, g1⟩ nl
    · rcases two j b w y q1 with ⟨y1, q2⟩ | ⟨y1, y2⟩
      · subst x2
        exact absurd ⟨j, w, y1, q2, g2⟩ nl
      · rw [x1, y1]
  · by_cases q : k < ι.length
    · rw [List.getElem?_append_left q] at x
      rw [List.getElem?_append_left (by rw [← m.len]; exact q)] at y
      exact ((m.mem k b w x y).ext e (fun c v q _ => ⟨v, q⟩) ⟨k, x⟩ (fun _ => rfl)).sub hs
    · have hk : k = ι.length := by
        have := (List.getElem?_eq_some_iff.mp x).1
        simp at this
        omega
      subst hk
      rw [List.getElem?_append_right (Nat.le_refl _), Nat.sub_self] at x
      rw [m.len, List.getElem?_append_right (Nat.le_refl _), Nat.sub_self] at y
      cases x
      cases y
      exact new e
theorem RV.set {σT : TV} {σ : L2.St} (r : RV K Ω Z ι M H σT σ) (i : Nat) {t : T} {v : V} (q : R K Ω Z ι M H t v) : RV K Ω Z ι M H (σT.set i (some t)) (σ.set i (some v)) := ⟨by simp [r.len], fun j u h => by
  have hl := r.len
  by_cases e : i = j
  · subst e
    by_cases hi : i < σT.length
    · rw [List.getElem?_set_self hi] at h
      cases h
      exact ⟨v, by rw [List.getElem?_set_self (by omega)], q⟩
    · rw [List.getElem?_eq_none (by simpa using hi)] at h
      cases h
  · rw [List.getElem?_set_ne e] at h
    obtain ⟨w, a, b⟩ := r.at_ j u h
    exact ⟨w, by rw [List.getElem?_set_ne e]; exact a, b⟩⟩
end
end Mi
namespace Mi
open PySem PySem.Spec PyProof.Rows L2

def Res.bind {α β : Type} (r : Res α) (k : α → Mem → Res β) : Res β := match r with
  | .ok a M => k a M
  | .exc c v M => .exc c v M
  | .err => .err
/-- no exception may leave -/
def Res.calm {α : Type} : Res α → Res α
  | .ok a M => .ok a M
  | _ => .err
abbrev EF := TV → Mem → Res T
abbrev TF := TV → Mem → Res Bool
abbrev AF := TV → Mem → Res (List T)
inductive Fl where
  | nx (σ : TV) | rt (t : T) | bk (σ : TV) | ct (σ : TV) | ex (σ : TV) (c : Nat) (t : T)
  deriving Inhabited
abbrev SF := TV → Mem → Option (Fl × Mem)

section
variable (K : PySem.W.Frag) (Ω : Om)
abbrev Rel (α β : Type) := List Addr → List Addr → Mem → Hp → α → β → Prop
def Post {α β : Type} (Rα : Rel α β) (W : Value → Option Addr → Hp → Prop) (Z : List Addr) (ι : List Addr) (M : Mem) (H : Hp) (Q : β → Hp → Prop) : Res α → Prop
  | .ok t M' => ∀ ι' H' v, RM K Ω Z ι' M' H' → Ext [] ι M H ι' M' H' → Rα Z ι' M' H' t v → Q v H'
  | .exc c t M' => ∀ ι' H' dd v, RM K Ω Z ι' M' H' → Ext [] ι M H ι' M' H' → R K Ω Z ι' M' H' t v → H' dd = some (.xd [("value", v)]) → W (.ref (Ω.cls c)) (some dd) H'
  | .err => False
/-- the same as a truth value -/
def RB : Rel Bool Bool := fun _ _ _ _ a b => a = b
def lift {α β : Type} (Rα : Rel α β) (W : WX) (f : TV → Mem → Res α) : L2.St → Hp → (β → Hp → Prop) → Prop := fun σ H Q =>
  ∃ Z ι M σT, RM K Ω Z ι M H ∧ RV K Ω Z ι M H σT σ ∧ Post K Ω Rα (fun c d H' => W c d σ H') Z ι M H Q (f σT M)
abbrev liftE : WX → EF → TE := lift K Ω (R K Ω)
abbrev liftT : WX → TF → TT := lift K Ω RB
abbrev liftA : WX → AF → TA := lift K Ω (Rs K Ω)
/-- a new list, of these items -/
def RL : Rel (List T) V := fun Z ι M H ts v => ∃ p vs, v = .ref p ∧ H p = some (.lst vs) ∧ Still Z ι M p ∧ Rs K Ω Z ι M H ts vs
def PostS (W : WX) (Z : List Addr) (ι : List Addr) (M : Mem) (H : Hp) (D : L2.Ends) : Option (Fl × Mem) → Prop
  | some (.nx σT, M') => ∀ ι' σ' H', RM K Ω Z ι' M' H' → Ext [] ι M H ι' M' H' → RV K Ω Z ι' M' H' σT σ' → D.nx σ' H'
  | some (.rt t, M') => ∀ ι' H' v, RM K Ω Z ι' M' H' → Ext [] ι M H ι' M' H' → R K Ω Z ι' M' H' t v → D.rt v H'
  | some (.bk σT, M') => ∀ ι' σ' H', RM K Ω Z ι' M' H' → Ext [] ι M H ι' M' H' → RV K Ω Z ι' M' H' σT σ' → D.bk σ' H'
  | some (.ct σT, M') => ∀ ι' σ' H', RM K Ω Z ι' M' H' → Ext [] ι M H ι' M' H' → RV K Ω Z ι' M' H' σT σ' → D.ct σ' H'
  | some (.ex σT c t, M') => ∀ ι' σ' H' dd v, RM K Ω Z ι' M' H' → Ext [] ι M H ι' M' H' → RV K Ω Z ι' M' H' σT σ' → R K Ω Z ι' M' H' t v → H' dd = some (.xd [("value", v)]) → W (.ref (Ω.cls c)) (some dd) σ' H'
  | none => False
def liftS (W : WX) (f : SF) : TS := fun D σ H => ∃ Z ι M σT, RM K Ω Z ι M H ∧ RV K Ω Z ι M H σT σ ∧ PostS K Ω W Z ι M H D (f σT M)
end

section
variable {K : PySem.W.Frag} {Ω : Om} {α β γ δ : Type} {Rα : Rel α β} {Rγ : Rel γ δ} {W : WX} {Wh : Value → Option Addr → Hp → Prop} {Z ι ι' : List Addr} {M M' : Mem} {H H' : Hp} {Q : β → Hp → Prop}
theorem Post.ext {r : Res α} (p : Post K Ω Rα Wh Z ι M H Q r) (e : Ext [] ι M H ι' M' H') : Post K Ω Rα Wh Z ι' M' H' Q r := by
  cases r with
  | ok t M2 => exact fun ι2 H2 v m x q => p ι2 H2 v m (e.trans x) q
  | exc c t M2 => exact fun ι2 H2 dd v m x q => p ι2 H2 dd v m (e.trans x) q
  | err => exact p
theorem PostS.ext {D : L2.Ends} {r : Option (Fl × Mem)} (p : PostS K Ω W Z ι M H D r) (e : Ext [] ι M H ι' M' H') : PostS K Ω W Z ι' M' H' D r := by
  match r, p with
  | some (.nx _, _), p => exact fun ι2 σ2 H2 m x q => p ι2 σ2 H2 m (e.trans x) q
  | some (.rt _, _), p => exact fun ι2 H2 v m x q => p ι2 H2 v m (e.trans x) q
  | some (.bk _, _), p => exact fun ι2 σ2 H2 m x q => p ι2 σ2 H2 m (e.trans x) q
  | some (.ct _, _), p => exact fun ι2 σ2 H2 m x q => p ι2 σ2 H2 m (e.trans x) q
  | some (.ex _ _ _, _), p => exact fun ι2 σ2 H2 dd v m x q => p ι2 σ2 H2 dd v m (e.trans x) q
/-- one thing behind another one -/
theorem Post.bind {r : Res α} {k : α → Mem → Res γ} {Q : δ → Hp → Prop} {T' : β → Hp → Prop} (p : Post K Ω Rγ Wh Z ι M H Q (r.bind k))
    (h : ∀ ι1 M1 H1 t v, RM K Ω Z ι1 M1 H1 → Ext [] ι M H ι1 M1 H1 → Rα Z ι1 M1 H1 t v → Post K Ω Rγ Wh Z ι1 M1 H1 Q (k t M1) → T' v H1) : Post K Ω Rα Wh Z ι M H T' r := by
  cases r with
  | ok t M1 => exact fun ι1 H1 v m1 e1 r1 => h ι1 M1 H1 t v m1 e1 r1 (Post.ext p e1)
  | exc c t M1 => exact p
  | err => exact p
/-- the end: a value -/
theorem Post.pure {r : α} {v : β} (p : Post K Ω Rα Wh Z ι M H Q (.ok r M)) (m : RM K Ω Z ι M H) (h : Rα Z ι M H r v) : Q v H := p ι H v m Ext.refl h
end
theorem L2PE.imp {X : Cx} {e : Expr} {t t' : TE} (h : PE X e t) (k : ∀ σ H Q, t' σ H Q → t σ H Q) : PE X e t' := ⟨fun pins s σ H Q I q => h.run pins s σ H Q I (k σ H Q q)⟩
theorem L2PT.imp {X : Cx} {e : Expr} {t t' : TT} (h : PT X e t) (k : ∀ σ H Q, t' σ H Q → t σ H Q) : PT X e t' := ⟨fun pins s σ H Q I q => h.run pins s σ H Q I (k σ H Q q)⟩
theorem L2PA.imp {X : Cx} {e : List Expr} {t t' : TA} (h : PA X e t) (k : ∀ σ H Q, t' σ H Q → t σ H Q) : PA X e t' := ⟨fun pos pins s σ H Q I q => h.run pos pins s σ H Q I (k σ H Q q)⟩
theorem L2PS.imp {X : Cx} {e : Stmt} {t t' : TS} (h : PS X e t) (k : ∀ D σ H, t' D σ H → t D σ H) : PS X e t' := ⟨fun pins s σ H D I q => h.run pins s σ H D I (k D σ H q)⟩
theorem L2PSs.imp {X : Cx} {e : List Stmt} {t t' : TS} (h : PSs X e t) (k : ∀ D σ H, t' D σ H → t D σ H) : PSs X e t' := ⟨fun pins s σ H D I q => h.run pins s σ H D I (k D σ H q)⟩

abbrev ME (X : Cx) (Ω : Om) (W : WX) (e : Expr) (f : EF) : Prop := PE X e (liftE X.K Ω W f)
abbrev MT (X : Cx) (Ω : Om) (W : WX) (e : Expr) (f : TF) : Prop := PT X e (liftT X.K Ω W f)
abbrev MA (X : Cx) (Ω : Om) (W : WX) (es : List Expr) (f : AF) : Prop := PA X es (liftA X.K Ω W f)
abbrev MS (X : Cx) (Ω : Om) (W : WX) (s : Stmt) (f : SF) : Prop := PS X s (liftS X.K Ω W f)
abbrev MSs (X : Cx) (Ω : Om) (W : WX) (s : List Stmt) (f : SF) : Prop := PSs X s (liftS X.K Ω W f)

section
variable {X : Cx} {Ω : Om} {W : WX} {e a b c : Expr} {es : List Expr} {f g : EF} {fa : AF} {ft gt : TF} {pos : Pos}
/-! ### names, constants -/
def eVar (i : Nat) : EF := fun σ M => match σ[i]? with
  | some (some t) => .ok t M
  | _ => .err
def eC (t : T) : EF := fun _ M => .ok t M
theorem me_var (i : Nat) {x : Str} (hN : X.N[i]? = some x := by rfl) (hv : Vis X.env.scope x := by first | exact Or.inl rfl | exact Or.inr (Or.inl rfl) | exact Or.inr (Or.inr rfl)) (hd : (x == ("__debug__" : Str)) = false := by decide)
    (hcd : (x == ("__classdict__" : Str)) = false := by decide) : ME X Ω W (.Name x pos) (eVar i) := L2PE.imp (pe_var hN hv hd hcd) fun σ H Q h => by
  obtain ⟨Z, ι, M, σT, m, r, p⟩ := h
  unfold eVar at p
  split at p
  · rename_i t q
    obtain ⟨v, e, rv⟩ := r.at_ i t q
    exact ⟨v, e, p.pure m rv⟩
  · exact p.elim
theorem me_c {t : T} {v : V} (h : PE X e (tC v)) (hr : ∀ Z ι M H, R X.K Ω Z ι M H t v) : ME X Ω W e (eC t) := L2PE.imp h fun σ H Q q => by
  obtain ⟨Z, ι, M, σT, m, r, p⟩ := q
  exact p.pure m (hr Z ι M H)
theorem me_int {i : Int} {j} : ME X Ω W (.Constant (.int i) j pos) (eC (.int i)) := me_c pe_int fun _ _ _ _ => .int i
theorem me_bl {i : Bool} {j} : ME X Ω W (.Constant (.bool i) j pos) (eC (.bl i)) := me_c pe_bl fun _ _ _ _ => .bl i
theorem me_non {j} : ME X Ω W (.Constant .none j pos) (eC .non) := me_c pe_non fun _ _ _ _ => .non
theorem spell_flat {r : Nat → List Nat} : ∀ {x : List Nat}, x.all (fun c => decide (c < symB)) = true → spell r x = x
  | [], _ => rfl
  | c :: x, h => by
    rw [List.all_cons, Bool.and_eq_true, decide_eq_true_eq] at h
    unfold spell
    rw [List.flatMap_cons, if_pos h.1]
    show c :: spell r x = c :: x
    rw [spell_flat h.2]
theorem me_str {x : Str} {y : List Nat} {j} (h : x.cps.toList = y := by rfl) (hf : (y.all (fun c => decide (c < symB)) && decide (y.length ≤ 2000000)) = true := by decide) : ME X Ω W (.Constant (.str x) j pos) (eC (.str y)) := by
  rw [Bool.and_eq_true, decide_eq_true_eq] at hf
  exact me_c pe_str fun _ _ _ _ => .str y x (by rw [spell_flat hf.1]; exact h) hf.2
/-! ### argument lists -/
def aNil : AF := fun _ M => .ok [] M
def aCons (f : EF) (g : AF) : AF := fun σ M => (f σ M).bind fun t M1 => (g σ M1).bind fun ts M2 => .ok (t :: ts) M2
theorem ma_nil : MA X Ω W [] aNil := L2PA.imp pa_nil fun σ H Q ⟨Z, ι, M, σT, m, r, p⟩ => p.pure m .nil
theorem ma_cons (ha : ME X Ω W e f) (hr : MA X Ω W es fa) (hs : starEach (e :: es) X.env = (false, eval e X.env) :: starEach es X.env := by rfl) : MA X Ω W (e :: es) (aCons f fa) := L2PA.imp (pa_cons ha hr hs) fun σ H Q ⟨Z, ι, M, σT, m, r, p⟩ =>
  ⟨Z, ι, M, σT, m, r, Post.bind p fun ι1 M1 H1 t v m1 e1 q1 p1 => ⟨Z, ι1, M1, σT, m1, r.ext e1.any, Post.bind p1 fun ι2 M2 H2 ts vs m2 e2 q2 p2 => p2.pure m2 (.cons (q1.ext e2.any) q2)⟩⟩
/-! ### operators: by pure functions -/
abbrev Op2 := Mem → T → T → Option T
def Res.of {α : Type} (o : Option α) (M : Mem) : Res α := match o with
  | some t => .ok t M
  | none => .err
def eOp (op : Op2) (f g : EF) : EF := fun σ M => (f σ M).bind fun t M1 => (g σ M1).bind fun u M2 => .of (op M2 t u) M2
/-- the operator's reading holds wherever the function gives something -/
def OpS (K : PySem.W.Frag) (Ω : Om) (r : R2) (op : Op2) : Prop := ∀ Z ι M H t u v w z Q, RM K Ω Z ι M H → R K Ω Z ι M H t v → R K Ω Z ι M H u w → op M t u = some z →
  (∀ ι' H' x, RM K Ω Z ι' M H' → Ext [] ι M H ι' M H' → R K Ω Z ι' M H' z x → Q x H') → r v w H Q
theorem tOp_of {r : R2} {op : Op2} (h : OpS X.K Ω r op) {σ : L2.St} {H : Hp} {Q : VK} (q : liftE X.K Ω W (eOp op f g) σ H Q) : tOp r (liftE X.K Ω W f) (liftE X.K Ω W g) σ H Q := by
  obtain ⟨Z, ι, M, σT, m, rv, p⟩ := q
  refine ⟨Z, ι, M, σT, m, rv, Post.bind p fun ι1 M1 H1 t v m1 e1 q1 p1 => ⟨Z, ι1, M1, σT, m1, rv.ext e1.any, Post.bind p1 fun ι2 M2 H2 u w m2 e2 q2 p2 => ?_⟩⟩
  cases e : op M2 t u with
  | none => rw [e] at p2; exact p2.elim
  | some z => rw [e] at p2; exact h Z ι2 M2 H2 t u v w z Q m2 (q1.ext e2.any) q2 e fun ι' H' x m' e' r' => p2 ι' H' x m' e' r'
theorem me_bin {o : Operator} {r : R2} {op : Op2} (ho : OpR X (binaryOp o) r) (h : OpS X.K Ω r op) (ha : ME X Ω W a f) (hb : ME X Ω W b g) : ME X Ω W (.BinOp a o b pos) (eOp op f g) := L2PE.imp (pe_op ho ha hb) fun _ _ _ q => tOp_of h q
theorem me_cmp {o : CmpOp} {r : R2} {op : Op2} (ho : OpR X (compareOp o) r) (h : OpS X.K Ω r op) (ha : ME X Ω W a f) (hb : ME X Ω W b g) (hm : behindInMarks o b = false := by rfl) : ME X Ω W (.Compare a [o] [b] pos) (eOp op f g) := L2PE.imp (pe_cmpR ho ha hb hm) fun _ _ _ q => tOp_of h q
/-- a truth value as a test -/
def tVal (f : EF) : TF := fun σ M => (f σ M).bind fun t M1 => match t with
  | .bl k => .ok k M1
  | _ => .err
theorem mt_cmp {o : CmpOp} {r : R2} {op : Op2} (ho : OpR X (compareOp o) r) (h : OpS X.K Ω r op) (ha : ME X Ω W a f) (hb : ME X Ω W b g) (hm : behindInMarks o b = false := by rfl) : MT X Ω W (.Compare a [o] [b] pos) (tVal (eOp op f g)) := L2PT.imp (pt_cmpR ho ha hb hm) fun σ H Q q => by
  refine tOp_of h ?_
  obtain ⟨Z, ι, M, σT, m, rv, p⟩ := q
  refine ⟨Z, ι, M, σT, m, rv, Post.bind p fun ι1 M1 H1 t v m1 e1 q1 p1 => ?_⟩
  cases t with
  | bl k => cases q1; exact ⟨k, rfl, p1.pure m1 rfl⟩
  | _ => exact p1.elim
/-! ### truth -/
def truth (M : Mem) : T → Option Bool
  | .non => some false
  | .bl k => some k
  | .int i => some (i != 0)
  | .str x => some (!x.isEmpty)
  | .tup xs => some (!xs.isEmpty)
  | .ktup xs => some (!xs.isEmpty)
  | .lst xs => some (!xs.isEmpty)
  | .klst xs => some (!xs.isEmpty)
  | .dct _ _ => none
  | .obj _ _ => none
  | .loc n => match M[n]? with
    | some (.lst xs) => some (!xs.isEmpty)
    | _ => none
def tTru (f : EF) : TF := fun σ M => (f σ M).bind fun t M1 => .of (truth M1 t) M1
theorem spell_nil {x : List Nat} : (spell Ω.rho x).isEmpty = x.isEmpty := by
  cases x with
  | nil => rfl
  | cons c x =>
    unfold spell
    rw [List.flatMap_cons]
    have : (if c < symB then [c] else Ω.rho c) ≠ [] := by
      split
      · simp
      · exact Ω.rne c
    cases q : (if c < symB then [c] else Ω.rho c) with
    | nil => exact absurd q this
    | cons _ _ => rfl
theorem Rs.length {K : PySem.W.Frag} {Z ι M H} : ∀ {ts : List T} {vs : List V}, Rs K Ω Z ι M H ts vs → ts.length = vs.length
  | _, _, .nil => rfl
  | _, _, .cons _ t => by simp [Rs.length t]
theorem Rs.isEmpty {K : PySem.W.Frag} {Z ι M H} {ts : List T} {vs : List V} (h : Rs K Ω Z ι M H ts vs) : vs.isEmpty = ts.isEmpty := by cases h <;> rfl

theorem spell_le {x : List Nat} : (spell Ω.rho x).length ≤ 8 * x.length := by
  induction x with
  | nil => exact Nat.zero_le _
  | cons c x ih =>
    unfold spell at ih ⊢
    rw [List.flatMap_cons, List.length_append, List.length_cons]
    have : (if c < symB then [c] else Ω.rho c).length ≤ 8 := by
      split
      · simp
      · exact Ω.rle c
    omega
theorem str_size {x : List Nat} {s : Str} (h : s.cps.toList = spell Ω.rho x) (l : x.length ≤ 2000000) : s.length ≤ sizeLine := by
  have e : s.length = s.cps.toList.length := by rw [Array.length_toList]; rfl
  rw [e, h, sizeLine_eq]
  have := spell_le (Ω := Ω) (x := x)
  omega
theorem str_zero {x : List Nat} {s : Str} (h : s.cps.toList = spell Ω.rho x) : (((s.length : Nat) : Int) != 0) = !x.isEmpty := by
  have e : s.length = s.cps.toList.length := by rw [Array.length_toList]; rfl
  rw [e, h, ← spell_nil (Ω := Ω) (x := x)]
  cases spell Ω.rho x with
  | nil => rfl
  | cons c y =>
    rw [List.length_cons]
    simp only [List.isEmpty_cons, Bool.not_false, bne_iff_ne, ne_eq]
    omega
theorem truV_of {K : PySem.W.Frag} {Z ι M H} {t : T} {v : V} {k : Bool} (m : RM K Ω Z ι M H) (r : R K Ω Z ι M H t v) (h : truth M t = some k) : TruV K v H k := by
  cases r with
  | non => cases h; rfl
  | bl b => cases h; rfl
  | int i => cases h; rfl
  | str x s e l => cases h; exact ⟨str_size e l, (str_zero e).symm⟩
  | tup q rs => cases h; exact .inr (.inl ⟨_, .of q, by rw [rs.isEmpty]⟩)
  | ktup q rs => cases h; exact .inr (.inl ⟨_, q, by rw [rs.isEmpty]⟩)
  | lst q n rs => cases h; exact .inl ⟨_, .inl (.inl q), by rw [rs.isEmpty]⟩
  | klst q rs => cases h; exact .inl ⟨_, KL.sql q, by rw [rs.isEmpty]⟩
  | dK q n k rs => cases h
  | dT q n k rs => cases h
  | obj q n k rs => cases h
  | loc q =>
    rename_i n a
    obtain ⟨o, e, ro⟩ := m.at q
    have h : (match M[n]? with | some (MO.lst xs) => some (!xs.isEmpty) | _ => none) = some k := h
    rw [e] at h
    cases ro with
    | lst hl rs => cases h; exact .inl ⟨_, .inl (.inl hl), by rw [rs.isEmpty]⟩
    | gone _ => cases h
    | obj _ _ _ => cases h
    | dK _ _ _ => cases h
    | dT _ _ _ => cases h
theorem mt_tru (ha : ME X Ω W a f) (he : ∀ whole, isTrue a X.env whole = (do let v ← whole; standAt a.pos; holding [v] (PySem.truthy v)) := by intro _; rfl) : MT X Ω W a (tTru f) := L2PT.imp (pt_truth ha he) fun σ H Q ⟨Z, ι, M, σT, m, rv, p⟩ =>
  ⟨Z, ι, M, σT, m, rv, Post.bind p fun ι1 M1 H1 t v m1 e1 q1 p1 => by
    cases e : truth M1 t with
    | none => rw [e] at p1; exact p1.elim
    | some k => rw [e] at p1; exact ⟨k, truV_of m1 q1 e, p1.pure m1 rfl⟩⟩
/-! ### and, or, not -/
abbrev MW (X : Cx) (Ω : Om) (W : WX) (e : Expr) (f : TF) : Prop := PW X e (liftT X.K Ω W f)
def tAnd2 (f g : TF) : TF := fun σ M => (f σ M).bind fun k M1 => bif k then g σ M1 else .ok false M1
def tOr2 (f g : TF) : TF := fun σ M => (f σ M).bind fun k M1 => bif k then .ok true M1 else g σ M1
def tNot2 (f : TF) : TF := fun σ M => (f σ M).bind fun k M1 => .ok (!k) M1
theorem L2PW.imp {X : Cx} {e : Expr} {t t' : TT} (h : PW X e t) (k : ∀ σ H Q, t' σ H Q → t σ H Q) : PW X e t' := ⟨fun wh pins s σ H Q I q => h.run wh pins s σ H Q I (k σ H Q q)⟩
theorem mw_and1 (ha : MT X Ω W a ft) : MW X Ω W (.BoolOp .And [a] pos) ft := pw_and1 ha
theorem mw_or1 (ha : MT X Ω W a ft) : MW X Ω W (.BoolOp .Or [a] pos) ft := pw_or1 ha
theorem mw_and {rest : List Expr} (ha : MT X Ω W a ft) (hb : MW X Ω W (.BoolOp .And (b :: rest) pos) gt) : MW X Ω W (.BoolOp .And (a :: b :: rest) pos) (tAnd2 ft gt) := L2PW.imp (pw_and ha hb) fun σ H Q ⟨Z, ι, M, σT, m, rv, p⟩ =>
  ⟨Z, ι, M, σT, m, rv, Post.bind p fun ι1 M1 H1 t v m1 e1 q1 p1 => by
    cases q1
    cases t with
    | true => rw [if_pos rfl]; exact ⟨Z, ι1, M1, σT, m1, rv.ext e1.any, p1⟩
    | false => rw [if_neg Bool.false_ne_true]; exact p1.pure m1 rfl⟩
theorem mw_or {rest : List Expr} (ha : MT X Ω W a ft) (hb : MW X Ω W (.BoolOp .Or (b :: rest) pos) gt) : MW X Ω W (.BoolOp .Or (a :: b :: rest) pos) (tOr2 ft gt) := L2PW.imp (pw_or ha hb) fun σ H Q ⟨Z, ι, M, σT, m, rv, p⟩ =>
  ⟨Z, ι, M, σT, m, rv, Post.bind p fun ι1 M1 H1 t v m1 e1 q1 p1 => by
    cases q1
    cases t with
    | false => rw [if_neg Bool.false_ne_true]; exact ⟨Z, ι1, M1, σT, m1, rv.ext e1.any, p1⟩
    | true => rw [if_pos rfl]; exact p1.pure m1 rfl⟩
theorem mt_w (h : MW X Ω W a ft) : MT X Ω W a ft := PW.pt h
theorem mt_not (ha : MT X Ω W a ft) : MT X Ω W (.UnaryOp .Not a pos) (tNot2 ft) := L2PT.imp (pt_not ha) fun σ H Q ⟨Z, ι, M, σT, m, rv, p⟩ =>
  ⟨Z, ι, M, σT, m, rv, Post.bind p fun ι1 M1 H1 t v m1 e1 q1 p1 => by
    cases q1
    exact p1.pure m1 rfl⟩
/-- as values, by truth -/
def eAnd (f g : EF) : EF := fun σ M => (f σ M).bind fun t M1 => match truth M1 t with
  | some true => g σ M1
  | some false => .ok t M1
  | none => .err
def eOr (f g : EF) : EF := fun σ M => (f σ M).bind fun t M1 => match truth M1 t with
  | some true => .ok t M1
  | some false => g σ M1
  | none => .err
def eNot (f : EF) : EF := fun σ M => (f σ M).bind fun t M1 => match truth M1 t with
  | some k => .ok (.bl (!k)) M1
  | none => .err
theorem me_one {op} (h : ME X Ω W a f) : ME X Ω W (.BoolOp op [a] pos) f := pe_one h
theorem me_and {rest : List Expr} (ha : ME X Ω W a f) (hb : ME X Ω W (.BoolOp .And (b :: rest) pos) g) : ME X Ω W (.BoolOp .And (a :: b :: rest) pos) (eAnd f g) := L2PE.imp (pe_andT ha hb) fun σ H Q ⟨Z, ι, M, σT, m, rv, p⟩ =>
  ⟨Z, ι, M, σT, m, rv, Post.bind p fun ι1 M1 H1 t v m1 e1 q1 p1 => by
    cases e : truth M1 t with
    | none => rw [e] at p1; exact p1.elim
    | some k =>
      rw [e] at p1
      refine ⟨k, truV_of m1 q1 e, ?_⟩
      cases k with
      | true => rw [if_pos rfl]; exact ⟨Z, ι1, M1, σT, m1, rv.ext e1.any, p1⟩
      | false => rw [if_neg Bool.false_ne_true]; exact p1.pure m1 q1⟩
theorem me_or {rest : List Expr} (ha : ME X Ω W a f) (hb : ME X Ω W (.BoolOp .Or (b :: rest) pos) g) : ME X Ω W (.BoolOp .Or (a :: b :: rest) pos) (eOr f g) := L2PE.imp (pe_orT ha hb) fun σ H Q ⟨Z, ι, M, σT, m, rv, p⟩ =>
  ⟨Z, ι, M, σT, m, rv, Post.bind p fun ι1 M1 H1 t v m1 e1 q1 p1 => by
    cases e : truth M1 t with
    | none => rw [e] at p1; exact p1.elim
    | some k =>
      rw [e] at p1
      refine ⟨k, truV_of m1 q1 e, ?_⟩
      cases k with
      | false => rw [if_neg Bool.false_ne_true]; exact ⟨Z, ι1, M1, σT, m1, rv.ext e1.any, p1⟩
      | true => rw [if_pos rfl]; exact p1.pure m1 q1⟩
theorem me_not (ha : ME X Ω W a f) : ME X Ω W (.UnaryOp .Not a pos) (eNot f) := L2PE.imp (pe_notT ha) fun σ H Q ⟨Z, ι, M, σT, m, rv, p⟩ =>
  ⟨Z, ι, M, σT, m, rv, Post.bind p fun ι1 M1 H1 t v m1 e1 q1 p1 => by
    cases e : truth M1 t with
    | none => rw [e] at p1; exact p1.elim
    | some k => rw [e] at p1; exact ⟨k, truV_of m1 q1 e, p1.pure m1 (.bl _)⟩⟩
def eIf (c : TF) (f g : EF) : EF := fun σ M => (c σ M).bind fun k M1 => bif k then f σ M1 else g σ M1
theorem me_if (hc : MT X Ω W c ft) (ha : ME X Ω W a f) (hb : ME X Ω W b g) : ME X Ω W (.IfExp c a b pos) (eIf ft f g) := L2PE.imp (pe_ifExp hc ha hb) fun σ H Q ⟨Z, ι, M, σT, m, rv, p⟩ =>
  ⟨Z, ι, M, σT, m, rv, Post.bind p fun ι1 M1 H1 t v m1 e1 q1 p1 => by
    cases q1
    cases t with
    | true => rw [if_pos rfl]; exact ⟨Z, ι1, M1, σT, m1, rv.ext e1.any, p1⟩
    | false => rw [if_neg Bool.false_ne_true]; exact ⟨Z, ι1, M1, σT, m1, rv.ext e1.any, p1⟩⟩
/-! ### displays -/
def big (n : Nat) : Bool := decide (n ≤ 2000000)
theorem big_ok {n : Nat} (h : big n = true) : n ≤ sizeLine := by
  have := of_decide_eq_true h
  rw [sizeLine_eq]; omega
def eTup (g : AF) : EF := fun σ M => (g σ M).bind fun ts M1 => bif big ts.length then .ok (.tup ts) M1 else .err
theorem me_tup {x1} (h : MA X Ω W es fa) : ME X Ω W (.Tuple es x1 pos) (eTup fa) := L2PE.imp (pe_tup h) fun σ H Q ⟨Z, ι, M, σT, m, rv, p⟩ =>
  ⟨Z, ι, M, σT, m, rv, Post.bind p fun ι1 M1 H1 ts vs m1 e1 q1 p1 => by
    cases z : big ts.length with
    | false => rw [z] at p1; exact p1.elim
    | true =>
      rw [z] at p1
      refine ⟨by rw [← q1.length]; exact big_ok z, fun q np => ?_⟩
      exact p1 ι1 _ _ (m1.lay np) (Ext.new np) (.tup upd_same (q1.ext (Ext.new np)))⟩
/-- a new list -/
abbrev MLr (K : PySem.W.Frag) (Ω : Om) (W : WX) (f : AF) : TE := fun σ H Q => ∃ Z ι M σT, RM K Ω Z ι M H ∧ RV K Ω Z ι M H σT σ ∧ match f σT M with
  | .ok ts M' => ∀ ι' H' p vs, H p = none → RM K Ω (p :: Z) ι' M' H' → p ∉ Z → Ext [] ι M H ι' M' H' → H' p = some (.lst vs) → Rs K Ω (p :: Z) ι' M' H' ts vs → Q (.ref p) H'
  | .exc c t M' => ∀ ι' H' dd v, RM K Ω Z ι' M' H' → Ext [] ι M H ι' M' H' → R K Ω Z ι' M' H' t v → H' dd = some (.xd [("value", v)]) → W (.ref (Ω.cls c)) (some dd) σ H'
  | .err => False
abbrev ML (X : Cx) (Ω : Om) (W : WX) (e : Expr) (f : AF) : Prop := PE X e (MLr X.K Ω W f)
def eLst (g : AF) : AF := fun σ M => (g σ M).bind fun ts M1 => bif big ts.length then .ok ts M1 else .err
theorem ml_lst (h : MA X Ω W es fa) : ML X Ω W (.List es pos) (eLst fa) := L2PE.imp (pe_lst h) fun σ H Q ⟨Z, ι, M, σT, m, rv, p⟩ => by
  refine ⟨Z, ι, M, σT, m, rv, ?_⟩
  unfold eLst at p
  cases q : fa σT M with
  | ok ts M1 =>
    rw [q] at p
    intro ι1 H1 vs m1 e1 q1
    cases z : big ts.length with
    | false =>
      simp only [Res.bind, z] at p
      exact p.elim
    | true =>
      simp only [Res.bind, z] at p
      refine ⟨by rw [← q1.length]; exact big_ok z, fun q np => ?_⟩
      have hp : H q = none := by
        cases e : H q with
        | none => rfl
        | some o => exact absurd np (e1.there q (by rw [e]; exact nofun))
      exact p ι1 _ q vs hp (m1.layH np) (m1.notZ np) (e1.trans (Ext.new np)) upd_same ((q1.hide np).ext (Ext.new np))
  | exc c t M1 => rw [q] at p; exact p
  | err => rw [q] at p; exact p
def eFroz (g : AF) : EF := fun σ M => (g σ M).bind fun ts M1 => .ok (.lst ts) M1
theorem froz_of {K : PySem.W.Frag} {σ : L2.St} {H : Hp} {Q : VK} (q : liftE K Ω W (eFroz fa) σ H Q) : MLr K Ω W fa σ H Q := by
  obtain ⟨Z, ι, M, σT, m, rv, p⟩ := q
  refine ⟨Z, ι, M, σT, m, rv, ?_⟩
  unfold eFroz at p
  cases q : fa σT M with
  | ok ts M1 =>
    rw [q] at p
    intro ι1 H1 a vs hp m1 hz e1 ha rs
    have hs : ∀ z ∈ Z, z ∈ a :: Z := fun z q => List.mem_cons_of_mem _ q
    have nl : ¬ Live ι1 M1 a := (m1.zin a List.mem_cons_self).2
    exact p ι1 H1 _ (m1.sub hs) e1 (.lst ha ⟨nl, hz⟩ (rs.sub hs))
  | exc c t M1 => rw [q] at p; exact p
  | err => rw [q] at p; exact p
theorem me_lst (h : ML X Ω W e fa) : ME X Ω W e (eFroz fa) := L2PE.imp h fun σ H Q => froz_of
/-- .. as a mutable one -/
def eNewL (g : AF) : EF := fun σ M => (g σ M).bind fun ts M1 => .ok (.loc M1.length) (M1 ++ [.lst ts])
theorem newL_of {K : PySem.W.Frag} {σ : L2.St} {H : Hp} {Q : VK} (q : liftE K Ω W (eNewL fa) σ H Q) : MLr K Ω W fa σ H Q := by
  obtain ⟨Z, ι, M, σT, m, rv, p⟩ := q
  refine ⟨Z, ι, M, σT, m, rv, ?_⟩
  unfold eNewL at p
  cases q : fa σT M with
  | ok ts M1 =>
    rw [q] at p
    intro ι1 H1 a vs hp m1 hz e1 ha rs
    have hs : ∀ z ∈ Z, z ∈ a :: Z := fun z q => List.mem_cons_of_mem _ q
    have e2 : Ext (a :: Z) ι1 M1 H1 (ι1 ++ [a]) (M1 ++ [.lst ts]) H1 := Ext.push m1.len
    have e3 : Ext [a] ι1 M1 H1 (ι1 ++ [a]) (M1 ++ [.lst ts]) H1 := Ext.push m1.len
    refine p (ι1 ++ [a]) H1 _ (m1.push hz fun e => .lst ha ((rs.ext e).sub hs)) ((e1.any.trans e3).drop hp) (.loc ?_)
    rw [← m1.len, List.getElem?_append_right (Nat.le_refl _), Nat.sub_self]
    rfl
  | exc c t M1 => rw [q] at p; exact p
  | err => rw [q] at p; exact p
theorem me_newL (h : ML X Ω W e fa) : ME X Ω W e (eNewL fa) := L2PE.imp h fun σ H Q => newL_of
end
end Mi
namespace Mi
open PySem PySem.Spec PyProof.Rows L2

/-- on with a statement behind an expression -/
def Res.go {α : Type} (r : Res α) (σ : TV) (k : α → Mem → Option (Fl × Mem)) : Option (Fl × Mem) := match r with
  | .ok a M => k a M
  | .exc c t M => some (.ex σ c t, M)
  | .err => none
section
variable {K : PySem.W.Frag} {Ω : Om} {α β : Type} {Rα : Rel α β} {W : WX} {Z ι : List Addr} {M : Mem} {H : Hp} {D : L2.Ends}
theorem PostS.go {r : Res α} {σT : TV} {σ : L2.St} {k : α → Mem → Option (Fl × Mem)} {T' : β → Hp → Prop} (p : PostS K Ω W Z ι M H D (r.go σT k)) (rv : RV K Ω Z ι M H σT σ)
    (h : ∀ ι1 M1 H1 t v, RM K Ω Z ι1 M1 H1 → Ext [] ι M H ι1 M1 H1 → RV K Ω Z ι1 M1 H1 σT σ → Rα Z ι1 M1 H1 t v → PostS K Ω W Z ι1 M1 H1 D (k t M1) → T' v H1) : Post K Ω Rα (fun c d H' => W c d σ H') Z ι M H T' r := by
  cases r with
  | ok t M1 => exact fun ι1 H1 v m1 e1 r1 => h ι1 M1 H1 t v m1 e1 (rv.ext e1.any) r1 (PostS.ext p e1)
  | exc c t M1 => exact fun ι1 H1 dd v m1 e1 r1 x => p ι1 σ H1 dd v m1 e1 (rv.ext e1.any) r1 x
  | err => exact p
theorem PostS.nx {σT : TV} {σ : L2.St} (p : PostS K Ω W Z ι M H D (some (.nx σT, M))) (m : RM K Ω Z ι M H) (rv : RV K Ω Z ι M H σT σ) : D.nx σ H := p ι σ H m Ext.refl rv
theorem PostS.rt {t : T} {v : V} (p : PostS K Ω W Z ι M H D (some (.rt t, M))) (m : RM K Ω Z ι M H) (r : R K Ω Z ι M H t v) : D.rt v H := p ι H v m Ext.refl r
end
/-! ### statements -/
section
variable {K : PySem.W.Frag} {X : Cx} {Ω : Om} {W : WX} {e a b c : Expr} {st : Stmt} {rest ba bb : List Stmt} {f g : EF} {fa : AF} {ft : TF} {s1 s2 : SF} {pos : Pos}
def sNil : SF := fun σ M => some (.nx σ, M)
def sSeq (f g : SF) : SF := fun σ M => match f σ M with
  | some (.nx σ1, M1) => g σ1 M1
  | r => r
theorem mss_nil : MSs X Ω W [] sNil := L2PSs.imp pss_nil fun D σ H ⟨Z, ι, M, σT, m, rv, p⟩ => PostS.nx p m rv
theorem seq_of {g : SF} {D : L2.Ends} {Z ι : List Addr} {M : Mem} {H : Hp} {r : Option (Fl × Mem)} (p : PostS X.K Ω W Z ι M H D (match r with | some (.nx σ1, M1) => g σ1 M1 | r => r)) :
    PostS X.K Ω W Z ι M H { D with nx := liftS X.K Ω W g D } r := by
  match r, p with
  | some (.nx σ1, M1), p => exact fun ι' σ' H' m e rv => ⟨Z, ι', M1, σ1, m, rv, PostS.ext p e⟩
  | some (.rt _, _), p => exact p
  | some (.bk _, _), p => exact p
  | some (.ct _, _), p => exact p
  | some (.ex _ _ _, _), p => exact p
theorem mss_cons (h1 : MS X Ω W st s1) (h2 : MSs X Ω W rest s2) : MSs X Ω W (st :: rest) (sSeq s1 s2) := L2PSs.imp (pss_cons h1 h2) fun D σ H ⟨Z, ι, M, σT, m, rv, p⟩ => ⟨Z, ι, M, σT, m, rv, seq_of p⟩
theorem mss_one (h1 : MS X Ω W st s1) : MSs X Ω W [st] s1 := pss_one h1
def sExpr (f : EF) : SF := fun σ M => (f σ M).go σ fun _ M1 => some (.nx σ, M1)
theorem ms_expr (he : ME X Ω W e f) (hs : swapsWith e none pos.line X.env = pure false := by rfl) : MS X Ω W (.Expr e pos) (sExpr f) := L2PS.imp (ps_expr he hs) fun D σ H ⟨Z, ι, M, σT, m, rv, p⟩ =>
  ⟨Z, ι, M, σT, m, rv, PostS.go p rv fun ι1 M1 H1 t v m1 e1 rv1 q1 p1 => p1.nx m1 rv1⟩
def sRet (f : EF) : SF := fun σ M => (f σ M).go σ fun t M1 => some (.rt t, M1)
theorem ms_ret (he : ME X Ω W e f) : MS X Ω W (.Return (some e) pos) (sRet f) := L2PS.imp (ps_ret he) fun D σ H ⟨Z, ι, M, σT, m, rv, p⟩ =>
  ⟨Z, ι, M, σT, m, rv, PostS.go p rv fun ι1 M1 H1 t v m1 e1 rv1 q1 p1 => p1.rt m1 q1⟩
def sIf (c : TF) (f g : SF) : SF := fun σ M => (c σ M).go σ fun k M1 => bif k then f σ M1 else g σ M1
theorem ms_if (hc : MT X Ω W c ft) (ha : MSs X Ω W ba s1) (hb : MSs X Ω W bb s2) : MS X Ω W (.If c ba bb pos) (sIf ft s1 s2) := L2PS.imp (ps_if hc ha hb) fun D σ H ⟨Z, ι, M, σT, m, rv, p⟩ =>
  ⟨Z, ι, M, σT, m, rv, PostS.go p rv fun ι1 M1 H1 t v m1 e1 rv1 q1 p1 => by
    cases q1
    cases t with
    | true => rw [if_pos rfl]; exact ⟨Z, ι1, M1, σT, m1, rv1, p1⟩
    | false => rw [if_neg Bool.false_ne_true]; exact ⟨Z, ι1, M1, σT, m1, rv1, p1⟩⟩
theorem ms_pass : MS X Ω W (.Pass pos) sNil := L2PS.imp ps_pass fun D σ H ⟨Z, ι, M, σT, m, rv, p⟩ => PostS.nx p m rv
def sBreak : SF := fun σ M => some (.bk σ, M)
def sCont : SF := fun σ M => some (.ct σ, M)
theorem ms_break : MS X Ω W (.Break pos) sBreak := L2PS.imp ps_break fun D σ H ⟨Z, ι, M, σT, m, rv, p⟩ => p ι σ H m Ext.refl rv
theorem ms_continue : MS X Ω W (.Continue pos) sCont := L2PS.imp ps_continue fun D σ H ⟨Z, ι, M, σT, m, rv, p⟩ => p ι σ H m Ext.refl rv
/-- never reached -/
def sNo : SF := fun _ _ => none
theorem ms_no : MS X Ω W st sNo := L2PS.imp (ps_never (st := st)) fun D σ H ⟨Z, ι, M, σT, m, rv, p⟩ => p
theorem mss_no : MSs X Ω W rest sNo := L2PSs.imp (pss_never (sts := rest)) fun D σ H ⟨Z, ι, M, σT, m, rv, p⟩ => p
def eNo : EF := fun _ _ => .err
theorem me_no : ME X Ω W e eNo := ⟨fun pins s σ H Q I ⟨Z, ι, M, σT, m, rv, p⟩ => p.elim⟩
def sSet (i : Nat) (f : EF) : SF := fun σ M => (f σ M).go σ fun t M1 => some (.nx (σ.set i (some t)), M1)
theorem ms_set {i : Nat} {x : Str} {pos' : Pos} (hN : X.N.Nodup) (hi : X.N[i]? = some x) (hx : Loc X.env.scope x) (he : ME X Ω W e f) (hs : swapsWith e (some (.Name x pos')) pos.line X.env = pure false := by rfl) (hf : X.fn x = true ∨ X.env.scope.names.lookup x = some .local := by first | exact .inl rfl | exact .inr rfl | assumption) :
    MS X Ω W (.Assign [.Name x pos'] e pos) (sSet i f) := L2PS.imp (ps_set hN hi hx he hs hf) fun D σ H ⟨Z, ι, M, σT, m, rv, p⟩ =>
  ⟨Z, ι, M, σT, m, rv, PostS.go p rv fun ι1 M1 H1 t v m1 e1 rv1 q1 p1 => p1.nx m1 (rv1.set i q1)⟩
/-! ### patterns -/
abbrev PF := T → TV → Mem → Option TV
/-- what a pattern stores -/
def PatS (K : PySem.W.Frag) (Ω : Om) (g : TG) (Γ : PF) (vs : List Nat) : Prop := ∀ Z ι M H σT σ t v σT' Q, RM K Ω Z ι M H → RV K Ω Z ι M H σT σ → R K Ω Z ι M H t v → Γ t σT M = some σT' →
  (∀ σ', RV K Ω Z ι M H σT' σ' → (∀ us : List Nat, (∀ i ∈ vs, i ∈ us) → wipe σ' us = wipe σ us) → Q σ' H) → g v σ H Q
def pName (i : Nat) : PF := fun t σ _ => some (σ.set i (some t))
theorem wipe_at {σ : L2.St} {i : Nat} : ∀ {us : List Nat}, (wipe σ us)[i]? = if i ∈ us then (if i < σ.length then some none else none) else σ[i]?
  | [] => by simp [wipe]
  | u :: us => by
    unfold wipe
    by_cases e : u = i
    · subst e
      rw [if_pos (by simp)]
      by_cases h : u < σ.length
      · rw [if_pos h, List.getElem?_set_self (by rw [wipe_length]; exact h)]
      · rw [if_neg h, List.getElem?_eq_none (by rw [List.length_set, wipe_length]; omega)]
    · rw [List.getElem?_set_ne e, wipe_at]
      by_cases h : i ∈ us
      · rw [if_pos h, if_pos (List.mem_cons_of_mem _ h)]
      · rw [if_neg h, if_neg (fun z => (List.mem_cons.mp z).elim (fun q => e q.symm) h)]
theorem wipe_set {σ : L2.St} {i : Nat} {v : Option V} {us : List Nat} (h : i ∈ us) : wipe (σ.set i v) us = wipe σ us := by
  apply List.ext_getElem?
  intro j
  rw [wipe_at, wipe_at, List.length_set]
  by_cases e : j ∈ us
  · rw [if_pos e, if_pos e]
  · rw [if_neg e, if_neg e, List.getElem?_set_ne (fun z => e (by rw [← z]; exact h))]
theorem pat_name (i : Nat) : PatS K Ω (gName i) (pName i) [i] := fun Z ι M H σT σ t v σT' Q m rv r h q => by
  cases h
  exact q _ (rv.set i r) fun us hu => wipe_set (hu i (by simp))
def PatsS (K : PySem.W.Frag) (Ω : Om) (g : TGs) (Γ : List T → TV → Mem → Option TV) (vs : List Nat) : Prop := ∀ Z ι M H σT σ ts xs σT' Q, RM K Ω Z ι M H → RV K Ω Z ι M H σT σ → Rs K Ω Z ι M H ts xs → Γ ts σT M = some σT' →
  (∀ σ', RV K Ω Z ι M H σT' σ' → (∀ us : List Nat, (∀ i ∈ vs, i ∈ us) → wipe σ' us = wipe σ us) → Q σ' H) → g xs σ H Q
def psNil : List T → TV → Mem → Option TV := fun ts σ _ => match ts with
  | [] => some σ
  | _ => none
def psCons (p : PF) (q : List T → TV → Mem → Option TV) : List T → TV → Mem → Option TV := fun ts σ M => match ts with
  | t :: r => (p t σ M).bind fun σ1 => q r σ1 M
  | [] => none
def pTup (n : Nat) (q : List T → TV → Mem → Option TV) : PF := fun t σ M => match t with
  | .tup ts => bif ts.length == n then q ts σ M else none
  | _ => none
theorem pats_nil : PatsS K Ω gNil psNil [] := fun Z ι M H σT σ ts xs σT' Q m rv r h q => by
  cases r with
  | nil => cases h; exact ⟨rfl, q σ rv fun _ _ => rfl⟩
  | cons _ _ => cases h
theorem pats_cons {g : TG} {gs : TGs} {p : PF} {q : List T → TV → Mem → Option TV} {vs ws : List Nat} (h1 : PatS K Ω g p vs) (h2 : PatsS K Ω gs q ws) : PatsS K Ω (gCons g gs) (psCons p q) (vs ++ ws) := fun Z ι M H σT σ ts xs σT' Q m rv r h k => by
  cases r with
  | nil => cases h
  | cons r rs =>
    rename_i t v ts xs
    have h : (p t σT M).bind (fun σ1 => q ts σ1 M) = some σT' := h
    cases e : p t σT M with
    | none => rw [e] at h; cases h
    | some σ1 =>
      rw [e] at h
      refine ⟨v, xs, rfl, h1 Z ι M H σT σ t v σ1 _ m rv r e fun σ2 rv2 w2 => h2 Z ι M H σ1 σ2 ts xs σT' _ m rv2 rs h fun σ3 rv3 w3 => k σ3 rv3 fun us hu => ?_⟩
      rw [w3 us fun i hi => hu i (List.mem_append_right _ hi), w2 us fun i hi => hu i (List.mem_append_left _ hi)]
theorem pat_tup {n : Nat} {gs : TGs} {q : List T → TV → Mem → Option TV} {vs : List Nat} (h : PatsS K Ω gs q vs) : PatS K Ω (gTup K n gs) (pTup n q) vs := fun Z ι M H σT σ t v σT' Q m rv r e k => by
  cases r with
  | tup hs rs =>
    rename_i ts a xs
    have e : (bif ts.length == n then q ts σT M else none) = some σT' := e
    cases z : ts.length == n with
    | false => rw [z] at e; cases e
    | true =>
      rw [z] at e
      exact ⟨a, xs, rfl, .of hs, by rw [← rs.length]; exact beq_iff_eq.mp z, h Z ι M H σT σ ts xs σT' _ m rv rs e k⟩
  | _ => cases e
/-- target = e by a pattern -/
def sPat (p : PF) (f : EF) : SF := fun σ M => (f σ M).go σ fun t M1 => match p t σ M1 with
  | some σ1 => some (.nx σ1, M1)
  | none => none
theorem ms_pat {tg : Expr} {gt : TG} {p : PF} {vs : List Nat} (hp : PatS X.K Ω gt p vs) (he : ME X Ω W e f) (hg : PG X tg gt) (hs : swapsWithSole [tg] e pos.line X.env = pure false := by rfl) (hw : swappedStores [tg] e X.env = pure none := by rfl)
    (h1 : (assignEach [tg] X.env).map (·.2) = [assign tg X.env] := by rfl) : MS X Ω W (.Assign [tg] e pos) (sPat p f) := L2PS.imp (ps_asg he hg hs hw h1) fun D σ H ⟨Z, ι, M, σT, m, rv, q⟩ =>
  ⟨Z, ι, M, σT, m, rv, PostS.go q rv fun ι1 M1 H1 t v m1 e1 rv1 q1 p1 => by
    cases z : p t σT M1 with
    | none => rw [z] at p1; exact p1.elim
    | some σ1 => rw [z] at p1; exact hp Z ι1 M1 H1 σT σ t v σ1 _ m1 rv1 q1 z fun σ' rv' _ => p1.nx m1 rv'⟩
/-- a, b = x, y with plain local names -/
def sPar (i j : Nat) (fa : AF) : SF := fun σ M => (fa σ M).go σ fun ts M1 => match ts with
  | [t, u] => some (.nx ((σ.set i (some t)).set j (some u)), M1)
  | _ => none
theorem ms_par {i j : Nat} {x y : Str} {px py pt : Pos} {kt k2 pt2} (hc : X.calm = true) (hN : X.N.Nodup) (hi : X.N[i]? = some x) (hj : X.N[j]? = some y) (hij : i ≠ j)
    (hx : X.env.scope.names.lookup x = some .local) (hy : X.env.scope.names.lookup y = some .local) (ha : MA X Ω W [a, b] fa)
    (hw : swappedStores [.Tuple [.Name x px, .Name y py] kt pt] (.Tuple [a, b] k2 pt2) X.env = pure (some [x, y]) := by rfl)
    (hs : swapsWithSole [.Tuple [.Name x px, .Name y py] kt pt] (.Tuple [a, b] k2 pt2) pos.line X.env = pure false := by rfl) :
    MS X Ω W (.Assign [.Tuple [.Name x px, .Name y py] kt pt] (.Tuple [a, b] k2 pt2) pos) (sPar i j fa) := L2PS.imp (ps_par hc hN hi hj hij hx hy ha hw hs) fun D σ H ⟨Z, ι, M, σT, m, rv, q⟩ =>
  ⟨Z, ι, M, σT, m, rv, PostS.go q rv fun ι1 M1 H1 ts vs m1 e1 rv1 q1 p1 => by
    match ts, vs, q1, p1 with
    | [t, u], [v, w], .cons r1 (.cons r2 .nil), p1 => exact ⟨v, w, rfl, p1.nx m1 ((rv1.set i r1).set j r2)⟩
    | [], _, _, p1 => exact p1.elim
    | [_], _, _, p1 => exact p1.elim
    | _ :: _ :: _ :: _, _, _, p1 => exact p1.elim⟩
/-- name op= e -/
def sAug (i : Nat) (op : Op2) (f : EF) : SF := fun σ M => match σ[i]? with
  | some (some t) => (f σ M).go σ fun u M1 => match op M1 t u with
    | some z => some (.nx (σ.set i (some z)), M1)
    | none => none
  | _ => none
def OpI (K : PySem.W.Frag) (Ω : Om) (r : TIp) (op : Op2) : Prop := OpS K Ω r op
theorem ms_aug {i : Nat} {x : Str} {o : Operator} {ti : TIp} {op : Op2} {pos' : Pos} (hop : OpS X.K Ω ti op) (hN : X.N.Nodup) (hi : X.N[i]? = some x) (hx : Loc X.env.scope x) (he : ME X Ω W e f) (ho : PIp X o ti) (hf : X.fn x = true ∨ X.env.scope.names.lookup x = some .local := by first | exact .inl rfl | exact .inr rfl | assumption) :
    MS X Ω W (.AugAssign (.Name x pos') o e pos) (sAug i op f) := L2PS.imp (ps_aug hN hi hx he ho hf) fun D σ H ⟨Z, ι, M, σT, m, rv, q⟩ => by
  unfold sAug at q
  split at q
  · rename_i t e0
    obtain ⟨v, ev, r0⟩ := rv.at_ i t e0
    refine ⟨v, ev, Z, ι, M, σT, m, rv, PostS.go q rv fun ι1 M1 H1 u w m1 e1 rv1 q1 p1 => ?_⟩
    cases z : op M1 t u with
    | none => rw [z] at p1; exact p1.elim
    | some y =>
      rw [z] at p1
      exact hop Z ι1 M1 H1 t u v w y _ m1 (r0.ext e1.any) q1 z fun ι2 H2 x2 m2 e2 r2 => PostS.nx (PostS.ext p1 e2) m2 ((rv1.ext e2.any).set i r2)
  · exact q.elim
/-! ### while -/
def whileN (c : TF) (b : SF) : Nat → SF
  | 0 => fun _ _ => none
  | n + 1 => fun σ M => (c σ M).go σ fun k M1 => bif k then (match b σ M1 with
      | some (.nx σ2, M2) => whileN c b n σ2 M2
      | some (.ct σ2, M2) => whileN c b n σ2 M2
      | some (.bk σ2, M2) => some (.nx σ2, M2)
      | r => r) else some (.nx σ, M1)
def sWhile (n : Nat) (c : TF) (b : SF) : SF := whileN c b n
theorem ms_while {body : List Stmt} (n : Nat) (hp : PassesOwn (model X.prog X.w) X.A X.env X.xe) (hc : MT X Ω W c ft) (hb : MSs X Ω W body s1) : MS X Ω W (.While c body [] pos) (sWhile n ft s1) := L2PS.imp (ps_while hp hc hb) fun D σ H ⟨Z, ι, M, σT, m, rv, q⟩ => by
  refine ⟨fun n σ H => ∃ Z ι M σT, RM X.K Ω Z ι M H ∧ RV X.K Ω Z ι M H σT σ ∧ PostS X.K Ω W Z ι M H D (whileN ft s1 n σT M), ⟨n, Z, ι, M, σT, m, rv, q⟩, ?_⟩
  rintro n σ H ⟨Z, ι, M, σT, m, rv, q⟩
  cases n with
  | zero => exact q.elim
  | succ n =>
    refine ⟨Z, ι, M, σT, m, rv, PostS.go q rv fun ι1 M1 H1 k k' m1 e1 rv1 q1 p1 => ?_⟩
    cases q1
    cases k with
    | false => rw [if_neg Bool.false_ne_true]; exact p1.nx m1 rv1
    | true =>
      rw [if_pos rfl]
      refine ⟨fun σ' H' => ∃ Z ι M σT, RM X.K Ω Z ι M H' ∧ RV X.K Ω Z ι M H' σT σ' ∧ PostS X.K Ω W Z ι M H' D (whileN ft s1 n σT M), fun σ' H' h => ⟨n, Nat.lt_succ_self n, h⟩, Z, ι1, M1, σT, m1, rv1, ?_⟩
      have p1 : PostS X.K Ω W Z ι1 M1 H1 D (match s1 σT M1 with | some (.nx σ2, M2) => whileN ft s1 n σ2 M2 | some (.ct σ2, M2) => whileN ft s1 n σ2 M2 | some (.bk σ2, M2) => some (.nx σ2, M2) | r => r) := p1
      generalize s1 σT M1 = r at p1 ⊢
      match r, p1 with
      | some (.nx σ2, M2), p1 => exact fun ι' σ' H' m' e' rv' => ⟨Z, ι', M2, σ2, m', rv', PostS.ext p1 e'⟩
      | some (.ct σ2, M2), p1 => exact fun ι' σ' H' m' e' rv' => ⟨Z, ι', M2, σ2, m', rv', PostS.ext p1 e'⟩
      | some (.bk σ2, M2), p1 => exact p1
      | some (.rt _, _), p1 => exact p1
      | some (.ex _ _ _, _), p1 => exact p1
end
end Mi
namespace Mi
open PySem PySem.Spec PyProof.Rows L2

section
variable {K : PySem.W.Frag} {Ω : Om} {Z Z' ι ι' : List Addr} {M M' : Mem} {H H' : Hp}
theorem Rs.get : ∀ {ts : List T} {vs : List V} {i : Nat} {t : T}, Rs K Ω Z ι M H ts vs → ts[i]? = some t → ∃ v, vs[i]? = some v ∧ R K Ω Z ι M H t v
  | _, _, _, _, .nil, h => by simp at h
  | _, _, 0, _, .cons r _, h => by
    simp at h
    subst h
    exact ⟨_, rfl, r⟩
  | _, _, i + 1, t, .cons _ q, h => by
    obtain ⟨v, a, b⟩ := Rs.get (i := i) (t := t) q (by simpa using h)
    exact ⟨v, by simpa using a, b⟩
theorem still_grow {a : Addr} {o : HO} (h : H a = some o) (n : Still Z ι M a) (g : ∀ z ∈ Z', z ∈ Z ∨ H z = none) : Still Z' ι M a :=
  ⟨n.1, fun z => (g a z).elim n.2 fun e => by rw [e] at h; cases h⟩
mutual
theorem R.grow (g : ∀ z ∈ Z', z ∈ Z ∨ H z = none) : ∀ {t : T} {v : V}, R K Ω Z ι M H t v → R K Ω Z' ι M H t v
  | _, _, .non => .non
  | _, _, .bl b => .bl b
  | _, _, .int i => .int i
  | _, _, .str x s h l => .str x s h l
  | _, _, .tup h r => .tup h (Rs.grow g r)
  | _, _, .ktup h r => .ktup h (Rs.grow g r)
  | _, _, .lst h n r => .lst h (still_grow h n g) (Rs.grow g r)
  | _, _, .klst h r => .klst h (Rs.grow g r)
  | _, _, .dK h n k r => .dK h (h.elim (fun q => still_grow q n g) fun ⟨_, q⟩ => still_grow q n g) k (Rs.grow g r)
  | _, _, .dT h n k r => .dT h (h.elim (fun q => still_grow q n g) fun ⟨_, q⟩ => still_grow q n g) k (Rs.grow g r)
  | _, _, .obj h n k r => .obj h (still_grow h n g) k (Rs.grow g r)
  | _, _, .loc h => .loc h
theorem Rs.grow (g : ∀ z ∈ Z', z ∈ Z ∨ H z = none) : ∀ {ts : List T} {vs : List V}, Rs K Ω Z ι M H ts vs → Rs K Ω Z' ι M H ts vs
  | _, _, .nil => .nil
  | _, _, .cons r t => .cons (R.grow g r) (Rs.grow g t)
end
end

/-- what an iterator yields, however the heap grows -/
def RIt (K : PySem.W.Frag) (Ω : Om) : Rel (List T) It := fun Z ι M H ts J => ∀ Z' ι' M' H', RM K Ω Z' ι' M' H' → Ext Z' ι M H ι' M' H' → (∀ z ∈ Z', z ∈ Z ∨ H z = none) →
  J.stop ts.length H' ∧ ∀ (i : Nat) t, ts[i]? = some t → J.go i H' ∧ ∀ x H2, J.yld i H' x H2 → RM K Ω Z' ι' M' H2 ∧ Ext [] ι' M' H' ι' M' H2 ∧ R K Ω Z' ι' M' H2 t x
abbrev MI (X : Cx) (Ω : Om) (W : WX) (tg it : Expr) (f : AF) : Prop := PI X tg it (lift X.K Ω (RIt X.K Ω) W f)
section
variable {X : Cx} {Ω : Om} {W : WX} {e e2 tg : Expr} {f g : EF} {fa : AF} {pos p : Pos}
theorem L2PI.imp {X : Cx} {tg e : Expr} {t t' : TI} (h : PI X tg e t) (k : ∀ σ H Q, t' σ H Q → t σ H Q) : PI X tg e t' := ⟨fun pins s σ H Q I q => h.run pins s σ H Q I (k σ H Q q)⟩
theorem L2PI.or {X : Cx} {tg e : Expr} {t t' : TI} (h : PI X tg e t) (h' : PI X tg e t') : PI X tg e (fun σ H Q => t σ H Q ∨ t' σ H Q) :=
  ⟨fun pins s σ H Q I q => q.elim (h.run pins s σ H Q I) (h'.run pins s σ H Q I)⟩
theorem rit_list {Z ι : List Addr} {M : Mem} {H : Hp} {ts : List T} {a : Addr} {vs : List V} (h : Rd H a (.lst vs)) (n : Still Z ι M a) (r : Rs X.K Ω Z ι M H ts vs) : RIt X.K Ω Z ι M H ts (Itl X.K a) := fun Z' ι' M' H' m e g => by
  have n' : Still Z' ι M a := h.elim (fun q => still_grow q n g) fun ⟨_, q⟩ => still_grow q n g
  have h' : SqL X.K H' a vs := .inl (e.rd h n').1
  have r' := (r.grow g).ext e
  refine ⟨⟨vs, h', by rw [r.length]; exact Nat.le_refl _⟩, fun i t q => ?_⟩
  obtain ⟨v, hv, rv⟩ := r'.get q
  refine ⟨⟨vs, v, h', hv⟩, fun x H2 y => ?_⟩
  obtain ⟨rfl, y⟩ := y
  have := y vs h'
  rw [hv] at this
  cases this
  exact ⟨m, Ext.refl, rv⟩
theorem rit_tup {Z ι : List Addr} {M : Mem} {H : Hp} {ts : List T} {a : Addr} {vs : List V} (h : SqT X.K H a vs) (r : Rs X.K Ω Z ι M H ts vs) : RIt X.K Ω Z ι M H ts (Itt X.K a) := fun Z' ι' M' H' m e g => by
  have h' : SqT X.K H' a vs := e.sqt h
  have r' := (r.grow g).ext e
  refine ⟨⟨vs, h', by rw [r.length]; exact Nat.le_refl _⟩, fun i t q => ?_⟩
  obtain ⟨v, hv, rv⟩ := r'.get q
  refine ⟨⟨vs, v, h', hv⟩, fun x H2 y => ?_⟩
  obtain ⟨rfl, y⟩ := y
  have := y vs h'
  rw [hv] at this
  cases this
  exact ⟨m, Ext.refl, rv⟩
/-- a list that stands still, or a tuple -/
def items : T → Option (List T)
  | .tup ts => some ts
  | .ktup ts => some ts
  | .lst ts => some ts
  | _ => none
def iSeq (f : EF) : AF := fun σ M => (f σ M).bind fun t M1 => .of (items t) M1
theorem mi_seq (he : ME X Ω W e f) : MI X Ω W tg e (iSeq f) := L2PI.imp (L2PI.or (pi_list he) (pi_tup he)) fun σ H Q ⟨Z, ι, M, σT, m, rv, p⟩ => by
  unfold iSeq at p
  cases q : f σT M with
  | err => rw [q] at p; exact p.elim
  | exc c t M1 => rw [q] at p; exact .inl ⟨Z, ι, M, σT, m, rv, by rw [q]; exact p⟩
  | ok t M1 =>
    rw [q] at p
    match t, p, q with
    | .lst ts, p, q =>
      refine .inl ⟨Z, ι, M, σT, m, rv, ?_⟩
      rw [q]
      intro ι1 H1 v m1 e1 r1
      match v, r1 with
      | _, .lst h n r => exact ⟨_, rfl, ⟨_, .inl (.inl h)⟩, p ι1 H1 _ m1 e1 (rit_list (.inl h) n r)⟩
    | .tup ts, p, q =>
      refine .inr ⟨Z, ι, M, σT, m, rv, ?_⟩
      rw [q]
      intro ι1 H1 v m1 e1 r1
      match v, r1 with
      | _, .tup h r => exact ⟨_, rfl, ⟨_, .of h⟩, p ι1 H1 _ m1 e1 (rit_tup (.of h) r)⟩
    | .ktup ts, p, q =>
      refine .inr ⟨Z, ι, M, σT, m, rv, ?_⟩
      rw [q]
      intro ι1 H1 v m1 e1 r1
      match v, r1 with
      | _, .ktup h r => exact ⟨_, rfl, ⟨_, h⟩, p ι1 H1 _ m1 e1 (rit_tup h r)⟩
    | .non, p, _ => exact p.elim
    | .bl _, p, _ => exact p.elim
    | .int _, p, _ => exact p.elim
    | .str _, p, _ => exact p.elim
    | .dct _ _, p, _ => exact p.elim
    | .obj _ _, p, _ => exact p.elim
    | .loc _, p, _ => exact p.elim
    | .klst _, p, _ => exact p.elim
/-- range(n), range(a, b) -/
def rngT (lo : Int) (n : Nat) : List T := (List.range n).map fun i => .int (lo + (i : Nat))
def inR (j : Int) : Bool := decide (-(2 ^ 62) ≤ j) && decide (j < 2 ^ 62)
def rg1 (ts : List T) : Option (List T) := match ts with
  | [.int j] => bif inR j then some (rngT 0 j.toNat) else none
  | _ => none
def rg2 (ts : List T) : Option (List T) := match ts with
  | [.int i, .int j] => bif inR i && inR j then some (rngT i (j - i).toNat) else none
  | _ => none
def iFun (o : List T → Option (List T)) (fa : AF) : AF := fun σ M => (fa σ M).bind fun ts M1 => .of (o ts) M1
theorem inR_ok {j : Int} (h : inR j = true) : -(2 ^ 62) ≤ j ∧ j < 2 ^ 62 := by
  unfold inR at h
  rw [Bool.and_eq_true, decide_eq_true_eq, decide_eq_true_eq] at h
  exact h
theorem rit_rng {Z ι : List Addr} {M : Mem} {H : Hp} {lo : Int} {n : Nat} : RIt X.K Ω Z ι M H (rngT lo n) (Itr lo n) := fun Z' ι' M' H' m e g => by
  refine ⟨by unfold rngT; rw [List.length_map, List.length_range]; exact Nat.le_refl n, fun i t q => ?_⟩
  unfold rngT at q
  rw [List.getElem?_map] at q
  by_cases h : i < n
  · rw [List.getElem?_range h] at q
    cases q
    refine ⟨h, fun x H2 y => ?_⟩
    obtain ⟨rfl, rfl⟩ := y
    exact ⟨m, Ext.refl, .int _⟩
  · rw [List.getElem?_eq_none (by simpa using h)] at q
    cases q
theorem mi_fun {es : List Expr} {ta : TA} {o : List T → Option (List T)} {wi : TI} (h : PI X tg e wi)
    (k : ∀ σ H Q Z ι M σT, RM X.K Ω Z ι M H → RV X.K Ω Z ι M H σT σ → Post X.K Ω (RIt X.K Ω) (fun c d H' => W c d σ H') Z ι M H Q (iFun o fa σT M) → wi σ H Q) : MI X Ω W tg e (iFun o fa) := L2PI.imp h fun σ H Q ⟨Z, ι, M, σT, m, rv, q⟩ => k σ H Q Z ι M σT m rv q
theorem Post.of {K : PySem.W.Frag} {α β : Type} {Rα : Rel α β} {Wh : Value → Option Addr → Hp → Prop} {Z ι : List Addr} {M : Mem} {H : Hp} {Q : β → Hp → Prop} {o : Option α} (p : Post K Ω Rα Wh Z ι M H Q (.of o M)) : ∃ t, o = some t ∧ Post K Ω Rα Wh Z ι M H Q (.ok t M) := by
  cases o with
  | none => exact p.elim
  | some t => exact ⟨t, rfl, p⟩
theorem mi_range1 {a : Expr} (hg : Gl X "range") (hm : X.mg "range" = none) (ha : MA X Ω W [a] fa) (hs : starEach [a] X.env = [(false, eval a X.env)] := by rfl) : MI X Ω W tg (.Call (.Name "range" p) [a] [] pos) (iFun rg1 fa) := L2PI.imp (pi_range1 hg hm ha hs) fun σ H Q ⟨Z, ι, M, σT, m, rv, q⟩ =>
  ⟨Z, ι, M, σT, m, rv, Post.bind q fun ι1 M1 H1 ts vs m1 e1 q1 p1 => by
    obtain ⟨r, h, p1⟩ := Post.of p1
    unfold rg1 at h
    split at h
    · rename_i j
      cases z : inR j with
      | false => rw [z] at h; cases h
      | true =>
        rw [z] at h
        cases h
        cases q1 with
        | cons r1 r2 =>
          cases r2
          cases r1
          exact ⟨j, rfl, (inR_ok z).1, (inR_ok z).2, p1.pure m1 rit_rng⟩
    · cases h⟩
theorem mi_range2 {a b : Expr} (hg : Gl X "range") (hm : X.mg "range" = none) (ha : MA X Ω W [a, b] fa) (hs : starEach [a, b] X.env = [(false, eval a X.env), (false, eval b X.env)] := by rfl) (hs2 : starEach [b] X.env = [(false, eval b X.env)] := by rfl) : MI X Ω W tg (.Call (.Name "range" p) [a, b] [] pos) (iFun rg2 fa) := L2PI.imp (pi_range2 hg hm ha hs hs2) fun σ H Q ⟨Z, ι, M, σT, m, rv, q⟩ =>
  ⟨Z, ι, M, σT, m, rv, Post.bind q fun ι1 M1 H1 ts vs m1 e1 q1 p1 => by
    obtain ⟨r, h, p1⟩ := Post.of p1
    unfold rg2 at h
    split at h
    · rename_i i j
      cases z : inR i && inR j with
      | false => rw [z] at h; cases h
      | true =>
        rw [z] at h
        cases h
        rw [Bool.and_eq_true] at z
        cases q1 with
        | cons r1 r2 =>
          cases r2 with
          | cons r2 r3 =>
            cases r3
            cases r1
            cases r2
            exact ⟨i, j, rfl, ⟨(inR_ok z.1).1, (inR_ok z.1).2, (inR_ok z.2).1, (inR_ok z.2).2⟩, p1.pure m1 rit_rng⟩
    · cases h⟩
/-- enumerate(list that stands still) -/
def enumT (k : Nat) : List T → List T
  | [] => []
  | t :: ts => .tup [.int k, t] :: enumT (k + 1) ts
theorem enumT_get : ∀ {ts : List T} {k i : Nat} {t : T}, (enumT k ts)[i]? = some t → ∃ u, ts[i]? = some u ∧ t = .tup [.int ((k + i : Nat) : Int), u]
  | [], _, _, _, h => by simp [enumT] at h
  | u :: ts, k, 0, t, h => by
    simp [enumT] at h
    exact ⟨u, rfl, h.symm⟩
  | u :: ts, k, i + 1, t, h => by
    simp only [enumT, List.getElem?_cons_succ] at h
    obtain ⟨w, a, b⟩ := enumT_get h
    exact ⟨w, by simpa using a, by rw [b, show k + 1 + i = k + (i + 1) by omega]⟩
theorem enumT_len : ∀ {ts : List T} {k : Nat}, (enumT k ts).length = ts.length
  | [], _ => rfl
  | _ :: ts, k => by simp [enumT, enumT_len (ts := ts)]
def en1 (ts : List T) : Option (List T) := match ts with
  | [.lst xs] => some (enumT 0 xs)
  | _ => none
theorem rit_enum {Z ι : List Addr} {M : Mem} {H : Hp} {ts : List T} {a : Addr} {vs : List V} (h : Rd H a (.lst vs)) (n : Still Z ι M a) (r : Rs X.K Ω Z ι M H ts vs) : RIt X.K Ω Z ι M H (enumT 0 ts) (Ite X.K a) := fun Z' ι' M' H' m e g => by
  have n' : Still Z' ι M a := h.elim (fun q => still_grow q n g) fun ⟨_, q⟩ => still_grow q n g
  have h' : SqL X.K H' a vs := .inl (e.rd h n').1
  have r' := (r.grow g).ext e
  refine ⟨⟨vs, h', by rw [enumT_len, r.length]; exact Nat.le_refl _⟩, fun i t q => ?_⟩
  obtain ⟨u, hu, rfl⟩ := enumT_get q
  obtain ⟨v, hv, rv⟩ := r'.get hu
  refine ⟨⟨vs, v, h', hv⟩, fun x H2 y => ?_⟩
  obtain ⟨T', w, rfl, nT, rfl, y⟩ := y
  have := y vs h'
  rw [hv] at this
  cases this
  refine ⟨m.lay nT, Ext.new nT, .tup upd_same (.cons ?_ (.cons (rv.ext (Ext.new nT)) .nil))⟩
  rw [Nat.zero_add]
  exact .int _
theorem mi_enum {tpos : Pos} {elts : List Expr} {kk : Nat} (hg : Gl X "enumerate") (hm : X.mg "enumerate" = none) (ha : MA X Ω W [e] fa) (hs : starEach [e] X.env = [(false, eval e X.env)] := by rfl) : MI X Ω W (.Tuple elts kk tpos) (.Call (.Name "enumerate" p) [e] [] pos) (iFun en1 fa) := L2PI.imp (pi_enum hg hm ha hs) fun σ H Q ⟨Z, ι, M, σT, m, rv, q⟩ =>
  ⟨Z, ι, M, σT, m, rv, Post.bind q fun ι1 M1 H1 ts vs m1 e1 q1 p1 => by
    obtain ⟨r, h, p1⟩ := Post.of p1
    unfold en1 at h
    split at h
    · cases h
      cases q1 with
      | cons r1 r2 =>
        cases r2
        cases r1 with
        | lst hl hn rs => exact ⟨_, _, rfl, .inl (.inl hl), p1.pure m1 (rit_enum (.inl hl) hn rs)⟩
    · cases h⟩
/-- zip of two -/
def zipT : List T → List T → List T
  | t :: ts, u :: us => .tup [t, u] :: zipT ts us
  | _, _ => []
theorem zipT_get : ∀ {ts us : List T} {i : Nat} {t : T}, (zipT ts us)[i]? = some t → ∃ u w, ts[i]? = some u ∧ us[i]? = some w ∧ t = .tup [u, w]
  | [], _, _, _, h => by simp [zipT] at h
  | _ :: _, [], _, _, h => by simp [zipT] at h
  | u :: ts, w :: us, 0, t, h => by
    simp [zipT] at h
    exact ⟨u, w, rfl, rfl, h.symm⟩
  | u :: ts, w :: us, i + 1, t, h => by
    simp only [zipT, List.getElem?_cons_succ] at h
    obtain ⟨a, b, c, d, q⟩ := zipT_get h
    exact ⟨a, b, by simpa using c, by simpa using d, q⟩
theorem zipT_len : ∀ {ts us : List T}, ts.length ≤ (zipT ts us).length ∨ us.length ≤ (zipT ts us).length
  | [], _ => .inl (Nat.zero_le _)
  | _ :: _, [] => .inr (Nat.zero_le _)
  | _ :: ts, _ :: us => by
    simp only [zipT, List.length_cons]
    have := zipT_len (ts := ts) (us := us)
    omega
def zp2 (ts : List T) : Option (List T) := match ts with
  | [.lst xs, .lst ys] => some (zipT xs ys)
  | [.tup xs, .tup ys] => some (zipT xs ys)
  | _ => none
theorem mi_zip {tpos : Pos} {elts : List Expr} {kk : Nat} (hg : Gl X "zip") (hm : X.mg "zip" = none) (ha : MA X Ω W [e, e2] fa)
    (hs : starEach [e, e2] X.env = (false, eval e X.env) :: starEach [e2] X.env := by rfl) (hpl : (backTo pos (starEach [e2] X.env)).any (·.1) = false := by rfl) : MI X Ω W (.Tuple elts kk tpos) (.Call (.Name "zip" p) [e, e2] [] pos) (iFun zp2 fa) := L2PI.imp (RZ.pi_zipA hg hm ha hs hpl) fun σ H Q ⟨Z, ι, M, σT, m, rv, q⟩ =>
  ⟨Z, ι, M, σT, m, rv, Post.bind q fun ι1 M1 H1 ts vs m1 e1 q1 p1 => by
    obtain ⟨r, h, p1⟩ := Post.of p1
    unfold zp2 at h
    split at h
    · cases h
      cases q1 with
      | cons r1 r2 =>
        cases r2 with
        | cons r2 r3 =>
          cases r3
          cases r1 with
          | lst hl hn rs =>
            rename_i xs ys a vs
            cases r2 with
            | lst hl2 hn2 rs2 =>
              rename_i b ws
              refine ⟨a, b, vs, ws, rfl, .inl ⟨.inl (.inl hl), .inl (.inl hl2), p1.pure m1 fun Z' ι' M' H' m e g => ?_⟩⟩
              have n' : Still Z' ι1 M1 a := still_grow hl hn g
              have n2' : Still Z' ι1 M1 b := still_grow hl2 hn2 g
              have h1 : SqL X.K H' a vs := .inl (.inl (e.still hl n').1)
              have h2 : SqL X.K H' b ws := .inl (.inl (e.still hl2 n2').1)
              have r1 := (rs.grow g).ext e
              have r2 := (rs2.grow g).ext e
              refine ⟨⟨vs, ws, h1, h2, by rw [← r1.length, ← r2.length]; exact zipT_len⟩, fun i t q => ?_⟩
              obtain ⟨u, w, hu, hw, rfl⟩ := zipT_get q
              obtain ⟨v, hv, rv⟩ := r1.get hu
              obtain ⟨v2, hv2, rv2⟩ := r2.get hw
              refine ⟨⟨vs, ws, v, v2, h1, h2, hv, hv2⟩, fun x H2 y => ?_⟩
              obtain ⟨T', x1, x2, rfl, nT, rfl, y1, y2⟩ := y
              have e1 := y1 vs h1
              have e2 := y2 ws h2
              rw [hv] at e1
              rw [hv2] at e2
              cases e1
              cases e2
              exact ⟨m.lay nT, Ext.new nT, .tup upd_same (.cons (rv.ext (Ext.new nT)) (.cons (rv2.ext (Ext.new nT)) .nil))⟩
    · cases h
      cases q1 with
      | cons r1 r2 =>
        cases r2 with
        | cons r2 r3 =>
          cases r3
          cases r1 with
          | tup hl rs =>
            rename_i xs ys a vs
            cases r2 with
            | tup hl2 rs2 =>
              rename_i b ws
              refine ⟨a, b, vs, ws, rfl, .inr ⟨.of hl, .of hl2, p1.pure m1 fun Z' ι' M' H' m e g => ?_⟩⟩
              have h1 : SqT X.K H' a vs := .of (e.tups _ _ hl)
              have h2 : SqT X.K H' b ws := .of (e.tups _ _ hl2)
              have r1 := (rs.grow g).ext e
              have r2 := (rs2.grow g).ext e
              refine ⟨⟨vs, ws, h1, h2, by rw [← r1.length, ← r2.length]; exact zipT_len⟩, fun i t q => ?_⟩
              obtain ⟨u, w, hu, hw, rfl⟩ := zipT_get q
              obtain ⟨v, hv, rv⟩ := r1.get hu
              obtain ⟨v2, hv2, rv2⟩ := r2.get hw
              refine ⟨⟨vs, ws, v, v2, h1, h2, hv, hv2⟩, fun x H2 y => ?_⟩
              obtain ⟨T', x1, x2, rfl, nT, rfl, y1, y2⟩ := y
              have e1 := y1 vs h1
              have e2 := y2 ws h2
              rw [hv] at e1
              rw [hv2] at e2
              cases e1
              cases e2
              exact ⟨m.lay nT, Ext.new nT, .tup upd_same (.cons (rv.ext (Ext.new nT)) (.cons (rv2.ext (Ext.new nT)) .nil))⟩
    · cases h⟩
/-! ### for -/
def forL (p : PF) (b : SF) : List T → SF
  | [] => fun σ M => some (.nx σ, M)
  | t :: ts => fun σ M => match p t σ M with
    | none => none
    | some σ1 => match b σ1 M with
      | some (.nx σ2, M2) => forL p b ts σ2 M2
      | some (.ct σ2, M2) => forL p b ts σ2 M2
      | some (.bk σ2, M2) => some (.nx σ2, M2)
      | r => r
def sFor (p : PF) (it : AF) (b : SF) : SF := fun σ M => (it σ M).go σ fun ts M1 => forL p b ts σ M1
theorem ms_for {iter : Expr} {body : List Stmt} {gt : TG} {pf : PF} {vs : List Nat} {b : SF} {it : AF} (hpo : PassesOwn (model X.prog X.w) X.A X.env X.xe) (hc : X.calm = true) (hi : MI X Ω W tg iter it) (hp : PatS X.K Ω gt pf vs) (hg : PG X tg gt) (hb : MSs X Ω W body b)
    (hs : ∀ x, foldedSetIterable iter X.env x = pure x := by intro _; rfl) : MS X Ω W (.For tg iter body [] pos) (sFor pf it b) := L2PS.imp (ps_for hpo hc hi hg hb hs) fun D σ H ⟨Z, ι, M, σT, m, rv, p⟩ =>
  ⟨Z, ι, M, σT, m, rv, PostS.go p rv fun ι1 M1 H1 ts J m1 e1 rv1 q1 p1 => by
    refine ⟨fun i n σ H => n = ts.length - i ∧ i ≤ ts.length ∧ ∃ ι M σT, RM X.K Ω Z ι M H ∧ RV X.K Ω Z ι M H σT σ ∧ Ext Z ι1 M1 H1 ι M H ∧ PostS X.K Ω W Z ι M H D (forL pf b (ts.drop i) σT M), ⟨ts.length, by omega, Nat.zero_le _, ι1, M1, σT, m1, rv1, Ext.refl, p1⟩, ?_⟩
    rintro i n σ H ⟨rfl, hi, ι, M, σT, m, rv, ex, q⟩
    obtain ⟨stop, go⟩ := q1 Z ι M H m ex fun z h => .inl h
    by_cases hlt : i < ts.length
    · have hd : ts.drop i = ts[i] :: ts.drop (i + 1) := List.drop_eq_getElem_cons hlt
      rw [hd] at q
      obtain ⟨g1, y1⟩ := go i ts[i] (List.getElem?_eq_getElem hlt)
      refine .inr ⟨g1, fun σ' H' => i + 1 ≤ ts.length ∧ ∃ ι M σT, RM X.K Ω Z ι M H' ∧ RV X.K Ω Z ι M H' σT σ' ∧ Ext Z ι1 M1 H1 ι M H' ∧ PostS X.K Ω W Z ι M H' D (forL pf b (ts.drop (i + 1)) σT M), fun σ' H' ⟨a, h⟩ => ⟨ts.length - (i + 1), by omega, rfl, a, h⟩, fun x H' y => ?_⟩
      obtain ⟨m2, e2, r2⟩ := y1 x H' y
      have q : PostS X.K Ω W Z ι M H D (match pf ts[i] σT M with
        | none => none
        | some σ1 => match b σ1 M with
          | some (.nx σ2, M2) => forL pf b (ts.drop (i + 1)) σ2 M2
          | some (.ct σ2, M2) => forL pf b (ts.drop (i + 1)) σ2 M2
          | some (.bk σ2, M2) => some (.nx σ2, M2)
          | r => r) := q
      cases z : pf ts[i] σT M with
      | none => rw [z] at q; exact q.elim
      | some σ1 =>
        rw [z] at q
        have q := PostS.ext q e2
        refine hp Z ι M H' σT σ ts[i] x σ1 _ m2 (rv.ext e2.any) r2 z fun σ2 rv2 _ => ⟨Z, ι, M, σ1, m2, rv2, ?_⟩
        have ex2 : Ext Z ι1 M1 H1 ι M H' := ex.trans e2.any
        have q : PostS X.K Ω W Z ι M H' D (match b σ1 M with
          | some (.nx σ2, M2) => forL pf b (ts.drop (i + 1)) σ2 M2
          | some (.ct σ2, M2) => forL pf b (ts.drop (i + 1)) σ2 M2
          | some (.bk σ2, M2) => some (.nx σ2, M2)
          | r => r) := q
        generalize b σ1 M = r at q ⊢
        match r, q with
        | none, q => exact q
        | some (.nx σ3, M3), q => exact fun ι3 σ' H3 m3 e3 rv3 => ⟨hlt, ι3, M3, σ3, m3, rv3, ex2.trans e3.any, PostS.ext q e3⟩
        | some (.ct σ3, M3), q => exact fun ι3 σ' H3 m3 e3 rv3 => ⟨hlt, ι3, M3, σ3, m3, rv3, ex2.trans e3.any, PostS.ext q e3⟩
        | some (.bk σ3, M3), q => exact q
        | some (.rt _, _), q => exact q
        | some (.ex _ _ _, _), q => exact q
    · have e : i = ts.length := by omega
      subst e
      rw [List.drop_length] at q
      exact .inl ⟨stop, q.nx m rv⟩⟩
/-! ### list comprehensions -/
def wipeT (σ : TV) : List Nat → TV
  | [] => σ
  | v :: vs => (wipeT σ vs).set v none
theorem RV.wipe {K : PySem.W.Frag} {Z ι : List Addr} {M : Mem} {H : Hp} {σT : TV} {σ : L2.St} (r : RV K Ω Z ι M H σT σ) : ∀ vs : List Nat, RV K Ω Z ι M H (wipeT σT vs) (L2.wipe σ vs)
  | [] => r
  | v :: vs => by
    have q := RV.wipe r vs
    refine ⟨by simp [wipeT, L2.wipe, q.len], fun j u h => ?_⟩
    unfold wipeT at h
    unfold L2.wipe
    by_cases e : v = j
    · subst e
      by_cases hi : v < (wipeT σT vs).length
      · rw [List.getElem?_set_self hi] at h; cases h
      · rw [List.getElem?_eq_none (by simpa using hi)] at h; cases h
    · rw [List.getElem?_set_ne e] at h
      obtain ⟨w, a, b⟩ := q.at_ j u h
      exact ⟨w, by rw [List.getElem?_set_ne e]; exact a, b⟩
theorem wipe_wipe {σ : L2.St} {us : List Nat} : L2.wipe (L2.wipe σ us) us = L2.wipe σ us := by
  apply List.ext_getElem?
  intro j
  rw [wipe_at, wipe_at, wipe_length]
  by_cases e : j ∈ us
  · rw [if_pos e, if_pos e]
  · rw [if_neg e, if_neg e]
def compL (p : PF) (c : TF) (f : EF) (σ : TV) : List T → List T → Mem → Res (List T)
  | [], acc, M => .ok acc M
  | t :: ts, acc, M => match p t σ M with
    | none => .err
    | some σ1 => match c σ1 M with
      | .ok true M1 => (match f σ1 M1 with
        | .ok u M2 => compL p c f σ ts (acc ++ [u]) M2
        | _ => .err)
      | .ok false M1 => compL p c f σ ts acc M1
      | _ => .err
def eLc (own : List Nat) (p : PF) (it : AF) (c : TF) (f : EF) : AF := fun σ M => (it σ M).bind fun ts M1 => bif big ts.length then compL p c f (wipeT σ own) ts [] M1 else .err
def tTrue : TF := fun _ M => .ok true M
abbrev W0 : WX := fun _ _ _ _ => False
abbrev MTs (X : Cx) (Ω : Om) (W : WX) (es : List Expr) (f : TF) : Prop := PTs X es (liftT X.K Ω W f)
theorem mts_nil : MTs X Ω W [] tTrue := ⟨fun pins s σ H Q I ⟨Z, ι, M, σT, m, rv, p⟩ => pts_nil.run pins s σ H Q I (p.pure m rfl)⟩
theorem mts_one {c : Expr} {ft : TF} (h : MT X Ω W c ft) : MTs X Ω W [c] ft := pts_one h
end
section
variable {X : Cx} {Ω : Om} {W : WX} {elt iter tg : Expr} {f : EF} {c : TF} {it : AF} {pos : Pos} {ifs : List Expr} {scope : Scope} {own : List (Str × Nat)} {gt : TG} {pf : PF} {vs : List Nat}
theorem lc_of {K : PySem.W.Frag} {σ : L2.St} {H : Hp} {Q : VK} (hp : PatS K Ω gt pf vs) (hv : ∀ i ∈ vs, i ∈ own.map (·.2)) (q : MLr K Ω W (eLc (own.map (·.2)) pf it c f) σ H Q) : tLc (lift K Ω (RIt K Ω) W it) gt (liftT K Ω W0 c) (liftE K Ω W0 f) (own.map (·.2)) σ H Q := by
  obtain ⟨Z, ι, M, σT, m, rv, p⟩ := q
  refine ⟨Z, ι, M, σT, m, rv, ?_⟩
  unfold eLc at p
  cases q0 : it σT M with
  | exc c t M1 => rw [q0] at p; exact p
  | err => rw [q0] at p; exact p
  | ok ts M1 =>
    rw [q0] at p
    intro ι1 H1 J m1 e1 q1 D nD
    have p : match (bif big ts.length then compL pf c f (wipeT σT (own.map (·.2))) ts [] M1 else .err) with
      | .ok ts M' => ∀ ι' H' p vs, H p = none → RM K Ω (p :: Z) ι' M' H' → p ∉ Z → Ext [] ι M H ι' M' H' → H' p = some (.lst vs) → Rs K Ω (p :: Z) ι' M' H' ts vs → Q (.ref p) H'
      | .exc c t M' => ∀ ι' H' dd v, RM K Ω Z ι' M' H' → Ext [] ι M H ι' M' H' → R K Ω Z ι' M' H' t v → H' dd = some (.xd [("value", v)]) → W (.ref (Ω.cls c)) (some dd) σ H'
      | .err => False := p
    cases zb : big ts.length with
    | false => rw [zb] at p; exact p.elim
    | true =>
    rw [zb] at p
    have hsz : ts.length ≤ 2000000 := of_decide_eq_true zb
    have hD : H D = none := by
      cases z : H D with
      | none => rfl
      | some o => exact absurd nD (e1.there D (by rw [z]; exact nofun))
    have dZ : D ∉ Z := m1.notZ nD
    have rv1 : RV K Ω Z ι1 M1 H1 σT σ := rv.ext e1.any
    -- the invariant
    refine ⟨fun i n H => n = ts.length - i ∧ i ≤ ts.length ∧ ∃ ι2 M2 acc ws, RM K Ω (D :: Z) ι2 M2 H ∧ Ext [D] ι1 M1 H1 ι2 M2 H ∧ H D = some (.lst ws) ∧ Rs K Ω (D :: Z) ι2 M2 H acc ws ∧ acc.length ≤ i ∧ (match compL pf c f (wipeT σT (own.map (·.2))) (ts.drop i) acc M2 with
      | .ok ts M' => ∀ ι' H' p vs, H1 p = none → RM K Ω (p :: Z) ι' M' H' → p ∉ Z → Ext [] ι1 M1 H1 ι' M' H' → H' p = some (.lst vs) → Rs K Ω (p :: Z) ι' M' H' ts vs → Q (.ref p) H'
      | _ => False), ⟨ts.length, by omega, Nat.zero_le _, ι1, M1, [], [], m1.layH nD, Ext.new nD, upd_same, .nil, Nat.le_refl _, ?_⟩, ?_⟩
    · generalize hr : compL pf c f (wipeT σT (own.map (·.2))) ts [] M1 = r at p
      rw [show ts.drop 0 = ts from rfl, hr]
      have nex : ∀ (l : List T) (acc : List T) (M0 : Mem) c' t' M', compL pf c f (wipeT σT (own.map (·.2))) l acc M0 ≠ .exc c' t' M' := by
        intro l
        induction l with
        | nil => intro acc M0 c' t' M' h; cases h
        | cons t l ih =>
          intro acc M0 c' t' M' h
          unfold compL at h
          split at h
          · cases h
          · split at h
            · split at h
              · exact ih _ _ _ _ _ h
              · cases h
            · exact ih _ _ _ _ _ h
            · cases h
      match r, p with
      | .ok ts' M', p =>
        exact fun ι' H' q vs hq mm hz ex hv rs => p ι' H' q vs (by
          cases z : H q with
          | none => rfl
          | some o => exact absurd hq (e1.there q (by rw [z]; exact nofun))) mm hz (e1.trans ex) hv rs
      | .exc c' t' M', p => exact absurd hr (nex _ _ _ _ _ _)
    · rintro i n H3 ⟨rfl, hi3, ι2, M2, acc, ws, m2, ex2, hD2, rs2, hacc, p2⟩
      obtain ⟨stop, go⟩ := q1 (D :: Z) ι2 M2 H3 m2 (ex2.to fun z h => by simp at h; simp [h]) fun z h => (List.mem_cons.mp h).elim (fun e => .inr (by rw [e]; exact nD)) .inl
      by_cases hlt : i < ts.length
      · have hd : ts.drop i = ts[i] :: ts.drop (i + 1) := List.drop_eq_getElem_cons hlt
        rw [hd] at p2
        obtain ⟨g1, y1⟩ := go i ts[i] (List.getElem?_eq_getElem hlt)
        refine .inr ⟨g1, fun H' => i + 1 ≤ ts.length ∧ ∃ ι2 M2 acc ws, RM K Ω (D :: Z) ι2 M2 H' ∧ Ext [D] ι1 M1 H1 ι2 M2 H' ∧ H' D = some (.lst ws) ∧ Rs K Ω (D :: Z) ι2 M2 H' acc ws ∧ acc.length ≤ i + 1 ∧ (match compL pf c f (wipeT σT (own.map (·.2))) (ts.drop (i + 1)) acc M2 with
          | .ok ts M' => ∀ ι' H' p vs, H1 p = none → RM K Ω (p :: Z) ι' M' H' → p ∉ Z → Ext [] ι1 M1 H1 ι' M' H' → H' p = some (.lst vs) → Rs K Ω (p :: Z) ι' M' H' ts vs → Q (.ref p) H'
          | _ => False), fun H' ⟨a, h⟩ => ⟨ts.length - (i + 1), by omega, rfl, a, h⟩, fun x H4 y => ?_⟩
        obtain ⟨m4, e4, r4⟩ := y1 x H4 y
        have ex4 : Ext [D] ι1 M1 H1 ι2 M2 H4 := ex2.trans e4.any
        have hD4 : H4 D = some (.lst ws) := (e4.froz D _ hD2 ⟨(m2.zin D (by simp)).2, by simp⟩).1
        have rv4 : RV K Ω (D :: Z) ι2 M2 H4 (wipeT σT (own.map (·.2))) (wipe σ (own.map (·.2))) := by
          have h0 : RV K Ω (D :: Z) ι1 M1 (upd H1 D (.lst [])) σT σ := (rv1.hide nD).ext (Ext.new nD)
          have h1 : RV K Ω (D :: Z) ι1 M1 H1 σT σ := rv1.hide nD
          exact (h1.ext (ex4.to fun z h => by simp at h; simp [h])).wipe _
        unfold compL at p2
        cases zp : pf ts[i] (wipeT σT (own.map (·.2))) M2 with
        | none => rw [zp] at p2; exact p2.elim
        | some σ1 =>
          rw [zp] at p2
          refine hp (D :: Z) ι2 M2 H4 _ _ ts[i] x σ1 _ m4 rv4 r4 zp fun σ5 rv5 w5 => ⟨(w5 _ hv).trans wipe_wipe, D :: Z, ι2, M2, σ1, m4, rv5, ?_⟩
          dsimp only at p2
          cases zc : c σ1 M2 with
          | err => rw [zc] at p2; exact p2.elim
          | exc _ _ _ => rw [zc] at p2; exact p2.elim
          | ok k M5 =>
            rw [zc] at p2
            intro ι5 H5 b m5 e5 hb
            cases hb
            have ex5 : Ext [D] ι1 M1 H1 ι5 M5 H5 := ex4.trans e5.any
            have hD5 : H5 D = some (.lst ws) := (e5.froz D _ hD4 ⟨(m4.zin D (by simp)).2, by simp⟩).1
            have rs5 : Rs K Ω (D :: Z) ι5 M5 H5 acc ws := (rs2.ext e4.any).ext e5.any
            cases k with
            | false =>
              rw [if_neg Bool.false_ne_true]
              exact ⟨hlt, ι5, M5, acc, ws, m5, ex5, hD5, rs5, by omega, p2⟩
            | true =>
              rw [if_pos rfl]
              refine ⟨D :: Z, ι5, M5, σ1, m5, rv5.ext e5.any, ?_⟩
              dsimp only at p2
              cases zf : f σ1 M5 with
              | err => rw [zf] at p2; exact p2.elim
              | exc _ _ _ => rw [zf] at p2; exact p2.elim
              | ok u M6 =>
                rw [zf] at p2
                intro ι6 H6 v6 m6 e6 r6
                have hD6 : H6 D = some (.lst ws) := (e6.froz D _ hD5 ⟨(m5.zin D (by simp)).2, by simp⟩).1
                have rs6 : Rs K Ω (D :: Z) ι6 M6 H6 acc ws := rs5.ext e6.any
                have et : Ext (D :: Z) ι6 M6 H6 ι6 M6 (upd H6 D (.lst (ws ++ [v6]))) := Ext.turn hD6 (by intro xs h; cases h) (by intro x y h; cases h)
                have et1 : Ext [D] ι6 M6 H6 ι6 M6 (upd H6 D (.lst (ws ++ [v6]))) := Ext.turn hD6 (by intro xs h; cases h) (by intro x y h; cases h)
                refine ⟨ws, hD6, ?_, hlt, ι6, M6, acc ++ [u], ws ++ [v6], m6.turn hD6 (by intro xs h; cases h) (by intro x y h; cases h), (ex5.trans e6.any).trans et1, upd_same, ?_, by simp; omega, p2⟩
                · rw [← rs6.length, sizeLine_eq]; omega
                · have ap : ∀ {ts : List T} {vs : List V} {t : T} {v : V}, Rs K Ω (D :: Z) ι6 M6 (upd H6 D (.lst (ws ++ [v6]))) ts vs → R K Ω (D :: Z) ι6 M6 (upd H6 D (.lst (ws ++ [v6]))) t v → Rs K Ω (D :: Z) ι6 M6 (upd H6 D (.lst (ws ++ [v6]))) (ts ++ [t]) (vs ++ [v]) := by
                    intro ts
                    induction ts with
                    | nil => intro vs t v h r; cases h; exact .cons r .nil
                    | cons a ts ih => intro vs t v h r; cases h with | cons h1 h2 => exact .cons h1 (ih h2 r)
                  exact ap (rs6.ext et) (r6.ext et)
      · have e : i = ts.length := by omega
        subst e
        rw [List.drop_length] at p2
        exact .inl ⟨stop, p2 ι2 H3 D ws nD m2 dZ (ex2.drop nD) hD2 rs2⟩
theorem ml_lc (hc : X.calm = true) (hN : X.N.Nodup) (hi : MI X Ω W tg iter it) (ok : BlkOk X.N X.env.scope scope own) (hp : PatS X.K Ω gt pf vs) (hv : ∀ i ∈ vs, i ∈ own.map (·.2))
    (hg : ∀ (s : Shared) (H : Hp) (C : Addr) (cl : List (Str × Addr)) (fp : List Addr), PG (X.blk s H scope (compEnvC scope cl C X.env) fp) tg gt)
    (ht : ∀ (s : Shared) (H : Hp) (C : Addr) (cl : List (Str × Addr)) (fp : List Addr), MTs (X.blk s H scope (compEnvC scope cl C X.env) fp) Ω W0 ifs c)
    (he : ∀ (s : Shared) (H : Hp) (C : Addr) (cl : List (Str × Addr)) (fp : List Addr), ME (X.blk s H scope (compEnvC scope cl C X.env) fp) Ω W0 elt f) (hs : ∀ x, foldedSetIterable iter X.env x = pure x := by intro _; rfl) :
    ML X Ω W (.ListComp elt [⟨tg, iter, ifs, 0⟩] scope pos) (eLc (own.map (·.2)) pf it c f) := L2PE.imp (pe_lc (tt := liftT X.K Ω W0 c) (te := liftE X.K Ω W0 f) hc hN hi ok hg ht he hs) fun σ H Q => lc_of hp hv
end
end Mi
namespace Mi
open PySem PySem.Spec PyProof.Rows L2

/-! ### a def as a function -/
abbrev FF := List T → Mem → Res T
/-- a body run at its arguments; n names in all -/
def runB (n : Nat) (b : SF) : FF := fun ts M => match b (ts.map some ++ List.replicate (n - ts.length) none) M with
  | some (.nx _, M') => .ok .non M'
  | some (.rt t, M') => .ok t M'
  | some (.ex _ c t, M') => .exc c t M'
  | _ => .err
/-- what it promises -/
def spF (K : PySem.W.Frag) (Ω : Om) (n : Nat) (F : FF) : Sp := fun vs H Q E => ∃ Z ι M ts, RM K Ω Z ι M H ∧ Rs K Ω Z ι M H ts vs ∧ ts.length = n ∧ Post K Ω (R K Ω) E Z ι M H Q (F ts M)
theorem rv_start {K : PySem.W.Frag} {Ω : Om} {Z ι : List Addr} {M : Mem} {H : Hp} {ts : List T} {vs : List V} {N : List Str} (r : Rs K Ω Z ι M H ts vs) : RV K Ω Z ι M H (ts.map some ++ List.replicate (N.length - ts.length) none) (L2.start N vs) := by
  have hl := r.length
  refine ⟨by unfold L2.start; simp [hl], fun i t h => ?_⟩
  unfold L2.start
  by_cases hi : i < ts.length
  · rw [List.getElem?_append_left (by simpa using hi), List.getElem?_map] at h
    cases e : ts[i]? with
    | none => rw [e] at h; cases h
    | some u =>
      rw [e] at h
      cases h
      obtain ⟨v, hv, rv⟩ := r.get e
      exact ⟨v, by rw [List.getElem?_append_left (by simp; omega), List.getElem?_map, hv]; rfl, rv⟩
  · rw [List.getElem?_append_right (by simpa using hi), List.getElem?_replicate] at h
    split at h <;> cases h

section
variable {P : Program} {w : World} {K : PySem.W.Frag} {mg : Str → Option Value} {base : Heap} {Ω : Om}
/-- the context of a def's body -/
abbrev cxD (P : Program) (w : World) (K : PySem.W.Frag) (mg : Str → Option Value) (base : Heap) (N : List Str) (qual : Str) (sc : Scope) (f : Addr) (cdv : Value) (A : Around) (outer : List Env) (s : Shared) (H : Hp) (E : XK) : Cx := cxOf (L2.CX P w) P w K mg base N qual sc f cdv A outer s H E
/-- a body keeps to its function, in any call of it with room for k more -/
def BodyS (P : Program) (w : World) (K : PySem.W.Frag) (mg : Str → Option Value) (base : Heap) (Ω : Om) (k : Nat) (N : List Str) (sc : Scope) (body : List Stmt) (b : SF) : Prop :=
  ∀ (qual : Str) (f : Addr) (cdv : Value) (A : Around) (outer : List Env) (s : Shared) (H : Hp) (E : XK), Room k (A.deeper (envOfC qual sc s.heap.objs.size f cdv)) → MSs (cxD P w K mg base N qual sc f cdv A outer s H E) Ω (fun c d _ H' => E c d H') body b
theorem body_ok {qual : Str} {sc : Scope} {f : Addr} {cdv : Value} {A : Around} {outer : List Env} {s : Shared} {N ps : List Str} {H : Hp} {E : XK} {body : List Stmt} {b : SF} {vs : List V} {Q : VK} {k : Nat}
    (h : MSs (cxD P w K mg base N qual sc f cdv A outer s H E) Ω (fun c d _ H' => E c d H') body b) (q : spF K Ω ps.length (runB N.length b) vs H Q E) :
    ∃ t, PSs (cxD P w K mg base N qual sc f cdv A outer s H E) body t ∧ t { nx := fun _ H' => Q .non H', rt := Q } (L2.start N vs) H := by
  refine ⟨_, h, ?_⟩
  obtain ⟨Z, ι, M, ts, m, rs, hl, p⟩ := q
  refine ⟨Z, ι, M, _, m, rv_start rs, ?_⟩
  unfold runB at p
  generalize b (ts.map some ++ List.replicate (N.length - ts.length) none) M = r at p ⊢
  match r, p with
  | some (.nx _, M'), p => exact fun ι' σ' H' m' e rv => p ι' H' .non m' e .non
  | some (.rt t, M'), p => exact p
  | some (.ex _ c t, M'), p => exact fun ι' σ' H' dd v m' e rv rt x => p ι' H' dd v m' e rt x
  | some (.bk _, _), p => exact p.elim
  | some (.ct _, _), p => exact p.elim
  | none, p => exact p.elim
/-- a def that stands in the module's names, with the function that it keeps to -/
structure FnG (P : Program) (w : World) (K : PySem.W.Frag) (mg : Str → Option Value) (base : Heap) (Ω : Om) (x : Str) (k n : Nat) (dts : List T) (F : FF) : Prop where
  ex : ∃ (f : Addr) (fd : FuncData) (ps : List Str), mg x = some (.ref f) ∧ PySem.W.keepIn K (.ref f) = true ∧ ps.length = n ∧ FnOk P w K mg base (L2.CX P w) k f fd ps (spF K Ω n F) ∧
    ∀ j ≤ dts.length, ∃ (ds : List Value) (dvs : List V), Binds K fd ps ds ∧ Vals dvs ds ∧ ∀ Z ι M H, Rs K Ω Z ι M H (dts.drop j) dvs
/-- a method of a class: self is its first argument -/
structure MeG (P : Program) (w : World) (K : PySem.W.Frag) (mg : Str → Option Value) (base : Heap) (Ω : Om) (c : Nat) (m : Str) (k n : Nat) (dts : List T) (F : FF) : Prop where
  ex : ∃ (f : Addr) (fd : FuncData) (ps : List Str), Cls K (Ω.cls c) ∧ Meth K (Ω.cls c) m f ∧ m ∉ Ω.fld c ∧ ps.length = n ∧ FnOk P w K mg base (L2.CX P w) k f fd ps (spF K Ω n F) ∧
    ∀ j ≤ dts.length, ∃ (ds : List Value) (dvs : List V), Binds K fd ps ds ∧ Vals dvs ds ∧ ∀ Z ι M H, Rs K Ω Z ι M H (dts.drop j) dvs
/-- a property -/
structure PrG (P : Program) (w : World) (K : PySem.W.Frag) (mg : Str → Option Value) (base : Heap) (Ω : Om) (c : Nat) (m : Str) (k : Nat) (F : FF) : Prop where
  ex : ∃ (f p : Addr) (fd : FuncData) (ps : List Str), Cls K (Ω.cls c) ∧ PropOf K (Ω.cls c) m p f ∧ ps.length = 1 ∧ FnOk P w K mg base (L2.CX P w) k f fd ps (spF K Ω 1 F) ∧ Binds K fd ps []
/-- a class that is made by its __init__ -/
structure MkG (P : Program) (w : World) (K : PySem.W.Frag) (mg : Str → Option Value) (base : Heap) (Ω : Om) (x : Str) (c k n : Nat) (F : FF) : Prop where
  ex : ∃ (f : Addr) (fd : FuncData) (ps : List Str), mg x = some (.ref (Ω.cls c)) ∧ Mk K (Ω.cls c) f ∧ ps.length = n ∧ FnOk P w K mg base (L2.CX P w) k f fd ps (spF K Ω n F) ∧ Binds K fd ps []
end

section
variable {X : Cx} {Ω : Om} {W : WX} {e o : Expr} {es : List Expr} {fo : EF} {fa : AF} {pos p apos : Pos} {F : FF} {k n j c : Nat} {dts : List T} {x : Str}
theorem Rs.append {K : PySem.W.Frag} {Z ι : List Addr} {M : Mem} {H : Hp} : ∀ {ts us : List T} {vs ws : List V}, Rs K Ω Z ι M H ts vs → Rs K Ω Z ι M H us ws → Rs K Ω Z ι M H (ts ++ us) (vs ++ ws)
  | _, _, _, _, .nil, s => s
  | _, _, _, _, .cons r t, s => .cons r (Rs.append t s)
/-- a call by name: the written arguments, then the last defaults -/
def eCall (n : Nat) (F : FF) (ds : List T) (fa : AF) : EF := fun σ M => (fa σ M).bind fun ts M1 => bif (ts ++ ds).length == n then F (ts ++ ds) M1 else .err
theorem call_of {sp : Sp} {dvs : List V} {E : L2.St → XK} {ds : List T} (hE : ∀ σ, E σ = fun c d H' => W c d σ H') (hsp : ∀ vs H Q E, spF X.K Ω n F vs H Q E → sp vs H Q E) (hd : ∀ Z ι M H, Rs X.K Ω Z ι M H ds dvs)
    {σ : L2.St} {H : Hp} {Q : VK} (q : liftE X.K Ω W (eCall n F ds fa) σ H Q) : tCallSD sp dvs E (liftA X.K Ω W fa) σ H Q := by
  obtain ⟨Z, ι, M, σT, m, rv, q⟩ := q
  refine ⟨Z, ι, M, σT, m, rv, Post.bind q fun ι1 M1 H1 ts vs m1 e1 q1 p1 => hsp _ _ _ _ ?_⟩
  cases z : (ts ++ ds).length == n with
  | false => rw [z] at p1; exact p1.elim
  | true =>
    rw [z] at p1
    refine ⟨Z, ι1, M1, ts ++ ds, m1, q1.append (hd Z ι1 M1 H1), beq_iff_eq.mp z, ?_⟩
    rw [hE]
    exact p1
theorem passAtW {X : Cx} {W : WX} (tk : Takes X W) (σ : L2.St) : PassesAt (L2.CX X.prog X.w) X σ (fun c d H' => W c d σ H') := passAt tk σ
theorem me_call (j : Nat) (G : FnG X.prog X.w X.K X.mg X.base Ω x k n dts F) (hr : Room k X.A) (tk : Takes X W) (hg : Gl X x) (ha : MA X Ω W (e :: es) fa) (hj : j ≤ dts.length := by decide) (hdb : (x == ("__debug__" : Str)) = false := by decide)
    (he : starEach (e :: es) X.env = (false, eval e X.env) :: starEach es X.env := by rfl) (hpl : (backTo pos (starEach es X.env)).any (·.1) = false := by rfl) :
    ME X Ω W (.Call (.Name x p) (e :: es) [] pos) (eCall n F (dts.drop j) fa) := by
  obtain ⟨f, fd, ps, gm, kp, hl, ok, bd⟩ := G.ex
  obtain ⟨ds, dvs, hb, hv, hd⟩ := bd j hj
  exact L2PE.imp (pe_callSD ok hr hg gm kp hb hv (passAtW tk) ha hdb he hpl) fun σ H Q q => call_of (fun _ => rfl) (fun _ _ _ _ h => h) hd q

theorem me_call0 (j : Nat) (G : FnG X.prog X.w X.K X.mg X.base Ω x k n dts F) (hr : Room k X.A) (hg : Gl X x) (hj : j ≤ dts.length := by decide) (hdb : (x == ("__debug__" : Str)) = false := by decide) :
    ME X Ω (fun c d _ H' => False) (.Call (.Name x p) [] [] pos) (eCall n F (dts.drop j) aNil) := by
  obtain ⟨f, fd, ps, gm, kp, hl, ok, bd⟩ := G.ex
  obtain ⟨ds, dvs, hb, hv, hd⟩ := bd j hj
  refine L2PE.imp (pe_call0 (E := E0) ok hr hg gm kp hb hv passL hdb) fun σ H Q q => ?_
  obtain ⟨Z, ι, M, σT, m, rv, q⟩ := q
  have q : Post X.K Ω (R X.K Ω) (fun c d H' => False) Z ι M H Q (bif ([] ++ dts.drop j).length == n then F ([] ++ dts.drop j) M else .err) := q
  cases z : ([] ++ dts.drop j).length == n with
  | false => rw [z] at q; exact q.elim
  | true =>
    rw [z] at q
    exact ⟨Z, ι, M, [] ++ dts.drop j, m, Rs.append .nil (hd Z ι M H), beq_iff_eq.mp z, q⟩
/-! ### instances -/
def isObj (c : Nat) (M : Mem) : T → Bool
  | .obj c' _ => c' == c
  | .loc n => match M[n]? with
    | some (.obj c' _) => c' == c
    | _ => false
  | _ => false
def objF (c : Nat) (M : Mem) : T → Option (List T)
  | .obj c' fs => bif c' == c then some fs else none
  | .loc n => match M[n]? with
    | some (.obj c' fs) => bif c' == c then some fs else none
    | _ => none
  | _ => none
theorem objF_ok {K : PySem.W.Frag} {Z ι : List Addr} {M : Mem} {H : Hp} {t : T} {v : V} {fs : List T} (m : RM K Ω Z ι M H) (r : R K Ω Z ι M H t v) (h : objF c M t = some fs) :
    ∃ a dx ws, v = .ref a ∧ H a = some (.ins (Ω.cls c) dx ws) ∧ ws.map (·.1) = (Ω.fld c).take ws.length ∧ Rs K Ω Z ι M H fs (ws.map (·.2)) := by
  cases r with
  | obj ha hn hk rs =>
    rename_i c' fs' a dx ws
    have h : (bif c' == c then some fs' else none) = some fs := h
    cases z : c' == c with
    | false => rw [z] at h; cases h
    | true =>
      rw [z] at h
      cases h
      have e := beq_iff_eq.mp z
      subst e
      exact ⟨a, dx, ws, rfl, ha, hk, rs⟩
  | loc q =>
    rename_i i a
    obtain ⟨o, e, ro⟩ := m.at q
    have h : (match M[i]? with | some (MO.obj c' fs) => bif c' == c then some fs else none | _ => none) = some fs := h
    rw [e] at h
    cases ro with
    | obj ha hk rs =>
      rename_i c' fs' dx ws
      have h : (bif c' == c then some fs' else none) = some fs := h
      cases z : c' == c with
      | false => rw [z] at h; cases h
      | true =>
        rw [z] at h
        cases h
        have e := beq_iff_eq.mp z
        subst e
        exact ⟨a, dx, ws, rfl, ha, hk, rs⟩
    | gone _ => cases h
    | lst _ _ => cases h
    | dK _ _ _ => cases h
    | dT _ _ _ => cases h
  | _ => cases h
theorem lookup_none {α : Type} {m : Str} : ∀ {ws : List (Str × α)}, m ∉ ws.map (·.1) → ws.lookup m = none
  | [], _ => rfl
  | (a, b) :: r, h => by
    rw [List.map_cons, List.mem_cons, not_or] at h
    rw [List.lookup_cons, beq_eq_false_iff_ne.mpr h.1]
    exact lookup_none h.2
def eMeth (c n : Nat) (F : FF) (ds : List T) (fo : EF) (fa : AF) : EF := fun σ M => (fo σ M).bind fun o M1 => match objF c M1 o with
  | none => .err
  | some _ => (fa σ M1).bind fun ts M2 => bif (o :: (ts ++ ds)).length == n then F (o :: (ts ++ ds)) M2 else .err
theorem me_meth {E : XK} {m : Str} {pl : Sem Bool} (j : Nat) (G : MeG X.prog X.w X.K X.mg X.base Ω c m k n dts F) (hr : Room k X.A) (tk : Takes X (fun c d _ H' => E c d H')) (ho : ME X Ω (fun c d _ H' => E c d H') o fo) (ha : MA X Ω (fun c d _ H' => E c d H') (e :: es) fa) (hj : j ≤ dts.length := by decide)
    (hst : starEach (e :: es) X.env = (false, eval e X.env) :: starEach es X.env := by rfl) (hpl : (backTo pos (starEach es X.env)).any (·.1) = false := by rfl)
    (ht : eval (.Call (.Attribute o m apos) (e :: es) [] pos) X.env = (do
      let ov ← eval o X.env
      standAt apos.atName
      let (f, first) ← holding [ov] (getMethod ov m pl)
      callWith pos f first (backTo pos (starEach (e :: es) X.env)) (backToKw pos (keywordEach [] X.env))) := by rfl) :
    ME X Ω (fun c d _ H' => E c d H') (.Call (.Attribute o m apos) (e :: es) [] pos) (eMeth c n F (dts.drop j) fo fa) := by
  obtain ⟨f, fd, ps, hc, hm, nf, hl, ok, bd⟩ := G.ex
  obtain ⟨ds, dvs, hb, hv, hd⟩ := bd j hj
  refine L2PE.imp (pe_meth (pl := pl) ho hc hm ok hr hb hv (passes_call tk fun _ _ _ _ h => h) ha hst hpl ht) fun σ H Q q => ?_
  obtain ⟨Z, ι, M, σT, m0, rv, q⟩ := q
  refine ⟨Z, ι, M, σT, m0, rv, Post.bind q fun ι1 M1 H1 t v m1 e1 q1 p1 => ?_⟩
  cases z : objF c M1 t with
  | none => rw [z] at p1; exact p1.elim
  | some fs =>
    rw [z] at p1
    obtain ⟨a, dx, ws, rfl, ha2, hk, rs⟩ := objF_ok m1 q1 z
    refine ⟨a, dx, ws, rfl, ha2, lookup_none (fun h => nf ?_), Z, ι1, M1, σT, m1, rv.ext e1.any, Post.bind p1 fun ι2 M2 H2 ts vs m2 e2 q2 p2 => ?_⟩
    · rw [hk] at h
      exact List.mem_of_mem_take h
    · cases y : (t :: (ts ++ dts.drop j)).length == n with
      | false => rw [y] at p2; exact p2.elim
      | true =>
        rw [y] at p2
        exact ⟨Z, ι2, M2, t :: (ts ++ dts.drop j), m2, .cons (q1.ext e2.any) (q2.append (hd Z ι2 M2 H2)), beq_iff_eq.mp y, p2⟩
theorem me_meth0 {E : XK} {m : Str} {pl : Sem Bool} (j : Nat) (G : MeG X.prog X.w X.K X.mg X.base Ω c m k n dts F) (hr : Room k X.A) (tk : Takes X (fun c d _ H' => E c d H')) (ho : ME X Ω (fun c d _ H' => E c d H') o fo) (hj : j ≤ dts.length := by decide)
    (ht : eval (.Call (.Attribute o m apos) [] [] pos) X.env = (do
      let ov ← eval o X.env
      standAt apos.atName
      let (f, first) ← holding [ov] (getMethod ov m pl)
      callWith pos f first (backTo pos (starEach [] X.env)) (backToKw pos (keywordEach [] X.env))) := by rfl) :
    ME X Ω (fun c d _ H' => E c d H') (.Call (.Attribute o m apos) [] [] pos) (eMeth c n F (dts.drop j) fo aNil) := by
  obtain ⟨f, fd, ps, hc, hm, nf, hl, ok, bd⟩ := G.ex
  obtain ⟨ds, dvs, hb, hv, hd⟩ := bd j hj
  refine L2PE.imp (pe_meth0 (pl := pl) ho hc hm ok hr hb hv (passes_call tk fun _ _ _ _ h => h) ht) fun σ H Q q => ?_
  obtain ⟨Z, ι, M, σT, m0, rv, q⟩ := q
  refine ⟨Z, ι, M, σT, m0, rv, Post.bind q fun ι1 M1 H1 t v m1 e1 q1 p1 => ?_⟩
  cases z : objF c M1 t with
  | none => rw [z] at p1; exact p1.elim
  | some fs =>
    rw [z] at p1
    obtain ⟨a, dx, ws, rfl, ha2, hk, rs⟩ := objF_ok m1 q1 z
    refine ⟨a, dx, ws, rfl, ha2, lookup_none (fun h => nf ?_), ?_⟩
    · rw [hk] at h
      exact List.mem_of_mem_take h
    · have p2 : Post X.K Ω (R X.K Ω) E Z ι1 M1 H1 Q (bif (t :: ([] ++ dts.drop j)).length == n then F (t :: ([] ++ dts.drop j)) M1 else .err) := p1
      cases y : (t :: ([] ++ dts.drop j)).length == n with
      | false => rw [y] at p2; exact p2.elim
      | true =>
        rw [y] at p2
        exact ⟨Z, ι1, M1, t :: ([] ++ dts.drop j), m1, .cons q1 (Rs.append .nil (hd Z ι1 M1 H1)), beq_iff_eq.mp y, p2⟩
/-- o.f, a property; no exception leaves it -/
def eProp (c : Nat) (F : FF) (fo : EF) : EF := fun σ M => (fo σ M).bind fun o M1 => match objF c M1 o with
  | none => .err
  | some _ => (F [o] M1).calm
theorem me_prop {m : Str} (G : PrG X.prog X.w X.K X.mg X.base Ω c m k F) (hr : Room (k + 1) X.A) (ho : ME X Ω W o fo) (hab : attributeBase o m X.env (eval o X.env) = eval o X.env := by rfl) : ME X Ω W (.Attribute o m pos) (eProp c F fo) := by
  obtain ⟨f, p, fd, ps, hc, hp, hl, ok, hb⟩ := G.ex
  refine L2PE.imp (pe_prop (E := E0) ho hc hp ok hr hb .nil passL hab) fun σ H Q q => ?_
  obtain ⟨Z, ι, M, σT, m0, rv, q⟩ := q
  refine ⟨Z, ι, M, σT, m0, rv, Post.bind q fun ι1 M1 H1 t v m1 e1 q1 p1 => ?_⟩
  cases z : objF c M1 t with
  | none => rw [z] at p1; exact p1.elim
  | some fs =>
    rw [z] at p1
    obtain ⟨a, dx, ws, rfl, ha2, hk, rs⟩ := objF_ok m1 q1 z
    refine ⟨a, dx, ws, rfl, ha2, Z, ι1, M1, [t], m1, .cons q1 .nil, rfl, ?_⟩
    have p1 : Post X.K Ω (R X.K Ω) (fun c d H' => W c d σ H') Z ι1 M1 H1 Q (F [t] M1).calm := p1
    generalize F [t] M1 = r at p1 ⊢
    cases r with
    | ok u M2 => exact p1
    | exc _ _ _ => exact p1.elim
    | err => exact p1.elim
/-- o.f, an attribute of the instance; i its place -/
def eFld (c i : Nat) (fo : EF) : EF := fun σ M => (fo σ M).bind fun o M1 => match objF c M1 o with
  | none => .err
  | some fs => .of fs[i]? M1
theorem nodup_get {f : Str} {l : List Str} {i j : Nat} (h : l.idxOf? f = some i) (hj : l[j]? = some f) : i ≤ j := by
  have := List.idxOf?_eq_some_iff.mp h
  by_cases q : i ≤ j
  · exact q
  · obtain ⟨hl, he⟩ := List.getElem?_eq_some_iff.mp hj
    exact absurd he (this.2.2 j (by omega))
theorem lookup_at {α : Type} {f : Str} : ∀ {ws : List (Str × α)} {i : Nat} {v : α}, (ws.map (·.1))[i]? = some f → (∀ j < i, (ws.map (·.1))[j]? ≠ some f) → (ws.map (·.2))[i]? = some v → ws.lookup f = some v
  | [], _, _, h, _, _ => by simp at h
  | (a, b) :: r, 0, v, h, _, hv => by
    simp at h hv
    rw [List.lookup_cons, h, beq_self_eq_true, hv]
  | (a, b) :: r, i + 1, v, h, hn, hv => by
    have ne : f ≠ a := fun e => hn 0 (by omega) (by simp [e])
    rw [List.lookup_cons, beq_eq_false_iff_ne.mpr ne]
    exact lookup_at (i := i) (by simpa using h) (fun j hj => by have := hn (j + 1) (by omega); simpa using this) (by simpa using hv)
theorem me_fld {f : Str} {i : Nat} (hc : Cls X.K (Ω.cls c)) (hn : NoAttr X.K (Ω.cls c) f) (hi : (Ω.fld c)[i]? = some f) (hu : ∀ j < i, (Ω.fld c)[j]? ≠ some f) (ho : ME X Ω W o fo) (hab : attributeBase o f X.env (eval o X.env) = eval o X.env := by rfl) : ME X Ω W (.Attribute o f pos) (eFld c i fo) := by
  refine L2PE.imp (pe_fld ho hab) fun σ H Q ⟨Z, ι, M, σT, m0, rv, q⟩ => ⟨Z, ι, M, σT, m0, rv, Post.bind q fun ι1 M1 H1 t v m1 e1 q1 p1 => ?_⟩
  cases z : objF c M1 t with
  | none => rw [z] at p1; exact p1.elim
  | some fs =>
    rw [z] at p1
    obtain ⟨a, dx, ws, rfl, ha2, hk, rs⟩ := objF_ok m1 q1 z
    obtain ⟨u, hu1, p1⟩ := Post.of p1
    obtain ⟨x, hx, rx⟩ := rs.get hu1
    have hl : i < ws.length := by
      have := (List.getElem?_eq_some_iff.mp hx).1
      simpa using this
    refine ⟨a, _, dx, ws, x, rfl, ha2, hc, hn, lookup_at ?_ (fun j hj => ?_) hx, p1.pure m1 rx⟩
    · rw [hk, List.getElem?_take_of_lt hl]
      exact hi
    · rw [hk, List.getElem?_take_of_lt (by omega)]
      exact hu j hj
/-- o.f = e, o a mutable instance -/
def setAt (ts : List T) (i : Nat) (t : T) : Option (List T) := bif decide (i < ts.length) then some (ts.set i t) else bif ts.length == i then some (ts ++ [t]) else none
def sFldT (c i : Nat) (f fo : EF) : SF := fun σ M => (f σ M).go σ fun t M1 => (fo σ M1).go σ fun o M2 => match o with
  | .loc n => match M2[n]? with
    | some (.obj c' fs) => bif c' == c then (match setAt fs i t with
      | some fs' => some (.nx σ, M2.set n (.obj c fs'))
      | none => none) else none
    | _ => none
  | _ => none
theorem putF_at {f : Str} {v : V} : ∀ {ws : List (Str × V)} {i : Nat}, (ws.map (·.1))[i]? = some f → (∀ j < i, (ws.map (·.1))[j]? ≠ some f) → (putF f v ws).map (·.1) = ws.map (·.1) ∧ (putF f v ws).map (·.2) = (ws.map (·.2)).set i v
  | [], _, h, _ => by simp at h
  | (a, b) :: r, 0, h, _ => by
    simp at h
    subst h
    simp [putF]
  | (a, b) :: r, i + 1, h, hn => by
    have ne : a ≠ f := fun e => hn 0 (by omega) (by simp [e])
    obtain ⟨h1, h2⟩ := putF_at (f := f) (v := v) (ws := r) (i := i) (by simpa using h) (fun j hj => by have := hn (j + 1) (by omega); simpa using this)
    have e : putF f v ((a, b) :: r) = (a, b) :: putF f v r := by
      simp [putF, ne]
    rw [e]
    simp [h1, h2]
theorem putF_new {f : Str} {v : V} : ∀ {ws : List (Str × V)}, f ∉ ws.map (·.1) → putF f v ws = ws ++ [(f, v)]
  | [], _ => rfl
  | (a, b) :: r, h => by
    rw [List.map_cons, List.mem_cons, not_or] at h
    have e : putF f v ((a, b) :: r) = (a, b) :: putF f v r := by
      simp [putF, Ne.symm h.1]
    rw [e, putF_new h.2]
    rfl
theorem Rs.setI {K : PySem.W.Frag} {Z ι : List Addr} {M : Mem} {H : Hp} {t : T} {v : V} (r : R K Ω Z ι M H t v) : ∀ {ts : List T} {vs : List V} (i : Nat), Rs K Ω Z ι M H ts vs → Rs K Ω Z ι M H (ts.set i t) (vs.set i v)
  | _, _, _, .nil => .nil
  | _, _, 0, .cons _ q => .cons r q
  | _, _, i + 1, .cons p q => .cons p (Rs.setI r i q)
theorem ms_fld {f : Str} {i : Nat} {fv : EF} {value : Expr} {pos' : Pos} (hc : Cls X.K (Ω.cls c)) (hn : NoAttr X.K (Ω.cls c) f) (hi : (Ω.fld c)[i]? = some f) (hu : ∀ j < i, (Ω.fld c)[j]? ≠ some f) (hfew : (Ω.fld c).length < 1000) (ho : ME X Ω W o fo) (hv : ME X Ω W value fv)
    (hs : swapsWith value (some (.Attribute o f pos')) pos.line X.env = pure false := by rfl) : MS X Ω W (.Assign [.Attribute o f pos'] value pos) (sFldT c i fv fo) := by
  refine L2PS.imp (ps_fld ho hv hs) fun D σ H ⟨Z, ι, M, σT, m0, rv, q⟩ => ⟨Z, ι, M, σT, m0, rv, PostS.go q rv fun ι1 M1 H1 t v m1 e1 rv1 q1 p1 => ⟨Z, ι1, M1, σT, m1, rv1, PostS.go p1 rv1 fun ι2 M2 H2 u w m2 e2 rv2 q2 p2 => ?_⟩⟩
  match u, q2, p2 with
  | .loc n, .loc hn2, p2 =>
    rename_i a
    obtain ⟨ob, eo, ro⟩ := m2.at hn2
    have p2 : PostS X.K Ω W Z ι2 M2 H2 D (match M2[n]? with
      | some (MO.obj c' fs) => bif c' == c then (match setAt fs i t with
        | some fs' => some (Fl.nx σT, M2.set n (.obj c fs'))
        | none => none) else none
      | _ => none) := p2
    rw [eo] at p2
    cases ro with
    | obj ha hk rs =>
      rename_i c' fs dx ws
      dsimp only at p2
      cases z : c' == c with
      | false => rw [z] at p2; exact p2.elim
      | true =>
        rw [z] at p2
        have ec := beq_iff_eq.mp z
        subst ec
        dsimp only [cond_true] at p2
        have hlen : fs.length = ws.length := by rw [rs.length]; simp
        have few : ws.length < 1000 := by
          have := congrArg List.length hk
          rw [List.length_map, List.length_take] at this
          omega
        refine ⟨a, _, dx, ws, rfl, ha, hc, hn, few, ?_⟩
        have ev : Ext [] ι2 M2 H2 ι2 (M2.set n (.obj c' (fs ++ [t]))) H2 → True := fun _ => trivial
        unfold setAt at p2
        have t1 : ∀ xs, HO.ins (Ω.cls c') dx ws ≠ .tup xs := by intro xs h; cases h
        have t2 : ∀ x y, HO.ins (Ω.cls c') dx ws ≠ .frz x y := by intro x y h; cases h
        by_cases lt : i < fs.length
        · rw [decide_eq_true lt] at p2
          have key : (ws.map (·.1))[i]? = some f := by rw [hk, List.getElem?_take_of_lt (by omega)]; exact hi
          have first : ∀ j < i, (ws.map (·.1))[j]? ≠ some f := fun j hj => by rw [hk, List.getElem?_take_of_lt (by omega)]; exact hu j hj
          obtain ⟨k1, k2⟩ := putF_at (v := v) key first
          have kl : (putF f v ws).length = ws.length := by have := congrArg List.length k1; simpa using this
          refine p2 ι2 σ _ (m2.write hn2 eo (by intro h; cases h) ha t1 t2 fun ex => .obj upd_same (by rw [k1, kl]; exact hk) ?_) (Ext.write hn2 eo (by intro h; cases h) ha t1 t2) (rv2.ext (Ext.write hn2 eo (by intro h; cases h) ha t1 t2))
          rw [k2]
          exact Rs.setI ((q1.ext e2.any).ext ex) i (rs.ext ex)
        · rw [decide_eq_false lt] at p2
          cases y : fs.length == i with
          | false => rw [y] at p2; exact p2.elim
          | true =>
            rw [y] at p2
            have ei : fs.length = i := beq_iff_eq.mp y
            have fresh : f ∉ ws.map (·.1) := fun h => by
              obtain ⟨j, hj, ej⟩ := List.getElem_of_mem h
              have hj' : j < ws.length := by simpa using hj
              have := hu j (by omega)
              apply this
              have e3 : (ws.map (·.1))[j]? = some f := by rw [List.getElem?_eq_getElem hj, ej]
              rw [hk, List.getElem?_take_of_lt hj'] at e3
              exact e3
            rw [putF_new fresh]
            refine p2 ι2 σ _ (m2.write hn2 eo (by intro h; cases h) ha t1 t2 fun ex => .obj upd_same ?_ ?_) (Ext.write hn2 eo (by intro h; cases h) ha t1 t2) (rv2.ext (Ext.write hn2 eo (by intro h; cases h) ha t1 t2))
            · rw [List.map_append, hk, List.length_append]
              have : i = ws.length := by omega
              rw [List.length_singleton, List.take_add_one, ← this, hi]
              rfl
            · rw [List.map_append]
              exact Rs.append (rs.ext ex) (.cons ((q1.ext e2.any).ext ex) .nil)
    | gone _ => exact p2.elim
    | lst _ _ => exact p2.elim
    | dK _ _ _ => exact p2.elim
    | dT _ _ _ => exact p2.elim
  | .non, _, p2 => exact p2.elim
  | .bl _, _, p2 => exact p2.elim
  | .int _, _, p2 => exact p2.elim
  | .str _, _, p2 => exact p2.elim
  | .tup _, _, p2 => exact p2.elim
  | .ktup _, _, p2 => exact p2.elim
  | .klst _, _, p2 => exact p2.elim
  | .lst _, _, p2 => exact p2.elim
  | .dct _ _, _, p2 => exact p2.elim
  | .obj _ _, _, p2 => exact p2.elim
/-- C(..): a new instance, mutable within its __init__; fz: it stands still from then on -/
def fin (fz : Bool) (c i : Nat) (M : Mem) : Option (T × Mem) := bif fz then (match M[i]? with
  | some (.obj c' fs) => bif c' == c then some (.obj c fs, M.set i .gone) else none
  | _ => none) else some (.loc i, M)
def eMake (fz : Bool) (c n : Nat) (F : FF) (fa : AF) : EF := fun σ M => (fa σ M).bind fun ts M1 => bif (T.loc M1.length :: ts).length == n then (F (.loc M1.length :: ts) (M1 ++ [.obj c []])).bind fun t M2 => match t with
    | .non => (match fin fz c M1.length M2 with
      | some (u, M3) => .ok u M3
      | none => .err)
    | _ => .err
  else .err
theorem make_of {E : XK} {fz : Bool} {Z ι : List Addr} {M : Mem} {H : Hp} {ts : List T} {vs : List V} {Q : VK} (m : RM X.K Ω Z ι M H) (rs : Rs X.K Ω Z ι M H ts vs)
    (q : Post X.K Ω (R X.K Ω) E Z ι M H Q (bif (T.loc M.length :: ts).length == n then (F (.loc M.length :: ts) (M ++ [.obj c []])).bind fun t M2 => match t with
    | .non => (match fin fz c M.length M2 with
      | some (u, M3) => .ok u M3
      | none => .err)
    | _ => .err
  else .err)) {x dx : Addr} (hx : H x = none) (hdx : H dx = none) (ne : dx ≠ x) : spF X.K Ω n F (.ref x :: (vs ++ [])) (upd (upd H dx (.own x)) x (.ins (Ω.cls c) dx [])) (fun v H2 => v = .non ∧ Q (.ref x) H2) E := by
  cases z : (T.loc M.length :: ts).length == n with
  | false => rw [z] at q; exact q.elim
  | true =>
    rw [z] at q
    have hx1 : upd H dx (.own x) x = none := by rw [upd_ne (Ne.symm ne)]; exact hx
    have e1 : Ext [] ι M H ι M (upd H dx (.own x)) := Ext.new hdx
    have e2 : Ext [] ι M (upd H dx (.own x)) ι M (upd (upd H dx (.own x)) x (.ins (Ω.cls c) dx [])) := Ext.new hx1
    have m1 : RM X.K Ω Z ι M (upd H dx (.own x)) := m.lay hdx
    have m2 : RM X.K Ω (x :: Z) ι M (upd (upd H dx (.own x)) x (.ins (Ω.cls c) dx [])) := m1.layH hx1
    have e3 : Ext [x] ι M (upd (upd H dx (.own x)) x (.ins (Ω.cls c) dx [])) (ι ++ [x]) (M ++ [.obj c []]) (upd (upd H dx (.own x)) x (.ins (Ω.cls c) dx [])) := Ext.push m.len
    have e4 : Ext [] ι M H (ι ++ [x]) (M ++ [.obj c []]) (upd (upd H dx (.own x)) x (.ins (Ω.cls c) dx [])) := ((e1.trans e2).any.trans e3).drop hx
    have m3 : RM X.K Ω Z (ι ++ [x]) (M ++ [.obj c []]) (upd (upd H dx (.own x)) x (.ins (Ω.cls c) dx [])) := m2.push (m.notZ hx) fun _ => .obj upd_same rfl .nil
    have lx : (ι ++ [x])[M.length]? = some x := by
      rw [← m.len, List.getElem?_append_right (Nat.le_refl _), Nat.sub_self]
      rfl
    refine ⟨Z, ι ++ [x], M ++ [.obj c []], .loc M.length :: ts, m3, .cons (.loc lx) ?_, beq_iff_eq.mp z, ?_⟩
    · rw [List.append_nil]
      exact rs.ext e4.any
    · refine Post.bind (Post.ext q e4) fun ι2 M2 H2 t v m5 e5 r5 p5 => ?_
      cases r5 with
      | non =>
        refine ⟨rfl, ?_⟩
        have l2 : ι2[M.length]? = some x := by
          obtain ⟨more, hm⟩ := e5.pre
          rw [hm, List.getElem?_append_left (List.getElem?_eq_some_iff.mp lx).1]
          exact lx
        have p5 : Post X.K Ω (R X.K Ω) E Z ι2 M2 H2 Q (match fin fz c M.length M2 with
          | some (u, M3) => .ok u M3
          | none => .err) := p5
        unfold fin at p5
        cases fz with
        | false => exact p5.pure m5 (.loc l2)
        | true =>
          obtain ⟨o, eo, ro⟩ := m5.at l2
          rw [eo] at p5
          cases ro with
          | obj ha hk rs2 =>
            rename_i c' fs dx ws
            dsimp only [cond_true] at p5
            cases y : c' == c with
            | false => rw [y] at p5; exact p5.elim
            | true =>
              rw [y] at p5
              have ec := beq_iff_eq.mp y
              subst ec
              obtain ⟨m6, st⟩ := m5.freeze l2 eo (by intro h; cases h)
              have e6 : Ext [] ι2 M2 H2 ι2 (M2.set M.length .gone) H2 := Ext.freeze l2 eo (by intro h; cases h)
              exact p5 ι2 H2 _ m6 e6 (.obj ha st hk (rs2.ext e6.any))
          | gone _ => exact p5.elim
          | lst _ _ => exact p5.elim
          | dK _ _ _ => exact p5.elim
          | dT _ _ _ => exact p5.elim
      | _ => exact p5.elim
theorem me_make {E : XK} (fz : Bool) (G : MkG X.prog X.w X.K X.mg X.base Ω x c k n F) (hr : Room (k + 1) X.A) (tk : Takes X (fun c d _ H' => E c d H')) (hg : Gl X x) (ha : MA X Ω (fun c d _ H' => E c d H') (e :: es) fa) (hdb : (x == ("__debug__" : Str)) = false := by decide)
    (he : starEach (e :: es) X.env = (false, eval e X.env) :: starEach es X.env := by rfl) (hpl : (backTo pos (starEach es X.env)).any (·.1) = false := by rfl) : ME X Ω (fun c d _ H' => E c d H') (.Call (.Name x p) (e :: es) [] pos) (eMake fz c n F fa) := by
  obtain ⟨f, fd, ps, gm, mk, hl, ok, hb⟩ := G.ex
  refine L2PE.imp (pe_make mk ok hr hg gm hb .nil (passes_call tk fun _ _ _ _ h => h) ha hdb he hpl) fun σ H Q ⟨Z, ι, M, σT, m0, rv, q⟩ => ⟨Z, ι, M, σT, m0, rv, Post.bind q fun ι1 M1 H1 ts vs m1 e1 q1 p1 x dx hx hdx ne => ?_⟩
  exact make_of m1 q1 p1 hx hdx ne
theorem me_make0 {E : XK} (fz : Bool) (G : MkG X.prog X.w X.K X.mg X.base Ω x c k n F) (hr : Room (k + 1) X.A) (tk : Takes X (fun c d _ H' => E c d H')) (hg : Gl X x) (hdb : (x == ("__debug__" : Str)) = false := by decide) : ME X Ω (fun c d _ H' => E c d H') (.Call (.Name x p) [] [] pos) (eMake fz c n F aNil) := by
  obtain ⟨f, fd, ps, gm, mk, hl, ok, hb⟩ := G.ex
  refine L2PE.imp (pe_make0 mk ok hr hg gm hb .nil (passes_call tk fun _ _ _ _ h => h) hdb) fun σ H Q ⟨Z, ι, M, σT, m0, rv, q⟩ => fun x dx hx hdx ne => ?_
  exact make_of m0 .nil q hx hdx ne
/-! ### slices, places -/
def eSl (op : Mem → T → Option Int → Option Int → Option T) (f : EF) (lo hi : Option EF) : EF := fun σ M => (f σ M).bind fun t M1 =>
  (match lo with
    | none => .ok none M1
    | some g => (g σ M1).bind fun u M2 => match u with
      | .int i => .ok (some i) M2
      | _ => .err : Res (Option Int)).bind fun l M2 =>
  (match hi with
    | none => .ok none M2
    | some g => (g σ M2).bind fun u M3 => match u with
      | .int i => .ok (some i) M3
      | _ => .err : Res (Option Int)).bind fun h M3 => .of (op M3 t l h) M3
end
end Mi
namespace Mi
open PySem PySem.Spec PyProof.Rows L2

/-! ### texts -/
def ground (x : List Nat) : Bool := x.all fun c => decide (c < symB)
def isSym (c : Nat) : Bool := decide (symB ≤ c) && decide (c < symB + symN)
/-- a word of letters -/
def letters (x : List Nat) : Bool := !x.isEmpty && decide (x.length ≤ 8) && x.all fun c => decide (97 ≤ c) && decide (c ≤ 122)
def strEq (x y : List Nat) : Option Bool :=
  bif x == y then some true else bif ground x && ground y then some false else match x, y with
    | [c], [d] => bif isSym c && isSym d then some false else none
    | [c], y => bif isSym c && ground y && !letters y then some false else none
    | x, [d] => bif isSym d && ground x && !letters x then some false else none
    | _, _ => none
section
variable {Ω : Om}
theorem spell_ground {x : List Nat} (h : ground x = true) : spell Ω.rho x = x := spell_flat h
theorem spell_sym {c : Nat} (h : isSym c = true) : spell Ω.rho [c] = Ω.rho c := by
  unfold isSym at h
  rw [Bool.and_eq_true, decide_eq_true_eq, decide_eq_true_eq] at h
  unfold spell
  rw [List.flatMap_cons, if_neg (by omega)]
  simp
theorem letters_rho (c : Nat) : letters (Ω.rho c) = true := by
  unfold letters
  rw [Bool.and_eq_true, Bool.and_eq_true]
  refine ⟨⟨?_, decide_eq_true (Ω.rle c)⟩, List.all_eq_true.mpr fun x hx => ?_⟩
  · cases h : Ω.rho c with
    | nil => exact absurd h (Ω.rne c)
    | cons _ _ => rfl
  · have := Ω.rch c x hx
    rw [Bool.and_eq_true, decide_eq_true_eq, decide_eq_true_eq]
    exact this
theorem strEq_ok {x y : List Nat} {b : Bool} (h : strEq x y = some b) : decide (spell Ω.rho x = spell Ω.rho y) = b := by
  unfold strEq at h
  cases e : x == y with
  | true =>
    rw [e] at h
    cases h
    rw [beq_iff_eq.mp e]
    exact decide_eq_true rfl
  | false =>
    rw [e] at h
    have ne : x ≠ y := fun z => by rw [z, beq_self_eq_true] at e; cases e
    cases g : ground x && ground y with
    | true =>
      rw [g] at h
      cases h
      rw [Bool.and_eq_true] at g
      rw [spell_ground g.1, spell_ground g.2]
      exact decide_eq_false ne
    | false =>
      rw [g] at h
      dsimp only [cond_false] at h
      have lit : ∀ {c : Nat} {z : List Nat}, (isSym c && ground z && !letters z) = true → Ω.rho c ≠ z ∧ spell Ω.rho [c] = Ω.rho c ∧ spell Ω.rho z = z := by
        intro c z q
        rw [Bool.and_eq_true, Bool.and_eq_true] at q
        refine ⟨fun e => ?_, spell_sym q.1.1, spell_ground q.1.2⟩
        have := letters_rho (Ω := Ω) c
        rw [e] at this
        rw [this] at q
        exact absurd q.2 (by decide)
      split at h
      · rename_i c d
        cases q : isSym c && isSym d with
        | false => rw [q] at h; cases h
        | true =>
          rw [q] at h
          cases h
          rw [Bool.and_eq_true] at q
          rw [spell_sym q.1, spell_sym q.2]
          refine decide_eq_false fun z => ne ?_
          have h1 := q.1
          have h2 := q.2
          unfold isSym at h1 h2
          rw [Bool.and_eq_true, decide_eq_true_eq, decide_eq_true_eq] at h1 h2
          have := Ω.rij (c - symB) (d - symB) (by omega) (by omega) (by rw [show symB + (c - symB) = c by omega, show symB + (d - symB) = d by omega]; exact z)
          rw [show c = d by omega]
      · rename_i c _
        cases q : isSym c && ground y && !letters y with
        | false => rw [q] at h; cases h
        | true =>
          rw [q] at h
          cases h
          obtain ⟨n, e1, e2⟩ := lit q
          rw [e1, e2]
          exact decide_eq_false n
      · rename_i d _
        cases q : isSym d && ground x && !letters x with
        | false => rw [q] at h; cases h
        | true =>
          rw [q] at h
          cases h
          obtain ⟨n, e1, e2⟩ := lit q
          rw [e1, e2]
          exact decide_eq_false (Ne.symm n)
      · cases h
end
/-! ### equality -/
def plainN : Nat → T → Bool
  | 0, _ => false
  | n + 1, t => match t with
    | .non => true
    | .bl _ => true
    | .int _ => true
    | .str _ => true
    | .tup ts => ts.all (plainN n)
    | .lst ts => ts.all (plainN n)
    | _ => false
def teqs (f : T → T → Option Bool) : List T → List T → Option Bool
  | x :: xs, y :: ys => match f x y with
    | some true => teqs f xs ys
    | r => r
  | [], [] => some true
  | _, _ => some false
def teqN : Nat → T → T → Option Bool
  | 0, _, _ => none
  | n + 1, t, u => match t, u with
    | .non, .non => some true
    | .bl a, .bl b => some (a == b)
    | .bl a, .int j => some ((if a then 1 else 0) == j)
    | .int i, .bl b => some (i == (if b then 1 else 0))
    | .int i, .int j => some (i == j)
    | .str x, .str y => strEq x y
    | .tup xs, .tup ys => bif xs.length == ys.length then teqs (teqN n) xs ys else some false
    | .lst xs, .lst ys => bif xs.length == ys.length then teqs (teqN n) xs ys else some false
    | .ktup _, _ => none
    | .klst _, _ => none
    | .dct _ _, _ => none
    | .obj _ _, _ => none
    | .loc _, _ => none
    | _, .ktup _ => none
    | _, .klst _ => none
    | _, .dct _ _ => none
    | _, .obj _ _ => none
    | _, .loc _ => none
    | _, _ => some false
def toStr (x : List Nat) : Str := ⟨x.toArray⟩
section
variable {Ω : Om}
mutual
def dat (Ω : Om) : T → PyData
  | .bl b => .bool b
  | .int i => .int i
  | .str x => .str (toStr (spell Ω.rho x))
  | .tup ts => .tuple (dats Ω ts)
  | .lst ts => .list (dats Ω ts)
  | _ => .none
def dats (Ω : Om) : List T → List PyData
  | [] => []
  | t :: ts => dat Ω t :: dats Ω ts
end
theorem toStr_of {s : Str} {x : List Nat} (h : s.cps.toList = x) : s = toStr x := by
  cases s
  unfold toStr
  congr 1
  rw [← h]
theorem dats_len : ∀ {ts : List T}, (dats Ω ts).length = ts.length
  | [] => rfl
  | _ :: ts => by simp [dats, dats_len (ts := ts)]
theorem strOk_spell {x : List Nat} : PyData.strOk (toStr (spell Ω.rho x)) = true := by
  unfold PyData.strOk toStr
  rw [← Array.all_toList]
  refine List.all_eq_true.mpr fun c hc => ?_
  have hc : c ∈ spell Ω.rho x := by simpa using hc
  unfold spell at hc
  rw [List.mem_flatMap] at hc
  obtain ⟨d, _, hd⟩ := hc
  split at hd
  · rename_i h
    have : c = d := by simpa using hd
    subst this
    exact decide_eq_true h
  · have := Ω.rch d c hd
    exact decide_eq_true (by omega)
mutual
theorem plain_dat : ∀ (n : Nat) (t : T), plainN n t = true → (dat Ω t).canLay0 = true ∧ (dat Ω t).depth ≤ n
  | 0, _, h => by cases h
  | n + 1, .non, _ => ⟨by simp [dat, PyData.canLay0], by simp [dat, PyData.depth]⟩
  | n + 1, .bl _, _ => ⟨by simp [dat, PyData.canLay0], by simp [dat, PyData.depth]⟩
  | n + 1, .int _, _ => ⟨by simp [dat, PyData.canLay0], by simp [dat, PyData.depth]⟩
  | n + 1, .str x, _ => ⟨by simp only [dat, PyData.canLay0]; exact strOk_spell, by simp [dat, PyData.depth]⟩
  | n + 1, .tup ts, h => by
    obtain ⟨a, b⟩ := plain_dats n ts h
    exact ⟨by simp only [dat, PyData.canLay0]; exact a, by simp only [dat, PyData.depth]; omega⟩
  | n + 1, .lst ts, h => by
    obtain ⟨a, b⟩ := plain_dats n ts h
    exact ⟨by simp only [dat, PyData.canLay0]; exact a, by simp only [dat, PyData.depth]; omega⟩
  | n + 1, .dct _ _, h => by cases h
  | n + 1, .ktup _, h => by cases h
  | n + 1, .klst _, h => by cases h
  | n + 1, .obj _ _, h => by cases h
  | n + 1, .loc _, h => by cases h
theorem plain_dats : ∀ (n : Nat) (ts : List T), ts.all (plainN n) = true → PyData.canLayAll0 (dats Ω ts) = true ∧ PyData.depthAll (dats Ω ts) ≤ n
  | n, [], _ => ⟨by simp [dats, PyData.canLayAll0], by simp [dats, PyData.depthAll]⟩
  | n, t :: ts, h => by
    rw [List.all_cons, Bool.and_eq_true] at h
    obtain ⟨a, b⟩ := plain_dat n t h.1
    obtain ⟨c, d⟩ := plain_dats n ts h.2
    exact ⟨by simp only [dats, PyData.canLayAll0]; rw [a, c]; rfl, by simp only [dats, PyData.depthAll]; omega⟩
end
theorem plain_shaped {t : T} (h : plainN 60 t = true) : SeqAt.shaped (dat Ω t) = true := by
  obtain ⟨a, b⟩ := plain_dat (Ω := Ω) 60 t h
  unfold SeqAt.shaped
  rw [a, decide_eq_true (show (dat Ω t).depth ≤ 64 by omega)]
  rfl
variable {K : PySem.W.Frag} {Z ι : List Addr} {M : Mem} {H : Hp}
mutual
theorem R.dp : ∀ (n : Nat) {t : T} {v : V}, R K Ω Z ι M H t v → plainN n t = true → Dp K H v (dat Ω t)
  | 0, _, _, _, h => by cases h
  | n + 1, _, _, .non, _ => .non
  | n + 1, _, _, .bl b, _ => .bl b
  | n + 1, _, _, .int i, _ => .int i
  | n + 1, _, _, .str x s e _, _ => by
    simp only [dat]
    rw [toStr_of e]
    exact .str _
  | n + 1, _, _, .tup q r, h => by
    simp only [dat]
    exact .tup (.of q) (Rs.dp n r h)
  | n + 1, _, _, .ktup q r, h => by cases h
  | n + 1, _, _, .lst q _ r, h => by
    simp only [dat]
    exact .lst (.inl (.inl q)) (Rs.dp n r h)
  | n + 1, _, _, .klst q r, h => by cases h
  | n + 1, _, _, .dK _ _ _ _, h => by cases h
  | n + 1, _, _, .dT _ _ _ _, h => by cases h
  | n + 1, _, _, .obj _ _ _ _, h => by cases h
  | n + 1, _, _, .loc _, h => by cases h
theorem Rs.dp : ∀ (n : Nat) {ts : List T} {vs : List V}, Rs K Ω Z ι M H ts vs → ts.all (plainN n) = true → DpAll K H vs (dats Ω ts)
  | n, _, _, .nil, _ => .nil
  | n, _, _, .cons r q, h => by
    rw [List.all_cons, Bool.and_eq_true] at h
    simp only [dats]
    exact .cons (R.dp n r h.1) (Rs.dp n q h.2)
end
theorem toStr_inj {x y : List Nat} : (toStr x == toStr y) = decide (x = y) := by
  unfold toStr
  by_cases e : x = y
  · rw [e, decide_eq_true rfl]
    exact beq_self_eq_true _
  · rw [decide_eq_false e]
    exact beq_eq_false_iff_ne.mpr fun h => e (by injection h with h; simpa using congrArg Array.toList h)
theorem teqs_ok {f : T → T → Option Bool} (hf : ∀ t u b, f t u = some b → PyData.eqv (dat Ω t) (dat Ω u) = b) : ∀ (ts us : List T) (b : Bool), teqs f ts us = some b → PyData.eqvAll (dats Ω ts) (dats Ω us) = b
  | [], [], b, h => by cases h; simp [dats, PyData.eqvAll]
  | [], _ :: _, b, h => by cases h; simp [dats, PyData.eqvAll]
  | _ :: _, [], b, h => by cases h; simp [dats, PyData.eqvAll]
  | t :: ts, u :: us, b, h => by
    unfold teqs at h
    simp only [dats, PyData.eqvAll]
    cases e : f t u with
    | none => rw [e] at h; cases h
    | some k =>
      rw [e] at h
      rw [hf t u k e]
      cases k with
      | true => exact (Bool.true_and _).trans (teqs_ok hf ts us b h)
      | false => cases h; rfl
theorem eqvAll_len : ∀ (xs ys : List PyData), xs.length ≠ ys.length → PyData.eqvAll xs ys = false
  | [], [], h => absurd rfl h
  | [], _ :: _, _ => by simp [PyData.eqvAll]
  | _ :: _, [], _ => by simp [PyData.eqvAll]
  | x :: xs, y :: ys, h => by
    simp only [PyData.eqvAll]
    rw [eqvAll_len xs ys (by simpa using h), Bool.and_false]
theorem teqN_ok : ∀ (n : Nat) (t u : T) (b : Bool), teqN n t u = some b → PyData.eqv (dat Ω t) (dat Ω u) = b
  | 0, _, _, _, h => by cases h
  | n + 1, t, u, b, h => by
    have two : ∀ (xs ys : List T), (bif xs.length == ys.length then teqs (teqN n) xs ys else some false) = some b → PyData.eqvAll (dats Ω xs) (dats Ω ys) = b := by
      intro xs ys q
      cases e : xs.length == ys.length with
      | true => rw [e] at q; exact teqs_ok (teqN_ok n) xs ys b q
      | false =>
        rw [e] at q
        cases q
        exact eqvAll_len _ _ (by rw [dats_len, dats_len]; exact beq_eq_false_iff_ne.mp e)
    cases t <;> cases u <;> simp only [teqN] at h <;> first
      | (cases h; simp [dat, PyData.eqv]; done)
      | (simp only [dat, PyData.eqv]; exact two _ _ h)
      | (simp only [dat, PyData.eqv]; rw [toStr_inj]; exact strEq_ok h)
      | (cases h; simp only [dat, PyData.eqv])
      | cases h
end
def teq (t u : T) : Option Bool := bif plainN 60 t && plainN 60 u then teqN 60 t u else none
def opEq : Op2 := fun _ t u => (teq t u).map .bl
def opNe : Op2 := fun _ t u => (teq t u).map fun b => .bl (!b)
section
variable {K : PySem.W.Frag} {Ω : Om}
theorem teq_dp {Z ι : List Addr} {M : Mem} {H : Hp} {t u : T} {v w : V} {b : Bool} (r : R K Ω Z ι M H t v) (q : R K Ω Z ι M H u w) (h : teq t u = some b) :
    Dp K H v (dat Ω t) ∧ Dp K H w (dat Ω u) ∧ SeqAt.shaped (dat Ω t) = true ∧ SeqAt.shaped (dat Ω u) = true ∧ PyData.eqv (dat Ω t) (dat Ω u) = b := by
  unfold teq at h
  cases e : plainN 60 t && plainN 60 u with
  | false => rw [e] at h; cases h
  | true =>
    rw [e] at h
    rw [Bool.and_eq_true] at e
    exact ⟨r.dp 60 e.1, q.dp 60 e.2, plain_shaped e.1, plain_shaped e.2, teqN_ok 60 t u b h⟩
theorem opEq_ok : OpS K Ω (rEqD K) opEq := fun Z ι M H t u v w z Q m r q h k => by
  unfold opEq at h
  cases e : teq t u with
  | none => rw [e] at h; cases h
  | some b =>
    rw [e] at h
    cases h
    obtain ⟨d1, d2, s1, s2, hb⟩ := teq_dp r q e
    exact ⟨_, _, d1, d2, s1, s2, by rw [hb]; exact k ι H _ m Ext.refl (.bl b)⟩
theorem opNe_ok : OpS K Ω (rNeD K) opNe := fun Z ι M H t u v w z Q m r q h k => by
  unfold opNe at h
  cases e : teq t u with
  | none => rw [e] at h; cases h
  | some b =>
    rw [e] at h
    cases h
    obtain ⟨d1, d2, s1, s2, hb⟩ := teq_dp r q e
    exact ⟨_, _, d1, d2, s1, s2, by rw [hb]; exact k ι H _ m Ext.refl (.bl _)⟩
end
end Mi
namespace Mi
open PySem PySem.Spec PyProof.Rows L2

section
variable {K : PySem.W.Frag} {Ω : Om} {X : Cx} {Z ι : List Addr} {M : Mem} {H : Hp}
/-- a list that stands still, a mutable one, a tuple -/
def seqT (M : Mem) : T → Option (List T)
  | .tup ts => some ts
  | .ktup ts => some ts
  | .lst ts => some ts
  | .klst ts => some ts
  | .loc n => match M[n]? with
    | some (.lst ts) => some ts
    | _ => none
  | _ => none
theorem seqT_ok {t : T} {v : V} {ts : List T} (m : RM K Ω Z ι M H) (r : R K Ω Z ι M H t v) (h : seqT M t = some ts) : ∃ a vs, v = .ref a ∧ (SqL K H a vs ∨ SqT K H a vs) ∧ Rs K Ω Z ι M H ts vs := by
  cases r with
  | tup q rs => cases h; exact ⟨_, _, rfl, .inr (.of q), rs⟩
  | ktup q rs => cases h; exact ⟨_, _, rfl, .inr q, rs⟩
  | lst q n rs => cases h; exact ⟨_, _, rfl, .inl (.inl (.inl q)), rs⟩
  | klst q rs => cases h; exact ⟨_, _, rfl, .inl (KL.sql q), rs⟩
  | loc q =>
    rename_i n a
    obtain ⟨o, e, ro⟩ := m.at q
    have h : (match M[n]? with | some (MO.lst ts) => some ts | _ => none) = some ts := h
    rw [e] at h
    cases ro with
    | lst hl rs => cases h; exact ⟨_, _, rfl, .inl (.inl (.inl hl)), rs⟩
    | gone _ => cases h
    | obj _ _ _ => cases h
    | dK _ _ _ => cases h
    | dT _ _ _ => cases h
  | _ => cases h
/-! ### + -/
def opAdd : Op2 := fun _ t u => match t, u with
  | .int i, .int j => some (.int (i + j))
  | .str x, .str y => bif big (x ++ y).length then some (.str (x ++ y)) else none
  | .tup xs, .tup ys => bif big (xs ++ ys).length then some (.tup (xs ++ ys)) else none
  | _, _ => none
abbrev rAddI : R2 := rI0 fun i j => .int (i + j)
abbrev rAddS : R2 := fun x y H Q => ∃ i j, x = .str i ∧ y = .str j ∧ i.length + j.length ≤ sizeLine ∧ Q (.str (i ++ j)) H
abbrev rAdd3 (K : PySem.W.Frag) : R2 := fun x y H Q => rAddI x y H Q ∨ rAddS x y H Q ∨ rCatA K x y H Q
theorem op_add3 : OpR X (binaryOp .Add) (rAdd3 X.K) := op_add.or (op_add_str.or op_catA)
theorem spell_app (r : Nat → List Nat) (x y : List Nat) : spell r (x ++ y) = spell r x ++ spell r y := by
  unfold spell
  rw [List.flatMap_append]
theorem cps_app (a b : Str) : (a ++ b).cps.toList = a.cps.toList ++ b.cps.toList := by
  show (a.cps ++ b.cps).toList = _
  exact Array.toList_append
theorem opAdd_ok : OpS K Ω (rAdd3 K) opAdd := fun Z ι M H t u v w z Q m r q h k => by
  unfold opAdd at h
  split at h
  · cases h
    cases r
    cases q
    exact .inl ⟨_, _, rfl, rfl, k ι H _ m Ext.refl (.int _)⟩
  · rename_i x y
    cases e : big (x ++ y).length with
    | false => rw [e] at h; cases h
    | true =>
      rw [e] at h
      cases h
      have hb : (x ++ y).length ≤ 2000000 := of_decide_eq_true e
      cases r with
      | str _ s hs _ =>
        cases q with
        | str _ s' hs' _ =>
          have e1 : (s ++ s').cps.toList = spell Ω.rho (x ++ y) := by rw [cps_app, hs, hs', spell_app]
          refine .inr (.inl ⟨s, s', rfl, rfl, ?_, k ι H _ m Ext.refl (.str _ _ e1 hb)⟩)
          have := str_size e1 hb
          have l : (s ++ s').length = s.length + s'.length := by
            show (s.cps ++ s'.cps).size = _
            exact Array.size_append
          omega
  · rename_i xs ys
    cases e : big (xs ++ ys).length with
    | false => rw [e] at h; cases h
    | true =>
      rw [e] at h
      cases h
      have hb := big_ok e
      cases r with
      | tup h1 r1 =>
        cases q with
        | tup h2 r2 =>
          rename_i a vs b ws
          refine .inr (.inr ⟨a, b, vs, ws, rfl, rfl, .of h1, .of h2, by rw [← r1.length, ← r2.length, ← List.length_append]; exact hb, fun e1 => ?_, fun _ e2 => ?_, fun _ _ p np => ?_⟩)
          · subst e1
            cases r1
            exact k ι H _ m Ext.refl (.tup h2 r2)
          · subst e2
            cases r2
            rw [List.append_nil] at k
            exact k ι H _ m Ext.refl (.tup h1 r1)
          · exact k ι _ _ (m.lay np) (Ext.new np) (.tup upd_same ((r1.append r2).ext (Ext.new np)))
  · cases h
/-! ### numbers -/
def opSub : Op2 := fun _ t u => match t, u with
  | .int i, .int j => some (.int (i - j))
  | _, _ => none
theorem opI_ok {C : Int → Int → Prop} {g : Int → Int → Int} {o : Op2} (ho : ∀ M t u z, o M t u = some z → ∃ i j, t = .int i ∧ u = .int j ∧ C i j ∧ z = .int (g i j)) : OpS K Ω (rI C fun i j => .int (g i j)) o := fun Z ι M H t u v w z Q m r q h k => by
  obtain ⟨i, j, rfl, rfl, hc, rfl⟩ := ho M t u z h
  cases r
  cases q
  exact ⟨i, j, rfl, rfl, hc, k ι H _ m Ext.refl (.int _)⟩
theorem opI0_ok {g : Int → Int → Int} {o : Op2} (ho : ∀ M t u z, o M t u = some z → ∃ i j, t = .int i ∧ u = .int j ∧ z = .int (g i j)) : OpS K Ω (rI0 fun i j => .int (g i j)) o := fun Z ι M H t u v w z Q m r q h k => by
  obtain ⟨i, j, rfl, rfl, rfl⟩ := ho M t u z h
  cases r
  cases q
  exact ⟨i, j, rfl, rfl, k ι H _ m Ext.refl (.int _)⟩
theorem opB0_ok {g : Int → Int → Bool} {o : Op2} (ho : ∀ M t u z, o M t u = some z → ∃ i j, t = .int i ∧ u = .int j ∧ z = .bl (g i j)) : OpS K Ω (rI0 fun i j => .bl (g i j)) o := fun Z ι M H t u v w z Q m r q h k => by
  obtain ⟨i, j, rfl, rfl, rfl⟩ := ho M t u z h
  cases r
  cases q
  exact ⟨i, j, rfl, rfl, k ι H _ m Ext.refl (.bl _)⟩
theorem opSub_ok : OpS K Ω (rI0 fun i j => .int (i - j)) opSub := opI0_ok fun M t u z h => by
  unfold opSub at h
  split at h
  · cases h; exact ⟨_, _, rfl, rfl, rfl⟩
  · cases h
def opMul : Op2 := fun _ t u => match t, u with
  | .int i, .int j => bif decide (-(2 ^ 64) < j) && decide (j < 2 ^ 64) || decide (-(2 ^ 64) < i) && decide (i < 2 ^ 64) then some (.int (i * j)) else none
  | _, _ => none
theorem opMul_ok : OpS K Ω (rI CMul fun i j => .int (i * j)) opMul := opI_ok fun M t u z h => by
  unfold opMul at h
  split at h
  · rename_i i j
    cases e : decide (-(2 ^ 64) < j) && decide (j < 2 ^ 64) || decide (-(2 ^ 64) < i) && decide (i < 2 ^ 64) with
    | false => rw [e] at h; cases h
    | true =>
      rw [e] at h
      cases h
      rw [Bool.or_eq_true, Bool.and_eq_true, Bool.and_eq_true, decide_eq_true_eq, decide_eq_true_eq, decide_eq_true_eq, decide_eq_true_eq] at e
      exact ⟨i, j, rfl, rfl, e.symm, rfl⟩
  · cases h
def opFdiv : Op2 := fun _ t u => match t, u with
  | .int i, .int j => bif decide (0 < j) && decide (j < 1073741824) then some (.int (i / j)) else none
  | _, _ => none
theorem opFdiv_ok : OpS K Ω (rI CDiv fun i j => .int (i / j)) opFdiv := opI_ok fun M t u z h => by
  unfold opFdiv at h
  split at h
  · rename_i i j
    cases e : decide (0 < j) && decide (j < 1073741824) with
    | false => rw [e] at h; cases h
    | true =>
      rw [e] at h
      cases h
      rw [Bool.and_eq_true, decide_eq_true_eq, decide_eq_true_eq] at e
      exact ⟨i, j, rfl, rfl, e, rfl⟩
  · cases h
def opMod : Op2 := fun _ t u => match t, u with
  | .int i, .int j => bif decide (0 < j) then some (.int (i % j)) else none
  | _, _ => none
theorem opMod_ok : OpS K Ω (rI (fun _ j => 0 < j) fun i j => .int (i % j)) opMod := opI_ok fun M t u z h => by
  unfold opMod at h
  split at h
  · rename_i i j
    cases e : decide (0 < j) with
    | false => rw [e] at h; cases h
    | true =>
      rw [e] at h
      cases h
      exact ⟨i, j, rfl, rfl, of_decide_eq_true e, rfl⟩
  · cases h
def CPowW (i j : Int) : Prop := 0 ≤ j ∧ (Builtin.Int.intBits i : Int) * j ≤ 2 ^ 27
theorem op_powW : OpR X (binaryOp .Pow) (rI CPowW fun i j => .int (i ^ j.toNat)) := opI fun _ _ _ _ _ _ _ hc q => pow_int hc.1 hc.2 q
def opPow : Op2 := fun _ t u => match t, u with
  | .int i, .int j => bif decide (0 ≤ j) && decide ((Builtin.Int.intBits i : Int) * j ≤ 2 ^ 27) then some (.int (i ^ j.toNat)) else none
  | _, _ => none
theorem opPow_ok : OpS K Ω (rI CPowW fun i j => .int (i ^ j.toNat)) opPow := opI_ok fun M t u z h => by
  unfold opPow at h
  split at h
  · rename_i i j
    cases e : decide (0 ≤ j) && decide ((Builtin.Int.intBits i : Int) * j ≤ 2 ^ 27) with
    | false => rw [e] at h; cases h
    | true =>
      rw [e] at h
      cases h
      rw [Bool.and_eq_true, decide_eq_true_eq, decide_eq_true_eq] at e
      exact ⟨i, j, rfl, rfl, e, rfl⟩
  · cases h
def opLt : Op2 := fun _ t u => match t, u with
  | .int i, .int j => some (.bl (decide (i < j)))
  | _, _ => none
def opLe : Op2 := fun _ t u => match t, u with
  | .int i, .int j => some (.bl (decide (i ≤ j)))
  | _, _ => none
def opGt : Op2 := fun _ t u => match t, u with
  | .int i, .int j => some (.bl (decide (j < i)))
  | _, _ => none
def opGe : Op2 := fun _ t u => match t, u with
  | .int i, .int j => some (.bl (decide (j ≤ i)))
  | _, _ => none
theorem opLt_ok : OpS K Ω (rI0 fun i j => .bl (decide (i < j))) opLt := opB0_ok fun M t u z h => by
  unfold opLt at h
  split at h
  · cases h; exact ⟨_, _, rfl, rfl, rfl⟩
  · cases h
theorem opLe_ok : OpS K Ω (rI0 fun i j => .bl (decide (i ≤ j))) opLe := opB0_ok fun M t u z h => by
  unfold opLe at h
  split at h
  · cases h; exact ⟨_, _, rfl, rfl, rfl⟩
  · cases h
theorem opGt_ok : OpS K Ω (rI0 fun i j => .bl (decide (j < i))) opGt := opB0_ok fun M t u z h => by
  unfold opGt at h
  split at h
  · cases h; exact ⟨_, _, rfl, rfl, rfl⟩
  · cases h
theorem opGe_ok : OpS K Ω (rI0 fun i j => .bl (decide (j ≤ i))) opGe := opB0_ok fun M t u z h => by
  unfold opGe at h
  split at h
  · cases h; exact ⟨_, _, rfl, rfl, rfl⟩
  · cases h
/-- -n -/
def eNeg (f : EF) : EF := fun σ M => (f σ M).bind fun t M1 => match t with
  | .int i => .ok (.int (-i)) M1
  | _ => .err
theorem me_neg {W : WX} {a : Expr} {f : EF} {pos : Pos} (ha : ME X Ω W a f) : ME X Ω W (.UnaryOp .USub a pos) (eNeg f) := L2PE.imp (pe_un un_neg ha) fun σ H Q ⟨Z, ι, M, σT, m, rv, p⟩ =>
  ⟨Z, ι, M, σT, m, rv, Post.bind p fun ι1 M1 H1 t v m1 e1 q1 p1 => by
    cases t with
    | int i => cases q1; exact ⟨i, rfl, p1.pure m1 (.int _)⟩
    | _ => exact p1.elim⟩
/-! ### is None, is True -/
def opIs : Op2 := fun _ t u => match t, u with
  | .bl a, .bl b => some (.bl (decide (a = b)))
  | .non, .non => some (.bl true)
  | _, .non => some (.bl false)
  | _, _ => none
def opIsNot : Op2 := fun _ t u => match t, u with
  | .bl a, .bl b => some (.bl (!decide (a = b)))
  | .non, .non => some (.bl false)
  | _, .non => some (.bl true)
  | _, _ => none
abbrev rIsNone : R2 := fun x y H Q => y = .non ∧ Q (.bl (decide (x = .non))) H
abbrev rIsNotNone : R2 := fun x y H Q => y = .non ∧ Q (.bl (!decide (x = .non))) H
abbrev rIs2 : R2 := fun x y H Q => rIsNone x y H Q ∨ rIsB x y H Q
abbrev rIsNot2 : R2 := fun x y H Q => rIsNotNone x y H Q ∨ rNotB x y H Q
theorem op_is2 : OpR X (compareOp .Is) rIs2 := op_isN.or op_isBl
theorem op_isNot2 : OpR X (compareOp .IsNot) rIsNot2 := op_notN.or op_notBl
theorem R.non_iff {t : T} {v : V} (r : R K Ω Z ι M H t v) : decide (v = .non) = match t with | .non => true | _ => false := by
  cases r <;> rfl
theorem opIs_ok : OpS K Ω rIs2 opIs := fun Z ι M H t u v w z Q m r q h k => by
  unfold opIs at h
  split at h
  · cases h; cases r; cases q; exact .inr ⟨_, _, rfl, rfl, k ι H _ m Ext.refl (.bl _)⟩
  · cases h; cases r; cases q; exact .inl ⟨rfl, k ι H _ m Ext.refl (.bl _)⟩
  · rename_i n1 n2
    cases h
    cases q
    refine .inl ⟨rfl, ?_⟩
    rw [r.non_iff]
    split
    · exact absurd rfl n2
    · exact k ι H _ m Ext.refl (.bl _)
  · cases h
theorem opIsNot_ok : OpS K Ω rIsNot2 opIsNot := fun Z ι M H t u v w z Q m r q h k => by
  unfold opIsNot at h
  split at h
  · cases h; cases r; cases q; exact .inr ⟨_, _, rfl, rfl, k ι H _ m Ext.refl (.bl _)⟩
  · cases h; cases r; cases q; exact .inl ⟨rfl, k ι H _ m Ext.refl (.bl _)⟩
  · rename_i n1 n2
    cases h
    cases q
    refine .inl ⟨rfl, ?_⟩
    rw [r.non_iff]
    split
    · exact absurd rfl n2
    · exact k ι H _ m Ext.refl (.bl _)
  · cases h
/-! ### in -/
def tin (x : T) : List T → Option Bool
  | [] => some false
  | y :: ys => match teqN 60 y x with
    | some true => some true
    | some false => tin x ys
    | none => none
def inSeq (M : Mem) (t u : T) : Option Bool := match seqT M u with
  | some ts => bif plainN 60 t && ts.all (plainN 59) then tin t ts else none
  | none => none
def inStr (t u : T) : Option Bool := match t, u with
  | .str [c], .str z => bif decide (c < symB) && ground z then some (decide (c ∈ z)) else none
  | _, _ => none
def opIn : Op2 := fun M t u => (match u with
  | .str _ => inStr t u
  | _ => inSeq M t u).map .bl
def opNotIn : Op2 := fun M t u => (match u with
  | .str _ => inStr t u
  | _ => inSeq M t u).map fun b => .bl (!b)
theorem tin_ok {x : T} : ∀ {ts : List T} {b : Bool}, tin x ts = some b → ((dats Ω ts).any fun z => PyData.eqv z (dat Ω x)) = b
  | [], b, h => by cases h; simp [dats]
  | y :: ys, b, h => by
    unfold tin at h
    cases e : teqN 60 y x with
    | none => rw [e] at h; cases h
    | some k =>
      rw [e] at h
      simp only [dats, List.any_cons]
      rw [teqN_ok 60 y x k e]
      cases k with
      | true => cases h; rfl
      | false => exact (Bool.false_or _).trans (tin_ok h)
def rInS (K : PySem.W.Frag) (neg : Bool) : R2 := fun x y H Q => ∃ d ds, Dp K H x d ∧ (Dp K H y (.list ds) ∨ Dp K H y (.tuple ds)) ∧ SeqAt.shaped d = true ∧ PyData.canLayAll0 ds = true ∧ Q (.bl (if neg then !ds.any fun z => PyData.eqv z d else ds.any fun z => PyData.eqv z d)) H
theorem room_in {A : Around} {d : PyData} {ds : List PyData} (h : SeqAt.shaped d = true) (hu : A.units + 65 < cLine) : A.units + 1 + min (PyData.depthAll ds) d.depth < cLine := by
  have := SeqAt.depth_of_shaped h
  omega
theorem op_inS (hu : X.A.units + 65 < cLine) : OpR X (compareOp .In) (rInS X.K false) := by
  intro pins s σ H x y v u Q I rx ry ⟨d, ds, hd, he, sd, se, q⟩
  obtain ⟨as, r1⟩ := Dp.reads I d x v hd rx
  rcases he with he | he
  · obtain ⟨bs, r2⟩ := Dp.reads I _ y u he ry
    exact SeqAt.in_list_reads r2 r1 se (SeqAt.canLay_of_shaped sd) (room_in sd hu) ⟨.bl _, H, I, rfl, q⟩
  · obtain ⟨bs, r2⟩ := Dp.reads I _ y u he ry
    exact SeqAt.in_tuple_reads r2 r1 se (SeqAt.canLay_of_shaped sd) (room_in sd hu) ⟨.bl _, H, I, rfl, q⟩
theorem op_notInS (hu : X.A.units + 65 < cLine) : OpR X (compareOp .NotIn) (rInS X.K true) := by
  intro pins s σ H x y v u Q I rx ry ⟨d, ds, hd, he, sd, se, q⟩
  obtain ⟨as, r1⟩ := Dp.reads I d x v hd rx
  rcases he with he | he
  · obtain ⟨bs, r2⟩ := Dp.reads I _ y u he ry
    exact SeqAt.notIn_list_reads r2 r1 se (SeqAt.canLay_of_shaped sd) (room_in sd hu) ⟨.bl _, H, I, rfl, q⟩
  · obtain ⟨bs, r2⟩ := Dp.reads I _ y u he ry
    exact SeqAt.notIn_tuple_reads r2 r1 se (SeqAt.canLay_of_shaped sd) (room_in sd hu) ⟨.bl _, H, I, rfl, q⟩
abbrev rInSign : R2 := fun x y H Q => ∃ (c : Nat) (z : Str), x = .str ⟨#[c]⟩ ∧ y = .str z ∧ Q (.bl (decide (c ∈ z.cps.toList))) H
abbrev rNotInSign : R2 := fun x y H Q => ∃ (c : Nat) (z : Str), x = .str ⟨#[c]⟩ ∧ y = .str z ∧ Q (.bl (!decide (c ∈ z.cps.toList))) H
abbrev rIn2 (K : PySem.W.Frag) : R2 := fun x y H Q => rInS K false x y H Q ∨ rInSign x y H Q
abbrev rNotIn2 (K : PySem.W.Frag) : R2 := fun x y H Q => rInS K true x y H Q ∨ rNotInSign x y H Q
theorem op_in2 (hu : X.A.units + 65 < cLine) : OpR X (compareOp .In) (rIn2 X.K) := (op_inS hu).or op_in_sign
theorem op_notIn2 (hu : X.A.units + 65 < cLine) : OpR X (compareOp .NotIn) (rNotIn2 X.K) := (op_notInS hu).or op_notIn_sign
theorem inSeq_ok {t u : T} {v w : V} {b : Bool} (m : RM K Ω Z ι M H) (r : R K Ω Z ι M H t v) (q : R K Ω Z ι M H u w) (h : inSeq M t u = some b) :
    ∃ d ds, Dp K H v d ∧ (Dp K H w (.list ds) ∨ Dp K H w (.tuple ds)) ∧ SeqAt.shaped d = true ∧ PyData.canLayAll0 ds = true ∧ (ds.any fun z => PyData.eqv z d) = b := by
  unfold inSeq at h
  cases e : seqT M u with
  | none => rw [e] at h; cases h
  | some ts =>
    rw [e] at h
    have h : (bif plainN 60 t && ts.all (plainN 59) then tin t ts else none) = some b := h
    cases z : plainN 60 t && ts.all (plainN 59) with
    | false => rw [z] at h; cases h
    | true =>
      rw [z] at h
      rw [Bool.and_eq_true] at z
      obtain ⟨a, vs, rfl, hs, rs⟩ := seqT_ok m q e
      refine ⟨dat Ω t, dats Ω ts, r.dp 60 z.1, ?_, plain_shaped z.1, (plain_dats 59 ts z.2).1, tin_ok h⟩
      rcases hs with hs | hs
      · exact .inl (.lst hs (rs.dp 59 z.2))
      · exact .inr (.tup hs (rs.dp 59 z.2))
theorem inStr_ok {t u : T} {v w : V} {b : Bool} (r : R K Ω Z ι M H t v) (q : R K Ω Z ι M H u w) (h : inStr t u = some b) :
    ∃ (c : Nat) (z : Str), v = .str ⟨#[c]⟩ ∧ w = .str z ∧ decide (c ∈ z.cps.toList) = b := by
  unfold inStr at h
  split at h
  · rename_i c z
    cases e : decide (c < symB) && ground z with
    | false => rw [e] at h; cases h
    | true =>
      rw [e] at h
      cases h
      rw [Bool.and_eq_true, decide_eq_true_eq] at e
      cases r with
      | str _ s hs _ =>
        cases q with
        | str _ s' hs' _ =>
          rw [spell_ground (by unfold ground; simp [e.1])] at hs
          rw [spell_ground e.2] at hs'
          refine ⟨c, s', ?_, rfl, by rw [hs']⟩
          rw [toStr_of hs]
          rfl
  · cases h
theorem opIn_ok : OpS K Ω (rIn2 K) opIn := fun Z ι M H t u v w z Q m r q h k => by
  unfold opIn at h
  split at h
  · cases e : inStr t (.str _) with
    | none => rw [e] at h; cases h
    | some b =>
      rw [e] at h
      cases h
      obtain ⟨c, z, h1, h2, h3⟩ := inStr_ok r q e
      exact .inr ⟨c, z, h1, h2, by rw [h3]; exact k ι H _ m Ext.refl (.bl b)⟩
  · cases e : inSeq M t u with
    | none => rw [e] at h; cases h
    | some b =>
      rw [e] at h
      cases h
      obtain ⟨d, ds, h1, h2, h3, h4, h5⟩ := inSeq_ok m r q e
      exact .inl ⟨d, ds, h1, h2, h3, h4, by rw [h5]; exact k ι H _ m Ext.refl (.bl b)⟩
theorem opNotIn_ok : OpS K Ω (rNotIn2 K) opNotIn := fun Z ι M H t u v w z Q m r q h k => by
  unfold opNotIn at h
  split at h
  · cases e : inStr t (.str _) with
    | none => rw [e] at h; cases h
    | some b =>
      rw [e] at h
      cases h
      obtain ⟨c, z, h1, h2, h3⟩ := inStr_ok r q e
      exact .inr ⟨c, z, h1, h2, by rw [h3]; exact k ι H _ m Ext.refl (.bl _)⟩
  · cases e : inSeq M t u with
    | none => rw [e] at h; cases h
    | some b =>
      rw [e] at h
      cases h
      obtain ⟨d, ds, h1, h2, h3, h4, h5⟩ := inSeq_ok m r q e
      exact .inl ⟨d, ds, h1, h2, h3, h4, by rw [h5]; exact k ι H _ m Ext.refl (.bl _)⟩
end
end Mi
namespace Mi
open PySem PySem.Spec PyProof.Rows L2

section
variable {K : PySem.W.Frag} {Ω : Om} {X : Cx} {W : WX} {Z ι : List Addr} {M : Mem} {H : Hp} {e o : Expr} {es : List Expr} {fa : AF} {f g fo : EF} {pos p apos : Pos}
abbrev OpN := Mem → List T → Option T
def CallS (K : PySem.W.Frag) (Ω : Om) (r : List V → Hp → VK → Prop) (op : OpN) : Prop := ∀ Z ι M H ts vs z Q, RM K Ω Z ι M H → Rs K Ω Z ι M H ts vs → op M ts = some z →
  (∀ ι' H' x, RM K Ω Z ι' M H' → Ext [] ι M H ι' M H' → R K Ω Z ι' M H' z x → Q x H') → r vs H Q
def eBi (op : OpN) (fa : AF) : EF := fun σ M => (fa σ M).bind fun ts M1 => .of (op M1 ts) M1
theorem tCB_of {r : List V → Hp → VK → Prop} {op : OpN} (h : CallS X.K Ω r op) {σ : L2.St} {H : Hp} {Q : VK} (q : liftE X.K Ω W (eBi op fa) σ H Q) : tCB r (liftA X.K Ω W fa) σ H Q := by
  obtain ⟨Z, ι, M, σT, m, rv, q⟩ := q
  refine ⟨Z, ι, M, σT, m, rv, Post.bind q fun ι1 M1 H1 ts vs m1 e1 q1 p1 => ?_⟩
  obtain ⟨z, hz, p1⟩ := Post.of p1
  exact h Z ι1 M1 H1 ts vs z Q m1 q1 hz fun ι' H' x m' e' r' => p1 ι' H' x m' e' r'
theorem me_callB {id : String} {x : Str} {r : List V → Hp → VK → Prop} {op : OpN} (hc : CallR X (.builtin id) r) (h : CallS X.K Ω r op) (hg : Gl X x) (hm : X.mg x = none) (hv : bootBuiltins x = some (.builtin id)) (ha : MA X Ω W (e :: es) fa) (hn : x ≠ "__name__" := by decide) (hdb : (x == ("__debug__" : Str)) = false := by decide)
    (he : starEach (e :: es) X.env = (false, eval e X.env) :: starEach es X.env := by rfl) (hpl : (backTo pos (starEach es X.env)).any (·.1) = false := by rfl) : ME X Ω W (.Call (.Name x p) (e :: es) [] pos) (eBi op fa) := L2PE.imp (pe_callB hc hg hm hv ha hn hdb he hpl) fun _ _ _ q => tCB_of h q
theorem me_callTy {ty : String} {x : Str} {r : List V → Hp → VK → Prop} {op : OpN} (hc : CallR X (.type ty) r) (h : CallS X.K Ω r op) (hg : Gl X x) (hm : X.mg x = none) (hv : bootBuiltins x = some (.type ty)) (ha : MA X Ω W (e :: es) fa) (hn : x ≠ "__name__" := by decide) (hdb : (x == ("__debug__" : Str)) = false := by decide)
    (he : starEach (e :: es) X.env = (false, eval e X.env) :: starEach es X.env := by rfl) (hpl : (backTo pos (starEach es X.env)).any (·.1) = false := by rfl) : ME X Ω W (.Call (.Name x p) (e :: es) [] pos) (eBi op fa) := L2PE.imp (pe_callTy hc hg hm hv ha hn hdb he hpl) fun _ _ _ q => tCB_of h q
theorem Rs.one {ts : List T} {t : T} {vs : List V} (r : Rs K Ω Z ι M H ts vs) (h : ts = [t]) : ∃ v, vs = [v] ∧ R K Ω Z ι M H t v := by
  subst h
  cases r with
  | cons a b => cases b; exact ⟨_, rfl, a⟩
theorem Rs.two {ts : List T} {t u : T} {vs : List V} (r : Rs K Ω Z ι M H ts vs) (h : ts = [t, u]) : ∃ v w, vs = [v, w] ∧ R K Ω Z ι M H t v ∧ R K Ω Z ι M H u w := by
  subst h
  cases r with
  | cons a b =>
    cases b with
    | cons b c => cases c; exact ⟨_, _, rfl, a, b⟩
/-- a new list out of a call: its items are there already, or have no place -/
def CallL (K : PySem.W.Frag) (Ω : Om) (r : List V → Hp → VK → Prop) (op : Mem → List T → Option (List T)) : Prop := ∀ Z ι M H ts vs zs Q, RM K Ω Z ι M H → Rs K Ω Z ι M H ts vs → op M ts = some zs →
  (∀ p ws, H p = none → Rs K Ω Z ι M H zs ws → Q (.ref p) (upd H p (.lst ws))) → r vs H Q
def eBiL (op : Mem → List T → Option (List T)) (fa : AF) : AF := fun σ M => (fa σ M).bind fun ts M1 => .of (op M1 ts) M1
/-- the new list is laid -/
theorem laid_of {Q : VK} {σ : L2.St} {zs : List T} {ι1 : List Addr} {M1 : Mem} {H1 : Hp} (m1 : RM X.K Ω Z ι1 M1 H1) (e1 : Ext [] ι M H ι1 M1 H1)
    (p1 : ∀ ι' H' p vs, H p = none → RM X.K Ω (p :: Z) ι' M1 H' → p ∉ Z → Ext [] ι M H ι' M1 H' → H' p = some (.lst vs) → Rs X.K Ω (p :: Z) ι' M1 H' zs vs → Q (.ref p) H') {p : Addr} {ws : List V} (np : H1 p = none) (rs : Rs X.K Ω Z ι1 M1 H1 zs ws) : Q (.ref p) (upd H1 p (.lst ws)) := by
  have hp : H p = none := by
    cases z : H p with
    | none => rfl
    | some o => exact absurd np (e1.there p (by rw [z]; exact nofun))
  exact p1 ι1 _ p ws hp (m1.layH np) (m1.notZ np) (e1.trans (Ext.new np)) upd_same ((rs.hide np).ext (Ext.new np))
theorem ml_of {r : List V → Hp → VK → Prop} {op : Mem → List T → Option (List T)} (h : CallL X.K Ω r op) (hp : PE X e (tCB r (liftA X.K Ω W fa))) : ML X Ω W e (eBiL op fa) := L2PE.imp hp fun σ H Q ⟨Z, ι, M, σT, m, rv, p⟩ => by
  refine ⟨Z, ι, M, σT, m, rv, ?_⟩
  unfold eBiL at p
  cases q : fa σT M with
  | ok ts M1 =>
    rw [q] at p
    intro ι1 H1 vs m1 e1 q1
    cases z : op M1 ts with
    | none => simp only [Res.bind, z] at p; exact p.elim
    | some zs =>
      simp only [Res.bind, z] at p
      exact h Z ι1 M1 H1 ts vs zs Q m1 q1 z fun p' ws np rs => laid_of (σ := σ) m1 e1 p np rs
  | exc c t M1 => rw [q] at p; exact p
  | err => rw [q] at p; exact p
theorem ml_callTy {ty : String} {x : Str} {r : List V → Hp → VK → Prop} {op : Mem → List T → Option (List T)} (hc : CallR X (.type ty) r) (h : CallL X.K Ω r op) (hg : Gl X x) (hm : X.mg x = none) (hv : bootBuiltins x = some (.type ty)) (ha : MA X Ω W (e :: es) fa) (hn : x ≠ "__name__" := by decide) (hdb : (x == ("__debug__" : Str)) = false := by decide)
    (he : starEach (e :: es) X.env = (false, eval e X.env) :: starEach es X.env := by rfl) (hpl : (backTo pos (starEach es X.env)).any (·.1) = false := by rfl) : ML X Ω W (.Call (.Name x p) (e :: es) [] pos) (eBiL op fa) := ml_of h (pe_callTy hc hg hm hv ha hn hdb he hpl)
def lstT (M : Mem) : T → Option (List T)
  | .lst ts => some ts
  | .loc n => match M[n]? with
    | some (.lst ts) => some ts
    | _ => none
  | _ => none
theorem lstT_at {t : T} {v : V} {ts : List T} (m : RM K Ω Z ι M H) (r : R K Ω Z ι M H t v) (h : lstT M t = some ts) : ∃ a vs, v = .ref a ∧ H a = some (.lst vs) ∧ Rs K Ω Z ι M H ts vs := by
  cases r with
  | lst q n rs => cases h; exact ⟨_, _, rfl, q, rs⟩
  | loc q =>
    rename_i n a
    obtain ⟨o, e, ro⟩ := m.at q
    have h : (match M[n]? with | some (MO.lst ts) => some ts | _ => none) = some ts := h
    rw [e] at h
    cases ro with
    | lst hl rs => cases h; exact ⟨_, _, rfl, hl, rs⟩
    | gone _ => cases h
    | obj _ _ _ => cases h
    | dK _ _ _ => cases h
    | dT _ _ _ => cases h
  | _ => cases h
theorem lstT_ok {t : T} {v : V} {ts : List T} (m : RM K Ω Z ι M H) (r : R K Ω Z ι M H t v) (h : lstT M t = some ts) : ∃ a vs, v = .ref a ∧ SqL K H a vs ∧ Rs K Ω Z ι M H ts vs :=
  let ⟨a, vs, h1, h2, h3⟩ := lstT_at m r h
  ⟨a, vs, h1, .inl (.inl h2), h3⟩
/-! ### len, tuple, list -/
def bLen : OpN := fun M ts => match ts with
  | [.str x] => bif ground x then some (.int x.length) else none
  | [t] => (seqT M t).map fun xs => .int xs.length
  | _ => none
abbrev rLenSeq (K : PySem.W.Frag) : List V → Hp → VK → Prop := fun xs H Q => ∃ p ys, xs = [.ref p] ∧ (SqL K H p ys ∨ SqT K H p ys) ∧ Q (.int ys.length) H
abbrev rLenStr : List V → Hp → VK → Prop := fun xs H Q => ∃ z, xs = [.str z] ∧ z.length ≤ sizeLine ∧ Q (.int z.length) H
abbrev rLen2 (K : PySem.W.Frag) : List V → Hp → VK → Prop := fun xs H Q => rLenSeq K xs H Q ∨ rLenStr xs H Q
theorem call_len2 : CallR X (.builtin "len") (rLen2 X.K) := call_len_seq.or call_len_str
theorem bLen_ok : CallS K Ω (rLen2 K) bLen := fun Z ι M H ts vs z Q m r h k => by
  unfold bLen at h
  split at h
  · rename_i x
    obtain ⟨v, rfl, rv⟩ := r.one rfl
    cases e : ground x with
    | false => rw [e] at h; cases h
    | true =>
      rw [e] at h
      cases h
      cases rv with
      | str _ s hs hl =>
        have hz := str_size hs hl
        have el : s.length = x.length := by
          rw [spell_ground e] at hs
          rw [← hs, Array.length_toList]
          rfl
        exact .inr ⟨s, rfl, hz, by rw [el]; exact k ι H _ m Ext.refl (.int _)⟩
  · rename_i t _
    obtain ⟨v, rfl, rv⟩ := r.one rfl
    cases e : seqT M t with
    | none => rw [e] at h; cases h
    | some xs =>
      rw [e] at h
      cases h
      obtain ⟨a, ws, rfl, hs, rs⟩ := seqT_ok m rv e
      exact .inl ⟨a, ws, rfl, hs, by rw [← rs.length]; exact k ι H _ m Ext.refl (.int _)⟩
  · cases h
def bTuple : OpN := fun M ts => match ts with
  | [.tup xs] => some (.tup xs)
  | [t] => (lstT M t).map .tup
  | _ => none
abbrev rTuple (K : PySem.W.Frag) : List V → Hp → VK → Prop := fun xs H Q => ∃ p ys, xs = [.ref p] ∧ ((SqL K H p ys ∧ ∀ l, H l = none → Q (.ref l) (upd H l (.tup ys))) ∨ (SqT K H p ys ∧ Q (.ref p) H))
theorem bTuple_ok : CallS K Ω (rTuple K) bTuple := fun Z ι M H ts vs z Q m r h k => by
  unfold bTuple at h
  split at h
  · cases h
    obtain ⟨v, rfl, rv⟩ := r.one rfl
    cases rv with
    | tup hs rs => exact ⟨_, _, rfl, .inr ⟨.of hs, k ι H _ m Ext.refl (.tup hs rs)⟩⟩
  · rename_i t _
    obtain ⟨v, rfl, rv⟩ := r.one rfl
    cases e : lstT M t with
    | none => rw [e] at h; cases h
    | some xs =>
      rw [e] at h
      cases h
      obtain ⟨a, ws, rfl, hs, rs⟩ := lstT_ok m rv e
      exact ⟨a, ws, rfl, .inl ⟨hs, fun l nl => k ι _ _ (m.lay nl) (Ext.new nl) (.tup upd_same (rs.ext (Ext.new nl)))⟩⟩
  · cases h
def bList : Mem → List T → Option (List T) := fun M ts => match ts with
  | [t] => seqT M t
  | _ => none
abbrev rListOf (K : PySem.W.Frag) : List V → Hp → VK → Prop := fun xs H Q => ∃ p ys, xs = [.ref p] ∧ (SqL K H p ys ∨ SqT K H p ys) ∧ ∀ l, H l = none → Q (.ref l) (upd H l (.lst ys))
theorem bList_ok : CallL K Ω (rListOf K) bList := fun Z ι M H ts vs zs Q m r h k => by
  unfold bList at h
  split at h
  · rename_i t
    obtain ⟨v, rfl, rv⟩ := r.one rfl
    obtain ⟨a, ws, rfl, hs, rs⟩ := seqT_ok m rv h
    exact ⟨a, ws, rfl, hs, fun l nl => k l ws nl rs⟩
  · cases h
/-! ### all, any, sum, max, min of lists -/
def boolsT : List T → Option (List Bool)
  | [] => some []
  | .bl b :: ts => (boolsT ts).map (b :: ·)
  | _ => none
def intsT : List T → Option (List Int)
  | [] => some []
  | .int b :: ts => (intsT ts).map (b :: ·)
  | _ => none
theorem bools_ok : ∀ {ts : List T} {bs : List Bool} {vs : List V}, boolsT ts = some bs → Rs K Ω Z ι M H ts vs → vs = bs.map V.bl
  | [], bs, vs, h, r => by cases h; cases r; rfl
  | t :: ts, bs, vs, h, r => by
    cases t with
    | bl b =>
      have h : (boolsT ts).map (b :: ·) = some bs := h
      cases e : boolsT ts with
      | none => rw [e] at h; cases h
      | some cs =>
        rw [e] at h
        cases h
        cases r with
        | cons r1 r2 => cases r1; rw [bools_ok e r2]; rfl
    | _ => cases h
theorem ints_ok : ∀ {ts : List T} {bs : List Int} {vs : List V}, intsT ts = some bs → Rs K Ω Z ι M H ts vs → vs = bs.map V.int
  | [], bs, vs, h, r => by cases h; cases r; rfl
  | t :: ts, bs, vs, h, r => by
    cases t with
    | int b =>
      have h : (intsT ts).map (b :: ·) = some bs := h
      cases e : intsT ts with
      | none => rw [e] at h; cases h
      | some cs =>
        rw [e] at h
        cases h
        cases r with
        | cons r1 r2 => cases r1; rw [ints_ok e r2]; rfl
    | _ => cases h
def bBools (g : List Bool → Bool) : OpN := fun M ts => match ts with
  | [t] => ((lstT M t).bind boolsT).map fun bs => .bl (g bs)
  | _ => none
theorem bBools_ok {g : List Bool → Bool} {r : List V → Hp → VK → Prop} (hr : ∀ H Q a bs, SqL K H a (bs.map V.bl) → Q (.bl (g bs)) H → r [.ref a] H Q) : CallS K Ω r (bBools g) := fun Z ι M H ts vs z Q m rs h k => by
  unfold bBools at h
  split at h
  · rename_i t
    obtain ⟨v, rfl, rv⟩ := rs.one rfl
    cases e : lstT M t with
    | none => rw [e] at h; cases h
    | some xs =>
      rw [e] at h
      have h : (boolsT xs).map (fun bs => T.bl (g bs)) = some z := h
      cases e2 : boolsT xs with
      | none => rw [e2] at h; cases h
      | some bs =>
        rw [e2] at h
        cases h
        obtain ⟨a, ws, rfl, hs, rs⟩ := lstT_ok m rv e
        rw [bools_ok e2 rs] at hs
        exact hr H Q a bs hs (k ι H _ m Ext.refl (.bl _))
  · cases h
def bAll : OpN := bBools fun bs => bs.all id
def bAny : OpN := bBools fun bs => bs.any id
theorem bAll_ok : CallS K Ω (rAll K) bAll := bBools_ok fun H Q a bs h q => ⟨a, bs, rfl, h, q⟩
theorem bAny_ok : CallS K Ω (rAny K) bAny := bBools_ok fun H Q a bs h q => ⟨a, bs, rfl, h, q⟩
def bInts (g : List Int → Option Int) : OpN := fun M ts => match ts with
  | [t] => (((lstT M t).bind intsT).bind g).map .int
  | _ => none
theorem bInts_ok {g : List Int → Option Int} {r : List V → Hp → VK → Prop} (hr : ∀ H Q a ns i, SqL K H a (ns.map V.int) → g ns = some i → Q (.int i) H → r [.ref a] H Q) : CallS K Ω r (bInts g) := fun Z ι M H ts vs z Q m rs h k => by
  unfold bInts at h
  split at h
  · rename_i t
    obtain ⟨v, rfl, rv⟩ := rs.one rfl
    cases e : lstT M t with
    | none => rw [e] at h; cases h
    | some xs =>
      rw [e] at h
      have h : ((intsT xs).bind g).map T.int = some z := h
      cases e2 : intsT xs with
      | none => rw [e2] at h; cases h
      | some ns =>
        rw [e2] at h
        have h : (g ns).map T.int = some z := h
        cases e3 : g ns with
        | none => rw [e3] at h; cases h
        | some i =>
          rw [e3] at h
          cases h
          obtain ⟨a, ws, rfl, hs, rs⟩ := lstT_ok m rv e
          rw [ints_ok e2 rs] at hs
          exact hr H Q a ns i hs e3 (k ι H _ m Ext.refl (.int _))
  · cases h
def bSum : OpN := bInts fun ns => some ns.sum
theorem bSum_ok : CallS K Ω (rSum K) bSum := bInts_ok fun H Q a ns i h e q => ⟨a, ns, rfl, h, by cases e; exact q⟩
def maxI : List Int → Option Int
  | [] => none
  | n :: ns => match maxI ns with
    | none => some n
    | some m => some (if n < m then m else n)
theorem maxI_ok : ∀ {ns : List Int} {i : Int}, maxI ns = some i → i ∈ ns ∧ ∀ y ∈ ns, y ≤ i
  | [], _, h => by cases h
  | n :: ns, i, h => by
    unfold maxI at h
    cases e : maxI ns with
    | none =>
      rw [e] at h
      cases h
      cases ns with
      | nil => exact ⟨by simp, fun y hy => by simp at hy; omega⟩
      | cons a r =>
        unfold maxI at e
        split at e <;> cases e
    | some m =>
      rw [e] at h
      cases h
      obtain ⟨h1, h2⟩ := maxI_ok e
      split
      · exact ⟨List.mem_cons_of_mem _ h1, fun y hy => (List.mem_cons.mp hy).elim (fun q => by omega) (h2 y)⟩
      · exact ⟨by simp, fun y hy => (List.mem_cons.mp hy).elim (fun q => by omega) (fun q => by have := h2 y q; omega)⟩
def minI (ns : List Int) : Option Int := (maxI (ns.map fun n => -n)).map fun n => -n
theorem minI_ok {ns : List Int} {i : Int} (h : minI ns = some i) : i ∈ ns ∧ ∀ y ∈ ns, i ≤ y := by
  unfold minI at h
  cases e : maxI (ns.map fun n => -n) with
  | none => rw [e] at h; cases h
  | some m =>
    rw [e] at h
    cases h
    obtain ⟨h1, h2⟩ := maxI_ok e
    obtain ⟨x, hx, ex⟩ := List.mem_map.mp h1
    refine ⟨by show -m ∈ ns; rw [← ex, Int.neg_neg]; exact hx, fun y hy => ?_⟩
    have := h2 (-y) (List.mem_map.mpr ⟨y, hy, rfl⟩)
    show -m ≤ y
    omega
def bMax1 : OpN := bInts maxI
def bMin1 : OpN := bInts minI
theorem bMax1_ok : CallS K Ω (rMax K) bMax1 := bInts_ok fun H Q a ns i h e q => by
  obtain ⟨h1, h2⟩ := maxI_ok e
  refine ⟨a, ns, rfl, h, List.length_pos_of_mem h1, fun m hm hle => ?_⟩
  have : m = i := by have := h2 m hm; have := hle i h1; omega
  rw [this]; exact q
theorem bMin1_ok : CallS K Ω (rMin K) bMin1 := bInts_ok fun H Q a ns i h e q => by
  obtain ⟨h1, h2⟩ := minI_ok e
  refine ⟨a, ns, rfl, h, List.length_pos_of_mem h1, fun m hm hle => ?_⟩
  have : m = i := by have := h2 m hm; have := hle i h1; omega
  rw [this]; exact q
/-! ### int, str, abs, max, min -/
abbrev rInt1 : List V → Hp → VK → Prop := fun xs H Q => (∃ i, xs = [.int i] ∧ Q (.int i) H) ∨ ∃ k, xs = [.bl k] ∧ Q (.int (if k then 1 else 0)) H
abbrev rIntS : List V → Hp → VK → Prop := fun xs H Q => ∃ a n, xs = [.str a] ∧ PySem.intText? a = some n ∧ a.length ≤ 640 ∧ Q (.int n) H
abbrev rInt2 : List V → Hp → VK → Prop := fun xs H Q => rInt1 xs H Q ∨ rIntS xs H Q
theorem call_int2 : CallR X (.type "int") rInt2 := call_int1.or call_int_str
def bInt : OpN := fun _ ts => match ts with
  | [.int i] => some (.int i)
  | [.bl k] => some (.int (if k then 1 else 0))
  | [.str x] => bif ground x && decide (x.length ≤ 640) then (PySem.intText? (toStr x)).map .int else none
  | _ => none
theorem bInt_ok : CallS K Ω rInt2 bInt := fun Z ι M H ts vs z Q m r h k => by
  unfold bInt at h
  split at h
  · cases h
    obtain ⟨v, rfl, rv⟩ := r.one rfl
    cases rv
    exact .inl (.inl ⟨_, rfl, k ι H _ m Ext.refl (.int _)⟩)
  · cases h
    obtain ⟨v, rfl, rv⟩ := r.one rfl
    cases rv
    exact .inl (.inr ⟨_, rfl, k ι H _ m Ext.refl (.int _)⟩)
  · rename_i x
    cases e : ground x && decide (x.length ≤ 640) with
    | false => rw [e] at h; cases h
    | true =>
      rw [e] at h
      rw [Bool.and_eq_true, decide_eq_true_eq] at e
      have h : (PySem.intText? (toStr x)).map T.int = some z := h
      cases e2 : PySem.intText? (toStr x) with
      | none => rw [e2] at h; cases h
      | some n =>
        rw [e2] at h
        cases h
        obtain ⟨v, rfl, rv⟩ := r.one rfl
        cases rv with
        | str _ s hs _ =>
          rw [spell_ground e.1] at hs
          have es := toStr_of hs
          subst es
          refine .inr ⟨_, n, rfl, e2, ?_, k ι H _ m Ext.refl (.int _)⟩
          show (toStr x).cps.size ≤ 640
          unfold toStr
          simpa using e.2
  · cases h
abbrev rAbs : List V → Hp → VK → Prop := fun xs H Q => ∃ i, xs = [.int i] ∧ Q (.int (if i < 0 then -i else i)) H
def bAbs : OpN := fun _ ts => match ts with
  | [.int i] => some (.int (if i < 0 then -i else i))
  | _ => none
theorem bAbs_ok : CallS K Ω rAbs bAbs := fun Z ι M H ts vs z Q m r h k => by
  unfold bAbs at h
  split at h
  · cases h
    obtain ⟨v, rfl, rv⟩ := r.one rfl
    cases rv
    exact ⟨_, rfl, k ι H _ m Ext.refl (.int _)⟩
  · cases h
abbrev rMax2 : List V → Hp → VK → Prop := fun xs H Q => ∃ i j, xs = [.int i, .int j] ∧ Q (.int (if j > i then j else i)) H
abbrev rMin2 : List V → Hp → VK → Prop := fun xs H Q => ∃ i j, xs = [.int i, .int j] ∧ Q (.int (if j < i then j else i)) H
def bMax2 : OpN := fun _ ts => match ts with
  | [.int i, .int j] => some (.int (if j > i then j else i))
  | _ => none
def bMin2 : OpN := fun _ ts => match ts with
  | [.int i, .int j] => some (.int (if j < i then j else i))
  | _ => none
theorem bMax2_ok : CallS K Ω rMax2 bMax2 := fun Z ι M H ts vs z Q m r h k => by
  unfold bMax2 at h
  split at h
  · cases h
    obtain ⟨v, w, rfl, rv, rw'⟩ := r.two rfl
    cases rv
    cases rw'
    exact ⟨_, _, rfl, k ι H _ m Ext.refl (.int _)⟩
  · cases h
theorem bMin2_ok : CallS K Ω rMin2 bMin2 := fun Z ι M H ts vs z Q m r h k => by
  unfold bMin2 at h
  split at h
  · cases h
    obtain ⟨v, w, rfl, rv, rw'⟩ := r.two rfl
    cases rv
    cases rw'
    exact ⟨_, _, rfl, k ι H _ m Ext.refl (.int _)⟩
  · cases h
abbrev rStrI : List V → Hp → VK → Prop := fun xs H Q => ∃ i, xs = [.int i] ∧ i.natAbs.log2 < 1920 ∧ Q (.str (toString i)) H
def bStr : OpN := fun _ ts => match ts with
  | [.int i] => bif decide (i.natAbs < 1000000) then some (.str (Str.cps (toString i : Str)).toList) else none
  | _ => none
/-! ### isinstance -/
def tyName (M : Mem) : T → Option String
  | .non => some "NoneType"
  | .bl _ => some "bool"
  | .int _ => some "int"
  | .str _ => some "str"
  | .tup _ => some "tuple"
  | .ktup _ => none
  | .klst _ => none
  | .lst _ => some "list"
  | .dct false _ => some "dict"
  | .dct true _ => none
  | .obj _ _ => none
  | .loc n => match M[n]? with
    | some (.lst _) => some "list"
    | some (.dct _ _) => some "dict"
    | _ => none
/-- whether a built-in type is below another one -/
def subTy (a b : String) : Bool := a == b || (a == "bool" && b == "int")
def eIsT (n : String) (f : EF) : EF := fun σ M => (f σ M).bind fun t M1 => match tyName M1 t with
  | some a => .ok (.bl (subTy a n)) M1
  | none => .err
end
end Mi
namespace Mi
open PySem PySem.Spec PyProof.Rows L2

section
variable {K : PySem.W.Frag} {Ω : Om} {X : Cx} {W : WX} {Z ι : List Addr} {M : Mem} {H : Hp} {e e2 o : Expr} {es : List Expr} {fa : AF} {f g fo : EF} {pos p apos cpos p1 : Pos}
/-! ### isinstance -/
theorem tyName_ok {t : T} {v : V} {a : String} (m : RM K Ω Z ι M H) (r : R K Ω Z ι M H t v) (h : tyName M t = some a) : TyX K H v (.type a) := by
  cases r with
  | non => cases h; exact .base .non
  | bl b => cases h; exact .base (.bl b)
  | int i => cases h; exact .base (.int i)
  | str x s _ _ => cases h; exact .base (.str s)
  | tup q rs => cases h; exact .base (.tup q)
  | ktup _ _ => cases h
  | klst _ _ => cases h
  | lst q n rs =>
    cases h
    exact .base (.lst q)
  | dK q n k rs =>
    cases h
    rcases q with q | ⟨_, q⟩
    · exact .base (.dK q)
    · exact .fDict q
  | dT q n k rs => cases h
  | obj _ _ _ _ => cases h
  | loc q =>
    rename_i n a'
    obtain ⟨ob, e, ro⟩ := m.at q
    have h : (match M[n]? with | some (MO.lst _) => some "list" | some (MO.dct _ _) => some "dict" | _ => none) = some a := h
    rw [e] at h
    cases ro with
    | lst hl _ => cases h; exact .base (.lst hl)
    | dK hl _ _ => cases h; exact .base (.dK hl)
    | dT hl _ _ => cases h; exact .base (.dT hl)
    | gone _ => cases h
    | obj _ _ _ => cases h
theorem kit_sub {a n : String} (ha : a ∈ ["NoneType", "bool", "int", "str", "tuple", "list", "dict"]) (hn : n ∈ ["bool", "int", "str", "tuple", "list", "dict"]) : PySem.W.kitOne K (.type a) (.type n) = some (subTy a n) := by
  have h : ∀ a ∈ ["NoneType", "bool", "int", "str", "tuple", "list", "dict"], ∀ n ∈ ["bool", "int", "str", "tuple", "list", "dict"], kitB a n = some (subTy a n) := by decide +kernel
  exact kit_ty (h a ha n hn)
theorem tyName_mem {t : T} {a : String} (h : tyName M t = some a) : a ∈ ["NoneType", "bool", "int", "str", "tuple", "list", "dict"] := by
  unfold tyName at h
  split at h <;> first
    | (cases h; simp; done)
    | (split at h <;> first | (cases h; simp; done) | cases h)
    | cases h
theorem me_isT {n : String} {x : Str} (hn : n ∈ ["bool", "int", "str", "tuple", "list", "dict"]) (hgI : Gl X "isinstance") (hmI : X.mg "isinstance" = none) (hg : Gl X x) (hm : X.mg x = none) (hv : bootBuiltins x = some (.type n)) (he : ME X Ω W e f)
    (hnn : x ≠ "__name__" := by decide) (hd : (x == ("__debug__" : Str)) = false := by decide) (hs1 : starEach [e, .Name x p1] X.env = (false, eval e X.env) :: starEach [.Name x p1] X.env := by rfl) (hs2 : starEach [.Name x p1] X.env = (false, eval (.Name x p1) X.env) :: starEach [] X.env := by rfl) (hpl : (backTo pos (starEach [.Name x p1] X.env)).any (·.1) = false := by rfl) :
    ME X Ω W (.Call (.Name "isinstance" p) [e, .Name x p1] [] pos) (eIsT n f) := by
  have hB : PE X (.Name x p1) (tC (.ty n)) := pe_bltn hg hm hv rfl hnn hd
  refine L2PE.imp (pe_callB call_isi hgI hmI (by decide +kernel) (pa_cons he (pa_cons hB pa_nil hs2) hs1) (by decide) (by decide) hs1 hpl) fun σ H Q ⟨Z, ι, M, σT, m, rv, q⟩ => ⟨Z, ι, M, σT, m, rv, Post.bind q fun ι1 M1 H1 t v m1 e1 q1 p1 => ?_⟩
  cases ht : tyName M1 t with
  | none => rw [ht] at p1; exact p1.elim
  | some a =>
    rw [ht] at p1
    exact ⟨v, .ty n, .type a, .type n, subTy a n, rfl, .ty n, tyName_ok m1 q1 ht, kit_sub (tyName_mem ht) hn, p1.pure m1 (.bl _)⟩
/-! ### str of an int -/
theorem numL_ground (n : Nat) : ∀ c ∈ TL.numL n, c < symB := fun c h => by
  have := (TL.numL_digits n) c h
  unfold symB
  omega
theorem numL_len : ∀ (n k : Nat), n < 10 ^ k → (TL.numL n).length ≤ k + 1
  | n, 0, h => by
    have : n = 0 := by simpa using h
    subst this
    rw [TL.numL_lt (by decide)]
    simp
  | n, k + 1, h => by
    by_cases h10 : n < 10
    · rw [TL.numL_lt h10]
      simp
    · rw [TL.numL_step (by omega), List.length_append]
      have := numL_len (n / 10) k (by rw [Nat.pow_succ] at h; omega)
      simp
      omega
def bStrI : OpN := fun _ ts => match ts with
  | [.int i] => bif decide (0 ≤ i) && decide (i < 10000000000) then some (.str (TL.numL i.toNat)) else none
  | _ => none
theorem bStrI_ok : CallS K Ω rStrI bStrI := fun Z ι M H ts vs z Q m r h k => by
  unfold bStrI at h
  split at h
  · rename_i i
    cases e : decide (0 ≤ i) && decide (i < 10000000000) with
    | false => rw [e] at h; cases h
    | true =>
      rw [e] at h
      cases h
      rw [Bool.and_eq_true, decide_eq_true_eq, decide_eq_true_eq] at e
      obtain ⟨v, rfl, rv⟩ := r.one rfl
      cases rv
      obtain ⟨n, rfl⟩ := Int.eq_ofNat_of_zero_le e.1
      have hn : n < 10 ^ 10 := by omega
      have hl : n.log2 < 1920 := by
        by_cases h0 : n = 0
        · subst h0; decide
        · exact (Nat.log2_lt h0).mpr (Nat.lt_of_lt_of_le hn (Nat.le_trans (show (10 : Nat) ^ 10 ≤ 2 ^ 34 by decide) (Nat.pow_le_pow_right (by decide) (by decide))))
      refine ⟨_, rfl, hl, k ι H _ m Ext.refl (.str _ _ ?_ ?_)⟩
      · show _ = spell Ω.rho (TL.numL n)
        rw [spell_ground (by unfold ground; exact List.all_eq_true.mpr fun c hc => decide_eq_true (numL_ground n c hc))]
        exact TL.tl_num n
      · have := numL_len n 10 hn
        show (TL.numL n).length ≤ 2000000
        omega
  · cases h
/-! ### split and join -/
/-- cut at a sign -/
def splitC (s : Nat) : List Nat → List (List Nat)
  | [] => [[]]
  | c :: x => bif c == s then [] :: splitC s x else match splitC s x with
    | [] => [[c]]
    | p :: ps => (c :: p) :: ps
def joinC (S : List Nat) : List (List Nat) → List Nat
  | [] => []
  | [p] => p
  | p :: q :: r => p ++ (S ++ joinC S (q :: r))
theorem joinC_eq (S : List Nat) : ∀ l, TL.joinL S l = joinC S l
  | [] => rfl
  | [_] => rfl
  | p :: q :: r => by
    show p ++ (S ++ TL.joinL S (q :: r)) = p ++ (S ++ joinC S (q :: r))
    rw [joinC_eq S (q :: r)]
theorem splitC_ne (s : Nat) : ∀ x, splitC s x ≠ []
  | [] => nofun
  | c :: x => by
    unfold splitC
    cases c == s with
    | true => exact nofun
    | false =>
      dsimp only [cond_false]
      split <;> exact nofun
theorem join_split (s : Nat) : ∀ x, joinC [s] (splitC s x) = x
  | [] => rfl
  | c :: x => by
    have ih := join_split s x
    unfold splitC
    cases e : c == s with
    | true =>
      dsimp only [cond_true]
      have := beq_iff_eq.mp e
      subst this
      cases h : splitC c x with
      | nil => exact absurd h (splitC_ne c x)
      | cons p ps =>
        rw [h] at ih
        show [] ++ ([c] ++ joinC [c] (p :: ps)) = c :: x
        rw [ih]
        rfl
    | false =>
      dsimp only [cond_false]
      cases h : splitC s x with
      | nil => exact absurd h (splitC_ne s x)
      | cons p ps =>
        rw [h] at ih
        dsimp only
        cases ps with
        | nil => show c :: p = c :: x; rw [show p = x from ih]
        | cons q r =>
          have ih : p ++ ([s] ++ joinC [s] (q :: r)) = x := ih
          show c :: p ++ ([s] ++ joinC [s] (q :: r)) = c :: x
          rw [List.cons_append, ih]
theorem splitC_mem (s : Nat) : ∀ x, ∀ q ∈ splitC s x, s ∉ q ∧ ∀ c ∈ q, c ∈ x
  | [], q, h => by
    have : q = [] := by simpa [splitC] using h
    subst this
    simp
  | c :: x, q, h => by
    unfold splitC at h
    cases e : c == s with
    | true =>
      rw [e] at h
      rcases List.mem_cons.mp h with rfl | h
      · simp
      · obtain ⟨a, b⟩ := splitC_mem s x q h
        exact ⟨a, fun d hd => List.mem_cons_of_mem _ (b d hd)⟩
    | false =>
      rw [e] at h
      dsimp only [cond_false] at h
      cases z : splitC s x with
      | nil => exact absurd z (splitC_ne s x)
      | cons p ps =>
        rw [z] at h
        have ih := splitC_mem s x
        rw [z] at ih
        rcases List.mem_cons.mp h with rfl | h
        · obtain ⟨a, b⟩ := ih p (by simp)
          have ne : s ≠ c := fun w => by rw [w, beq_self_eq_true] at e; cases e
          exact ⟨fun w => (List.mem_cons.mp w).elim ne a, fun d hd => (List.mem_cons.mp hd).elim (fun w => by simp [w]) fun w => List.mem_cons_of_mem _ (b d w)⟩
        · obtain ⟨a, b⟩ := ih q (List.mem_cons_of_mem _ h)
          exact ⟨a, fun d hd => List.mem_cons_of_mem _ (b d hd)⟩
theorem spell_joinC (r : Nat → List Nat) (S : List Nat) : ∀ l, spell r (joinC S l) = joinC (spell r S) (l.map (spell r))
  | [] => rfl
  | [_] => rfl
  | p :: q :: l => by
    show spell r (p ++ (S ++ joinC S (q :: l))) = spell r p ++ (spell r S ++ joinC (spell r S) ((q :: l).map (spell r)))
    rw [spell_app, spell_app, spell_joinC r S (q :: l)]
theorem spell_notin {s : Nat} (hs : s < 97) {x : List Nat} (h : s ∉ x) : s ∉ spell Ω.rho x := fun z => by
  unfold spell at z
  obtain ⟨c, hc, hz⟩ := List.mem_flatMap.mp z
  split at hz
  · have : s = c := by simpa using hz
    exact h (this ▸ hc)
  · have := Ω.rch c s hz
    omega
/-- o.split(sep), the sep a sign below the letters -/
def mSplit (t u : T) : Option (List T) := match t, u with
  | .str x, .str [s] => bif decide (s < 97) && decide (x.length ≤ 200000) then some ((splitC s x).map .str) else none
  | _, _ => none
def lSplit (f g : EF) : AF := fun σ M => (f σ M).bind fun t M1 => match t with
  | .str _ => (g σ M1).bind fun u M2 => .of (mSplit t u) M2
  | _ => .err
theorem tl_is (x : Str) : TL.tl x = x.cps.toList := rfl
theorem splitC_len (s : Nat) : ∀ x : List Nat, ∀ q ∈ splitC s x, q.length ≤ x.length
  | [], q, h => by
    have : q = [] := by simpa [splitC] using h
    subst this
    simp
  | c :: x, q, h => by
    unfold splitC at h
    have ih := splitC_len s x
    cases e : c == s with
    | true =>
      rw [e] at h
      rcases List.mem_cons.mp h with rfl | h
      · simp
      · have := ih q h
        simp
        omega
    | false =>
      rw [e] at h
      dsimp only [cond_false] at h
      cases z : splitC s x with
      | nil => exact absurd z (splitC_ne s x)
      | cons p ps =>
        rw [z] at h ih
        rcases List.mem_cons.mp h with rfl | h
        · have := ih p (by simp)
          simp
          omega
        · have := ih q (List.mem_cons_of_mem _ h)
          simp
          omega
theorem rs_strs : ∀ {l : List (List Nat)}, (∀ q ∈ l, q.length ≤ 2000000) → Rs K Ω Z ι M H (l.map .str) ((l.map fun q => toStr (spell Ω.rho q)).map V.str)
  | [], _ => .nil
  | q :: l, h => .cons (.str q _ (by simp [toStr]) (h q (by simp))) (rs_strs fun z hz => h z (List.mem_cons_of_mem _ hz))
theorem split_ok {x : List Nat} {a b : Str} {s : Nat} (hs : s < 97) (ha : a.cps.toList = spell Ω.rho x) (hb : b.cps.toList = [s]) : Txt.split a b = (splitC s x).map fun q => toStr (spell Ω.rho q) := by
  have hj : Txt.join b ((splitC s x).map fun q => toStr (spell Ω.rho q)) = a := by
    have e1 : TL.tl (Txt.join b ((splitC s x).map fun q => toStr (spell Ω.rho q))) = TL.tl a := by
      rw [TL.join_eq, TL.tl_join, joinC_eq, List.map_map]
      have e2 : (splitC s x).map (TL.tl ∘ fun q => toStr (spell Ω.rho q)) = (splitC s x).map (spell Ω.rho) := List.map_congr_left fun q _ => by simp [TL.tl, toStr]
      rw [e2, show TL.tl b = [s] from hb]
      have e3 := spell_joinC Ω.rho [s] (splitC s x)
      rw [join_split] at e3
      have e4 : spell Ω.rho [s] = [s] := spell_ground (by unfold ground; simp; unfold symB; omega)
      rw [e4] at e3
      rw [← e3]
      exact ha.symm
    have h2 : (Txt.join b ((splitC s x).map fun q => toStr (spell Ω.rho q))).cps.toList = a.cps.toList := e1
    exact (toStr_of h2).trans (toStr_of rfl).symm
  rw [← hj]
  refine TL.split_join (s := s) (S := []) hb ?_ (fun e => splitC_ne s x (List.map_eq_nil_iff.mp e)) fun q hq => ?_
  · rw [← Array.all_toList, hb]
    simp
    omega
  · obtain ⟨w, hw, rfl⟩ := List.mem_map.mp hq
    show s ∉ (toStr (spell Ω.rho w)).cps.toList
    simp only [toStr]
    exact spell_notin hs (splitC_mem s x w hw).1
theorem ml_split (ho : ME X Ω W o f) (he : ME X Ω W e g) (hs : starEach [e] X.env = [(false, eval e X.env)] := by rfl) (hbase : attributeBase o "split" X.env (eval o X.env) = eval o X.env := by rfl) (hline : (apos.endLine == pos.line) = true := by rfl) :
    ML X Ω W (.Call (.Attribute o "split" apos) [e] [] pos) (lSplit f g) := L2PE.imp (pe_split ho he hs hbase hline) fun σ H Q ⟨Z, ι, M, σT, m, rv, q⟩ => by
  refine ⟨Z, ι, M, σT, m, rv, ?_⟩
  unfold lSplit at q
  cases q1 : f σT M with
  | exc c t M1 => rw [q1] at q; exact q
  | err => rw [q1] at q; exact q
  | ok t M1 =>
    rw [q1] at q
    intro ι1 H1 v m1 e1 r1
    simp only [Res.bind] at q
    cases r1 with
    | str x a ha _ =>
      refine ⟨⟨a, rfl⟩, Z, ι1, M1, σT, m1, rv.ext e1.any, ?_⟩
      dsimp only at q
      cases q2 : g σT M1 with
      | err => rw [q2] at q; exact q.elim
      | exc c u M2 =>
        rw [q2] at q
        exact fun ι2 H2 dd w m2 e2 r2 x2 => q ι2 H2 dd w m2 (e1.trans e2) r2 x2
      | ok u M2 =>
        rw [q2] at q
        simp only [Res.bind] at q
        intro ι2 H2 w m2 e2 r2
        cases z : mSplit (.str x) u with
        | none => rw [z] at q; exact q.elim
        | some zs =>
          rw [z] at q
          unfold mSplit at z
          split at z
          · rename_i x s hx
            cases hx
            cases y : decide (s < 97) && decide (x.length ≤ 200000) with
            | false => rw [y] at z; cases z
            | true =>
              rw [y] at z
              cases z
              rw [Bool.and_eq_true, decide_eq_true_eq, decide_eq_true_eq] at y
              cases r2 with
              | str _ b hb _ =>
                rw [spell_ground (by unfold ground; simp; unfold symB; omega)] at hb
                refine ⟨a, b, rfl, rfl, ?_, ?_, fun p' np => ?_⟩
                · have : b.length = 1 := by
                    show b.cps.size = 1
                    rw [← Array.length_toList, hb]
                    rfl
                  rw [this]
                  rfl
                · have h8 := spell_le (Ω := Ω) (x := x)
                  have : a.length = (spell Ω.rho x).length := by
                    rw [← ha, Array.length_toList]
                    rfl
                  rw [sizeLine_eq]
                  omega
                · rw [split_ok y.1 ha hb]
                  exact laid_of (σ := σ) m2 (e1.trans e2) q np (rs_strs fun w hw => by have := splitC_len s x w hw; omega)
          · cases z
    | _ => exact q.elim
/-- sep.join(texts) -/
def strsT : List T → Option (List (List Nat))
  | [] => some []
  | .str x :: ts => (strsT ts).map (x :: ·)
  | _ => none
def mJoin (M : Mem) (t u : T) : Option T := match t, seqT M u with
  | .str s, some ts => (strsT ts).bind fun xs => bif decide ((xs.map List.length).sum + xs.length * s.length ≤ 200000) then some (.str (joinC s xs)) else none
  | _, _ => none
def eJoin (f g : EF) : EF := fun σ M => (f σ M).bind fun t M1 => match t with
  | .str _ => (g σ M1).bind fun u M2 => .of (mJoin M2 t u) M2
  | _ => .err
theorem strsT_ok : ∀ {ts : List T} {xs : List (List Nat)} {vs : List V}, strsT ts = some xs → Rs K Ω Z ι M H ts vs → vs = (xs.map fun q => toStr (spell Ω.rho q)).map V.str
  | [], xs, vs, h, r => by cases h; cases r; rfl
  | t :: ts, xs, vs, h, r => by
    cases t with
    | str x =>
      have h : (strsT ts).map (x :: ·) = some xs := h
      cases e : strsT ts with
      | none => rw [e] at h; cases h
      | some cs =>
        rw [e] at h
        cases h
        cases r with
        | cons r1 r2 =>
          cases r1 with
          | str _ s hs _ => rw [strsT_ok e r2, toStr_of hs]; rfl
    | _ => cases h
theorem spell_sum : ∀ xs : List (List Nat), ((xs.map fun q => toStr (spell Ω.rho q)).map (·.length)).sum ≤ 8 * (xs.map List.length).sum
  | [] => Nat.le_refl _
  | x :: xs => by
    have h1 := spell_sum xs
    have h2 := spell_le (Ω := Ω) (x := x)
    have h3 : (toStr (spell Ω.rho x)).length = (spell Ω.rho x).length := by
      show (toStr (spell Ω.rho x)).cps.size = _
      simp [toStr]
    simp only [List.map_cons, List.sum_cons]
    omega
theorem joinC_len (S : List Nat) : ∀ l : List (List Nat), (joinC S l).length ≤ (l.map List.length).sum + l.length * S.length
  | [] => Nat.zero_le _
  | [p] => by simp [joinC]
  | p :: q :: r => by
    have := joinC_len S (q :: r)
    simp only [joinC, List.length_append, List.map_cons, List.sum_cons, List.length_cons, Nat.succ_mul] at this ⊢
    omega
theorem me_join (ho : ME X Ω W o f) (he : ME X Ω W e g) (hs : starEach [e] X.env = [(false, eval e X.env)] := by rfl) (hbase : attributeBase o "join" X.env (eval o X.env) = eval o X.env := by rfl) (hline : (apos.endLine == pos.line) = true := by rfl) :
    ME X Ω W (.Call (.Attribute o "join" apos) [e] [] pos) (eJoin f g) := L2PE.imp (pe_join ho he hs hbase hline) fun σ H Q ⟨Z, ι, M, σT, m, rv, q⟩ => ⟨Z, ι, M, σT, m, rv, Post.bind q fun ι1 M1 H1 t v m1 e1 q1 p1 => by
    match t, q1, p1 with
    | .str s, .str _ a ha _, p1 =>
      refine ⟨⟨a, rfl⟩, Z, ι1, M1, σT, m1, rv.ext e1.any, Post.bind p1 fun ι2 M2 H2 u w m2 e2 q2 p2 => ?_⟩
      obtain ⟨z, hz, p2⟩ := Post.of p2
      unfold mJoin at hz
      cases e : seqT M2 u with
      | none => rw [e] at hz; cases hz
      | some ts =>
        rw [e] at hz
        have hz : ((strsT ts).bind fun xs => bif decide ((xs.map List.length).sum + xs.length * s.length ≤ 200000) then some (T.str (joinC s xs)) else none) = some z := hz
        cases e3 : strsT ts with
        | none => rw [e3] at hz; cases hz
        | some xs =>
          rw [e3] at hz
          have hz : (bif decide ((xs.map List.length).sum + xs.length * s.length ≤ 200000) then some (T.str (joinC s xs)) else none) = some z := hz
          cases y : decide ((xs.map List.length).sum + xs.length * s.length ≤ 200000) with
          | false => rw [y] at hz; cases hz
          | true =>
            rw [y] at hz
            cases hz
            have y := of_decide_eq_true y
            obtain ⟨b, vs, rfl, hq, rs⟩ := seqT_ok m2 q2 e
            rw [strsT_ok e3 rs] at hq
            refine ⟨a, b, xs.map fun q => toStr (spell Ω.rho q), rfl, rfl, hq, ?_, p2.pure m2 (.str _ _ ?_ ?_)⟩
            · have h1 := spell_sum (Ω := Ω) xs
              have h2 := spell_le (Ω := Ω) (x := s)
              have h3 : a.length = (spell Ω.rho s).length := by
                rw [← ha, Array.length_toList]
                rfl
              have h4 : xs.length * a.length ≤ 8 * (xs.length * s.length) := by
                rw [h3, ← Nat.mul_left_comm]
                exact Nat.mul_le_mul_left _ h2
              rw [List.length_map]
              omega
            · show TL.tl (Txt.join a _) = _
              rw [TL.join_eq, TL.tl_join, joinC_eq, List.map_map, spell_joinC]
              rw [show TL.tl a = spell Ω.rho s from ha]
              congr 1
            · have := joinC_len s xs
              omega
    | .non, _, p1 => exact p1.elim
    | .bl _, _, p1 => exact p1.elim
    | .int _, _, p1 => exact p1.elim
    | .tup _, _, p1 => exact p1.elim
    | .ktup _, _, p1 => exact p1.elim
    | .klst _, _, p1 => exact p1.elim
    | .lst _, _, p1 => exact p1.elim
    | .dct _ _, _, p1 => exact p1.elim
    | .obj _ _, _, p1 => exact p1.elim
    | .loc _, _, p1 => exact p1.elim⟩
end
end Mi
namespace Mi
open PySem PySem.Spec PyProof.Rows L2

section
variable {K : PySem.W.Frag} {Ω : Om} {X : Cx} {W : WX} {Z ι : List Addr} {M : Mem} {H : Hp} {e e2 o a b : Expr} {es : List Expr} {fa : AF} {f g fo : EF} {pos p apos cpos p1 p2 : Pos}
/-! ### t[i] -/
def ixT (ts : List T) (i : Int) : Option T := atI ts i
def opIx : Op2 := fun M t u => match u with
  | .int i => (match t with
    | .str x => bif ground x then (atI x i).map fun c => .str [c] else none
    | _ => (seqT M t).bind fun ts => atI ts i)
  | _ => none
theorem Rs.atI {ts : List T} {vs : List V} {i : Int} {t : T} (r : Rs K Ω Z ι M H ts vs) (h : L2.atI ts i = some t) : ∃ v, L2.atI vs i = some v ∧ R K Ω Z ι M H t v := by
  unfold L2.atI at h ⊢
  rw [← r.length]
  cases e : ixN ts.length i with
  | none => rw [e] at h; cases h
  | some j =>
    rw [e] at h
    exact r.get h
theorem opIx_ok : OpS K Ω (rIx K) opIx := fun Z ι M H t u v w z Q m r q h k => by
  unfold opIx at h
  split at h
  · rename_i i
    cases q
    split at h
    · rename_i x
      cases r with
      | str _ s hs hl =>
        cases e : ground x with
        | false => rw [e] at h; cases h
        | true =>
          rw [e] at h
          have h : (L2.atI x i).map (fun c => T.str [c]) = some z := h
          cases y : L2.atI x i with
          | none => rw [y] at h; cases h
          | some c =>
            rw [y] at h
            cases h
            have hz := str_size hs hl
            rw [spell_ground e] at hs
            have hc : c < symB := by
              unfold L2.atI at y
              cases z : ixN x.length i with
              | none => rw [z] at y; cases y
              | some j =>
                rw [z] at y
                have : c ∈ x := List.mem_of_getElem? (show x[j]? = some c from y)
                exact of_decide_eq_true (List.all_eq_true.mp e c this)
            refine .inr (.inr ⟨s, i, c, rfl, rfl, hz, by rw [hs]; exact y, k ι H _ m Ext.refl (.str _ _ ?_ (by simp))⟩)
            rw [spell_ground (by unfold ground; simp [hc])]
    · cases e : seqT M t with
      | none => rw [e] at h; cases h
      | some ts =>
        rw [e] at h
        obtain ⟨a, vs, rfl, hs, rs⟩ := seqT_ok m r e
        obtain ⟨x, hx, rx⟩ := rs.atI h
        rcases hs with hs | hs
        · exact .inl ⟨a, vs, i, x, rfl, rfl, hs, hx, k ι H _ m Ext.refl rx⟩
        · exact .inr (.inl ⟨a, vs, i, x, rfl, rfl, hs, hx, k ι H _ m Ext.refl rx⟩)
  · cases h
theorem me_ix (ha : ME X Ω W a f) (hb : ME X Ω W b g) (hs : PlainIx b := by intro _ _; rfl) : ME X Ω W (.Subscript a b pos) (eOp opIx f g) := L2PE.imp (pe_ix ix_seq ha hb hs) fun _ _ _ q => tOp_of opIx_ok q
/-! ### slices -/
def cutT {α : Type} (xs : List α) (lo hi : Option Int) : List α := (xs.drop (HT.sIx xs.length 0 lo)).take (HT.sIx xs.length xs.length hi - HT.sIx xs.length 0 lo)
def pf (o : Option EF) : TV → Mem → Res (Option Int) := fun σ M => match o with
  | none => .ok none M
  | some g => (g σ M).bind fun u M2 => match u with
    | .int i => .ok (some i) M2
    | _ => .err
abbrev MP (X : Cx) (Ω : Om) (W : WX) (e : Option Expr) (o : Option EF) : Prop := PO X e (lift X.K Ω (fun _ _ _ _ a b => a = b) W (pf o))
theorem mp_none : MP X Ω W none none := ⟨fun pins s σ H Q I ⟨Z, ι, M, σT, m, rv, p⟩ => po_none.run pins s σ H Q I (p ι H none m Ext.refl rfl)⟩
theorem mp_some (h : ME X Ω W e f) : MP X Ω W (some e) (some f) := ⟨fun pins s σ H Q I ⟨Z, ι, M, σT, m, rv, p⟩ => (po_some h).run pins s σ H Q I ⟨Z, ι, M, σT, m, rv, Post.bind p fun ι1 M1 H1 t v m1 e1 q1 p1 => by
  cases t with
  | int i => cases q1; exact ⟨i, rfl, p1 ι1 H1 (some i) m1 Ext.refl rfl⟩
  | _ => exact p1.elim⟩⟩
def eSlice (f : EF) (lo hi : Option EF) (op : Mem → T → Option Int → Option Int → Option T) : EF := fun σ M => (f σ M).bind fun t M1 => (pf lo σ M1).bind fun l M2 => (pf hi σ M2).bind fun h M3 => .of (op M3 t l h) M3
/-- of a text, a tuple -/
def slT (M : Mem) (t : T) (lo hi : Option Int) : Option T := match t with
  | .tup xs => some (.tup (cutT xs lo hi))
  | .str x => bif ground x then some (.str (cutT x lo hi)) else none
  | t => (lstT M t).map fun xs => .lst (cutT xs lo hi)
theorem Rs.take {ts : List T} {vs : List V} : ∀ (n : Nat), Rs K Ω Z ι M H ts vs → Rs K Ω Z ι M H (ts.take n) (vs.take n)
  | 0, _ => .nil
  | _ + 1, .nil => .nil
  | n + 1, .cons r t => .cons r (Rs.take n t)
theorem Rs.drop {ts : List T} {vs : List V} : ∀ (n : Nat), Rs K Ω Z ι M H ts vs → Rs K Ω Z ι M H (ts.drop n) (vs.drop n)
  | 0, r => r
  | _ + 1, .nil => .nil
  | n + 1, .cons _ t => Rs.drop n t
theorem Rs.cut {ts : List T} {vs : List V} {lo hi : Option Int} (r : Rs K Ω Z ι M H ts vs) : Rs K Ω Z ι M H (cutT ts lo hi) (cutV vs lo hi) := by
  unfold cutT cutV
  rw [← r.length]
  exact (r.drop _).take _
theorem cut_whole {α : Type} {xs : List α} {lo hi : Option Int} (h : HT.sIx xs.length 0 lo = 0 ∧ HT.sIx xs.length xs.length hi = xs.length) : cutT xs lo hi = xs := by
  unfold cutT
  rw [h.1, h.2, List.drop_zero, Nat.sub_zero, List.take_length]
abbrev rSl2 (K : PySem.W.Frag) : V → Option Int → Option Int → Hp → VK → Prop := fun x lo hi H Q => rSlA K x lo hi H Q ∨ rSlS x lo hi H Q ∨ rSlL K x lo hi H Q
theorem sl_2 : SlR X (rSl2 X.K) := sl_tupA.or (sl_str.or sl_list)
theorem cutS_list (z : Str) (lo hi : Option Int) : (cutS z lo hi).cps.toList = cutT z.cps.toList lo hi := by
  have e : z.length = z.cps.toList.length := by rw [Array.length_toList]; rfl
  unfold cutS cutT
  rw [e]
theorem me_slice {lo hi : Option Expr} {l h : Option EF} (he : ME X Ω W e f) (hl : MP X Ω W lo l) (hu : MP X Ω W hi h) : ME X Ω W (.Subscript e (.Slice lo hi none p2) pos) (eSlice f l h slT) := L2PE.imp (pe_slice sl_2 he hl hu) fun σ H Q ⟨Z, ι, M, σT, m, rv, q⟩ =>
  ⟨Z, ι, M, σT, m, rv, Post.bind q fun ι1 M1 H1 t v m1 e1 q1 p1 => ⟨Z, ι1, M1, σT, m1, rv.ext e1.any, Post.bind p1 fun ι2 M2 H2 l l' m2 e2 q2 p2 => ⟨Z, ι2, M2, σT, m2, (rv.ext e1.any).ext e2.any, Post.bind p2 fun ι3 M3 H3 h h' m3 e3 q3 p3 => by
    cases q2
    cases q3
    obtain ⟨z, hz, p3⟩ := Post.of p3
    have r3 := (q1.ext e2.any).ext e3.any
    unfold slT at hz
    split at hz
    · cases hz
      cases r3 with
      | tup ha rs =>
        refine .inl ⟨_, _, rfl, .of ha, fun w => ?_, fun w p np => ?_⟩
        · rw [← rs.length] at w
          exact p3.pure m3 (by rw [cut_whole w]; exact .tup ha rs)
        · exact p3 ι3 _ _ (m3.lay np) (Ext.new np) (.tup upd_same (rs.cut.ext (Ext.new np)))
    · rename_i x
      cases g : ground x with
      | false => rw [g] at hz; cases hz
      | true =>
        rw [g] at hz
        cases hz
        cases r3 with
        | str _ s hs hx =>
          refine .inr (.inl ⟨s, rfl, str_size hs hx, p3.pure m3 (.str _ _ ?_ ?_)⟩)
          · rw [spell_ground g] at hs
            rw [cutS_list, hs]
            refine (spell_ground ?_).symm
            unfold ground cutT
            refine List.all_eq_true.mpr fun c hc => List.all_eq_true.mp g c ?_
            exact List.mem_of_mem_drop (List.mem_of_mem_take hc)
          · unfold cutT
            rw [List.length_take, List.length_drop]
            omega
    · cases y : lstT M3 t with
      | none => rw [y] at hz; cases hz
      | some xs =>
        rw [y] at hz
        cases hz
        obtain ⟨a, vs, rfl, hs, rs⟩ := lstT_ok m3 r3 y
        exact .inr (.inr ⟨a, vs, rfl, hs, fun p np => p3 ι3 _ _ (m3.lay np) (Ext.new np) (.lst upd_same ⟨m3.notLive np, m3.notZ np⟩ (rs.cut.ext (Ext.new np)))⟩)⟩⟩⟩
/-- of a list: a new one -/
def lSlice (f : EF) (lo hi : Option EF) : AF := fun σ M => (f σ M).bind fun t M1 => (pf lo σ M1).bind fun l M2 => (pf hi σ M2).bind fun h M3 => .of ((lstT M3 t).map fun ts => cutT ts l h) M3
theorem ml_slice {lo hi : Option Expr} {l h : Option EF} (he : ME X Ω W e f) (hl : MP X Ω W lo l) (hu : MP X Ω W hi h) : ML X Ω W (.Subscript e (.Slice lo hi none p2) pos) (lSlice f l h) := L2PE.imp (pe_slice sl_list he hl hu) fun σ H Q ⟨Z, ι, M, σT, m, rv, q⟩ => by
  refine ⟨Z, ι, M, σT, m, rv, ?_⟩
  unfold lSlice at q
  cases q1 : f σT M with
  | exc c t M1 => rw [q1] at q; exact q
  | err => rw [q1] at q; exact q
  | ok t M1 =>
    rw [q1] at q
    simp only [Res.bind] at q
    intro ι1 H1 v m1 e1 r1
    refine ⟨Z, ι1, M1, σT, m1, rv.ext e1.any, ?_⟩
    cases q2 : pf l σT M1 with
    | exc c t M2 => rw [q2] at q; exact fun ι2 H2 dd w m2 e2 r2 x2 => q ι2 H2 dd w m2 (e1.trans e2) r2 x2
    | err => rw [q2] at q; exact q
    | ok l' M2 =>
      rw [q2] at q
      simp only [Res.bind] at q
      intro ι2 H2 l2 m2 e2 r2
      cases r2
      refine ⟨Z, ι2, M2, σT, m2, (rv.ext e1.any).ext e2.any, ?_⟩
      cases q3 : pf h σT M2 with
      | exc c t M3 => rw [q3] at q; exact fun ι3 H3 dd w m3 e3 r3 x3 => q ι3 H3 dd w m3 (e1.trans (e2.trans e3)) r3 x3
      | err => rw [q3] at q; exact q
      | ok h' M3 =>
        rw [q3] at q
        simp only [Res.bind] at q
        intro ι3 H3 h2 m3 e3 r3
        cases r3
        have rt := (r1.ext e2.any).ext e3.any
        cases y : lstT M3 t with
        | none => rw [y] at q; exact q.elim
        | some xs =>
          rw [y] at q
          obtain ⟨a, vs, rfl, hs, rs⟩ := lstT_ok m3 rt y
          exact ⟨a, vs, rfl, hs, fun p np => laid_of (σ := σ) m3 (e1.trans (e2.trans e3)) q np rs.cut⟩
/-! ### methods that change -/
abbrev OpM := Mem → T → List T → Option (T × Mem)
def MtS (K : PySem.W.Frag) (Ω : Om) (ty : String) (r : V → List V → Hp → VK → Prop) (op : OpM) : Prop := ∀ Z ι M H t ts v vs z M' Q, RM K Ω Z ι M H → R K Ω Z ι M H t v → Rs K Ω Z ι M H ts vs → op M t ts = some (z, M') →
  (∀ ι' H' x, RM K Ω Z ι' M' H' → Ext [] ι M H ι' M' H' → R K Ω Z ι' M' H' z x → Q x H') → r v vs H Q
/-- the object is of the type when the arguments are asked -/
def eMt (ty : Mem → T → Bool) (op : OpM) (f : EF) (fa : AF) : EF := fun σ M => (f σ M).bind fun t M1 => bif ty M1 t then (fa σ M1).bind fun ts M2 => match op M2 t ts with
  | some (z, M3) => .ok z M3
  | none => .err
  else .err
theorem me_mt {T' id : String} {name : Str} {r : V → List V → Hp → VK → Prop} {op : OpM} {ty : Mem → T → Bool} (pa : PlainAttrs T') (slot : Slot T' name id) (hty : typeOf (.builtin id) = pure (.type "method_descriptor")) (hm : MtR X id r) (h : MtS X.K Ω T' r op)
    (ht : ∀ Z ι M H t v, RM X.K Ω Z ι M H → R X.K Ω Z ι M H t v → ty M t = true → tyV X.K T' v H) (ho : ME X Ω W o f) (ha : MA X Ω W (e :: es) fa)
    (hbase : attributeBase o name X.env (eval o X.env) = eval o X.env := by rfl)
    (hfew : ((backTo cpos (starEach (e :: es) X.env)).all (fun x => !x.1) && (backToKw cpos (keywordEach [] X.env)).all (fun x => x.1.isSome)
      && decide ((e :: es).length + ([] : List Keyword).length + (if ([] : List Keyword).isEmpty then 0 else 1) < 30)) = true := by rfl)
    (hline : (apos.endLine == cpos.line) = true := by rfl) (hs : starEach (e :: es) X.env = (false, eval e X.env) :: starEach es X.env := by rfl) (hplain : (backTo cpos (starEach es X.env)).any (·.1) = false := by rfl) :
    ME X Ω W (.Call (.Attribute o name apos) (e :: es) [] cpos) (eMt ty op f fa) := L2PE.imp (pe_bm pa slot hty hm ho ha hbase hfew hline hs hplain) fun σ H Q ⟨Z, ι, M, σT, m, rv, q⟩ => ⟨Z, ι, M, σT, m, rv, Post.bind q fun ι1 M1 H1 t v m1 e1 q1 p1 => by
    cases y : ty M1 t with
    | false => rw [y] at p1; exact p1.elim
    | true =>
      rw [y] at p1
      refine ⟨ht Z ι1 M1 H1 t v m1 q1 y, Z, ι1, M1, σT, m1, rv.ext e1.any, Post.bind p1 fun ι2 M2 H2 ts vs m2 e2 q2 p2 => ?_⟩
      cases z : op M2 t ts with
      | none => rw [z] at p2; exact p2.elim
      | some w => rw [z] at p2; exact h Z ι2 M2 H2 t ts v vs w.1 w.2 Q m2 (q1.ext e2.any) q2 z fun ι' H' x m' e' r' => p2 ι' H' x m' e' r'⟩
theorem me_mt0 {T' id : String} {name : Str} {r : V → List V → Hp → VK → Prop} {op : OpM} {ty : Mem → T → Bool} (pa : PlainAttrs T') (slot : Slot T' name id) (hty : typeOf (.builtin id) = pure (.type "method_descriptor")) (hm : MtR X id r) (h : MtS X.K Ω T' r op)
    (ht : ∀ Z ι M H t v, RM X.K Ω Z ι M H → R X.K Ω Z ι M H t v → ty M t = true → tyV X.K T' v H) (ho : ME X Ω W o f)
    (hbase : attributeBase o name X.env (eval o X.env) = eval o X.env := by rfl) (hline : (apos.endLine == cpos.line) = true := by rfl) :
    ME X Ω W (.Call (.Attribute o name apos) [] [] cpos) (eMt ty op f aNil) := L2PE.imp (pe_bm0 pa slot hty hm ho hbase hline) fun σ H Q ⟨Z, ι, M, σT, m, rv, q⟩ => ⟨Z, ι, M, σT, m, rv, Post.bind q fun ι1 M1 H1 t v m1 e1 q1 p1 => by
    cases y : ty M1 t with
    | false => rw [y] at p1; exact p1.elim
    | true =>
      rw [y] at p1
      refine ⟨ht Z ι1 M1 H1 t v m1 q1 y, ?_⟩
      have p1 : Post X.K Ω (R X.K Ω) (fun c d H' => W c d σ H') Z ι1 M1 H1 Q (match op M1 t [] with
        | some (z, M3) => .ok z M3
        | none => .err) := p1
      cases z : op M1 t [] with
      | none => rw [z] at p1; exact p1.elim
      | some w => rw [z] at p1; exact h Z ι1 M1 H1 t [] v [] w.1 w.2 Q m1 q1 .nil z fun ι' H' x m' e' r' => p1 ι' H' x m' e' r'⟩
/-- a mutable list -/
def locL (M : Mem) : T → Option (Nat × List T)
  | .loc n => match M[n]? with
    | some (.lst ts) => some (n, ts)
    | _ => none
  | _ => none
theorem locL_ok {t : T} {v : V} {n : Nat} {ts : List T} (m : RM K Ω Z ι M H) (r : R K Ω Z ι M H t v) (h : locL M t = some (n, ts)) : ∃ a vs, v = .ref a ∧ t = .loc n ∧ ι[n]? = some a ∧ M[n]? = some (.lst ts) ∧ H a = some (.lst vs) ∧ Rs K Ω Z ι M H ts vs := by
  cases r with
  | loc q =>
    rename_i i a
    obtain ⟨o, e, ro⟩ := m.at q
    have h : (match M[i]? with | some (MO.lst ts) => some (i, ts) | _ => none) = some (n, ts) := h
    rw [e] at h
    cases ro with
    | lst hl rs => cases h; exact ⟨_, _, rfl, rfl, q, e, hl, rs⟩
    | gone _ => cases h
    | obj _ _ _ => cases h
    | dK _ _ _ => cases h
    | dT _ _ _ => cases h
  | _ => cases h
def isLoc (M : Mem) (t : T) : Bool := (locL M t).isSome
theorem isLoc_ok {t : T} {v : V} (m : RM K Ω Z ι M H) (r : R K Ω Z ι M H t v) (h : isLoc M t = true) : tyV K "list" v H := by
  unfold isLoc at h
  cases e : locL M t with
  | none => rw [e] at h; cases h
  | some w =>
    obtain ⟨a, vs, rfl, _, _, _, hl, _⟩ := locL_ok (n := w.1) (ts := w.2) m r e
    exact .inl ⟨rfl, vs, .inl (.inl hl)⟩
/-- the mutable list at n holds other items -/
theorem put_list {n : Nat} {a : Addr} {ts us : List T} {vs ws : List V} (m : RM K Ω Z ι M H) (hn : ι[n]? = some a) (hm : M[n]? = some (.lst ts)) (ha : H a = some (.lst vs)) (ru : Rs K Ω Z ι M H us ws) :
    RM K Ω Z ι (M.set n (.lst us)) (upd H a (.lst ws)) ∧ ∀ Z', Ext Z' ι M H ι (M.set n (.lst us)) (upd H a (.lst ws)) := by
  have t1 : ∀ xs, HO.lst vs ≠ .tup xs := by intro xs h; cases h
  have t2 : ∀ x y, HO.lst vs ≠ .frz x y := by intro x y h; cases h
  have hg : MO.lst ts ≠ .gone := by intro h; cases h
  exact ⟨m.write hn hm hg ha t1 t2 fun ex => .lst upd_same (ru.ext ex), fun _ => Ext.write hn hm hg ha t1 t2⟩
def mAppend : OpM := fun M t ts => match locL M t, ts with
  | some (n, xs), [u] => bif big (xs.length + 1) then some (.non, M.set n (.lst (xs ++ [u]))) else none
  | _, _ => none
theorem mAppend_ok : MtS K Ω "list" rAppend mAppend := fun Z ι M H t ts v vs z M' Q m r rs h k => by
  unfold mAppend at h
  split at h
  · rename_i n xs u hl
    cases e : big (xs.length + 1) with
    | false => rw [e] at h; cases h
    | true =>
      rw [e] at h
      cases h
      obtain ⟨a, ws, rfl, rfl, hn, hm, ha, r1⟩ := locL_ok m r hl
      obtain ⟨w, rfl, ru⟩ := rs.one rfl
      obtain ⟨m2, e2⟩ := put_list m hn hm ha (r1.append (.cons ru .nil))
      refine ⟨a, ws, w, rfl, rfl, ha, ?_, k ι _ _ m2 (e2 []) .non⟩
      have hb := of_decide_eq_true e
      rw [← r1.length, sizeLine_eq]
      omega
  · cases h
def mPopAt : OpM := fun M t ts => match locL M t, ts with
  | some (n, xs), [.int i] => (match bif big xs.length then ixN xs.length i else none with
    | some j => (match xs[j]? with
      | some u => some (u, M.set n (.lst (xs.eraseIdx j)))
      | none => none)
    | none => none)
  | _, _ => none
theorem Rs.eraseIdx {ts : List T} {vs : List V} : ∀ (i : Nat), Rs K Ω Z ι M H ts vs → Rs K Ω Z ι M H (ts.eraseIdx i) (vs.eraseIdx i)
  | _, .nil => .nil
  | 0, .cons _ t => t
  | n + 1, .cons r t => .cons r (Rs.eraseIdx n t)
theorem mPopAt_ok : MtS K Ω "list" rPopAt mPopAt := fun Z ι M H t ts v vs z M' Q m r rs h k => by
  unfold mPopAt at h
  split at h
  · rename_i n xs i hl
    split at h
    · rename_i j hj
      split at h
      · rename_i u hu
        cases h
        cases hb : big xs.length with
        | false => rw [hb] at hj; cases hj
        | true =>
        rw [hb] at hj
        obtain ⟨a, ws, rfl, rfl, hn, hm, ha, r1⟩ := locL_ok m r hl
        obtain ⟨w, rfl, ru⟩ := rs.one rfl
        cases ru
        obtain ⟨m2, e2⟩ := put_list m hn hm ha (r1.eraseIdx j)
        obtain ⟨s1, s2, s3, s4⟩ := ixN_seq hj
        obtain ⟨y, hy, ry⟩ := r1.get hu
        have hsz : xs.length ≤ 2000000 := of_decide_eq_true hb
        refine ⟨a, ws, i, j, y, rfl, rfl, ha, ?_, ?_, by rw [← r1.length]; exact s1, hy, k ι _ _ m2 (e2 []) (ry.ext (e2 Z))⟩
        · omega
        · omega
      · cases h
    · cases h
  · cases h
def mExtend : OpM := fun M t ts => match locL M t, ts with
  | some (n, xs), [u] => (match lstT M u with
    | some ys => bif big (xs.length + ys.length) then some (.non, M.set n (.lst (xs ++ ys))) else none
    | none => none)
  | _, _ => none
theorem mExtend_ok : MtS K Ω "list" rExtend mExtend := fun Z ι M H t ts v vs z M' Q m r rs h k => by
  unfold mExtend at h
  split at h
  · rename_i n xs u hl
    split at h
    · rename_i ys hy
      cases e : big (xs.length + ys.length) with
      | false => rw [e] at h; cases h
      | true =>
        rw [e] at h
        cases h
        obtain ⟨a, ws, rfl, rfl, hn, hm, ha, r1⟩ := locL_ok m r hl
        obtain ⟨w, rfl, ru⟩ := rs.one rfl
        obtain ⟨b, us, rfl, hb, r2⟩ := lstT_at m ru hy
        obtain ⟨m2, e2⟩ := put_list m hn hm ha (r1.append r2)
        refine ⟨a, b, ws, us, rfl, rfl, ha, hb, ?_, k ι _ _ m2 (e2 []) .non⟩
        have hz := of_decide_eq_true e
        rw [← r1.length, ← r2.length, sizeLine_eq]
        omega
    · cases h
  · cases h
def mPop : OpM := fun M t ts => match locL M t, ts with
  | some (n, xs), [] => (match xs[xs.length - 1]? with
    | some u => some (u, M.set n (.lst xs.dropLast))
    | none => none)
  | _, _ => none
theorem Rs.dropLast : ∀ {ts : List T} {vs : List V}, Rs K Ω Z ι M H ts vs → Rs K Ω Z ι M H ts.dropLast vs.dropLast
  | _, _, .nil => .nil
  | _, _, .cons r .nil => .nil
  | _, _, .cons r (.cons r2 t) => .cons r (Rs.dropLast (.cons r2 t))
theorem mPop_ok : MtS K Ω "list" rPop mPop := fun Z ι M H t ts v vs z M' Q m r rs h k => by
  unfold mPop at h
  split at h
  · rename_i n xs hl
    split at h
    · rename_i u hu
      cases h
      obtain ⟨a, ws, rfl, rfl, hn, hm, ha, r1⟩ := locL_ok m r hl
      cases rs
      obtain ⟨m2, e2⟩ := put_list m hn hm ha r1.dropLast
      obtain ⟨y, hy, ry⟩ := r1.get hu
      rw [r1.length] at hy
      exact ⟨a, ws, y, rfl, rfl, ha, hy, k ι _ _ m2 (e2 []) (ry.ext (e2 Z))⟩
    · cases h
  · cases h
/-- the rules, by name -/
theorem me_append (ho : ME X Ω W o f) (ha : MA X Ω W [e] fa) (hbase : attributeBase o "append" X.env (eval o X.env) = eval o X.env := by rfl)
    (hfew : ((backTo cpos (starEach [e] X.env)).all (fun x => !x.1) && (backToKw cpos (keywordEach [] X.env)).all (fun x => x.1.isSome) && decide ([e].length + ([] : List Keyword).length + (if ([] : List Keyword).isEmpty then 0 else 1) < 30)) = true := by rfl)
    (hline : (apos.endLine == cpos.line) = true := by rfl) (hs : starEach [e] X.env = (false, eval e X.env) :: starEach [] X.env := by rfl) (hplain : (backTo cpos (starEach [] X.env)).any (·.1) = false := by rfl) :
    ME X Ω W (.Call (.Attribute o "append" apos) [e] [] cpos) (eMt isLoc mAppend f fa) :=
  me_mt PySem.F.plainAttrs_list PySem.F.slot_list_append PySem.F.type_list_append mt_append mAppend_ok (fun _ _ _ _ _ _ m r h => isLoc_ok m r h) ho ha hbase hfew hline hs hplain
theorem me_extend (ho : ME X Ω W o f) (ha : MA X Ω W [e] fa) (hbase : attributeBase o "extend" X.env (eval o X.env) = eval o X.env := by rfl)
    (hfew : ((backTo cpos (starEach [e] X.env)).all (fun x => !x.1) && (backToKw cpos (keywordEach [] X.env)).all (fun x => x.1.isSome) && decide ([e].length + ([] : List Keyword).length + (if ([] : List Keyword).isEmpty then 0 else 1) < 30)) = true := by rfl)
    (hline : (apos.endLine == cpos.line) = true := by rfl) (hs : starEach [e] X.env = (false, eval e X.env) :: starEach [] X.env := by rfl) (hplain : (backTo cpos (starEach [] X.env)).any (·.1) = false := by rfl) :
    ME X Ω W (.Call (.Attribute o "extend" apos) [e] [] cpos) (eMt isLoc mExtend f fa) :=
  me_mt PySem.F.plainAttrs_list PySem.F.slot_list_extend PySem.F.type_list_extend mt_extend mExtend_ok (fun _ _ _ _ _ _ m r h => isLoc_ok m r h) ho ha hbase hfew hline hs hplain
theorem me_popAt (ho : ME X Ω W o f) (ha : MA X Ω W [e] fa) (hbase : attributeBase o "pop" X.env (eval o X.env) = eval o X.env := by rfl)
    (hfew : ((backTo cpos (starEach [e] X.env)).all (fun x => !x.1) && (backToKw cpos (keywordEach [] X.env)).all (fun x => x.1.isSome) && decide ([e].length + ([] : List Keyword).length + (if ([] : List Keyword).isEmpty then 0 else 1) < 30)) = true := by rfl)
    (hline : (apos.endLine == cpos.line) = true := by rfl) (hs : starEach [e] X.env = (false, eval e X.env) :: starEach [] X.env := by rfl) (hplain : (backTo cpos (starEach [] X.env)).any (·.1) = false := by rfl) :
    ME X Ω W (.Call (.Attribute o "pop" apos) [e] [] cpos) (eMt isLoc mPopAt f fa) :=
  me_mt PySem.F.plainAttrs_list PySem.F.slot_list_pop PySem.F.type_list_pop mt_popAt mPopAt_ok (fun _ _ _ _ _ _ m r h => isLoc_ok m r h) ho ha hbase hfew hline hs hplain
end
end Mi
namespace Mi
open PySem PySem.Spec PyProof.Rows L2

/-! ### keys -/
def flatEq : T → T → Option Bool
  | .int i, .int j => some (i == j)
  | .str x, .str y => strEq x y
  | .int _, .str _ => some false
  | .str _, .int _ => some false
  | _, _ => none
def flatEqs : List T → List T → Option Bool
  | [], [] => some true
  | x :: xs, y :: ys => match flatEq x y with
    | some true => flatEqs xs ys
    | r => r
  | _, _ => some false
def keyEq (tk : Bool) (t u : T) : Option Bool := match tk, t, u with
  | false, t, u => flatEq t u
  | true, .tup xs, .tup ys => flatEqs xs ys
  | _, _, _ => none
def flatK : T → Bool
  | .int _ => true
  | .str _ => true
  | _ => false
def isKey (tk : Bool) (t : T) : Bool := match tk, t with
  | false, t => flatK t
  | true, .tup xs => xs.all flatK
  | _, _ => false
/-- which places hold the key -/
def hits (tk : Bool) (x : T) : List (T × T) → Option (List Bool)
  | [] => some []
  | kv :: r => match keyEq tk kv.1 x, hits tk x r with
    | some b, some bs => some (b :: bs)
    | _, _ => none
def dLook (tk : Bool) (x : T) : List (T × T) → Option (Option T)
  | [] => some none
  | kv :: r => match keyEq tk kv.1 x with
    | some true => some (some kv.2)
    | some false => dLook tk x r
    | none => none
def dGet (tk : Bool) (kvs : List (T × T)) (x : T) : Option (Option T) := bif isKey tk x then dLook tk x kvs else none
def putHits (v : T) : List (T × T) → List Bool → List (T × T)
  | kv :: r, b :: bs => (kv.1, bif b then v else kv.2) :: putHits v r bs
  | r, _ => r
def dPut (tk : Bool) (kvs : List (T × T)) (x v : T) : Option (List (T × T)) := bif isKey tk x && big (kvs.length + 1) then (match hits tk x kvs with
  | some bs => some (bif bs.any id then putHits v kvs bs else kvs ++ [(x, v)])
  | none => none) else none
section
variable {K : PySem.W.Frag} {Ω : Om} {Z ι : List Addr} {M : Mem} {H : Hp}
theorem flatEq_ok {t u : T} {k l : Key} {b : Bool} (r : RK Ω t k) (q : RK Ω u l) (h : flatEq t u = some b) : decide (k = l) = b := by
  cases r with
  | int i =>
    cases q with
    | int j => cases h; rw [key_ll]
    | str _ _ _ => cases h; exact key_lr _ _
  | str x s hs =>
    cases q with
    | int j => cases h; exact key_rl _ _
    | str y s' hs' =>
      have := strEq_ok (Ω := Ω) (show strEq x y = some b from h)
      rw [key_rr]
      rw [toStr_of hs, toStr_of hs', ← this]
      have e := toStr_inj (x := spell Ω.rho x) (y := spell Ω.rho y)
      by_cases z : spell Ω.rho x = spell Ω.rho y
      · rw [z, decide_eq_true rfl, decide_eq_true rfl]
      · rw [decide_eq_false z]
        refine decide_eq_false fun w => z ?_
        rw [decide_eq_false z] at e
        rw [w, beq_self_eq_true] at e
        cases e
theorem flatEqs_ok : ∀ {ts us : List T} {ks ls : List Key} {b : Bool}, RKs Ω ts ks → RKs Ω us ls → flatEqs ts us = some b → decide (ks = ls) = b
  | [], [], _, _, b, .nil, .nil, h => by cases h; rfl
  | [], _ :: _, _, _, b, .nil, .cons _ _, h => by cases h; exact decide_eq_false nofun
  | _ :: _, [], _, _, b, .cons _ _, .nil, h => by cases h; exact decide_eq_false nofun
  | t :: ts, u :: us, k :: ks, l :: ls, b, .cons r rs, .cons q qs, h => by
    unfold flatEqs at h
    cases e : flatEq t u with
    | none => rw [e] at h; cases h
    | some c =>
      rw [e] at h
      have hc := flatEq_ok r q e
      cases c with
      | true =>
        have hk := of_decide_eq_true hc
        subst hk
        rw [← flatEqs_ok rs qs h]
        by_cases z : ks = ls
        · rw [z, decide_eq_true rfl, decide_eq_true rfl]
        · rw [decide_eq_false z]
          exact decide_eq_false fun w => z (by injection w)
      | false =>
        cases h
        have hk := of_decide_eq_false hc
        exact decide_eq_false fun w => hk (by injection w)
/-- a value that is a key -/
theorem rk_of {t : T} {v : V} (r : R K Ω Z ι M H t v) (h : flatK t = true) : ∃ k, RK Ω t k ∧ v = kV k := by
  cases r with
  | int i => exact ⟨.inl i, .int i, rfl⟩
  | str x s hs _ => exact ⟨.inr s, .str x s hs, rfl⟩
  | _ => cases h
theorem rks_of : ∀ {ts : List T} {vs : List V}, Rs K Ω Z ι M H ts vs → ts.all flatK = true → ∃ ks, RKs Ω ts ks ∧ vs = ks.map kV
  | _, _, .nil, _ => ⟨[], .nil, rfl⟩
  | _, _, .cons r q, h => by
    rw [List.all_cons, Bool.and_eq_true] at h
    obtain ⟨k, a, e⟩ := rk_of r h.1
    obtain ⟨ks, as, es⟩ := rks_of q h.2
    exact ⟨k :: ks, .cons a as, by rw [e, es]; rfl⟩
/-- a dict as it is read: kind, items -/
def dctT (M : Mem) : T → Option (Bool × List (T × T))
  | .dct tk kvs => some (tk, kvs)
  | .loc n => match M[n]? with
    | some (.dct tk kvs) => some (tk, kvs)
    | _ => none
  | _ => none
/-- it stands at a -/
def DctAt (K : PySem.W.Frag) (Ω : Om) (Z ι : List Addr) (M : Mem) (H : Hp) (tk : Bool) (kvs : List (T × T)) (a : Addr) : Prop := match tk with
  | false => ∃ ws, Rd H a (.dK ws) ∧ RKs Ω (kvs.map (·.1)) (ws.map (·.1)) ∧ Rs K Ω Z ι M H (kvs.map (·.2)) (ws.map (·.2))
  | true => ∃ ws, Rd H a (.dT ws) ∧ RKts Ω (kvs.map (·.1)) (ws.map (·.1)) ∧ Rs K Ω Z ι M H (kvs.map (·.2)) (ws.map (·.2))
theorem dctT_ok {t : T} {v : V} {tk : Bool} {kvs : List (T × T)} (m : RM K Ω Z ι M H) (r : R K Ω Z ι M H t v) (h : dctT M t = some (tk, kvs)) : ∃ a, v = .ref a ∧ DctAt K Ω Z ι M H tk kvs a := by
  cases r with
  | dK q n k rs => cases h; exact ⟨_, rfl, _, q, k, rs⟩
  | dT q n k rs => cases h; exact ⟨_, rfl, _, q, k, rs⟩
  | loc q =>
    rename_i n a
    obtain ⟨o, e, ro⟩ := m.at q
    have h : (match M[n]? with | some (MO.dct tk kvs) => some (tk, kvs) | _ => none) = some (tk, kvs) := h
    rw [e] at h
    cases ro with
    | dK hl k rs => cases h; exact ⟨_, rfl, _, .inl hl, k, rs⟩
    | dT hl k rs => cases h; exact ⟨_, rfl, _, .inl hl, k, rs⟩
    | gone _ => cases h
    | obj _ _ _ => cases h
    | lst _ _ => cases h
  | _ => cases h
theorem dLookK : ∀ {kvs : List (T × T)} {ws : List (Key × V)} {x : T} {k : Key} {o : Option T}, RKs Ω (kvs.map (·.1)) (ws.map (·.1)) → Rs K Ω Z ι M H (kvs.map (·.2)) (ws.map (·.2)) → RK Ω x k → dLook false x kvs = some o →
    (match o with | some t => ∃ v, valV ws k = some v ∧ R K Ω Z ι M H t v | none => valV ws k = none)
  | [], [], _, _, _, _, _, _, h => by cases h; rfl
  | [], _ :: _, _, _, _, h, _, _, _ => nomatch h
  | _ :: _, [], _, _, _, h, _, _, _ => nomatch h
  | (kt, vt) :: kvs, (kw, vw) :: ws, x, k, o, .cons r rs, .cons q qs, rx, h => by
    unfold dLook at h
    cases e : keyEq false kt x with
    | none => rw [e] at h; cases h
    | some b =>
      rw [e] at h
      have hb := flatEq_ok r rx (show flatEq kt x = some b from e)
      cases b with
      | true =>
        cases h
        exact ⟨vw, valV_pos (of_decide_eq_true hb), q⟩
      | false =>
        rw [valV_neg (of_decide_eq_false hb)]
        exact dLookK rs qs rx h
theorem dLookT : ∀ {kvs : List (T × T)} {ws : List (List Key × V)} {x : T} {k : List Key} {o : Option T}, RKts Ω (kvs.map (·.1)) (ws.map (·.1)) → Rs K Ω Z ι M H (kvs.map (·.2)) (ws.map (·.2)) → RKt Ω x k → dLook true x kvs = some o →
    (match o with | some t => ∃ v, valV ws k = some v ∧ R K Ω Z ι M H t v | none => valV ws k = none)
  | [], [], _, _, _, _, _, _, h => by cases h; rfl
  | [], _ :: _, _, _, _, h, _, _, _ => nomatch h
  | _ :: _, [], _, _, _, h, _, _, _ => nomatch h
  | (kt, vt) :: kvs, (kw, vw) :: ws, x, k, o, .cons r rs, .cons q qs, rx, h => by
    unfold dLook at h
    cases r with
    | mk r =>
    cases rx with
    | mk rx =>
    rename_i t1 t2
    cases e : keyEq true (.tup t1) (.tup t2) with
    | none => rw [e] at h; cases h
    | some b =>
      rw [e] at h
      have hb := flatEqs_ok r rx (show flatEqs t1 t2 = some b from e)
      cases b with
      | true =>
        cases h
        exact ⟨vw, valV_pos (of_decide_eq_true hb), q⟩
      | false =>
        rw [valV_neg (of_decide_eq_false hb)]
        exact dLookT rs qs (.mk rx) h
/-- reading a dict -/
theorem dGet_ok {tk : Bool} {kvs : List (T × T)} {a : Addr} {x : T} {y : V} {o : Option T} (d : DctAt K Ω Z ι M H tk kvs a) (r : R K Ω Z ι M H x y) (h : dGet tk kvs x = some o) :
    ∃ ov, DGet H a y ov ∧ (match o with | some t => ∃ v, ov = some v ∧ R K Ω Z ι M H t v | none => ov = none) := by
  unfold dGet at h
  cases e : isKey tk x with
  | false => rw [e] at h; cases h
  | true =>
    rw [e] at h
    have h : dLook tk x kvs = some o := h
    cases tk with
    | false =>
      obtain ⟨ws, hd, rk, rs⟩ := d
      obtain ⟨k, hk, rfl⟩ := rk_of r e
      refine ⟨valV ws k, .inl ⟨ws, k, hd, rfl, rfl⟩, ?_⟩
      have := dLookK rk rs hk h
      cases o with
      | none => exact this
      | some t => exact this
    | true =>
      obtain ⟨ws, hd, rk, rs⟩ := d
      cases r with
      | @tup ts b vs hb rt =>
        obtain ⟨ks, hk, rfl⟩ := rks_of rt e
        refine ⟨valV ws ks, .inr ⟨ws, ks, b, hd, rfl, hb, rfl⟩, ?_⟩
        have := dLookT rk rs (.mk hk) h
        cases o with
        | none => exact this
        | some t => exact this
      | _ => cases e
end
section
variable {X : Cx} {Ω : Om} {W : WX} {e e2 o i value : Expr} {fa : AF} {f g fo fi fv : EF} {pos p apos cpos pos' : Pos}
/-- d[k], there -/
def eDget (fo fi : EF) : EF := fun σ M => (fo σ M).bind fun t M1 => (fi σ M1).bind fun u M2 => match dctT M2 t with
  | some (tk, kvs) => (match dGet tk kvs u with
    | some (some z) => .ok z M2
    | _ => .err)
  | none => .err
theorem me_dget (hu : X.A.units + 1 < cLine) (ho : ME X Ω W o fo) (hi : ME X Ω W i fi) (hs : NoSl i := by intro _ _; rfl) : ME X Ω W (.Subscript o i pos) (eDget fo fi) := L2PE.imp (pe_dget hu ho hi hs) fun σ H Q ⟨Z, ι, M, σT, m, rv, q⟩ =>
  ⟨Z, ι, M, σT, m, rv, Post.bind q fun ι1 M1 H1 t v m1 e1 q1 p1 => ⟨Z, ι1, M1, σT, m1, rv.ext e1.any, Post.bind p1 fun ι2 M2 H2 u w m2 e2 q2 p2 => by
    cases y : dctT M2 t with
    | none => rw [y] at p2; exact p2.elim
    | some d =>
      rw [y] at p2
      have p2 : Post X.K Ω (R X.K Ω) (fun c d H' => W c d σ H') Z ι2 M2 H2 Q (match dGet d.1 d.2 u with
        | some (some z) => .ok z M2
        | _ => .err) := p2
      cases z : dGet d.1 d.2 u with
      | none => rw [z] at p2; exact p2.elim
      | some oz =>
        rw [z] at p2
        cases oz with
        | none => exact p2.elim
        | some w' =>
          obtain ⟨a, rfl, da⟩ := dctT_ok (tk := d.1) (kvs := d.2) m2 (q1.ext e2.any) y
          obtain ⟨ov, dg, x, rfl, rx⟩ := dGet_ok da q2 z
          exact ⟨a, x, rfl, dg, p2.pure m2 rx⟩⟩⟩
/-- k in d -/
def eDin (neg : Bool) (fi fo : EF) : EF := fun σ M => (fi σ M).bind fun u M1 => (fo σ M1).bind fun t M2 => match dctT M2 t with
  | some (tk, kvs) => (match dGet tk kvs u with
    | some r => .ok (.bl (bif neg then !r.isSome else r.isSome)) M2
    | _ => .err)
  | none => .err
theorem din_of {neg : Bool} {σ : L2.St} {H : Hp} {Q : VK} (q : liftE X.K Ω W (eDin neg fi fo) σ H Q) : liftE X.K Ω W fi σ H fun y H1 => liftE X.K Ω W fo σ H1 fun x H2 => ∃ a ov, x = .ref a ∧ DGet H2 a y ov ∧ Q (.bl (bif neg then !ov.isSome else ov.isSome)) H2 := by
  obtain ⟨Z, ι, M, σT, m, rv, q⟩ := q
  refine ⟨Z, ι, M, σT, m, rv, Post.bind q fun ι1 M1 H1 u w m1 e1 q1 p1 => ⟨Z, ι1, M1, σT, m1, rv.ext e1.any, Post.bind p1 fun ι2 M2 H2 t v m2 e2 q2 p2 => ?_⟩⟩
  cases y : dctT M2 t with
  | none => rw [y] at p2; exact p2.elim
  | some d =>
    rw [y] at p2
    have p2 : Post X.K Ω (R X.K Ω) (fun c d H' => W c d σ H') Z ι2 M2 H2 Q (match dGet d.1 d.2 u with
      | some r => .ok (.bl (bif neg then !r.isSome else r.isSome)) M2
      | _ => .err) := p2
    cases z : dGet d.1 d.2 u with
    | none => rw [z] at p2; exact p2.elim
    | some oz =>
      rw [z] at p2
      obtain ⟨a, rfl, da⟩ := dctT_ok (tk := d.1) (kvs := d.2) m2 q2 y
      obtain ⟨ov, dg, hx⟩ := dGet_ok da (q1.ext e2.any) z
      refine ⟨a, ov, rfl, dg, ?_⟩
      have : ov.isSome = oz.isSome := by
        cases oz with
        | none => rw [show ov = none from hx]; rfl
        | some _ => obtain ⟨x, rfl, _⟩ := hx; rfl
      rw [this]
      exact p2.pure m2 (.bl _)
theorem me_din (hu : X.A.units + 1 < cLine) (hi : ME X Ω W i fi) (ho : ME X Ω W o fo) (hm : behindInMarks .In o = false := by rfl) : ME X Ω W (.Compare i [.In] [o] pos) (eDin false fi fo) := L2PE.imp (pe_cmp (pc_din hu hi ho) hm) fun σ H Q q => din_of q
theorem me_dnotin (hu : X.A.units + 1 < cLine) (hi : ME X Ω W i fi) (ho : ME X Ω W o fo) (hm : behindInMarks .NotIn o = false := by rfl) : ME X Ω W (.Compare i [.NotIn] [o] pos) (eDin true fi fo) := L2PE.imp (pe_cmp (pc_dnotin hu hi ho) hm) fun σ H Q q => din_of q
theorem tB_of {σ : L2.St} {H : Hp} {Q : Bool → Hp → Prop} (q : liftT X.K Ω W (tVal f) σ H Q) : liftE X.K Ω W f σ H fun x H1 => ∃ c, x = .bl c ∧ Q c H1 := by
  obtain ⟨Z, ι, M, σT, m, rv, p⟩ := q
  refine ⟨Z, ι, M, σT, m, rv, Post.bind p fun ι1 M1 H1 t v m1 e1 q1 p1 => ?_⟩
  cases t with
  | bl k => cases q1; exact ⟨k, rfl, p1.pure m1 rfl⟩
  | _ => exact p1.elim
theorem mt_din (hu : X.A.units + 1 < cLine) (hi : ME X Ω W i fi) (ho : ME X Ω W o fo) (hm : behindInMarks .In o = false := by rfl) : MT X Ω W (.Compare i [.In] [o] pos) (tVal (eDin false fi fo)) := L2PT.imp (pt_cmp (pc_din hu hi ho) hm) fun σ H Q q => din_of (tB_of q)
theorem mt_dnotin (hu : X.A.units + 1 < cLine) (hi : ME X Ω W i fi) (ho : ME X Ω W o fo) (hm : behindInMarks .NotIn o = false := by rfl) : MT X Ω W (.Compare i [.NotIn] [o] pos) (tVal (eDin true fi fo)) := L2PT.imp (pt_cmp (pc_dnotin hu hi ho) hm) fun σ H Q q => din_of (tB_of q)
/-- d.get(k, x) -/
def eDgetD (fo fi fx : EF) : EF := fun σ M => (fo σ M).bind fun t M1 => match dctT M1 t with
  | none => .err
  | some _ => (fi σ M1).bind fun u M2 => (fx σ M2).bind fun w M3 => match dctT M3 t with
    | some (tk, kvs) => (match dGet tk kvs u with
      | some (some z) => .ok z M3
      | some none => .ok w M3
      | none => .err)
    | none => .err
theorem DctAt.isD {K : PySem.W.Frag} {Z ι : List Addr} {M : Mem} {H : Hp} {tk : Bool} {kvs : List (T × T)} {a : Addr} (d : DctAt K Ω Z ι M H tk kvs a) : IsD H a := by
  cases tk with
  | false => obtain ⟨ws, h, _⟩ := d; exact .inl ⟨ws, h⟩
  | true => obtain ⟨ws, h, _⟩ := d; exact .inr ⟨ws, h⟩
theorem me_dgetD {fx : EF} (hu : X.A.units + 1 < cLine) (ho : ME X Ω W o fo) (hi : ME X Ω W e fi) (hx : ME X Ω W e2 fx) (m : M2 X o "get" apos e e2 cpos) : ME X Ω W (.Call (.Attribute o "get" apos) [e, e2] [] cpos) (eDgetD fo fi fx) := L2PE.imp (pe_dget2 hu ho hi hx m) fun σ H Q ⟨Z, ι, M, σT, m, rv, q⟩ =>
  ⟨Z, ι, M, σT, m, rv, Post.bind q fun ι1 M1 H1 t v m1 e1 q1 p1 => by
    cases y : dctT M1 t with
    | none => rw [y] at p1; exact p1.elim
    | some d =>
      rw [y] at p1
      obtain ⟨a, rfl, da⟩ := dctT_ok (tk := d.1) (kvs := d.2) m1 q1 y
      refine ⟨a, rfl, da.isD, Z, ι1, M1, σT, m1, rv.ext e1.any, Post.bind p1 fun ι2 M2 H2 u w m2 e2 q2 p2 => ⟨Z, ι2, M2, σT, m2, (rv.ext e1.any).ext e2.any, Post.bind p2 fun ι3 M3 H3 u3 w3 m3 e3 q3 p3 => ?_⟩⟩
      cases y3 : dctT M3 t with
      | none => rw [y3] at p3; exact p3.elim
      | some d3 =>
        rw [y3] at p3
        have p3 : Post X.K Ω (R X.K Ω) (fun c d H' => W c d σ H') Z ι3 M3 H3 Q (match dGet d3.1 d3.2 u with
          | some (some z) => .ok z M3
          | some none => .ok u3 M3
          | none => .err) := p3
        cases z : dGet d3.1 d3.2 u with
        | none => rw [z] at p3; exact p3.elim
        | some oz =>
          rw [z] at p3
          obtain ⟨a3, ea, da3⟩ := dctT_ok (tk := d3.1) (kvs := d3.2) m3 ((q1.ext e2.any).ext e3.any) y3
          cases ea
          obtain ⟨ov, dg, hx⟩ := dGet_ok da3 (q2.ext e3.any) z
          refine ⟨ov, dg, ?_⟩
          cases oz with
          | none => rw [show ov = none from hx]; exact p3.pure m3 q3
          | some z' => obtain ⟨x, rfl, rx⟩ := hx; exact p3.pure m3 rx⟩
/-! ### stores -/
theorem hits_K {Ω : Om} {x : T} {k : Key} (rx : RK Ω x k) : ∀ {kvs : List (T × T)} {ws : List (Key × V)} {bs : List Bool}, RKs Ω (kvs.map (·.1)) (ws.map (·.1)) → hits false x kvs = some bs → bs = ws.map fun w => decide (w.1 = k)
  | [], [], _, _, h => by cases h; rfl
  | [], _ :: _, _, h, _ => nomatch h
  | _ :: _, [], _, h, _ => nomatch h
  | (kt, vt) :: kvs, (kw, vw) :: ws, bs, .cons r rs, h => by
    unfold hits at h
    cases e : keyEq false kt x with
    | none => rw [e] at h; cases h
    | some b =>
      rw [e] at h
      cases e2 : hits false x kvs with
      | none => rw [e2] at h; cases h
      | some cs =>
        rw [e2] at h
        cases h
        rw [List.map_cons, ← hits_K rx rs e2, flatEq_ok r rx (show flatEq kt x = some b from e)]
theorem hits_T {Ω : Om} {x : T} {k : List Key} (rx : RKt Ω x k) : ∀ {kvs : List (T × T)} {ws : List (List Key × V)} {bs : List Bool}, RKts Ω (kvs.map (·.1)) (ws.map (·.1)) → hits true x kvs = some bs → bs = ws.map fun w => decide (w.1 = k)
  | [], [], _, _, h => by cases h; rfl
  | [], _ :: _, _, h, _ => nomatch h
  | _ :: _, [], _, h, _ => nomatch h
  | (kt, vt) :: kvs, (kw, vw) :: ws, bs, .cons r rs, h => by
    unfold hits at h
    cases r with
    | mk r =>
    cases rx with
    | mk rx =>
    rename_i t1 t2
    cases e : keyEq true (.tup t1) (.tup t2) with
    | none => rw [e] at h; cases h
    | some b =>
      rw [e] at h
      cases e2 : hits true (.tup t2) kvs with
      | none => rw [e2] at h; cases h
      | some cs =>
        rw [e2] at h
        cases h
        rw [List.map_cons, ← hits_T (.mk rx) rs e2, flatEqs_ok r rx (show flatEqs t1 t2 = some b from e)]
theorem putHits_keys {v : T} : ∀ {kvs : List (T × T)} {bs : List Bool}, (putHits v kvs bs).map (·.1) = kvs.map (·.1)
  | [], _ => rfl
  | _ :: _, [] => rfl
  | kv :: kvs, b :: bs => by simp [putHits, putHits_keys (kvs := kvs)]
theorem putHits_vals {K : PySem.W.Frag} {κ : Type} [DecidableEq κ] {k : κ} {v : T} {y : V} {Z ι : List Addr} {M : Mem} {H : Hp} (r : R K Ω Z ι M H v y) : ∀ {kvs : List (T × T)} {ws : List (κ × V)}, Rs K Ω Z ι M H (kvs.map (·.2)) (ws.map (·.2)) →
    Rs K Ω Z ι M H ((putHits v kvs (ws.map fun w => decide (w.1 = k))).map (·.2)) ((ws.map fun kv => if kv.1 = k then (kv.1, y) else kv).map (·.2))
  | [], [], _ => .nil
  | [], _ :: _, h => nomatch h
  | _ :: _, [], h => nomatch h
  | (kt, vt) :: kvs, (kw, vw) :: ws, .cons q qs => by
    simp only [List.map_cons, putHits]
    refine .cons ?_ (putHits_vals r qs)
    by_cases e : kw = k
    · rw [decide_eq_true e, if_pos e]; exact r
    · rw [decide_eq_false e, if_neg e]; exact q
theorem map_keys {κ : Type} [DecidableEq κ] {k : κ} {y : V} : ∀ {ws : List (κ × V)}, (ws.map fun kv => if kv.1 = k then (kv.1, y) else kv).map (·.1) = ws.map (·.1)
  | [] => rfl
  | (kw, vw) :: ws => by
    simp only [List.map_cons]
    rw [map_keys (ws := ws)]
    by_cases e : kw = k
    · rw [if_pos e]
    · rw [if_neg e]
theorem RKs.append {Ω : Om} : ∀ {ts us : List T} {ks ls : List Key}, RKs Ω ts ks → RKs Ω us ls → RKs Ω (ts ++ us) (ks ++ ls)
  | _, _, _, _, .nil, s => s
  | _, _, _, _, .cons r t, s => .cons r (RKs.append t s)
theorem RKts.append {Ω : Om} : ∀ {ts us : List T} {ks ls : List (List Key)}, RKts Ω ts ks → RKts Ω us ls → RKts Ω (ts ++ us) (ks ++ ls)
  | _, _, _, _, .nil, s => s
  | _, _, _, _, .cons r t, s => .cons r (RKts.append t s)
theorem any_hits {κ : Type} [DecidableEq κ] {k : κ} : ∀ {ws : List (κ × V)}, (ws.map fun w => decide (w.1 = k)).any id = ws.any fun kv => decide (kv.1 = k)
  | [] => rfl
  | w :: ws => by simp only [List.map_cons, List.any_cons, id, any_hits (ws := ws)]
theorem put_K {K : PySem.W.Frag} {Z ι : List Addr} {M : Mem} {H : Hp} {kvs us : List (T × T)} {ws : List (Key × V)} {x v : T} {k : Key} {y : V} (rk : RKs Ω (kvs.map (·.1)) (ws.map (·.1))) (rs : Rs K Ω Z ι M H (kvs.map (·.2)) (ws.map (·.2))) (rx : RK Ω x k) (r : R K Ω Z ι M H v y)
    {bs : List Bool} (hb : hits false x kvs = some bs) (h : us = bif bs.any id then putHits v kvs bs else kvs ++ [(x, v)]) : RKs Ω (us.map (·.1)) ((putK ws k y).map (·.1)) ∧ Rs K Ω Z ι M H (us.map (·.2)) ((putK ws k y).map (·.2)) := by
  have e := hits_K rx rk hb
  subst e
  rw [any_hits] at h
  unfold putK
  cases z : ws.any fun kv => decide (kv.1 = k) with
  | true =>
    rw [z] at h
    subst h
    rw [if_pos rfl]
    dsimp only [cond_true]
    rw [putHits_keys, map_keys]
    exact ⟨rk, putHits_vals r rs⟩
  | false =>
    rw [z] at h
    subst h
    rw [if_neg Bool.false_ne_true]
    dsimp only [cond_false]
    rw [List.map_append, List.map_append, List.map_append, List.map_append]
    exact ⟨rk.append (.cons rx .nil), rs.append (.cons r .nil)⟩
theorem put_T {K : PySem.W.Frag} {Z ι : List Addr} {M : Mem} {H : Hp} {kvs us : List (T × T)} {ws : List (List Key × V)} {x v : T} {k : List Key} {y : V} (rk : RKts Ω (kvs.map (·.1)) (ws.map (·.1))) (rs : Rs K Ω Z ι M H (kvs.map (·.2)) (ws.map (·.2))) (rx : RKt Ω x k) (r : R K Ω Z ι M H v y)
    {bs : List Bool} (hb : hits true x kvs = some bs) (h : us = bif bs.any id then putHits v kvs bs else kvs ++ [(x, v)]) : RKts Ω (us.map (·.1)) ((putK ws k y).map (·.1)) ∧ Rs K Ω Z ι M H (us.map (·.2)) ((putK ws k y).map (·.2)) := by
  have e := hits_T rx rk hb
  subst e
  rw [any_hits] at h
  unfold putK
  cases z : ws.any fun kv => decide (kv.1 = k) with
  | true =>
    rw [z] at h
    subst h
    rw [if_pos rfl]
    dsimp only [cond_true]
    rw [putHits_keys, map_keys]
    exact ⟨rk, putHits_vals r rs⟩
  | false =>
    rw [z] at h
    subst h
    rw [if_neg Bool.false_ne_true]
    dsimp only [cond_false]
    rw [List.map_append, List.map_append, List.map_append, List.map_append]
    exact ⟨rk.append (.cons rx .nil), rs.append (.cons r .nil)⟩
/-- d[k] = v, d a mutable dict -/
def locD (M : Mem) : T → Option (Nat × Bool × List (T × T))
  | .loc n => match M[n]? with
    | some (.dct tk kvs) => some (n, tk, kvs)
    | _ => none
  | _ => none
def sDput (fv fo fi : EF) : SF := fun σ M => (fv σ M).go σ fun v M1 => (fo σ M1).go σ fun t M2 => (fi σ M2).go σ fun x M3 => match locD M3 t with
  | some (n, tk, kvs) => (match dPut tk kvs x v with
    | some us => some (.nx σ, M3.set n (.dct tk us))
    | none => none)
  | none => none
theorem len_of_RKs {Ω : Om} : ∀ {ts : List T} {ks : List Key}, RKs Ω ts ks → ts.length = ks.length
  | _, _, .nil => rfl
  | _, _, .cons _ t => by simp [len_of_RKs t]
theorem len_of_RKts {Ω : Om} : ∀ {ts : List T} {ks : List (List Key)}, RKts Ω ts ks → ts.length = ks.length
  | _, _, .nil => rfl
  | _, _, .cons _ t => by simp [len_of_RKts t]
theorem ms_dput (hu : X.A.units + 1 < cLine) (ho : ME X Ω W o fo) (hi : ME X Ω W i fi) (hv : ME X Ω W value fv) (hs : swapsWith value (some (.Subscript o i pos')) pos.line X.env = pure false := by rfl) : MS X Ω W (.Assign [.Subscript o i pos'] value pos) (sDput fv fo fi) := by
  refine L2PS.imp (ps_dput hu ho hi hv hs) fun D σ H ⟨Z, ι, M, σT, m0, rv, q⟩ => ⟨Z, ι, M, σT, m0, rv, PostS.go q rv fun ι1 M1 H1 v y m1 e1 rv1 q1 p1 => ⟨Z, ι1, M1, σT, m1, rv1, PostS.go p1 rv1 fun ι2 M2 H2 t x m2 e2 rv2 q2 p2 => ⟨Z, ι2, M2, σT, m2, rv2, PostS.go p2 rv2 fun ι3 M3 H3 u w m3 e3 rv3 q3 p3 => ?_⟩⟩⟩
  have rt := q2.ext (Z := Z) e3.any
  have ry := (q1.ext (Z := Z) e2.any).ext (Z := Z) e3.any
  cases z : locD M3 t with
  | none => rw [z] at p3; exact p3.elim
  | some d =>
    obtain ⟨n, tk, kvs⟩ := d
    rw [z] at p3
    have p3 : PostS X.K Ω W Z ι3 M3 H3 D (match dPut tk kvs u v with
      | some us => some (.nx σT, M3.set n (.dct tk us))
      | none => none) := p3
    cases hp : dPut tk kvs u v with
    | none => rw [hp] at p3; exact p3.elim
    | some us =>
      rw [hp] at p3
      unfold dPut at hp
      cases hk : isKey tk u && big (kvs.length + 1) with
      | false => rw [hk] at hp; cases hp
      | true =>
        rw [hk] at hp
        rw [Bool.and_eq_true] at hk
        have hbig := of_decide_eq_true hk.2
        dsimp only [cond_true] at hp
        cases hh : hits tk u kvs with
        | none => rw [hh] at hp; cases hp
        | some bs =>
          rw [hh] at hp
          cases hp
          cases rt with
          | loc hn =>
            rename_i n' a
            obtain ⟨ob, eo, ro⟩ := m3.at hn
            have z : (match M3[n']? with | some (MO.dct tk kvs) => some (n', tk, kvs) | _ => none) = some (n, tk, kvs) := z
            rw [eo] at z
            cases ro with
            | @dK _ _ ws hl rk rs =>
              cases z
              obtain ⟨k, rx, rfl⟩ := rk_of q3 hk.1
              obtain ⟨k1, k2⟩ := put_K rk rs rx ry hh rfl
              have t1 : ∀ xs, HO.dK ws ≠ .tup xs := by intro xs h; cases h
              have t2 : ∀ x y, HO.dK ws ≠ .frz x y := by intro x y h; cases h
              have hg : ∀ {us : List (T × T)}, MO.dct false us ≠ .gone := by intro us h; cases h
              have hlen : ws.length < sizeLine := by
                have := len_of_RKs rk
                simp only [List.length_map] at this
                rw [sizeLine_eq]
                omega
              exact ⟨a, _, rfl, .inl ⟨ws, k, hl, rfl, hlen, rfl⟩, p3 ι3 σ _ (m3.write hn eo hg hl t1 t2 fun ex => .dK upd_same k1 (k2.ext ex)) (Ext.write hn eo hg hl t1 t2) (rv3.ext (Ext.write hn eo hg hl t1 t2))⟩
            | @dT _ _ ws hl rk rs =>
              cases z
              cases q3 with
              | @tup ts b vs hb rt =>
                obtain ⟨ks, rx, rfl⟩ := rks_of rt hk.1
                obtain ⟨k1, k2⟩ := put_T rk rs (.mk rx) ry hh rfl
                have t1 : ∀ xs, HO.dT ws ≠ .tup xs := by intro xs h; cases h
                have t2 : ∀ x y, HO.dT ws ≠ .frz x y := by intro x y h; cases h
                have hg : ∀ {us : List (T × T)}, MO.dct true us ≠ .gone := by intro us h; cases h
                have hlen : ws.length < sizeLine := by
                  have := len_of_RKts rk
                  simp only [List.length_map] at this
                  rw [sizeLine_eq]
                  omega
                exact ⟨a, _, rfl, .inr ⟨ws, ks, b, hl, rfl, hb, hlen, rfl⟩, p3 ι3 σ _ (m3.write hn eo hg hl t1 t2 fun ex => .dT upd_same k1 (k2.ext ex)) (Ext.write hn eo hg hl t1 t2) (rv3.ext (Ext.write hn eo hg hl t1 t2))⟩
              | _ => cases hk.1
            | gone _ => cases z
            | obj _ _ _ => cases z
            | lst _ _ => cases z
          | _ => cases z
end
end Mi
namespace Mi
open PySem PySem.Spec PyProof.Rows L2

/-! ### a stable sort by numbers -/
def insK {α : Type} (p : Int × α) : List (Int × α) → List (Int × α)
  | [] => [p]
  | q :: r => bif decide (p.1 ≤ q.1) then p :: q :: r else q :: insK p r
def isortK {α : Type} : List (Int × α) → List (Int × α)
  | [] => []
  | p :: l => insK p (isortK l)
theorem insK_mem {α : Type} {p x : Int × α} : ∀ {l : List (Int × α)}, x ∈ insK p l ↔ x = p ∨ x ∈ l
  | [] => by simp [insK]
  | q :: r => by
    unfold insK
    cases h : decide (p.1 ≤ q.1) with
    | true => simp
    | false =>
      rw [cond_false, List.mem_cons, insK_mem (l := r), List.mem_cons]
      constructor
      · rintro (a | a | a)
        · exact .inr (.inl a)
        · exact .inl a
        · exact .inr (.inr a)
      · rintro (a | a | a)
        · exact .inr (.inl a)
        · exact .inl a
        · exact .inr (.inr a)
theorem insK_ord {α : Type} {p : Int × α} : ∀ {l : List (Int × α)}, l.Pairwise (fun a b => a.1 ≤ b.1) → (insK p l).Pairwise (fun a b => a.1 ≤ b.1)
  | [], _ => by simp [insK]
  | q :: r, h => by
    have h' := List.pairwise_cons.mp h
    unfold insK
    cases e : decide (p.1 ≤ q.1) with
    | true =>
      have e := of_decide_eq_true e
      refine List.pairwise_cons.mpr ⟨fun x hx => ?_, h⟩
      rcases List.mem_cons.mp hx with rfl | hx
      · exact e
      · exact Int.le_trans e (h'.1 x hx)
    | false =>
      have e := of_decide_eq_false e
      refine List.pairwise_cons.mpr ⟨fun x hx => ?_, insK_ord h'.2⟩
      rcases insK_mem.mp hx with rfl | hx
      · omega
      · exact h'.1 x hx
theorem isortK_ord {α : Type} : ∀ {l : List (Int × α)}, (isortK l).Pairwise (fun a b => a.1 ≤ b.1)
  | [] => .nil
  | _ :: _ => insK_ord isortK_ord
theorem insK_filter {α : Type} {p : Int × α} {c : Int} : ∀ {l : List (Int × α)}, l.Pairwise (fun a b => a.1 ≤ b.1) → (insK p l).filter (fun x => x.1 == c) = (p :: l).filter (fun x => x.1 == c)
  | [], _ => rfl
  | q :: r, h => by
    have h' := List.pairwise_cons.mp h
    unfold insK
    cases e : decide (p.1 ≤ q.1) with
    | true => rfl
    | false =>
      have e := of_decide_eq_false e
      rw [cond_false, List.filter_cons, insK_filter h'.2, List.filter_cons, List.filter_cons (x := p), List.filter_cons (x := q)]
      by_cases h1 : p.1 = c
      · have h2 : ¬ q.1 = c := by omega
        simp [h1, h2]
      · simp [h1]
theorem isortK_filter {α : Type} {c : Int} : ∀ {l : List (Int × α)}, (isortK l).filter (fun x => x.1 == c) = l.filter (fun x => x.1 == c)
  | [] => rfl
  | p :: l => by
    show (insK p (isortK l)).filter _ = _
    rw [insK_filter isortK_ord, List.filter_cons, isortK_filter, List.filter_cons]
theorem sortK_uniq {α : Type} : ∀ {l m : List (Int × α)}, l.Pairwise (fun a b => a.1 ≤ b.1) → m.Pairwise (fun a b => a.1 ≤ b.1) → (∀ c, l.filter (fun x => x.1 == c) = m.filter (fun x => x.1 == c)) → l = m
  | [], [], _, _, _ => rfl
  | [], q :: m, _, _, h => by
    have := h q.1
    simp at this
  | p :: l, [], _, _, h => by
    have := h p.1
    simp at this
  | p :: l, q :: m, hl, hm, h => by
    have hl' := List.pairwise_cons.mp hl
    have hm' := List.pairwise_cons.mp hm
    have m1 : p ∈ q :: m := by
      have : p ∈ (q :: m).filter (fun x => x.1 == p.1) := by rw [← h p.1]; simp
      exact (List.mem_filter.mp this).1
    have m2 : q ∈ p :: l := by
      have : q ∈ (p :: l).filter (fun x => x.1 == q.1) := by rw [h q.1]; simp
      exact (List.mem_filter.mp this).1
    have e1 : q.1 ≤ p.1 := by
      rcases List.mem_cons.mp m1 with e | e
      · rw [e]; exact Int.le_refl _
      · exact hm'.1 p e
    have e2 : p.1 ≤ q.1 := by
      rcases List.mem_cons.mp m2 with e | e
      · rw [e]; exact Int.le_refl _
      · exact hl'.1 q e
    have ek : q.1 = p.1 := Int.le_antisymm e1 e2
    have h0 := h p.1
    rw [List.filter_cons, List.filter_cons, if_pos (by simp), if_pos (by simp [ek])] at h0
    have ep : p = q := (List.cons.inj h0).1
    subst ep
    congr 1
    refine sortK_uniq hl'.2 hm'.2 fun c => ?_
    have hc := h c
    rw [List.filter_cons, List.filter_cons] at hc
    by_cases z : (p.1 == c) = true
    · rw [if_pos z, if_pos z] at hc
      exact (List.cons.inj hc).2
    · rw [if_neg z, if_neg z] at hc
      exact hc
/-- related lists, sorted by the same numbers, are related -/
inductive RelK {α β : Type} (F : α → β → Prop) : List (Int × α) → List (Int × β) → Prop
  | nil : RelK F [] []
  | cons {k a b l m} : F a b → RelK F l m → RelK F ((k, a) :: l) ((k, b) :: m)
theorem RelK.ins {α β : Type} {F : α → β → Prop} {k : Int} {a : α} {b : β} (h : F a b) : ∀ {l m}, RelK F l m → RelK F (insK (k, a) l) (insK (k, b) m)
  | _, _, .nil => .cons h .nil
  | _, _, .cons (k := j) g r => by
    unfold insK
    show RelK F (bif decide (k ≤ j) then _ else _) (bif decide (k ≤ j) then _ else _)
    cases decide (k ≤ j) with
    | true => exact .cons h (.cons g r)
    | false => exact .cons g (RelK.ins h r)
theorem RelK.sort {α β : Type} {F : α → β → Prop} : ∀ {l m}, RelK F l m → RelK F (isortK l) (isortK m)
  | _, _, .nil => .nil
  | _, _, .cons h r => (RelK.sort r).ins h
theorem RelK.vals {l : List (Int × V)} {m : List (Int × Value)} (h : RelK RelV l m) : Vals (l.map (·.2)) (m.map (·.2)) := by
  induction h with
  | nil => exact .nil
  | cons h _ ih => exact .cons h ih
theorem RelK.zip : ∀ {ks : List Int} {vs : List V} {us : List Value}, Vals vs us → ks.length = vs.length → RelK RelV (ks.zip vs) (ks.zip us)
  | [], _, _, .nil, _ => .nil
  | _ :: _, _, _, .nil, h => by cases h
  | [], _, _, .cons _ _, h => by cases h
  | k :: ks, _, _, .cons r t, h => .cons r (RelK.zip t (by simpa using h))
section
variable {X : Cx}
/-- every object of a heap but one -/
def allBut (h : Heap) (L : Addr) : List (Addr × Obj) := ((List.range h.objs.size).filter (· ≠ L)).filterMap fun b => (h.get? b).map fun o => (b, o)
theorem allBut_mem {h : Heap} {L b : Addr} {o : Obj} : (b, o) ∈ allBut h L ↔ h.get? b = some o ∧ b ≠ L := by
  unfold allBut
  rw [List.mem_filterMap]
  constructor
  · rintro ⟨c, hc, e⟩
    cases q : h.get? c with
    | none => rw [q] at e; cases e
    | some u =>
      rw [q] at e
      cases e
      exact ⟨q, of_decide_eq_true (List.mem_filter.mp hc).2⟩
  · rintro ⟨q, ne⟩
    refine ⟨b, List.mem_filter.mpr ⟨List.mem_range.mpr (Heap.lt_size q), decide_eq_true ne⟩, by rw [q]; rfl⟩
theorem objok_some {P : Program} {w : World} {H : Hp} {h : Heap} {a : Addr} {o : HO} (x : ObjOk P w H h a o) : ∃ u, h.get? a = some u := by
  cases o with
  | lst xs => obtain ⟨_, _, _, _, e⟩ := x; exact ⟨_, e⟩
  | tup xs => obtain ⟨_, _, _, ob, e, _⟩ := x; exact ⟨_, e⟩
  | dK kvs => obtain ⟨_, _, _, _, o, _, _, e, _⟩ := x; exact ⟨_, e⟩
  | dT kvs => obtain ⟨_, _, _, _, o, _, _, e, _⟩ := x; exact ⟨_, e⟩
  | set S n => obtain ⟨o, _, _, _, e, _⟩ := x; exact ⟨_, e⟩
  | ins C dx fs => obtain ⟨_, _, _, e, _⟩ := x; exact ⟨_, e⟩
  | own y => obtain ⟨_, e⟩ := x; exact ⟨_, e⟩
  | xd fs => obtain ⟨_, ⟨_, _, _, e, _⟩, _⟩ := x; exact ⟨_, e⟩
  | rng lo hi => obtain ⟨_, _, _, e⟩ := x; exact ⟨_, e⟩
  | frz ob u => obtain ⟨e, _⟩ := x; exact ⟨_, e⟩
  | tbl ps => exact ⟨_, (show h.get? a = some _ from x)⟩
  | met f y => exact ⟨_, (show h.get? a = some _ from x)⟩
  | ext φ => obtain ⟨_, e, _⟩ := x; exact e
def rLenOf (K : PySem.W.Frag) (H : Hp) (v : V) (n : Int) : Prop := ∃ p ys, v = .ref p ∧ (SqL K H p ys ∨ SqT K H p ys) ∧ n = ys.length
def rSortLen (K : PySem.W.Frag) : List V → Hp → VK → Prop := fun vs H Q => ∃ (a : Addr) (xs : List V) (ks : List Int), vs = [V.ref a] ∧ SqL K H a xs ∧ ks.length = xs.length ∧ (∀ (i : Nat) (v : V) (k : Int), xs[i]? = some v → ks[i]? = some k → rLenOf K H v k) ∧
  ∀ p, H p = none → Q (.ref p) (upd H p (.lst ((isortK (ks.zip xs)).map (·.2))))
theorem vals_at : ∀ {vs : List V} {us : List Value} {i : Nat} {u : Value}, Vals vs us → us[i]? = some u → ∃ v, vs[i]? = some v ∧ RelV v u
  | _, _, _, _, .nil, h => by simp at h
  | _, _, 0, _, .cons r _, h => by
    simp at h
    subst h
    exact ⟨_, rfl, r⟩
  | _, _, i + 1, u, .cons _ q, h => by
    obtain ⟨v, a, b⟩ := vals_at (i := i) (u := u) q (by simpa using h)
    exact ⟨v, by simpa using a, b⟩
theorem run_sortLen {pins : List (Addr × Obj)} {s : Shared} {σ : L2.St} {H : Hp} {vs : List V} {us : List Value} {Q : VK} (I : L2.Inv X pins σ H s) (r : Vals vs us) (h : rSortLen X.K vs H Q) :
    wpAny (model X.prog X.w) X.A (call (.builtin "sorted") us [(Str.ofString "key", .builtin "len")]) (EP X pins σ Q) X.xe s := by
  obtain ⟨a, xs, ks, rfl, hs, hlen, hk, q⟩ := h
  obtain ⟨u, rfl, ru⟩ := vals1 r
  obtain rfl : u = Value.ref a := ru
  obtain ⟨its, rv, hl, hz⟩ := I.list hs
  obtain ⟨m, hn, _⟩ := id I.loc
  have hL := hn.lt
  let h0 : Heap := {}
  have h00 : ∀ b, h0.get? b = none := fun b => Heap.get?_none_of_le (Nat.zero_le _)
  have F : Fr h0 X.env.locals s.heap m := ⟨hn, fun b o e => (by rw [h00 b] at e; cases e), Nat.zero_le _⟩
  have N : News h0 X.env.locals s.heap (allBut s.heap X.env.locals) := fun p hp => ⟨(allBut_mem.mp hp).1, (allBut_mem.mp hp).2, h00 _⟩
  refine ksk_sortedSt (b := false) (kz := ks) F N hl.isList (by rw [hlen, rv.length]) (by rw [← rv.length]; exact hz) (ksk_s1 _ _) (fun _ => ksk_l1 _ _) (fun _ => ksk_t4 _ _) (fun i v k hv hki h tk own F' N' => ?_) fun D h' tk out c F' N' hD ko => ?_
  · obtain ⟨x, hx, rx⟩ := vals_at rv hv
    obtain ⟨p, ys, rfl, hp, rfl⟩ := hk i x k hx hki
    cases rx
    have keep : ∀ b o, b ≠ X.env.locals → s.heap.get? b = some o → h.get? b = some o := fun b o nb e => (N' (b, o) (List.mem_append_left _ (allBut_mem.mpr ⟨e, nb⟩))).1
    have line : ∀ {n : Nat}, n ≤ sizeLine → (n : Int) < 2 ^ 63 := fun {n} hh => by rw [sizeLine_eq] at hh; omega
    have ne : ∀ o, s.heap.get? p = some o → (o.cls = .type "list" ∨ o.cls = .type "tuple") → (∃ its n, o.data = .seq its n) → p ≠ X.env.locals := fun o e _ hd z => by
      obtain ⟨oL, es, ep, hoL, hdL, _⟩ := hn
      rw [z, hoL] at e
      cases e
      obtain ⟨its, n, hd⟩ := hd
      rw [hdL] at hd
      cases hd
    rcases hp with hp | hp
    · obtain ⟨its2, r2, pl, hz2⟩ := I.list hp
      obtain ⟨o, ho, hc, n, hd⟩ := pl.isList
      have ho' := keep p o (ne o ho (.inl hc) ⟨_, n, hd⟩) ho
      have hl2 := r2.length
      refine Calls.call_len_list (items := its2.toArray) ⟨o, ho', hc, n, hd⟩ (by rw [List.size_toArray, ← hl2]; exact line hz2) ?_
      refine ⟨h, _, _, rfl, by rw [List.size_toArray, hl2], F', N'⟩
    · obtain ⟨its2, r2, pl, hz2⟩ := I.tuple hp
      obtain ⟨o, ho, hc, n, hd⟩ := id pl
      have ho' := keep p o (ne o ho (.inr hc) ⟨_, n, hd⟩) ho
      have hl2 := r2.length
      refine PyProof.Rows.len_tuple (items := its2.toArray) ⟨o, ho', hc, n, hd⟩ (by rw [List.size_toArray, ← hl2]; exact line hz2) ?_
      refine ⟨h, _, _, rfl, by rw [List.size_toArray, hl2], F', N'⟩
  · obtain ⟨ps, hp, ho, hs2, hst⟩ := ko
    have keep : ∀ b o, b ≠ X.env.locals → s.heap.get? b = some o → h'.get? b = some o := fun b o nb e => (N' (b, o) (List.mem_cons_of_mem _ (allBut_mem.mpr ⟨e, nb⟩))).1
    have hDl : D ≠ X.env.locals := (N' _ (List.mem_cons_self ..)).2.1
    have hDn : s.heap.get? D = none := by
      cases e : s.heap.get? D with
      | none => rfl
      | some o => exact absurd (hD (D, o) (allBut_mem.mpr ⟨e, hDl⟩)) (Nat.lt_irrefl _)
    have hHD : H D = none := by
      cases e : H D with
      | none => rfl
      | some o =>
        obtain ⟨w, hw⟩ := objok_some (I.hok D o e)
        rw [hDn] at hw
        cases hw
    have e1 : ps = isortK (ks.zip its) := sortK_uniq (by simpa using hs2) isortK_ord fun c => by rw [isortK_filter]; exact hst c
    have rel : Vals ((isortK (ks.zip xs)).map (·.2)) out.toList := by
      rw [ho, e1]
      exact (RelK.zip rv hlen).sort.vals
    have hlen2 : ((isortK (ks.zip xs)).map (·.2)).length ≤ sizeLine := by
      rw [rel.length, ho, List.length_map, hp.length_eq, List.length_zip, ← rv.length]
      omega
    have new : ObjOk X.prog X.w (upd H D (.lst ((isortK (ks.zip xs)).map (·.2)))) h' D (.lst ((isortK (ks.zip xs)).map (·.2))) := ⟨hlen2, out.toList, c, rel, by rw [Array.toArray_toList]; exact (N' _ (List.mem_cons_self ..)).1⟩
    have nl : ∀ b u, H b = some u → b ≠ X.env.locals := fun b u e z => by rw [z, I.free] at e; cases e
    have hok : HOk X.prog X.w (upd H D (.lst ((isortK (ks.zip xs)).map (·.2)))) h' := fun b u e => by
      by_cases hb : b = D
      · subst hb
        rw [upd_same] at e
        cases e
        exact new
      · rw [upd_ne hb] at e
        refine (I.hok b u e).stay (fun c v hc q => keep c v ?_ q) (fun c q => by rw [upd_ne (ne_of_none q hHD)]; exact q) fun c xs q => by rw [upd_ne (ne_of_none q hHD)]; exact q
        rcases hc with z | z
        · rw [z]; exact nl b u e
        · exact nl c _ z
    refine ⟨.ref D, _, I.step (g' := s.gens) (d' := s.drawn) (ch := []) (fun _ z => nomatch z) (fun b o hb _ _ e _ => keep b o hb e) (fun b o hb _ _ e _ => ⟨o.slots, keep b o hb e⟩) (fun b o _ e n => ?_) (fun b o _ e => ?_) (fun b ys e => ?_) (fun b o ys e => ?_) (fun b ps e => ?_) (fun m' hm => ?_) hok I.bare, rfl, q D hHD⟩
    · rw [upd_ne (fun z => by rw [z, hDn] at e; cases e)]
      exact n
    · by_cases hb : b = X.env.locals
      · obtain ⟨oL, _, _, hoL, _⟩ := F'.ns
        exact ⟨oL, by rw [hb]; exact hoL⟩
      · exact ⟨o, keep b o hb e⟩
    · rw [upd_ne (ne_of_none e hHD)]; exact e
    · rw [upd_ne (ne_of_none e hHD)]; exact e
    · exact ⟨#[], by rw [upd_ne (ne_of_none e hHD), e]; simp⟩
    · have em : m' = m := funext fun x => by
        obtain ⟨o1, es1, ep1, ho1, hd1, _, hf1⟩ := hm
        obtain ⟨o2, es2, ep2, ho2, hd2, _, hf2⟩ := hn
        rw [ho1] at ho2
        cases ho2
        rw [hd1] at hd2
        cases hd2
        rw [← hf1, ← hf2]
      rw [em]
      exact F'.ns
end
end Mi
namespace Mi
open PySem PySem.Spec PyProof.Rows L2
section
variable {K : PySem.W.Frag} {Ω : Om} {X : Cx} {W : WX} {Z ι : List Addr} {M : Mem} {H : Hp} {e e2 o a b c : Expr} {es : List Expr} {fa ga : AF} {f g fo h3 : EF} {pos p p2 kpos apos cpos p1 : Pos}
theorem pe_sortLen {t : TA} (hg : Gl X "sorted") (hm : X.mg "sorted" = none) (hg2 : Gl X "len") (hm2 : X.mg "len" = none) (ha : PA X [e] t)
    (he : backTo pos (starEach [e] X.env) = (false, eval e X.env) :: backTo pos (starEach [] X.env) := by rfl) (hpl : (backTo pos (starEach [e] X.env)).any (·.1) = false := by rfl) :
    PE X (.Call (.Name "sorted" p) [e] [⟨some "key", .Name "len" p2, kpos⟩] pos) (fun σ H Q => t σ H fun vs H1 => rSortLen X.K vs H1 Q) := by
  refine ⟨fun pins s σ H Q I h => ?_⟩
  refine wpAny_Call_Name_kw (ld_blt I hg hm (u := .builtin "sorted") rfl ?_ (by decide) (by decide))
  refine PyProof.Rows.callWith_kw (thn (ha.run pos pins s σ H _ I h) fun us s1 ⟨vs, H1, I1, r1, q1⟩ => ?_) he hpl rfl rfl
  refine wpAny_evalAll_cons (wpAny_bind (ld_blt I1 hg2 hm2 (u := .builtin "len") rfl (wpAny_bind (wpAny_standAt (wpAny_pure ?_))) (by decide) (by decide)))
  exact wpAny_evalAll_nil (run_sortLen I1 r1 q1)
/-- the lengths of items -/
def lensT (M : Mem) : List T → Option (List (Int × T))
  | [] => some []
  | t :: ts => (seqT M t).bind fun xs => (lensT M ts).map fun r => ((xs.length : Nat), t) :: r
theorem lensT_ok {ts : List T} {vs : List V} (m : RM K Ω Z ι M H) (r : Rs K Ω Z ι M H ts vs) : ∀ {ps}, lensT M ts = some ps → ∃ ks : List Int, ks.length = vs.length ∧ (∀ (i : Nat) (v : V) (k : Int), vs[i]? = some v → ks[i]? = some k → rLenOf K H v k) ∧ RelK (R K Ω Z ι M H) ps (ks.zip vs) := by
  induction ts generalizing vs with
  | nil =>
    intro ps h
    cases r
    cases h
    exact ⟨[], rfl, fun i v k hv => by simp at hv, .nil⟩
  | cons t ts ih =>
    intro ps h
    cases r with
    | cons r rs =>
      rename_i v vs
      unfold lensT at h
      cases e : seqT M t with
      | none => rw [e] at h; cases h
      | some xs =>
        rw [e] at h
        cases e2 : lensT M ts with
        | none => rw [e2] at h; cases h
        | some q =>
          rw [e2] at h
          cases h
          obtain ⟨a, ys, rfl, hs, rs2⟩ := seqT_ok m r e
          obtain ⟨ks, h1, h2, h3⟩ := ih rs e2
          refine ⟨(xs.length : Nat) :: ks, by simp [h1], fun i v k hv hk => ?_, .cons r h3⟩
          cases i with
          | zero =>
            simp at hv hk
            subst hv hk
            exact ⟨a, ys, rfl, hs, by rw [rs2.length]⟩
          | succ i => exact h2 i v k (by simpa using hv) (by simpa using hk)
theorem RelK.rs {l : List (Int × T)} {n : List (Int × V)} (h : RelK (R K Ω Z ι M H) l n) : Rs K Ω Z ι M H (l.map (·.2)) (n.map (·.2)) := by
  induction h with
  | nil => exact .nil
  | cons h _ ih => exact .cons h ih
/-- sorted(xs, key=len) -/
def bSortLen (M : Mem) (ts : List T) : Option (List T) := match ts with
  | [t] => (lstT M t).bind fun xs => (lensT M xs).map fun ps => (isortK ps).map (·.2)
  | _ => none
theorem bSortLen_ok : CallL K Ω (rSortLen K) bSortLen := fun Z ι M H ts vs zs Q m r h k => by
  unfold bSortLen at h
  split at h
  · rename_i t
    obtain ⟨v, rfl, r1⟩ := r.one rfl
    cases e : lstT M t with
    | none => rw [e] at h; cases h
    | some xs =>
      rw [e] at h
      have h : (lensT M xs).map (fun ps => (isortK ps).map (·.2)) = some zs := h
      cases e2 : lensT M xs with
      | none => rw [e2] at h; cases h
      | some ps =>
        rw [e2] at h
        cases h
        obtain ⟨a, ys, rfl, hs, rs⟩ := lstT_ok m r1 e
        obtain ⟨ks, h1, h2, h3⟩ := lensT_ok m rs e2
        exact ⟨a, ys, ks, rfl, hs, h1, h2, fun p hp => k p _ hp h3.sort.rs⟩
  · cases h
theorem ml_sortLen (hg : Gl X "sorted") (hm : X.mg "sorted" = none) (hg2 : Gl X "len") (hm2 : X.mg "len" = none) (ha : MA X Ω W [e] fa)
    (he : backTo pos (starEach [e] X.env) = (false, eval e X.env) :: backTo pos (starEach [] X.env) := by rfl) (hpl : (backTo pos (starEach [e] X.env)).any (·.1) = false := by rfl) :
    ML X Ω W (.Call (.Name "sorted" p) [e] [⟨some "key", .Name "len" p2, kpos⟩] pos) (eBiL bSortLen fa) := ml_of bSortLen_ok (pe_sortLen hg hm hg2 hm2 ha he hpl)
end
end Mi
namespace Mi
open PySem PySem.Spec PyProof.Rows L2
set_option maxHeartbeats 1000000 in
theorem enumNew1 {v : Value} {o : Obj} {Hh : Heap → Prop} (B : Begins v o Hh) : Meets (Builtin.«enumerate.__new__» ⟨[.type "enumerate", v], []⟩) (fun _ R s => Hh s.heap ∧
      R (.ok (.ret (.ref (s.heap.push o).objs.size))) { s with heap := (s.heap.push o).push { cls := .type "enumerate", data := .fields #[.none, .bool false, .ref s.heap.objs.size, rawInt 0, .none, .none] } }) :=
  .of_wp fun prog w A R s ⟨h1, h⟩ => by
    obtain ⟨hp, g, d, tk, os⟩ := s
    have hsub := sub_enumerate
    have it1 : ∀ {A' : Around} {E : Value → Shared → Prop} {Q : Value → Shared → Prop}, Q (.ref hp.objs.size) ⟨hp.push o, g, d, tk, os⟩ → wpAny (model prog w) A' (pyIter v) Q E ⟨hp, g, d, tk, os⟩ := fun z => B.iter prog w _ _ ⟨hp, g, d, tk, os⟩ _ h1 z
    wp_walk using it1
    refine wpAny_stack_any fun st => wpAny_pure ?_
    split
    · rename_i c _ _ _ _ _
      cases (c == Value.type "enumerate") <;> (wp_walk using it1; exact ⟨_, rfl, h⟩)
    · wp_walk using it1
      exact ⟨_, rfl, h⟩
theorem enum_call {prog : Program} {w : World} {A : Around} {E : Value → Shared → Prop} {s : Shared} {v : Value} {o : Obj} {Hh : Heap → Prop} {Q : Value → Shared → Prop} (B : Begins v o Hh) (h1 : Hh s.heap)
    (h : ∀ h', IsEnum h' (s.heap.objs.size + 1) s.heap.objs.size 0 .none → h'.get? s.heap.objs.size = some o → (∀ b x, s.heap.get? b = some x → h'.get? b = some x) → Q (.ref (s.heap.objs.size + 1)) { s with heap := h' }) :
    wpAny (model prog w) A (call (.type "enumerate") [v]) Q E s := by
  refine callType_new F.called_enumerate (by decide) (F.typeCall_enumerate_1 _) (F.newCall_enumerate_1 _) (fun obj => F.args_object_init_2 obj _) F.entry_enumerate_new (enumNew1 B) ⟨h1, ?_⟩
  have hz : (s.heap.push o).objs.size = s.heap.objs.size + 1 := Heap.size_push ..
  show _ ∧ _
  rw [hz]
  have he : IsEnum ((s.heap.push o).push { cls := .type "enumerate", data := .fields #[.none, .bool false, .ref s.heap.objs.size, rawInt 0, .none, .none] }) (s.heap.objs.size + 1) s.heap.objs.size 0 .none := by
    have k := Heap.get?_push_size (s.heap.push o) (o := { cls := .type "enumerate", data := .fields #[.none, .bool false, .ref s.heap.objs.size, rawInt 0, .none, .none] }) rfl
    rw [hz] at k
    exact k
  exact ⟨⟨_, he, rfl⟩, h _ he (Heap.get?_push_of_some _ (Heap.get?_push_size _ B.free)) fun b x z => Heap.get?_push_of_some _ (Heap.get?_push_of_some _ z)⟩
/-- the tuple at a, its items in new pairs -/
def IteT (K : PySem.W.Frag) (a : Addr) : It :=
  ⟨fun i H => ∃ (xs : List V) (x : V), SqT K H a xs ∧ xs[i]? = some x, fun i H v H' => ∃ T x, v = .ref T ∧ H T = none ∧ H' = upd H T (.tup [.int (i : Nat), x]) ∧ ∀ xs, SqT K H a xs → xs[i]? = some x, fun i H => ∃ xs : List V, SqT K H a xs ∧ xs.length ≤ i⟩
theorem tup_apart {X : Cx} {pins : List (Addr × Obj)} {σ : L2.St} {H : Hp} {s : Shared} {a it : Addr} {xs : List V} (I : L2.Inv X pins σ H s) (hq : SqT X.K H a xs) (hit : s.heap.IsTupleIter it a 0 ∨ ∃ i, s.heap.IsTupleIter it a i) : a ≠ it := by
  obtain ⟨its, rv, ⟨o, ho, hc, n, hd⟩, hz⟩ := I.tuple hq
  have hit : ∃ i, s.heap.IsTupleIter it a i := hit.elim (fun z => ⟨0, z⟩) id
  obtain ⟨i, o2, ho2, hc2, hd2⟩ := hit
  rintro rfl
  rw [ho] at ho2
  cases ho2
  rw [hd] at hd2
  cases hd2
theorem turn_enumT {P : Program} {w : World} {K : PySem.W.Frag} {elts : List Expr} {kk : Nat} {tpos : Pos} (a e it : Addr) :
    Turn P w K (.Tuple elts kk tpos) (IteT K a) [e, it] e (fun i h => (∃ old, IsEnum h e it ((i : Nat) : Int) old) ∧ h.IsTupleIter it a i ∧ e ≠ it) where
  mem := by simp
  obj := fun i h ⟨⟨old, he⟩, ⟨o, ho, hc, hd⟩, _⟩ b hb => by
    rcases (show b = e ∨ b = it by simpa using hb) with z | z
    · rw [z]; exact ⟨_, he, fun v q => nomatch q⟩
    · rw [z]; exact ⟨o, ho, fun v q => by rw [hd] at q; cases q⟩
  keep := fun i h h' ⟨⟨old, he⟩, hi, hne⟩ k => ⟨⟨old, k e (by simp) _ he⟩, hi.at fun o q => k it (by simp) o q, hne⟩
  item := by
    intro X hP hw hK hc i pins s σ H E I hf ⟨⟨old, he⟩, hit, hne⟩ ⟨xs, x, hq, hx⟩
    subst hP hw hK
    obtain ⟨its, rv, p, hz⟩ := I.tuple hq
    obtain ⟨u, hu, ru⟩ := rv.get hx
    have hea : e ≠ a := by
      rintro rfl
      obtain ⟨o, ho, hc2, n, hd⟩ := p
      have he : s.heap.get? e = some _ := he
      rw [he] at ho
      cases ho
      cases hd
    have hel : e < s.heap.objs.size := Heap.lt_size he
    have hil : it < s.heap.objs.size := by obtain ⟨_, q, _⟩ := hit; exact Heap.lt_size q
    have hlt : i < its.toArray.size := by
      rw [List.size_toArray]
      exact (List.getElem?_eq_some_iff.mp hu).1
    refine wpAny_pyNext_enum_itemD (Draws.tuple (by rw [show X.A.in1.handled = X.A.handled from rfl]; exact I.ok.hd hc) it a (tup_apart I hq (.inr ⟨i, hit⟩)) its.toArray) he ⟨hit, p⟩ hlt hne (by simp [hea, hne]) fun x' h' tk hx' ho hit' hT hsz hk => ?_
    obtain rfl : u = x' := by
      have hx' : its.toArray[i]? = some x' := hx'
      simp only [List.getElem?_toArray] at hx'
      rw [hu] at hx'
      exact Option.some.inj hx'
    refine ⟨_, rfl, wpAny_letOwnedTupleGo_enum (s := { s with heap := h', toks := tk + 1 }) ho fun h'' he' sb => ?_⟩
    have hT2 : h''.get? s.heap.objs.size = some { cls := .type "tuple", data := .seq #[.int i tk, u] } := (sb.2 _ (Nat.ne_of_gt hel)).trans hT
    have new : ObjOk X.prog X.w (upd H s.heap.objs.size (.tup [.int (i : Nat), x])) h'' s.heap.objs.size (.tup [.int (i : Nat), x]) :=
      ⟨by show 2 ≤ sizeLine; decide, [.int i tk, u], .cons ⟨_, rfl⟩ (.cons ru .nil), ⟨_, hT2, rfl, _, rfl⟩⟩
    have I1 : L2.Inv X pins σ (upd H s.heap.objs.size (.tup [.int (i : Nat), x])) { s with heap := h'', toks := tk + 1 } :=
      I.turnedNew (ch := [e, it]) (fun b ob hb q => (sb.2 b (fun z => hb (by simp [z]))).trans (hk b ob (fun z => hb (by simp [z])) (fun z => hb (by simp [z])) q)) hf (Nat.le_refl _) new
    refine ⟨.ref s.heap.objs.size, _, I1, rfl, ⟨_, x, rfl, I.hok.fresh (Nat.le_refl _), rfl, fun ys hy => by rw [I.tuple_inj hy hq]; exact hx⟩, ⟨⟨u, ?_⟩, hit'.1.at fun o q => (sb.2 it (Ne.symm hne)).trans q, hne⟩, fun b hb => ?_⟩
    · rw [show ((i + 1 : Nat) : Int) = (i : Int) + 1 by omega]
      exact he'
    · have hb' : b < s.heap.objs.size := by
        rcases (show b = e ∨ b = it by simpa using hb) with z | z
        · rw [z]; exact hel
        · rw [z]; exact hil
      rw [upd_ne (Nat.ne_of_lt hb')]
      exact (hf b hb).1
  done := by
    intro X hP hw hK hc i pins s σ H E I hf ⟨⟨old, he⟩, hit, hne⟩ ⟨xs, hq, hx⟩
    subst hP hw hK
    obtain ⟨its, rv, p, hz⟩ := I.tuple hq
    obtain ⟨f0, f1, f2, f3, f4, f5⟩ := hf it (by simp)
    have hT : s.TypeIs (.ref e) "enumerate" := ⟨_, he, rfl⟩
    have hl := rv.length
    unfold pyNext
    refine wpAny_bind (wpAny_attempt (wpAny_callSpecial?_slot (name := Str.ofString "__next__") hT F.slot_enumerate_next
      (wpAny_call_entry F.slot_enumerate_next hT F.entry_enumerate_next ?_ (F.args_enumerate_next_1 _))))
    show wpAny _ _ (field (.ref e) 2 >>= _) _ _ _
    refine wpAny_bind (wpAny_field he rfl (x := .ref it) rfl ?_)
    refine wpAny_bind (wpAny_nextOf_tuple_end (by rw [show X.A.in1.in1.handled = X.A.handled from rfl]; exact I.ok.hd hc) hit p (by simp; omega) fun h' x eb ⟨o, ho, hcl⟩ => ?_)
    refine wpAny_bind (wpAny_isInstance (T := "StopIteration") (b := true) ⟨o, ho, hcl⟩ isSubtype_stop ?_)
    exact wpAny_pure ⟨rfl, I.turned (t' := s.toks) (fun b o hb q => eb b o hb q) f0 f1 f3 f4 f5⟩
  self := fun A i s Q E ⟨⟨_, he⟩, _⟩ h => wpAny_pyIter_enum he h
theorem pi_enumT {X : Cx} {e : Expr} {ta : TA} {p pos tpos : Pos} {elts : List Expr} {kk : Nat} (hg : Gl X "enumerate") (hm : X.mg "enumerate" = none) (ha : PA X [e] ta) (hs : starEach [e] X.env = [(false, eval e X.env)] := by rfl) :
    PI X (.Tuple elts kk tpos) (.Call (.Name "enumerate" p) [e] [] pos) (fun σ H R => ta σ H fun vs H1 => ∃ a xs, vs = [.ref a] ∧ SqT X.K H1 a xs ∧ R (IteT X.K a) H1) := by
  refine ⟨fun pins s σ H R I h => ?_⟩
  refine Call_ (ld_blt I hg hm boot_enumerate (PyProof.Rows.callWith_type1 (thn (ha.run pos pins s σ H _ I h) fun us s1 ⟨vs, H1, I1, r1, a, xs, ex, hq, q⟩ => ?_) hs rfl))
  subst ex
  obtain ⟨u, rfl, ru⟩ := vals1 r1
  obtain rfl : u = Value.ref a := ru
  obtain ⟨its, rv, p', hz⟩ := I1.tuple hq
  refine enum_call (begins_tuple a its.toArray) p' fun h' he hit hk => wpAny_pyIter_enum he ?_
  refine ⟨s1.heap.objs.size + 1, [s1.heap.objs.size + 1, s1.heap.objs.size], _, _, H1, rfl, I1.kept (t' := s1.toks) hk, turn_enumT a (s1.heap.objs.size + 1) s1.heap.objs.size, ⟨⟨.none, he⟩, ⟨_, hit, rfl, rfl⟩, Nat.succ_ne_self _⟩, fun b hb => ?_, q⟩
  have hle : s1.heap.objs.size ≤ b := by
    rcases (show b = s1.heap.objs.size + 1 ∨ b = s1.heap.objs.size by simpa using hb) with z | z
    · rw [z]; exact Nat.le_add_right _ _
    · rw [z]; exact Nat.le_refl _
  exact I1.fpOk hle (I1.hok.fresh hle)
end Mi
namespace Mi
open PySem PySem.Spec PyProof.Rows L2
section
variable {K : PySem.W.Frag} {Ω : Om} {X : Cx} {W : WX} {Z ι : List Addr} {M : Mem} {H : Hp} {e e2 o a b c : Expr} {es : List Expr} {fa ga : AF} {f g fo h3 : EF} {pos p p2 kpos apos cpos p1 : Pos}
/-! ### *e among items -/
def aStar (f : EF) (g : AF) : AF := fun σ M => (f σ M).bind fun t M1 => match seqT M1 t with
  | some xs => (g σ M1).bind fun ts M2 => .ok (xs ++ ts) M2
  | none => .err
theorem ma_star (ha : ME X Ω W e f) (hr : MA X Ω W es fa) (hs : starEach (.Starred e p :: es) X.env = (true, eval e X.env) :: starEach es X.env := by rfl) : MA X Ω W (.Starred e p :: es) (aStar f fa) := L2PA.imp (StX.pa_star ha hr hs) fun σ H Q ⟨Z, ι, M, σT, m, r, q⟩ =>
  ⟨Z, ι, M, σT, m, r, Post.bind q fun ι1 M1 H1 t v m1 e1 q1 p1 => by
    cases z : seqT M1 t with
    | none => rw [z] at p1; exact p1.elim
    | some xs =>
      rw [z] at p1
      obtain ⟨a, vs, rfl, hs, rs⟩ := seqT_ok m1 q1 z
      exact ⟨a, vs, rfl, hs.symm, Z, ι1, M1, σT, m1, r.ext e1.any, Post.bind p1 fun ι2 M2 H2 ts ws m2 e2 q2 p2 => p2.pure m2 ((rs.ext e2.any).append q2)⟩⟩
/-! ### a < b < c -/
def eChain (op op' : Op2) (f g h : EF) : EF := fun σ M => (f σ M).bind fun t M1 => (g σ M1).bind fun u M2 => match op M2 t u with
  | some (.bl true) => (h σ M2).bind fun w M3 => .of (op' M3 u w) M3
  | some (.bl false) => .ok (.bl false) M2
  | _ => .err
theorem chain_of {r r' : R2} {op op' : Op2} (h : OpS X.K Ω r op) (h' : OpS X.K Ω r' op') {σ : L2.St} {H : Hp} {Q : VK} (q : liftE X.K Ω W (eChain op op' f g h3) σ H Q) : tChain r r' (liftE X.K Ω W f) (liftE X.K Ω W g) (liftE X.K Ω W h3) σ H Q := by
  obtain ⟨Z, ι, M, σT, m, rv, p⟩ := q
  refine ⟨Z, ι, M, σT, m, rv, Post.bind p fun ι1 M1 H1 t v m1 e1 q1 p1 => ⟨Z, ι1, M1, σT, m1, rv.ext e1.any, Post.bind p1 fun ι2 M2 H2 u w m2 e2 q2 p2 => ?_⟩⟩
  split at p2
  · rename_i e
    refine h Z ι2 M2 H2 t u v w _ _ m2 (q1.ext e2.any) q2 e fun ι3 H3 x m3 e3 r3 => ?_
    cases r3
    refine ⟨true, rfl, ?_⟩
    rw [if_pos rfl]
    refine ⟨Z, ι3, M2, σT, m3, ((rv.ext e1.any).ext e2.any).ext e3.any, Post.bind (Post.ext p2 e3) fun ι4 M4 H4 y z m4 e4 q4 p4 => ?_⟩
    cases e5 : op' M4 u y with
    | none => rw [e5] at p4; exact p4.elim
    | some z' => rw [e5] at p4; exact h' Z ι4 M4 H4 u y w z z' Q m4 ((q2.ext e3.any).ext e4.any) q4 e5 fun ι' H' x m' e' r' => p4 ι' H' x m' e' r'
  · rename_i e
    refine h Z ι2 M2 H2 t u v w _ _ m2 (q1.ext e2.any) q2 e fun ι3 H3 x m3 e3 r3 => ?_
    cases r3
    refine ⟨false, rfl, ?_⟩
    rw [if_neg Bool.false_ne_true]
    exact p2 ι3 H3 _ m3 e3 (.bl false)
  · exact p2.elim
theorem me_chain {o1 o2 : CmpOp} {r r' : R2} {op op' : Op2} (ho : OpR X (compareOp o1) r) (h : OpS X.K Ω r op) (ho' : OpR X (compareOp o2) r') (h' : OpS X.K Ω r' op') (ha : ME X Ω W a f) (hb : ME X Ω W b g) (hc : ME X Ω W c h3)
    (hm : lastMarks [o1, o2] [b, c] = false := by with_unfolding_all rfl) : ME X Ω W (.Compare a [o1, o2] [b, c] pos) (eChain op op' f g h3) := L2PE.imp (pe_chain ho ho' ha hb hc hm) fun _ _ _ q => chain_of h h' q
theorem mt_chain {o1 o2 : CmpOp} {r r' : R2} {op op' : Op2} (ho : OpR X (compareOp o1) r) (h : OpS X.K Ω r op) (ho' : OpR X (compareOp o2) r') (h' : OpS X.K Ω r' op') (ha : ME X Ω W a f) (hb : ME X Ω W b g) (hc : ME X Ω W c h3)
    (hm : lastMarks [o1, o2] [b, c] = false := by with_unfolding_all rfl) : MT X Ω W (.Compare a [o1, o2] [b, c] pos) (tVal (eChain op op' f g h3)) := L2PT.imp (pt_chain ho ho' ha hb hc hm) fun _ _ _ q => chain_of h h' (tB_of q)
/-! ### places of items -/
def idxT (x : T) : List T → Option Nat
  | [] => none
  | y :: r => match teq y x with
    | some true => some 0
    | some false => (idxT x r).map (· + 1)
    | none => none
/-! ### + of any kind -/
def opPlus : Op2 := fun M t u => match lstT M t, lstT M u with
  | some xs, some ys => bif big (xs ++ ys).length then some (.lst (xs ++ ys)) else none
  | _, _ => opAdd M t u
theorem op_plus : OpR X (binaryOp .Add) (fun x y H Q => rAdd3 X.K x y H Q ∨ rCat x y H Q) := op_add3.or op_cat
theorem opPlus_ok : OpS K Ω (fun x y H Q => rAdd3 K x y H Q ∨ rCat x y H Q) opPlus := fun Z ι M H t u v w z Q m r q h k => by
  unfold opPlus at h
  split at h
  · rename_i xs ys h1 h2
    cases zb : big (xs ++ ys).length with
    | false => rw [zb] at h; cases h
    | true =>
      rw [zb] at h
      cases h
      obtain ⟨p, vs, rfl, hp, rp⟩ := lstT_at m r h1
      obtain ⟨p', ws, rfl, hp', rp'⟩ := lstT_at m q h2
      refine .inr ⟨p, p', vs, ws, rfl, rfl, hp, hp', ?_, fun d hd => ?_⟩
      · have := big_ok zb
        rw [List.length_append, rp.length, rp'.length] at this
        exact this
      · exact k ι _ _ (m.lay hd) (Ext.new hd) (.lst upd_same ⟨m.notLive hd, m.notZ hd⟩ ((rp.append rp').ext (Ext.new hd)))
  · exact .inl (opAdd_ok Z ι M H t u v w z Q m r q h k)
/-! ### (a, b, ..) = a tuple or a list -/
def pSeq (n : Nat) (q : List T → TV → Mem → Option TV) : PF := fun t σ M => match seqT M t with
  | some ts => bif ts.length == n then q ts σ M else none
  | none => none
theorem L2PG.or {tg : Expr} {g1 g2 : TG} (h1 : PG X tg g1) (h2 : PG X tg g2) : PG X tg (fun v σ H Q => g1 v σ H Q ∨ g2 v σ H Q) := ⟨fun pins s σ H v u Q I r q => q.elim (h1.run pins s σ H v u Q I r) (h2.run pins s σ H v u Q I r)⟩
theorem pat_seq {n : Nat} {gs : TGs} {q : List T → TV → Mem → Option TV} {vs : List Nat} (h : PatsS K Ω gs q vs) : PatS K Ω (fun v σ H Q => gTup K n gs v σ H Q ∨ gUnl K n gs v σ H Q) (pSeq n q) vs := fun Z ι M H σT σ t v σT' Q m rv r e k => by
  unfold pSeq at e
  cases e1 : seqT M t with
  | none => rw [e1] at e; cases e
  | some ts =>
    rw [e1] at e
    have e : (bif ts.length == n then q ts σT M else none) = some σT' := e
    cases z : ts.length == n with
    | false => rw [z] at e; cases e
    | true =>
      rw [z] at e
      obtain ⟨a, xs, rfl, hs, rs⟩ := seqT_ok m r e1
      have hl : xs.length = n := by rw [← rs.length]; exact beq_iff_eq.mp z
      rcases hs with hs | hs
      · exact .inr ⟨a, xs, rfl, hs, hl, h Z ι M H σT σ ts xs σT' _ m rv rs e k⟩
      · exact .inl ⟨a, xs, rfl, hs, hl, h Z ι M H σT σ ts xs σT' _ m rv rs e k⟩
theorem pg_seq {es : List Expr} {k : Nat} {t : TGs} {n : Nat} (hc : X.calm = true) (h : PGs X es t) (hn : (assignEach es X.env).length = n := by rfl) (hst : (assignEach es X.env).findIdx? (·.1) = none := by rfl) :
    PG X (.Tuple es k pos) (fun v σ H Q => gTup X.K n t v σ H Q ∨ gUnl X.K n t v σ H Q) := L2PG.or (pg_tup hc h hn hst) (pg_unl hc h hn hst)
/-! ### enumerate over anything -/
def enS (ts : List T) : Option (List T) := match ts with
  | [t] => (items t).map (enumT 0)
  | _ => none
theorem rit_enumT {Z ι : List Addr} {M : Mem} {H : Hp} {ts : List T} {a : Addr} {vs : List V} (h : SqT X.K H a vs) (r : Rs X.K Ω Z ι M H ts vs) : RIt X.K Ω Z ι M H (enumT 0 ts) (IteT X.K a) := fun Z' ι' M' H' m e g => by
  have h' : SqT X.K H' a vs := e.sqt h
  have r' := (r.grow g).ext e
  refine ⟨⟨vs, h', by rw [enumT_len, r.length]; exact Nat.le_refl _⟩, fun i t q => ?_⟩
  obtain ⟨u, hu, rfl⟩ := enumT_get q
  obtain ⟨v, hv, rv⟩ := r'.get hu
  refine ⟨⟨vs, v, h', hv⟩, fun x H2 y => ?_⟩
  obtain ⟨T', w, rfl, nT, rfl, y⟩ := y
  have := y vs h'
  rw [hv] at this
  cases this
  refine ⟨m.lay nT, Ext.new nT, .tup upd_same (.cons ?_ (.cons (rv.ext (Ext.new nT)) .nil))⟩
  rw [Nat.zero_add]
  exact .int _
theorem mi_enumS {tpos : Pos} {elts : List Expr} {kk : Nat} (hg : Gl X "enumerate") (hm : X.mg "enumerate" = none) (ha : MA X Ω W [e] fa) (hs : starEach [e] X.env = [(false, eval e X.env)] := by rfl) : MI X Ω W (.Tuple elts kk tpos) (.Call (.Name "enumerate" p) [e] [] pos) (iFun enS fa) := L2PI.imp (L2PI.or (pi_enum hg hm ha hs) (pi_enumT hg hm ha hs)) fun σ H Q ⟨Z, ι, M, σT, m, rv, q⟩ => by
  unfold iFun at q
  cases z : fa σT M with
  | err => rw [z] at q; exact q.elim
  | exc c t M1 => rw [z] at q; exact .inl ⟨Z, ι, M, σT, m, rv, by rw [z]; exact q⟩
  | ok ts M1 =>
    rw [z] at q
    match ts, q, z with
    | [.lst xs], q, z =>
      refine .inl ⟨Z, ι, M, σT, m, rv, ?_⟩
      rw [z]
      intro ι1 H1 vs m1 e1 r1
      cases r1 with
      | cons r1 r2 =>
        cases r2
        cases r1 with
        | lst hl hn rs => exact ⟨_, _, rfl, .inl (.inl hl), q ι1 H1 _ m1 e1 (rit_enum (.inl hl) hn rs)⟩
    | [.tup xs], q, z =>
      refine .inr ⟨Z, ι, M, σT, m, rv, ?_⟩
      rw [z]
      intro ι1 H1 vs m1 e1 r1
      cases r1 with
      | cons r1 r2 =>
        cases r2
        cases r1 with
        | tup ht rs => exact ⟨_, _, rfl, .of ht, q ι1 H1 _ m1 e1 (rit_enumT (.of ht) rs)⟩
    | [.ktup xs], q, z =>
      refine .inr ⟨Z, ι, M, σT, m, rv, ?_⟩
      rw [z]
      intro ι1 H1 vs m1 e1 r1
      cases r1 with
      | cons r1 r2 =>
        cases r2
        cases r1 with
        | ktup ht rs => exact ⟨_, _, rfl, ht, q ι1 H1 _ m1 e1 (rit_enumT ht rs)⟩
    | [], q, _ => exact q.elim
    | [.non], q, _ => exact q.elim
    | [.bl _], q, _ => exact q.elim
    | [.int _], q, _ => exact q.elim
    | [.str _], q, _ => exact q.elim
    | [.dct _ _], q, _ => exact q.elim
    | [.obj _ _], q, _ => exact q.elim
    | [.klst _], q, _ => exact q.elim
    | [.loc _], q, _ => exact q.elim
    | _ :: _ :: _, q, _ => exact q.elim
/-! ### lists over ranges -/
theorem pg_fld {f : Str} {ta : TE} (ho : PE X o ta) : PG X (.Attribute o f pos) (fun v σ H Q => ta σ H fun x H1 => ∃ a C dx fs, x = .ref a ∧ H1 a = some (.ins C dx fs) ∧ Cls X.K C ∧ NoAttr X.K C f ∧ fs.length < 1000 ∧ Q σ (upd H1 a (.ins C dx (putF f v fs)))) := by
  refine ⟨fun pins s σ H v u Q I r h => ?_⟩
  rw [assign_Attribute]
  refine wpAny_bind (wpAny_holding (thn (ho.run pins s σ H _ I h) fun ov s1 ⟨x, H1, I1, r1, a, C, dx, fs, ex, ea, c, n, l, q⟩ => ?_))
  subst ex
  obtain rfl : ov = Value.ref a := r1
  refine wpAny_bind (wpAny_standAt (wpAny_bind (wpAny_holding (setattr_ok I1 ea c n l r fun s3 I3 => ?_))))
  exact wpAny_release ⟨σ, _, I3, q⟩
end
section
variable {X : Cx} {Ω : Om} {W : WX} {o a b : Expr} {fa : AF} {fo : EF}
/-- the field i of a mutable instance of class c -/
def putFld (c i : Nat) (M : Mem) (o t : T) : Option Mem := match o with
  | .loc n => match M[n]? with
    | some (.obj c' fs) => bif c' == c then (match setAt fs i t with
      | some fs' => some (M.set n (.obj c fs'))
      | none => none) else none
    | _ => none
  | _ => none
theorem putFld_ok {K : PySem.W.Frag} {Z ι : List Addr} {M M' : Mem} {H : Hp} {c i : Nat} {f : Str} {u t : T} {w v : V} (hi : (Ω.fld c)[i]? = some f) (hu : ∀ j < i, (Ω.fld c)[j]? ≠ some f) (hfew : (Ω.fld c).length < 1000)
    (m2 : RM K Ω Z ι M H) (q2 : R K Ω Z ι M H u w) (q1 : R K Ω Z ι M H t v) (h : putFld c i M u t = some M') :
    ∃ a dx ws, w = .ref a ∧ H a = some (.ins (Ω.cls c) dx ws) ∧ ws.length < 1000 ∧ RM K Ω Z ι M' (upd H a (.ins (Ω.cls c) dx (putF f v ws))) ∧ ∀ Z', Ext Z' ι M H ι M' (upd H a (.ins (Ω.cls c) dx (putF f v ws))) := by
  cases q2 with
  | loc hn2 =>
    rename_i n a
    obtain ⟨ob, eo, ro⟩ := m2.at hn2
    have h : (match M[n]? with
      | some (MO.obj c' fs) => bif c' == c then (match setAt fs i t with
        | some fs' => some (M.set n (.obj c fs'))
        | none => none) else none
      | _ => none) = some M' := h
    rw [eo] at h
    cases ro with
    | obj ha hk rs =>
      rename_i c' fs dx ws
      dsimp only at h
      cases z : c' == c with
      | false => rw [z] at h; cases h
      | true =>
        rw [z] at h
        have ec := beq_iff_eq.mp z
        subst ec
        dsimp only [cond_true] at h
        have hlen : fs.length = ws.length := by rw [rs.length]; simp
        have few : ws.length < 1000 := by
          have := congrArg List.length hk
          rw [List.length_map, List.length_take] at this
          omega
        refine ⟨a, dx, ws, rfl, ha, few, ?_⟩
        unfold setAt at h
        have t1 : ∀ xs, HO.ins (Ω.cls c') dx ws ≠ .tup xs := by intro xs h; cases h
        have t2 : ∀ x y, HO.ins (Ω.cls c') dx ws ≠ .frz x y := by intro x y h; cases h
        by_cases lt : i < fs.length
        · rw [decide_eq_true lt] at h
          cases h
          have key : (ws.map (·.1))[i]? = some f := by rw [hk, List.getElem?_take_of_lt (by omega)]; exact hi
          have first : ∀ j < i, (ws.map (·.1))[j]? ≠ some f := fun j hj => by rw [hk, List.getElem?_take_of_lt (by omega)]; exact hu j hj
          obtain ⟨k1, k2⟩ := putF_at (v := v) key first
          have kl : (putF f v ws).length = ws.length := by have := congrArg List.length k1; simpa using this
          refine ⟨m2.write hn2 eo (by intro h; cases h) ha t1 t2 fun ex => .obj upd_same (by rw [k1, kl]; exact hk) ?_, fun _ => Ext.write hn2 eo (by intro h; cases h) ha t1 t2⟩
          rw [k2]
          exact Rs.setI (q1.ext ex) i (rs.ext ex)
        · rw [decide_eq_false lt] at h
          cases y : fs.length == i with
          | false => rw [y] at h; cases h
          | true =>
            rw [y] at h
            cases h
            have ei : fs.length = i := beq_iff_eq.mp y
            have fresh : f ∉ ws.map (·.1) := fun h => by
              obtain ⟨j, hj, ej⟩ := List.getElem_of_mem h
              have hj' : j < ws.length := by simpa using hj
              apply hu j (by omega)
              have e3 : (ws.map (·.1))[j]? = some f := by rw [List.getElem?_eq_getElem hj, ej]
              rw [hk, List.getElem?_take_of_lt hj'] at e3
              exact e3
            rw [putF_new fresh]
            refine ⟨m2.write hn2 eo (by intro h; cases h) ha t1 t2 fun ex => .obj upd_same ?_ ?_, fun _ => Ext.write hn2 eo (by intro h; cases h) ha t1 t2⟩
            · rw [List.map_append, hk, List.length_append]
              have : i = ws.length := by omega
              rw [List.length_singleton, List.take_add_one, ← this, hi]
              rfl
            · rw [List.map_append]
              exact Rs.append (rs.ext ex) (.cons (q1.ext ex) .nil)
    | gone _ => cases h
    | lst _ _ => cases h
    | dK _ _ _ => cases h
    | dT _ _ _ => cases h
  | _ => cases h
/-- x, o.f = a, b -/
def sParF (k c i : Nat) (fa : AF) (fo : EF) : SF := fun σ M => (eTup fa σ M).go σ fun tt M1 => match tt with
  | .tup [t, u] => (match fo (σ.set k (some t)) M1 with
    | .ok w M2 => (match putFld c i M2 w u with
      | some M3 => some (.nx (σ.set k (some t)), M3)
      | none => none)
    | _ => none)
  | _ => none
theorem ms_parF {c i k : Nat} {f x : Str} {px pf pt pos : Pos} {kt k2 pt2} (hc : Cls X.K (Ω.cls c)) (hn : NoAttr X.K (Ω.cls c) f) (hi : (Ω.fld c)[i]? = some f) (hu : ∀ j < i, (Ω.fld c)[j]? ≠ some f) (hfew : (Ω.fld c).length < 1000) (hcalm : X.calm = true)
    (hN : X.N.Nodup) (hk : X.N[k]? = some x) (hx : Loc X.env.scope x) (ha : MA X Ω W [a, b] fa) (ho : ME X Ω W0 o fo)
    (hs : swapsWithSole [.Tuple [.Name x px, .Attribute o f pf] kt pt] (.Tuple [a, b] k2 pt2) pos.line X.env = pure false := by rfl) (hw : swappedStores [.Tuple [.Name x px, .Attribute o f pf] kt pt] (.Tuple [a, b] k2 pt2) X.env = pure none := by rfl) 
    (hf : X.fn x = true ∨ X.env.scope.names.lookup x = some .local := by first | exact .inl rfl | exact .inr rfl | assumption) :
    MS X Ω W (.Assign [.Tuple [.Name x px, .Attribute o f pf] kt pt] (.Tuple [a, b] k2 pt2) pos) (sParF k c i fa fo) := L2PS.imp (ps_asg (me_tup ha) (pg_tup (n := 2) hcalm (pgs_cons (pg_name hN hk hx hf) (pgs_cons (pg_fld ho) pgs_nil))) hs hw) fun D σ H ⟨Z, ι, M, σT, m, rv, q⟩ => by
  refine ⟨Z, ι, M, σT, m, rv, PostS.go q rv fun ι1 M1 H1 tt v m1 e1 rv1 q1 p1 => ?_⟩
  match tt, v, q1, p1 with
  | .tup [t, u], .ref a0, .tup (vs := [x1, x2]) ht (.cons r1 (.cons r2 .nil)), p1 =>
    refine ⟨a0, [x1, x2], rfl, .of ht, rfl, x1, [x2], rfl, x2, [], rfl, Z, ι1, M1, σT.set k (some t), m1, rv1.set k r1, ?_⟩
    cases zf : fo (σT.set k (some t)) M1 with
    | err => simp only [zf] at p1; exact p1.elim
    | exc _ _ _ => simp only [zf] at p1; exact p1.elim
    | ok w M2 =>
      simp only [zf] at p1
      intro ι2 H2 wv m2 e2 q2
      cases zp : putFld c i M2 w u with
      | none => simp only [zp] at p1; exact p1.elim
      | some M3 =>
        simp only [zp] at p1
        obtain ⟨a1, dx, ws, rfl, ha1, few, m3, e3⟩ := putFld_ok hi hu hfew m2 q2 (r2.ext e2.any) zp
        refine ⟨a1, _, dx, ws, rfl, ha1, hc, hn, few, rfl, ?_⟩
        exact p1 ι2 _ _ m3 (e2.trans (e3 [])) (((rv1.ext e2.any).ext (e3 Z)).set k ((r1.ext e2.any).ext (e3 Z)))
  | .tup [], _, _, p1 => exact p1.elim
  | .tup [_], _, _, p1 => exact p1.elim
  | .tup (_ :: _ :: _ :: _), _, _, p1 => exact p1.elim
  | .non, _, _, p1 => exact p1.elim
  | .bl _, _, _, p1 => exact p1.elim
  | .int _, _, _, p1 => exact p1.elim
  | .str _, _, _, p1 => exact p1.elim
  | .lst _, _, _, p1 => exact p1.elim
  | .dct _ _, _, _, p1 => exact p1.elim
  | .obj _ _, _, _, p1 => exact p1.elim
  | .klst _, _, _, p1 => exact p1.elim
  | .ktup _, _, _, p1 => exact p1.elim
  | .loc _, _, _, p1 => exact p1.elim
end
end Mi
namespace Mi
open PySem PySem.Spec PyProof.Rows L2
section
variable {K : PySem.W.Frag} {Ω : Om} {X : Cx} {W : WX} {Z ι : List Addr} {M : Mem} {H : Hp} {e e2 o a b c value i : Expr} {st : Stmt} {es : List Expr} {fa ga : AF} {f g fo fi fv : EF} {pos p p2 kpos apos cpos p1 pos' : Pos}
/-! ### one reading or the other -/
def Res.or {α : Type} (r : Res α) (s : Res α) : Res α := match r with
  | .err => s
  | r => r
def eAlt (f g : EF) : EF := fun σ M => (f σ M).or (g σ M)
def tAlt (f g : TF) : TF := fun σ M => (f σ M).or (g σ M)
def sAlt (f g : SF) : SF := fun σ M => match f σ M with
  | none => g σ M
  | r => r
theorem L2PE.or {t t' : TE} (h : PE X e t) (h' : PE X e t') : PE X e (fun σ H Q => t σ H Q ∨ t' σ H Q) := ⟨fun pins s σ H Q I q => q.elim (h.run pins s σ H Q I) (h'.run pins s σ H Q I)⟩
theorem L2PT.or {t t' : TT} (h : PT X e t) (h' : PT X e t') : PT X e (fun σ H Q => t σ H Q ∨ t' σ H Q) := ⟨fun pins s σ H Q I q => q.elim (h.run pins s σ H Q I) (h'.run pins s σ H Q I)⟩
theorem L2PS.or {t t' : TS} (h : PS X st t) (h' : PS X st t') : PS X st (fun D σ H => t D σ H ∨ t' D σ H) := ⟨fun pins s σ H Q I q => q.elim (h.run pins s σ H Q I) (h'.run pins s σ H Q I)⟩
theorem me_alt (h : ME X Ω W e f) (h' : ME X Ω W e g) : ME X Ω W e (eAlt f g) := L2PE.imp (L2PE.or h h') fun σ H Q ⟨Z, ι, M, σT, m, rv, p⟩ => by
  unfold eAlt at p
  cases q : f σT M with
  | err => rw [q] at p; exact .inr ⟨Z, ι, M, σT, m, rv, p⟩
  | ok t M1 => rw [q] at p; exact .inl ⟨Z, ι, M, σT, m, rv, by rw [q]; exact p⟩
  | exc c t M1 => rw [q] at p; exact .inl ⟨Z, ι, M, σT, m, rv, by rw [q]; exact p⟩
theorem mt_alt {f g : TF} (h : MT X Ω W e f) (h' : MT X Ω W e g) : MT X Ω W e (tAlt f g) := L2PT.imp (L2PT.or h h') fun σ H Q ⟨Z, ι, M, σT, m, rv, p⟩ => by
  unfold tAlt at p
  cases q : f σT M with
  | err => rw [q] at p; exact .inr ⟨Z, ι, M, σT, m, rv, p⟩
  | ok t M1 => rw [q] at p; exact .inl ⟨Z, ι, M, σT, m, rv, by rw [q]; exact p⟩
  | exc c t M1 => rw [q] at p; exact .inl ⟨Z, ι, M, σT, m, rv, by rw [q]; exact p⟩
theorem ms_alt {f g : SF} (h : MS X Ω W st f) (h' : MS X Ω W st g) : MS X Ω W st (sAlt f g) := L2PS.imp (L2PS.or h h') fun D σ H ⟨Z, ι, M, σT, m, rv, p⟩ => by
  unfold sAlt at p
  cases q : f σT M with
  | none => rw [q] at p; exact .inr ⟨Z, ι, M, σT, m, rv, p⟩
  | some r => rw [q] at p; exact .inl ⟨Z, ι, M, σT, m, rv, by rw [q]; exact p⟩
/-! ### xs.index(x) -/
theorem idxT_ok {x : T} : ∀ {ts : List T} {j : Nat}, idxT x ts = some j → ∃ d, (dats Ω ts)[j]? = some d ∧ PyData.eqv d (dat Ω x) = true ∧ ∀ (m : Nat) d', m < j → (dats Ω ts)[m]? = some d' → PyData.eqv d' (dat Ω x) = false
  | [], _, h => by cases h
  | y :: r, j, h => by
    unfold idxT at h
    have key : ∀ b, teq y x = some b → PyData.eqv (dat Ω y) (dat Ω x) = b := fun b hb => by
      unfold teq at hb
      cases z : plainN 60 y && plainN 60 x with
      | false => rw [z] at hb; cases hb
      | true => rw [z] at hb; exact teqN_ok 60 y x b hb
    cases e : teq y x with
    | none => rw [e] at h; cases h
    | some b =>
      rw [e] at h
      have hb := key b e
      cases b with
      | true =>
        cases h
        exact ⟨dat Ω y, rfl, hb, fun m d' hm => absurd hm (Nat.not_lt_zero m)⟩
      | false =>
        cases q : idxT x r with
        | none => rw [q] at h; cases h
        | some k =>
          rw [q] at h
          cases h
          obtain ⟨d, h1, h2, h3⟩ := idxT_ok q
          refine ⟨d, h1, h2, fun m d' hm hd => ?_⟩
          cases m with
          | zero =>
            have hd : some (dat Ω y) = some d' := hd
            cases hd
            exact hb
          | succ m => exact h3 m d' (Nat.lt_of_succ_lt_succ hm) hd
def mIndex : OpM := fun M t ts => match lstT M t, ts with
  | some xs, [u] => bif plainN 60 u && xs.all (plainN 59) then (idxT u xs).map fun j => (.int (j : Nat), M) else none
  | _, _ => none
theorem mIndex_ok : MtS K Ω "list" (rIndexD K) mIndex := fun Z ι M H t ts v vs z M' Q m r rs h k => by
  unfold mIndex at h
  split at h
  · rename_i xs u hl
    cases zz : plainN 60 u && xs.all (plainN 59) with
    | false => rw [zz] at h; cases h
    | true =>
      rw [zz] at h
      have h : (idxT u xs).map (fun j => (T.int (j : Nat), M)) = some (z, M') := h
      rw [Bool.and_eq_true] at zz
      cases e : idxT u xs with
      | none => rw [e] at h; cases h
      | some j =>
        rw [e] at h
        cases h
        obtain ⟨y, rfl, ry⟩ := rs.one rfl
        obtain ⟨a, ws, rfl, hs, r1⟩ := lstT_ok m r hl
        obtain ⟨d, h1, h2, h3⟩ := idxT_ok (Ω := Ω) e
        have pl : plainN 60 (.lst xs) = true := zz.2
        exact ⟨a, y, dat Ω u, dats Ω xs, j, d, rfl, rfl, .lst hs (r1.dp 59 zz.2), ry.dp 60 zz.1, plain_shaped pl, plain_shaped zz.1, h1, h2, h3, k ι H _ m Ext.refl (.int _)⟩
  · cases h
def isLst (M : Mem) (t : T) : Bool := (lstT M t).isSome
theorem isLst_ok {t : T} {v : V} (m : RM K Ω Z ι M H) (r : R K Ω Z ι M H t v) (h : isLst M t = true) : tyV K "list" v H := by
  unfold isLst at h
  cases e : lstT M t with
  | none => rw [e] at h; cases h
  | some w =>
    obtain ⟨a, vs, rfl, hs, _⟩ := lstT_ok m r e
    exact .inl ⟨rfl, vs, hs⟩
theorem me_index (hu : X.A.units + 65 < cLine) (ho : ME X Ω W o f) (ha : MA X Ω W [e] fa) (hbase : attributeBase o "index" X.env (eval o X.env) = eval o X.env := by rfl)
    (hfew : ((backTo cpos (starEach [e] X.env)).all (fun x => !x.1) && (backToKw cpos (keywordEach [] X.env)).all (fun x => x.1.isSome) && decide ([e].length + ([] : List Keyword).length + (if ([] : List Keyword).isEmpty then 0 else 1) < 30)) = true := by rfl)
    (hline : (apos.endLine == cpos.line) = true := by rfl) (hs : starEach [e] X.env = (false, eval e X.env) :: starEach [] X.env := by rfl) (hplain : (backTo cpos (starEach [] X.env)).any (·.1) = false := by rfl) :
    ME X Ω W (.Call (.Attribute o "index" apos) [e] [] cpos) (eMt isLst mIndex f fa) :=
  me_mt PySem.F.plainAttrs_list PySem.F.slot_list_index PySem.F.type_list_index (mt_indexD hu) mIndex_ok (fun _ _ _ _ _ _ m r h => isLst_ok m r h) ho ha hbase hfew hline hs hplain
/-- t.index(x), a tuple of texts -/
def idxS (x : List Nat) : List (List Nat) → Option Nat
  | [] => none
  | y :: r => match strEq y x with
    | some true => some 0
    | some false => (idxS x r).map (· + 1)
    | none => none
theorem idxS_ok {x : List Nat} : ∀ {ts : List (List Nat)} {j : Nat}, idxS x ts = some j → (ts.map fun q => toStr (spell Ω.rho q))[j]? = some (toStr (spell Ω.rho x)) ∧ ∀ m, m < j → (ts.map fun q => toStr (spell Ω.rho q))[m]? ≠ some (toStr (spell Ω.rho x))
  | [], _, h => by cases h
  | y :: r, j, h => by
    unfold idxS at h
    have inj : ∀ {a b : List Nat}, toStr a = toStr b → a = b := fun {a b} z => by
      have := toStr_inj (x := a) (y := b)
      rw [z, beq_self_eq_true] at this
      exact of_decide_eq_true this.symm
    cases e : strEq y x with
    | none => rw [e] at h; cases h
    | some b =>
      rw [e] at h
      have hb := strEq_ok (Ω := Ω) e
      cases b with
      | true =>
        cases h
        exact ⟨by rw [List.map_cons, of_decide_eq_true hb]; rfl, fun m hm => absurd hm (Nat.not_lt_zero m)⟩
      | false =>
        cases q : idxS x r with
        | none => rw [q] at h; cases h
        | some k =>
          rw [q] at h
          cases h
          obtain ⟨h1, h2⟩ := idxS_ok q
          refine ⟨h1, fun m hm hd => ?_⟩
          cases m with
          | zero =>
            have hd : some (toStr (spell Ω.rho y)) = some (toStr (spell Ω.rho x)) := hd
            exact of_decide_eq_false hb (inj (Option.some.inj hd))
          | succ m => exact h2 m (Nat.lt_of_succ_lt_succ hm) hd
def tupT : T → Option (List T)
  | .tup xs => some xs
  | .ktup xs => some xs
  | _ => none
theorem tupT_ok {t : T} {v : V} {ts : List T} (r : R K Ω Z ι M H t v) (h : tupT t = some ts) : ∃ a vs, v = .ref a ∧ SqT K H a vs ∧ Rs K Ω Z ι M H ts vs := by
  cases r with
  | tup q rs => cases h; exact ⟨_, _, rfl, .of q, rs⟩
  | ktup q rs => cases h; exact ⟨_, _, rfl, q, rs⟩
  | _ => cases h
def mIndexT : OpM := fun M t ts => match tupT t, ts with
  | some xs, [.str x] => (strsT xs).bind fun ys => (idxS x ys).map fun j => (.int (j : Nat), M)
  | _, _ => none
abbrev rTupIx (K : PySem.W.Frag) : V → List V → Hp → VK → Prop := fun x xs H Q => ∃ p, ∃ ys : List Str, ∃ z j, x = .ref p ∧ xs = [.str z] ∧ SqT K H p (ys.map V.str) ∧ ys[j]? = some z ∧ (∀ m, m < j → ys[m]? ≠ some z) ∧ Q (.int (j : Nat)) H
theorem mIndexT_ok : MtS K Ω "tuple" (rTupIx K) mIndexT := fun Z ι M H t ts v vs z M' Q m r rs h k => by
  unfold mIndexT at h
  split at h
  · rename_i xs x hl
    cases e : strsT xs with
    | none => rw [e] at h; cases h
    | some ys =>
      rw [e] at h
      have h : (idxS x ys).map (fun j => (T.int (j : Nat), M)) = some (z, M') := h
      cases e2 : idxS x ys with
      | none => rw [e2] at h; cases h
      | some j =>
        rw [e2] at h
        cases h
        obtain ⟨y, rfl, ry⟩ := rs.one rfl
        obtain ⟨a, ws, rfl, hs, r1⟩ := tupT_ok r hl
        obtain ⟨h1, h2⟩ := idxS_ok (Ω := Ω) e2
        cases ry with
        | str _ s hs' hl' =>
          rw [strsT_ok e r1] at hs
          rw [toStr_of hs']
          exact ⟨a, _, _, j, rfl, rfl, hs, h1, h2, k ι H _ m Ext.refl (.int _)⟩
  · cases h
/-- a constant tuple's .index -/
def eIxK (t : T) (fa : AF) : EF := fun σ M => (fa σ M).bind fun ts M2 => match mIndexT M2 t ts with
  | some (z, M3) => .ok z M3
  | none => .err
theorem me_indexK {t : T} {q : Addr} (ho : PE X o (tC (.ref q))) (hk : ∃ ob, X.K.lookup q = some ob ∧ ob.cls = .type "tuple" ∧ ob.dict = none) (hr : ∀ Z ι M H, R X.K Ω Z ι M H t (.ref q)) (ha : MA X Ω W [e] fa) (hbase : attributeBase o "index" X.env (eval o X.env) = eval o X.env := by rfl)
    (hfew : ((backTo cpos (starEach [e] X.env)).all (fun x => !x.1) && (backToKw cpos (keywordEach [] X.env)).all (fun x => x.1.isSome) && decide ([e].length + ([] : List Keyword).length + (if ([] : List Keyword).isEmpty then 0 else 1) < 30)) = true := by rfl)
    (hline : (apos.endLine == cpos.line) = true := by rfl) (hs : starEach [e] X.env = (false, eval e X.env) :: starEach [] X.env := by rfl) (hplain : (backTo cpos (starEach [] X.env)).any (·.1) = false := by rfl) :
    ME X Ω W (.Call (.Attribute o "index" apos) [e] [] cpos) (eIxK t fa) := L2PE.imp (pe_bm PySem.F.plainAttrs_tuple PySem.F.slot_tuple_index PySem.F.type_tuple_index mt_tup_index ho ha hbase hfew hline hs hplain) fun σ H Q ⟨Z, ι, M, σT, m, rv, p⟩ => by
  refine ⟨.inr (.inl ⟨rfl, hk⟩), Z, ι, M, σT, m, rv, Post.bind p fun ι2 M2 H2 ts vs m2 e2 q2 p2 => ?_⟩
  cases z : mIndexT M2 t ts with
  | none => rw [z] at p2; exact p2.elim
  | some w => rw [z] at p2; exact mIndexT_ok Z ι2 M2 H2 t ts _ vs w.1 w.2 Q m2 (hr Z ι2 M2 H2) q2 z fun ι' H' x m' e' r' => p2 ι' H' x m' e' r'
/-! ### {} -/
/-- a new dict that is hidden becomes a mutable one -/
def eNewD (tk : Bool) : EF := fun _ M => .ok (.loc M.length) (M ++ [.dct tk []])
theorem newObj_of {u : HO} {o : MO} {σT : TV} {σ : L2.St} {Q : VK} (m : RM K Ω Z ι M H) (ro : ∀ ι' M' H' p, H' p = some u → RO K Ω Z ι' M' H' o p) (p : Post K Ω (R K Ω) (fun c d H' => W c d σ H') Z ι M H Q (.ok (.loc M.length) (M ++ [o]))) {d : Addr} (hd : H d = none) : Q (.ref d) (upd H d u) := by
  have e1 : Ext (d :: Z) ι M (upd H d u) (ι ++ [d]) (M ++ [o]) (upd H d u) := Ext.push m.len
  have e2 : Ext [d] ι M (upd H d u) (ι ++ [d]) (M ++ [o]) (upd H d u) := Ext.push m.len
  refine p (ι ++ [d]) _ _ ((m.layH hd).push (m.notZ hd) fun _ => ro _ _ _ _ upd_same) (((Ext.new (Z := [d]) hd).trans e2).drop hd) (.loc ?_)
  rw [← m.len, List.getElem?_append_right (Nat.le_refl _), Nat.sub_self]
  rfl
theorem me_newDK : ME X Ω W (.Dict [] [] pos) (eNewD false) := L2PE.imp pe_dnewK fun σ H Q ⟨Z, ι, M, σT, m, rv, p⟩ d hd => newObj_of (W := W) (σT := σT) (σ := σ) m (fun ι' M' H' q hq => .dK (ws := []) hq .nil .nil) p hd
theorem me_newDT : ME X Ω W (.Dict [] [] pos) (eNewD true) := L2PE.imp pe_dnewT fun σ H Q ⟨Z, ι, M, σT, m, rv, p⟩ d hd => newObj_of (W := W) (σT := σT) (σ := σ) m (fun ι' M' H' q hq => .dT (ws := []) hq .nil .nil) p hd
/-! ### xs[i] = e -/
def sLput (fv fo fi : EF) : SF := fun σ M => (fv σ M).go σ fun v M1 => match (match fo σ M1 with
  | .ok t M2 => (match fi σ M2 with
    | .ok (.int i) M3 => (match locL M3 t with
      | some (n, xs) => (ixN xs.length i).map fun j => M3.set n (.lst (xs.set j v))
      | none => none)
    | _ => none)
  | _ => none : Option Mem) with
  | some M4 => some (.nx σ, M4)
  | none => none
theorem ms_lput (ho : ME X Ω W0 o fo) (hi : ME X Ω W0 i fi) (hv : ME X Ω W value fv) (hs : swapsWithSole [.Subscript o i pos'] value pos.line X.env = pure false := by rfl) (hw : swappedStores [.Subscript o i pos'] value X.env = pure none := by rfl)
    (ha : ∀ v, assign (.Subscript o i pos') X.env v = (do
      let ov ← holding [v] (eval o X.env)
      let iv ← holding [v, ov] (eval i X.env)
      standAt pos'
      holding [v, ov, iv] (setItem ov iv v)
      release [v, ov, iv] []) := by intro _; rfl) : MS X Ω W (.Assign [.Subscript o i pos'] value pos) (sLput fv fo fi) := L2PS.imp (ps_asg hv (pg_sub ho hi set_list ha) hs hw) fun D σ H ⟨Z, ι, M, σT, m0, rv, q⟩ => by
  refine ⟨Z, ι, M, σT, m0, rv, PostS.go q rv fun ι1 M1 H1 v y m1 e1 rv1 q1 p1 => ?_⟩
  refine ⟨Z, ι1, M1, σT, m1, rv1, ?_⟩
  cases z1 : fo σT M1 with
  | err => simp only [z1] at p1; exact p1.elim
  | exc _ _ _ => simp only [z1] at p1; exact p1.elim
  | ok t M2 =>
    simp only [z1] at p1
    intro ι2 H2 tv m2 e2 r2
    refine ⟨Z, ι2, M2, σT, m2, rv1.ext e2.any, ?_⟩
    cases z2 : fi σT M2 with
    | err => simp only [z2] at p1; exact p1.elim
    | exc _ _ _ => simp only [z2] at p1; exact p1.elim
    | ok u M3 =>
      simp only [z2] at p1
      intro ι3 H3 uv m3 e3 r3
      cases u with
      | int i =>
        cases r3
        simp only at p1
        cases z3 : locL M3 t with
        | none => simp only [z3] at p1; exact p1.elim
        | some w =>
          obtain ⟨n, xs⟩ := w
          simp only [z3] at p1
          cases z4 : ixN xs.length i with
          | none => simp only [z4] at p1; exact p1.elim
          | some j =>
            simp only [z4] at p1
            obtain ⟨a, ws, rfl, rfl, hn, hm, ha2, rx⟩ := locL_ok m3 (r2.ext (Z := Z) e3.any) z3
            have ry := (q1.ext (Z := Z) e2.any).ext (Z := Z) e3.any
            obtain ⟨m4, e4⟩ := put_list m3 hn hm ha2 (Rs.setI ry j rx)
            refine ⟨a, ws, i, j, rfl, rfl, ha2, by rw [← rx.length]; exact z4, ?_⟩
            exact p1 ι3 σ _ m4 ((e2.trans e3).trans (e4 [])) (((rv1.ext e2.any).ext e3.any).ext (e4 Z))
      | _ => exact p1.elim
/-! ### list(range(..)) -/
def rgL1 (ts : List T) : Option (List T) := match ts with
  | [.int j] => bif decide (0 ≤ j) && decide (j ≤ 1000000) then some (rngT 0 j.toNat) else none
  | _ => none
theorem rs_rng {n : Nat} : ∀ lo : Int, Rs K Ω Z ι M H (rngT lo n) ((List.range n).map fun i => V.int (lo + (i : Nat))) := fun lo => by
  unfold rngT
  generalize List.range n = l
  induction l with
  | nil => exact .nil
  | cons a l ih => exact .cons (.int _) ih
def eLrg (f : EF) : AF := fun σ M => (f σ M).bind fun t M1 => .of (rgL1 [t]) M1
theorem ml_range1 (hc : X.calm = true) (hg : Gl X "list") (hm : X.mg "list" = none) (hg2 : Gl X "range") (hm2 : X.mg "range" = none) (ha : ME X Ω W a f) (na : starEach [a] X.env = (false, eval a X.env) :: starEach [] X.env := by rfl)
    (na2 : starEach [Expr.Call (.Name "range" p2) [a] [] p1] X.env = (false, eval (Expr.Call (.Name "range" p2) [a] [] p1) X.env) :: starEach [] X.env := by rfl) :
    ML X Ω W (.Call (.Name "list" p) [.Call (.Name "range" p2) [a] [] p1] [] pos) (eLrg f) := L2PE.imp (pe_listRg hc hg hm (prg_1 hg2 hm2 ha na) na2) fun σ H Q ⟨Z, ι, M, σT, m, rv, q⟩ => by
  refine ⟨Z, ι, M, σT, m, rv, ?_⟩
  unfold eLrg at q
  cases z : f σT M with
  | err => rw [z] at q; exact q.elim
  | exc c t M1 => rw [z] at q; exact q
  | ok t M1 =>
    rw [z] at q
    intro ι1 H1 v m1 e1 r1
    cases y : rgL1 [t] with
    | none => simp only [Res.bind, y] at q; exact q.elim
    | some zs =>
      simp only [Res.bind, y] at q
      unfold rgL1 at y
      split at y
      · rename_i t' j e
        cases e
        cases r1
        cases w : decide (0 ≤ j) && decide (j ≤ 1000000) with
        | false => rw [w] at y; cases y
        | true =>
          rw [w] at y
          cases y
          rw [Bool.and_eq_true, decide_eq_true_eq, decide_eq_true_eq] at w
          refine ⟨j, rfl, .of_le (Int.le_refl 0) (by omega) (by omega) w.1, fun d hd => laid_of (σ := σ) m1 e1 q hd ?_⟩
          have := rs_rng (K := X.K) (Ω := Ω) (Z := Z) (ι := ι1) (M := M1) (H := H1) (n := j.toNat) 0
          unfold rgV
          rw [Int.sub_zero]
          exact this
      · cases y
end
end Mi
namespace Mi
open PySem PySem.Spec PyProof.Rows L2
def compD (p : PF) (c : TF) (fk f : EF) (σ : TV) : List T → List (T × T) → Mem → Res (List (T × T))
  | [], acc, M => .ok acc M
  | t :: ts, acc, M => match p t σ M with
    | none => .err
    | some σ1 => match c σ1 M with
      | .ok true M1 => (match fk σ1 M1 with
        | .ok k M2 => (match f σ1 M2 with
          | .ok u M3 => (match dPut false acc k u with
            | some acc' => compD p c fk f σ ts acc' M3
            | none => .err)
          | _ => .err)
        | _ => .err)
      | .ok false M1 => compD p c fk f σ ts acc M1
      | _ => .err
def eDc (own : List Nat) (p : PF) (it : AF) (c : TF) (fk f : EF) : EF := fun σ M => (it σ M).bind fun ts M1 => match compD p c fk f (wipeT σ own) ts [] M1 with
  | .ok kvs M2 => .ok (.dct false kvs) M2
  | _ => .err
section
variable {X : Cx} {Ω : Om} {W : WX} {kx vx iter tg : Expr} {fk f : EF} {c : TF} {it : AF} {pos : Pos} {ifs : List Expr} {scope : Scope} {own : List (Str × Nat)} {gt : TG} {pf : PF} {vs : List Nat}
theorem me_dc (hc : X.calm = true) (hN : X.N.Nodup) (hi : MI X Ω W tg iter it) (ok : BlkOk X.N X.env.scope scope own) (hp : PatS X.K Ω gt pf vs) (hv : ∀ i ∈ vs, i ∈ own.map (·.2))
    (hg : ∀ (s : Shared) (H : Hp) (C : Addr) (cl : List (Str × Addr)) (fp : List Addr), PG (X.blk s H scope (compEnvC scope cl C X.env) fp) tg gt)
    (ht : ∀ (s : Shared) (H : Hp) (C : Addr) (cl : List (Str × Addr)) (fp : List Addr), MTs (X.blk s H scope (compEnvC scope cl C X.env) fp) Ω W0 ifs c)
    (hk : ∀ (s : Shared) (H : Hp) (C : Addr) (cl : List (Str × Addr)) (fp : List Addr), ME (X.blk s H scope (compEnvC scope cl C X.env) fp) Ω W0 kx fk)
    (he : ∀ (s : Shared) (H : Hp) (C : Addr) (cl : List (Str × Addr)) (fp : List Addr), ME (X.blk s H scope (compEnvC scope cl C X.env) fp) Ω W0 vx f) (hs : ∀ x, foldedSetIterable iter X.env x = pure x := by intro _; rfl) :
    ME X Ω W (.DictComp kx vx [⟨tg, iter, ifs, 0⟩] scope pos) (eDc (own.map (·.2)) pf it c fk f) := L2PE.imp (pe_dc (tt := liftT X.K Ω W0 c) (tk := liftE X.K Ω W0 fk) (tv := liftE X.K Ω W0 f) hc hN hi ok hg ht hk he hs) fun σ H Q ⟨Z, ι, M, σT, m, rv, p⟩ => by
  refine ⟨Z, ι, M, σT, m, rv, ?_⟩
  unfold eDc at p
  cases q0 : it σT M with
  | exc c t M1 => rw [q0] at p; exact p
  | err => rw [q0] at p; exact p
  | ok ts M1 =>
    rw [q0] at p
    intro ι1 H1 J m1 e1 q1 D nD
    have p : Post X.K Ω (R X.K Ω) (fun c d H' => W c d σ H') Z ι M H Q (match compD pf c fk f (wipeT σT (own.map (·.2))) ts [] M1 with
      | .ok kvs M2 => .ok (.dct false kvs) M2
      | _ => .err) := p
    have dZ : D ∉ Z := m1.notZ nD
    have rv1 : RV X.K Ω Z ι1 M1 H1 σT σ := rv.ext e1.any
    refine ⟨fun i n H => n = ts.length - i ∧ i ≤ ts.length ∧ ∃ ι2 M2 acc ws, RM X.K Ω (D :: Z) ι2 M2 H ∧ Ext [D] ι1 M1 H1 ι2 M2 H ∧ H D = some (.dK ws) ∧ RKs Ω (acc.map (·.1)) (ws.map (·.1)) ∧ Rs X.K Ω (D :: Z) ι2 M2 H (acc.map (·.2)) (ws.map (·.2)) ∧ (match compD pf c fk f (wipeT σT (own.map (·.2))) (ts.drop i) acc M2 with
      | .ok kvs M' => ∀ ι' H' v, RM X.K Ω Z ι' M' H' → Ext [] ι1 M1 H1 ι' M' H' → R X.K Ω Z ι' M' H' (.dct false kvs) v → Q v H'
      | _ => False), ⟨ts.length, by omega, Nat.zero_le _, ι1, M1, [], [], m1.layH nD, Ext.new nD, upd_same, .nil, .nil, ?_⟩, ?_⟩
    · generalize hr : compD pf c fk f (wipeT σT (own.map (·.2))) ts [] M1 = r at p
      rw [show ts.drop 0 = ts from rfl, hr]
      match r, p with
      | .ok kvs M', p => exact fun ι' H' v mm ex r => p ι' H' v mm (e1.trans ex) r
      | .exc _ _ _, p => exact p.elim
      | .err, p => exact p.elim
    · rintro i n H3 ⟨rfl, hi3, ι2, M2, acc, ws, m2, ex2, hD2, rk2, rs2, p2⟩
      obtain ⟨stop, go⟩ := q1 (D :: Z) ι2 M2 H3 m2 (ex2.to fun z h => by simp at h; simp [h]) fun z h => (List.mem_cons.mp h).elim (fun e => .inr (by rw [e]; exact nD)) .inl
      by_cases hlt : i < ts.length
      · have hd : ts.drop i = ts[i] :: ts.drop (i + 1) := List.drop_eq_getElem_cons hlt
        rw [hd] at p2
        obtain ⟨g1, y1⟩ := go i ts[i] (List.getElem?_eq_getElem hlt)
        refine .inr ⟨g1, fun H' => i + 1 ≤ ts.length ∧ ∃ ι2 M2 acc ws, RM X.K Ω (D :: Z) ι2 M2 H' ∧ Ext [D] ι1 M1 H1 ι2 M2 H' ∧ H' D = some (.dK ws) ∧ RKs Ω (acc.map (·.1)) (ws.map (·.1)) ∧ Rs X.K Ω (D :: Z) ι2 M2 H' (acc.map (·.2)) (ws.map (·.2)) ∧ (match compD pf c fk f (wipeT σT (own.map (·.2))) (ts.drop (i + 1)) acc M2 with
          | .ok kvs M' => ∀ ι' H' v, RM X.K Ω Z ι' M' H' → Ext [] ι1 M1 H1 ι' M' H' → R X.K Ω Z ι' M' H' (.dct false kvs) v → Q v H'
          | _ => False), fun H' ⟨a, h⟩ => ⟨ts.length - (i + 1), by omega, rfl, a, h⟩, fun x H4 y => ?_⟩
        obtain ⟨m4, e4, r4⟩ := y1 x H4 y
        have ex4 : Ext [D] ι1 M1 H1 ι2 M2 H4 := ex2.trans e4.any
        have hD4 : H4 D = some (.dK ws) := (e4.froz D _ hD2 ⟨(m2.zin D (by simp)).2, by simp⟩).1
        have rv4 : RV X.K Ω (D :: Z) ι2 M2 H4 (wipeT σT (own.map (·.2))) (wipe σ (own.map (·.2))) := by
          have h1 : RV X.K Ω (D :: Z) ι1 M1 H1 σT σ := rv1.hide nD
          exact (h1.ext (ex4.to fun z h => by simp at h; simp [h])).wipe _
        unfold compD at p2
        cases zp : pf ts[i] (wipeT σT (own.map (·.2))) M2 with
        | none => rw [zp] at p2; exact p2.elim
        | some σ1 =>
          rw [zp] at p2
          refine hp (D :: Z) ι2 M2 H4 _ _ ts[i] x σ1 _ m4 rv4 r4 zp fun σ5 rv5 w5 => ⟨(w5 _ hv).trans wipe_wipe, D :: Z, ι2, M2, σ1, m4, rv5, ?_⟩
          dsimp only at p2
          cases zc : c σ1 M2 with
          | err => rw [zc] at p2; exact p2.elim
          | exc _ _ _ => rw [zc] at p2; exact p2.elim
          | ok k M5 =>
            rw [zc] at p2
            intro ι5 H5 b m5 e5 hb
            cases hb
            have ex5 : Ext [D] ι1 M1 H1 ι5 M5 H5 := ex4.trans e5.any
            have hD5 : H5 D = some (.dK ws) := (e5.froz D _ hD4 ⟨(m4.zin D (by simp)).2, by simp⟩).1
            have rs5 : Rs X.K Ω (D :: Z) ι5 M5 H5 (acc.map (·.2)) (ws.map (·.2)) := (rs2.ext e4.any).ext e5.any
            cases k with
            | false =>
              rw [if_neg Bool.false_ne_true]
              exact ⟨hlt, ι5, M5, acc, ws, m5, ex5, hD5, rk2, rs5, p2⟩
            | true =>
              rw [if_pos rfl]
              refine ⟨D :: Z, ι5, M5, σ1, m5, rv5.ext e5.any, ?_⟩
              dsimp only at p2
              cases zk : fk σ1 M5 with
              | err => rw [zk] at p2; exact p2.elim
              | exc _ _ _ => rw [zk] at p2; exact p2.elim
              | ok tk M6 =>
                rw [zk] at p2
                intro ι6 H6 v6 m6 e6 r6
                have hD6 : H6 D = some (.dK ws) := (e6.froz D _ hD5 ⟨(m5.zin D (by simp)).2, by simp⟩).1
                have rs6 : Rs X.K Ω (D :: Z) ι6 M6 H6 (acc.map (·.2)) (ws.map (·.2)) := rs5.ext e6.any
                refine ⟨D :: Z, ι6, M6, σ1, m6, (rv5.ext e5.any).ext e6.any, ?_⟩
                dsimp only at p2
                cases zf : f σ1 M6 with
                | err => rw [zf] at p2; exact p2.elim
                | exc _ _ _ => rw [zf] at p2; exact p2.elim
                | ok u M7 =>
                  rw [zf] at p2
                  intro ι7 H7 v7 m7 e7 r7
                  have hD7 : H7 D = some (.dK ws) := (e7.froz D _ hD6 ⟨(m6.zin D (by simp)).2, by simp⟩).1
                  have rs7 : Rs X.K Ω (D :: Z) ι7 M7 H7 (acc.map (·.2)) (ws.map (·.2)) := rs6.ext e7.any
                  dsimp only at p2
                  cases zd : dPut false acc tk u with
                  | none => rw [zd] at p2; exact p2.elim
                  | some acc' =>
                    rw [zd] at p2
                    unfold dPut at zd
                    cases hk : isKey false tk && big (acc.length + 1) with
                    | false => rw [hk] at zd; cases zd
                    | true =>
                      rw [hk] at zd
                      rw [Bool.and_eq_true] at hk
                      obtain ⟨kk, rkk, rfl⟩ := rk_of r6 hk.1
                      have et : ∀ Z' o, Ext (D :: Z') ι7 M7 H7 ι7 M7 (upd H7 D o) := fun Z' o => Ext.turn hD7 (by intro xs h; cases h) (by intro x y h; cases h)
                      have lw : acc.length = ws.length := by have := rs7.length; simpa using this
                      have hbig := of_decide_eq_true hk.2
                      dsimp only [cond_true] at zd
                      cases hh : hits false tk acc with
                      | none => rw [hh] at zd; cases zd
                      | some bs =>
                        rw [hh] at zd
                        obtain ⟨k1, k2⟩ := put_K rk2 rs7 rkk r7 hh (Option.some.inj (show some _ = some acc' from zd)).symm
                        refine ⟨ws, kk, rfl, hD7, ?_, hlt, ι7, M7, acc', putK ws kk v7, m7.turn hD7 (by intro xs h; cases h) (by intro x y h; cases h), ((ex5.trans e6.any).trans e7.any).trans (et [] _), upd_same, k1, k2.ext (et Z _), p2⟩
                        rw [← lw, sizeLine_eq]
                        omega
      · have e : i = ts.length := by omega
        subst e
        rw [List.drop_length] at p2
        have hs2 : ∀ z ∈ Z, z ∈ D :: Z := fun z q => List.mem_cons_of_mem _ q
        exact .inl ⟨stop, p2 ι2 H3 _ (m2.sub hs2) (ex2.drop nD) (.dK (.inl hD2) ⟨(m2.zin D (by simp)).2, dZ⟩ rk2 (rs2.sub hs2))⟩
end
end Mi
namespace Mi
open PySem PySem.Spec PyProof.Rows L2
/-! ### the hook: facts, defs, further checks -/
abbrev Ck := PySem.W.Frag → Bool
/-- one def: where its function stands, and what the row says of it -/
structure DefM where
  adr : PySem.W.Frag → Addr
  name : Str
  qual : Str
  params : Arguments
  body : List Stmt
  scope : Scope
  dfl : List He.Dv
def DefM.val (d : DefM) : He.FnW := some (d.name, d.qual, d.params, .stmts d.body, d.scope, mainGlobals, [], builtinsNs)
def fnWM (K : PySem.W.Frag) (a : Addr) : He.FnW := match K.lookup a with
  | none => none
  | some o => match o.data with
    | .func z => some (z.name, z.qualname, z.params, z.body, z.scope, z.globals, z.closure, z.builtins)
    | _ => none
def DefM.ok (K : PySem.W.Frag) (d : DefM) : Bool := PySem.W.keepIn K (.ref (d.adr K)) && (match K.lookup (d.adr K) with
  | none => false
  | some o => match o.data with
    | .func z => PySem.W.codeIn K z.code d.qual && He.dflB K z.defaults (d.dfl.map (He.Dv.v K))
    | _ => false)
theorem DefM.funD {K : PySem.W.Frag} {d : DefM} (e : fnWM K (d.adr K) = d.val) (c : d.ok K = true) : ∃ fd, FunD K d.name d.qual d.params d.body d.scope (d.dfl.map (He.Dv.v K)) [] (d.adr K) fd := by
  obtain ⟨kp, c2⟩ := He.ba c
  unfold fnWM at e
  cases q : K.lookup (d.adr K) with
  | none => rw [q] at e; exact nomatch (show (none : He.FnW) = some _ from e)
  | some o =>
    obtain ⟨oc, od, dt, osl⟩ := o
    rw [q] at c2 e
    cases dt with
    | func fd =>
      obtain ⟨n1, n2, n3, n4, n5, n6, n7, n8, n9, n10, n11, n12, n13, n14, n15⟩ := fd
      have e2 : (some (n1, n2, n3, n4, n5, n6, n7, n15) : He.FnW) = some (d.name, d.qual, d.params, .stmts d.body, d.scope, mainGlobals, [], builtinsNs) := e
      rw [Option.some.injEq, Prod.mk.injEq, Prod.mk.injEq, Prod.mk.injEq, Prod.mk.injEq, Prod.mk.injEq, Prod.mk.injEq, Prod.mk.injEq] at e2
      obtain ⟨h1, h2, h3, h4, h5, h6, h7, h8⟩ := e2
      subst h1 h2 h3 h4 h5 h6 h7 h8
      obtain ⟨k1, k2⟩ := He.ba (show (PySem.W.codeIn K n13 d.qual && He.dflB K n8 (d.dfl.map (He.Dv.v K))) = true from c2)
      exact ⟨_, ⟨oc, od, n8, n9, n10, n11, n12, n13, n14, osl, rfl, q, k1, He.dflB_ok k2, .inl rfl⟩, kp⟩
    | _ => cases c2
abbrev AlM : Type := Bool × List He.FnW
def obsM (fa : List He.Fa) (fn : List DefM) (ck : List Ck) (K : PySem.W.Frag) : AlM := ((fa.all fun f => f.ok K) && (fn.all fun d => d.ok K) && ck.all fun c => c K, fn.map fun d => fnWM K (d.adr K))
def valM (fn : List DefM) : AlM := (true, fn.map DefM.val)
def SaysM (fa : List He.Fa) (fn : List DefM) (ck : List Ck) (K : PySem.W.Frag) : Prop := obsM fa fn ck K = valM fn
def obsMG (n : Nat) (fa : List He.Fa) (fn : List DefM) (ck : List Ck) (g : Addr → Option Obj) : AlM := obsM fa fn ck (He.frG g (He.asD g n))
def hookM (n : Nat) (fa : List He.Fa) (fn : List DefM) (ck : List Ck) : PySem.W.Hook where
  α := AlM
  obs := fun s => obsMG n fa fn ck s.heap.get?
  val := fun _ => valM fn
  says := fun _ h => ∃ K : PySem.W.Frag, K.In h ∧ SaysM fa fn ck K
  of := fun _ _ e => ⟨_, He.frG_in, e⟩
  keeps := fun _ _ _ ⟨K, hK, c⟩ k => ⟨K, PySem.W.Frag.In.keeps hK k, c⟩
theorem obsMG_eq {n : Nat} {fa : List He.Fa} {fn : List DefM} {ck : List Ck} {g : Addr → Option Obj} {s : Shared} (h : ∀ a, g a = s.heap.get? a) : obsMG n fa fn ck g = (hookM n fa fn ck).obs s := by
  have e : g = s.heap.get? := funext h
  subst e
  rfl
section
variable {fa : List He.Fa} {fn : List DefM} {ck : List Ck} {K : PySem.W.Frag}
theorem SaysM.all (c : SaysM fa fn ck K) : ((fa.all fun f => f.ok K) && (fn.all fun d => d.ok K) && ck.all fun c => c K) = true := congrArg (fun z : AlM => z.1) c
theorem SaysM.fact (c : SaysM fa fn ck K) (i : Nat) {f : He.Fa} (h : fa[i]? = some f := by rfl) : f.ok K = true := List.all_eq_true.mp (He.ba (He.ba c.all).1).1 f (List.mem_of_getElem? h)
theorem SaysM.chk (c : SaysM fa fn ck K) (i : Nat) {f : Ck} (h : ck[i]? = some f := by rfl) : f K = true := List.all_eq_true.mp (He.ba c.all).2 f (List.mem_of_getElem? h)
theorem SaysM.def_ (c : SaysM fa fn ck K) (i : Nat) {d : DefM} (h : fn[i]? = some d := by rfl) : ∃ fd, FunD K d.name d.qual d.params d.body d.scope (d.dfl.map (He.Dv.v K)) [] (d.adr K) fd := by
  have e : fn.map (fun d => fnWM K (d.adr K)) = fn.map DefM.val := congrArg (fun z : AlM => z.2) c
  have e2 : (fn.map fun d => fnWM K (d.adr K))[i]? = (fn.map DefM.val)[i]? := congrArg (fun z => z[i]?) e
  rw [List.getElem?_map, List.getElem?_map, h] at e2
  exact DefM.funD (Option.some.inj e2) (List.all_eq_true.mp (He.ba (He.ba c.all).1).2 d (List.mem_of_getElem? h))
end
/-- what the top left, at the law's call -/
structure Gf (fa : List He.Fa) (fn : List DefM) (ck : List Ck) (K : PySem.W.Frag) (mg : Str → Option Value) : Prop where
  ex : ∃ h : Heap, K.In h ∧ h.Ns mainGlobals mg ∧ SaysM fa fn ck K
section
variable {fa : List He.Fa} {fn : List DefM} {ck : List Ck} {K : PySem.W.Frag} {mg : Str → Option Value}
theorem Gf.says (g : Gf fa fn ck K mg) : SaysM fa fn ck K := let ⟨_, _, _, c⟩ := g.ex; c
theorem Gf.free (g : Gf fa fn ck K mg) (i : Nat) {x : Str} (h : fa[i]? = some (.free x) := by rfl) : mg x = none := let ⟨_, X, G, c⟩ := g.ex; He.free_ok X G (c.fact i h)
theorem Gf.glo (g : Gf fa fn ck K mg) (i : Nat) {x : Str} (h : fa[i]? = some (.glo x) := by rfl) : mg x = some (.ref (He.ga K x)) := let ⟨_, X, G, c⟩ := g.ex; He.glo_ok X G (c.fact i h)
theorem Gf.int (g : Gf fa fn ck K mg) (i : Nat) {x : Str} {n : Int} (h : fa[i]? = some (.int x n) := by rfl) : ∃ t, mg x = some (.int n t) := let ⟨_, X, G, c⟩ := g.ex; He.int_ok X G (c.fact i h)
theorem Gf.str (g : Gf fa fn ck K mg) (i : Nat) {x z : Str} (h : fa[i]? = some (.str x z) := by rfl) : ∃ t, mg x = some (.str z t) := let ⟨_, X, G, c⟩ := g.ex; He.str_ok X G (c.fact i h)
theorem Gf.cls (g : Gf fa fn ck K mg) (i : Nat) {x : Str} (h : fa[i]? = some (.cls x) := by rfl) : Cls K (He.ga K x) := He.cls_ok (g.says.fact i h)
theorem Gf.noat (g : Gf fa fn ck K mg) (i : Nat) {x f : Str} (h : fa[i]? = some (.noat x f) := by rfl) : NoAttr K (He.ga K x) f := He.noat_ok (g.says.fact i h)
theorem Gf.meth (g : Gf fa fn ck K mg) (i : Nat) {x m : Str} (h : fa[i]? = some (.meth x m) := by rfl) : Meth K (He.ga K x) m (He.ma K (He.ga K x) m) := He.meth_ok (g.says.fact i h)
theorem Gf.mkr (g : Gf fa fn ck K mg) (i : Nat) {x : Str} (h : fa[i]? = some (.mkr x) := by rfl) : Mk K (He.ga K x) (He.ma K (He.ga K x) "__init__") := He.mkr_ok (g.says.fact i h)
theorem Gf.def_ (g : Gf fa fn ck K mg) (i : Nat) {d : DefM} (h : fn[i]? = some d := by rfl) : ∃ fd, FunD K d.name d.qual d.params d.body d.scope (d.dfl.map (He.Dv.v K)) [] (d.adr K) fd := g.says.def_ i h
/-! ### constants -/
theorem Gf.eInt {X : Cx} (g : Gf fa fn ck X.K X.mg) (i : Nat) {x : Str} {n : Int} {Ω : Om} {W : WX} {pos : Pos} (hg : Gl X x) (h : fa[i]? = some (.int x n) := by rfl) (hd : (x == ("__debug__" : Str)) = false := by decide) : ME X Ω W (.Name x pos) (eC (.int n)) := by
  obtain ⟨t, e⟩ := g.int i h
  exact me_c (pe_glob (v := .int n) hg e ⟨t, rfl⟩ hd) fun _ _ _ _ => .int n
theorem Gf.eStr {X : Cx} (g : Gf fa fn ck X.K X.mg) (i : Nat) {x z : Str} {y : List Nat} {Ω : Om} {W : WX} {pos : Pos} (hg : Gl X x) (h : fa[i]? = some (.str x z) := by rfl) (hz : z.cps.toList = y := by rfl) (hf : (y.all (fun c => decide (c < symB)) && decide (y.length ≤ 2000000)) = true := by decide) (hd : (x == ("__debug__" : Str)) = false := by decide) : ME X Ω W (.Name x pos) (eC (.str y)) := by
  obtain ⟨t, e⟩ := g.str i h
  rw [Bool.and_eq_true, decide_eq_true_eq] at hf
  exact me_c (pe_glob (v := .str z) hg e ⟨t, rfl⟩ hd) fun _ _ _ _ => .str y z (by rw [spell_flat hf.1]; exact hz) hf.2
/-- the module's name x is a tuple of texts -/
def ckTup (x : Str) (zs : List Str) : Ck := fun K => He.tupB K x (zs.map He.Dv.str) && (match K.lookup (He.ga K x) with
  | some ⟨.type c, none, _, _⟩ => decide (c = "tuple")
  | _ => false)
theorem Gf.eTupS {X : Cx} (g : Gf fa fn ck X.K X.mg) (i j : Nat) {x : Str} {zs : List Str} {ys : List (List Nat)} {Ω : Om} {pos : Pos} (hg : Gl X x) (h : fa[i]? = some (.glo x) := by rfl) (hc : ck[j]? = some (ckTup x zs) := by rfl) (hz : (zs.map fun z => z.cps.toList) = ys := by rfl)
    (hf : (ys.all fun y => (y.all (fun c => decide (c < symB)) && decide (y.length ≤ 2000000))) = true := by decide) (hd : (x == ("__debug__" : Str)) = false := by decide) :
    PE X (.Name x pos) (tC (.ref (He.ga X.K x))) ∧ (∃ ob, X.K.lookup (He.ga X.K x) = some ob ∧ ob.cls = .type "tuple" ∧ ob.dict = none) ∧ ∀ Z ι M H, R X.K Ω Z ι M H (.ktup (ys.map .str)) (.ref (He.ga X.K x)) := by
  have h1 := g.says.chk j hc
  obtain ⟨h2, h3⟩ := He.ba (show (He.tupB X.K x (zs.map He.Dv.str) && (match X.K.lookup (He.ga X.K x) with
    | some ⟨.type c, none, _, _⟩ => decide (c = "tuple")
    | _ => false)) = true from h1)
  refine ⟨pe_glob (v := .ref (He.ga X.K x)) hg (g.glo i h) rfl hd, ?_, fun Z ι M H => .ktup (He.tupB_ok h2 H) ?_⟩
  · cases e : X.K.lookup (He.ga X.K x) with
    | none => rw [e] at h3; cases h3
    | some ob =>
      obtain ⟨oc, od, dt, sl⟩ := ob
      rw [e] at h3
      cases oc with
      | type c =>
        cases od with
        | none => exact ⟨_, rfl, by show Value.type c = _; rw [of_decide_eq_true h3], rfl⟩
        | some _ => cases h3
      | _ => cases od <;> cases h3
  · subst hz
    clear h1 h2 h3 hc
    induction zs with
    | nil => exact .nil
    | cons z zs ih =>
      rw [List.map_cons, List.all_cons, Bool.and_eq_true, Bool.and_eq_true, decide_eq_true_eq] at hf
      exact .cons (.str _ z (by rw [spell_flat hf.1.1]) hf.1.2) (ih hf.2)
/-! ### defs -/
variable {P : Program} {w : World} {base : Heap} {Ω : Om} {k : Nat} {N ps : List Str} {b : SF}
abbrev BndL (K : PySem.W.Frag) (fd : FuncData) (ps : List Str) (Ω : Om) (dts : List T) : Prop := ∀ j ≤ dts.length, ∃ (ds : List Value) (dvs : List V), Binds K fd ps ds ∧ Vals dvs ds ∧ ∀ Z ι M H, Rs K Ω Z ι M H (dts.drop j) dvs
theorem fnOk_of {x qual : Str} {params : Arguments} {body : List Stmt} {scope : Scope} {dvs : List V} {kws : List (Str × V)} {f : Addr} {fd : FuncData} (F : FunD K x qual params body scope dvs kws f fd) (S : FnScope N ps scope) (hb : BodyS P w K mg base Ω k N scope body b) : FnOk P w K mg base (L2.CX P w) (k + 1) f fd ps (spF K Ω ps.length (runB N.length b)) :=
  F.ok S (fun vs H Q E ⟨Z, ι, M, ts, m, rs, hl, _⟩ => by rw [← rs.length]; exact hl) fun cdv A outer s H vs Q E hr h => body_ok (k := 0) (hb qual f cdv A outer s H E hr) h
theorem bndN {x qual : Str} {params : Arguments} {body : List Stmt} {scope : Scope} {f : Addr} {fd : FuncData} (F : FunD K x qual params body scope [] [] f fd)
    (h : ∀ (kV doc pm : Value) (an : Option Addr) (cdv ct : Value) (us : List Value), us.length = ps.length → bindArgs (PySem.W.fnOf x qual params body scope .none kV doc pm an cdv ct) ⟨us, []⟩ = pure (ps.zip us)) : BndL K fd ps Ω [] := fun j _ => ⟨[], [], F.bindsN h, .nil, fun _ _ _ _ => by rw [List.drop_nil]; exact .nil⟩
theorem fnG_of {x : Str} {f : Addr} {fd : FuncData} {dts : List T} (gm : mg x = some (.ref f)) (kp : PySem.W.keepIn K (.ref f) = true) (ok : FnOk P w K mg base (L2.CX P w) k f fd ps (spF K Ω ps.length (runB N.length b))) (bd : BndL K fd ps Ω dts) : FnG P w K mg base Ω x k ps.length dts (runB N.length b) := ⟨f, fd, ps, gm, kp, rfl, ok, bd⟩
theorem meG_of {c : Nat} {m : Str} {f : Addr} {fd : FuncData} {dts : List T} (hc : Cls K (Ω.cls c)) (hm : Meth K (Ω.cls c) m f) (hn : m ∉ Ω.fld c) (ok : FnOk P w K mg base (L2.CX P w) k f fd ps (spF K Ω ps.length (runB N.length b))) (bd : BndL K fd ps Ω dts) : MeG P w K mg base Ω c m k ps.length dts (runB N.length b) := ⟨f, fd, ps, hc, hm, hn, rfl, ok, bd⟩
theorem mkG_of {x : Str} {c : Nat} {f : Addr} {fd : FuncData} (gm : mg x = some (.ref (Ω.cls c))) (hm : Mk K (Ω.cls c) f) (ok : FnOk P w K mg base (L2.CX P w) k f fd ps (spF K Ω ps.length (runB N.length b))) (bd : BndL K fd ps Ω []) : MkG P w K mg base Ω x c k ps.length (runB N.length b) := ⟨f, fd, ps, gm, hm, rfl, ok, by
  obtain ⟨ds, dvs, h1, h2, h3⟩ := bd 0 (Nat.zero_le _)
  have := h3 [] [] [] (fun _ => none)
  cases this
  cases h2
  exact h1⟩
/-- a property, its getter -/
def pAd (K : PySem.W.Frag) (C : Addr) (m : Str) : Addr := match PySem.W.findIn K (.ref C) m with
  | some (some (.ref a)) => a
  | _ => 0
def gAd (K : PySem.W.Frag) (C : Addr) (m : Str) : Addr := match PySem.W.recIn K (pAd K C m) "property" with
  | some (.ref g :: _) => g
  | _ => 0
def ckProp (x m : Str) : Ck := fun K => He.eqO (PySem.W.findIn K (.ref (He.ga K x)) m) (some (some (.ref (pAd K (He.ga K x) m)))) && (He.eqO (PySem.W.specialIn K (.ref (pAd K (He.ga K x) m)) "__get__") (some (some (.builtin "property.__get__"))) &&
  (decide (PySem.W.takesIn K (.ref (pAd K (He.ga K x) m)) = some true) && (match PySem.W.recIn K (pAd K (He.ga K x) m) "property" with
    | some (.ref g :: _) => decide (g = gAd K (He.ga K x) m)
    | _ => false)))
theorem Gf.prop (g : Gf fa fn ck K mg) (i : Nat) {x m : Str} (h : ck[i]? = some (ckProp x m) := by rfl) : PropOf K (He.ga K x) m (pAd K (He.ga K x) m) (gAd K (He.ga K x) m) := by
  have h1 := g.says.chk i h
  unfold ckProp at h1
  obtain ⟨h1, h2⟩ := He.ba h1
  obtain ⟨h2, h3⟩ := He.ba h2
  obtain ⟨h3, h4⟩ := He.ba h3
  refine ⟨He.eqO_ok h1, He.eqO_ok h2, of_decide_eq_true h3, ?_⟩
  cases e : PySem.W.recIn K (pAd K (He.ga K x) m) "property" with
  | none => rw [e] at h4; cases h4
  | some l =>
    rw [e] at h4
    cases l with
    | nil => cases h4
    | cons v r =>
      cases v with
      | ref a => exact ⟨r, by rw [of_decide_eq_true h4]⟩
      | _ => cases h4
theorem prG_of {c : Nat} {m : Str} {f p : Addr} {fd : FuncData} (hl : ps.length = 1) (hc : Cls K (Ω.cls c)) (hp : PropOf K (Ω.cls c) m p f) (ok : FnOk P w K mg base (L2.CX P w) k f fd ps (spF K Ω ps.length (runB N.length b))) (bd : BndL K fd ps Ω []) : PrG P w K mg base Ω c m k (runB N.length b) := ⟨f, p, fd, ps, hc, hp, hl, hl ▸ ok, by
  obtain ⟨ds, dvs, h1, h2, h3⟩ := bd 0 (Nat.zero_le _)
  have := h3 [] [] [] (fun _ => none)
  cases this
  cases h2
  exact h1⟩
end
end Mi
namespace Mi
open PySem PySem.Spec PyProof.Rows L2
section
variable {X : Cx} {Ω : Om} {W : WX} {elt iter tg : Expr} {f : EF} {fa : AF} {c : TF} {it : AF} {pos spos py : Pos} {ifs : List Expr} {scope : Scope} {own : List (Str × Nat)} {gt : TG} {pf : PF} {vs : List Nat} {i : Nat} {y : Str}
theorem takes0 : Takes X W0 := fun _ _ ⟨_, _, _, _, _, _, _, _, _, _, _, _, _, _, _, _, h⟩ => h.elim
theorem set_of {g : EF} {D : L2.Ends} {σ : L2.St} {H : Hp} (q : liftS X.K Ω W (sSet i g) D σ H) : liftE X.K Ω W g σ H fun x H1 => D.nx (σ.set i (some x)) H1 := by
  obtain ⟨Z, ι, M, σT, m, rv, p⟩ := q
  exact ⟨Z, ι, M, σT, m, rv, PostS.go p rv fun ι1 M1 H1 t v m1 e1 rv1 q1 p1 => p1.nx m1 (rv1.set i q1)⟩
theorem ms_lcF (hc : X.calm = true) (hN : X.N.Nodup) (hy : X.N[i]? = some y) (hyl : X.env.scope.names.lookup y = some .local) (hi : MI X Ω W tg iter it) (ok : BlkOk X.N X.env.scope scope own) (hp : PatS X.K Ω gt pf vs) (hv : ∀ i ∈ vs, i ∈ own.map (·.2))
    (hg : ∀ (s : Shared) (H : Hp) (C : Addr) (cl : List (Str × Addr)) (fp : List Addr), PG (X.blk s H scope (compEnvC scope cl C X.env) fp) tg gt)
    (ht : ∀ (s : Shared) (H : Hp) (C : Addr) (cl : List (Str × Addr)) (fp : List Addr), MTs (X.blk s H scope (compEnvC scope cl C X.env) fp) Ω W0 ifs c)
    (he : ∀ (s : Shared) (H : Hp) (C : Addr) (cl : List (Str × Addr)) (fp : List Addr), ME (X.blk s H scope (compEnvC scope cl C X.env) fp) Ω W0 elt f)
    (hsw : swapsWith (.ListComp elt [⟨tg, iter, ifs, 0⟩] scope pos) (some (.Name y py)) spos.line X.env = pure true := by rfl) (hs : ∀ x, foldedSetIterable iter X.env x = pure x := by intro _; rfl) :
    MS X Ω W (.Assign [.Name y py] (.ListComp elt [⟨tg, iter, ifs, 0⟩] scope pos) spos) (sSet i (eFroz (eLc (own.map (·.2)) pf it c f))) :=
  L2PS.imp (ps_setLc (tt := liftT X.K Ω W0 c) (te := liftE X.K Ω W0 f) hc hN hy hyl hsw hi ok hg ht he hs) fun D σ H q => lc_of hp hv (froz_of (set_of q))
theorem ms_lcM (hc : X.calm = true) (hN : X.N.Nodup) (hy : X.N[i]? = some y) (hyl : X.env.scope.names.lookup y = some .local) (hi : MI X Ω W tg iter it) (ok : BlkOk X.N X.env.scope scope own) (hp : PatS X.K Ω gt pf vs) (hv : ∀ i ∈ vs, i ∈ own.map (·.2))
    (hg : ∀ (s : Shared) (H : Hp) (C : Addr) (cl : List (Str × Addr)) (fp : List Addr), PG (X.blk s H scope (compEnvC scope cl C X.env) fp) tg gt)
    (ht : ∀ (s : Shared) (H : Hp) (C : Addr) (cl : List (Str × Addr)) (fp : List Addr), MTs (X.blk s H scope (compEnvC scope cl C X.env) fp) Ω W0 ifs c)
    (he : ∀ (s : Shared) (H : Hp) (C : Addr) (cl : List (Str × Addr)) (fp : List Addr), ME (X.blk s H scope (compEnvC scope cl C X.env) fp) Ω W0 elt f)
    (hsw : swapsWith (.ListComp elt [⟨tg, iter, ifs, 0⟩] scope pos) (some (.Name y py)) spos.line X.env = pure true := by rfl) (hs : ∀ x, foldedSetIterable iter X.env x = pure x := by intro _; rfl) :
    MS X Ω W (.Assign [.Name y py] (.ListComp elt [⟨tg, iter, ifs, 0⟩] scope pos) spos) (sSet i (eNewL (eLc (own.map (·.2)) pf it c f))) :=
  L2PS.imp (ps_setLc (tt := liftT X.K Ω W0 c) (te := liftE X.K Ω W0 f) hc hN hy hyl hsw hi ok hg ht he hs) fun D σ H q => lc_of hp hv (newL_of (set_of q))
end
end Mi
namespace Mi
open PySem PySem.Spec PyProof.Rows L2
def lstAt (M : Mem) (n : Nat) : Option (List T) := match M[n]? with
  | some (.lst ts) => some ts
  | _ => none
/-- an iterator over what the mutable list n is at each turn -/
def RIL (K : PySem.W.Frag) (Ω : Om) : Rel Nat It := fun Z ι M H n J => ∀ Z' ι' M' H', RM K Ω Z' ι' M' H' → Ext Z' ι M H ι' M' H' → ∀ ts, lstAt M' n = some ts → ∀ i : Nat, (ts.length ≤ i → J.stop i H') ∧ ∀ t, ts[i]? = some t → J.go i H' ∧ ∀ x H2, J.yld i H' x H2 → H2 = H' ∧ R K Ω Z' ι' M' H' t x
abbrev MIL (X : Cx) (Ω : Om) (W : WX) (tg it : Expr) (f : TV → Mem → Res Nat) : Prop := PI X tg it (lift X.K Ω (RIL X.K Ω) W f)
section
variable {X : Cx} {Ω : Om} {W : WX} {e tg : Expr} {f : EF}
def iLoc (f : EF) : TV → Mem → Res Nat := fun σ M => (f σ M).bind fun t M1 => match t with
  | .loc n => (match lstAt M1 n with
    | some _ => .ok n M1
    | none => .err)
  | _ => .err
theorem lstAt_ok {K : PySem.W.Frag} {Z ι : List Addr} {M : Mem} {H : Hp} {n : Nat} {a : Addr} {ts : List T} (m : RM K Ω Z ι M H) (hn : ι[n]? = some a) (h : lstAt M n = some ts) : ∃ vs, H a = some (.lst vs) ∧ Rs K Ω Z ι M H ts vs := by
  obtain ⟨o, e, ro⟩ := m.at hn
  unfold lstAt at h
  rw [e] at h
  cases ro with
  | lst hl rs => cases h; exact ⟨_, hl, rs⟩
  | gone _ => cases h
  | obj _ _ _ => cases h
  | dK _ _ _ => cases h
  | dT _ _ _ => cases h
theorem mil_loc (he : ME X Ω W e f) : MIL X Ω W tg e (iLoc f) := L2PI.imp (pi_list he) fun σ H Q ⟨Z, ι, M, σT, m, rv, p⟩ => ⟨Z, ι, M, σT, m, rv, Post.bind p fun ι1 M1 H1 t v m1 e1 q1 p1 => by
  cases t with
  | loc n =>
    cases q1 with
    | loc hn =>
      rename_i a
      have p1 : Post X.K Ω (RIL X.K Ω) (fun c d H' => W c d σ H') Z ι1 M1 H1 Q (match lstAt M1 n with
        | some _ => .ok n M1
        | none => .err) := p1
      cases z : lstAt M1 n with
      | none => rw [z] at p1; exact p1.elim
      | some ts =>
        rw [z] at p1
        obtain ⟨vs, hl, rs⟩ := lstAt_ok m1 hn z
        refine ⟨a, rfl, ⟨vs, .inl (.inl hl)⟩, p1.pure m1 fun Z' ι' M' H' m' e' ts' hs i => ?_⟩
        have hn' : ι'[n]? = some a := by
          obtain ⟨more, hm⟩ := e'.pre
          rw [hm, List.getElem?_append_left (List.getElem?_eq_some_iff.mp hn).1]
          exact hn
        obtain ⟨ws, hw, rw'⟩ := lstAt_ok m' hn' hs
        refine ⟨fun hl => ⟨ws, .inl (.inl hw), by rw [← rw'.length]; exact hl⟩, fun t ht => ?_⟩
        obtain ⟨v, hv, rv'⟩ := rw'.get ht
        refine ⟨⟨ws, v, .inl (.inl hw), hv⟩, fun x H2 y => ?_⟩
        obtain ⟨e1, y⟩ := y
        have := y ws (.inl (.inl hw))
        rw [hv] at this
        cases this
        exact ⟨e1, e1 ▸ rv'⟩
  | _ => exact p1.elim⟩
end
def compLL (p : PF) (c : TF) (f : EF) (σ : TV) (n : Nat) : Nat → Nat → List T → Mem → Res (List T)
  | 0, _, _, _ => .err
  | k + 1, i, acc, M => match lstAt M n with
    | none => .err
    | some ts => match ts[i]? with
      | none => .ok acc M
      | some t => match p t σ M with
        | none => .err
        | some σ1 => match c σ1 M with
          | .ok true M1 => (match f σ1 M1 with
            | .ok u M2 => compLL p c f σ n k (i + 1) (acc ++ [u]) M2
            | _ => .err)
          | .ok false M1 => compLL p c f σ n k (i + 1) acc M1
          | _ => .err
/-- at most so many turns -/
def eLcL (fuel : Nat) (own : List Nat) (p : PF) (it : TV → Mem → Res Nat) (c : TF) (f : EF) : AF := fun σ M => (it σ M).bind fun n M1 => compLL p c f (wipeT σ own) n fuel 0 [] M1
section
variable {X : Cx} {Ω : Om} {W : WX} {elt iter tg : Expr} {f : EF} {c : TF} {it : TV → Mem → Res Nat} {pos : Pos} {ifs : List Expr} {scope : Scope} {own : List (Str × Nat)} {gt : TG} {pf : PF} {vs : List Nat}
theorem lcl_of {K : PySem.W.Frag} {σ : L2.St} {H : Hp} {Q : VK} (fuel : Nat) (hfu : fuel ≤ 2000000) (hp : PatS K Ω gt pf vs) (hv : ∀ i ∈ vs, i ∈ own.map (·.2)) (q : MLr K Ω W (eLcL fuel (own.map (·.2)) pf it c f) σ H Q) : tLc (lift K Ω (RIL K Ω) W it) gt (liftT K Ω W0 c) (liftE K Ω W0 f) (own.map (·.2)) σ H Q := by
  obtain ⟨Z, ι, M, σT, m, rv, p⟩ := q
  refine ⟨Z, ι, M, σT, m, rv, ?_⟩
  unfold eLcL at p
  cases q0 : it σT M with
  | exc c t M1 => rw [q0] at p; exact p
  | err => rw [q0] at p; exact p
  | ok n M1 =>
    rw [q0] at p
    intro ι1 H1 J m1 e1 q1 D nD
    have p : match compLL pf c f (wipeT σT (own.map (·.2))) n fuel 0 [] M1 with
      | .ok ts M' => ∀ ι' H' p vs, H p = none → RM K Ω (p :: Z) ι' M' H' → p ∉ Z → Ext [] ι M H ι' M' H' → H' p = some (.lst vs) → Rs K Ω (p :: Z) ι' M' H' ts vs → Q (.ref p) H'
      | .exc c t M' => ∀ ι' H' dd v, RM K Ω Z ι' M' H' → Ext [] ι M H ι' M' H' → R K Ω Z ι' M' H' t v → H' dd = some (.xd [("value", v)]) → W (.ref (Ω.cls c)) (some dd) σ H'
      | .err => False := p
    have hD : H D = none := by
      cases z : H D with
      | none => rfl
      | some o => exact absurd nD (e1.there D (by rw [z]; exact nofun))
    have dZ : D ∉ Z := m1.notZ nD
    have rv1 : RV K Ω Z ι1 M1 H1 σT σ := rv.ext e1.any
    refine ⟨fun i k H => ∃ ι2 M2 acc ws, RM K Ω (D :: Z) ι2 M2 H ∧ Ext [D] ι1 M1 H1 ι2 M2 H ∧ H D = some (.lst ws) ∧ Rs K Ω (D :: Z) ι2 M2 H acc ws ∧ acc.length + k ≤ 2000000 ∧ (match compLL pf c f (wipeT σT (own.map (·.2))) n k i acc M2 with
      | .ok ts M' => ∀ ι' H' p vs, H1 p = none → RM K Ω (p :: Z) ι' M' H' → p ∉ Z → Ext [] ι1 M1 H1 ι' M' H' → H' p = some (.lst vs) → Rs K Ω (p :: Z) ι' M' H' ts vs → Q (.ref p) H'
      | _ => False), ⟨fuel, ι1, M1, [], [], m1.layH nD, Ext.new nD, upd_same, .nil, by simpa using hfu, ?_⟩, ?_⟩
    · generalize hr : compLL pf c f (wipeT σT (own.map (·.2))) n fuel 0 [] M1 = r at p
      have nex : ∀ (k i : Nat) (acc : List T) (M0 : Mem) c' t' M', compLL pf c f (wipeT σT (own.map (·.2))) n k i acc M0 ≠ .exc c' t' M' := by
        intro k
        induction k with
        | zero => intro i acc M0 c' t' M' h; cases h
        | succ k ih =>
          intro i acc M0 c' t' M' h
          unfold compLL at h
          split at h
          · cases h
          · split at h
            · cases h
            · split at h
              · cases h
              · split at h
                · split at h
                  · exact ih _ _ _ _ _ _ h
                  · cases h
                · exact ih _ _ _ _ _ _ h
                · cases h
      match r, p with
      | .ok ts' M', p =>
        exact fun ι' H' q vs hq mm hz ex hv rs => p ι' H' q vs (by
          cases z : H q with
          | none => rfl
          | some o => exact absurd hq (e1.there q (by rw [z]; exact nofun))) mm hz (e1.trans ex) hv rs
      | .exc c' t' M', p => exact absurd hr (nex _ _ _ _ _ _ _)
    · rintro i k H3 ⟨ι2, M2, acc, ws, m2, ex2, hD2, rs2, hacc, p2⟩
      cases k with
      | zero => exact p2.elim
      | succ k =>
      unfold compLL at p2
      cases zl : lstAt M2 n with
      | none => rw [zl] at p2; exact p2.elim
      | some ts =>
      rw [zl] at p2
      obtain ⟨stop, go⟩ := q1 (D :: Z) ι2 M2 H3 m2 (ex2.to fun z h => by simp at h; simp [h]) ts zl i
      dsimp only at p2
      cases zi : ts[i]? with
      | none =>
        rw [zi] at p2
        have hle : ts.length ≤ i := by
          by_cases h : i < ts.length
          · rw [List.getElem?_eq_getElem h] at zi; cases zi
          · omega
        exact .inl ⟨stop hle, p2 ι2 H3 D ws nD m2 dZ (ex2.drop nD) hD2 rs2⟩
      | some t =>
        rw [zi] at p2
        obtain ⟨g1, y1⟩ := go t zi
        refine .inr ⟨g1, fun H' => ∃ ι2 M2 acc ws, RM K Ω (D :: Z) ι2 M2 H' ∧ Ext [D] ι1 M1 H1 ι2 M2 H' ∧ H' D = some (.lst ws) ∧ Rs K Ω (D :: Z) ι2 M2 H' acc ws ∧ acc.length + k ≤ 2000000 ∧ (match compLL pf c f (wipeT σT (own.map (·.2))) n k (i + 1) acc M2 with
          | .ok ts M' => ∀ ι' H' p vs, H1 p = none → RM K Ω (p :: Z) ι' M' H' → p ∉ Z → Ext [] ι1 M1 H1 ι' M' H' → H' p = some (.lst vs) → Rs K Ω (p :: Z) ι' M' H' ts vs → Q (.ref p) H'
          | _ => False), fun H' h => ⟨k, Nat.lt_succ_self k, h⟩, fun x H4 y => ?_⟩
        obtain ⟨rfl, r4⟩ := y1 x H4 y
        have rv4 : RV K Ω (D :: Z) ι2 M2 H4 (wipeT σT (own.map (·.2))) (wipe σ (own.map (·.2))) := by
          have h1 : RV K Ω (D :: Z) ι1 M1 H1 σT σ := rv1.hide nD
          exact (h1.ext (ex2.to fun z h => by simp at h; simp [h])).wipe _
        dsimp only at p2
        cases zp : pf t (wipeT σT (own.map (·.2))) M2 with
        | none => rw [zp] at p2; exact p2.elim
        | some σ1 =>
          rw [zp] at p2
          refine hp (D :: Z) ι2 M2 H4 _ _ t x σ1 _ m2 rv4 r4 zp fun σ5 rv5 w5 => ⟨(w5 _ hv).trans wipe_wipe, D :: Z, ι2, M2, σ1, m2, rv5, ?_⟩
          dsimp only at p2
          cases zc : c σ1 M2 with
          | err => rw [zc] at p2; exact p2.elim
          | exc _ _ _ => rw [zc] at p2; exact p2.elim
          | ok b M5 =>
            rw [zc] at p2
            intro ι5 H5 b' m5 e5 hb
            cases hb
            have ex5 : Ext [D] ι1 M1 H1 ι5 M5 H5 := ex2.trans e5.any
            have hD5 : H5 D = some (.lst ws) := (e5.froz D _ hD2 ⟨(m2.zin D (by simp)).2, by simp⟩).1
            have rs5 : Rs K Ω (D :: Z) ι5 M5 H5 acc ws := rs2.ext e5.any
            cases b with
            | false =>
              rw [if_neg Bool.false_ne_true]
              exact ⟨ι5, M5, acc, ws, m5, ex5, hD5, rs5, by omega, p2⟩
            | true =>
              rw [if_pos rfl]
              refine ⟨D :: Z, ι5, M5, σ1, m5, rv5.ext e5.any, ?_⟩
              dsimp only at p2
              cases zf : f σ1 M5 with
              | err => rw [zf] at p2; exact p2.elim
              | exc _ _ _ => rw [zf] at p2; exact p2.elim
              | ok u M6 =>
                rw [zf] at p2
                intro ι6 H6 v6 m6 e6 r6
                have hD6 : H6 D = some (.lst ws) := (e6.froz D _ hD5 ⟨(m5.zin D (by simp)).2, by simp⟩).1
                have rs6 : Rs K Ω (D :: Z) ι6 M6 H6 acc ws := rs5.ext e6.any
                have et : ∀ Z', Ext (D :: Z') ι6 M6 H6 ι6 M6 (upd H6 D (.lst (ws ++ [v6]))) := fun Z' => Ext.turn hD6 (by intro xs h; cases h) (by intro x y h; cases h)
                refine ⟨ws, hD6, ?_, ι6, M6, acc ++ [u], ws ++ [v6], m6.turn hD6 (by intro xs h; cases h) (by intro x y h; cases h), (ex5.trans e6.any).trans (et []), upd_same, (rs6.ext (et Z)).append (.cons (r6.ext (et Z)) .nil), by simp; omega, p2⟩
                rw [← rs6.length, sizeLine_eq]
                omega
theorem ml_lcL (fuel : Nat) (hc : X.calm = true) (hN : X.N.Nodup) (hi : MIL X Ω W tg iter it) (ok : BlkOk X.N X.env.scope scope own) (hp : PatS X.K Ω gt pf vs) (hv : ∀ i ∈ vs, i ∈ own.map (·.2))
    (hg : ∀ (s : Shared) (H : Hp) (C : Addr) (cl : List (Str × Addr)) (fp : List Addr), PG (X.blk s H scope (compEnvC scope cl C X.env) fp) tg gt)
    (ht : ∀ (s : Shared) (H : Hp) (C : Addr) (cl : List (Str × Addr)) (fp : List Addr), MTs (X.blk s H scope (compEnvC scope cl C X.env) fp) Ω W0 ifs c)
    (he : ∀ (s : Shared) (H : Hp) (C : Addr) (cl : List (Str × Addr)) (fp : List Addr), ME (X.blk s H scope (compEnvC scope cl C X.env) fp) Ω W0 elt f) (hfu : fuel ≤ 2000000 := by decide) (hs : ∀ x, foldedSetIterable iter X.env x = pure x := by intro _; rfl) :
    ML X Ω W (.ListComp elt [⟨tg, iter, ifs, 0⟩] scope pos) (eLcL fuel (own.map (·.2)) pf it c f) := L2PE.imp (pe_lc (tt := liftT X.K Ω W0 c) (te := liftE X.K Ω W0 f) hc hN hi ok hg ht he hs) fun σ H Q => lcl_of fuel hfu hp hv
end
end Mi
namespace Mi
open PySem PySem.Spec PyProof.Rows L2
def clsB (s : Stmt) : List Stmt := match s with
  | .ClassDef (body := b) .. => b
  | _ => []
theorem Gf.keep {fa : List He.Fa} {fn : List DefM} {ck : List Ck} {K : PySem.W.Frag} {mg : Str → Option Value} (g : Gf fa fn ck K mg) (i : Nat) {x : Str} (h : fa[i]? = some (.keep x) := by rfl) : PySem.W.keepIn K (.ref (He.ga K x)) = true := He.keep_ok (g.says.fact i h)
section
variable {P : Program} {w : World} {K : PySem.W.Frag} {mg : Str → Option Value} {base : Heap} {Ω : Om} {k n : Nat} {ps : List Str} {F : FF} {f : Addr} {fd : FuncData} {dts : List T} {x m : Str} {c : Nat}
theorem gFn (hl : ps.length = n) (gm : mg x = some (.ref f)) (kp : PySem.W.keepIn K (.ref f) = true) (ok : FnOk P w K mg base (L2.CX P w) k f fd ps (spF K Ω n F)) (bd : BndL K fd ps Ω dts) : FnG P w K mg base Ω x k n dts F := ⟨f, fd, ps, gm, kp, hl, ok, bd⟩
theorem gMe (hl : ps.length = n) (hc : Cls K (Ω.cls c)) (hm : Meth K (Ω.cls c) m f) (hn : m ∉ Ω.fld c) (ok : FnOk P w K mg base (L2.CX P w) k f fd ps (spF K Ω n F)) (bd : BndL K fd ps Ω dts) : MeG P w K mg base Ω c m k n dts F := ⟨f, fd, ps, hc, hm, hn, hl, ok, bd⟩
theorem bnd0 (bd : BndL K fd ps Ω []) : Binds K fd ps [] := by
  obtain ⟨ds, dvs, h1, h2, h3⟩ := bd 0 (Nat.zero_le _)
  have := h3 [] [] [] (fun _ => none)
  cases this
  cases h2
  exact h1
theorem gMk (hl : ps.length = n) (gm : mg x = some (.ref (Ω.cls c))) (hm : Mk K (Ω.cls c) f) (ok : FnOk P w K mg base (L2.CX P w) k f fd ps (spF K Ω n F)) (bd : BndL K fd ps Ω []) : MkG P w K mg base Ω x c k n F := ⟨f, fd, ps, gm, hm, hl, ok, bnd0 bd⟩
theorem gPr {p : Addr} (hl : ps.length = 1) (hc : Cls K (Ω.cls c)) (hp : PropOf K (Ω.cls c) m p f) (ok : FnOk P w K mg base (L2.CX P w) k f fd ps (spF K Ω 1 F)) (bd : BndL K fd ps Ω []) : PrG P w K mg base Ω c m k F := ⟨f, p, fd, ps, hc, hp, hl, ok, bnd0 bd⟩
end
theorem blkOk {N : List Str} {sc scope : Scope} {own : List (Str × Nat)} (h : decide (scope.kind = .function ∧ (∀ y ∈ scope.names, scope.names.lookup y.1 = some y.2) ∧ (∀ p ∈ own, N[p.2]? = some p.1) ∧
    (∀ y ∈ scope.names, y.2 = .free → sc.names.lookup y.1 = some .cell ∨ sc.names.lookup y.1 = some .free) ∧ ∀ y ∈ scope.names, y.2 = .local ∨ y.2 = .cell → y.1 ∈ own.map (·.1) ∨ y.1 ∉ N) = true) : BlkOk N sc scope own :=
  let ⟨a, b, c, d, e⟩ := of_decide_eq_true h
  ⟨a, b, c, d, e⟩
section
variable {fa : List He.Fa} {fn : List DefM} {ck : List Ck} {X : Cx} {Ω : Om} {W : WX} {x : Str} {zs : List Str} {ys : List (List Nat)} {pos apos cpos : Pos} {e : Expr} {f : AF}
theorem Gf.cTup (g : Gf fa fn ck X.K X.mg) (i j : Nat) (hg : Gl X x) (h : fa[i]? = some (.glo x) := by rfl) (hc : ck[j]? = some (ckTup x zs) := by rfl) (hz : (zs.map fun z => z.cps.toList) = ys := by rfl)
    (hf : (ys.all fun y => (y.all (fun c => decide (c < symB)) && decide (y.length ≤ 2000000))) = true := by decide) (hd : (x == ("__debug__" : Str)) = false := by decide) : ME X Ω W (.Name x pos) (eC (.ktup (ys.map .str))) :=
  let q := g.eTupS (Ω := Ω) (pos := pos) i j hg h hc hz hf hd
  me_c q.1 q.2.2
theorem Gf.cIndex (g : Gf fa fn ck X.K X.mg) (i j : Nat) (hg : Gl X x) (ha : MA X Ω W [e] f) (h : fa[i]? = some (.glo x) := by rfl) (hc : ck[j]? = some (ckTup x zs) := by rfl) (hz : (zs.map fun z => z.cps.toList) = ys := by rfl)
    (hf : (ys.all fun y => (y.all (fun c => decide (c < symB)) && decide (y.length ≤ 2000000))) = true := by decide) (hd : (x == ("__debug__" : Str)) = false := by decide) (hbase : attributeBase (.Name x pos) "index" X.env (eval (.Name x pos) X.env) = eval (.Name x pos) X.env := by rfl)
    (hfew : ((backTo cpos (starEach [e] X.env)).all (fun x => !x.1) && (backToKw cpos (keywordEach [] X.env)).all (fun x => x.1.isSome) && decide ([e].length + ([] : List Keyword).length + (if ([] : List Keyword).isEmpty then 0 else 1) < 30)) = true := by rfl)
    (hline : (apos.endLine == cpos.line) = true := by rfl) (hs : starEach [e] X.env = (false, eval e X.env) :: starEach [] X.env := by rfl) (hplain : (backTo cpos (starEach [] X.env)).any (·.1) = false := by rfl) :
    ME X Ω W (.Call (.Attribute (.Name x pos) "index" apos) [e] [] cpos) (eIxK (.ktup (ys.map .str)) f) :=
  let q := g.eTupS (Ω := Ω) (pos := pos) i j hg h hc hz hf hd
  me_indexK q.1 q.2.1 q.2.2 ha hbase hfew hline hs hplain
end
structure Rho where
  rho : Nat → List Nat
  rne : ∀ c, rho c ≠ []
  rle : ∀ c, (rho c).length ≤ 8
  rch : ∀ c x, x ∈ rho c → 97 ≤ x ∧ x ≤ 122
  rij : ∀ i j, i < symN → j < symN → rho (symB + i) = rho (symB + j) → i = j
theorem un65 {k : Nat} {A : Around} (r : Room k A) : A.units + 65 < cLine := by have := r.un; omega
theorem un64 {k : Nat} {A : Around} (r : Room k A) : A.units + 64 < cLine := by have := r.un; omega
theorem un1 {k : Nat} {A : Around} (r : Room k A) : A.units + 1 < cLine := by have := r.un; omega
section
variable {K : PySem.W.Frag} {Ω : Om} {X : Cx} {W : WX} {e : Expr} {f g : AF}
def aAlt (f g : AF) : AF := fun σ M => (f σ M).or (g σ M)
theorem ml_alt (h : ML X Ω W e f) (h' : ML X Ω W e g) : ML X Ω W e (aAlt f g) := L2PE.imp (L2PE.or h h') fun σ H Q ⟨Z, ι, M, σT, m, rv, p⟩ => by
  unfold aAlt at p
  cases q : f σT M with
  | err => rw [q] at p; exact .inr ⟨Z, ι, M, σT, m, rv, p⟩
  | ok t M1 => rw [q] at p; exact .inl ⟨Z, ι, M, σT, m, rv, by rw [q]; exact p⟩
  | exc c t M1 => rw [q] at p; exact .inl ⟨Z, ι, M, σT, m, rv, by rw [q]; exact p⟩
def opAddI : Op2 := fun _ t u => match t, u with
  | .int i, .int j => some (.int (i + j))
  | _, _ => none
theorem opAddI_ok : OpS K Ω (ipI fun i j => i + j) opAddI := fun Z ι M H t u v w z Q m r q h k => by
  unfold opAddI at h
  split at h
  · cases h
    cases r
    cases q
    exact ⟨_, _, rfl, rfl, k ι H _ m Ext.refl (.int _)⟩
  · cases h
end
end Mi
namespace Mi
open PySem PySem.Spec PyProof.Rows L2
def itemsS (t : T) : Option (List T) := match t with
  | .str x => bif ground x then some (x.map fun c => .str [c]) else none
  | t => items t
def iSeqS (f : EF) : AF := fun σ M => (f σ M).bind fun t M1 => .of (itemsS t) M1
section
variable {X : Cx} {Ω : Om} {W : WX} {e tg : Expr} {f : EF}
theorem rit_str {Z ι : List Addr} {M : Mem} {H : Hp} {x : List Nat} {s : Str} (g : ground x = true) (h : s.cps.toList = x) : RIt X.K Ω Z ι M H (x.map fun c => T.str [c]) (Its s) := fun Z' ι' M' H' m e g' => by
  have hs : s.cps.size = x.length := by rw [← h, Array.length_toList]
  refine ⟨by show s.cps.size ≤ _; rw [List.length_map, hs]; exact Nat.le_refl _, fun i t q => ?_⟩
  rw [List.getElem?_map] at q
  cases hx : x[i]? with
  | none => rw [hx] at q; cases q
  | some c =>
    rw [hx] at q
    cases q
    have hi : i < x.length := (List.getElem?_eq_some_iff.mp hx).1
    refine ⟨by show i < s.cps.size; rw [hs]; exact hi, fun v H2 ⟨e1, c', hc, ev⟩ => ?_⟩
    subst e1 ev
    have hc2 : x[i]? = some c' := by rw [← h, Array.getElem?_toList]; exact hc
    rw [hx] at hc2
    cases hc2
    have gc : c < symB := by
      unfold ground at g
      exact of_decide_eq_true (List.all_eq_true.mp g c (List.mem_of_getElem? hx))
    refine ⟨m, Ext.refl, .str _ _ ?_ (by simp)⟩
    rw [spell_ground (by unfold ground; simp [gc])]
theorem mi_seqS (he : ME X Ω W e f) : MI X Ω W tg e (iSeqS f) := L2PI.imp (L2PI.or (pi_str he) (mi_seq he)) fun σ H Q ⟨Z, ι, M, σT, m, rv, p⟩ => by
  unfold iSeqS at p
  cases q : f σT M with
  | err => rw [q] at p; exact p.elim
  | exc c t M1 => rw [q] at p; exact .inl ⟨Z, ι, M, σT, m, rv, by rw [q]; exact p⟩
  | ok t M1 =>
    rw [q] at p
    have other : itemsS t = items t → lift X.K Ω (RIt X.K Ω) W (iSeq f) σ H Q := fun h => ⟨Z, ι, M, σT, m, rv, by
      unfold iSeq
      rw [q]
      have p : Post X.K Ω (RIt X.K Ω) (fun c d H' => W c d σ H') Z ι M H Q (.of (itemsS t) M1) := p
      rw [h] at p
      exact p⟩
    cases t with
    | str x =>
      refine .inl ⟨Z, ι, M, σT, m, rv, ?_⟩
      rw [q]
      intro ι1 H1 v m1 e1 r1
      have p : Post X.K Ω (RIt X.K Ω) (fun c d H' => W c d σ H') Z ι M H Q (.of (bif ground x then some (x.map fun c => T.str [c]) else none) M1) := p
      cases g : ground x with
      | false => rw [g] at p; exact p.elim
      | true =>
        rw [g] at p
        cases r1 with
        | str _ s hs hl => exact ⟨s, rfl, p ι1 H1 _ m1 e1 (rit_str g (by rw [spell_ground g] at hs; exact hs))⟩
    | _ => exact .inr (other rfl)
end
/-! ### a word that a sign stands for -/
def symF (F : FF) : FF := fun ts M => match ts with
  | [.str [c]] => bif isSym c then .ok (.bl true) M else F [.str [c]] M
  | ts => F ts M
theorem symF_of {K : PySem.W.Frag} {Ω : Om} {F : FF} (hl : ∀ x M, letters x = true → F [.str x] M = .ok (.bl true) M) {vs : List V} {H : Hp} {Q : VK} {E : XK} (h : spF K Ω 1 (symF F) vs H Q E) : spF K Ω 1 F vs H Q E := by
  obtain ⟨Z, ι, M, ts, m, rs, hn, p⟩ := h
  by_cases hs : ∃ c, ts = [.str [c]] ∧ isSym c = true
  · obtain ⟨c, rfl, hc⟩ := hs
    have p : Post K Ω (R K Ω) E Z ι M H Q (bif isSym c then .ok (.bl true) M else F [.str [c]] M) := p
    rw [hc] at p
    cases rs with
    | cons r rr =>
      cases rr
      cases r with
      | str _ s hs hlen =>
        rw [spell_sym hc] at hs
        have hg : ground (Ω.rho c) = true := by
          unfold ground
          refine List.all_eq_true.mpr fun x hx => decide_eq_true ?_
          have := Ω.rch c x hx
          unfold symB
          omega
        have hL : letters (Ω.rho c) = true := by
          unfold letters
          rw [Bool.and_eq_true, Bool.and_eq_true, decide_eq_true_eq]
          refine ⟨⟨?_, Ω.rle c⟩, List.all_eq_true.mpr fun x hx => ?_⟩
          · cases z : Ω.rho c with
            | nil => exact absurd z (Ω.rne c)
            | cons _ _ => rfl
          · have := Ω.rch c x hx
            rw [Bool.and_eq_true, decide_eq_true_eq, decide_eq_true_eq]
            exact this
        refine ⟨Z, ι, M, [.str (Ω.rho c)], m, .cons (.str _ s (by rw [spell_ground hg]; exact hs) (by have := Ω.rle c; omega)) .nil, rfl, ?_⟩
        rw [hl _ _ hL]
        exact p
  · refine ⟨Z, ι, M, ts, m, rs, hn, ?_⟩
    have e : symF F ts M = F ts M := by
      unfold symF
      split
      · rename_i c
        cases z : isSym c with
        | true => exact absurd ⟨c, rfl, z⟩ hs
        | false => rfl
      · rfl
    rw [e] at p
    exact p
/-! ### from here on with an empty memory -/
theorem rm_fresh {K : PySem.W.Frag} {Ω Ω' : Om} {Z ι : List Addr} {M : Mem} {H : Hp} (m : RM K Ω Z ι M H) : RM K Ω' Z [] [] H := ⟨rfl, fun i j a o u h => by simp at h, fun n a o h => by simp at h, fun z q => ⟨(m.zin z q).1, fun ⟨n, o, h, _⟩ => by simp at h⟩⟩
def goneN (n : Nat) : Mem := List.replicate n .gone
theorem gone_get {n k : Nat} {o : MO} (h : (goneN n)[k]? = some o) : o = .gone := by
  unfold goneN at h
  rw [List.getElem?_replicate] at h
  split at h
  · exact (Option.some.inj h).symm
  · cases h
theorem gone_not {ι : List Addr} {n : Nat} {a : Addr} : ¬ Live ι (goneN n) a := fun ⟨_, _, _, h, g⟩ => g (gone_get h)
theorem rm_gone {K : PySem.W.Frag} {Ω Ω' : Om} {Z ι ι2 : List Addr} {M M2 : Mem} {H H2 : Hp} (m : RM K Ω Z ι M H) (m2 : RM K Ω' Z ι2 M2 H2) (e : Ext [] [] [] H ι2 M2 H2) : RM K Ω Z (ι ++ ι2) (goneN (M.length + M2.length)) H2 := by
  refine ⟨by rw [List.length_append, m.len, m2.len]; simp [goneN], fun i j a o u _ _ h _ g => absurd (gone_get h) g, fun n a o hn ho => ?_, fun z q => ⟨(m2.zin z q).1, gone_not⟩⟩
  rw [gone_get ho]
  have hne : H2 a ≠ none := by
    by_cases hl : n < ι.length
    · rw [List.getElem?_append_left hl] at hn
      obtain ⟨o', _, ro⟩ := m.at hn
      exact e.there a ro.there
    · rw [List.getElem?_append_right (by omega)] at hn
      obtain ⟨o', _, ro⟩ := m2.at hn
      exact ro.there
  cases z : H2 a with
  | none => exact absurd z hne
  | some v => exact .gone z
theorem ext_gone {ι ι2 : List Addr} {M M2 : Mem} {H H2 : Hp} {n : Nat} (e : Ext [] [] [] H ι2 M2 H2) : Ext [] ι M H (ι ++ ι2) (goneN n) H2 :=
  ⟨⟨ι2, rfl⟩, fun a o h _ => ⟨(e.froz a o h ⟨fun ⟨_, _, z, _⟩ => by simp at z, by simp⟩).1, gone_not⟩, e.tups, e.frzs, e.there⟩
end Mi
namespace Mi
open PySem PySem.Spec PyProof.Rows L2
def symsN (n : Nat) : List T := (List.range n).map fun j => .str [symB + j]
def extraW : List (List Nat) := (List.range 16).map fun j => [113, 113, 113, 97 + j]
def okW (n : Nat) (ws : List (List Nat)) : Bool := decide (ws.length = n) && ws.all letters && decide (ws ++ extraW).Nodup && decide (n ≤ symN)
def wordsAt (i : Nat) (σ : TV) (M : Mem) : Option (List (List Nat)) := match σ[i]? with
  | some (some t) => (lstT M t).bind strsT
  | _ => none
def good (r : Option (Fl × Mem)) : Option Nat := match r with
  | some (.rt (.bl true), M) => some M.length
  | _ => none
def sig0 (n i nw : Nat) : TV := (List.replicate n none).set i (some (.lst (symsN nw)))
/-- the def as a function: true, and what was in memory is not looked at any more -/
def splitF (n i nw L : Nat) (b1 : SF) : FF := fun ts M => match b1 (ts.map some ++ List.replicate (n - ts.length) none) M with
  | some (.nx σ1, M1) => (match wordsAt i σ1 M1 with
    | some ws => bif okW nw ws && decide (σ1.length = n) then .ok (.bl true) (goneN (M1.length + L)) else .err
    | none => .err)
  | _ => .err
theorem letters_ok {x : List Nat} (h : letters x = true) : x ≠ [] ∧ x.length ≤ 8 ∧ (∀ c ∈ x, 97 ≤ c ∧ c ≤ 122) ∧ ground x = true := by
  unfold letters at h
  rw [Bool.and_eq_true, Bool.and_eq_true, decide_eq_true_eq] at h
  have h3 : ∀ c ∈ x, 97 ≤ c ∧ c ≤ 122 := fun c hc => by
    have := List.all_eq_true.mp h.2 c hc
    rw [Bool.and_eq_true, decide_eq_true_eq, decide_eq_true_eq] at this
    exact this
  refine ⟨fun z => ?_, h.1.2, h3, ?_⟩
  · have := h.1.1
    rw [z] at this
    cases this
  · unfold ground
    refine List.all_eq_true.mpr fun c hc => decide_eq_true ?_
    have := h3 c hc
    unfold symB
    omega
def rhoW (ws : List (List Nat)) (c : Nat) : List Nat := ((ws ++ extraW)[c - symB]?).getD [97]
theorem rhoW_letters {n : Nat} {ws : List (List Nat)} (h : okW n ws = true) (c : Nat) : letters (rhoW ws c) = true := by
  unfold okW at h
  rw [Bool.and_eq_true, Bool.and_eq_true, Bool.and_eq_true] at h
  unfold rhoW
  cases e : (ws ++ extraW)[c - symB]? with
  | none => decide
  | some w =>
    have hm := List.mem_of_getElem? e
    rcases List.mem_append.mp hm with hm | hm
    · exact List.all_eq_true.mp h.1.1.2 w hm
    · have : extraW.all letters = true := by decide
      exact List.all_eq_true.mp this w hm
def rhoOf {n : Nat} {ws : List (List Nat)} (h : okW n ws = true) : Rho where
  rho := rhoW ws
  rne := fun c => (letters_ok (rhoW_letters h c)).1
  rle := fun c => (letters_ok (rhoW_letters h c)).2.1
  rch := fun c x hx => (letters_ok (rhoW_letters h c)).2.2.1 x hx
  rij := fun i j hi hj e => by
    have nd : (ws ++ extraW).Nodup := by
      unfold okW at h
      rw [Bool.and_eq_true, Bool.and_eq_true] at h
      exact of_decide_eq_true h.1.2
    have hl : (16 : Nat) ≤ (ws ++ extraW).length := by rw [List.length_append]; show 16 ≤ ws.length + 16; omega
    unfold symN at hi hj
    unfold rhoW at e
    rw [show symB + i - symB = i by omega, show symB + j - symB = j by omega, List.getElem?_eq_getElem (by omega), List.getElem?_eq_getElem (by omega)] at e
    have pw := List.pairwise_iff_getElem.mp nd
    rcases Nat.lt_trichotomy i j with h | h | h
    · exact absurd e (pw i j (by omega) (by omega) h)
    · exact h
    · exact absurd e.symm (pw j i (by omega) (by omega) h)
/-- one statement in a def -/
def StS (P : Program) (w : World) (K : PySem.W.Frag) (mg : Str → Option Value) (base : Heap) (Ω : Om) (k : Nat) (N : List Str) (sc : Scope) (st : Stmt) (b : SF) : Prop :=
  ∀ (qual : Str) (f : Addr) (cdv : Value) (A : Around) (outer : List Env) (s : Shared) (H : Hp) (E : XK), Room k (A.deeper (envOfC qual sc s.heap.objs.size f cdv)) → MS (cxD P w K mg base N qual sc f cdv A outer s H E) Ω (fun c d _ H' => E c d H') st b
section
variable {P : Program} {w : World} {K : PySem.W.Frag} {mg : Str → Option Value} {base : Heap} {om : Rho → Om} {ρ : Rho} {k i nw L : Nat} {N ps : List Str} {b1 b2 : SF}
theorem rs_syms {Ω Ω' : Om} {Z ι : List Addr} {M : Mem} {H : Hp} {Z' ι' : List Addr} {M' : Mem} {H' : Hp} {n : Nat} {ws : List (List Nat)} (h : okW n ws = true) (hr : Ω'.rho = rhoW ws) : ∀ (k : Nat) {us : List (List Nat)} {ts : List T} {vs : List V}, us = ws.drop k → strsT ts = some us → Rs K Ω Z ι M H ts vs →
    Rs K Ω' Z' ι' M' H' ((List.range' k us.length).map fun j => T.str [symB + j]) vs := by
  intro k us
  induction us generalizing k with
  | nil =>
    intro ts vs _ hs rs
    cases ts with
    | nil => cases rs; exact .nil
    | cons t ts =>
      cases t with
      | str x =>
        have hs : (strsT ts).map (x :: ·) = some [] := hs
        cases e : strsT ts with
        | none => rw [e] at hs; cases hs
        | some _ => rw [e] at hs; cases hs
      | _ => cases hs
  | cons u us ih =>
    intro ts vs hu hs rs
    have hws : ws[k]? = some u := by
      have : (ws.drop k)[0]? = some u := by rw [← hu]; rfl
      simpa using this
    have hdr : us = ws.drop (k + 1) := by
      have : (ws.drop k).tail = us := by rw [← hu]; rfl
      rw [List.tail_drop] at this
      exact this.symm
    cases ts with
    | nil => cases hs
    | cons t ts =>
      cases t with
      | str x =>
        have hs : (strsT ts).map (x :: ·) = some (u :: us) := hs
        cases e : strsT ts with
        | none => rw [e] at hs; cases hs
        | some us' =>
          rw [e] at hs
          have hs := Option.some.inj hs
          injection hs with h1 h2
          subst h1 h2
          cases rs with
          | cons r rr =>
            rw [List.length_cons, List.range'_succ, List.map_cons]
            refine .cons ?_ (ih (k + 1) hdr e rr)
            cases r with
            | str _ s hsp hlen =>
              have h' := h
              unfold okW at h'
              rw [Bool.and_eq_true, Bool.and_eq_true, Bool.and_eq_true] at h'
              have hn1 := of_decide_eq_true h'.1.1.1
              have hn2 := of_decide_eq_true h'.2
              have hx : letters x = true := List.all_eq_true.mp h'.1.1.2 x (List.mem_of_getElem? hws)
              rw [spell_ground (letters_ok hx).2.2.2] at hsp
              refine .str _ s ?_ (by simp)
              have hk := (List.getElem?_eq_some_iff.mp hws).1
              have hsy : isSym (symB + k) = true := by
                unfold isSym
                rw [Bool.and_eq_true, decide_eq_true_eq, decide_eq_true_eq]
                omega
              rw [spell_sym hsy, hr, hsp]
              unfold rhoW
              rw [show symB + k - symB = k by omega, List.getElem?_append_left hk, hws]
              rfl
      | _ => cases hs
theorem lstT_noZ {K : PySem.W.Frag} {Ω : Om} {Z ι : List Addr} {M : Mem} {H : Hp} {t : T} {a : Addr} {us : List T} (m : RM K Ω Z ι M H) (r : R K Ω Z ι M H t (.ref a)) (h : lstT M t = some us) : a ∉ Z := by
  cases r with
  | lst q n rs => exact n.2
  | loc q =>
    rename_i n
    intro hz
    have h : (match M[n]? with | some (MO.lst ts) => some ts | _ => none) = some us := h
    cases e : M[n]? with
    | none => rw [e] at h; cases h
    | some o =>
      refine (m.zin a hz).2 ⟨n, o, q, e, fun g => ?_⟩
      rw [e, g] at h
      cases h
  | _ => cases h
theorem split_fn {x qual : Str} {params : Arguments} {body rest : List Stmt} {st : Stmt} {scope : Scope} {dvs : List V} {kws : List (Str × V)} {f : Addr} {fd : FuncData} (F : FunD K x qual params body scope dvs kws f fd) (S : FnScope N ps scope)
    (hom : ∀ ρ, (om ρ).rho = ρ.rho) (hb : body = st :: rest) (h1 : StS P w K mg base (om ρ) k N scope st b1) (h2 : ∀ ρ', BodyS P w K mg base (om ρ') k N scope rest b2) (hrun : good (b2 (sig0 N.length i nw) []) = some L) (hi : i < N.length) :
    FnOk P w K mg base (L2.CX P w) (k + 1) f fd ps (spF K (om ρ) ps.length (splitF N.length i nw L b1)) := by
  refine F.ok S (fun vs H Q E ⟨Z, ι, M, ts, m, rs, hl, _⟩ => by rw [← rs.length]; exact hl) fun cdv A outer s H vs Q E hr ⟨Z, ι, M, ts, m, rs, hl, p⟩ => ?_
  subst hb
  have hrest : PSs (cxD P w K mg base N qual scope f cdv A outer s H E) rest (fun D σ H' => ∃ ρ', liftS K (om ρ') (fun c d _ H' => E c d H') b2 D σ H') := ⟨fun pins s' σ H' D I ⟨ρ', q⟩ => (h2 ρ' qual f cdv A outer s H E hr).run pins s' σ H' D I q⟩
  refine ⟨_, pss_cons (h1 qual f cdv A outer s H E hr) hrest, ?_⟩
  refine ⟨Z, ι, M, _, m, rv_start rs, ?_⟩
  unfold splitF at p
  generalize b1 (ts.map some ++ List.replicate (N.length - ts.length) none) M = r at p ⊢
  match r, p with
  | some (.nx σ1, M1), p =>
    intro ι1 σ' H1 m1 e1 rv1
    cases zw : wordsAt i σ1 M1 with
    | none => simp only [zw] at p; exact p.elim
    | some ws =>
      simp only [zw] at p
      cases ok2 : okW nw ws && decide (σ1.length = N.length) with
      | false => rw [ok2] at p; exact p.elim
      | true =>
        rw [ok2] at p
        rw [Bool.and_eq_true, decide_eq_true_eq] at ok2
        obtain ⟨ok, hlen⟩ := ok2
        unfold wordsAt at zw
        split at zw
        · rename_i t ht
          obtain ⟨v, hv, rt⟩ := rv1.at_ i t ht
          cases hls : lstT M1 t with
          | none => rw [hls] at zw; cases zw
          | some us =>
            rw [hls] at zw
            have zw : strsT us = some ws := zw
            obtain ⟨a, xs, rfl, ha, rxs⟩ := lstT_at m1 rt hls
            have hws : ws.length = nw := by
              unfold okW at ok
              rw [Bool.and_eq_true, Bool.and_eq_true, Bool.and_eq_true, decide_eq_true_eq] at ok
              exact ok.1.1.1
            have naZ : a ∉ Z := lstT_noZ m1 rt hls
            refine ⟨rhoOf ok, Z, [], [], sig0 N.length i nw, rm_fresh m1, ⟨by unfold sig0; rw [List.length_set, List.length_replicate, ← rv1.len, hlen], fun j u hj => ?_⟩, ?_⟩
            · unfold sig0 at hj
              by_cases e : i = j
              · subst e
                rw [List.getElem?_set_self (by simpa using hi)] at hj
                cases hj
                refine ⟨_, hv, .lst ha ⟨fun ⟨_, _, z, _⟩ => by simp at z, naZ⟩ ?_⟩
                have := rs_syms (K := K) (Ω' := om (rhoOf ok)) (Z' := Z) (ι' := []) (M' := []) (H' := H1) ok (hom _) 0 (us := ws) rfl zw rxs
                have e2 : symsN nw = (List.range' 0 ws.length).map fun j => T.str [symB + j] := by
                  unfold symsN
                  rw [List.range_eq_range', hws]
                rw [e2]
                exact this
              · rw [List.getElem?_set_ne e, List.getElem?_replicate] at hj
                split at hj <;> cases hj
            · cases hb2 : b2 (sig0 N.length i nw) [] with
              | none => rw [hb2] at hrun; cases hrun
              | some q =>
                obtain ⟨fl, M2⟩ := q
                rw [hb2] at hrun
                unfold good at hrun
                split at hrun
                · rename_i M3 e
                  cases e
                  cases hrun
                  intro ι2 H2 v m2 e2 r2
                  cases r2
                  have m3 := rm_gone m1 m2 e2
                  have e3 : Ext [] ι M H (ι1 ++ ι2) (goneN (M1.length + M2.length)) H2 := e1.trans (ext_gone e2)
                  exact p _ _ _ m3 e3 (.bl true)
                · cases hrun
        · cases zw
  | some (.rt t, M'), p => exact p.elim
  | some (.bk _, _), p => exact p.elim
  | some (.ct _, _), p => exact p.elim
  | some (.ex _ c t, M'), p => exact p.elim
  | none, p => exact p.elim
end
end Mi
namespace Mi
theorem some_getD {o : Option Nat} (h : o.isSome = true) : o = some (o.getD 0) := by
  cases o with
  | none => cases h
  | some n => rfl
end Mi
namespace Mi
open PySem L2
section
variable {σ : TV} {M M1 M2 M3 : Mem} {t u z : T} {ts us : List T} {f g h : EF} {fa : AF} {c : TF} {s s1 s2 : SF} {i j k : Nat} {fl : Fl} {b : Bool} {op : Op2} {a : Int} {r : Option (Fl × Mem)}
theorem eC_ok : eC t σ M = .ok t M := rfl
theorem eVar_ok (h : σ[i]? = some (some t)) : eVar i σ M = .ok t M := by unfold eVar; rw [h]
theorem eOp_ok (h1 : f σ M = .ok t M1) (h2 : g σ M1 = .ok u M2) (h3 : op M2 t u = some z) : eOp op f g σ M = .ok z M2 := by unfold eOp; rw [h1]; show (g σ M1).bind _ = _; rw [h2]; show Res.of (op M2 t u) M2 = _; rw [h3]; rfl
theorem aNil_ok : aNil σ M = .ok [] M := rfl
theorem aCons_ok (h1 : f σ M = .ok t M1) (h2 : fa σ M1 = .ok ts M2) : aCons f fa σ M = .ok (t :: ts) M2 := by unfold aCons; rw [h1]; show (fa σ M1).bind _ = _; rw [h2]; rfl
theorem eBi_ok {o : OpN} (h1 : fa σ M = .ok ts M1) (h2 : o M1 ts = some z) : eBi o fa σ M = .ok z M1 := by unfold eBi; rw [h1]; show Res.of (o M1 ts) M1 = _; rw [h2]; rfl
theorem eBiL_ok {o : Mem → List T → Option (List T)} (h1 : fa σ M = .ok ts M1) (h2 : o M1 ts = some us) : eBiL o fa σ M = .ok us M1 := by unfold eBiL; rw [h1]; show Res.of (o M1 ts) M1 = _; rw [h2]; rfl
theorem eLst_ok (h1 : fa σ M = .ok ts M1) (h2 : big ts.length = true) : eLst fa σ M = .ok ts M1 := by unfold eLst; rw [h1]; show (bif big ts.length then _ else _) = _; rw [h2]; rfl
theorem eFroz_ok (h1 : fa σ M = .ok ts M1) : eFroz fa σ M = .ok (.lst ts) M1 := by unfold eFroz; rw [h1]; rfl
theorem eNewL_ok (h1 : fa σ M = .ok ts M1) : eNewL fa σ M = .ok (.loc M1.length) (M1 ++ [.lst ts]) := by unfold eNewL; rw [h1]; rfl
theorem eCall_ok {n : Nat} {F : FF} {ds : List T} (h1 : fa σ M = .ok ts M1) (h2 : ((ts ++ ds).length == n) = true) (h3 : F (ts ++ ds) M1 = .ok z M2) : eCall n F ds fa σ M = .ok z M2 := by unfold eCall; rw [h1]; show (bif (ts ++ ds).length == n then _ else _) = _; rw [h2]; exact h3
theorem eMt_ok {ty : Mem → T → Bool} {o : OpM} (h1 : f σ M = .ok t M1) (h2 : ty M1 t = true) (h3 : fa σ M1 = .ok ts M2) (h4 : o M2 t ts = some (z, M3)) : eMt ty o f fa σ M = .ok z M3 := by unfold eMt; rw [h1]; show (bif ty M1 t then _ else _) = _; rw [h2]; show (fa σ M1).bind _ = _; rw [h3]; show (match o M2 t ts with | some (z, M3) => Res.ok z M3 | none => .err) = _; rw [h4]
theorem eAnd_t (h1 : f σ M = .ok t M1) (h2 : truth M1 t = some true) (h3 : g σ M1 = .ok u M2) : eAnd f g σ M = .ok u M2 := by unfold eAnd; rw [h1]; show (match truth M1 t with | some true => g σ M1 | some false => .ok t M1 | none => .err) = _; rw [h2]; exact h3
theorem eChain_t {o1 o2 : Op2} {v w : T} (h1 : f σ M = .ok t M1) (h2 : g σ M1 = .ok u M2) (h3 : o1 M2 t u = some (.bl true)) (h4 : h σ M2 = .ok v M3) (h5 : o2 M3 u v = some w) : eChain o1 o2 f g h σ M = .ok w M3 := by
  unfold eChain; rw [h1]; show (g σ M1).bind _ = _; rw [h2]; show (match o1 M2 t u with | some (.bl true) => (h σ M2).bind fun w M3 => .of (o2 M3 u w) M3 | some (.bl false) => .ok (.bl false) M2 | _ => .err) = _; rw [h3]; show (h σ M2).bind _ = _; rw [h4]; show Res.of (o2 M3 u v) M3 = _; rw [h5]; rfl
theorem tVal_ok (h1 : f σ M = .ok (.bl b) M1) : tVal f σ M = .ok b M1 := by unfold tVal; rw [h1]; rfl
theorem eIf_t (h1 : c σ M = .ok true M1) (h2 : f σ M1 = .ok t M2) : eIf c f g σ M = .ok t M2 := by unfold eIf; rw [h1]; exact h2
theorem eIf_f (h1 : c σ M = .ok false M1) (h2 : g σ M1 = .ok t M2) : eIf c f g σ M = .ok t M2 := by unfold eIf; rw [h1]; exact h2
theorem sRet_ok (h1 : f σ M = .ok t M1) : sRet f σ M = some (.rt t, M1) := by unfold sRet; rw [h1]; rfl
theorem sSet_ok (h1 : f σ M = .ok t M1) : sSet i f σ M = some (.nx (σ.set i (some t)), M1) := by unfold sSet; rw [h1]; rfl
theorem sExpr_ok (h1 : f σ M = .ok t M1) : sExpr f σ M = some (.nx σ, M1) := by unfold sExpr; rw [h1]; rfl
theorem sNil_ok : sNil σ M = some (.nx σ, M) := rfl
theorem sSeq_nx {σ1 : TV} (h1 : s1 σ M = some (.nx σ1, M1)) (h2 : s2 σ1 M1 = r) : sSeq s1 s2 σ M = r := by unfold sSeq; rw [h1]; exact h2
theorem sSeq_rt (h1 : s1 σ M = some (.rt t, M1)) : sSeq s1 s2 σ M = some (.rt t, M1) := by unfold sSeq; rw [h1]
theorem sIf_t (h1 : c σ M = .ok true M1) (h2 : s1 σ M1 = r) : sIf c s1 s2 σ M = r := by unfold sIf; rw [h1]; exact h2
theorem sIf_f (h1 : c σ M = .ok false M1) (h2 : s2 σ M1 = r) : sIf c s1 s2 σ M = r := by unfold sIf; rw [h1]; exact h2
theorem sPar_ok (h1 : fa σ M = .ok [t, u] M1) : sPar i j fa σ M = some (.nx ((σ.set i (some t)).set j (some u)), M1) := by unfold sPar; rw [h1]; rfl
theorem sLput_ok {fv fo fi : EF} {n p : Nat} {xs : List T} (h1 : fv σ M = .ok t M1) (h2 : fo σ M1 = .ok (.loc n) M2) (h3 : fi σ M2 = .ok (.int a) M3) (h4 : M3[n]? = some (.lst xs)) (h5 : ixN xs.length a = some p) : sLput fv fo fi σ M = some (.nx σ, M3.set n (.lst (xs.set p t))) := by
  unfold sLput
  rw [h1]
  have e : locL M3 (.loc n) = some (n, xs) := by
    show (match M3[n]? with | some (.lst ts) => some (n, ts) | _ => none) = _
    rw [h4]
  simp only [Res.go, h2, h3, e, h5, Option.map_some]
theorem runB_rt {n : Nat} (h1 : s (ts.map some ++ List.replicate (n - ts.length) none) M = some (.rt t, M1)) : runB n s ts M = .ok t M1 := by unfold runB; rw [h1]
theorem runB_nx {n : Nat} {σ1 : TV} (h1 : s (ts.map some ++ List.replicate (n - ts.length) none) M = some (.nx σ1, M1)) : runB n s ts M = .ok .non M1 := by unfold runB; rw [h1]
theorem sFor_ok {p : PF} {it : AF} (h1 : it σ M = .ok ts M1) (h2 : forL p s ts σ M1 = r) : sFor p it s σ M = r := by unfold sFor; rw [h1]; exact h2
theorem iFun_ok {o : List T → Option (List T)} (h1 : fa σ M = .ok ts M1) (h2 : o ts = some us) : iFun o fa σ M = .ok us M1 := by unfold iFun; rw [h1]; show Res.of (o ts) M1 = _; rw [h2]; rfl
theorem iSeqS_ok (h1 : f σ M = .ok t M1) (h2 : itemsS t = some us) : iSeqS f σ M = .ok us M1 := by unfold iSeqS; rw [h1]; show Res.of (itemsS t) M1 = _; rw [h2]; rfl
theorem eLc_ok {own : List Nat} {p : PF} {it : AF} (h1 : it σ M = .ok ts M1) (h2 : big ts.length = true) (h3 : compL p c f (wipeT σ own) ts [] M1 = .ok us M2) : eLc own p it c f σ M = .ok us M2 := by unfold eLc; rw [h1]; show (bif big ts.length then _ else _) = _; rw [h2]; exact h3
/-! ### operators -/
theorem opMul_r {i j : Int} (h : -(2 ^ 64) < j ∧ j < 2 ^ 64) : opMul M (.int i) (.int j) = some (.int (i * j)) := by
  show (bif decide (-(2 ^ 64) < j) && decide (j < 2 ^ 64) || decide (-(2 ^ 64) < i) && decide (i < 2 ^ 64) then some (T.int (i * j)) else none) = _
  rw [decide_eq_true h.1, decide_eq_true h.2]
  rfl
theorem opMul_l {i j : Int} (h : -(2 ^ 64) < i ∧ i < 2 ^ 64) : opMul M (.int i) (.int j) = some (.int (i * j)) := by
  show (bif decide (-(2 ^ 64) < j) && decide (j < 2 ^ 64) || decide (-(2 ^ 64) < i) && decide (i < 2 ^ 64) then some (T.int (i * j)) else none) = _
  rw [decide_eq_true h.1, decide_eq_true h.2, Bool.and_self, Bool.or_true]
  rfl
theorem opMod_p {i j : Int} (h : 0 < j) : opMod M (.int i) (.int j) = some (.int (i % j)) := by
  show (bif decide (0 < j) then some (T.int (i % j)) else none) = _
  rw [decide_eq_true h]
  rfl
theorem opFdiv_p {i j : Int} (h : 0 < j ∧ j < 1073741824) : opFdiv M (.int i) (.int j) = some (.int (i / j)) := by
  show (bif decide (0 < j) && decide (j < 1073741824) then some (T.int (i / j)) else none) = _
  rw [decide_eq_true h.1, decide_eq_true h.2]
  rfl
theorem opPow_3 {i : Int} (h0 : 0 ≤ i) (h : i < 2 ^ 200) : opPow M (.int i) (.int 3) = some (.int (i ^ 3)) := by
  have hn : i.natAbs < 2 ^ 200 := by omega
  have hb : (Builtin.Int.intBits i : Int) * 3 ≤ 2 ^ 27 := by
    have h2 : Builtin.Int.intBits i ≤ 200 := by
      unfold Builtin.Int.intBits
      split
      · omega
      · rename_i hz
        have hz : i.natAbs ≠ 0 := by
          intro z
          apply hz
          rw [beq_iff_eq]
          omega
        have := (Nat.log2_lt hz).mpr hn
        omega
    have : (Builtin.Int.intBits i : Int) ≤ 200 := by omega
    omega
  show (bif decide ((0 : Int) ≤ 3) && decide ((Builtin.Int.intBits i : Int) * 3 ≤ 2 ^ 27) then some (T.int (i ^ (3 : Int).toNat)) else none) = _
  rw [decide_eq_true hb]
  rfl
theorem opIx_loc {n : Nat} {xs : List T} {a : Int} {t : T} (h : M[n]? = some (.lst xs)) (h2 : L2.atI xs a = some t) : opIx M (.loc n) (.int a) = some t := by
  unfold opIx
  show (seqT M (.loc n)).bind (fun ts => L2.atI ts a) = _
  have : seqT M (.loc n) = some xs := by
    show (match M[n]? with | some (.lst ts) => some ts | _ => none) = _
    rw [h]
  rw [this]
  exact h2
/-! ### loops -/
theorem compL_all {n : Nat} {t0 : T} {f : EF} {σ : TV} (P : T → Prop) (h : ∀ t M, P t → ∃ M', f (σ.set n (some t)) M = .ok t0 M') : ∀ (ts acc : List T) (M : Mem), (∀ t ∈ ts, P t) → ∃ M', compL (pName n) tTrue f σ ts acc M = .ok (acc ++ List.replicate ts.length t0) M'
  | [], acc, M, _ => ⟨M, by simp [compL]⟩
  | t :: ts, acc, M, hp => by
    obtain ⟨M1, h1⟩ := h t M (hp t (by simp))
    obtain ⟨M2, h2⟩ := compL_all P h ts (acc ++ [t0]) M1 fun t ht => hp t (List.mem_cons_of_mem _ ht)
    refine ⟨M2, ?_⟩
    unfold compL
    simp only [pName, tTrue, h1]
    rw [h2, List.length_cons, List.replicate_succ]
    simp
theorem compL_allM {n : Nat} {t0 : T} {f : EF} {σ : TV} {M : Mem} : ∀ (ts acc : List T), (∀ t ∈ ts, f (σ.set n (some t)) M = .ok t0 M) → compL (pName n) tTrue f σ ts acc M = .ok (acc ++ List.replicate ts.length t0) M
  | [], acc, _ => by simp [compL]
  | t :: ts, acc, hp => by
    have h1 := hp t (by simp)
    have h2 := compL_allM (n := n) (f := f) (σ := σ) (M := M) (t0 := t0) ts (acc ++ [t0]) fun t ht => hp t (List.mem_cons_of_mem _ ht)
    unfold compL
    simp only [pName, tTrue, h1]
    rw [h2, List.length_cons, List.replicate_succ]
    simp
theorem bAll_rep {n : Nat} : bAll M [.lst (List.replicate n (.bl true))] = some (.bl true) := by
  have h1 : ∀ n : Nat, boolsT (List.replicate n (.bl true)) = some (List.replicate n true) := fun n => by
    induction n with
    | zero => rfl
    | succ n ih =>
      rw [List.replicate_succ, List.replicate_succ]
      show (boolsT (List.replicate n (.bl true))).map (true :: ·) = _
      rw [ih]
      rfl
  unfold bAll bBools
  show ((boolsT (List.replicate n (.bl true))).map fun bs => T.bl _) = _
  rw [h1]
  simp
end
end Mi
namespace Mi
open PySem PySem.Spec PyProof.Rows L2
/-- no exception is wished for: none leaves -/
theorem calm_fn {P : Program} {w : World} {K : PySem.W.Frag} {mg : Str → Option Value} {base : Heap} {k : Nat} {f : Addr} {fd : FuncData} {ps : List Str} {sp : Sp} (F : FnOk P w K mg base (L2.CX P w) k f fd ps sp) : FnOk P w K mg base (fun _ _ _ _ _ _ => False) k f fd ps (fun vs H Q _ => sp vs H Q fun _ _ _ => False) :=
  ⟨fun vs H Q _ h => F.len vs H Q _ h, fun A outer s H args us vs Q E hr e0 hb hv hs => codeAny_mono (F.run A outer s H args us vs Q _ hr e0 hb hv hs) fun r s' hq => by
    cases r with
    | error e =>
      obtain ⟨_, _, _, _, _, _, _, _, _, _, _, _, _, he⟩ := hq
    | ok fl =>
      cases fl with
      | ret u => exact hq
      | next => exact hq
      | brk => exact hq
      | cont => exact hq⟩
theorem law_sp {K : PySem.W.Frag} {Ω : Om} {F : FF} (h : ∀ zs : List Int, ∃ M', F [.klst (zs.map .int)] [] = .ok (.bl true) M') (H : Hp) (a : Addr) (ns : List Int) (ho : Only H) (hs : SqL K H a (ns.map V.int)) : spF K Ω 1 F [.ref a] H (fun v _ => v = .bl true) fun _ _ _ => False := by
  have kl : KL K H a (ns.map V.int) := by
    rcases hs with (hs | hs) | hs
    · rcases ho a with z | ⟨o, xs, z⟩
      · rw [z] at hs; cases hs
      · rw [z] at hs; cases hs
    · exact .inl hs
    · exact .inr hs
  have rs : Rs K Ω [] [] [] H (ns.map T.int) (ns.map V.int) := by
    clear h hs kl
    induction ns with
    | nil => exact .nil
    | cons n ns ih => exact .cons (.int n) ih
  obtain ⟨M', e⟩ := h ns
  refine ⟨[], [], [], [.klst (ns.map .int)], ⟨rfl, fun i j a o u h => by simp at h, fun n a o h => by simp at h, fun z q => by simp at q⟩, .cons (.klst kl rs) .nil, rfl, ?_⟩
  rw [e]
  intro ι' H' v m ex r
  cases r
  rfl
end Mi
namespace Mi
open PySem PySem.Spec PyProof.Rows L2
def compO (p : PF) (c : TF) (it1 : AF) (p1 : PF) (c1 : TF) (f : EF) (vs1 : List Nat) (σ : TV) : List T → List T → Mem → Res (List T)
  | [], acc, M => .ok acc M
  | t :: ts, acc, M => match p t σ M with
    | none => .err
    | some σ1 => match c σ1 M with
      | .ok true M1 => (match it1 σ1 M1 with
        | .ok us M2 => bif big (acc.length + us.length) then (match compL p1 c1 f (wipeT σ1 vs1) us acc M2 with
          | .ok acc' M3 => compO p c it1 p1 c1 f vs1 σ ts acc' M3
          | _ => .err) else .err
        | _ => .err)
      | .ok false M1 => compO p c it1 p1 c1 f vs1 σ ts acc M1
      | _ => .err
def eLc2 (own vs1 : List Nat) (p : PF) (it : AF) (c : TF) (p1 : PF) (it1 : AF) (c1 : TF) (f : EF) : AF := fun σ M => (it σ M).bind fun ts M1 => match compO p c it1 p1 c1 f vs1 (wipeT σ own) ts [] M1 with
  | .ok us M2 => .ok us M2
  | _ => .err
section
variable {X : Cx} {Ω : Om} {W : WX} {elt iter tg iter1 tg1 : Expr} {f : EF} {c c1 : TF} {it it1 : AF} {pos : Pos} {ifs ifs1 : List Expr} {scope : Scope} {own : List (Str × Nat)} {gt gt1 : TG} {pf pf1 : PF} {vs us vs1 : List Nat}
theorem lc2_of {K : PySem.W.Frag} {σ : L2.St} {H : Hp} {Q : VK} (hp : PatS K Ω gt pf vs) (hv : ∀ i ∈ vs, i ∈ own.map (·.2)) (hp1 : PatS K Ω gt1 pf1 us) (hv1 : ∀ i ∈ us, i ∈ vs1) (q : MLr K Ω W (eLc2 (own.map (·.2)) vs1 pf it c pf1 it1 c1 f) σ H Q) :
    tLc2 (lift K Ω (RIt K Ω) W it) gt (liftT K Ω W0 c) (lift K Ω (RIt K Ω) W0 it1) gt1 (liftT K Ω W0 c1) (liftE K Ω W0 f) (own.map (·.2)) vs1 σ H Q := by
  obtain ⟨Z, ι, M, σT, m, rv, p⟩ := q
  refine ⟨Z, ι, M, σT, m, rv, ?_⟩
  unfold eLc2 at p
  cases q0 : it σT M with
  | exc c t M1 => rw [q0] at p; exact p
  | err => rw [q0] at p; exact p
  | ok ts M1 =>
    rw [q0] at p
    intro ι1 H1 J m1 e1 q1 D nD
    have p : match (match compO pf c it1 pf1 c1 f vs1 (wipeT σT (own.map (·.2))) ts [] M1 with
        | .ok us M2 => .ok us M2
        | _ => .err : Res (List T)) with
      | .ok ts M' => ∀ ι' H' p vs, H p = none → RM K Ω (p :: Z) ι' M' H' → p ∉ Z → Ext [] ι M H ι' M' H' → H' p = some (.lst vs) → Rs K Ω (p :: Z) ι' M' H' ts vs → Q (.ref p) H'
      | .exc c t M' => ∀ ι' H' dd v, RM K Ω Z ι' M' H' → Ext [] ι M H ι' M' H' → R K Ω Z ι' M' H' t v → H' dd = some (.xd [("value", v)]) → W (.ref (Ω.cls c)) (some dd) σ H'
      | .err => False := p
    have hD : H D = none := by
      cases z : H D with
      | none => rfl
      | some o => exact absurd nD (e1.there D (by rw [z]; exact nofun))
    have dZ : D ∉ Z := m1.notZ nD
    have rv1 : RV K Ω Z ι1 M1 H1 σT σ := rv.ext e1.any
    have hDs : ∀ {ι M H}, RM K Ω (D :: Z) ι M H → Still [] ι M D := fun m => ⟨(m.zin D (by simp)).2, by simp⟩
    have up : ∀ {ι M H ι' M' H'}, Ext [D] ι M H ι' M' H' → Ext (D :: Z) ι M H ι' M' H' := fun e => e.to fun z h => by simp at h; simp [h]
    refine ⟨fun i n H => n = ts.length - i ∧ i ≤ ts.length ∧ ∃ ι2 M2 acc ws, RM K Ω (D :: Z) ι2 M2 H ∧ Ext [D] ι1 M1 H1 ι2 M2 H ∧ H D = some (.lst ws) ∧ Rs K Ω (D :: Z) ι2 M2 H acc ws ∧ (match compO pf c it1 pf1 c1 f vs1 (wipeT σT (own.map (·.2))) (ts.drop i) acc M2 with
      | .ok ts M' => ∀ ι' H' p vs, H1 p = none → RM K Ω (p :: Z) ι' M' H' → p ∉ Z → Ext [] ι1 M1 H1 ι' M' H' → H' p = some (.lst vs) → Rs K Ω (p :: Z) ι' M' H' ts vs → Q (.ref p) H'
      | _ => False), ⟨ts.length, by omega, Nat.zero_le _, ι1, M1, [], [], m1.layH nD, Ext.new nD, upd_same, .nil, ?_⟩, ?_⟩
    · generalize hr : compO pf c it1 pf1 c1 f vs1 (wipeT σT (own.map (·.2))) ts [] M1 = r at p
      rw [show ts.drop 0 = ts from rfl, hr]
      match r, p with
      | .ok ts' M', p =>
        exact fun ι' H' q vs hq mm hz ex hv rs => p ι' H' q vs (by
          cases z : H q with
          | none => rfl
          | some o => exact absurd hq (e1.there q (by rw [z]; exact nofun))) mm hz (e1.trans ex) hv rs
      | .exc c' t' M', p => exact p.elim
      | .err, p => exact p.elim
    · rintro i n H3 ⟨rfl, hi3, ι2, M2, acc, ws, m2, ex2, hD2, rs2, p2⟩
      obtain ⟨stop, go⟩ := q1 (D :: Z) ι2 M2 H3 m2 (up ex2) fun z h => (List.mem_cons.mp h).elim (fun e => .inr (by rw [e]; exact nD)) .inl
      by_cases hlt : i < ts.length
      · have hd : ts.drop i = ts[i] :: ts.drop (i + 1) := List.drop_eq_getElem_cons hlt
        rw [hd] at p2
        obtain ⟨g1, y1⟩ := go i ts[i] (List.getElem?_eq_getElem hlt)
        refine .inr ⟨g1, fun H' => i + 1 ≤ ts.length ∧ ∃ ι2 M2 acc ws, RM K Ω (D :: Z) ι2 M2 H' ∧ Ext [D] ι1 M1 H1 ι2 M2 H' ∧ H' D = some (.lst ws) ∧ Rs K Ω (D :: Z) ι2 M2 H' acc ws ∧ (match compO pf c it1 pf1 c1 f vs1 (wipeT σT (own.map (·.2))) (ts.drop (i + 1)) acc M2 with
          | .ok ts M' => ∀ ι' H' p vs, H1 p = none → RM K Ω (p :: Z) ι' M' H' → p ∉ Z → Ext [] ι1 M1 H1 ι' M' H' → H' p = some (.lst vs) → Rs K Ω (p :: Z) ι' M' H' ts vs → Q (.ref p) H'
          | _ => False), fun H' ⟨a, h⟩ => ⟨ts.length - (i + 1), by omega, rfl, a, h⟩, fun x H4 y => ?_⟩
        obtain ⟨m4, e4, r4⟩ := y1 x H4 y
        have ex4 : Ext [D] ι1 M1 H1 ι2 M2 H4 := ex2.trans e4.any
        have hD4 : H4 D = some (.lst ws) := (e4.froz D _ hD2 (hDs m2)).1
        have rv4 : RV K Ω (D :: Z) ι2 M2 H4 (wipeT σT (own.map (·.2))) (wipe σ (own.map (·.2))) := by
          have h1 : RV K Ω (D :: Z) ι1 M1 H1 σT σ := rv1.hide nD
          exact (h1.ext (up ex4)).wipe _
        unfold compO at p2
        cases zp : pf ts[i] (wipeT σT (own.map (·.2))) M2 with
        | none => rw [zp] at p2; exact p2.elim
        | some σ1 =>
          rw [zp] at p2
          refine hp (D :: Z) ι2 M2 H4 _ _ ts[i] x σ1 _ m4 rv4 r4 zp fun σ5 rv5 w5 => ⟨(w5 _ hv).trans wipe_wipe, D :: Z, ι2, M2, σ1, m4, rv5, ?_⟩
          dsimp only at p2
          cases zc : c σ1 M2 with
          | err => rw [zc] at p2; exact p2.elim
          | exc _ _ _ => rw [zc] at p2; exact p2.elim
          | ok k M5 =>
            rw [zc] at p2
            intro ι5 H5 b m5 e5 hb
            cases hb
            have ex5 : Ext [D] ι1 M1 H1 ι5 M5 H5 := ex4.trans e5.any
            have hD5 : H5 D = some (.lst ws) := (e5.froz D _ hD4 (hDs m4)).1
            have rs5 : Rs K Ω (D :: Z) ι5 M5 H5 acc ws := (rs2.ext e4.any).ext e5.any
            cases k with
            | false =>
              rw [if_neg Bool.false_ne_true]
              exact ⟨hlt, ι5, M5, acc, ws, m5, ex5, hD5, rs5, p2⟩
            | true =>
              rw [if_pos rfl]
              refine ⟨D :: Z, ι5, M5, σ1, m5, rv5.ext e5.any, ?_⟩
              dsimp only at p2
              cases zi : it1 σ1 M5 with
              | err => rw [zi] at p2; exact p2.elim
              | exc _ _ _ => rw [zi] at p2; exact p2.elim
              | ok us1 M6 =>
                rw [zi] at p2
                intro ι6 H6 J1 m6 e6 q6
                have ex6 : Ext [D] ι1 M1 H1 ι6 M6 H6 := ex5.trans e6.any
                have hD6 : H6 D = some (.lst ws) := (e6.froz D _ hD5 (hDs m5)).1
                have rs6 : Rs K Ω (D :: Z) ι6 M6 H6 acc ws := rs5.ext e6.any
                have rv6 : RV K Ω (D :: Z) ι6 M6 H6 σ1 σ5 := (rv5.ext e5.any).ext e6.any
                dsimp only at p2
                cases zb : big (acc.length + us1.length) with
                | false => rw [zb] at p2; exact p2.elim
                | true =>
                rw [zb] at p2
                have hbig : acc.length + us1.length ≤ 2000000 := of_decide_eq_true zb
                refine ⟨fun j k H => k = us1.length - j ∧ j ≤ us1.length ∧ ∃ ι7 M7 ac7 ws7, RM K Ω (D :: Z) ι7 M7 H ∧ Ext [D] ι6 M6 H6 ι7 M7 H ∧ H D = some (.lst ws7) ∧ Rs K Ω (D :: Z) ι7 M7 H ac7 ws7 ∧ ac7.length ≤ acc.length + j ∧ (match (match compL pf1 c1 f (wipeT σ1 vs1) (us1.drop j) ac7 M7 with
                    | .ok acc' M3 => compO pf c it1 pf1 c1 f vs1 (wipeT σT (own.map (·.2))) (ts.drop (i + 1)) acc' M3
                    | _ => .err : Res (List T)) with
                  | .ok ts M' => ∀ ι' H' p vs, H1 p = none → RM K Ω (p :: Z) ι' M' H' → p ∉ Z → Ext [] ι1 M1 H1 ι' M' H' → H' p = some (.lst vs) → Rs K Ω (p :: Z) ι' M' H' ts vs → Q (.ref p) H'
                  | _ => False), ⟨us1.length, by omega, Nat.zero_le _, ι6, M6, acc, ws, m6, Ext.refl, hD6, rs6, Nat.le_refl _, p2⟩, ?_⟩
                rintro j k H7 ⟨rfl, hj, ι7, M7, ac7, ws7, m7, ex7, hD7, rs7, hac7, p7⟩
                obtain ⟨stop1, go1⟩ := q6 (D :: Z) ι7 M7 H7 m7 (up ex7) fun z h => .inl h
                by_cases hlt1 : j < us1.length
                · have hd1 : us1.drop j = us1[j] :: us1.drop (j + 1) := List.drop_eq_getElem_cons hlt1
                  rw [hd1] at p7
                  obtain ⟨g2, y2⟩ := go1 j us1[j] (List.getElem?_eq_getElem hlt1)
                  refine .inr ⟨g2, fun H => j + 1 ≤ us1.length ∧ ∃ ι7 M7 ac7 ws7, RM K Ω (D :: Z) ι7 M7 H ∧ Ext [D] ι6 M6 H6 ι7 M7 H ∧ H D = some (.lst ws7) ∧ Rs K Ω (D :: Z) ι7 M7 H ac7 ws7 ∧ ac7.length ≤ acc.length + (j + 1) ∧ (match (match compL pf1 c1 f (wipeT σ1 vs1) (us1.drop (j + 1)) ac7 M7 with
                      | .ok acc' M3 => compO pf c it1 pf1 c1 f vs1 (wipeT σT (own.map (·.2))) (ts.drop (i + 1)) acc' M3
                      | _ => .err : Res (List T)) with
                    | .ok ts M' => ∀ ι' H' p vs, H1 p = none → RM K Ω (p :: Z) ι' M' H' → p ∉ Z → Ext [] ι1 M1 H1 ι' M' H' → H' p = some (.lst vs) → Rs K Ω (p :: Z) ι' M' H' ts vs → Q (.ref p) H'
                    | _ => False), fun H' ⟨a, h⟩ => ⟨us1.length - (j + 1), by omega, rfl, a, h⟩, fun x8 H8 y8 => ?_⟩
                  obtain ⟨m8, e8, r8⟩ := y2 x8 H8 y8
                  have ex8 : Ext [D] ι6 M6 H6 ι7 M7 H8 := ex7.trans e8.any
                  have hD8 : H8 D = some (.lst ws7) := (e8.froz D _ hD7 (hDs m7)).1
                  have rv8 : RV K Ω (D :: Z) ι7 M7 H8 (wipeT σ1 vs1) (wipe σ5 vs1) := (rv6.ext (up ex8)).wipe _
                  unfold compL at p7
                  cases zp1 : pf1 us1[j] (wipeT σ1 vs1) M7 with
                  | none => rw [zp1] at p7; exact p7.elim
                  | some σ8 =>
                    rw [zp1] at p7
                    refine hp1 (D :: Z) ι7 M7 H8 _ _ us1[j] x8 σ8 _ m8 rv8 r8 zp1 fun σ9 rv9 w9 => ⟨(w9 _ hv1).trans wipe_wipe, D :: Z, ι7, M7, σ8, m8, rv9, ?_⟩
                    dsimp only at p7
                    cases zc1 : c1 σ8 M7 with
                    | err => rw [zc1] at p7; exact p7.elim
                    | exc _ _ _ => rw [zc1] at p7; exact p7.elim
                    | ok k1 M9 =>
                      rw [zc1] at p7
                      intro ι9 H9 b9 m9 e9 hb9
                      cases hb9
                      have ex9 : Ext [D] ι6 M6 H6 ι9 M9 H9 := ex8.trans e9.any
                      have hD9 : H9 D = some (.lst ws7) := (e9.froz D _ hD8 (hDs m8)).1
                      have rs9 : Rs K Ω (D :: Z) ι9 M9 H9 ac7 ws7 := (rs7.ext e8.any).ext e9.any
                      cases k1 with
                      | false =>
                        rw [if_neg Bool.false_ne_true]
                        exact ⟨hlt1, ι9, M9, ac7, ws7, m9, ex9, hD9, rs9, by omega, p7⟩
                      | true =>
                        rw [if_pos rfl]
                        refine ⟨D :: Z, ι9, M9, σ8, m9, rv9.ext e9.any, ?_⟩
                        dsimp only at p7
                        cases zf : f σ8 M9 with
                        | err => rw [zf] at p7; exact p7.elim
                        | exc _ _ _ => rw [zf] at p7; exact p7.elim
                        | ok u M10 =>
                          rw [zf] at p7
                          intro ι10 H10 v10 m10 e10 r10
                          have hD10 : H10 D = some (.lst ws7) := (e10.froz D _ hD9 (hDs m9)).1
                          have rs10 : Rs K Ω (D :: Z) ι10 M10 H10 ac7 ws7 := rs9.ext e10.any
                          have et : ∀ Z', Ext (D :: Z') ι10 M10 H10 ι10 M10 (upd H10 D (.lst (ws7 ++ [v10]))) := fun Z' => Ext.turn hD10 (by intro xs h; cases h) (by intro x y h; cases h)
                          refine ⟨ws7, hD10, ?_, hlt1, ι10, M10, ac7 ++ [u], ws7 ++ [v10], m10.turn hD10 (by intro xs h; cases h) (by intro x y h; cases h), (ex9.trans e10.any).trans (et []), upd_same, (rs10.ext (et Z)).append (.cons (r10.ext (et Z)) .nil), by simp; omega, p7⟩
                          rw [← rs10.length, sizeLine_eq]
                          omega
                · have e : j = us1.length := by omega
                  subst e
                  rw [List.drop_length] at p7
                  exact .inl ⟨stop1, hlt, ι7, M7, ac7, ws7, m7, ex6.trans ex7, hD7, rs7, p7⟩
      · have e : i = ts.length := by omega
        subst e
        rw [List.drop_length] at p2
        exact .inl ⟨stop, p2 ι2 H3 D ws nD m2 dZ (ex2.drop nD) hD2 rs2⟩
theorem ml_lc2 (vs1 : List Nat) (hc : X.calm = true) (hN : X.N.Nodup) (hi : MI X Ω W tg iter it) (ok : BlkOk X.N X.env.scope scope own) (hp : PatS X.K Ω gt pf vs) (hv : ∀ i ∈ vs, i ∈ own.map (·.2)) (hp1 : PatS X.K Ω gt1 pf1 us) (hv1 : ∀ i ∈ us, i ∈ vs1) (hw : ∀ i ∈ vs1, i ∈ own.map (·.2))
    (hg : ∀ (s : Shared) (H : Hp) (C : Addr) (cl : List (Str × Addr)) (fp : List Addr), PG (X.blk s H scope (compEnvC scope cl C X.env) fp) tg gt)
    (ht : ∀ (s : Shared) (H : Hp) (C : Addr) (cl : List (Str × Addr)) (fp : List Addr), MTs (X.blk s H scope (compEnvC scope cl C X.env) fp) Ω W0 ifs c)
    (hi1 : ∀ (s : Shared) (H : Hp) (C : Addr) (cl : List (Str × Addr)) (fp : List Addr), MI (X.blk s H scope (compEnvC scope cl C X.env) fp) Ω W0 tg1 iter1 it1)
    (hg1 : ∀ (s : Shared) (H : Hp) (C : Addr) (cl : List (Str × Addr)) (fp : List Addr), PG (X.blk s H scope (compEnvC scope cl C X.env) fp) tg1 gt1)
    (ht1 : ∀ (s : Shared) (H : Hp) (C : Addr) (cl : List (Str × Addr)) (fp : List Addr), MTs (X.blk s H scope (compEnvC scope cl C X.env) fp) Ω W0 ifs1 c1)
    (he : ∀ (s : Shared) (H : Hp) (C : Addr) (cl : List (Str × Addr)) (fp : List Addr), ME (X.blk s H scope (compEnvC scope cl C X.env) fp) Ω W0 elt f)
    (hs : ∀ x, foldedSetIterable iter X.env x = pure x := by intro _; rfl) (hs1 : ∀ env x, foldedSetIterable iter1 env x = pure x := by intro _ _; rfl) :
    ML X Ω W (.ListComp elt [⟨tg, iter, ifs, 0⟩, ⟨tg1, iter1, ifs1, 0⟩] scope pos) (eLc2 (own.map (·.2)) vs1 pf it c pf1 it1 c1 f) :=
  L2PE.imp (pe_lc2 (tt := liftT X.K Ω W0 c) (tt1 := liftT X.K Ω W0 c1) (te := liftE X.K Ω W0 f) hc hN hi ok hw hg ht hi1 hg1 ht1 he hs hs1) fun σ H Q => lc2_of hp hv hp1 hv1
end
end Mi
namespace Mi
open PySem PySem.Spec PyProof.Rows L2
section
variable {K : PySem.W.Frag} {Ω : Om} {X : Cx}
/-- a product: of ints, of a tuple and an int -/
def opTimes : Op2 := fun M t u => match tupT t, u with
  | some xs, .int k => bif !xs.isEmpty && (decide (2 ≤ k) && decide (k ≤ 1000)) && decide (xs.length ≤ 1000) then some (.tup (List.replicate k.toNat xs).flatten) else none
  | _, _ => opMul M t u
theorem rs_rep {Z ι : List Addr} {M : Mem} {H : Hp} {ts : List T} {vs : List V} (h : Rs K Ω Z ι M H ts vs) : ∀ n : Nat, Rs K Ω Z ι M H (List.replicate n ts).flatten (List.replicate n vs).flatten
  | 0 => .nil
  | n + 1 => by
    rw [List.replicate_succ, List.replicate_succ, List.flatten_cons, List.flatten_cons]
    exact h.append (rs_rep h n)
theorem op_times : OpR X (binaryOp .Mult) (fun x y H Q => rRepT X.K x y H Q ∨ rI CMul (fun i j => .int (i * j)) x y H Q) := op_repT.or op_mul
theorem opTimes_ok : OpS K Ω (fun x y H Q => rRepT K x y H Q ∨ rI CMul (fun i j => .int (i * j)) x y H Q) opTimes := fun Z ι M H t u v w z Q m r q h k => by
  unfold opTimes at h
  split at h
  · rename_i xs j hx
    cases hb : !xs.isEmpty && (decide (2 ≤ j) && decide (j ≤ 1000)) && decide (xs.length ≤ 1000) with
    | false => rw [hb] at h; cases h
    | true =>
      rw [hb] at h
      cases h
      rw [Bool.and_eq_true, Bool.and_eq_true, Bool.and_eq_true, decide_eq_true_eq, decide_eq_true_eq, decide_eq_true_eq] at hb
      obtain ⟨a, vs, rfl, hs, rs⟩ := tupT_ok r hx
      cases q
      refine .inl ⟨a, j, vs, rfl, rfl, hs, fun e => ?_, hb.1.2.1, hb.1.2.2, by rw [← rs.length]; exact hb.2, fun p hp => k ι _ _ (m.lay hp) (Ext.new hp) (.tup upd_same ((rs_rep rs _).ext (Ext.new hp)))⟩
      have h1 := hb.1.1
      rw [← rs.isEmpty, e] at h1
      cases h1
  · exact .inr (opMul_ok Z ι M H t _ v w z Q m r q h k)
end
end Mi
namespace Mi
open PySem PySem.Spec PyProof.Rows L2
section
variable {X : Cx} {Ω : Om} {W : WX} {elt iter tg iter1 tg1 : Expr} {f : EF} {c c1 : TF} {it it1 : AF} {pos spos py : Pos} {ifs ifs1 : List Expr} {scope : Scope} {own : List (Str × Nat)} {gt gt1 : TG} {pf pf1 : PF} {vs us : List Nat} {i : Nat} {y : Str}
theorem ms_lc2F (vs1 : List Nat) (hc : X.calm = true) (hN : X.N.Nodup) (hy : X.N[i]? = some y) (hyl : X.env.scope.names.lookup y = some .local) (hi : MI X Ω W tg iter it) (ok : BlkOk X.N X.env.scope scope own) (hp : PatS X.K Ω gt pf vs) (hv : ∀ i ∈ vs, i ∈ own.map (·.2)) (hp1 : PatS X.K Ω gt1 pf1 us) (hv1 : ∀ i ∈ us, i ∈ vs1) (hw : ∀ i ∈ vs1, i ∈ own.map (·.2))
    (hg : ∀ (s : Shared) (H : Hp) (C : Addr) (cl : List (Str × Addr)) (fp : List Addr), PG (X.blk s H scope (compEnvC scope cl C X.env) fp) tg gt)
    (ht : ∀ (s : Shared) (H : Hp) (C : Addr) (cl : List (Str × Addr)) (fp : List Addr), MTs (X.blk s H scope (compEnvC scope cl C X.env) fp) Ω W0 ifs c)
    (hi1 : ∀ (s : Shared) (H : Hp) (C : Addr) (cl : List (Str × Addr)) (fp : List Addr), MI (X.blk s H scope (compEnvC scope cl C X.env) fp) Ω W0 tg1 iter1 it1)
    (hg1 : ∀ (s : Shared) (H : Hp) (C : Addr) (cl : List (Str × Addr)) (fp : List Addr), PG (X.blk s H scope (compEnvC scope cl C X.env) fp) tg1 gt1)
    (ht1 : ∀ (s : Shared) (H : Hp) (C : Addr) (cl : List (Str × Addr)) (fp : List Addr), MTs (X.blk s H scope (compEnvC scope cl C X.env) fp) Ω W0 ifs1 c1)
    (he : ∀ (s : Shared) (H : Hp) (C : Addr) (cl : List (Str × Addr)) (fp : List Addr), ME (X.blk s H scope (compEnvC scope cl C X.env) fp) Ω W0 elt f)
    (hsw : swapsWith (.ListComp elt [⟨tg, iter, ifs, 0⟩, ⟨tg1, iter1, ifs1, 0⟩] scope pos) (some (.Name y py)) spos.line X.env = pure true := by rfl)
    (hs : ∀ x, foldedSetIterable iter X.env x = pure x := by intro _; rfl) (hs1 : ∀ env x, foldedSetIterable iter1 env x = pure x := by intro _ _; rfl) :
    MS X Ω W (.Assign [.Name y py] (.ListComp elt [⟨tg, iter, ifs, 0⟩, ⟨tg1, iter1, ifs1, 0⟩] scope pos) spos) (sSet i (eFroz (eLc2 (own.map (·.2)) vs1 pf it c pf1 it1 c1 f))) :=
  L2PS.imp (ps_setLc2 (tt := liftT X.K Ω W0 c) (tt1 := liftT X.K Ω W0 c1) (te := liftE X.K Ω W0 f) hc hN hy hyl hsw hi ok hw hg ht hi1 hg1 ht1 he hs hs1) fun D σ H q => lc2_of hp hv hp1 hv1 (froz_of (set_of q))
end
/-! ### own __contains__ -/
section
variable {X : Cx} {CX : CXT} {n : Nat} {C g : Addr} {fd : FuncData} {ps : List Str} {sp : Sp} {E : XK}
def rOwnIn (neg : Bool) (C : Addr) (sp : Sp) (E : XK) : R2 := fun x y H Q => ∃ a dx fs, y = .ref a ∧ H a = some (.ins C dx fs) ∧ sp [.ref a, x] H (fun z H' => ∃ k, z = .bl k ∧ Q (.bl (if neg then !k else k)) H') E
theorem own_in (neg : Bool) (c : Cls X.K C) (hs : PySem.W.findIn X.K (.ref C) "__contains__" = some (some (.ref g))) (hf : PySem.W.isFn X.K (.ref g) = true) (F : FnOk X.prog X.w X.K X.mg X.base CX n g fd ps sp) (hb : Binds X.K fd ps []) (hr : Room n X.A) (hx : Passes CX X E) :
    OpR X (compareOp (if neg then .NotIn else .In)) (rOwnIn neg C sp E) := by
  intro pins s σ H x y v u Q I rx ry h
  obtain ⟨a, dx, fs, rfl, ha, q⟩ := h
  obtain rfl : u = Value.ref a := ry
  obtain ⟨mA, O, _, _, _, _⟩ := ins_get I.hok ha
  obtain ⟨od, J, _⟩ := O.look
  obtain ⟨m, hF⟩ := I.fr
  have run : wpAny (model X.prog X.w) X.A (call (.ref g) [.ref a, v]) (EP X pins σ fun z H' => ∃ k, z = .bl k ∧ Q (.bl (if neg then !k else k)) H') X.xe s := run_fn (vs := [V.ref a, x]) (dvs := []) (ds := []) F hr hb .nil hx I (.cons rfl (.cons rx .nil)) q
  cases neg with
  | true =>
    refine PySem.W.notIn_K hF I.ok.mod.kin J hs hf (wpAny_mono run (fun w s' z => ?_) fun _ _ z => z)
    obtain ⟨z', H', I', rz, k, ek, qz⟩ := z
    subst ek
    cases rz
    exact wpAny_truthy_bool ⟨.bl (!k), H', I', rfl, qz⟩
  | false =>
    refine PySem.W.in_K hF I.ok.mod.kin J hs hf (wpAny_mono run (fun w s' z => ?_) fun _ _ z => z)
    obtain ⟨z', H', I', rz, k, ek, qz⟩ := z
    subst ek
    cases rz
    exact wpAny_truthy_bool ⟨.bl k, H', I', rfl, qz⟩
end
def eOwnIn (neg : Bool) (c : Nat) (F : FF) (f g : EF) : EF := fun σ M => (f σ M).bind fun t M1 => (g σ M1).bind fun u M2 => match objF c M2 u with
  | some _ => (F [u, t] M2).bind fun z M3 => match z with
    | .bl k => .ok (.bl (if neg then !k else k)) M3
    | _ => .err
  | none => .err
section
variable {X : Cx} {Ω : Om} {a b : Expr} {f g : EF} {pos : Pos} {c k : Nat} {F : FF}
theorem ownIn_of {E : XK} (neg : Bool) {σ : L2.St} {H : Hp} {Q : VK} (q : liftE X.K Ω (fun c d _ H' => E c d H') (eOwnIn neg c F f g) σ H Q) : tOp (rOwnIn neg (Ω.cls c) (spF X.K Ω 2 F) E) (liftE X.K Ω (fun c d _ H' => E c d H') f) (liftE X.K Ω (fun c d _ H' => E c d H') g) σ H Q := by
  obtain ⟨Z, ι, M, σT, m, rv, p⟩ := q
  refine ⟨Z, ι, M, σT, m, rv, Post.bind p fun ι1 M1 H1 t v m1 e1 q1 p1 => ⟨Z, ι1, M1, σT, m1, rv.ext e1.any, Post.bind p1 fun ι2 M2 H2 u w m2 e2 q2 p2 => ?_⟩⟩
  cases z : objF c M2 u with
  | none => rw [z] at p2; exact p2.elim
  | some fs =>
    rw [z] at p2
    obtain ⟨a, dx, ws, rfl, ha, _, _⟩ := objF_ok m2 q2 z
    refine ⟨a, dx, ws, rfl, ha, Z, ι2, M2, [u, t], m2, .cons q2 (.cons (q1.ext e2.any) .nil), rfl, ?_⟩
    refine Post.bind p2 fun ι3 M3 H3 y x m3 e3 q3 p3 => ?_
    cases y with
    | bl k =>
      cases q3
      exact ⟨k, rfl, p3 ι3 H3 _ m3 Ext.refl (.bl _)⟩
    | _ => exact p3.elim
theorem me_ownIn {E : XK} (neg : Bool) (G : MeG X.prog X.w X.K X.mg X.base Ω c "__contains__" k 2 [] F) (hr : Room k X.A) (tk : Takes X (fun c d _ H' => E c d H')) (ha : ME X Ω (fun c d _ H' => E c d H') a f) (hb : ME X Ω (fun c d _ H' => E c d H') b g) (hm : behindInMarks (if neg then .NotIn else .In) b = false) :
    ME X Ω (fun c d _ H' => E c d H') (.Compare a [if neg then .NotIn else .In] [b] pos) (eOwnIn neg c F f g) := by
  obtain ⟨f', fd, ps, hc, hM, hn, hl, ok, bd⟩ := G.ex
  exact L2PE.imp (pe_cmpR (own_in neg hc hM.1 hM.2 ok (bnd0 bd) hr (passes_call tk fun _ _ _ _ h => h)) ha hb hm) fun σ H Q q => ownIn_of neg q
theorem mt_ownIn {E : XK} (neg : Bool) (G : MeG X.prog X.w X.K X.mg X.base Ω c "__contains__" k 2 [] F) (hr : Room k X.A) (tk : Takes X (fun c d _ H' => E c d H')) (ha : ME X Ω (fun c d _ H' => E c d H') a f) (hb : ME X Ω (fun c d _ H' => E c d H') b g) (hm : behindInMarks (if neg then .NotIn else .In) b = false) :
    MT X Ω (fun c d _ H' => E c d H') (.Compare a [if neg then .NotIn else .In] [b] pos) (tVal (eOwnIn neg c F f g)) := by
  obtain ⟨f', fd, ps, hc, hM, hn, hl, ok, bd⟩ := G.ex
  exact L2PT.imp (pt_cmpR (own_in neg hc hM.1 hM.2 ok (bnd0 bd) hr (passes_call tk fun _ _ _ _ h => h)) ha hb hm) fun σ H Q q => ownIn_of neg (tB_of q)
end
/-! ### t[::-1] -/
section
variable {prog : Program} {w : World} {A : Around} {E : Value → Shared → Prop} {s : Shared}
theorem sliceRev {sl : Addr} {vl vu : Value} {t : Tok} {n : Nat} {Q : Int × Int × Nat → Shared → Prop} (hs : s.heap.IsSliceOf sl vl vu (.int (-1) t)) (pl : IsPart vl none) (pu : IsPart vu none)
    (h : Q ((n : Int) - 1, -1, n) s) : wpAny (model prog w) A (Builtin.Slice.sliceApplied (.ref sl) (pure (n : Int))) Q E s := by
  obtain ⟨os, hos, hcs, hds⟩ := id hs
  unfold Builtin.Slice.sliceApplied Builtin.Slice.sliceFields
  refine wpAny_bind (wpAny_bind (wpAny_field hos hds (x := vl) rfl (wpAny_bind (wpAny_field hos hds (x := vu) rfl (wpAny_bind (wpAny_field hos hds (x := .int (-1) t) rfl (wpAny_pure ?_)))))))
  refine wpAny_bind (HT.slicePart_ (.int (-1) t) ?_)
  show wpAny _ _ (if ((-1 : Int) == 0) = true then _ else _) _ _ s
  rw [if_neg (by decide)]
  refine wpAny_bind (HT.slicePart_ pl (wpAny_bind (HT.slicePart_ pu (wpAny_bind (wpAny_pure ?_)))))
  show wpAny _ _ (pure ((n : Int) - 1, (-1 : Int), Builtin.Slice.slicePlaces ((n : Int) - 1) (-1) (-1))) _ _ s
  have e : Builtin.Slice.slicePlaces ((n : Int) - 1) (-1) (-1) = n := by
    unfold Builtin.Slice.slicePlaces
    have h1 : ¬ ((-1 : Int) > 0) := by decide
    simp only [h1, if_false]
    split
    · rw [show (- -1 : Int) = 1 by decide, Int.ediv_one]
      omega
    · omega
  rw [e]
  exact wpAny_pure h
theorem fm_some {α β : Type} {f : α → Option β} {g : α → β} : ∀ {l : List α}, (∀ m ∈ l, f m = some (g m)) → l.filterMap f = l.map g
  | [], _ => rfl
  | a :: l, h => by
    rw [List.filterMap_cons, h a (by simp), List.map_cons, fm_some fun m hm => h m (List.mem_cons_of_mem _ hm)]
theorem pickRev (xs : List Value) : ((List.range xs.length).filterMap fun (m : Nat) => xs.toArray[(((xs.length : Nat) : Int) - 1 + (m : Int) * (-1)).toNat]?) = xs.reverse := by
  apply List.ext_getElem?
  intro j
  have hf : ∀ m ∈ List.range xs.length, (fun (m : Nat) => xs.toArray[(((xs.length : Nat) : Int) - 1 + (m : Int) * (-1)).toNat]?) m = some (xs.reverse.getD m .none) := fun m hm => by
    have hm := List.mem_range.mp hm
    show xs.toArray[(((xs.length : Nat) : Int) - 1 + (m : Int) * (-1)).toNat]? = _
    rw [show (((xs.length : Nat) : Int) - 1 + (m : Int) * (-1)).toNat = xs.length - 1 - m by omega, List.getElem?_toArray, List.getD_eq_getElem?_getD, List.getElem?_reverse hm, List.getElem?_eq_getElem (by omega)]
    rfl
  have e : (List.range xs.length).filterMap (fun (m : Nat) => xs.toArray[(((xs.length : Nat) : Int) - 1 + (m : Int) * (-1)).toNat]?) = (List.range xs.length).map fun m => xs.reverse.getD m .none := by
    exact fm_some hf
  rw [e, List.getElem?_map]
  by_cases hj : j < xs.length
  · rw [List.getElem?_range hj]
    show some (xs.reverse.getD j .none) = _
    rw [List.getD_eq_getElem?_getD, List.getElem?_eq_getElem (by simpa using hj)]
    rfl
  · rw [List.getElem?_eq_none (by simpa using hj), List.getElem?_eq_none (by simpa using hj)]
    rfl
theorem getItem_rev {t sl : Addr} {items : List Value} {vl vu : Value} {tk : Tok} {Q : Value → Shared → Prop} (ht : IsTup s.heap t items.toArray) (hs : s.heap.IsSliceOf sl vl vu (.int (-1) tk)) (pl : IsPart vl none) (pu : IsPart vu none)
    (h : Q (.ref s.heap.objs.size) { s with heap := s.heap.push { cls := .type "tuple", data := .seq items.reverse.toArray } }) (hsz : items.length ≤ sizeLine) : wpAny (model prog w) A (getItem (.ref t) (.ref sl)) Q E s := by
  obtain ⟨os, hos, hcs, hds⟩ := id hs
  have hTs : s.TypeIs (.ref sl) "slice" := ⟨os, hos, hcs⟩
  have hok : sizeOk (.seq items.reverse.toArray) := by
    show items.reverse.toArray.size ≤ sizeLine
    rw [List.size_toArray, List.length_reverse]
    exact hsz
  unfold getItem
  try with_reducible refine wpAny_holding ?_
  first | refine wpAny_bind (wpAny_pure ?_) | skip
  refine wpAny_bind (wpAny_sequenceKey ht.typeIs (by decide) ?_)
  refine wpAny_bind (wpAny_callSpecial?_slot (name := Str.ofString "__getitem__") ht.typeIs PyProof.Rows.slot_tuple_getitem
    (wpAny_call_entry PyProof.Rows.slot_tuple_getitem ht.typeIs entry_tuple_getitem ?_ (args_tuple_getitem _ _)))
  show wpAny _ _ (Builtin.Tuple.tupleItemsOf (.ref t) >>= _) _ _ s
  refine wpAny_bind (tupleItemsOf_ ht ?_)
  refine wpAny_bind (wpAny_typeOf hTs ?_)
  rw [if_pos (by decide)]
  refine wpAny_bind (sliceRev (n := items.toArray.size) hs pl pu ?_)
  have hno : ¬ ((((items.toArray.size : Nat) : Int) - 1 == 0 && (-1 : Int) == 1 && items.toArray.size == items.toArray.size) = true) := by
    intro q
    rw [Bool.and_eq_true, Bool.and_eq_true] at q
    exact absurd q.1.2 (by decide)
  show wpAny _ _ (if (((items.toArray.size : Nat) : Int) - 1 == 0 && (-1 : Int) == 1 && items.toArray.size == items.toArray.size) = true then _ else _) _ _ s
  have ep := pickRev items
  rw [if_neg hno, List.size_toArray, ep]
  first
    | exact wpAny_bind (m := Builtin.Tuple.tupleExact _) (wpAny_newObj_type (wpAny_pure ⟨_, rfl, wpAny_pure h⟩) hok)
    | exact wpAny_bind (m := Builtin.Tuple.tupleExact _) (wpAny_newObj_type (wpAny_bind (wpAny_pure (wpAny_pure ⟨_, rfl, wpAny_pure h⟩))) hok)
    | exact wpAny_bind (wpAny_bind (m := Builtin.Tuple.tupleExact _) (wpAny_newObj_type (wpAny_pure (wpAny_pure ⟨_, rfl, wpAny_pure h⟩)) hok))
    | exact wpAny_bind (wpAny_bind (m := Builtin.Tuple.tupleExact _) (wpAny_newObj_type (wpAny_pure ⟨_, rfl, wpAny_pure h⟩) hok))
end
end Mi
namespace Mi
open PySem PySem.Spec PyProof.Rows L2
section
variable {X : Cx} {Ω : Om} {W : WX} {e : Expr} {te : TE} {f : EF} {k : Nat} {p1 p2 p3 pos : Pos}
theorem pe_revT (he : PE X e te) : PE X (.Subscript e (.Slice none none (some (.UnaryOp .USub (.Constant (.int 1) k p1) p2)) p3) pos) (fun σ H Q => te σ H fun x H1 => ∃ a xs, x = .ref a ∧ SqT X.K H1 a xs ∧ ∀ p, H1 p = none → Q (.ref p) (upd H1 p (.tup xs.reverse))) := by
  refine ⟨fun pins s σ H Q I h => Subscript_ (thn (he.run pins s σ H _ I h) fun v s1 ⟨x, H1, I1, r1, a, xs, ex, hx, q⟩ => ?_)⟩
  subst ex
  obtain rfl : v = Value.ref a := r1
  have hst : PO X (some (.UnaryOp .USub (.Constant (.int 1) k p1) p2)) (tPart (tUn (rU fun i => .int (-i)) (tC (.int 1)))) := po_some (pe_un un_neg pe_int)
  refine wpAny_Slice (thn (po_none.run pins s1 σ H1 (fun o H2 => o = none ∧ H2 = H1) I1 ⟨rfl, rfl⟩) fun vl s2 ⟨l, H2, I2, pl, el, e2⟩ => ?_)
  subst el e2
  refine thn (po_none.run pins s2 σ H2 (fun o H3 => o = none ∧ H3 = H2) I2 ⟨rfl, rfl⟩) fun vu s3 ⟨u, H3, I3, pu, eu, e3⟩ => ?_
  subst eu e3
  refine thn (hst.run pins s3 σ H3 (fun o H4 => o = some (-1) ∧ H4 = H3) I3 ⟨1, rfl, -1, rfl, rfl, rfl⟩) fun vs s4 ⟨o, H4, I4, ps, eo, e4⟩ => ?_
  subst eo e4
  have I5 : L2.Inv X pins σ H4 { s4 with heap := s4.heap.push { cls := .type "slice", data := .fields #[vl, vu, vs] } } := I4.kept (t' := s4.toks) fun b ob q => Heap.get?_push_of_some _ q
  obtain ⟨its, r, ht, hz⟩ := I5.tuple hx
  have hlen := r.length
  cases ps with
  | int j t =>
    show wpAny (model X.prog X.w) X.A (subscriptTail e (.Slice none none (some (.UnaryOp .USub (.Constant (.int 1) k p1) p2)) p3) (.ref a) (.ref s4.heap.objs.size)) (EP X pins σ Q) X.xe { s4 with heap := s4.heap.push { cls := .type "slice", data := .fields #[vl, vu, .int (-1) t] } }
    refine tail_any (ops := [.ref a, .ref s4.heap.objs.size]) ht.typeIs (PyProof.Rows.slot_tuple_getitem.lookup) ?_ (by with_unfolding_all rfl)
    refine getItem_rev ht (Heap.IsSliceOf.new _ vl vu (.int (-1) t)) pl pu ?_ (by omega)
    refine ⟨.ref _, _, I5.laid (t' := s4.toks) (o := .tup xs.reverse) (fun b ob q => Heap.get?_push_of_some _ q) (Nat.le_refl _) ?_, rfl, q _ (I5.hok.fresh (Nat.le_refl _))⟩
    exact ⟨by rw [List.length_reverse]; exact hz, its.reverse, r.reverse, ⟨_, Heap.get?_push_size _ rfl, rfl, _, rfl⟩⟩
def eRevT (f : EF) : EF := fun σ M => (f σ M).bind fun t M1 => match tupT t with
  | some xs => .ok (.tup xs.reverse) M1
  | none => .err
theorem Rs.reverse {K : PySem.W.Frag} {Z ι : List Addr} {M : Mem} {H : Hp} : ∀ {ts : List T} {vs : List V}, Rs K Ω Z ι M H ts vs → Rs K Ω Z ι M H ts.reverse vs.reverse
  | _, _, .nil => .nil
  | _, _, .cons r t => by
    rw [List.reverse_cons, List.reverse_cons]
    exact (Rs.reverse t).append (.cons r .nil)
theorem me_revT (he : ME X Ω W e f) : ME X Ω W (.Subscript e (.Slice none none (some (.UnaryOp .USub (.Constant (.int 1) k p1) p2)) p3) pos) (eRevT f) := L2PE.imp (pe_revT he) fun σ H Q ⟨Z, ι, M, σT, m, rv, p⟩ =>
  ⟨Z, ι, M, σT, m, rv, Post.bind p fun ι1 M1 H1 t v m1 e1 q1 p1 => by
    cases z : tupT t with
    | none => rw [z] at p1; exact p1.elim
    | some xs =>
      rw [z] at p1
      obtain ⟨a, vs, rfl, hs, rs⟩ := tupT_ok q1 z
      exact ⟨a, vs, rfl, hs, fun p hp => p1 ι1 _ _ (m1.lay hp) (Ext.new hp) (.tup upd_same (rs.reverse.ext (Ext.new hp)))⟩⟩
end
end Mi
namespace Mi
open PySem PySem.Spec PyProof.Rows L2
section
variable {prog : Program} {w : World} {A : Around} {E : Value → Shared → Prop} {s : Shared} {K : Type} [DecidableEq K] {knd : KeyKind prog w K} {kvs : List (K × Value)} {ep : Nat} {r d : Addr}
theorem code_tup_items {Q₁ : Value → Shared → Prop} (hh : A.handled = none) (hv : s.heap.IsItemsView r d) (hm : s.heap.DictAt knd d kvs ep) (hn : kvs.length ≤ sizeLine)
    (h : ∀ (h' : Heap) (tk : Nat) (as : List Addr), (∀ b o, s.heap.get? b = some o → h'.get? b = some o) → as.length = kvs.length → PySem.W.KdxG knd kvs s.heap.objs.size h' as →
      Q₁ (.ref h'.objs.size) { s with heap := h'.push { cls := .type "tuple", data := .seq (as.map Value.ref).toArray }, toks := tk }) :
    codeAny (model prog w) A (.call (.builtin "tuple.__new__") ⟨[.type "tuple", .ref r], []⟩) (wants Q₁ E) s := by
  refine codeAny_of_tree ?_
  show wpAny _ A.in1 (do checkBuiltinCall "tuple.__new__" ⟨[.type "tuple", .ref r], []⟩; again (.builtin "tuple.__new__" ⟨[.type "tuple", .ref r], []⟩)) _ _ s
  refine wpAny_bind (wpAny_of_eq (F.newCall_tuple_1 _) (wpAny_pure ⟨plainId_quiet F.plain_tuple_new _, codeAny_builtin F.entry_tuple_new ?_⟩))
  rw [Around.under_plainId F.plain_tuple_new _]
  have hsub := sub_tuple_self
  have hinit := init_tuple_lookup
  have hmh := madeHere_tuple
  have hTI : s.TypeIs (.ref r) "dict_items" := let ⟨o, ho, hc, _⟩ := hv; ⟨o, ho, hc⟩
  have hh1 : A.in1.handled = none := hh
  wp_walk using wpAny_typeOf hTI, PySem.W.kdx_collect (A := A.in1) hh1 hv hm hn
  intro h' tk as hk hl hG
  show wpAny _ _ (Builtin.Tuple.tupleExact (as.map Value.ref).toArray >>= fun v => ret v) _ _ _
  unfold Builtin.Tuple.tupleExact
  refine wpAny_bind (wpAny_newObj_type ?_ (by show (as.map Value.ref).toArray.size ≤ sizeLine; rw [List.size_toArray, List.length_map]; omega))
  exact wpAny_pure (h h' tk as hk hl hG)
theorem call_tup_items {Q : Value → Shared → Prop} (hh : A.handled = none) (hv : s.heap.IsItemsView r d) (hm : s.heap.DictAt knd d kvs ep) (hn : kvs.length ≤ sizeLine)
    (hQ : ∀ (h' : Heap) (tk : Nat) (as : List Addr), (∀ b o, s.heap.get? b = some o → h'.get? b = some o) → as.length = kvs.length → PySem.W.KdxG knd kvs s.heap.objs.size h' as →
      Q (.ref h'.objs.size) { s with heap := h'.push { cls := .type "tuple", data := .seq (as.map Value.ref).toArray }, toks := tk }) :
    wpAny (model prog w) A (call (.type "tuple") [.ref r]) Q E s := by
  refine callType_codes (Q₁ := fun obj s₁ => s₁.TypeIs obj "tuple" ∧ Q obj s₁) F.called_tuple (F.typeCall_tuple_1 _) F.entry_object_init
    (code_tup_items (A := A.in1) hh hv hm hn fun h' tk as hk hl hG => ⟨⟨_, Heap.get?_push_size _ rfl, rfl⟩, hQ h' tk as hk hl hG⟩) fun obj s₁ h₁ => ?_
  exact ⟨h₁.1, F.args_object_init_2 obj _, object_init_meets F.called_tuple.init.lookup F.called_tuple.made (by decide) prog w A.in1 _ s₁ ⟨h₁.1, rfl, h₁.2⟩⟩
end
section
variable {X : Cx} {e : Expr} {te : TE} {p apos cpos pos : Pos}
/-- the pairs as new tuples -/
theorem pairs_laid {pins : List (Addr × Obj)} {σ : L2.St} {H : Hp} {s : Shared} {h' : Heap} {tk : Nat} {kvs : List (Key × V)} {vs : List (Key × Value)} {lo : Nat} {as : List Addr} (I : L2.Inv X pins σ H s) (hlo : s.heap.objs.size ≤ lo) (kv : KV kvs vs)
    (hk : ∀ b o, s.heap.get? b = some o → h'.get? b = some o) (hl : as.length = vs.length) (hG : PySem.W.KdxG (mixKind X.prog X.w) vs lo h' as) :
    ∃ H' : Hp, (∀ b o, H b = some o → H' b = some o) ∧ (∀ t ∈ as, H t = none) ∧ Paired (fun (t : Addr) (q : Key × V) => H' t = some (.tup [kV q.1, q.2])) as kvs ∧ L2.Inv X pins σ H' { s with heap := h', toks := tk } := by
  have lk : kvs.length = vs.length := Paired.length kv
  have nd : as.Nodup := List.Pairwise.imp (fun {a b} (h : a < b) => Nat.ne_of_lt h) hG.rise
  have new : ∀ t ∈ as, H t = none := fun t ht => I.hok.fresh (Nat.le_trans hlo (Nat.le_of_lt (hG.above t ht)))
  have atP := LiI.putT_at as kvs H (by omega) nd
  have off : ∀ b, b ∉ as → LiI.putT H as kvs b = H b := fun b h1 => LiI.putT_off as kvs _ h1
  have low : ∀ b o, s.heap.get? b = some o → b ∉ as := fun b o e z => absurd (Heap.lt_size e) (Nat.not_lt.mpr (Nat.le_trans hlo (Nat.le_of_lt (hG.above b z))))
  have kp : ∀ b u, H b = some u → (LiI.putT H as kvs) b = some u := fun b u e => by
    rw [off b (fun z => by rw [new b z] at e; cases e)]
    exact e
  refine ⟨LiI.putT H as kvs, kp, new, atP, ?_⟩
  refine I.call' (ch := []) rfl ⟨fun b o q _ _ _ => hk b o q, fun b o q _ _ _ => ⟨o.slots, hk b o q⟩, fun b o q n _ => by rw [off b (low b o q)]; exact n, fun b o q _ => ⟨o, hk b o q⟩, fun b xs q => kp b _ q, fun b o u q => kp b _ q, fun b ps q => ⟨#[], by rw [kp b _ q]; simp⟩⟩ (fun b u q => ?_) I.bare fun b z => by simp at z
  by_cases hb : b ∈ as
  · obtain ⟨j, pk, e1, e2, e3⟩ := LiI.paired_ix atP hb
    rw [e3] at q
    cases q
    obtain ⟨key, k, x, f1, f2, f3⟩ := hG.pairs j b e1
    obtain ⟨qv, g1, g2, g3⟩ := LiI.paired_get kv e2
    rw [f1] at g1
    cases g1
    have rk : RelV (kV pk.1) key := by
      rw [g2]
      exact relV_key (show keyIs k key = true from f2)
    exact ⟨by show 2 ≤ sizeLine; decide, [key, x], .cons rk (.cons g3 .nil), ⟨_, f3, rfl, _, rfl⟩⟩
  · rw [off b hb] at q
    exact (I.hok b u q).stay (fun d v _ y => hk d v y) (fun d y => kp d _ y) fun d xs y => kp d _ y
def rItemsT (x : V) (H : Hp) (Q : VK) : Prop := ∃ (d : Addr) (kvs : List (Key × V)), x = .ref d ∧ Rd H d (.dK kvs) ∧
  ∀ (H' : Hp) (ts : List Addr) (p : Addr), (∀ b o, H b = some o → H' b = some o) → (∀ t ∈ ts, H t = none) → Paired (fun (t : Addr) (q : Key × V) => H' t = some (.tup [kV q.1, q.2])) ts kvs → H p = none → H' p = none → Q (.ref p) (upd H' p (.tup (ts.map V.ref)))
theorem pe_tupItems (hc : X.calm = true) (he : PE X e te) (hg : Gl X "tuple") (hm : X.mg "tuple" = none) (hbase : attributeBase e "items" X.env (eval e X.env) = eval e X.env := by rfl) (hline : (apos.endLine == cpos.line) = true := by rfl)
    (hs : starEach [.Call (.Attribute e "items" apos) [] [] cpos] X.env = (false, eval (.Call (.Attribute e "items" apos) [] [] cpos) X.env) :: starEach [] X.env := by rfl) :
    PE X (.Call (.Name "tuple" p) [.Call (.Attribute e "items" apos) [] [] cpos] [] pos) (fun σ H Q => te σ H fun x H1 => rItemsT x H1 Q) := by
  refine ⟨fun pins s σ H Q I hq => ?_⟩
  refine wpAny_Call_Name_kw (ld_blt I hg hm boot_tuple ?_)
  refine PyProof.Rows.callWith_type1 ?_ hs rfl
  rw [hs]
  show wpAny _ _ (spliced ((false, eval (.Call (.Attribute e "items" apos) [] [] cpos) X.env) :: backTo pos (starEach [] X.env))) _ _ s
  refine Calls.spliced_cons ?_
  refine wpAny_Call_method (T := "dict") (id := "dict.items") hbase rfl hline F.plainAttrs_dict F.slot_dict_items F.type_dict_items (thn (he.run pins s σ H _ I hq) fun u s1 ⟨x, H1, I1, rx, d, kvs, ex, hd, q⟩ => ?_)
  subst ex
  obtain rfl : u = Value.ref d := rx
  obtain ⟨hz, hs0, vs, kv, hdo⟩ := hd.ok I1.hok
  obtain ⟨ep, hat⟩ := hdo.dictAt
  have lk : kvs.length = vs.length := Paired.length kv
  have I2 : L2.Inv X pins σ H1 { s1 with heap := s1.heap.push { cls := .type "dict_items", data := .fields #[.ref d] } } := I1.kept (t' := s1.toks) fun b ob q => Heap.get?_push_of_some _ q
  refine ⟨hdo.typeIs, hdo.mapOf.noDict, ?_⟩
  show wpAny _ _ (callWith cpos (.builtin "dict.items") [.ref d] [] []) _ X.xe s1
  refine method_meetsIn F.slot_dict_items F.entry_dict_items rfl (PySem.evalArgs_none ⟨rfl, hdo.typeIs, F.args_dict_items_1 _, _, meets_dict_items (mixKind X.prog X.w) d hs0, ⟨vs, hdo⟩, ?_⟩)
  refine Calls.spliced_nil ?_
  refine call_tup_items (knd := mixKind X.prog X.w) (kvs := vs) (ep := ep) (I1.ok.hd hc) ⟨_, Heap.get?_push_size _ rfl, rfl, rfl⟩ (hat.push _) (by omega) fun h' tk as hk hl hG => ?_
  obtain ⟨H', k1, k3, k6, J⟩ := pairs_laid (tk := tk) I2 (Nat.le_refl _) kv hk hl hG
  have hp1 : H1 h'.objs.size = none := by
    cases z : H1 h'.objs.size with
    | none => rfl
    | some o =>
      have := J.hok.lt (k1 _ _ z)
      exact absurd this (Nat.lt_irrefl _)
  have hz2 : (as.map V.ref).length ≤ sizeLine := by rw [List.length_map]; omega
  refine ⟨.ref h'.objs.size, upd H' h'.objs.size (.tup (as.map V.ref)), J.laid (t' := tk) (fun b ob q => Heap.get?_push_of_some _ q) (Nat.le_refl _) ⟨hz2, as.map Value.ref, LiI.vals_refs as, ⟨_, Heap.get?_push_size _ rfl, rfl, _, rfl⟩⟩, rfl, q H' as _ k1 k3 k6 hp1 (J.hok.fresh (Nat.le_refl _))⟩
end
def keyFit : T → Bool
  | .int _ => true
  | .str x => decide (x.length ≤ 2000000)
  | _ => false
def eTupItems (fo : EF) : EF := fun σ M => (fo σ M).bind fun t M1 => match dctT M1 t with
  | some (false, kvs) => bif kvs.all (fun kv => keyFit kv.1) then .ok (.tup (kvs.map fun kv => .tup [kv.1, kv.2])) M1 else .err
  | _ => .err
section
variable {X : Cx} {Ω : Om} {W : WX} {e : Expr} {fo : EF} {p apos cpos pos : Pos}
theorem rs_pairs {K : PySem.W.Frag} {Z ι : List Addr} {M : Mem} {H : Hp} : ∀ {kvs : List (T × T)} {ws : List (Key × V)} {ts : List Addr}, kvs.all (fun kv => keyFit kv.1) = true → RKs Ω (kvs.map (·.1)) (ws.map (·.1)) → Rs K Ω Z ι M H (kvs.map (·.2)) (ws.map (·.2)) →
    Paired (fun (t : Addr) (q : Key × V) => H t = some (.tup [kV q.1, q.2])) ts ws → Rs K Ω Z ι M H (kvs.map fun kv => .tup [kv.1, kv.2]) (ts.map V.ref)
  | [], [], _, _, _, _, .nil => .nil
  | [], _ :: _, _, _, h, _, _ => by cases h
  | _ :: _, [], _, _, h, _, _ => by cases h
  | kv :: kvs, w :: ws, _, hf, hk, hv, .cons ht pr => by
    rw [List.all_cons, Bool.and_eq_true] at hf
    rw [List.map_cons, List.map_cons] at hk hv
    cases hk with
    | cons hk1 hk2 =>
      cases hv with
      | cons hv1 hv2 =>
        refine .cons (.tup ht (.cons ?_ (.cons hv1 .nil))) (rs_pairs hf.2 hk2 hv2 pr)
        have h1 := hf.1
        generalize kv.1 = t at hk1 h1
        generalize w.1 = k at hk1
        cases hk1 with
        | int i => exact .int i
        | str x s hs => exact .str x s hs (of_decide_eq_true h1)
theorem me_tupItems (hc : X.calm = true) (he : ME X Ω W e fo) (hg : Gl X "tuple") (hm : X.mg "tuple" = none) (hbase : attributeBase e "items" X.env (eval e X.env) = eval e X.env := by rfl) (hline : (apos.endLine == cpos.line) = true := by rfl)
    (hs : starEach [.Call (.Attribute e "items" apos) [] [] cpos] X.env = (false, eval (.Call (.Attribute e "items" apos) [] [] cpos) X.env) :: starEach [] X.env := by rfl) :
    ME X Ω W (.Call (.Name "tuple" p) [.Call (.Attribute e "items" apos) [] [] cpos] [] pos) (eTupItems fo) := L2PE.imp (pe_tupItems hc he hg hm hbase hline hs) fun σ H Q ⟨Z, ι, M, σT, m, rv, q⟩ => ⟨Z, ι, M, σT, m, rv, Post.bind q fun ι1 M1 H1 t v m1 e1 q1 p1 => by
    cases y : dctT M1 t with
    | none => rw [y] at p1; exact p1.elim
    | some w =>
      obtain ⟨tk, kvs⟩ := w
      rw [y] at p1
      cases tk with
      | true => exact p1.elim
      | false =>
        have p1 : Post X.K Ω (R X.K Ω) (fun c d H' => W c d σ H') Z ι1 M1 H1 Q (bif kvs.all (fun kv => keyFit kv.1) then .ok (.tup (kvs.map fun kv => .tup [kv.1, kv.2])) M1 else .err) := p1
        cases z : kvs.all (fun kv => keyFit kv.1) with
        | false => rw [z] at p1; exact p1.elim
        | true =>
          rw [z] at p1
          obtain ⟨a, rfl, d⟩ := dctT_ok m1 q1 y
          obtain ⟨ws, hd, hk, hv⟩ := d
          refine ⟨a, ws, rfl, hd, fun H' ts p k1 k2 k3 hp1 hp2 => ?_⟩
          have e2 : ∀ Z', Ext Z' ι1 M1 H1 ι1 M1 H' := fun Z' => ⟨⟨[], by simp⟩, fun b o h n => ⟨k1 b o h, n.1⟩, fun b vs h => k1 b _ h, fun b o u h => k1 b _ h, fun b h => by
            cases hb : H1 b with
            | none => exact absurd hb h
            | some o => rw [k1 b o hb]; exact nofun⟩
          have m2 : RM X.K Ω Z ι1 M1 H' := ⟨m1.len, m1.nd, fun n b o hn ho => (m1.mem n b o hn ho).ext (e2 Z) (fun b o h _ => ⟨o, k1 b o h⟩) ⟨n, hn⟩ (fun _ => by
            cases hb : H1 b with
            | none => exact absurd hb (m1.mem n b o hn ho).there
            | some u => exact k1 b u hb), fun z hz => ⟨(e2 Z).there z (m1.zin z hz).1, (m1.zin z hz).2⟩⟩
          have rs : Rs X.K Ω Z ι1 M1 H' (kvs.map fun kv => .tup [kv.1, kv.2]) (ts.map V.ref) := rs_pairs z hk (hv.ext (e2 Z)) k3
          exact p1 ι1 _ _ (m2.lay hp2) ((e2 []).trans (Ext.new hp2)) (.tup upd_same (rs.ext (Ext.new hp2)))⟩
end
end Mi
namespace Mi
open PySem PySem.Spec PyProof.Rows L2
def lPlus (f g : EF) : AF := fun σ M => (f σ M).bind fun t M1 => (g σ M1).bind fun u M2 => match lstT M2 t, lstT M2 u with
  | some xs, some ys => bif big (xs ++ ys).length then .ok (xs ++ ys) M2 else .err
  | _, _ => .err
section
variable {X : Cx} {Ω : Om} {W : WX} {a b : Expr} {f g : EF} {pos : Pos}
theorem ml_plus (ha : ME X Ω W a f) (hb : ME X Ω W b g) : ML X Ω W (.BinOp a .Add b pos) (lPlus f g) := L2PE.imp (pe_op op_cat ha hb) fun σ H Q ⟨Z, ι, M, σT, m, rv, q⟩ => by
  refine ⟨Z, ι, M, σT, m, rv, ?_⟩
  unfold lPlus at q
  cases q1 : f σT M with
  | exc c t M1 => rw [q1] at q; exact q
  | err => rw [q1] at q; exact q
  | ok t M1 =>
    rw [q1] at q
    simp only [Res.bind] at q
    intro ι1 H1 v m1 e1 r1
    refine ⟨Z, ι1, M1, σT, m1, rv.ext e1.any, ?_⟩
    cases q2 : g σT M1 with
    | exc c t M2 => rw [q2] at q; exact fun ι2 H2 dd w m2 e2 r2 x2 => q ι2 H2 dd w m2 (e1.trans e2) r2 x2
    | err => rw [q2] at q; exact q
    | ok u M2 =>
      rw [q2] at q
      simp only [Res.bind] at q
      intro ι2 H2 w m2 e2 r2
      cases h1 : lstT M2 t with
      | none => simp only [h1] at q
      | some xs =>
        cases h2 : lstT M2 u with
        | none => simp only [h1, h2] at q
        | some ys =>
          simp only [h1, h2] at q
          cases zb : big (xs ++ ys).length with
          | false => rw [zb] at q; exact q.elim
          | true =>
            rw [zb] at q
            obtain ⟨p, vs, rfl, hp, rp⟩ := lstT_at m2 (r1.ext (Z := Z) e2.any) h1
            obtain ⟨p', ws, rfl, hp', rp'⟩ := lstT_at m2 r2 h2
            refine ⟨p, p', vs, ws, rfl, rfl, hp, hp', ?_, fun d hd => laid_of (σ := σ) m2 (e1.trans e2) q hd (rp.append rp')⟩
            have := big_ok zb
            rw [List.length_append, rp.length, rp'.length] at this
            exact this
end
end Mi
namespace Mi
open PySem PySem.Spec PyProof.Rows L2
set_option maxRecDepth 100000 in
theorem extT_meets (l : Addr) (items : Array Value) (n : Nat) (b : Addr) (items2 : Array Value) (n2 : Nat) (dd : Option Addr) (sl : Array (Option Value)) (hs0 : ¬(!items.isEmpty && Builtin.List.listTooLong (items.size + items2.size)) = true) (hs1 : items.size ≤ sizeLine) (hs2 : items.size + items2.size ≤ sizeLine + 1) :
    Meets (Builtin.«list.extend» ⟨[.ref l, .ref b], []⟩) (fun _ R s => s.heap.get? l = some { cls := .type "list", dict := none, data := .seq items n, slots := #[] } ∧ s.heap.get? b = some { cls := .type "tuple", dict := dd, data := .seq items2 n2, slots := sl } ∧
      R (.ok (.ret Value.none)) { s with heap := s.heap.update l (Obj.mapSeq fun x => x ++ items2), toks := s.toks }) :=
  .of_wp fun prog w A R s ⟨hl, hb, h⟩ => by
    obtain ⟨hp, gg, dr, tk, os⟩ := s
    have k1 := AutoSeq1.idx_int
    have k2 := AutoSeq1.sub_tuple_tuple
    have k3 := AutoSeq1.sub_list_list
    have k4 := AutoSeq1.sub_tuple_list
    have k5 := AutoSeq1.sub_list_tuple
    have hsum : (items ++ items2).size ≤ sizeLine + 1 := by rw [Array.size_append]; exact hs2
    wp_walk using (wpAny_updateSeq hl rfl (hz := hs1) (_hz' := hsum)), wpAny_loadPart' hl, wpAny_loadPart' hb
    exact ⟨_, rfl, h⟩
section
variable {K : PySem.W.Frag} {Ω : Om} {X : Cx} {W : WX} {e o : Expr} {f : EF} {fa : AF} {apos cpos : Pos}
def rExtT (K : PySem.W.Frag) : V → List V → Hp → VK → Prop := fun x vs H Q => ∃ l b xs zs, x = .ref l ∧ vs = [.ref b] ∧ H l = some (.lst xs) ∧ SqT K H b zs ∧ xs.length + zs.length ≤ sizeLine ∧ Q .non (upd H l (.lst (xs ++ zs)))
theorem mt_extT : MtR X "list.extend" (rExtT X.K) := by
  intro pins s σ H x vs v us Q I rx rv h
  obtain ⟨l, b, xs, zs, rfl, rfl, hH, hB, hz, q⟩ := h
  obtain rfl : v = Value.ref l := rx
  obtain ⟨u, rfl, ru⟩ := vals1 rv
  obtain rfl : u = Value.ref b := ru
  obtain ⟨z, its, n, r, hl, e⟩ := I.lstM hH
  obtain ⟨its2, r2, ⟨⟨cls, dd, data, sl⟩, e2, hc, n2, hd⟩, hz2⟩ := I.tuple hB
  simp only at hc hd
  subst hc hd
  have l2 := r2.length
  have hsz : its.toArray.size + its2.toArray.size ≤ sizeLine := by rw [List.size_toArray, List.size_toArray]; omega
  have hlong : ¬ (!its.toArray.isEmpty && Builtin.List.listTooLong (its.toArray.size + its2.toArray.size)) = true := by
    rw [notLongL hsz, Bool.and_false]
    exact Bool.false_ne_true
  refine call_meets F.slot_list_extend ⟨_, e, rfl⟩ F.entry_list_extend (F.args_list_extend_2 _ _) (extT_meets l its.toArray n b its2.toArray n2 dd sl hlong (by rw [List.size_toArray]; omega) (by omega)) ⟨e, e2, ?_⟩
  · refine ⟨.non, _, I.lset (its' := its ++ its2) hH e (by simp) (r.append r2) ?_, rfl, q⟩
    rw [List.length_append]
    omega
def mExtT : OpM := fun M t ts => match locL M t, ts with
  | some (n, xs), [u] => (match tupT u with
    | some ys => bif big (xs.length + ys.length) then some (.non, M.set n (.lst (xs ++ ys))) else none
    | none => none)
  | _, _ => none
theorem mExtT_ok : MtS K Ω "list" (rExtT K) mExtT := fun Z ι M H t ts v vs z M' Q m r rs h k => by
  unfold mExtT at h
  split at h
  · rename_i n xs u hl
    split at h
    · rename_i ys hy
      cases zb : big (xs.length + ys.length) with
      | false => rw [zb] at h; cases h
      | true =>
        rw [zb] at h
        cases h
        obtain ⟨a, ws, rfl, rfl, hn, hm, ha, r1⟩ := locL_ok m r hl
        obtain ⟨w, rfl, ru⟩ := rs.one rfl
        obtain ⟨b, us, rfl, hb, r2⟩ := tupT_ok ru hy
        obtain ⟨m2, e2⟩ := put_list m hn hm ha (r1.append r2)
        have hz := of_decide_eq_true zb
        exact ⟨a, b, ws, us, rfl, rfl, ha, hb, by rw [← r1.length, ← r2.length, sizeLine_eq]; omega, k ι _ _ m2 (e2 []) .non⟩
    · cases h
  · cases h
/-- xs.extend(list or tuple) -/
theorem me_ext2 (ho : ME X Ω W o f) (ha : MA X Ω W [e] fa) (hbase : attributeBase o "extend" X.env (eval o X.env) = eval o X.env := by rfl)
    (hfew : ((backTo cpos (starEach [e] X.env)).all (fun x => !x.1) && (backToKw cpos (keywordEach [] X.env)).all (fun x => x.1.isSome) && decide ([e].length + ([] : List Keyword).length + (if ([] : List Keyword).isEmpty then 0 else 1) < 30)) = true := by rfl)
    (hline : (apos.endLine == cpos.line) = true := by rfl) (hs : starEach [e] X.env = (false, eval e X.env) :: starEach [] X.env := by rfl) (hplain : (backTo cpos (starEach [] X.env)).any (·.1) = false := by rfl) :
    ME X Ω W (.Call (.Attribute o "extend" apos) [e] [] cpos) (eAlt (eMt isLoc mExtend f fa) (eMt isLoc mExtT f fa)) :=
  me_alt (me_extend ho ha hbase hfew hline hs hplain) (me_mt PySem.F.plainAttrs_list PySem.F.slot_list_extend PySem.F.type_list_extend mt_extT mExtT_ok (fun _ _ _ _ _ _ m r h => isLoc_ok m r h) ho ha hbase hfew hline hs hplain)
end
end Mi
namespace K13
open PySem PySem.Spec PyProof.Rows L2 Mi
def top (i : Nat) : Stmt := PySem.Challenge.pw_stretchneeds_k13_plans_by_hand.main.body.getD i (.Pass ⟨0, 0, 0, 0⟩)
def flds : Nat → List Str := fun c => match c with | 0 => ["all_works", "all_needs", "all_dues", "all_hands", "after", "before"] | 1 => ["told_works", "told_needs", "told_dues", "told_hands", "own_stage"] | 2 => ["own_frame", "own_text"] | _ => []
theorem fl_all (c : Nat) : (flds c).length < 1000 := by unfold flds; split <;> decide
def omOf (K : PySem.W.Frag) (ρ : Rho) : Om := { ρ with cls := fun c => match c with | 0 => He.ga K "Frame" | 1 => He.ga K "Reading" | 2 => He.ga K "Book" | _ => 0, fld := flds }
theorem fu_1_0 : ∀ j < 0, (flds 1)[j]? ≠ some ("told_works" : Str) := by decide +kernel
theorem fu_1_1 : ∀ j < 1, (flds 1)[j]? ≠ some ("told_needs" : Str) := by decide +kernel
theorem fu_1_2 : ∀ j < 2, (flds 1)[j]? ≠ some ("told_dues" : Str) := by decide +kernel
theorem fu_1_3 : ∀ j < 3, (flds 1)[j]? ≠ some ("told_hands" : Str) := by decide +kernel
theorem fu_1_4 : ∀ j < 4, (flds 1)[j]? ≠ some ("own_stage" : Str) := by decide +kernel
theorem nm_Reading_reads_works : ("reads_works" : Str) ∉ flds 1 := by decide +kernel
theorem nm_Reading_reads_need : ("reads_need" : Str) ∉ flds 1 := by decide +kernel
theorem nm_Reading_reads_due : ("reads_due" : Str) ∉ flds 1 := by decide +kernel
theorem nm_Reading_reads_hands : ("reads_hands" : Str) ∉ flds 1 := by decide +kernel
theorem nm_Reading_reads : ("reads" : Str) ∉ flds 1 := by decide +kernel
theorem fu_0_0 : ∀ j < 0, (flds 0)[j]? ≠ some ("all_works" : Str) := by decide +kernel
theorem fu_0_1 : ∀ j < 1, (flds 0)[j]? ≠ some ("all_needs" : Str) := by decide +kernel
theorem fu_0_2 : ∀ j < 2, (flds 0)[j]? ≠ some ("all_dues" : Str) := by decide +kernel
theorem fu_0_3 : ∀ j < 3, (flds 0)[j]? ≠ some ("all_hands" : Str) := by decide +kernel
theorem fu_0_4 : ∀ j < 4, (flds 0)[j]? ≠ some ("after" : Str) := by decide +kernel
theorem fu_0_5 : ∀ j < 5, (flds 0)[j]? ≠ some ("before" : Str) := by decide +kernel
theorem fu_2_0 : ∀ j < 0, (flds 2)[j]? ≠ some ("own_frame" : Str) := by decide +kernel
theorem fu_2_1 : ∀ j < 1, (flds 2)[j]? ≠ some ("own_text" : Str) := by decide +kernel
theorem nm_Frame_hands_in : ("hands_in" : Str) ∉ flds 0 := by decide +kernel
theorem nm_Frame_free : ("free" : Str) ∉ flds 0 := by decide +kernel
theorem nm_Book_contains : ("__contains__" : Str) ∉ flds 2 := by decide +kernel
theorem nm_Book_check_work : ("check_work" : Str) ∉ flds 2 := by decide +kernel
theorem nm_Book_due : ("due" : Str) ∉ flds 2 := by decide +kernel
theorem nm_Book_without_due : ("without_due" : Str) ∉ flds 2 := by decide +kernel
abbrev s_ulaw_places : Stmt := (top 61)
abbrev s_ulaw_take : Stmt := (top 59)
abbrev s_ulaw_some : Stmt := (top 60)
abbrev s_Reading_init : Stmt := ((Mi.clsB (top 52)).getD 0 (.Pass ⟨0, 0, 0, 0⟩))
abbrev s_are_unlike : Stmt := (top 21)
abbrev s_is_name : Stmt := (top 19)
abbrev s_Reading_reads_works : Stmt := ((Mi.clsB (top 52)).getD 2 (.Pass ⟨0, 0, 0, 0⟩))
abbrev s_reached : Stmt := (top 37)
abbrev s_Reading_reads_need : Stmt := ((Mi.clsB (top 52)).getD 3 (.Pass ⟨0, 0, 0, 0⟩))
abbrev s_number_in : Stmt := (top 20)
abbrev s_Reading_reads_due : Stmt := ((Mi.clsB (top 52)).getD 4 (.Pass ⟨0, 0, 0, 0⟩))
abbrev s_is_integer : Stmt := (top 16)
abbrev s_are_hands : Stmt := (top 51)
abbrev s_Reading_reads_hands : Stmt := ((Mi.clsB (top 52)).getD 5 (.Pass ⟨0, 0, 0, 0⟩))
abbrev s_Reading_reads : Stmt := ((Mi.clsB (top 52)).getD 1 (.Pass ⟨0, 0, 0, 0⟩))
abbrev s_lot_of : Stmt := (top 22)
abbrev s_Frame_init : Stmt := ((Mi.clsB (top 38)).getD 0 (.Pass ⟨0, 0, 0, 0⟩))
abbrev s_read : Stmt := (top 53)
abbrev s_Book_init : Stmt := ((Mi.clsB (top 56)).getD 0 (.Pass ⟨0, 0, 0, 0⟩))
abbrev s_ulaw_made : Stmt := (top 62)
abbrev s_is_tuple : Stmt := (top 17)
abbrev s_is_word : Stmt := (top 18)
abbrev s_is_lot : Stmt := (top 23)
abbrev s_has_all : Stmt := (top 24)
abbrev s_is_plan : Stmt := (top 30)
abbrev s_check_plan : Stmt := (top 33)
abbrev s_Frame_hands_in : Stmt := ((Mi.clsB (top 38)).getD 1 (.Pass ⟨0, 0, 0, 0⟩))
abbrev s_first_wrong : Stmt := (top 31)
abbrev s_judged : Stmt := (top 34)
abbrev s_ulaw_are_judged_right : Stmt := (top 63)
abbrev s_Frame_free : Stmt := ((Mi.clsB (top 38)).getD 3 (.Pass ⟨0, 0, 0, 0⟩))
abbrev s_free : Stmt := (top 29)
abbrev s_ulaw_are_hands_right : Stmt := (top 64)
abbrev s_late_in : Stmt := (top 32)
abbrev s_late : Stmt := (top 35)
abbrev s_Book_works : Stmt := ((Mi.clsB (top 56)).getD 2 (.Pass ⟨0, 0, 0, 0⟩))
abbrev s_Book_contains : Stmt := ((Mi.clsB (top 56)).getD 7 (.Pass ⟨0, 0, 0, 0⟩))
abbrev s_Book_check_work : Stmt := ((Mi.clsB (top 56)).getD 9 (.Pass ⟨0, 0, 0, 0⟩))
abbrev s_Book_due : Stmt := ((Mi.clsB (top 56)).getD 13 (.Pass ⟨0, 0, 0, 0⟩))
abbrev s_Book_dues : Stmt := ((Mi.clsB (top 56)).getD 4 (.Pass ⟨0, 0, 0, 0⟩))
abbrev s_text_by : Stmt := (top 54)
abbrev s_Book_hands : Stmt := ((Mi.clsB (top 56)).getD 5 (.Pass ⟨0, 0, 0, 0⟩))
abbrev s_Book_needs : Stmt := ((Mi.clsB (top 56)).getD 3 (.Pass ⟨0, 0, 0, 0⟩))
abbrev s_Book_without_due : Stmt := ((Mi.clsB (top 56)).getD 18 (.Pass ⟨0, 0, 0, 0⟩))
abbrev s_ulaw_are_dues_right : Stmt := (top 65)
abbrev s_ulaw_right : Stmt := (top 66)
abbrev s_ulaw_pot : Stmt := (top 58)
abbrev s_law : Stmt := (top 67)
def dummyD : DefM := ⟨fun _ => 0, "", "", defArgs (.Pass ⟨0, 0, 0, 0⟩), [], defScope (.Pass ⟨0, 0, 0, 0⟩), []⟩
def fa : List He.Fa := [.free "len", .free "min", .free "max", .free "list", .free "range", .glo "_law_places", .keep "_law_places", .free "int", .glo "_law_take", .keep "_law_take", .glo "_law_some", .keep "_law_some", .free "str", .free "isinstance", .str "FEED" "\n", .cls "Reading", .noat "Reading" "told_works", .noat "Reading" "told_needs", .noat "Reading" "told_dues", .noat "Reading" "told_hands", .noat "Reading" "own_stage", .glo "Reading", .mkr "Reading", .free "enumerate", .str "BLANK" " ", .glo "LINES", .str "WORKS" "works", .free "tuple", .int "MOST_WORKS" 8, .free "all", .glo "are_unlike", .keep "are_unlike", .int "MOST_SIGNS" 8, .str "SIGNS" "abcdefghijklmnopqrstuvwxyz", .glo "is_name", .keep "is_name", .meth "Reading" "reads_works", .str "AHEAD" "ahead", .int "PAIR" 2, .int "MOST_NEEDS" 20, .glo "reached", .keep "reached", .meth "Reading" "reads_need", .str "DUE" "due", .str "MINUS" "-", .str "FIGURES" "0123456789", .glo "number_in", .keep "number_in", .int "MOST_HOUR" 40, .meth "Reading" "reads_due", .int "MOST_NUMBERS" 12, .free "bool", .glo "is_integer", .keep "is_integer", .int "MOST_HANDS" 4, .glo "are_hands", .keep "are_hands", .meth "Reading" "reads_hands", .meth "Reading" "reads", .cls "Frame", .noat "Frame" "all_works", .noat "Frame" "all_needs", .noat "Frame" "all_dues", .noat "Frame" "all_hands", .glo "lot_of", .keep "lot_of", .noat "Frame" "after", .noat "Frame" "before", .glo "Frame", .mkr "Frame", .glo "read", .keep "read", .cls "Book", .noat "Book" "own_frame", .noat "Book" "own_text", .glo "Book", .mkr "Book", .glo "_law_made", .keep "_law_made", .glo "is_tuple", .keep "is_tuple", .glo "is_word", .keep "is_word", .glo "is_lot", .keep "is_lot", .glo "has_all", .keep "has_all", .glo "is_plan", .keep "is_plan", .glo "check_plan", .keep "check_plan", .meth "Frame" "hands_in", .str "HANDS_plans" "hands", .str "EARLY" "early", .glo "first_wrong", .keep "first_wrong", .str "RIGHT" "right", .glo "judged", .keep "judged", .glo "_law_are_judged_right", .keep "_law_are_judged_right", .meth "Frame" "free", .glo "free", .keep "free", .glo "_law_are_hands_right", .keep "_law_are_hands_right", .glo "late_in", .keep "late_in", .glo "late", .keep "late", .meth "Book" "__contains__", .meth "Book" "check_work", .meth "Book" "due", .str "HANDS_reading" "hands", .glo "text_by", .keep "text_by", .meth "Book" "without_due", .glo "_law_are_dues_right", .keep "_law_are_dues_right", .glo "_law_right", .keep "_law_right", .free "abs", .glo "_law_pot", .keep "_law_pot", .glo "law", .keep "law"]
def fn : List DefM := [⟨fun K => He.ga K "_law_places", "_law_places", "_law_places", defArgs s_ulaw_places, defBody s_ulaw_places, defScope s_ulaw_places, []⟩,
  ⟨fun K => He.ga K "_law_take", "_law_take", "_law_take", defArgs s_ulaw_take, defBody s_ulaw_take, defScope s_ulaw_take, []⟩,
  ⟨fun K => He.ga K "_law_some", "_law_some", "_law_some", defArgs s_ulaw_some, defBody s_ulaw_some, defScope s_ulaw_some, []⟩,
  ⟨fun K => He.ma K (He.ga K "Reading") "__init__", "__init__", "Reading.__init__", defArgs s_Reading_init, defBody s_Reading_init, defScope s_Reading_init, []⟩,
  ⟨fun K => He.ga K "are_unlike", "are_unlike", "are_unlike", defArgs s_are_unlike, defBody s_are_unlike, defScope s_are_unlike, []⟩,
  ⟨fun K => He.ga K "is_name", "is_name", "is_name", defArgs s_is_name, defBody s_is_name, defScope s_is_name, []⟩,
  ⟨fun K => He.ma K (He.ga K "Reading") "reads_works", "reads_works", "Reading.reads_works", defArgs s_Reading_reads_works, defBody s_Reading_reads_works, defScope s_Reading_reads_works, []⟩,
  ⟨fun K => He.ga K "reached", "reached", "reached", defArgs s_reached, defBody s_reached, defScope s_reached, []⟩,
  ⟨fun K => He.ma K (He.ga K "Reading") "reads_need", "reads_need", "Reading.reads_need", defArgs s_Reading_reads_need, defBody s_Reading_reads_need, defScope s_Reading_reads_need, []⟩,
  ⟨fun K => He.ga K "number_in", "number_in", "number_in", defArgs s_number_in, defBody s_number_in, defScope s_number_in, []⟩,
  ⟨fun K => He.ma K (He.ga K "Reading") "reads_due", "reads_due", "Reading.reads_due", defArgs s_Reading_reads_due, defBody s_Reading_reads_due, defScope s_Reading_reads_due, []⟩,
  ⟨fun K => He.ga K "is_integer", "is_integer", "is_integer", defArgs s_is_integer, defBody s_is_integer, defScope s_is_integer, [.non, .non]⟩,
  ⟨fun K => He.ga K "are_hands", "are_hands", "are_hands", defArgs s_are_hands, defBody s_are_hands, defScope s_are_hands, []⟩,
  ⟨fun K => He.ma K (He.ga K "Reading") "reads_hands", "reads_hands", "Reading.reads_hands", defArgs s_Reading_reads_hands, defBody s_Reading_reads_hands, defScope s_Reading_reads_hands, []⟩,
  ⟨fun K => He.ma K (He.ga K "Reading") "reads", "reads", "Reading.reads", defArgs s_Reading_reads, defBody s_Reading_reads, defScope s_Reading_reads, []⟩,
  ⟨fun K => He.ga K "lot_of", "lot_of", "lot_of", defArgs s_lot_of, defBody s_lot_of, defScope s_lot_of, []⟩,
  ⟨fun K => He.ma K (He.ga K "Frame") "__init__", "__init__", "Frame.__init__", defArgs s_Frame_init, defBody s_Frame_init, defScope s_Frame_init, []⟩,
  ⟨fun K => He.ga K "read", "read", "read", defArgs s_read, defBody s_read, defScope s_read, []⟩,
  ⟨fun K => He.ma K (He.ga K "Book") "__init__", "__init__", "Book.__init__", defArgs s_Book_init, defBody s_Book_init, defScope s_Book_init, []⟩,
  ⟨fun K => He.ga K "_law_made", "_law_made", "_law_made", defArgs s_ulaw_made, defBody s_ulaw_made, defScope s_ulaw_made, []⟩,
  ⟨fun K => He.ga K "is_tuple", "is_tuple", "is_tuple", defArgs s_is_tuple, defBody s_is_tuple, defScope s_is_tuple, [.int 0, .non]⟩,
  ⟨fun K => He.ga K "is_word", "is_word", "is_word", defArgs s_is_word, defBody s_is_word, defScope s_is_word, []⟩,
  ⟨fun K => He.ga K "is_lot", "is_lot", "is_lot", defArgs s_is_lot, defBody s_is_lot, defScope s_is_lot, []⟩,
  ⟨fun K => He.ga K "has_all", "has_all", "has_all", defArgs s_has_all, defBody s_has_all, defScope s_has_all, []⟩,
  ⟨fun K => He.ga K "is_plan", "is_plan", "is_plan", defArgs s_is_plan, defBody s_is_plan, defScope s_is_plan, []⟩,
  ⟨fun K => He.ga K "check_plan", "check_plan", "check_plan", defArgs s_check_plan, defBody s_check_plan, defScope s_check_plan, []⟩,
  ⟨fun K => He.ma K (He.ga K "Frame") "hands_in", "hands_in", "Frame.hands_in", defArgs s_Frame_hands_in, defBody s_Frame_hands_in, defScope s_Frame_hands_in, []⟩,
  ⟨fun K => He.ga K "first_wrong", "first_wrong", "first_wrong", defArgs s_first_wrong, defBody s_first_wrong, defScope s_first_wrong, []⟩,
  ⟨fun K => He.ga K "judged", "judged", "judged", defArgs s_judged, defBody s_judged, defScope s_judged, []⟩,
  ⟨fun K => He.ga K "_law_are_judged_right", "_law_are_judged_right", "_law_are_judged_right", defArgs s_ulaw_are_judged_right, defBody s_ulaw_are_judged_right, defScope s_ulaw_are_judged_right, []⟩,
  ⟨fun K => He.ma K (He.ga K "Frame") "free", "free", "Frame.free", defArgs s_Frame_free, defBody s_Frame_free, defScope s_Frame_free, []⟩,
  ⟨fun K => He.ga K "free", "free", "free", defArgs s_free, defBody s_free, defScope s_free, []⟩,
  ⟨fun K => He.ga K "_law_are_hands_right", "_law_are_hands_right", "_law_are_hands_right", defArgs s_ulaw_are_hands_right, defBody s_ulaw_are_hands_right, defScope s_ulaw_are_hands_right, []⟩,
  ⟨fun K => He.ga K "late_in", "late_in", "late_in", defArgs s_late_in, defBody s_late_in, defScope s_late_in, []⟩,
  ⟨fun K => He.ga K "late", "late", "late", defArgs s_late, defBody s_late, defScope s_late, []⟩,
  ⟨fun K => gAd K (He.ga K "Book") "works", "works", "Book.works", defArgs s_Book_works, defBody s_Book_works, defScope s_Book_works, []⟩,
  ⟨fun K => He.ma K (He.ga K "Book") "__contains__", "__contains__", "Book.__contains__", defArgs s_Book_contains, defBody s_Book_contains, defScope s_Book_contains, []⟩,
  ⟨fun K => He.ma K (He.ga K "Book") "check_work", "check_work", "Book.check_work", defArgs s_Book_check_work, defBody s_Book_check_work, defScope s_Book_check_work, []⟩,
  ⟨fun K => He.ma K (He.ga K "Book") "due", "due", "Book.due", defArgs s_Book_due, defBody s_Book_due, defScope s_Book_due, []⟩,
  ⟨fun K => gAd K (He.ga K "Book") "dues", "dues", "Book.dues", defArgs s_Book_dues, defBody s_Book_dues, defScope s_Book_dues, []⟩,
  ⟨fun K => He.ga K "text_by", "text_by", "text_by", defArgs s_text_by, defBody s_text_by, defScope s_text_by, []⟩,
  ⟨fun K => gAd K (He.ga K "Book") "hands", "hands", "Book.hands", defArgs s_Book_hands, defBody s_Book_hands, defScope s_Book_hands, []⟩,
  ⟨fun K => gAd K (He.ga K "Book") "needs", "needs", "Book.needs", defArgs s_Book_needs, defBody s_Book_needs, defScope s_Book_needs, []⟩,
  ⟨fun K => He.ma K (He.ga K "Book") "without_due", "without_due", "Book.without_due", defArgs s_Book_without_due, defBody s_Book_without_due, defScope s_Book_without_due, []⟩,
  ⟨fun K => He.ga K "_law_are_dues_right", "_law_are_dues_right", "_law_are_dues_right", defArgs s_ulaw_are_dues_right, defBody s_ulaw_are_dues_right, defScope s_ulaw_are_dues_right, []⟩,
  ⟨fun K => He.ga K "_law_right", "_law_right", "_law_right", defArgs s_ulaw_right, defBody s_ulaw_right, defScope s_ulaw_right, []⟩,
  ⟨fun K => He.ga K "_law_pot", "_law_pot", "_law_pot", defArgs s_ulaw_pot, defBody s_ulaw_pot, defScope s_ulaw_pot, []⟩,
  ⟨fun K => He.ga K "law", "law", "law", defArgs s_law, defBody s_law, defScope s_law, []⟩]
def ck : List Ck := [ckTup "LINES" ["works", "ahead", "due", "hands"], ckProp "Book" "works", ckProp "Book" "dues", ckProp "Book" "hands", ckProp "Book" "needs"]
section
variable {P : Program} {w : World} {K : PySem.W.Frag} {mg : Str → Option Value} {base : Heap} {ρ : Rho}
/-! ### _law_places -/
def b_ulaw_places : SF := (sRet (eFroz (eLrg (eBi bMax2 (aCons (eC (.int 1)) (aCons (eBi bMin2 (aCons (eVar 1) (aCons (eBi bLen (aCons (eVar 0) aNil)) aNil))) aNil))))))
def F_ulaw_places : FF := runB 2 b_ulaw_places
abbrev N_ulaw_places : List Str := ["_law_script", "_law_most"]
theorem nd_ulaw_places : (N_ulaw_places).Nodup := by decide +kernel
theorem bs_ulaw_places (g : Gf fa fn ck K mg) : BodyS P w K mg base (omOf K ρ) 0 N_ulaw_places (defScope s_ulaw_places) (defBody s_ulaw_places) b_ulaw_places := fun qual f cdv A outer s H E hr => (mss_one (ms_ret (me_lst (ml_range1 rfl rfl (g.free 3) rfl (g.free 4) (me_callB (call_max2 rfl) bMax2_ok rfl (g.free 2) (by decide +kernel) (ma_cons me_int (ma_cons (me_callB (call_min2 rfl) bMin2_ok rfl (g.free 1) (by decide +kernel) (ma_cons (me_var 1) (ma_cons (me_callB call_len2 bLen_ok rfl (g.free 0) (by decide +kernel) (ma_cons (me_var 0) ma_nil)) ma_nil))) ma_nil)))))))
theorem sc_ulaw_places : FnScope N_ulaw_places ["_law_script", "_law_most"] (defScope s_ulaw_places) := ⟨rfl, rfl, rfl, nd_ulaw_places, rfl, by decide +kernel, by decide +kernel⟩
theorem fk_ulaw_places (g : Gf fa fn ck K mg) : ∃ fd, FnOk P w K mg base (L2.CX P w) 1 ((fn.getD 0 dummyD).adr K) fd ["_law_script", "_law_most"] (spF K (omOf K ρ) 2 F_ulaw_places) ∧ BndL K fd ["_law_script", "_law_most"] (omOf K ρ) [] := by
  obtain ⟨fd, F⟩ := g.def_ 0 (d := fn.getD 0 dummyD)
  exact ⟨fd, fnOk_of F sc_ulaw_places (bs_ulaw_places g), bndN F fun _ _ _ _ _ _ us hl => match us, hl with | [_, _], _ => rfl⟩
theorem fg_ulaw_places (g : Gf fa fn ck K mg) : FnG P w K mg base (omOf K ρ) "_law_places" 1 2 [] F_ulaw_places := by
  obtain ⟨fd, ok, bd⟩ := fk_ulaw_places (P := P) (w := w) (base := base) (ρ := ρ) g
  exact gFn rfl (g.glo 5) (g.keep 6) ok bd
/-! ### _law_take -/
def b_ulaw_take : SF := (sSeq (sIf (tVal (eOp opGt (eOp opIx (eVar 0) (eC (.int 0))) (eC (.int 0)))) (sSeq (sSet 2 (eOp opMod (eBi bInt (aCons (eOp opIx (eVar 0) (eC (.int 0))) aNil)) (eVar 1)))
  (sSeq (sLput (eOp opFdiv (eOp opIx (eVar 0) (eC (.int 0))) (eVar 1)) (eVar 0) (eC (.int 0)))
  (sRet (eVar 2)))) sNil)
  (sSeq (sLput (eOp opPlus (eOp opIx (eVar 0) (eC (.int 2))) (eC (.int 1))) (eVar 0) (eC (.int 2)))
  (sSeq (sSet 3 (eOp opIx (eFroz (eLst (aCons (eC (.int 2147483647)) (aCons (eC (.int 2147483629)) (aCons (eC (.int 2147483587)) (aCons (eC (.int 2147483579)) (aCons (eC (.int 2147483563)) aNil))))))) (eOp opMod (eBi bInt (aCons (eOp opIx (eVar 0) (eC (.int 2))) aNil)) (eC (.int 5)))))
  (sSeq (sSet 4 (eOp opMod (eBi bInt (aCons (eOp opPow (eBi bInt (aCons (eOp opPlus (eOp opPlus (eOp opIx (eVar 0) (eC (.int 1))) (eOp opMul (eOp opMul (eC (.int 92081)) (eOp opIx (eVar 0) (eC (.int 2)))) (eOp opIx (eVar 0) (eC (.int 2))))) (eC (.int 29))) aNil)) (eC (.int 3))) aNil)) (eVar 3)))
  (sRet (eOp opMod (eBi bInt (aCons (eOp opFdiv (eOp opMul (eVar 4) (eOp opPlus (eOp opMod (eBi bInt (aCons (eVar 4) aNil)) (eC (.int 10007))) (eOp opMul (eC (.int 97)) (eOp opIx (eVar 0) (eC (.int 2)))))) (eC (.int 127))) aNil)) (eVar 1)))))))
def F_ulaw_take : FF := runB 5 b_ulaw_take
abbrev N_ulaw_take : List Str := ["_law_pot_here", "_law_upto", "_law_digit", "_law_prime", "_law_blend"]
theorem nd_ulaw_take : (N_ulaw_take).Nodup := by decide +kernel
theorem bs_ulaw_take (g : Gf fa fn ck K mg) : BodyS P w K mg base (omOf K ρ) 0 N_ulaw_take (defScope s_ulaw_take) (defBody s_ulaw_take) b_ulaw_take := fun qual f cdv A outer s H E hr => (mss_cons (ms_if (mt_cmp op_gt opGt_ok (me_ix (me_var 0) me_int) me_int (nomark _)) (mss_cons (ms_set nd_ulaw_take rfl (Or.inl rfl) (me_bin op_mod opMod_ok (me_callTy call_int2 bInt_ok rfl (g.free 7) (by decide +kernel) (ma_cons (me_ix (me_var 0) me_int) ma_nil)) (me_var 1)))
  (mss_cons (ms_lput (me_var 0) me_int (me_bin op_fdiv opFdiv_ok (me_ix (me_var 0) me_int) (me_var 1)))
  (mss_one (ms_ret (me_var 2))))) mss_nil)
  (mss_cons (ms_lput (me_var 0) me_int (me_bin op_plus opPlus_ok (me_ix (me_var 0) me_int) me_int))
  (mss_cons (ms_set nd_ulaw_take rfl (Or.inl rfl) (me_ix (me_lst (ml_lst (ma_cons me_int (ma_cons me_int (ma_cons me_int (ma_cons me_int (ma_cons me_int ma_nil))))))) (me_bin op_mod opMod_ok (me_callTy call_int2 bInt_ok rfl (g.free 7) (by decide +kernel) (ma_cons (me_ix (me_var 0) me_int) ma_nil)) me_int)))
  (mss_cons (ms_set nd_ulaw_take rfl (Or.inl rfl) (me_bin op_mod opMod_ok (me_callTy call_int2 bInt_ok rfl (g.free 7) (by decide +kernel) (ma_cons (me_bin op_powW opPow_ok (me_callTy call_int2 bInt_ok rfl (g.free 7) (by decide +kernel) (ma_cons (me_bin op_plus opPlus_ok (me_bin op_plus opPlus_ok (me_ix (me_var 0) me_int) (me_bin op_mul opMul_ok (me_bin op_mul opMul_ok me_int (me_ix (me_var 0) me_int)) (me_ix (me_var 0) me_int))) me_int) ma_nil)) me_int) ma_nil)) (me_var 3)))
  (mss_one (ms_ret (me_bin op_mod opMod_ok (me_callTy call_int2 bInt_ok rfl (g.free 7) (by decide +kernel) (ma_cons (me_bin op_fdiv opFdiv_ok (me_bin op_mul opMul_ok (me_var 4) (me_bin op_plus opPlus_ok (me_bin op_mod opMod_ok (me_callTy call_int2 bInt_ok rfl (g.free 7) (by decide +kernel) (ma_cons (me_var 4) ma_nil)) me_int) (me_bin op_mul opMul_ok me_int (me_ix (me_var 0) me_int)))) me_int) ma_nil)) (me_var 1))))))))
theorem sc_ulaw_take : FnScope N_ulaw_take ["_law_pot_here", "_law_upto"] (defScope s_ulaw_take) := ⟨rfl, rfl, rfl, nd_ulaw_take, rfl, by decide +kernel, by decide +kernel⟩
theorem fk_ulaw_take (g : Gf fa fn ck K mg) : ∃ fd, FnOk P w K mg base (L2.CX P w) 1 ((fn.getD 1 dummyD).adr K) fd ["_law_pot_here", "_law_upto"] (spF K (omOf K ρ) 2 F_ulaw_take) ∧ BndL K fd ["_law_pot_here", "_law_upto"] (omOf K ρ) [] := by
  obtain ⟨fd, F⟩ := g.def_ 1 (d := fn.getD 1 dummyD)
  exact ⟨fd, fnOk_of F sc_ulaw_take (bs_ulaw_take g), bndN F fun _ _ _ _ _ _ us hl => match us, hl with | [_, _], _ => rfl⟩
theorem fg_ulaw_take (g : Gf fa fn ck K mg) : FnG P w K mg base (omOf K ρ) "_law_take" 1 2 [] F_ulaw_take := by
  obtain ⟨fd, ok, bd⟩ := fk_ulaw_take (P := P) (w := w) (base := base) (ρ := ρ) g
  exact gFn rfl (g.glo 8) (g.keep 9) ok bd
/-! ### _law_some -/
def b_ulaw_some : SF := (sSeq (sPar 3 4 (aCons (eNewL (eBiL bList (aCons (eVar 1) aNil))) (aCons (eNewL (eLst aNil)) aNil)))
  (sSeq (sFor (pName 5) (iFun rg1 (aCons (eVar 2) aNil)) (sExpr (eMt isLoc mAppend (eVar 4) (aCons (eMt isLoc mPopAt (eVar 3) (aCons (eCall 2 F_ulaw_take (([] : List T).drop 0) (aCons (eVar 0) (aCons (eBi bLen (aCons (eVar 3) aNil)) aNil))) aNil)) aNil))))
  (sRet (eVar 4))))
def F_ulaw_some : FF := runB 6 b_ulaw_some
abbrev N_ulaw_some : List Str := ["_law_pot_here", "_law_pool", "_law_amount", "_law_left", "_law_found", "_law_turn"]
theorem nd_ulaw_some : (N_ulaw_some).Nodup := by decide +kernel
theorem bs_ulaw_some (g : Gf fa fn ck K mg) : BodyS P w K mg base (omOf K ρ) 1 N_ulaw_some (defScope s_ulaw_some) (defBody s_ulaw_some) b_ulaw_some := fun qual f cdv A outer s H E hr => (mss_cons (ms_par rfl nd_ulaw_some rfl rfl (by decide) rfl rfl (ma_cons (me_newL (ml_callTy call_list_of bList_ok rfl (g.free 3) (by decide +kernel) (ma_cons (me_var 1) ma_nil))) (ma_cons (me_newL (ml_lst ma_nil)) ma_nil)))
  (mss_cons (ms_for (passes_of rfl) rfl (mi_range1 rfl (g.free 4) (ma_cons (me_var 2) ma_nil)) (pat_name 5) (pg_name nd_ulaw_some rfl (Or.inl rfl)) (mss_one (ms_expr (me_append (me_var 4) (ma_cons (me_popAt (me_var 3) (ma_cons (me_call 0 (fg_ulaw_take g) (hr.mono (by decide)) (takes_of rfl rfl rfl rfl) rfl (ma_cons (me_var 0) (ma_cons (me_callB call_len2 bLen_ok rfl (g.free 0) (by decide +kernel) (ma_cons (me_var 3) ma_nil)) ma_nil))) ma_nil)) ma_nil)))))
  (mss_one (ms_ret (me_var 4)))))
theorem sc_ulaw_some : FnScope N_ulaw_some ["_law_pot_here", "_law_pool", "_law_amount"] (defScope s_ulaw_some) := ⟨rfl, rfl, rfl, nd_ulaw_some, rfl, by decide +kernel, by decide +kernel⟩
theorem fk_ulaw_some (g : Gf fa fn ck K mg) : ∃ fd, FnOk P w K mg base (L2.CX P w) 2 ((fn.getD 2 dummyD).adr K) fd ["_law_pot_here", "_law_pool", "_law_amount"] (spF K (omOf K ρ) 3 F_ulaw_some) ∧ BndL K fd ["_law_pot_here", "_law_pool", "_law_amount"] (omOf K ρ) [] := by
  obtain ⟨fd, F⟩ := g.def_ 2 (d := fn.getD 2 dummyD)
  exact ⟨fd, fnOk_of F sc_ulaw_some (bs_ulaw_some g), bndN F fun _ _ _ _ _ _ us hl => match us, hl with | [_, _, _], _ => rfl⟩
theorem fg_ulaw_some (g : Gf fa fn ck K mg) : FnG P w K mg base (omOf K ρ) "_law_some" 2 3 [] F_ulaw_some := by
  obtain ⟨fd, ok, bd⟩ := fk_ulaw_some (P := P) (w := w) (base := base) (ρ := ρ) g
  exact gFn rfl (g.glo 10) (g.keep 11) ok bd
/-! ### Reading.__init__ -/
def b_Reading_init : SF := (sSeq (sFldT 1 0 (eTup aNil) (eVar 0))
  (sSeq (sFldT 1 1 (eNewL (eLst aNil)) (eVar 0))
  (sSeq (sFldT 1 2 (eNewD false) (eVar 0))
  (sSeq (sFldT 1 3 (eTup aNil) (eVar 0))
  (sFldT 1 4 (eC (.int 0)) (eVar 0))))))
def F_Reading_init : FF := runB 1 b_Reading_init
abbrev N_Reading_init : List Str := ["self"]
theorem nd_Reading_init : (N_Reading_init).Nodup := by decide +kernel
theorem bs_Reading_init (g : Gf fa fn ck K mg) : BodyS P w K mg base (omOf K ρ) 0 N_Reading_init (defScope s_Reading_init) (defBody s_Reading_init) b_Reading_init := fun qual f cdv A outer s H E hr => (mss_cons (ms_fld (c := 1) (g.cls 15) (g.noat 16) rfl fu_1_0 (fl_all 1) (me_var 0) (me_tup ma_nil))
  (mss_cons (ms_fld (c := 1) (g.cls 15) (g.noat 17) rfl fu_1_1 (fl_all 1) (me_var 0) (me_newL (ml_lst ma_nil)))
  (mss_cons (ms_fld (c := 1) (g.cls 15) (g.noat 18) rfl fu_1_2 (fl_all 1) (me_var 0) me_newDK)
  (mss_cons (ms_fld (c := 1) (g.cls 15) (g.noat 19) rfl fu_1_3 (fl_all 1) (me_var 0) (me_tup ma_nil))
  (mss_one (ms_fld (c := 1) (g.cls 15) (g.noat 20) rfl fu_1_4 (fl_all 1) (me_var 0) me_int))))))
theorem sc_Reading_init : FnScope N_Reading_init ["self"] (defScope s_Reading_init) := ⟨rfl, rfl, rfl, nd_Reading_init, rfl, by decide +kernel, by decide +kernel⟩
theorem fk_Reading_init (g : Gf fa fn ck K mg) : ∃ fd, FnOk P w K mg base (L2.CX P w) 1 ((fn.getD 3 dummyD).adr K) fd ["self"] (spF K (omOf K ρ) 1 F_Reading_init) ∧ BndL K fd ["self"] (omOf K ρ) [] := by
  obtain ⟨fd, F⟩ := g.def_ 3 (d := fn.getD 3 dummyD)
  exact ⟨fd, fnOk_of F sc_Reading_init (bs_Reading_init g), bndN F fun _ _ _ _ _ _ us hl => match us, hl with | [_], _ => rfl⟩
theorem fg_Reading_init (g : Gf fa fn ck K mg) : MkG P w K mg base (omOf K ρ) "Reading" 1 1 1 F_Reading_init := by
  obtain ⟨fd, ok, bd⟩ := fk_Reading_init (P := P) (w := w) (base := base) (ρ := ρ) g
  exact gMk rfl (g.glo 21) (g.mkr 22) ok bd
/-! ### are_unlike -/
def b_are_unlike : SF := (sRet (eBi bAll (aCons (eFroz (eLc (List.map (·.2) ([("at", 1), ("one", 2)] : List (Str × Nat))) (pSeq 2 (psCons (pName 1) (psCons (pName 2) psNil))) (iFun enS (aCons (eVar 0) aNil)) tTrue (eOp opNotIn (eVar 2) (eSlice (eVar 0) none (some (eVar 1)) slT)))) aNil)))
def F_are_unlike : FF := runB 3 b_are_unlike
abbrev N_are_unlike : List Str := ["some", "at", "one"]
theorem nd_are_unlike : (N_are_unlike).Nodup := by decide +kernel
theorem bs_are_unlike (g : Gf fa fn ck K mg) : BodyS P w K mg base (omOf K ρ) 0 N_are_unlike (defScope s_are_unlike) (defBody s_are_unlike) b_are_unlike := fun qual f cdv A outer s H E hr => (mss_one (ms_ret (me_callB (cr_all rfl) bAll_ok rfl (g.free 29) (by decide +kernel) (ma_cons (me_lst (ml_lc rfl nd_are_unlike (mi_enumS rfl (g.free 23) (ma_cons (me_var 0) ma_nil)) (own := [("at", 1), ("one", 2)]) (blkOk (N := N_are_unlike) (sc := defScope s_are_unlike) (by decide +kernel)) (pat_seq (n := 2) (pats_cons (pat_name 1) (pats_cons (pat_name 2) pats_nil))) (by decide +kernel) (fun _ _ _ _ _ => (pg_seq (n := 2) rfl (pgs_cons (pg_name nd_are_unlike rfl (Or.inl rfl)) (pgs_cons (pg_name nd_are_unlike rfl (Or.inl rfl)) pgs_nil)))) (fun _ _ _ _ _ => mts_nil) (fun _ _ _ _ _ => (me_cmp (op_notIn2 (un65 hr)) opNotIn_ok (me_var 2) (me_slice (me_var 0) mp_none (mp_some (me_var 1))))))) ma_nil))))
theorem sc_are_unlike : FnScope N_are_unlike ["some"] (defScope s_are_unlike) := ⟨rfl, rfl, rfl, nd_are_unlike, rfl, by decide +kernel, by decide +kernel⟩
theorem fk_are_unlike (g : Gf fa fn ck K mg) : ∃ fd, FnOk P w K mg base (L2.CX P w) 1 ((fn.getD 4 dummyD).adr K) fd ["some"] (spF K (omOf K ρ) 1 F_are_unlike) ∧ BndL K fd ["some"] (omOf K ρ) [] := by
  obtain ⟨fd, F⟩ := g.def_ 4 (d := fn.getD 4 dummyD)
  exact ⟨fd, fnOk_of F sc_are_unlike (bs_are_unlike g), bndN F fun _ _ _ _ _ _ us hl => match us, hl with | [_], _ => rfl⟩
theorem fg_are_unlike (g : Gf fa fn ck K mg) : FnG P w K mg base (omOf K ρ) "are_unlike" 1 1 [] F_are_unlike := by
  obtain ⟨fd, ok, bd⟩ := fk_are_unlike (P := P) (w := w) (base := base) (ρ := ρ) g
  exact gFn rfl (g.glo 30) (g.keep 31) ok bd
/-! ### is_name -/
def b_is_name : SF := (sRet (eAnd (eIsT "str" (eVar 0)) (eAnd (eChain opLe opLe (eC (.int 1)) (eBi bLen (aCons (eVar 0) aNil)) (eC (.int 8))) (eBi bAll (aCons (eFroz (eLc (List.map (·.2) ([("sign", 1)] : List (Str × Nat))) (pName 1) (iSeqS (eVar 0)) tTrue (eOp opIn (eVar 1) (eC (.str [97, 98, 99, 100, 101, 102, 103, 104, 105, 106, 107, 108, 109, 110, 111, 112, 113, 114, 115, 116, 117, 118, 119, 120, 121, 122]))))) aNil)))))
def F_is_name : FF := runB 2 b_is_name
abbrev N_is_name : List Str := ["value", "sign"]
theorem nd_is_name : (N_is_name).Nodup := by decide +kernel
theorem bs_is_name (g : Gf fa fn ck K mg) : BodyS P w K mg base (omOf K ρ) 0 N_is_name (defScope s_is_name) (defBody s_is_name) b_is_name := fun qual f cdv A outer s H E hr => (mss_one (ms_ret (me_and (me_isT (n := "str") (by decide) rfl (g.free 13) rfl (g.free 12) (by decide +kernel) (me_var 0)) (me_and (me_chain op_le opLe_ok op_le opLe_ok me_int (me_callB call_len2 bLen_ok rfl (g.free 0) (by decide +kernel) (ma_cons (me_var 0) ma_nil)) (g.eInt 32 rfl)) (me_one (me_callB (cr_all rfl) bAll_ok rfl (g.free 29) (by decide +kernel) (ma_cons (me_lst (ml_lc rfl nd_is_name (mi_seqS (me_var 0)) (own := [("sign", 1)]) (blkOk (N := N_is_name) (sc := defScope s_is_name) (by decide +kernel)) (pat_name 1) (by decide +kernel) (fun _ _ _ _ _ => (pg_name nd_is_name rfl (Or.inl rfl))) (fun _ _ _ _ _ => mts_nil) (fun _ _ _ _ _ => (me_cmp (op_in2 (un65 hr)) opIn_ok (me_var 1) (g.eStr 33 rfl))))) ma_nil)))))))
theorem sc_is_name : FnScope N_is_name ["value"] (defScope s_is_name) := ⟨rfl, rfl, rfl, nd_is_name, rfl, by decide +kernel, by decide +kernel⟩
theorem fk_is_name (g : Gf fa fn ck K mg) : ∃ fd, FnOk P w K mg base (L2.CX P w) 1 ((fn.getD 5 dummyD).adr K) fd ["value"] (spF K (omOf K ρ) 1 F_is_name) ∧ BndL K fd ["value"] (omOf K ρ) [] := by
  obtain ⟨fd, F⟩ := g.def_ 5 (d := fn.getD 5 dummyD)
  exact ⟨fd, fnOk_of F sc_is_name (bs_is_name g), bndN F fun _ _ _ _ _ _ us hl => match us, hl with | [_], _ => rfl⟩
def Fs_is_name : FF := symF F_is_name
theorem hs_is_name : ∀ x M, letters x = true → F_is_name [.str x] M = .ok (.bl true) M := fun x M hx => by
  obtain ⟨h1, h2, h3, h4⟩ := letters_ok hx
  have hl : bLen M [.str x] = some (.int x.length) := by
    show (bif ground x then some (T.int x.length) else none) = _
    rw [h4]
    rfl
  have hlp : 1 ≤ x.length := List.length_pos_iff.mpr h1
  refine runB_rt (n := 2) (s := b_is_name) ?_
  show b_is_name [some (.str x), none] M = _
  unfold b_is_name
  refine sRet_ok (eAnd_t (t := .bl true) (M1 := M) rfl rfl (eAnd_t (t := .bl true) (eChain_t eC_ok (eBi_ok (aCons_ok (eVar_ok rfl) aNil_ok) hl) ?_ eC_ok ?_) rfl (eBi_ok (aCons_ok (eFroz_ok (eLc_ok (iSeqS_ok (eVar_ok rfl) (us := x.map fun c => .str [c]) ?_) ?_ (compL_allM (t0 := .bl true) _ _ ?_))) aNil_ok) bAll_rep)))
  · show some (T.bl (decide ((1 : Int) ≤ (x.length : Nat)))) = _
    rw [decide_eq_true (by omega)]
  · show some (T.bl (decide (((x.length : Nat) : Int) ≤ 8))) = _
    rw [decide_eq_true (by omega)]
  · show (bif ground x then some (x.map fun c => T.str [c]) else none) = _
    rw [h4]
    rfl
  · exact decide_eq_true (by rw [List.length_map]; omega)
  · intro t ht
    obtain ⟨c, hc, rfl⟩ := List.mem_map.mp ht
    have hcb := h3 c hc
    refine eOp_ok (eVar_ok rfl) eC_ok ?_
    show (bif decide (c < symB) && ground [97, 98, 99, 100, 101, 102, 103, 104, 105, 106, 107, 108, 109, 110, 111, 112, 113, 114, 115, 116, 117, 118, 119, 120, 121, 122] then some (decide (c ∈ [97, 98, 99, 100, 101, 102, 103, 104, 105, 106, 107, 108, 109, 110, 111, 112, 113, 114, 115, 116, 117, 118, 119, 120, 121, 122])) else none).map T.bl = _
    rw [decide_eq_true (show c < symB by unfold symB; omega), show ground [97, 98, 99, 100, 101, 102, 103, 104, 105, 106, 107, 108, 109, 110, 111, 112, 113, 114, 115, 116, 117, 118, 119, 120, 121, 122] = true by decide]
    have : c ∈ [97, 98, 99, 100, 101, 102, 103, 104, 105, 106, 107, 108, 109, 110, 111, 112, 113, 114, 115, 116, 117, 118, 119, 120, 121, 122] := by
      simp only [List.mem_cons, List.not_mem_nil, or_false]
      omega
    rw [decide_eq_true this]
    rfl
theorem fks_is_name (g : Gf fa fn ck K mg) : ∃ fd, FnOk P w K mg base (L2.CX P w) 1 ((fn.getD 5 dummyD).adr K) fd ["value"] (spF K (omOf K ρ) 1 Fs_is_name) ∧ BndL K fd ["value"] (omOf K ρ) [] := let ⟨fd, ok, bd⟩ := fk_is_name g; ⟨fd, ok.imp fun _ _ _ _ h => symF_of hs_is_name h, bd⟩
theorem fg_is_name (g : Gf fa fn ck K mg) : FnG P w K mg base (omOf K ρ) "is_name" 1 1 [] Fs_is_name := by
  obtain ⟨fd, ok, bd⟩ := fks_is_name (P := P) (w := w) (base := base) (ρ := ρ) g
  exact gFn rfl (g.glo 34) (g.keep 35) ok bd
/-! ### Reading.reads_works -/
def b_Reading_reads_works : SF := (sSeq (sFldT 1 0 (eVar 1) (eVar 0))
  (sRet (eAnd (eChain opLe opLe (eC (.int 1)) (eBi bLen (aCons (eVar 1) aNil)) (eC (.int 8))) (eAnd (eCall 1 F_are_unlike (([] : List T).drop 0) (aCons (eVar 1) aNil)) (eBi bAll (aCons (eFroz (eLc (List.map (·.2) ([("name", 2)] : List (Str × Nat))) (pName 2) (iSeqS (eVar 1)) tTrue (eCall 1 Fs_is_name (([] : List T).drop 0) (aCons (eVar 2) aNil)))) aNil))))))
def F_Reading_reads_works : FF := runB 3 b_Reading_reads_works
abbrev N_Reading_reads_works : List Str := ["self", "names", "name"]
theorem nd_Reading_reads_works : (N_Reading_reads_works).Nodup := by decide +kernel
theorem bs_Reading_reads_works (g : Gf fa fn ck K mg) : BodyS P w K mg base (omOf K ρ) 1 N_Reading_reads_works (defScope s_Reading_reads_works) (defBody s_Reading_reads_works) b_Reading_reads_works := fun qual f cdv A outer s H E hr => (mss_cons (ms_fld (c := 1) (g.cls 15) (g.noat 16) rfl fu_1_0 (fl_all 1) (me_var 0) (me_var 1))
  (mss_one (ms_ret (me_and (me_chain op_le opLe_ok op_le opLe_ok me_int (me_callB call_len2 bLen_ok rfl (g.free 0) (by decide +kernel) (ma_cons (me_var 1) ma_nil)) (g.eInt 28 rfl)) (me_and (me_call 0 (fg_are_unlike g) (hr.mono (by decide)) (takes_of rfl rfl rfl rfl) rfl (ma_cons (me_var 1) ma_nil)) (me_one (me_callB (cr_all rfl) bAll_ok rfl (g.free 29) (by decide +kernel) (ma_cons (me_lst (ml_lc rfl nd_Reading_reads_works (mi_seqS (me_var 1)) (own := [("name", 2)]) (blkOk (N := N_Reading_reads_works) (sc := defScope s_Reading_reads_works) (by decide +kernel)) (pat_name 2) (by decide +kernel) (fun _ _ _ _ _ => (pg_name nd_Reading_reads_works rfl (Or.inl rfl))) (fun _ _ _ _ _ => mts_nil) (fun _ _ _ _ _ => (me_call 0 (fg_is_name g) (hr.mono (by decide)) Mi.takes0 rfl (ma_cons (me_var 2) ma_nil))))) ma_nil))))))))
theorem sc_Reading_reads_works : FnScope N_Reading_reads_works ["self", "names"] (defScope s_Reading_reads_works) := ⟨rfl, rfl, rfl, nd_Reading_reads_works, rfl, by decide +kernel, by decide +kernel⟩
theorem fk_Reading_reads_works (g : Gf fa fn ck K mg) : ∃ fd, FnOk P w K mg base (L2.CX P w) 2 ((fn.getD 6 dummyD).adr K) fd ["self", "names"] (spF K (omOf K ρ) 2 F_Reading_reads_works) ∧ BndL K fd ["self", "names"] (omOf K ρ) [] := by
  obtain ⟨fd, F⟩ := g.def_ 6 (d := fn.getD 6 dummyD)
  exact ⟨fd, fnOk_of F sc_Reading_reads_works (bs_Reading_reads_works g), bndN F fun _ _ _ _ _ _ us hl => match us, hl with | [_, _], _ => rfl⟩
theorem fg_Reading_reads_works (g : Gf fa fn ck K mg) : MeG P w K mg base (omOf K ρ) 1 "reads_works" 2 2 [] F_Reading_reads_works := by
  obtain ⟨fd, ok, bd⟩ := fk_Reading_reads_works (P := P) (w := w) (base := base) (ρ := ρ) g
  exact gMe rfl (g.cls 15) (g.meth 36) nm_Reading_reads_works ok bd
/-! ### reached -/
def b_reached : SF := (sSeq (sPat (pSeq 2 (psCons (pName 2) (psCons (pName 3) psNil))) (eTup (aCons (eNewL (eLst (aCons (eVar 1) aNil))) (aCons (eC (.int 0)) aNil))))
  (sSeq (sWhile 100000 (tVal (eOp opLt (eVar 3) (eBi bLen (aCons (eVar 2) aNil)))) (sSeq (sExpr (eAlt (eMt isLoc mExtend (eVar 2) (aCons (eFroz (aAlt (eLc (List.map (·.2) ([("one", 4), ("other", 5)] : List (Str × Nat))) (pSeq 2 (psCons (pName 4) (psCons (pName 5) psNil))) (iSeqS (eVar 0)) (tAnd2 (tVal (eOp opEq (eVar 4) (eOp opIx (eVar 2) (eVar 3)))) (tVal (eOp opNotIn (eVar 5) (eVar 2)))) (eVar 5)) (eLcL 100000 (List.map (·.2) ([("one", 4), ("other", 5)] : List (Str × Nat))) (pSeq 2 (psCons (pName 4) (psCons (pName 5) psNil))) (iLoc (eVar 0)) (tAnd2 (tVal (eOp opEq (eVar 4) (eOp opIx (eVar 2) (eVar 3)))) (tVal (eOp opNotIn (eVar 5) (eVar 2)))) (eVar 5)))) aNil)) (eMt isLoc mExtT (eVar 2) (aCons (eFroz (aAlt (eLc (List.map (·.2) ([("one", 4), ("other", 5)] : List (Str × Nat))) (pSeq 2 (psCons (pName 4) (psCons (pName 5) psNil))) (iSeqS (eVar 0)) (tAnd2 (tVal (eOp opEq (eVar 4) (eOp opIx (eVar 2) (eVar 3)))) (tVal (eOp opNotIn (eVar 5) (eVar 2)))) (eVar 5)) (eLcL 100000 (List.map (·.2) ([("one", 4), ("other", 5)] : List (Str × Nat))) (pSeq 2 (psCons (pName 4) (psCons (pName 5) psNil))) (iLoc (eVar 0)) (tAnd2 (tVal (eOp opEq (eVar 4) (eOp opIx (eVar 2) (eVar 3)))) (tVal (eOp opNotIn (eVar 5) (eVar 2)))) (eVar 5)))) aNil))))
  (sAug 3 opAddI (eC (.int 1)))))
  (sRet (eSlice (eVar 2) (some (eC (.int 1))) none slT))))
def F_reached : FF := runB 6 b_reached
abbrev N_reached : List Str := ["pairs", "work", "found", "at", "one", "other"]
theorem nd_reached : (N_reached).Nodup := by decide +kernel
theorem bs_reached (g : Gf fa fn ck K mg) : BodyS P w K mg base (omOf K ρ) 0 N_reached (defScope s_reached) (defBody s_reached) b_reached := fun qual f cdv A outer s H E hr => (mss_cons (ms_pat (pat_seq (n := 2) (pats_cons (pat_name 2) (pats_cons (pat_name 3) pats_nil))) (me_tup (ma_cons (me_newL (ml_lst (ma_cons (me_var 1) ma_nil))) (ma_cons me_int ma_nil))) (pg_seq (n := 2) rfl (pgs_cons (pg_name nd_reached rfl (Or.inr rfl)) (pgs_cons (pg_name nd_reached rfl (Or.inr rfl)) pgs_nil))))
  (mss_cons (ms_while 100000 (passes_of rfl) (mt_cmp op_lt opLt_ok (me_var 3) (me_callB call_len2 bLen_ok rfl (g.free 0) (by decide +kernel) (ma_cons (me_var 2) ma_nil)) (nomark _)) (mss_cons (ms_expr (me_ext2 (me_var 2) (ma_cons (me_lst (ml_alt (ml_lc rfl nd_reached (mi_seqS (me_var 0)) (own := [("one", 4), ("other", 5)]) (blkOk (N := N_reached) (sc := defScope s_reached) (by decide +kernel)) (pat_seq (n := 2) (pats_cons (pat_name 4) (pats_cons (pat_name 5) pats_nil))) (by decide +kernel) (fun _ _ _ _ _ => (pg_seq (n := 2) rfl (pgs_cons (pg_name nd_reached rfl (Or.inl rfl)) (pgs_cons (pg_name nd_reached rfl (Or.inl rfl)) pgs_nil)))) (fun _ _ _ _ _ => (mts_one (mt_w (mw_and (mt_cmp (op_eqD (un64 hr)) opEq_ok (me_var 4) (me_ix (me_var 2) (me_var 3)) (nomark _)) (mw_and1 (mt_cmp (op_notIn2 (un65 hr)) opNotIn_ok (me_var 5) (me_var 2))))))) (fun _ _ _ _ _ => (me_var 5))) (ml_lcL 100000 rfl nd_reached (mil_loc (me_var 0)) (own := [("one", 4), ("other", 5)]) (blkOk (N := N_reached) (sc := defScope s_reached) (by decide +kernel)) (pat_seq (n := 2) (pats_cons (pat_name 4) (pats_cons (pat_name 5) pats_nil))) (by decide +kernel) (fun _ _ _ _ _ => (pg_seq (n := 2) rfl (pgs_cons (pg_name nd_reached rfl (Or.inl rfl)) (pgs_cons (pg_name nd_reached rfl (Or.inl rfl)) pgs_nil)))) (fun _ _ _ _ _ => (mts_one (mt_w (mw_and (mt_cmp (op_eqD (un64 hr)) opEq_ok (me_var 4) (me_ix (me_var 2) (me_var 3)) (nomark _)) (mw_and1 (mt_cmp (op_notIn2 (un65 hr)) opNotIn_ok (me_var 5) (me_var 2))))))) (fun _ _ _ _ _ => (me_var 5))))) ma_nil)))
  (mss_one (ms_aug opAddI_ok nd_reached rfl (Or.inr rfl) me_int ip_add))))
  (mss_one (ms_ret (me_slice (me_var 2) (mp_some me_int) mp_none)))))
theorem sc_reached : FnScope N_reached ["pairs", "work"] (defScope s_reached) := ⟨rfl, rfl, rfl, nd_reached, rfl, by decide +kernel, by decide +kernel⟩
theorem fk_reached (g : Gf fa fn ck K mg) : ∃ fd, FnOk P w K mg base (L2.CX P w) 1 ((fn.getD 7 dummyD).adr K) fd ["pairs", "work"] (spF K (omOf K ρ) 2 F_reached) ∧ BndL K fd ["pairs", "work"] (omOf K ρ) [] := by
  obtain ⟨fd, F⟩ := g.def_ 7 (d := fn.getD 7 dummyD)
  exact ⟨fd, fnOk_of F sc_reached (bs_reached g), bndN F fun _ _ _ _ _ _ us hl => match us, hl with | [_, _], _ => rfl⟩
theorem fg_reached (g : Gf fa fn ck K mg) : FnG P w K mg base (omOf K ρ) "reached" 1 2 [] F_reached := by
  obtain ⟨fd, ok, bd⟩ := fk_reached (P := P) (w := w) (base := base) (ρ := ρ) g
  exact gFn rfl (g.glo 40) (g.keep 41) ok bd
/-! ### Reading.reads_need -/
def b_Reading_reads_need : SF := (sSeq (sIf (tOr2 (tVal (eOp opNe (eBi bLen (aCons (eVar 1) aNil)) (eC (.int 2)))) (tOr2 (tVal (eOp opIn (eVar 1) (eFld 1 1 (eVar 0)))) (tVal (eOp opEq (eBi bLen (aCons (eFld 1 1 (eVar 0)) aNil)) (eC (.int 20)))))) (sRet (eC (.bl false))) sNil)
  (sSeq (sIf (tOr2 (tVal (eOp opEq (eOp opIx (eVar 1) (eC (.int 0))) (eOp opIx (eVar 1) (eC (.int 1))))) (tNot2 (tTru (eBi bAll (aCons (eFroz (eLc (List.map (·.2) ([("name", 2)] : List (Str × Nat))) (pName 2) (iSeqS (eVar 1)) tTrue (eOp opIn (eVar 2) (eFld 1 0 (eVar 0))))) aNil))))) (sRet (eC (.bl false))) sNil)
  (sSeq (sExpr (eMt isLoc mAppend (eFld 1 1 (eVar 0)) (aCons (eVar 1) aNil)))
  (sRet (eOp opNotIn (eOp opIx (eVar 1) (eC (.int 0))) (eCall 2 F_reached (([] : List T).drop 0) (aCons (eFld 1 1 (eVar 0)) (aCons (eOp opIx (eVar 1) (eC (.int 1))) aNil))))))))
def F_Reading_reads_need : FF := runB 3 b_Reading_reads_need
abbrev N_Reading_reads_need : List Str := ["self", "names", "name"]
theorem nd_Reading_reads_need : (N_Reading_reads_need).Nodup := by decide +kernel
theorem bs_Reading_reads_need (g : Gf fa fn ck K mg) : BodyS P w K mg base (omOf K ρ) 1 N_Reading_reads_need (defScope s_Reading_reads_need) (defBody s_Reading_reads_need) b_Reading_reads_need := fun qual f cdv A outer s H E hr => (mss_cons (ms_if (mt_w (mw_or (mt_cmp (op_neD (un64 hr)) opNe_ok (me_callB call_len2 bLen_ok rfl (g.free 0) (by decide +kernel) (ma_cons (me_var 1) ma_nil)) (g.eInt 38 rfl) (nomark _)) (mw_or (mt_cmp (op_in2 (un65 hr)) opIn_ok (me_var 1) (me_fld (c := 1) (g.cls 15) (g.noat 17) rfl fu_1_1 (me_var 0))) (mw_or1 (mt_cmp (op_eqD (un64 hr)) opEq_ok (me_callB call_len2 bLen_ok rfl (g.free 0) (by decide +kernel) (ma_cons (me_fld (c := 1) (g.cls 15) (g.noat 17) rfl fu_1_1 (me_var 0)) ma_nil)) (g.eInt 39 rfl) (nomark _)))))) (mss_one (ms_ret me_bl)) mss_nil)
  (mss_cons (ms_if (mt_w (mw_or (mt_cmp (op_eqD (un64 hr)) opEq_ok (me_ix (me_var 1) me_int) (me_ix (me_var 1) me_int) (nomark _)) (mw_or1 (mt_not (mt_tru (me_callB (cr_all rfl) bAll_ok rfl (g.free 29) (by decide +kernel) (ma_cons (me_lst (ml_lc rfl nd_Reading_reads_need (mi_seqS (me_var 1)) (own := [("name", 2)]) (blkOk (N := N_Reading_reads_need) (sc := defScope s_Reading_reads_need) (by decide +kernel)) (pat_name 2) (by decide +kernel) (fun _ _ _ _ _ => (pg_name nd_Reading_reads_need rfl (Or.inl rfl))) (fun _ _ _ _ _ => mts_nil) (fun _ _ _ _ _ => (me_cmp (op_in2 (un65 hr)) opIn_ok (me_var 2) (me_fld (c := 1) (g.cls 15) (g.noat 16) rfl fu_1_0 (me_var 0)))))) ma_nil))))))) (mss_one (ms_ret me_bl)) mss_nil)
  (mss_cons (ms_expr (me_append (me_fld (c := 1) (g.cls 15) (g.noat 17) rfl fu_1_1 (me_var 0)) (ma_cons (me_var 1) ma_nil)))
  (mss_one (ms_ret (me_cmp (op_notIn2 (un65 hr)) opNotIn_ok (me_ix (me_var 1) me_int) (me_call 0 (fg_reached g) (hr.mono (by decide)) (takes_of rfl rfl rfl rfl) rfl (ma_cons (me_fld (c := 1) (g.cls 15) (g.noat 17) rfl fu_1_1 (me_var 0)) (ma_cons (me_ix (me_var 1) me_int) ma_nil)))))))))
theorem sc_Reading_reads_need : FnScope N_Reading_reads_need ["self", "names"] (defScope s_Reading_reads_need) := ⟨rfl, rfl, rfl, nd_Reading_reads_need, rfl, by decide +kernel, by decide +kernel⟩
theorem fk_Reading_reads_need (g : Gf fa fn ck K mg) : ∃ fd, FnOk P w K mg base (L2.CX P w) 2 ((fn.getD 8 dummyD).adr K) fd ["self", "names"] (spF K (omOf K ρ) 2 F_Reading_reads_need) ∧ BndL K fd ["self", "names"] (omOf K ρ) [] := by
  obtain ⟨fd, F⟩ := g.def_ 8 (d := fn.getD 8 dummyD)
  exact ⟨fd, fnOk_of F sc_Reading_reads_need (bs_Reading_reads_need g), bndN F fun _ _ _ _ _ _ us hl => match us, hl with | [_, _], _ => rfl⟩
theorem fg_Reading_reads_need (g : Gf fa fn ck K mg) : MeG P w K mg base (omOf K ρ) 1 "reads_need" 2 2 [] F_Reading_reads_need := by
  obtain ⟨fd, ok, bd⟩ := fk_Reading_reads_need (P := P) (w := w) (base := base) (ρ := ρ) g
  exact gMe rfl (g.cls 15) (g.meth 42) nm_Reading_reads_need ok bd
/-! ### number_in -/
def b_number_in : SF := (sSeq (sSet 1 (eIf (tVal (eOp opEq (eSlice (eVar 0) none (some (eC (.int 1))) slT) (eC (.str [45])))) (eSlice (eVar 0) (some (eC (.int 1))) none slT) (eVar 0)))
  (sSeq (sIf (tOr2 (tVal (eOp opEq (eVar 1) (eC (.str [])))) (tNot2 (tTru (eBi bAll (aCons (eFroz (eLc (List.map (·.2) ([("sign", 2)] : List (Str × Nat))) (pName 2) (iSeqS (eVar 1)) tTrue (eOp opIn (eVar 2) (eC (.str [48, 49, 50, 51, 52, 53, 54, 55, 56, 57]))))) aNil))))) (sRet (eC .non)) sNil)
  (sSeq (sIf (tAnd2 (tVal (eOp opEq (eOp opIx (eVar 1) (eC (.int 0))) (eC (.str [48])))) (tVal (eOp opNe (eVar 0) (eC (.str [48]))))) (sRet (eC .non)) sNil)
  (sRet (eBi bInt (aCons (eVar 0) aNil))))))
def F_number_in : FF := runB 3 b_number_in
abbrev N_number_in : List Str := ["word", "figures", "sign"]
theorem nd_number_in : (N_number_in).Nodup := by decide +kernel
theorem bs_number_in (g : Gf fa fn ck K mg) : BodyS P w K mg base (omOf K ρ) 0 N_number_in (defScope s_number_in) (defBody s_number_in) b_number_in := fun qual f cdv A outer s H E hr => (mss_cons (ms_set nd_number_in rfl (Or.inl rfl) (me_if (mt_cmp (op_eqD (un64 hr)) opEq_ok (me_slice (me_var 0) mp_none (mp_some me_int)) (g.eStr 44 rfl) (nomark _)) (me_slice (me_var 0) (mp_some me_int) mp_none) (me_var 0)))
  (mss_cons (ms_if (mt_w (mw_or (mt_cmp (op_eqD (un64 hr)) opEq_ok (me_var 1) me_str (nomark _)) (mw_or1 (mt_not (mt_tru (me_callB (cr_all rfl) bAll_ok rfl (g.free 29) (by decide +kernel) (ma_cons (me_lst (ml_lc rfl nd_number_in (mi_seqS (me_var 1)) (own := [("sign", 2)]) (blkOk (N := N_number_in) (sc := defScope s_number_in) (by decide +kernel)) (pat_name 2) (by decide +kernel) (fun _ _ _ _ _ => (pg_name nd_number_in rfl (Or.inl rfl))) (fun _ _ _ _ _ => mts_nil) (fun _ _ _ _ _ => (me_cmp (op_in2 (un65 hr)) opIn_ok (me_var 2) (g.eStr 45 rfl))))) ma_nil))))))) (mss_one (ms_ret me_non)) mss_nil)
  (mss_cons (ms_if (mt_w (mw_and (mt_cmp (op_eqD (un64 hr)) opEq_ok (me_ix (me_var 1) me_int) me_str (nomark _)) (mw_and1 (mt_cmp (op_neD (un64 hr)) opNe_ok (me_var 0) me_str (nomark _))))) (mss_one (ms_ret me_non)) mss_nil)
  (mss_one (ms_ret (me_callTy call_int2 bInt_ok rfl (g.free 7) (by decide +kernel) (ma_cons (me_var 0) ma_nil)))))))
theorem sc_number_in : FnScope N_number_in ["word"] (defScope s_number_in) := ⟨rfl, rfl, rfl, nd_number_in, rfl, by decide +kernel, by decide +kernel⟩
theorem fk_number_in (g : Gf fa fn ck K mg) : ∃ fd, FnOk P w K mg base (L2.CX P w) 1 ((fn.getD 9 dummyD).adr K) fd ["word"] (spF K (omOf K ρ) 1 F_number_in) ∧ BndL K fd ["word"] (omOf K ρ) [] := by
  obtain ⟨fd, F⟩ := g.def_ 9 (d := fn.getD 9 dummyD)
  exact ⟨fd, fnOk_of F sc_number_in (bs_number_in g), bndN F fun _ _ _ _ _ _ us hl => match us, hl with | [_], _ => rfl⟩
theorem fg_number_in (g : Gf fa fn ck K mg) : FnG P w K mg base (omOf K ρ) "number_in" 1 1 [] F_number_in := by
  obtain ⟨fd, ok, bd⟩ := fk_number_in (P := P) (w := w) (base := base) (ρ := ρ) g
  exact gFn rfl (g.glo 46) (g.keep 47) ok bd
/-! ### Reading.reads_due -/
def b_Reading_reads_due : SF := (sSeq (sIf (tOr2 (tVal (eOp opNe (eBi bLen (aCons (eVar 1) aNil)) (eC (.int 2)))) (tOr2 (tVal (eOp opNotIn (eOp opIx (eVar 1) (eC (.int 0))) (eFld 1 0 (eVar 0)))) (tVal (eDin false (eOp opIx (eVar 1) (eC (.int 0))) (eFld 1 2 (eVar 0)))))) (sRet (eC (.bl false))) sNil)
  (sSeq (sSet 2 (eCall 1 F_number_in (([] : List T).drop 0) (aCons (eOp opIx (eVar 1) (eC (.int 1))) aNil)))
  (sSeq (sIf (tOr2 (tVal (eOp opIs (eVar 2) (eC .non))) (tNot2 (tVal (eChain opLe opLe (eC (.int 1)) (eVar 2) (eC (.int 40)))))) (sRet (eC (.bl false))) sNil)
  (sSeq (sDput (eVar 2) (eFld 1 2 (eVar 0)) (eOp opIx (eVar 1) (eC (.int 0))))
  (sRet (eC (.bl true)))))))
def F_Reading_reads_due : FF := runB 3 b_Reading_reads_due
abbrev N_Reading_reads_due : List Str := ["self", "words", "hour"]
theorem nd_Reading_reads_due : (N_Reading_reads_due).Nodup := by decide +kernel
theorem bs_Reading_reads_due (g : Gf fa fn ck K mg) : BodyS P w K mg base (omOf K ρ) 1 N_Reading_reads_due (defScope s_Reading_reads_due) (defBody s_Reading_reads_due) b_Reading_reads_due := fun qual f cdv A outer s H E hr => (mss_cons (ms_if (mt_w (mw_or (mt_cmp (op_neD (un64 hr)) opNe_ok (me_callB call_len2 bLen_ok rfl (g.free 0) (by decide +kernel) (ma_cons (me_var 1) ma_nil)) (g.eInt 38 rfl) (nomark _)) (mw_or (mt_cmp (op_notIn2 (un65 hr)) opNotIn_ok (me_ix (me_var 1) me_int) (me_fld (c := 1) (g.cls 15) (g.noat 16) rfl fu_1_0 (me_var 0))) (mw_or1 (mt_din (un1 hr) (me_ix (me_var 1) me_int) (me_fld (c := 1) (g.cls 15) (g.noat 18) rfl fu_1_2 (me_var 0))))))) (mss_one (ms_ret me_bl)) mss_nil)
  (mss_cons (ms_set nd_Reading_reads_due rfl (Or.inl rfl) (me_call 0 (fg_number_in g) (hr.mono (by decide)) (takes_of rfl rfl rfl rfl) rfl (ma_cons (me_ix (me_var 1) me_int) ma_nil)))
  (mss_cons (ms_if (mt_w (mw_or (mt_cmp op_is2 opIs_ok (me_var 2) me_non (nomark _)) (mw_or1 (mt_not (mt_chain op_le opLe_ok op_le opLe_ok me_int (me_var 2) (g.eInt 48 rfl)))))) (mss_one (ms_ret me_bl)) mss_nil)
  (mss_cons (ms_dput (un1 hr) (me_fld (c := 1) (g.cls 15) (g.noat 18) rfl fu_1_2 (me_var 0)) (me_ix (me_var 1) me_int) (me_var 2))
  (mss_one (ms_ret me_bl))))))
theorem sc_Reading_reads_due : FnScope N_Reading_reads_due ["self", "words"] (defScope s_Reading_reads_due) := ⟨rfl, rfl, rfl, nd_Reading_reads_due, rfl, by decide +kernel, by decide +kernel⟩
theorem fk_Reading_reads_due (g : Gf fa fn ck K mg) : ∃ fd, FnOk P w K mg base (L2.CX P w) 2 ((fn.getD 10 dummyD).adr K) fd ["self", "words"] (spF K (omOf K ρ) 2 F_Reading_reads_due) ∧ BndL K fd ["self", "words"] (omOf K ρ) [] := by
  obtain ⟨fd, F⟩ := g.def_ 10 (d := fn.getD 10 dummyD)
  exact ⟨fd, fnOk_of F sc_Reading_reads_due (bs_Reading_reads_due g), bndN F fun _ _ _ _ _ _ us hl => match us, hl with | [_, _], _ => rfl⟩
theorem fg_Reading_reads_due (g : Gf fa fn ck K mg) : MeG P w K mg base (omOf K ρ) 1 "reads_due" 2 2 [] F_Reading_reads_due := by
  obtain ⟨fd, ok, bd⟩ := fk_Reading_reads_due (P := P) (w := w) (base := base) (ρ := ρ) g
  exact gMe rfl (g.cls 15) (g.meth 49) nm_Reading_reads_due ok bd
/-! ### is_integer -/
def b_is_integer : SF := (sSeq (sIf (tOr2 (tNot2 (tTru (eIsT "int" (eVar 0)))) (tTru (eIsT "bool" (eVar 0)))) (sRet (eC (.bl false))) sNil)
  (sRet (eAnd (eOr (eOp opIs (eVar 1) (eC .non)) (eOp opGe (eVar 0) (eVar 1))) (eOr (eOp opIs (eVar 2) (eC .non)) (eOp opLe (eVar 0) (eVar 2))))))
def F_is_integer : FF := runB 3 b_is_integer
abbrev N_is_integer : List Str := ["value", "low", "high"]
theorem nd_is_integer : (N_is_integer).Nodup := by decide +kernel
theorem bs_is_integer (g : Gf fa fn ck K mg) : BodyS P w K mg base (omOf K ρ) 0 N_is_integer (defScope s_is_integer) (defBody s_is_integer) b_is_integer := fun qual f cdv A outer s H E hr => (mss_cons (ms_if (mt_w (mw_or (mt_not (mt_tru (me_isT (n := "int") (by decide) rfl (g.free 13) rfl (g.free 7) (by decide +kernel) (me_var 0)))) (mw_or1 (mt_tru (me_isT (n := "bool") (by decide) rfl (g.free 13) rfl (g.free 51) (by decide +kernel) (me_var 0)))))) (mss_one (ms_ret me_bl)) mss_nil)
  (mss_one (ms_ret (me_and (me_or (me_cmp op_is2 opIs_ok (me_var 1) me_non (nomark _)) (me_one (me_cmp op_ge opGe_ok (me_var 0) (me_var 1) (nomark _)))) (me_one (me_or (me_cmp op_is2 opIs_ok (me_var 2) me_non (nomark _)) (me_one (me_cmp op_le opLe_ok (me_var 0) (me_var 2) (nomark _)))))))))
theorem sc_is_integer : FnScope N_is_integer ["value", "low", "high"] (defScope s_is_integer) := ⟨rfl, rfl, rfl, nd_is_integer, rfl, by decide +kernel, by decide +kernel⟩
theorem fk_is_integer (g : Gf fa fn ck K mg) : ∃ fd, FnOk P w K mg base (L2.CX P w) 1 ((fn.getD 11 dummyD).adr K) fd ["value", "low", "high"] (spF K (omOf K ρ) 3 F_is_integer) ∧ BndL K fd ["value", "low", "high"] (omOf K ρ) [.non, .non] := by
  obtain ⟨fd, F⟩ := g.def_ 11 (d := fn.getD 11 dummyD)
  refine ⟨fd, fnOk_of F sc_is_integer (bs_is_integer g), fun j hj => ?_⟩
  match j, hj with
  | 0, _ => obtain ⟨ds, h1, h2⟩ := FunD.binds1 (ps := ["value", "low", "high"]) F 1 0 (List.cons_ne_nil _ _) rfl (fun _ _ _ _ _ _ _ us its hu hi => match us, its, hu, hi with | [_], [_, _], _, _ => ⟨_, rfl, rfl⟩); exact ⟨ds, _, h2, h1, fun _ _ _ _ => .cons .non (.cons .non (.nil))⟩
  | 1, _ => obtain ⟨ds, h1, h2⟩ := FunD.binds1 (ps := ["value", "low", "high"]) F 2 1 (List.cons_ne_nil _ _) rfl (fun _ _ _ _ _ _ _ us its hu hi => match us, its, hu, hi with | [_, _], [_, _], _, _ => ⟨_, rfl, rfl⟩); exact ⟨ds, _, h2, h1, fun _ _ _ _ => .cons .non (.nil)⟩
  | 2, _ => obtain ⟨ds, h1, h2⟩ := FunD.binds1 (ps := ["value", "low", "high"]) F 3 2 (List.cons_ne_nil _ _) rfl (fun _ _ _ _ _ _ _ us its hu hi => match us, its, hu, hi with | [_, _, _], [_, _], _, _ => ⟨_, rfl, rfl⟩); exact ⟨ds, _, h2, h1, fun _ _ _ _ => .nil⟩
  | j + 3, hj => exact absurd (show j + 3 ≤ 2 from hj) (by omega)
theorem fg_is_integer (g : Gf fa fn ck K mg) : FnG P w K mg base (omOf K ρ) "is_integer" 1 3 [.non, .non] F_is_integer := by
  obtain ⟨fd, ok, bd⟩ := fk_is_integer (P := P) (w := w) (base := base) (ρ := ρ) g
  exact gFn rfl (g.glo 52) (g.keep 53) ok bd
/-! ### are_hands -/
def b_are_hands : SF := (sSeq (sIf (tOr2 (tNot2 (tTru (eIsT "tuple" (eVar 0)))) (tNot2 (tVal (eChain opLe opLe (eC (.int 1)) (eBi bLen (aCons (eVar 0) aNil)) (eC (.int 12)))))) (sRet (eC (.bl false))) sNil)
  (sRet (eAnd (eBi bAll (aCons (eFroz (eLc (List.map (·.2) ([("number", 1)] : List (Str × Nat))) (pName 1) (iSeqS (eVar 0)) tTrue (eCall 3 F_is_integer (([.non, .non] : List T).drop 2) (aCons (eVar 1) (aCons (eC (.int 0)) (aCons (eC (.int 4)) aNil)))))) aNil)) (eOp opGt (eOp opIx (eVar 0) (eNeg (eC (.int 1)))) (eC (.int 0))))))
def F_are_hands : FF := runB 2 b_are_hands
abbrev N_are_hands : List Str := ["value", "number"]
theorem nd_are_hands : (N_are_hands).Nodup := by decide +kernel
theorem bs_are_hands (g : Gf fa fn ck K mg) : BodyS P w K mg base (omOf K ρ) 1 N_are_hands (defScope s_are_hands) (defBody s_are_hands) b_are_hands := fun qual f cdv A outer s H E hr => (mss_cons (ms_if (mt_w (mw_or (mt_not (mt_tru (me_isT (n := "tuple") (by decide) rfl (g.free 13) rfl (g.free 27) (by decide +kernel) (me_var 0)))) (mw_or1 (mt_not (mt_chain op_le opLe_ok op_le opLe_ok me_int (me_callB call_len2 bLen_ok rfl (g.free 0) (by decide +kernel) (ma_cons (me_var 0) ma_nil)) (g.eInt 50 rfl)))))) (mss_one (ms_ret me_bl)) mss_nil)
  (mss_one (ms_ret (me_and (me_callB (cr_all rfl) bAll_ok rfl (g.free 29) (by decide +kernel) (ma_cons (me_lst (ml_lc rfl nd_are_hands (mi_seqS (me_var 0)) (own := [("number", 1)]) (blkOk (N := N_are_hands) (sc := defScope s_are_hands) (by decide +kernel)) (pat_name 1) (by decide +kernel) (fun _ _ _ _ _ => (pg_name nd_are_hands rfl (Or.inl rfl))) (fun _ _ _ _ _ => mts_nil) (fun _ _ _ _ _ => (me_call 2 (fg_is_integer g) (hr.mono (by decide)) Mi.takes0 rfl (ma_cons (me_var 1) (ma_cons me_int (ma_cons (g.eInt 54 rfl) ma_nil))))))) ma_nil)) (me_one (me_cmp op_gt opGt_ok (me_ix (me_var 0) (me_neg me_int)) me_int (nomark _)))))))
theorem sc_are_hands : FnScope N_are_hands ["value"] (defScope s_are_hands) := ⟨rfl, rfl, rfl, nd_are_hands, rfl, by decide +kernel, by decide +kernel⟩
theorem fk_are_hands (g : Gf fa fn ck K mg) : ∃ fd, FnOk P w K mg base (L2.CX P w) 2 ((fn.getD 12 dummyD).adr K) fd ["value"] (spF K (omOf K ρ) 1 F_are_hands) ∧ BndL K fd ["value"] (omOf K ρ) [] := by
  obtain ⟨fd, F⟩ := g.def_ 12 (d := fn.getD 12 dummyD)
  exact ⟨fd, fnOk_of F sc_are_hands (bs_are_hands g), bndN F fun _ _ _ _ _ _ us hl => match us, hl with | [_], _ => rfl⟩
theorem fg_are_hands (g : Gf fa fn ck K mg) : FnG P w K mg base (omOf K ρ) "are_hands" 2 1 [] F_are_hands := by
  obtain ⟨fd, ok, bd⟩ := fk_are_hands (P := P) (w := w) (base := base) (ρ := ρ) g
  exact gFn rfl (g.glo 55) (g.keep 56) ok bd
/-! ### Reading.reads_hands -/
def b_Reading_reads_hands : SF := (sSeq (sFldT 1 3 (eBi bTuple (aCons (eFroz (eLc (List.map (·.2) ([("word", 2)] : List (Str × Nat))) (pName 2) (iSeqS (eVar 1)) tTrue (eCall 1 F_number_in (([] : List T).drop 0) (aCons (eVar 2) aNil)))) aNil)) (eVar 0))
  (sRet (eCall 1 F_are_hands (([] : List T).drop 0) (aCons (eFld 1 3 (eVar 0)) aNil))))
def F_Reading_reads_hands : FF := runB 3 b_Reading_reads_hands
abbrev N_Reading_reads_hands : List Str := ["self", "words", "word"]
theorem nd_Reading_reads_hands : (N_Reading_reads_hands).Nodup := by decide +kernel
theorem bs_Reading_reads_hands (g : Gf fa fn ck K mg) : BodyS P w K mg base (omOf K ρ) 2 N_Reading_reads_hands (defScope s_Reading_reads_hands) (defBody s_Reading_reads_hands) b_Reading_reads_hands := fun qual f cdv A outer s H E hr => (mss_cons (ms_fld (c := 1) (g.cls 15) (g.noat 19) rfl fu_1_3 (fl_all 1) (me_var 0) (me_callTy call_tuple_of bTuple_ok rfl (g.free 27) (by decide +kernel) (ma_cons (me_lst (ml_lc rfl nd_Reading_reads_hands (mi_seqS (me_var 1)) (own := [("word", 2)]) (blkOk (N := N_Reading_reads_hands) (sc := defScope s_Reading_reads_hands) (by decide +kernel)) (pat_name 2) (by decide +kernel) (fun _ _ _ _ _ => (pg_name nd_Reading_reads_hands rfl (Or.inl rfl))) (fun _ _ _ _ _ => mts_nil) (fun _ _ _ _ _ => (me_call 0 (fg_number_in g) (hr.mono (by decide)) Mi.takes0 rfl (ma_cons (me_var 2) ma_nil))))) ma_nil)))
  (mss_one (ms_ret (me_call 0 (fg_are_hands g) (hr.mono (by decide)) (takes_of rfl rfl rfl rfl) rfl (ma_cons (me_fld (c := 1) (g.cls 15) (g.noat 19) rfl fu_1_3 (me_var 0)) ma_nil)))))
theorem sc_Reading_reads_hands : FnScope N_Reading_reads_hands ["self", "words"] (defScope s_Reading_reads_hands) := ⟨rfl, rfl, rfl, nd_Reading_reads_hands, rfl, by decide +kernel, by decide +kernel⟩
theorem fk_Reading_reads_hands (g : Gf fa fn ck K mg) : ∃ fd, FnOk P w K mg base (L2.CX P w) 3 ((fn.getD 13 dummyD).adr K) fd ["self", "words"] (spF K (omOf K ρ) 2 F_Reading_reads_hands) ∧ BndL K fd ["self", "words"] (omOf K ρ) [] := by
  obtain ⟨fd, F⟩ := g.def_ 13 (d := fn.getD 13 dummyD)
  exact ⟨fd, fnOk_of F sc_Reading_reads_hands (bs_Reading_reads_hands g), bndN F fun _ _ _ _ _ _ us hl => match us, hl with | [_, _], _ => rfl⟩
theorem fg_Reading_reads_hands (g : Gf fa fn ck K mg) : MeG P w K mg base (omOf K ρ) 1 "reads_hands" 3 2 [] F_Reading_reads_hands := by
  obtain ⟨fd, ok, bd⟩ := fk_Reading_reads_hands (P := P) (w := w) (base := base) (ρ := ρ) g
  exact gMe rfl (g.cls 15) (g.meth 57) nm_Reading_reads_hands ok bd
/-! ### Reading.reads -/
def b_Reading_reads : SF := (sSeq (sSet 2 (eFroz (lSplit (eVar 1) (eC (.str [32])))))
  (sSeq (sIf (tOr2 (tVal (eOp opNotIn (eOp opIx (eVar 2) (eC (.int 0))) (eC (.ktup ([[119, 111, 114, 107, 115], [97, 104, 101, 97, 100], [100, 117, 101], [104, 97, 110, 100, 115]].map .str))))) (tOr2 (tVal (eOp opNe (eOp opEq (eFld 1 0 (eVar 0)) (eTup aNil)) (eOp opEq (eOp opIx (eVar 2) (eC (.int 0))) (eC (.str [119, 111, 114, 107, 115]))))) (tVal (eOp opNe (eFld 1 3 (eVar 0)) (eTup aNil))))) (sRet (eC (.bl false))) sNil)
  (sSeq (sParF 3 1 4 (aCons (eFld 1 4 (eVar 0)) (aCons (eIxK (.ktup ([[119, 111, 114, 107, 115], [97, 104, 101, 97, 100], [100, 117, 101], [104, 97, 110, 100, 115]].map .str)) (aCons (eOp opIx (eVar 2) (eC (.int 0))) aNil)) aNil)) (eVar 0))
  (sSeq (sIf (tVal (eOp opLt (eFld 1 4 (eVar 0)) (eVar 3))) (sRet (eC (.bl false))) sNil)
  (sSeq (sSet 4 (eBi bTuple (aCons (eSlice (eVar 2) (some (eC (.int 1))) none slT) aNil)))
  (sSeq (sIf (tVal (eOp opEq (eOp opIx (eVar 2) (eC (.int 0))) (eC (.str [119, 111, 114, 107, 115])))) (sRet (eMeth 1 2 F_Reading_reads_works (([] : List T).drop 0) (eVar 0) (aCons (eVar 4) aNil))) sNil)
  (sSeq (sIf (tVal (eOp opEq (eOp opIx (eVar 2) (eC (.int 0))) (eC (.str [97, 104, 101, 97, 100])))) (sRet (eMeth 1 2 F_Reading_reads_need (([] : List T).drop 0) (eVar 0) (aCons (eVar 4) aNil))) sNil)
  (sRet (eIf (tVal (eOp opEq (eOp opIx (eVar 2) (eC (.int 0))) (eC (.str [100, 117, 101])))) (eMeth 1 2 F_Reading_reads_due (([] : List T).drop 0) (eVar 0) (aCons (eVar 4) aNil)) (eMeth 1 2 F_Reading_reads_hands (([] : List T).drop 0) (eVar 0) (aCons (eVar 4) aNil)))))))))))
def F_Reading_reads : FF := runB 5 b_Reading_reads
abbrev N_Reading_reads : List Str := ["self", "line", "words", "ahead", "rest"]
theorem nd_Reading_reads : (N_Reading_reads).Nodup := by decide +kernel
theorem bs_Reading_reads (g : Gf fa fn ck K mg) : BodyS P w K mg base (omOf K ρ) 4 N_Reading_reads (defScope s_Reading_reads) (defBody s_Reading_reads) b_Reading_reads := fun qual f cdv A outer s H E hr => (mss_cons (ms_set nd_Reading_reads rfl (Or.inl rfl) (me_lst (ml_split (me_var 1) (g.eStr 24 rfl))))
  (mss_cons (ms_if (mt_w (mw_or (mt_cmp (op_notIn2 (un65 hr)) opNotIn_ok (me_ix (me_var 2) me_int) (g.cTup 25 0 rfl)) (mw_or (mt_cmp (op_neD (un64 hr)) opNe_ok (me_cmp (op_eqD (un64 hr)) opEq_ok (me_fld (c := 1) (g.cls 15) (g.noat 16) rfl fu_1_0 (me_var 0)) (me_tup ma_nil) (nomark _)) (me_cmp (op_eqD (un64 hr)) opEq_ok (me_ix (me_var 2) me_int) (g.eStr 26 rfl) (nomark _)) (nomark _)) (mw_or1 (mt_cmp (op_neD (un64 hr)) opNe_ok (me_fld (c := 1) (g.cls 15) (g.noat 19) rfl fu_1_3 (me_var 0)) (me_tup ma_nil) (nomark _)))))) (mss_one (ms_ret me_bl)) mss_nil)
  (mss_cons (ms_parF (c := 1) (g.cls 15) (g.noat 20) rfl fu_1_4 (fl_all 1) rfl nd_Reading_reads rfl (Or.inl rfl) (ma_cons (me_fld (c := 1) (g.cls 15) (g.noat 20) rfl fu_1_4 (me_var 0)) (ma_cons (g.cIndex 25 0 rfl (ma_cons (me_ix (me_var 2) me_int) ma_nil)) ma_nil)) (me_var 0))
  (mss_cons (ms_if (mt_cmp op_lt opLt_ok (me_fld (c := 1) (g.cls 15) (g.noat 20) rfl fu_1_4 (me_var 0)) (me_var 3) (nomark _)) (mss_one (ms_ret me_bl)) mss_nil)
  (mss_cons (ms_set nd_Reading_reads rfl (Or.inl rfl) (me_callTy call_tuple_of bTuple_ok rfl (g.free 27) (by decide +kernel) (ma_cons (me_slice (me_var 2) (mp_some me_int) mp_none) ma_nil)))
  (mss_cons (ms_if (mt_cmp (op_eqD (un64 hr)) opEq_ok (me_ix (me_var 2) me_int) (g.eStr 26 rfl) (nomark _)) (mss_one (ms_ret (me_meth 0 (fg_Reading_reads_works g) (hr.mono (by decide)) (takes_of rfl rfl rfl rfl) (me_var 0) (ma_cons (me_var 4) ma_nil)))) mss_nil)
  (mss_cons (ms_if (mt_cmp (op_eqD (un64 hr)) opEq_ok (me_ix (me_var 2) me_int) (g.eStr 37 rfl) (nomark _)) (mss_one (ms_ret (me_meth 0 (fg_Reading_reads_need g) (hr.mono (by decide)) (takes_of rfl rfl rfl rfl) (me_var 0) (ma_cons (me_var 4) ma_nil)))) mss_nil)
  (mss_one (ms_ret (me_if (mt_cmp (op_eqD (un64 hr)) opEq_ok (me_ix (me_var 2) me_int) (g.eStr 43 rfl) (nomark _)) (me_meth 0 (fg_Reading_reads_due g) (hr.mono (by decide)) (takes_of rfl rfl rfl rfl) (me_var 0) (ma_cons (me_var 4) ma_nil)) (me_meth 0 (fg_Reading_reads_hands g) (hr.mono (by decide)) (takes_of rfl rfl rfl rfl) (me_var 0) (ma_cons (me_var 4) ma_nil))))))))))))
theorem sc_Reading_reads : FnScope N_Reading_reads ["self", "line"] (defScope s_Reading_reads) := ⟨rfl, rfl, rfl, nd_Reading_reads, rfl, by decide +kernel, by decide +kernel⟩
theorem fk_Reading_reads (g : Gf fa fn ck K mg) : ∃ fd, FnOk P w K mg base (L2.CX P w) 5 ((fn.getD 14 dummyD).adr K) fd ["self", "line"] (spF K (omOf K ρ) 2 F_Reading_reads) ∧ BndL K fd ["self", "line"] (omOf K ρ) [] := by
  obtain ⟨fd, F⟩ := g.def_ 14 (d := fn.getD 14 dummyD)
  exact ⟨fd, fnOk_of F sc_Reading_reads (bs_Reading_reads g), bndN F fun _ _ _ _ _ _ us hl => match us, hl with | [_, _], _ => rfl⟩
theorem fg_Reading_reads (g : Gf fa fn ck K mg) : MeG P w K mg base (omOf K ρ) 1 "reads" 5 2 [] F_Reading_reads := by
  obtain ⟨fd, ok, bd⟩ := fk_Reading_reads (P := P) (w := w) (base := base) (ρ := ρ) g
  exact gMe rfl (g.cls 15) (g.meth 58) nm_Reading_reads ok bd
/-! ### lot_of -/
def b_lot_of : SF := (sRet (eBi bTuple (aCons (eFroz (eLc (List.map (·.2) ([("name", 2)] : List (Str × Nat))) (pName 2) (iSeqS (eVar 0)) (tVal (eOp opIn (eVar 2) (eVar 1))) (eVar 2))) aNil)))
def F_lot_of : FF := runB 3 b_lot_of
abbrev N_lot_of : List Str := ["whole", "some", "name"]
theorem nd_lot_of : (N_lot_of).Nodup := by decide +kernel
theorem bs_lot_of (g : Gf fa fn ck K mg) : BodyS P w K mg base (omOf K ρ) 0 N_lot_of (defScope s_lot_of) (defBody s_lot_of) b_lot_of := fun qual f cdv A outer s H E hr => (mss_one (ms_ret (me_callTy call_tuple_of bTuple_ok rfl (g.free 27) (by decide +kernel) (ma_cons (me_lst (ml_lc rfl nd_lot_of (mi_seqS (me_var 0)) (own := [("name", 2)]) (blkOk (N := N_lot_of) (sc := defScope s_lot_of) (by decide +kernel)) (pat_name 2) (by decide +kernel) (fun _ _ _ _ _ => (pg_name nd_lot_of rfl (Or.inl rfl))) (fun _ _ _ _ _ => (mts_one (mt_cmp (op_in2 (un65 hr)) opIn_ok (me_var 2) (me_var 1)))) (fun _ _ _ _ _ => (me_var 2)))) ma_nil))))
theorem sc_lot_of : FnScope N_lot_of ["whole", "some"] (defScope s_lot_of) := ⟨rfl, rfl, rfl, nd_lot_of, rfl, by decide +kernel, by decide +kernel⟩
theorem fk_lot_of (g : Gf fa fn ck K mg) : ∃ fd, FnOk P w K mg base (L2.CX P w) 1 ((fn.getD 15 dummyD).adr K) fd ["whole", "some"] (spF K (omOf K ρ) 2 F_lot_of) ∧ BndL K fd ["whole", "some"] (omOf K ρ) [] := by
  obtain ⟨fd, F⟩ := g.def_ 15 (d := fn.getD 15 dummyD)
  exact ⟨fd, fnOk_of F sc_lot_of (bs_lot_of g), bndN F fun _ _ _ _ _ _ us hl => match us, hl with | [_, _], _ => rfl⟩
theorem fg_lot_of (g : Gf fa fn ck K mg) : FnG P w K mg base (omOf K ρ) "lot_of" 1 2 [] F_lot_of := by
  obtain ⟨fd, ok, bd⟩ := fk_lot_of (P := P) (w := w) (base := base) (ρ := ρ) g
  exact gFn rfl (g.glo 64) (g.keep 65) ok bd
/-! ### Frame.__init__ -/
def b_Frame_init : SF := (sSeq (sFldT 0 0 (eVar 1) (eVar 0))
  (sSeq (sFldT 0 1 (eVar 2) (eVar 0))
  (sSeq (sFldT 0 2 (eVar 3) (eVar 0))
  (sSeq (sFldT 0 3 (eVar 4) (eVar 0))
  (sSeq (sFldT 0 4 (eDc (List.map (·.2) ([("work", 5)] : List (Str × Nat))) (pName 5) (iSeqS (eVar 1)) tTrue (eVar 5) (eCall 2 F_lot_of (([] : List T).drop 0) (aCons (eVar 1) (aCons (eCall 2 F_reached (([] : List T).drop 0) (aCons (eVar 2) (aCons (eVar 5) aNil))) aNil)))) (eVar 0))
  (sFldT 0 5 (eDc (List.map (·.2) ([("work", 5)] : List (Str × Nat))) (pName 5) (iSeqS (eVar 1)) tTrue (eVar 5) (eBi bTuple (aCons (eFroz (eLc (List.map (·.2) ([("one", 6)] : List (Str × Nat))) (pName 6) (iSeqS (eVar 1)) (tVal (eOp opIn (eVar 5) (eDget (eFld 0 4 (eVar 0)) (eVar 6)))) (eVar 6))) aNil))) (eVar 0)))))))
def F_Frame_init : FF := runB 7 b_Frame_init
abbrev N_Frame_init : List Str := ["self", "works", "needs", "dues", "hands", "work", "one"]
theorem nd_Frame_init : (N_Frame_init).Nodup := by decide +kernel
theorem bs_Frame_init (g : Gf fa fn ck K mg) : BodyS P w K mg base (omOf K ρ) 1 N_Frame_init (defScope s_Frame_init) (defBody s_Frame_init) b_Frame_init := fun qual f cdv A outer s H E hr => (mss_cons (ms_fld (c := 0) (g.cls 59) (g.noat 60) rfl fu_0_0 (fl_all 0) (me_var 0) (me_var 1))
  (mss_cons (ms_fld (c := 0) (g.cls 59) (g.noat 61) rfl fu_0_1 (fl_all 0) (me_var 0) (me_var 2))
  (mss_cons (ms_fld (c := 0) (g.cls 59) (g.noat 62) rfl fu_0_2 (fl_all 0) (me_var 0) (me_var 3))
  (mss_cons (ms_fld (c := 0) (g.cls 59) (g.noat 63) rfl fu_0_3 (fl_all 0) (me_var 0) (me_var 4))
  (mss_cons (ms_fld (c := 0) (g.cls 59) (g.noat 66) rfl fu_0_4 (fl_all 0) (me_var 0) (me_dc rfl nd_Frame_init (mi_seqS (me_var 1)) (own := [("work", 5)]) (blkOk (N := N_Frame_init) (sc := defScope s_Frame_init) (by decide +kernel)) (pat_name 5) (by decide +kernel) (fun _ _ _ _ _ => (pg_name nd_Frame_init rfl (Or.inl rfl))) (fun _ _ _ _ _ => mts_nil) (fun _ _ _ _ _ => (me_var 5)) (fun _ _ _ _ _ => (me_call 0 (fg_lot_of g) (hr.mono (by decide)) Mi.takes0 rfl (ma_cons (me_var 1) (ma_cons (me_call 0 (fg_reached g) (hr.mono (by decide)) Mi.takes0 rfl (ma_cons (me_var 2) (ma_cons (me_var 5) ma_nil))) ma_nil))))))
  (mss_one (ms_fld (c := 0) (g.cls 59) (g.noat 67) rfl fu_0_5 (fl_all 0) (me_var 0) (me_dc rfl nd_Frame_init (mi_seqS (me_var 1)) (own := [("work", 5)]) (blkOk (N := N_Frame_init) (sc := defScope s_Frame_init) (by decide +kernel)) (pat_name 5) (by decide +kernel) (fun _ _ _ _ _ => (pg_name nd_Frame_init rfl (Or.inr rfl))) (fun _ _ _ _ _ => mts_nil) (fun _ _ _ _ _ => (me_var 5)) (fun _ _ _ _ _ => (me_callTy call_tuple_of bTuple_ok rfl (g.free 27) (by decide +kernel) (ma_cons (me_lst (ml_lc rfl nd_Frame_init (mi_seqS (me_var 1)) (own := [("one", 6)]) (blkOk rfl) (pat_name 6) (by decide +kernel) (fun _ _ _ _ _ => (pg_name nd_Frame_init rfl (Or.inl rfl))) (fun _ _ _ _ _ => (mts_one (mt_cmp (op_in2 (un65 hr)) opIn_ok (me_var 5) (me_dget (un1 hr) (me_fld (c := 0) (g.cls 59) (g.noat 66) rfl fu_0_4 (me_var 0)) (me_var 6))))) (fun _ _ _ _ _ => (me_var 6)))) ma_nil)))))))))))
theorem sc_Frame_init : FnScope N_Frame_init ["self", "works", "needs", "dues", "hands"] (defScope s_Frame_init) := ⟨rfl, rfl, rfl, nd_Frame_init, rfl, by decide +kernel, by decide +kernel⟩
theorem fk_Frame_init (g : Gf fa fn ck K mg) : ∃ fd, FnOk P w K mg base (L2.CX P w) 2 ((fn.getD 16 dummyD).adr K) fd ["self", "works", "needs", "dues", "hands"] (spF K (omOf K ρ) 5 F_Frame_init) ∧ BndL K fd ["self", "works", "needs", "dues", "hands"] (omOf K ρ) [] := by
  obtain ⟨fd, F⟩ := g.def_ 16 (d := fn.getD 16 dummyD)
  exact ⟨fd, fnOk_of F sc_Frame_init (bs_Frame_init g), bndN F fun _ _ _ _ _ _ us hl => match us, hl with | [_, _, _, _, _], _ => rfl⟩
theorem fg_Frame_init (g : Gf fa fn ck K mg) : MkG P w K mg base (omOf K ρ) "Frame" 0 2 5 F_Frame_init := by
  obtain ⟨fd, ok, bd⟩ := fk_Frame_init (P := P) (w := w) (base := base) (ρ := ρ) g
  exact gMk rfl (g.glo 68) (g.mkr 69) ok bd
/-! ### read -/
def b_read : SF := (sSeq (sIf (tNot2 (tTru (eIsT "str" (eVar 0)))) sNo sNil)
  (sSeq (sPar 1 2 (aCons (eFroz (lSplit (eVar 0) (eC (.str [10])))) (aCons (eMake false 1 1 F_Reading_init aNil) aNil)))
  (sSeq (sFor (pSeq 2 (psCons (pName 3) (psCons (pName 4) psNil))) (iFun enS (aCons (eVar 1) aNil)) (sIf (tNot2 (tTru (eMeth 1 2 F_Reading_reads (([] : List T).drop 0) (eVar 2) (aCons (eVar 4) aNil)))) sNo sNil))
  (sSeq (sIf (tVal (eOp opEq (eFld 1 3 (eVar 2)) (eTup aNil))) sNo sNil)
  (sRet (eMake true 0 5 F_Frame_init (aCons (eFld 1 0 (eVar 2)) (aCons (eBi bTuple (aCons (eFld 1 1 (eVar 2)) aNil)) (aCons (eFld 1 2 (eVar 2)) (aCons (eFld 1 3 (eVar 2)) aNil))))))))))
def F_read : FF := runB 5 b_read
abbrev N_read : List Str := ["text", "lines", "found", "number", "line"]
theorem nd_read : (N_read).Nodup := by decide +kernel
theorem bs_read (g : Gf fa fn ck K mg) : BodyS P w K mg base (omOf K ρ) 6 N_read (defScope s_read) (defBody s_read) b_read := fun qual f cdv A outer s H E hr => (mss_cons (ms_if (mt_not (mt_tru (me_isT (n := "str") (by decide) rfl (g.free 13) rfl (g.free 12) (by decide +kernel) (me_var 0)))) (mss_one ms_no) mss_nil)
  (mss_cons (ms_par rfl nd_read rfl rfl (by decide) rfl rfl (ma_cons (me_lst (ml_split (me_var 0) (g.eStr 14 rfl))) (ma_cons (me_make0 false (fg_Reading_init g) (hr.mono (by decide)) (takes_of rfl rfl rfl rfl) rfl) ma_nil)))
  (mss_cons (ms_for (passes_of rfl) rfl (mi_enumS rfl (g.free 23) (ma_cons (me_var 1) ma_nil)) (pat_seq (n := 2) (pats_cons (pat_name 3) (pats_cons (pat_name 4) pats_nil))) (pg_seq (n := 2) rfl (pgs_cons (pg_name nd_read rfl (Or.inl rfl)) (pgs_cons (pg_name nd_read rfl (Or.inl rfl)) pgs_nil))) (mss_one (ms_if (mt_not (mt_tru (me_meth 0 (fg_Reading_reads g) (hr.mono (by decide)) (takes_of rfl rfl rfl rfl) (me_var 2) (ma_cons (me_var 4) ma_nil)))) (mss_one ms_no) mss_nil)))
  (mss_cons (ms_if (mt_cmp (op_eqD (un64 hr)) opEq_ok (me_fld (c := 1) (g.cls 15) (g.noat 19) rfl fu_1_3 (me_var 2)) (me_tup ma_nil) (nomark _)) (mss_one ms_no) mss_nil)
  (mss_one (ms_ret (me_make true (fg_Frame_init g) (hr.mono (by decide)) (takes_of rfl rfl rfl rfl) rfl (ma_cons (me_fld (c := 1) (g.cls 15) (g.noat 16) rfl fu_1_0 (me_var 2)) (ma_cons (me_callTy call_tuple_of bTuple_ok rfl (g.free 27) (by decide +kernel) (ma_cons (me_fld (c := 1) (g.cls 15) (g.noat 17) rfl fu_1_1 (me_var 2)) ma_nil)) (ma_cons (me_fld (c := 1) (g.cls 15) (g.noat 18) rfl fu_1_2 (me_var 2)) (ma_cons (me_fld (c := 1) (g.cls 15) (g.noat 19) rfl fu_1_3 (me_var 2)) ma_nil)))))))))))
theorem sc_read : FnScope N_read ["text"] (defScope s_read) := ⟨rfl, rfl, rfl, nd_read, rfl, by decide +kernel, by decide +kernel⟩
theorem fk_read (g : Gf fa fn ck K mg) : ∃ fd, FnOk P w K mg base (L2.CX P w) 7 ((fn.getD 17 dummyD).adr K) fd ["text"] (spF K (omOf K ρ) 1 F_read) ∧ BndL K fd ["text"] (omOf K ρ) [] := by
  obtain ⟨fd, F⟩ := g.def_ 17 (d := fn.getD 17 dummyD)
  exact ⟨fd, fnOk_of F sc_read (bs_read g), bndN F fun _ _ _ _ _ _ us hl => match us, hl with | [_], _ => rfl⟩
theorem fg_read (g : Gf fa fn ck K mg) : FnG P w K mg base (omOf K ρ) "read" 7 1 [] F_read := by
  obtain ⟨fd, ok, bd⟩ := fk_read (P := P) (w := w) (base := base) (ρ := ρ) g
  exact gFn rfl (g.glo 70) (g.keep 71) ok bd
/-! ### Book.__init__ -/
def b_Book_init : SF := (sSeq (sFldT 2 0 (eCall 1 F_read (([] : List T).drop 0) (aCons (eVar 1) aNil)) (eVar 0))
  (sFldT 2 1 (eVar 1) (eVar 0)))
def F_Book_init : FF := runB 2 b_Book_init
abbrev N_Book_init : List Str := ["self", "text"]
theorem nd_Book_init : (N_Book_init).Nodup := by decide +kernel
theorem bs_Book_init (g : Gf fa fn ck K mg) : BodyS P w K mg base (omOf K ρ) 7 N_Book_init (defScope s_Book_init) (defBody s_Book_init) b_Book_init := fun qual f cdv A outer s H E hr => (mss_cons (ms_fld (c := 2) (g.cls 72) (g.noat 73) rfl fu_2_0 (fl_all 2) (me_var 0) (me_call 0 (fg_read g) (hr.mono (by decide)) (takes_of rfl rfl rfl rfl) rfl (ma_cons (me_var 1) ma_nil)))
  (mss_one (ms_fld (c := 2) (g.cls 72) (g.noat 74) rfl fu_2_1 (fl_all 2) (me_var 0) (me_var 1))))
theorem sc_Book_init : FnScope N_Book_init ["self", "text"] (defScope s_Book_init) := ⟨rfl, rfl, rfl, nd_Book_init, rfl, by decide +kernel, by decide +kernel⟩
theorem fk_Book_init (g : Gf fa fn ck K mg) : ∃ fd, FnOk P w K mg base (L2.CX P w) 8 ((fn.getD 18 dummyD).adr K) fd ["self", "text"] (spF K (omOf K ρ) 2 F_Book_init) ∧ BndL K fd ["self", "text"] (omOf K ρ) [] := by
  obtain ⟨fd, F⟩ := g.def_ 18 (d := fn.getD 18 dummyD)
  exact ⟨fd, fnOk_of F sc_Book_init (bs_Book_init g), bndN F fun _ _ _ _ _ _ us hl => match us, hl with | [_, _], _ => rfl⟩
theorem fg_Book_init (g : Gf fa fn ck K mg) : MkG P w K mg base (omOf K ρ) "Book" 2 8 2 F_Book_init := by
  obtain ⟨fd, ok, bd⟩ := fk_Book_init (P := P) (w := w) (base := base) (ρ := ρ) g
  exact gMk rfl (g.glo 75) (g.mkr 76) ok bd
/-! ### _law_made -/
def b_ulaw_made : SF := (sSeq (sSet 4 (eNewL (lPlus (eFroz (eLst (aCons (eOp opPlus (eC (.str [119, 111, 114, 107, 115, 32])) (eJoin (eC (.str [32])) (eVar 0))) aNil))) (eFroz (eLc (List.map (·.2) ([("_law_one", 5), ("_law_other", 6)] : List (Str × Nat))) (pSeq 2 (psCons (pName 5) (psCons (pName 6) psNil))) (iSeqS (eVar 1)) tTrue (eOp opPlus (eOp opPlus (eOp opPlus (eC (.str [97, 104, 101, 97, 100, 32])) (eOp opIx (eVar 0) (eVar 5))) (eC (.str [32]))) (eOp opIx (eVar 0) (eVar 6))))))))
  (sSeq (sExpr (eAlt (eMt isLoc mExtend (eVar 4) (aCons (eFroz (eLc (List.map (·.2) ([("_law_work", 7), ("_law_hour", 8)] : List (Str × Nat))) (pSeq 2 (psCons (pName 7) (psCons (pName 8) psNil))) (iSeqS (eVar 2)) tTrue (eOp opPlus (eOp opPlus (eOp opPlus (eC (.str [100, 117, 101, 32])) (eOp opIx (eVar 0) (eVar 7))) (eC (.str [32]))) (eBi bStrI (aCons (eVar 8) aNil))))) aNil)) (eMt isLoc mExtT (eVar 4) (aCons (eFroz (eLc (List.map (·.2) ([("_law_work", 7), ("_law_hour", 8)] : List (Str × Nat))) (pSeq 2 (psCons (pName 7) (psCons (pName 8) psNil))) (iSeqS (eVar 2)) tTrue (eOp opPlus (eOp opPlus (eOp opPlus (eC (.str [100, 117, 101, 32])) (eOp opIx (eVar 0) (eVar 7))) (eC (.str [32]))) (eBi bStrI (aCons (eVar 8) aNil))))) aNil))))
  (sRet (eMake true 2 2 F_Book_init (aCons (eJoin (eC (.str [10])) (eOp opPlus (eVar 4) (eFroz (eLst (aCons (eOp opPlus (eC (.str [104, 97, 110, 100, 115, 32])) (eVar 3)) aNil))))) aNil)))))
def F_ulaw_made : FF := runB 9 b_ulaw_made
abbrev N_ulaw_made : List Str := ["_law_names", "_law_twos", "_law_dues", "_law_hands", "_law_rows", "_law_one", "_law_other", "_law_work", "_law_hour"]
theorem nd_ulaw_made : (N_ulaw_made).Nodup := by decide +kernel
theorem bs_ulaw_made (g : Gf fa fn ck K mg) : BodyS P w K mg base (omOf K ρ) 9 N_ulaw_made (defScope s_ulaw_made) (defBody s_ulaw_made) b_ulaw_made := fun qual f cdv A outer s H E hr => (mss_cons (ms_set nd_ulaw_made rfl (Or.inl rfl) (me_newL (ml_plus (me_lst (ml_lst (ma_cons (me_bin op_plus opPlus_ok me_str (me_join me_str (me_var 0))) ma_nil))) (me_lst (ml_lc rfl nd_ulaw_made (mi_seqS (me_var 1)) (own := [("_law_one", 5), ("_law_other", 6)]) (blkOk (N := N_ulaw_made) (sc := defScope s_ulaw_made) (by decide +kernel)) (pat_seq (n := 2) (pats_cons (pat_name 5) (pats_cons (pat_name 6) pats_nil))) (by decide +kernel) (fun _ _ _ _ _ => (pg_seq (n := 2) rfl (pgs_cons (pg_name nd_ulaw_made rfl (Or.inl rfl)) (pgs_cons (pg_name nd_ulaw_made rfl (Or.inl rfl)) pgs_nil)))) (fun _ _ _ _ _ => mts_nil) (fun _ _ _ _ _ => (me_bin op_plus opPlus_ok (me_bin op_plus opPlus_ok (me_bin op_plus opPlus_ok me_str (me_ix (me_var 0) (me_var 5))) me_str) (me_ix (me_var 0) (me_var 6)))))))))
  (mss_cons (ms_expr (me_ext2 (me_var 4) (ma_cons (me_lst (ml_lc rfl nd_ulaw_made (mi_seqS (me_var 2)) (own := [("_law_work", 7), ("_law_hour", 8)]) (blkOk (N := N_ulaw_made) (sc := defScope s_ulaw_made) (by decide +kernel)) (pat_seq (n := 2) (pats_cons (pat_name 7) (pats_cons (pat_name 8) pats_nil))) (by decide +kernel) (fun _ _ _ _ _ => (pg_seq (n := 2) rfl (pgs_cons (pg_name nd_ulaw_made rfl (Or.inl rfl)) (pgs_cons (pg_name nd_ulaw_made rfl (Or.inl rfl)) pgs_nil)))) (fun _ _ _ _ _ => mts_nil) (fun _ _ _ _ _ => (me_bin op_plus opPlus_ok (me_bin op_plus opPlus_ok (me_bin op_plus opPlus_ok me_str (me_ix (me_var 0) (me_var 7))) me_str) (me_callTy call_str_int bStrI_ok rfl (g.free 12) (by decide +kernel) (ma_cons (me_var 8) ma_nil)))))) ma_nil)))
  (mss_one (ms_ret (me_make true (fg_Book_init g) (hr.mono (by decide)) (takes_of rfl rfl rfl rfl) rfl (ma_cons (me_join me_str (me_bin op_plus opPlus_ok (me_var 4) (me_lst (ml_lst (ma_cons (me_bin op_plus opPlus_ok me_str (me_var 3)) ma_nil))))) ma_nil))))))
theorem sc_ulaw_made : FnScope N_ulaw_made ["_law_names", "_law_twos", "_law_dues", "_law_hands"] (defScope s_ulaw_made) := ⟨rfl, rfl, rfl, nd_ulaw_made, rfl, by decide +kernel, by decide +kernel⟩
theorem fk_ulaw_made (g : Gf fa fn ck K mg) : ∃ fd, FnOk P w K mg base (L2.CX P w) 10 ((fn.getD 19 dummyD).adr K) fd ["_law_names", "_law_twos", "_law_dues", "_law_hands"] (spF K (omOf K ρ) 4 F_ulaw_made) ∧ BndL K fd ["_law_names", "_law_twos", "_law_dues", "_law_hands"] (omOf K ρ) [] := by
  obtain ⟨fd, F⟩ := g.def_ 19 (d := fn.getD 19 dummyD)
  exact ⟨fd, fnOk_of F sc_ulaw_made (bs_ulaw_made g), bndN F fun _ _ _ _ _ _ us hl => match us, hl with | [_, _, _, _], _ => rfl⟩
theorem fg_ulaw_made (g : Gf fa fn ck K mg) : FnG P w K mg base (omOf K ρ) "_law_made" 10 4 [] F_ulaw_made := by
  obtain ⟨fd, ok, bd⟩ := fk_ulaw_made (P := P) (w := w) (base := base) (ρ := ρ) g
  exact gFn rfl (g.glo 77) (g.keep 78) ok bd
/-! ### is_tuple -/
def b_is_tuple : SF := (sRet (eAnd (eIsT "tuple" (eVar 0)) (eAnd (eOp opGe (eBi bLen (aCons (eVar 0) aNil)) (eVar 1)) (eOr (eOp opIs (eVar 2) (eC .non)) (eOp opLe (eBi bLen (aCons (eVar 0) aNil)) (eVar 2))))))
def F_is_tuple : FF := runB 3 b_is_tuple
abbrev N_is_tuple : List Str := ["value", "least", "most"]
theorem nd_is_tuple : (N_is_tuple).Nodup := by decide +kernel
theorem bs_is_tuple (g : Gf fa fn ck K mg) : BodyS P w K mg base (omOf K ρ) 0 N_is_tuple (defScope s_is_tuple) (defBody s_is_tuple) b_is_tuple := fun qual f cdv A outer s H E hr => (mss_one (ms_ret (me_and (me_isT (n := "tuple") (by decide) rfl (g.free 13) rfl (g.free 27) (by decide +kernel) (me_var 0)) (me_and (me_cmp op_ge opGe_ok (me_callB call_len2 bLen_ok rfl (g.free 0) (by decide +kernel) (ma_cons (me_var 0) ma_nil)) (me_var 1) (nomark _)) (me_one (me_or (me_cmp op_is2 opIs_ok (me_var 2) me_non (nomark _)) (me_one (me_cmp op_le opLe_ok (me_callB call_len2 bLen_ok rfl (g.free 0) (by decide +kernel) (ma_cons (me_var 0) ma_nil)) (me_var 2) (nomark _)))))))))
theorem sc_is_tuple : FnScope N_is_tuple ["value", "least", "most"] (defScope s_is_tuple) := ⟨rfl, rfl, rfl, nd_is_tuple, rfl, by decide +kernel, by decide +kernel⟩
theorem fk_is_tuple (g : Gf fa fn ck K mg) : ∃ fd, FnOk P w K mg base (L2.CX P w) 1 ((fn.getD 20 dummyD).adr K) fd ["value", "least", "most"] (spF K (omOf K ρ) 3 F_is_tuple) ∧ BndL K fd ["value", "least", "most"] (omOf K ρ) [.int 0, .non] := by
  obtain ⟨fd, F⟩ := g.def_ 20 (d := fn.getD 20 dummyD)
  refine ⟨fd, fnOk_of F sc_is_tuple (bs_is_tuple g), fun j hj => ?_⟩
  match j, hj with
  | 0, _ => obtain ⟨ds, h1, h2⟩ := FunD.binds1 (ps := ["value", "least", "most"]) F 1 0 (List.cons_ne_nil _ _) rfl (fun _ _ _ _ _ _ _ us its hu hi => match us, its, hu, hi with | [_], [_, _], _, _ => ⟨_, rfl, rfl⟩); exact ⟨ds, _, h2, h1, fun _ _ _ _ => .cons (.int 0) (.cons .non (.nil))⟩
  | 1, _ => obtain ⟨ds, h1, h2⟩ := FunD.binds1 (ps := ["value", "least", "most"]) F 2 1 (List.cons_ne_nil _ _) rfl (fun _ _ _ _ _ _ _ us its hu hi => match us, its, hu, hi with | [_, _], [_, _], _, _ => ⟨_, rfl, rfl⟩); exact ⟨ds, _, h2, h1, fun _ _ _ _ => .cons .non (.nil)⟩
  | 2, _ => obtain ⟨ds, h1, h2⟩ := FunD.binds1 (ps := ["value", "least", "most"]) F 3 2 (List.cons_ne_nil _ _) rfl (fun _ _ _ _ _ _ _ us its hu hi => match us, its, hu, hi with | [_, _, _], [_, _], _, _ => ⟨_, rfl, rfl⟩); exact ⟨ds, _, h2, h1, fun _ _ _ _ => .nil⟩
  | j + 3, hj => exact absurd (show j + 3 ≤ 2 from hj) (by omega)
theorem fg_is_tuple (g : Gf fa fn ck K mg) : FnG P w K mg base (omOf K ρ) "is_tuple" 1 3 [.int 0, .non] F_is_tuple := by
  obtain ⟨fd, ok, bd⟩ := fk_is_tuple (P := P) (w := w) (base := base) (ρ := ρ) g
  exact gFn rfl (g.glo 79) (g.keep 80) ok bd
/-! ### is_word -/
def b_is_word : SF := (sRet (eAnd (eIsT "str" (eVar 0)) (eOp opIn (eVar 0) (eVar 1))))
def F_is_word : FF := runB 2 b_is_word
abbrev N_is_word : List Str := ["value", "words"]
theorem nd_is_word : (N_is_word).Nodup := by decide +kernel
theorem bs_is_word (g : Gf fa fn ck K mg) : BodyS P w K mg base (omOf K ρ) 0 N_is_word (defScope s_is_word) (defBody s_is_word) b_is_word := fun qual f cdv A outer s H E hr => (mss_one (ms_ret (me_and (me_isT (n := "str") (by decide) rfl (g.free 13) rfl (g.free 12) (by decide +kernel) (me_var 0)) (me_one (me_cmp (op_in2 (un65 hr)) opIn_ok (me_var 0) (me_var 1))))))
theorem sc_is_word : FnScope N_is_word ["value", "words"] (defScope s_is_word) := ⟨rfl, rfl, rfl, nd_is_word, rfl, by decide +kernel, by decide +kernel⟩
theorem fk_is_word (g : Gf fa fn ck K mg) : ∃ fd, FnOk P w K mg base (L2.CX P w) 1 ((fn.getD 21 dummyD).adr K) fd ["value", "words"] (spF K (omOf K ρ) 2 F_is_word) ∧ BndL K fd ["value", "words"] (omOf K ρ) [] := by
  obtain ⟨fd, F⟩ := g.def_ 21 (d := fn.getD 21 dummyD)
  exact ⟨fd, fnOk_of F sc_is_word (bs_is_word g), bndN F fun _ _ _ _ _ _ us hl => match us, hl with | [_, _], _ => rfl⟩
theorem fg_is_word (g : Gf fa fn ck K mg) : FnG P w K mg base (omOf K ρ) "is_word" 1 2 [] F_is_word := by
  obtain ⟨fd, ok, bd⟩ := fk_is_word (P := P) (w := w) (base := base) (ρ := ρ) g
  exact gFn rfl (g.glo 81) (g.keep 82) ok bd
/-! ### is_lot -/
def b_is_lot : SF := (sSeq (sIf (tOr2 (tNot2 (tTru (eIsT "tuple" (eVar 1)))) (tNot2 (tTru (eBi bAll (aCons (eFroz (eLc (List.map (·.2) ([("name", 2)] : List (Str × Nat))) (pName 2) (iSeqS (eVar 1)) tTrue (eCall 2 F_is_word (([] : List T).drop 0) (aCons (eVar 2) (aCons (eVar 0) aNil))))) aNil))))) (sRet (eC (.bl false))) sNil)
  (sRet (eOp opEq (eVar 1) (eCall 2 F_lot_of (([] : List T).drop 0) (aCons (eVar 0) (aCons (eVar 1) aNil))))))
def F_is_lot : FF := runB 3 b_is_lot
abbrev N_is_lot : List Str := ["whole", "value", "name"]
theorem nd_is_lot : (N_is_lot).Nodup := by decide +kernel
theorem bs_is_lot (g : Gf fa fn ck K mg) : BodyS P w K mg base (omOf K ρ) 1 N_is_lot (defScope s_is_lot) (defBody s_is_lot) b_is_lot := fun qual f cdv A outer s H E hr => (mss_cons (ms_if (mt_w (mw_or (mt_not (mt_tru (me_isT (n := "tuple") (by decide) rfl (g.free 13) rfl (g.free 27) (by decide +kernel) (me_var 1)))) (mw_or1 (mt_not (mt_tru (me_callB (cr_all rfl) bAll_ok rfl (g.free 29) (by decide +kernel) (ma_cons (me_lst (ml_lc rfl nd_is_lot (mi_seqS (me_var 1)) (own := [("name", 2)]) (blkOk (N := N_is_lot) (sc := defScope s_is_lot) (by decide +kernel)) (pat_name 2) (by decide +kernel) (fun _ _ _ _ _ => (pg_name nd_is_lot rfl (Or.inl rfl))) (fun _ _ _ _ _ => mts_nil) (fun _ _ _ _ _ => (me_call 0 (fg_is_word g) (hr.mono (by decide)) Mi.takes0 rfl (ma_cons (me_var 2) (ma_cons (me_var 0) ma_nil)))))) ma_nil))))))) (mss_one (ms_ret me_bl)) mss_nil)
  (mss_one (ms_ret (me_cmp (op_eqD (un64 hr)) opEq_ok (me_var 1) (me_call 0 (fg_lot_of g) (hr.mono (by decide)) (takes_of rfl rfl rfl rfl) rfl (ma_cons (me_var 0) (ma_cons (me_var 1) ma_nil))) (nomark _)))))
theorem sc_is_lot : FnScope N_is_lot ["whole", "value"] (defScope s_is_lot) := ⟨rfl, rfl, rfl, nd_is_lot, rfl, by decide +kernel, by decide +kernel⟩
theorem fk_is_lot (g : Gf fa fn ck K mg) : ∃ fd, FnOk P w K mg base (L2.CX P w) 2 ((fn.getD 22 dummyD).adr K) fd ["whole", "value"] (spF K (omOf K ρ) 2 F_is_lot) ∧ BndL K fd ["whole", "value"] (omOf K ρ) [] := by
  obtain ⟨fd, F⟩ := g.def_ 22 (d := fn.getD 22 dummyD)
  exact ⟨fd, fnOk_of F sc_is_lot (bs_is_lot g), bndN F fun _ _ _ _ _ _ us hl => match us, hl with | [_, _], _ => rfl⟩
theorem fg_is_lot (g : Gf fa fn ck K mg) : FnG P w K mg base (omOf K ρ) "is_lot" 2 2 [] F_is_lot := by
  obtain ⟨fd, ok, bd⟩ := fk_is_lot (P := P) (w := w) (base := base) (ρ := ρ) g
  exact gFn rfl (g.glo 83) (g.keep 84) ok bd
/-! ### has_all -/
def b_has_all : SF := (sRet (eBi bAll (aCons (eFroz (eLc (List.map (·.2) ([("one", 2)] : List (Str × Nat))) (pName 2) (iSeqS (eVar 1)) tTrue (eOp opIn (eVar 2) (eVar 0)))) aNil)))
def F_has_all : FF := runB 3 b_has_all
abbrev N_has_all : List Str := ["some", "others", "one"]
theorem nd_has_all : (N_has_all).Nodup := by decide +kernel
theorem bs_has_all (g : Gf fa fn ck K mg) : BodyS P w K mg base (omOf K ρ) 0 N_has_all (defScope s_has_all) (defBody s_has_all) b_has_all := fun qual f cdv A outer s H E hr => (mss_one (ms_ret (me_callB (cr_all rfl) bAll_ok rfl (g.free 29) (by decide +kernel) (ma_cons (me_lst (ml_lc rfl nd_has_all (mi_seqS (me_var 1)) (own := [("one", 2)]) (blkOk (N := N_has_all) (sc := defScope s_has_all) (by decide +kernel)) (pat_name 2) (by decide +kernel) (fun _ _ _ _ _ => (pg_name nd_has_all rfl (Or.inl rfl))) (fun _ _ _ _ _ => mts_nil) (fun _ _ _ _ _ => (me_cmp (op_in2 (un65 hr)) opIn_ok (me_var 2) (me_var 0))))) ma_nil))))
theorem sc_has_all : FnScope N_has_all ["some", "others"] (defScope s_has_all) := ⟨rfl, rfl, rfl, nd_has_all, rfl, by decide +kernel, by decide +kernel⟩
theorem fk_has_all (g : Gf fa fn ck K mg) : ∃ fd, FnOk P w K mg base (L2.CX P w) 1 ((fn.getD 23 dummyD).adr K) fd ["some", "others"] (spF K (omOf K ρ) 2 F_has_all) ∧ BndL K fd ["some", "others"] (omOf K ρ) [] := by
  obtain ⟨fd, F⟩ := g.def_ 23 (d := fn.getD 23 dummyD)
  exact ⟨fd, fnOk_of F sc_has_all (bs_has_all g), bndN F fun _ _ _ _ _ _ us hl => match us, hl with | [_, _], _ => rfl⟩
theorem fg_has_all (g : Gf fa fn ck K mg) : FnG P w K mg base (omOf K ρ) "has_all" 1 2 [] F_has_all := by
  obtain ⟨fd, ok, bd⟩ := fk_has_all (P := P) (w := w) (base := base) (ρ := ρ) g
  exact gFn rfl (g.glo 85) (g.keep 86) ok bd
/-! ### is_plan -/
def b_is_plan : SF := (sSeq (sIf (tOr2 (tNot2 (tTru (eCall 3 F_is_tuple (([.int 0, .non] : List T).drop 1) (aCons (eVar 1) (aCons (eC (.int 1)) aNil))))) (tOr2 (tNot2 (tTru (eBi bAll (aCons (eFroz (eLc (List.map (·.2) ([("lot", 3)] : List (Str × Nat))) (pName 3) (iSeqS (eVar 1)) tTrue (eCall 2 F_is_lot (([] : List T).drop 0) (aCons (eFld 0 0 (eVar 0)) (aCons (eVar 3) aNil))))) aNil)))) (tVal (eOp opEq (eOp opIx (eVar 1) (eNeg (eC (.int 1)))) (eTup aNil))))) (sRet (eC (.bl false))) sNil)
  (sSeq (sSet 2 (eFroz (eLc2 (List.map (·.2) ([("lot", 3), ("work", 4)] : List (Str × Nat))) [4] (pName 3) (iSeqS (eVar 1)) tTrue (pName 4) (iSeqS (eVar 3)) tTrue (eVar 4))))
  (sRet (eAnd (eOp opEq (eBi bLen (aCons (eVar 2) aNil)) (eBi bLen (aCons (eFld 0 0 (eVar 0)) aNil))) (eCall 2 F_has_all (([] : List T).drop 0) (aCons (eVar 2) (aCons (eFld 0 0 (eVar 0)) aNil)))))))
def F_is_plan : FF := runB 5 b_is_plan
abbrev N_is_plan : List Str := ["frame", "value", "every", "lot", "work"]
theorem nd_is_plan : (N_is_plan).Nodup := by decide +kernel
theorem bs_is_plan (g : Gf fa fn ck K mg) : BodyS P w K mg base (omOf K ρ) 2 N_is_plan (defScope s_is_plan) (defBody s_is_plan) b_is_plan := fun qual f cdv A outer s H E hr => (mss_cons (ms_if (mt_w (mw_or (mt_not (mt_tru (me_call 1 (fg_is_tuple g) (hr.mono (by decide)) (takes_of rfl rfl rfl rfl) rfl (ma_cons (me_var 1) (ma_cons me_int ma_nil))))) (mw_or (mt_not (mt_tru (me_callB (cr_all rfl) bAll_ok rfl (g.free 29) (by decide +kernel) (ma_cons (me_lst (ml_lc rfl nd_is_plan (mi_seqS (me_var 1)) (own := [("lot", 3)]) (blkOk (N := N_is_plan) (sc := defScope s_is_plan) (by decide +kernel)) (pat_name 3) (by decide +kernel) (fun _ _ _ _ _ => (pg_name nd_is_plan rfl (Or.inl rfl))) (fun _ _ _ _ _ => mts_nil) (fun _ _ _ _ _ => (me_call 0 (fg_is_lot g) (hr.mono (by decide)) Mi.takes0 rfl (ma_cons (me_fld (c := 0) (g.cls 59) (g.noat 60) rfl fu_0_0 (me_var 0)) (ma_cons (me_var 3) ma_nil)))))) ma_nil)))) (mw_or1 (mt_cmp (op_eqD (un64 hr)) opEq_ok (me_ix (me_var 1) (me_neg me_int)) (me_tup ma_nil) (nomark _)))))) (mss_one (ms_ret me_bl)) mss_nil)
  (mss_cons (ms_lc2F [4] rfl nd_is_plan rfl rfl (mi_seqS (me_var 1)) (own := [("lot", 3), ("work", 4)]) (blkOk (N := N_is_plan) (sc := defScope s_is_plan) (by decide +kernel)) (pat_name 3) (by decide +kernel) (pat_name 4) (by decide +kernel) (by decide +kernel) (fun _ _ _ _ _ => (pg_name nd_is_plan rfl (Or.inl rfl))) (fun _ _ _ _ _ => mts_nil) (fun _ _ _ _ _ => (mi_seqS (me_var 3))) (fun _ _ _ _ _ => (pg_name nd_is_plan rfl (Or.inl rfl))) (fun _ _ _ _ _ => mts_nil) (fun _ _ _ _ _ => (me_var 4)))
  (mss_one (ms_ret (me_and (me_cmp (op_eqD (un64 hr)) opEq_ok (me_callB call_len2 bLen_ok rfl (g.free 0) (by decide +kernel) (ma_cons (me_var 2) ma_nil)) (me_callB call_len2 bLen_ok rfl (g.free 0) (by decide +kernel) (ma_cons (me_fld (c := 0) (g.cls 59) (g.noat 60) rfl fu_0_0 (me_var 0)) ma_nil)) (nomark _)) (me_one (me_call 0 (fg_has_all g) (hr.mono (by decide)) (takes_of rfl rfl rfl rfl) rfl (ma_cons (me_var 2) (ma_cons (me_fld (c := 0) (g.cls 59) (g.noat 60) rfl fu_0_0 (me_var 0)) ma_nil)))))))))
theorem sc_is_plan : FnScope N_is_plan ["frame", "value"] (defScope s_is_plan) := ⟨rfl, rfl, rfl, nd_is_plan, rfl, by decide +kernel, by decide +kernel⟩
theorem fk_is_plan (g : Gf fa fn ck K mg) : ∃ fd, FnOk P w K mg base (L2.CX P w) 3 ((fn.getD 24 dummyD).adr K) fd ["frame", "value"] (spF K (omOf K ρ) 2 F_is_plan) ∧ BndL K fd ["frame", "value"] (omOf K ρ) [] := by
  obtain ⟨fd, F⟩ := g.def_ 24 (d := fn.getD 24 dummyD)
  exact ⟨fd, fnOk_of F sc_is_plan (bs_is_plan g), bndN F fun _ _ _ _ _ _ us hl => match us, hl with | [_, _], _ => rfl⟩
theorem fg_is_plan (g : Gf fa fn ck K mg) : FnG P w K mg base (omOf K ρ) "is_plan" 3 2 [] F_is_plan := by
  obtain ⟨fd, ok, bd⟩ := fk_is_plan (P := P) (w := w) (base := base) (ρ := ρ) g
  exact gFn rfl (g.glo 87) (g.keep 88) ok bd
/-! ### check_plan -/
def b_check_plan : SF := (sIf (tNot2 (tTru (eCall 2 F_is_plan (([] : List T).drop 0) (aCons (eVar 0) (aCons (eVar 1) aNil))))) sNo sNil)
def F_check_plan : FF := runB 2 b_check_plan
abbrev N_check_plan : List Str := ["frame", "value"]
theorem nd_check_plan : (N_check_plan).Nodup := by decide +kernel
theorem bs_check_plan (g : Gf fa fn ck K mg) : BodyS P w K mg base (omOf K ρ) 3 N_check_plan (defScope s_check_plan) (defBody s_check_plan) b_check_plan := fun qual f cdv A outer s H E hr => (mss_one (ms_if (mt_not (mt_tru (me_call 0 (fg_is_plan g) (hr.mono (by decide)) (takes_of rfl rfl rfl rfl) rfl (ma_cons (me_var 0) (ma_cons (me_var 1) ma_nil))))) (mss_one ms_no) mss_nil))
theorem sc_check_plan : FnScope N_check_plan ["frame", "value"] (defScope s_check_plan) := ⟨rfl, rfl, rfl, nd_check_plan, rfl, by decide +kernel, by decide +kernel⟩
theorem fk_check_plan (g : Gf fa fn ck K mg) : ∃ fd, FnOk P w K mg base (L2.CX P w) 4 ((fn.getD 25 dummyD).adr K) fd ["frame", "value"] (spF K (omOf K ρ) 2 F_check_plan) ∧ BndL K fd ["frame", "value"] (omOf K ρ) [] := by
  obtain ⟨fd, F⟩ := g.def_ 25 (d := fn.getD 25 dummyD)
  exact ⟨fd, fnOk_of F sc_check_plan (bs_check_plan g), bndN F fun _ _ _ _ _ _ us hl => match us, hl with | [_, _], _ => rfl⟩
theorem fg_check_plan (g : Gf fa fn ck K mg) : FnG P w K mg base (omOf K ρ) "check_plan" 4 2 [] F_check_plan := by
  obtain ⟨fd, ok, bd⟩ := fk_check_plan (P := P) (w := w) (base := base) (ρ := ρ) g
  exact gFn rfl (g.glo 89) (g.keep 90) ok bd
/-! ### Frame.hands_in -/
def b_Frame_hands_in : SF := (sRet (eOp opIx (eFld 0 3 (eVar 0)) (eOp opSub (eBi bMin2 (aCons (eVar 1) (aCons (eBi bLen (aCons (eFld 0 3 (eVar 0)) aNil)) aNil))) (eC (.int 1)))))
def F_Frame_hands_in : FF := runB 2 b_Frame_hands_in
abbrev N_Frame_hands_in : List Str := ["self", "hour"]
theorem nd_Frame_hands_in : (N_Frame_hands_in).Nodup := by decide +kernel
theorem bs_Frame_hands_in (g : Gf fa fn ck K mg) : BodyS P w K mg base (omOf K ρ) 0 N_Frame_hands_in (defScope s_Frame_hands_in) (defBody s_Frame_hands_in) b_Frame_hands_in := fun qual f cdv A outer s H E hr => (mss_one (ms_ret (me_ix (me_fld (c := 0) (g.cls 59) (g.noat 63) rfl fu_0_3 (me_var 0)) (me_bin op_sub opSub_ok (me_callB (call_min2 rfl) bMin2_ok rfl (g.free 1) (by decide +kernel) (ma_cons (me_var 1) (ma_cons (me_callB call_len2 bLen_ok rfl (g.free 0) (by decide +kernel) (ma_cons (me_fld (c := 0) (g.cls 59) (g.noat 63) rfl fu_0_3 (me_var 0)) ma_nil)) ma_nil))) me_int))))
theorem sc_Frame_hands_in : FnScope N_Frame_hands_in ["self", "hour"] (defScope s_Frame_hands_in) := ⟨rfl, rfl, rfl, nd_Frame_hands_in, rfl, by decide +kernel, by decide +kernel⟩
theorem fk_Frame_hands_in (g : Gf fa fn ck K mg) : ∃ fd, FnOk P w K mg base (L2.CX P w) 1 ((fn.getD 26 dummyD).adr K) fd ["self", "hour"] (spF K (omOf K ρ) 2 F_Frame_hands_in) ∧ BndL K fd ["self", "hour"] (omOf K ρ) [] := by
  obtain ⟨fd, F⟩ := g.def_ 26 (d := fn.getD 26 dummyD)
  exact ⟨fd, fnOk_of F sc_Frame_hands_in (bs_Frame_hands_in g), bndN F fun _ _ _ _ _ _ us hl => match us, hl with | [_, _], _ => rfl⟩
theorem fg_Frame_hands_in (g : Gf fa fn ck K mg) : MeG P w K mg base (omOf K ρ) 0 "hands_in" 1 2 [] F_Frame_hands_in := by
  obtain ⟨fd, ok, bd⟩ := fk_Frame_hands_in (P := P) (w := w) (base := base) (ρ := ρ) g
  exact gMe rfl (g.cls 59) (g.meth 91) nm_Frame_hands_in ok bd
/-! ### first_wrong -/
def b_first_wrong : SF := (sSeq (sSet 2 (eNewL (eLst aNil)))
  (sSeq (sFor (pSeq 2 (psCons (pName 3) (psCons (pName 4) psNil))) (iFun enS (aCons (eVar 1) aNil)) (sSeq (sIf (tVal (eOp opGt (eBi bLen (aCons (eVar 4) aNil)) (eMeth 0 2 F_Frame_hands_in (([] : List T).drop 0) (eVar 0) (aCons (eOp opPlus (eVar 3) (eC (.int 1))) aNil)))) (sRet (eTup (aCons (eC (.str [104, 97, 110, 100, 115])) (aCons (eOp opPlus (eVar 3) (eC (.int 1))) aNil)))) sNil)
  (sSeq (sSet 5 (eFroz (eLc (List.map (·.2) ([("one", 7)] : List (Str × Nat))) (pName 7) (iSeqS (eFld 0 0 (eVar 0))) (tVal (eOp opNotIn (eVar 7) (eVar 2))) (eVar 7))))
  (sSeq (sSet 6 (eFroz (eLc2 (List.map (·.2) ([("one", 7), ("other", 8)] : List (Str × Nat))) [8] (pName 7) (iSeqS (eVar 5)) tTrue (pName 8) (iSeqS (eVar 4)) (tVal (eOp opIn (eVar 8) (eDget (eFld 0 4 (eVar 0)) (eVar 7)))) (eTup (aCons (eVar 7) (aCons (eVar 8) aNil))))))
  (sSeq (sIf (tVal (eOp opNe (eVar 6) (eFroz (eLst aNil)))) (sRet (eTup (aCons (eC (.str [101, 97, 114, 108, 121])) (aCons (eOp opPlus (eVar 3) (eC (.int 1))) (aStar (eOp opIx (eVar 6) (eC (.int 0))) aNil))))) sNil)
  (sExpr (eAlt (eMt isLoc mExtend (eVar 2) (aCons (eVar 4) aNil)) (eMt isLoc mExtT (eVar 2) (aCons (eVar 4) aNil)))))))))
  (sRet (eC .non))))
def F_first_wrong : FF := runB 9 b_first_wrong
abbrev N_first_wrong : List Str := ["frame", "plan", "done", "at", "lot", "some", "early", "one", "other"]
theorem nd_first_wrong : (N_first_wrong).Nodup := by decide +kernel
theorem bs_first_wrong (g : Gf fa fn ck K mg) : BodyS P w K mg base (omOf K ρ) 2 N_first_wrong (defScope s_first_wrong) (defBody s_first_wrong) b_first_wrong := fun qual f cdv A outer s H E hr => (mss_cons (ms_set nd_first_wrong rfl (Or.inr rfl) (me_newL (ml_lst ma_nil)))
  (mss_cons (ms_for (passes_of rfl) rfl (mi_enumS rfl (g.free 23) (ma_cons (me_var 1) ma_nil)) (pat_seq (n := 2) (pats_cons (pat_name 3) (pats_cons (pat_name 4) pats_nil))) (pg_seq (n := 2) rfl (pgs_cons (pg_name nd_first_wrong rfl (Or.inl rfl)) (pgs_cons (pg_name nd_first_wrong rfl (Or.inr rfl)) pgs_nil))) (mss_cons (ms_if (mt_cmp op_gt opGt_ok (me_callB call_len2 bLen_ok rfl (g.free 0) (by decide +kernel) (ma_cons (me_var 4) ma_nil)) (me_meth 0 (fg_Frame_hands_in g) (hr.mono (by decide)) (takes_of rfl rfl rfl rfl) (me_var 0) (ma_cons (me_bin op_plus opPlus_ok (me_var 3) me_int) ma_nil)) (nomark _)) (mss_one (ms_ret (me_tup (ma_cons (g.eStr 92 rfl) (ma_cons (me_bin op_plus opPlus_ok (me_var 3) me_int) ma_nil))))) mss_nil)
  (mss_cons (ms_lcF rfl nd_first_wrong rfl rfl (mi_seqS (me_fld (c := 0) (g.cls 59) (g.noat 60) rfl fu_0_0 (me_var 0))) (own := [("one", 7)]) (blkOk (N := N_first_wrong) (sc := defScope s_first_wrong) (by decide +kernel)) (pat_name 7) (by decide +kernel) (fun _ _ _ _ _ => (pg_name nd_first_wrong rfl (Or.inl rfl))) (fun _ _ _ _ _ => (mts_one (mt_cmp (op_notIn2 (un65 hr)) opNotIn_ok (me_var 7) (me_var 2)))) (fun _ _ _ _ _ => (me_var 7)))
  (mss_cons (ms_lc2F [8] rfl nd_first_wrong rfl rfl (mi_seqS (me_var 5)) (own := [("one", 7), ("other", 8)]) (blkOk (N := N_first_wrong) (sc := defScope s_first_wrong) (by decide +kernel)) (pat_name 7) (by decide +kernel) (pat_name 8) (by decide +kernel) (by decide +kernel) (fun _ _ _ _ _ => (pg_name nd_first_wrong rfl (Or.inl rfl))) (fun _ _ _ _ _ => mts_nil) (fun _ _ _ _ _ => (mi_seqS (me_var 4))) (fun _ _ _ _ _ => (pg_name nd_first_wrong rfl (Or.inl rfl))) (fun _ _ _ _ _ => (mts_one (mt_cmp (op_in2 (un65 hr)) opIn_ok (me_var 8) (me_dget (un1 hr) (me_fld (c := 0) (g.cls 59) (g.noat 66) rfl fu_0_4 (me_var 0)) (me_var 7))))) (fun _ _ _ _ _ => (me_tup (ma_cons (me_var 7) (ma_cons (me_var 8) ma_nil)))))
  (mss_cons (ms_if (mt_cmp (op_neD (un64 hr)) opNe_ok (me_var 6) (me_lst (ml_lst ma_nil)) (nomark _)) (mss_one (ms_ret (me_tup (ma_cons (g.eStr 93 rfl) (ma_cons (me_bin op_plus opPlus_ok (me_var 3) me_int) (ma_star (me_ix (me_var 6) me_int) ma_nil)))))) mss_nil)
  (mss_one (ms_expr (me_ext2 (me_var 2) (ma_cons (me_var 4) ma_nil)))))))))
  (mss_one (ms_ret me_non))))
theorem sc_first_wrong : FnScope N_first_wrong ["frame", "plan"] (defScope s_first_wrong) := ⟨rfl, rfl, rfl, nd_first_wrong, rfl, by decide +kernel, by decide +kernel⟩
theorem fk_first_wrong (g : Gf fa fn ck K mg) : ∃ fd, FnOk P w K mg base (L2.CX P w) 3 ((fn.getD 27 dummyD).adr K) fd ["frame", "plan"] (spF K (omOf K ρ) 2 F_first_wrong) ∧ BndL K fd ["frame", "plan"] (omOf K ρ) [] := by
  obtain ⟨fd, F⟩ := g.def_ 27 (d := fn.getD 27 dummyD)
  exact ⟨fd, fnOk_of F sc_first_wrong (bs_first_wrong g), bndN F fun _ _ _ _ _ _ us hl => match us, hl with | [_, _], _ => rfl⟩
theorem fg_first_wrong (g : Gf fa fn ck K mg) : FnG P w K mg base (omOf K ρ) "first_wrong" 3 2 [] F_first_wrong := by
  obtain ⟨fd, ok, bd⟩ := fk_first_wrong (P := P) (w := w) (base := base) (ρ := ρ) g
  exact gFn rfl (g.glo 94) (g.keep 95) ok bd
/-! ### judged -/
def b_judged : SF := (sSeq (sExpr (eCall 2 F_check_plan (([] : List T).drop 0) (aCons (eFld 2 0 (eVar 0)) (aCons (eVar 1) aNil))))
  (sSeq (sSet 2 (eCall 2 F_first_wrong (([] : List T).drop 0) (aCons (eFld 2 0 (eVar 0)) (aCons (eVar 1) aNil))))
  (sRet (eIf (tVal (eOp opIs (eVar 2) (eC .non))) (eTup (aCons (eC (.str [114, 105, 103, 104, 116])) (aCons (eBi bLen (aCons (eVar 1) aNil)) aNil))) (eVar 2)))))
def F_judged : FF := runB 3 b_judged
abbrev N_judged : List Str := ["book", "plan", "found"]
theorem nd_judged : (N_judged).Nodup := by decide +kernel
theorem bs_judged (g : Gf fa fn ck K mg) : BodyS P w K mg base (omOf K ρ) 4 N_judged (defScope s_judged) (defBody s_judged) b_judged := fun qual f cdv A outer s H E hr => (mss_cons (ms_expr (me_call 0 (fg_check_plan g) (hr.mono (by decide)) (takes_of rfl rfl rfl rfl) rfl (ma_cons (me_fld (c := 2) (g.cls 72) (g.noat 73) rfl fu_2_0 (me_var 0)) (ma_cons (me_var 1) ma_nil))))
  (mss_cons (ms_set nd_judged rfl (Or.inl rfl) (me_call 0 (fg_first_wrong g) (hr.mono (by decide)) (takes_of rfl rfl rfl rfl) rfl (ma_cons (me_fld (c := 2) (g.cls 72) (g.noat 73) rfl fu_2_0 (me_var 0)) (ma_cons (me_var 1) ma_nil))))
  (mss_one (ms_ret (me_if (mt_cmp op_is2 opIs_ok (me_var 2) me_non (nomark _)) (me_tup (ma_cons (g.eStr 96 rfl) (ma_cons (me_callB call_len2 bLen_ok rfl (g.free 0) (by decide +kernel) (ma_cons (me_var 1) ma_nil)) ma_nil))) (me_var 2))))))
theorem sc_judged : FnScope N_judged ["book", "plan"] (defScope s_judged) := ⟨rfl, rfl, rfl, nd_judged, rfl, by decide +kernel, by decide +kernel⟩
theorem fk_judged (g : Gf fa fn ck K mg) : ∃ fd, FnOk P w K mg base (L2.CX P w) 5 ((fn.getD 28 dummyD).adr K) fd ["book", "plan"] (spF K (omOf K ρ) 2 F_judged) ∧ BndL K fd ["book", "plan"] (omOf K ρ) [] := by
  obtain ⟨fd, F⟩ := g.def_ 28 (d := fn.getD 28 dummyD)
  exact ⟨fd, fnOk_of F sc_judged (bs_judged g), bndN F fun _ _ _ _ _ _ us hl => match us, hl with | [_, _], _ => rfl⟩
theorem fg_judged (g : Gf fa fn ck K mg) : FnG P w K mg base (omOf K ρ) "judged" 5 2 [] F_judged := by
  obtain ⟨fd, ok, bd⟩ := fk_judged (P := P) (w := w) (base := base) (ρ := ρ) g
  exact gFn rfl (g.glo 97) (g.keep 98) ok bd
/-! ### _law_are_judged_right -/
def b_ulaw_are_judged_right : SF := (sSeq (sPat (pSeq 5 (psCons (pName 1) (psCons (pName 2) (psCons (pName 3) (psCons (pName 4) (psCons (pName 5) psNil)))))) (eVar 0))
  (sSeq (sSet 6 (eCall 4 F_ulaw_made (([] : List T).drop 0) (aCons (eVar 0) (aCons (eFroz (eLst (aCons (eTup (aCons (eC (.int 0)) (aCons (eC (.int 2)) aNil))) (aCons (eTup (aCons (eC (.int 0)) (aCons (eC (.int 3)) aNil))) (aCons (eTup (aCons (eC (.int 0)) (aCons (eC (.int 4)) aNil))) (aCons (eTup (aCons (eC (.int 1)) (aCons (eC (.int 3)) aNil))) (aCons (eTup (aCons (eC (.int 1)) (aCons (eC (.int 4)) aNil))) aNil))))))) (aCons (eFroz (eLst aNil)) (aCons (eC (.str [50])) aNil))))))
  (sSeq (sSet 7 (eFroz (eLst (aCons (eTup (aCons (eTup (aCons (eVar 1) (aCons (eVar 2) aNil))) (aCons (eTup (aCons (eVar 3) (aCons (eVar 4) aNil))) (aCons (eTup (aCons (eVar 5) aNil)) aNil)))) (aCons (eTup (aCons (eTup (aCons (eVar 1) (aCons (eVar 2) aNil))) (aCons (eTup (aCons (eVar 3) (aCons (eVar 5) aNil))) (aCons (eTup aNil) (aCons (eTup aNil) (aCons (eTup (aCons (eVar 4) aNil)) aNil)))))) (aCons (eTup (aCons (eTup (aCons (eVar 1) (aCons (eVar 2) (aCons (eVar 3) aNil)))) (aCons (eTup (aCons (eVar 4) (aCons (eVar 5) aNil))) aNil))) aNil))))))
  (sSeq (sIf (tVal (eOp opNe (eFroz (eLc (List.map (·.2) ([("_law_plan", 9)] : List (Str × Nat))) (pName 9) (iSeqS (eVar 7)) tTrue (eCall 2 F_judged (([] : List T).drop 0) (aCons (eVar 6) (aCons (eVar 9) aNil))))) (eFroz (eLst (aCons (eTup (aCons (eC (.str [114, 105, 103, 104, 116])) (aCons (eC (.int 3)) aNil))) (aCons (eTup (aCons (eC (.str [114, 105, 103, 104, 116])) (aCons (eC (.int 5)) aNil))) (aCons (eTup (aCons (eC (.str [104, 97, 110, 100, 115])) (aCons (eC (.int 1)) aNil))) aNil))))))) (sRet (eC (.bl false))) sNil)
  (sSeq (sSet 7 (eFroz (eLst (aCons (eTup (aCons (eTup (aCons (eVar 2) (aCons (eVar 4) aNil))) (aCons (eTup (aCons (eVar 1) (aCons (eVar 3) aNil))) (aCons (eTup (aCons (eVar 5) aNil)) aNil)))) (aCons (eTup (aCons (eTup (aCons (eVar 4) (aCons (eVar 5) aNil))) (aCons (eTup (aCons (eVar 1) (aCons (eVar 2) (aCons (eVar 3) aNil)))) aNil))) (aCons (eTup (aCons (eTup (aCons (eVar 3) (aCons (eVar 4) aNil))) (aCons (eTup (aCons (eVar 5) aNil)) (aCons (eTup (aCons (eVar 2) aNil)) (aCons (eTup (aCons (eVar 1) aNil)) aNil))))) aNil))))))
  (sSeq (sIf (tVal (eOp opNe (eFroz (eLc (List.map (·.2) ([("_law_plan", 9)] : List (Str × Nat))) (pName 9) (iSeqS (eVar 7)) tTrue (eCall 2 F_judged (([] : List T).drop 0) (aCons (eVar 6) (aCons (eVar 9) aNil))))) (eFroz (eLst (aCons (eTup (aCons (eC (.str [101, 97, 114, 108, 121])) (aCons (eC (.int 1)) (aCons (eVar 1) (aCons (eVar 4) aNil))))) (aCons (eTup (aCons (eC (.str [101, 97, 114, 108, 121])) (aCons (eC (.int 1)) (aCons (eVar 1) (aCons (eVar 4) aNil))))) (aCons (eTup (aCons (eC (.str [101, 97, 114, 108, 121])) (aCons (eC (.int 1)) (aCons (eVar 1) (aCons (eVar 3) aNil))))) aNil))))))) (sRet (eC (.bl false))) sNil)
  (sSeq (sSet 8 (eCall 4 F_ulaw_made (([] : List T).drop 0) (aCons (eSlice (eVar 0) none (some (eC (.int 4))) slT) (aCons (eFroz (eLst (aCons (eTup (aCons (eC (.int 0)) (aCons (eC (.int 3)) aNil))) (aCons (eTup (aCons (eC (.int 1)) (aCons (eC (.int 2)) aNil))) aNil)))) (aCons (eFroz (eLst aNil)) (aCons (eC (.str [52])) aNil))))))
  (sSeq (sIf (tVal (eOp opNe (eCall 2 F_judged (([] : List T).drop 0) (aCons (eVar 8) (aCons (eTup (aCons (eTup (aCons (eVar 3) (aCons (eVar 4) aNil))) (aCons (eTup (aCons (eVar 1) (aCons (eVar 2) aNil))) aNil))) aNil))) (eTup (aCons (eC (.str [101, 97, 114, 108, 121])) (aCons (eC (.int 1)) (aCons (eVar 1) (aCons (eVar 4) aNil))))))) (sRet (eC (.bl false))) sNil)
  (sSeq (sSet 7 (eFroz (eLst (aCons (eTup (aCons (eTup (aCons (eVar 2) aNil)) (aCons (eTup (aCons (eVar 1) (aCons (eVar 5) aNil))) (aCons (eTup (aCons (eVar 3) (aCons (eVar 4) aNil))) aNil)))) (aCons (eTup (aCons (eTup (aCons (eVar 1) aNil)) (aCons (eTup (aCons (eVar 3) (aCons (eVar 4) aNil))) (aCons (eTup (aCons (eVar 2) (aCons (eVar 5) aNil))) aNil)))) (aCons (eTup (aCons (eTup (aCons (eVar 1) aNil)) (aCons (eTup (aCons (eVar 3) aNil)) (aCons (eTup (aCons (eVar 2) (aCons (eVar 4) aNil))) (aCons (eTup (aCons (eVar 5) aNil)) aNil))))) aNil))))))
  (sRet (eOp opEq (eFroz (eLc (List.map (·.2) ([("_law_plan", 9)] : List (Str × Nat))) (pName 9) (iSeqS (eVar 7)) tTrue (eCall 2 F_judged (([] : List T).drop 0) (aCons (eVar 6) (aCons (eVar 9) aNil))))) (eFroz (eLst (aCons (eTup (aCons (eC (.str [101, 97, 114, 108, 121])) (aCons (eC (.int 2)) (aCons (eVar 1) (aCons (eVar 5) aNil))))) (aCons (eTup (aCons (eC (.str [101, 97, 114, 108, 121])) (aCons (eC (.int 2)) (aCons (eVar 2) (aCons (eVar 4) aNil))))) (aCons (eTup (aCons (eC (.str [101, 97, 114, 108, 121])) (aCons (eC (.int 3)) (aCons (eVar 2) (aCons (eVar 4) aNil))))) aNil))))))))))))))))
def F_ulaw_are_judged_right : FF := runB 10 b_ulaw_are_judged_right
abbrev N_ulaw_are_judged_right : List Str := ["_law_names", "_law_a", "_law_b", "_law_c", "_law_d", "_law_e", "_law_hut", "_law_plans", "_law_crossed", "_law_plan"]
theorem nd_ulaw_are_judged_right : (N_ulaw_are_judged_right).Nodup := by decide +kernel
theorem bs_ulaw_are_judged_right (g : Gf fa fn ck K mg) : BodyS P w K mg base (omOf K ρ) 10 N_ulaw_are_judged_right (defScope s_ulaw_are_judged_right) (defBody s_ulaw_are_judged_right) b_ulaw_are_judged_right := fun qual f cdv A outer s H E hr => (mss_cons (ms_pat (pat_seq (n := 5) (pats_cons (pat_name 1) (pats_cons (pat_name 2) (pats_cons (pat_name 3) (pats_cons (pat_name 4) (pats_cons (pat_name 5) pats_nil)))))) (me_var 0) (pg_seq (n := 5) rfl (pgs_cons (pg_name nd_ulaw_are_judged_right rfl (Or.inl rfl)) (pgs_cons (pg_name nd_ulaw_are_judged_right rfl (Or.inl rfl)) (pgs_cons (pg_name nd_ulaw_are_judged_right rfl (Or.inl rfl)) (pgs_cons (pg_name nd_ulaw_are_judged_right rfl (Or.inl rfl)) (pgs_cons (pg_name nd_ulaw_are_judged_right rfl (Or.inl rfl)) pgs_nil)))))))
  (mss_cons (ms_set nd_ulaw_are_judged_right rfl (Or.inr rfl) (me_call 0 (fg_ulaw_made g) (hr.mono (by decide)) (takes_of rfl rfl rfl rfl) rfl (ma_cons (me_var 0) (ma_cons (me_lst (ml_lst (ma_cons (me_tup (ma_cons me_int (ma_cons me_int ma_nil))) (ma_cons (me_tup (ma_cons me_int (ma_cons me_int ma_nil))) (ma_cons (me_tup (ma_cons me_int (ma_cons me_int ma_nil))) (ma_cons (me_tup (ma_cons me_int (ma_cons me_int ma_nil))) (ma_cons (me_tup (ma_cons me_int (ma_cons me_int ma_nil))) ma_nil))))))) (ma_cons (me_lst (ml_lst ma_nil)) (ma_cons me_str ma_nil))))))
  (mss_cons (ms_set nd_ulaw_are_judged_right rfl (Or.inl rfl) (me_lst (ml_lst (ma_cons (me_tup (ma_cons (me_tup (ma_cons (me_var 1) (ma_cons (me_var 2) ma_nil))) (ma_cons (me_tup (ma_cons (me_var 3) (ma_cons (me_var 4) ma_nil))) (ma_cons (me_tup (ma_cons (me_var 5) ma_nil)) ma_nil)))) (ma_cons (me_tup (ma_cons (me_tup (ma_cons (me_var 1) (ma_cons (me_var 2) ma_nil))) (ma_cons (me_tup (ma_cons (me_var 3) (ma_cons (me_var 5) ma_nil))) (ma_cons (me_tup ma_nil) (ma_cons (me_tup ma_nil) (ma_cons (me_tup (ma_cons (me_var 4) ma_nil)) ma_nil)))))) (ma_cons (me_tup (ma_cons (me_tup (ma_cons (me_var 1) (ma_cons (me_var 2) (ma_cons (me_var 3) ma_nil)))) (ma_cons (me_tup (ma_cons (me_var 4) (ma_cons (me_var 5) ma_nil))) ma_nil))) ma_nil))))))
  (mss_cons (ms_if (mt_cmp (op_neD (un64 hr)) opNe_ok (me_lst (ml_lc rfl nd_ulaw_are_judged_right (mi_seqS (me_var 7)) (own := [("_law_plan", 9)]) (blkOk (N := N_ulaw_are_judged_right) (sc := defScope s_ulaw_are_judged_right) (by decide +kernel)) (pat_name 9) (by decide +kernel) (fun _ _ _ _ _ => (pg_name nd_ulaw_are_judged_right rfl (Or.inl rfl))) (fun _ _ _ _ _ => mts_nil) (fun _ _ _ _ _ => (me_call 0 (fg_judged g) (hr.mono (by decide)) Mi.takes0 rfl (ma_cons (me_var 6) (ma_cons (me_var 9) ma_nil)))))) (me_lst (ml_lst (ma_cons (me_tup (ma_cons me_str (ma_cons me_int ma_nil))) (ma_cons (me_tup (ma_cons me_str (ma_cons me_int ma_nil))) (ma_cons (me_tup (ma_cons me_str (ma_cons me_int ma_nil))) ma_nil))))) (nomark _)) (mss_one (ms_ret me_bl)) mss_nil)
  (mss_cons (ms_set nd_ulaw_are_judged_right rfl (Or.inl rfl) (me_lst (ml_lst (ma_cons (me_tup (ma_cons (me_tup (ma_cons (me_var 2) (ma_cons (me_var 4) ma_nil))) (ma_cons (me_tup (ma_cons (me_var 1) (ma_cons (me_var 3) ma_nil))) (ma_cons (me_tup (ma_cons (me_var 5) ma_nil)) ma_nil)))) (ma_cons (me_tup (ma_cons (me_tup (ma_cons (me_var 4) (ma_cons (me_var 5) ma_nil))) (ma_cons (me_tup (ma_cons (me_var 1) (ma_cons (me_var 2) (ma_cons (me_var 3) ma_nil)))) ma_nil))) (ma_cons (me_tup (ma_cons (me_tup (ma_cons (me_var 3) (ma_cons (me_var 4) ma_nil))) (ma_cons (me_tup (ma_cons (me_var 5) ma_nil)) (ma_cons (me_tup (ma_cons (me_var 2) ma_nil)) (ma_cons (me_tup (ma_cons (me_var 1) ma_nil)) ma_nil))))) ma_nil))))))
  (mss_cons (ms_if (mt_cmp (op_neD (un64 hr)) opNe_ok (me_lst (ml_lc rfl nd_ulaw_are_judged_right (mi_seqS (me_var 7)) (own := [("_law_plan", 9)]) (blkOk (N := N_ulaw_are_judged_right) (sc := defScope s_ulaw_are_judged_right) (by decide +kernel)) (pat_name 9) (by decide +kernel) (fun _ _ _ _ _ => (pg_name nd_ulaw_are_judged_right rfl (Or.inl rfl))) (fun _ _ _ _ _ => mts_nil) (fun _ _ _ _ _ => (me_call 0 (fg_judged g) (hr.mono (by decide)) Mi.takes0 rfl (ma_cons (me_var 6) (ma_cons (me_var 9) ma_nil)))))) (me_lst (ml_lst (ma_cons (me_tup (ma_cons me_str (ma_cons me_int (ma_cons (me_var 1) (ma_cons (me_var 4) ma_nil))))) (ma_cons (me_tup (ma_cons me_str (ma_cons me_int (ma_cons (me_var 1) (ma_cons (me_var 4) ma_nil))))) (ma_cons (me_tup (ma_cons me_str (ma_cons me_int (ma_cons (me_var 1) (ma_cons (me_var 3) ma_nil))))) ma_nil))))) (nomark _)) (mss_one (ms_ret me_bl)) mss_nil)
  (mss_cons (ms_set nd_ulaw_are_judged_right rfl (Or.inl rfl) (me_call 0 (fg_ulaw_made g) (hr.mono (by decide)) (takes_of rfl rfl rfl rfl) rfl (ma_cons (me_slice (me_var 0) mp_none (mp_some me_int)) (ma_cons (me_lst (ml_lst (ma_cons (me_tup (ma_cons me_int (ma_cons me_int ma_nil))) (ma_cons (me_tup (ma_cons me_int (ma_cons me_int ma_nil))) ma_nil)))) (ma_cons (me_lst (ml_lst ma_nil)) (ma_cons me_str ma_nil))))))
  (mss_cons (ms_if (mt_cmp (op_neD (un64 hr)) opNe_ok (me_call 0 (fg_judged g) (hr.mono (by decide)) (takes_of rfl rfl rfl rfl) rfl (ma_cons (me_var 8) (ma_cons (me_tup (ma_cons (me_tup (ma_cons (me_var 3) (ma_cons (me_var 4) ma_nil))) (ma_cons (me_tup (ma_cons (me_var 1) (ma_cons (me_var 2) ma_nil))) ma_nil))) ma_nil))) (me_tup (ma_cons me_str (ma_cons me_int (ma_cons (me_var 1) (ma_cons (me_var 4) ma_nil))))) (nomark _)) (mss_one (ms_ret me_bl)) mss_nil)
  (mss_cons (ms_set nd_ulaw_are_judged_right rfl (Or.inl rfl) (me_lst (ml_lst (ma_cons (me_tup (ma_cons (me_tup (ma_cons (me_var 2) ma_nil)) (ma_cons (me_tup (ma_cons (me_var 1) (ma_cons (me_var 5) ma_nil))) (ma_cons (me_tup (ma_cons (me_var 3) (ma_cons (me_var 4) ma_nil))) ma_nil)))) (ma_cons (me_tup (ma_cons (me_tup (ma_cons (me_var 1) ma_nil)) (ma_cons (me_tup (ma_cons (me_var 3) (ma_cons (me_var 4) ma_nil))) (ma_cons (me_tup (ma_cons (me_var 2) (ma_cons (me_var 5) ma_nil))) ma_nil)))) (ma_cons (me_tup (ma_cons (me_tup (ma_cons (me_var 1) ma_nil)) (ma_cons (me_tup (ma_cons (me_var 3) ma_nil)) (ma_cons (me_tup (ma_cons (me_var 2) (ma_cons (me_var 4) ma_nil))) (ma_cons (me_tup (ma_cons (me_var 5) ma_nil)) ma_nil))))) ma_nil))))))
  (mss_one (ms_ret (me_cmp (op_eqD (un64 hr)) opEq_ok (me_lst (ml_lc rfl nd_ulaw_are_judged_right (mi_seqS (me_var 7)) (own := [("_law_plan", 9)]) (blkOk (N := N_ulaw_are_judged_right) (sc := defScope s_ulaw_are_judged_right) (by decide +kernel)) (pat_name 9) (by decide +kernel) (fun _ _ _ _ _ => (pg_name nd_ulaw_are_judged_right rfl (Or.inl rfl))) (fun _ _ _ _ _ => mts_nil) (fun _ _ _ _ _ => (me_call 0 (fg_judged g) (hr.mono (by decide)) Mi.takes0 rfl (ma_cons (me_var 6) (ma_cons (me_var 9) ma_nil)))))) (me_lst (ml_lst (ma_cons (me_tup (ma_cons me_str (ma_cons me_int (ma_cons (me_var 1) (ma_cons (me_var 5) ma_nil))))) (ma_cons (me_tup (ma_cons me_str (ma_cons me_int (ma_cons (me_var 2) (ma_cons (me_var 4) ma_nil))))) (ma_cons (me_tup (ma_cons me_str (ma_cons me_int (ma_cons (me_var 2) (ma_cons (me_var 4) ma_nil))))) ma_nil))))) (nomark _)))))))))))))
theorem sc_ulaw_are_judged_right : FnScope N_ulaw_are_judged_right ["_law_names"] (defScope s_ulaw_are_judged_right) := ⟨rfl, rfl, rfl, nd_ulaw_are_judged_right, rfl, by decide +kernel, by decide +kernel⟩
theorem fk_ulaw_are_judged_right (g : Gf fa fn ck K mg) : ∃ fd, FnOk P w K mg base (L2.CX P w) 11 ((fn.getD 29 dummyD).adr K) fd ["_law_names"] (spF K (omOf K ρ) 1 F_ulaw_are_judged_right) ∧ BndL K fd ["_law_names"] (omOf K ρ) [] := by
  obtain ⟨fd, F⟩ := g.def_ 29 (d := fn.getD 29 dummyD)
  exact ⟨fd, fnOk_of F sc_ulaw_are_judged_right (bs_ulaw_are_judged_right g), bndN F fun _ _ _ _ _ _ us hl => match us, hl with | [_], _ => rfl⟩
theorem fg_ulaw_are_judged_right (g : Gf fa fn ck K mg) : FnG P w K mg base (omOf K ρ) "_law_are_judged_right" 11 1 [] F_ulaw_are_judged_right := by
  obtain ⟨fd, ok, bd⟩ := fk_ulaw_are_judged_right (P := P) (w := w) (base := base) (ρ := ρ) g
  exact gFn rfl (g.glo 99) (g.keep 100) ok bd
/-! ### Frame.free -/
def b_Frame_free : SF := (sSeq (sSet 2 (eFroz (eLc (List.map (·.2) ([("work", 3)] : List (Str × Nat))) (pName 3) (iSeqS (eFld 0 0 (eVar 0))) (tVal (eOp opNotIn (eVar 3) (eVar 1))) (eVar 3))))
  (sRet (eBi bTuple (aCons (eFroz (eLc (List.map (·.2) ([("work", 3)] : List (Str × Nat))) (pName 3) (iSeqS (eVar 2)) (tTru (eBi bAll (aCons (eFroz (eLc (List.map (·.2) ([("one", 4)] : List (Str × Nat))) (pName 4) (iSeqS (eDget (eFld 0 5 (eVar 0)) (eVar 3))) tTrue (eOp opIn (eVar 4) (eVar 1)))) aNil))) (eVar 3))) aNil))))
def F_Frame_free : FF := runB 5 b_Frame_free
abbrev N_Frame_free : List Str := ["self", "done", "rest", "work", "one"]
theorem nd_Frame_free : (N_Frame_free).Nodup := by decide +kernel
theorem bs_Frame_free (g : Gf fa fn ck K mg) : BodyS P w K mg base (omOf K ρ) 0 N_Frame_free (defScope s_Frame_free) (defBody s_Frame_free) b_Frame_free := fun qual f cdv A outer s H E hr => (mss_cons (ms_lcF rfl nd_Frame_free rfl rfl (mi_seqS (me_fld (c := 0) (g.cls 59) (g.noat 60) rfl fu_0_0 (me_var 0))) (own := [("work", 3)]) (blkOk (N := N_Frame_free) (sc := defScope s_Frame_free) (by decide +kernel)) (pat_name 3) (by decide +kernel) (fun _ _ _ _ _ => (pg_name nd_Frame_free rfl (Or.inl rfl))) (fun _ _ _ _ _ => (mts_one (mt_cmp (op_notIn2 (un65 hr)) opNotIn_ok (me_var 3) (me_var 1)))) (fun _ _ _ _ _ => (me_var 3)))
  (mss_one (ms_ret (me_callTy call_tuple_of bTuple_ok rfl (g.free 27) (by decide +kernel) (ma_cons (me_lst (ml_lc rfl nd_Frame_free (mi_seqS (me_var 2)) (own := [("work", 3)]) (blkOk (N := N_Frame_free) (sc := defScope s_Frame_free) (by decide +kernel)) (pat_name 3) (by decide +kernel) (fun _ _ _ _ _ => (pg_name nd_Frame_free rfl (Or.inl rfl))) (fun _ _ _ _ _ => (mts_one (mt_tru (me_callB (cr_all rfl) bAll_ok rfl (g.free 29) (by decide +kernel) (ma_cons (me_lst (ml_lc rfl nd_Frame_free (mi_seqS (me_dget (un1 hr) (me_fld (c := 0) (g.cls 59) (g.noat 67) rfl fu_0_5 (me_var 0)) (me_var 3))) (own := [("one", 4)]) (blkOk rfl) (pat_name 4) (by decide +kernel) (fun _ _ _ _ _ => (pg_name nd_Frame_free rfl (Or.inl rfl))) (fun _ _ _ _ _ => mts_nil) (fun _ _ _ _ _ => (me_cmp (op_in2 (un65 hr)) opIn_ok (me_var 4) (me_var 1))))) ma_nil))))) (fun _ _ _ _ _ => (me_var 3)))) ma_nil)))))
theorem sc_Frame_free : FnScope N_Frame_free ["self", "done"] (defScope s_Frame_free) := ⟨rfl, rfl, rfl, nd_Frame_free, rfl, by decide +kernel, by decide +kernel⟩
theorem fk_Frame_free (g : Gf fa fn ck K mg) : ∃ fd, FnOk P w K mg base (L2.CX P w) 1 ((fn.getD 30 dummyD).adr K) fd ["self", "done"] (spF K (omOf K ρ) 2 F_Frame_free) ∧ BndL K fd ["self", "done"] (omOf K ρ) [] := by
  obtain ⟨fd, F⟩ := g.def_ 30 (d := fn.getD 30 dummyD)
  exact ⟨fd, fnOk_of F sc_Frame_free (bs_Frame_free g), bndN F fun _ _ _ _ _ _ us hl => match us, hl with | [_, _], _ => rfl⟩
theorem fg_Frame_free (g : Gf fa fn ck K mg) : MeG P w K mg base (omOf K ρ) 0 "free" 1 2 [] F_Frame_free := by
  obtain ⟨fd, ok, bd⟩ := fk_Frame_free (P := P) (w := w) (base := base) (ρ := ρ) g
  exact gMe rfl (g.cls 59) (g.meth 101) nm_Frame_free ok bd
/-! ### free -/
def b_free : SF := (sSeq (sSet 2 (eFld 2 0 (eVar 0)))
  (sSeq (sIf (tOr2 (tNot2 (tTru (eCall 2 F_is_lot (([] : List T).drop 0) (aCons (eFld 0 0 (eVar 2)) (aCons (eVar 1) aNil))))) (tNot2 (tTru (eBi bAll (aCons (eFroz (eLc (List.map (·.2) ([("work", 3)] : List (Str × Nat))) (pName 3) (iSeqS (eVar 1)) tTrue (eCall 2 F_has_all (([] : List T).drop 0) (aCons (eVar 1) (aCons (eDget (eFld 0 5 (eVar 2)) (eVar 3)) aNil))))) aNil))))) sNo sNil)
  (sRet (eMeth 0 2 F_Frame_free (([] : List T).drop 0) (eVar 2) (aCons (eVar 1) aNil)))))
def F_free : FF := runB 4 b_free
abbrev N_free : List Str := ["book", "done", "frame", "work"]
theorem nd_free : (N_free).Nodup := by decide +kernel
theorem bs_free (g : Gf fa fn ck K mg) : BodyS P w K mg base (omOf K ρ) 2 N_free (defScope s_free) (defBody s_free) b_free := fun qual f cdv A outer s H E hr => (mss_cons (ms_set nd_free rfl (Or.inr rfl) (me_fld (c := 2) (g.cls 72) (g.noat 73) rfl fu_2_0 (me_var 0)))
  (mss_cons (ms_if (mt_w (mw_or (mt_not (mt_tru (me_call 0 (fg_is_lot g) (hr.mono (by decide)) (takes_of rfl rfl rfl rfl) rfl (ma_cons (me_fld (c := 0) (g.cls 59) (g.noat 60) rfl fu_0_0 (me_var 2)) (ma_cons (me_var 1) ma_nil))))) (mw_or1 (mt_not (mt_tru (me_callB (cr_all rfl) bAll_ok rfl (g.free 29) (by decide +kernel) (ma_cons (me_lst (ml_lc rfl nd_free (mi_seqS (me_var 1)) (own := [("work", 3)]) (blkOk (N := N_free) (sc := defScope s_free) (by decide +kernel)) (pat_name 3) (by decide +kernel) (fun _ _ _ _ _ => (pg_name nd_free rfl (Or.inl rfl))) (fun _ _ _ _ _ => mts_nil) (fun _ _ _ _ _ => (me_call 0 (fg_has_all g) (hr.mono (by decide)) Mi.takes0 rfl (ma_cons (me_var 1) (ma_cons (me_dget (un1 hr) (me_fld (c := 0) (g.cls 59) (g.noat 67) rfl fu_0_5 (me_var 2)) (me_var 3)) ma_nil)))))) ma_nil))))))) (mss_one ms_no) mss_nil)
  (mss_one (ms_ret (me_meth 0 (fg_Frame_free g) (hr.mono (by decide)) (takes_of rfl rfl rfl rfl) (me_var 2) (ma_cons (me_var 1) ma_nil))))))
theorem sc_free : FnScope N_free ["book", "done"] (defScope s_free) := ⟨rfl, rfl, rfl, nd_free, rfl, by decide +kernel, by decide +kernel⟩
theorem fk_free (g : Gf fa fn ck K mg) : ∃ fd, FnOk P w K mg base (L2.CX P w) 3 ((fn.getD 31 dummyD).adr K) fd ["book", "done"] (spF K (omOf K ρ) 2 F_free) ∧ BndL K fd ["book", "done"] (omOf K ρ) [] := by
  obtain ⟨fd, F⟩ := g.def_ 31 (d := fn.getD 31 dummyD)
  exact ⟨fd, fnOk_of F sc_free (bs_free g), bndN F fun _ _ _ _ _ _ us hl => match us, hl with | [_, _], _ => rfl⟩
theorem fg_free (g : Gf fa fn ck K mg) : FnG P w K mg base (omOf K ρ) "free" 3 2 [] F_free := by
  obtain ⟨fd, ok, bd⟩ := fk_free (P := P) (w := w) (base := base) (ρ := ρ) g
  exact gFn rfl (g.glo 102) (g.keep 103) ok bd
/-! ### _law_are_hands_right -/
def b_ulaw_are_hands_right : SF := (sSeq (sPat (pSeq 5 (psCons (pName 1) (psCons (pName 2) (psCons (pName 3) (psCons (pName 4) (psCons (pName 5) psNil)))))) (eVar 0))
  (sSeq (sSet 6 (eCall 4 F_ulaw_made (([] : List T).drop 0) (aCons (eVar 0) (aCons (eFroz (eLst (aCons (eTup (aCons (eC (.int 0)) (aCons (eC (.int 1)) aNil))) (aCons (eTup (aCons (eC (.int 1)) (aCons (eC (.int 2)) aNil))) (aCons (eTup (aCons (eC (.int 2)) (aCons (eC (.int 3)) aNil))) aNil))))) (aCons (eFroz (eLst aNil)) (aCons (eC (.str [48, 32, 51, 32, 48, 32, 49])) aNil))))))
  (sSeq (sSet 7 (eTup (aCons (eTup aNil) (aCons (eTup (aCons (eVar 1) (aCons (eVar 5) aNil))) (aCons (eTup aNil) (aCons (eTup (aCons (eVar 2) aNil)) (aCons (eTup (aCons (eVar 3) aNil)) (aCons (eTup (aCons (eVar 4) aNil)) aNil))))))))
  (sSeq (sIf (tOr2 (tVal (eOp opNe (eCall 2 F_judged (([] : List T).drop 0) (aCons (eVar 6) (aCons (eVar 7) aNil))) (eTup (aCons (eC (.str [114, 105, 103, 104, 116])) (aCons (eC (.int 6)) aNil))))) (tVal (eOp opNe (eCall 2 F_judged (([] : List T).drop 0) (aCons (eVar 6) (aCons (eSlice (eVar 7) (some (eC (.int 1))) none slT) aNil))) (eTup (aCons (eC (.str [104, 97, 110, 100, 115])) (aCons (eC (.int 1)) aNil)))))) (sRet (eC (.bl false))) sNil)
  (sSeq (sIf (tVal (eOp opNe (eCall 2 F_judged (([] : List T).drop 0) (aCons (eVar 6) (aCons (eTup (aCons (eTup aNil) (aCons (eTup (aCons (eVar 1) (aCons (eVar 5) aNil))) (aCons (eTup (aCons (eVar 2) aNil)) (aCons (eTup (aCons (eVar 3) aNil)) (aCons (eTup (aCons (eVar 4) aNil)) aNil)))))) aNil))) (eTup (aCons (eC (.str [104, 97, 110, 100, 115])) (aCons (eC (.int 3)) aNil))))) (sRet (eC (.bl false))) sNil)
  (sSeq (sIf (tVal (eOp opNe (eCall 2 F_judged (([] : List T).drop 0) (aCons (eVar 6) (aCons (eOp opPlus (eSlice (eVar 7) none (some (eC (.int 5))) slT) (eTup (aCons (eTup aNil) (aCons (eTup (aCons (eVar 4) aNil)) aNil)))) aNil))) (eTup (aCons (eC (.str [114, 105, 103, 104, 116])) (aCons (eC (.int 7)) aNil))))) (sRet (eC (.bl false))) sNil)
  (sSeq (sIf (tVal (eOp opNe (eCall 2 F_judged (([] : List T).drop 0) (aCons (eVar 6) (aCons (eTup (aCons (eTup aNil) (aCons (eTup (aCons (eVar 4) aNil)) (aCons (eTup aNil) (aCons (eTup (aCons (eVar 1) aNil)) (aCons (eTup (aCons (eVar 2) aNil)) (aCons (eTup (aCons (eVar 3) aNil)) (aCons (eTup (aCons (eVar 5) aNil)) aNil)))))))) aNil))) (eTup (aCons (eC (.str [101, 97, 114, 108, 121])) (aCons (eC (.int 2)) (aCons (eVar 1) (aCons (eVar 4) aNil))))))) (sRet (eC (.bl false))) sNil)
  (sSeq (sIf (tVal (eOp opNe (eCall 2 F_judged (([] : List T).drop 0) (aCons (eVar 6) (aCons (eTup (aCons (eTup aNil) (aCons (eTup (aCons (eVar 1) (aCons (eVar 4) aNil))) (aCons (eTup aNil) (aCons (eTup (aCons (eVar 2) aNil)) (aCons (eTup (aCons (eVar 3) aNil)) (aCons (eTup (aCons (eVar 5) aNil)) aNil))))))) aNil))) (eTup (aCons (eC (.str [101, 97, 114, 108, 121])) (aCons (eC (.int 2)) (aCons (eVar 1) (aCons (eVar 4) aNil))))))) (sRet (eC (.bl false))) sNil)
  (sSeq (sIf (tVal (eOp opNe (eCall 2 F_judged (([] : List T).drop 0) (aCons (eVar 6) (aCons (eTup (aCons (eTup aNil) (aCons (eTup (aCons (eVar 1) aNil)) (aCons (eTup aNil) (aCons (eTup (aCons (eVar 2) aNil)) (aCons (eTup (aCons (eVar 4) aNil)) (aCons (eTup (aCons (eVar 3) aNil)) (aCons (eTup (aCons (eVar 5) aNil)) aNil)))))))) aNil))) (eTup (aCons (eC (.str [101, 97, 114, 108, 121])) (aCons (eC (.int 5)) (aCons (eVar 3) (aCons (eVar 4) aNil))))))) (sRet (eC (.bl false))) sNil)
  (sRet (eOp opEq (eFroz (eLc (List.map (·.2) ([("_law_lot", 8)] : List (Str × Nat))) (pName 8) (iSeqS (eTup (aCons (eTup aNil) (aCons (eTup (aCons (eVar 1) aNil)) (aCons (eTup (aCons (eVar 1) (aCons (eVar 5) aNil))) (aCons (eTup (aCons (eVar 1) (aCons (eVar 2) (aCons (eVar 3) aNil)))) aNil)))))) tTrue (eCall 2 F_free (([] : List T).drop 0) (aCons (eVar 6) (aCons (eVar 8) aNil))))) (eFroz (eLst (aCons (eTup (aCons (eVar 1) (aCons (eVar 5) aNil))) (aCons (eTup (aCons (eVar 2) (aCons (eVar 5) aNil))) (aCons (eTup (aCons (eVar 2) aNil)) (aCons (eTup (aCons (eVar 4) (aCons (eVar 5) aNil))) aNil)))))))))))))))))
def F_ulaw_are_hands_right : FF := runB 9 b_ulaw_are_hands_right
abbrev N_ulaw_are_hands_right : List Str := ["_law_names", "_law_a", "_law_b", "_law_c", "_law_d", "_law_e", "_law_made_here", "_law_plan", "_law_lot"]
theorem nd_ulaw_are_hands_right : (N_ulaw_are_hands_right).Nodup := by decide +kernel
theorem bs_ulaw_are_hands_right (g : Gf fa fn ck K mg) : BodyS P w K mg base (omOf K ρ) 10 N_ulaw_are_hands_right (defScope s_ulaw_are_hands_right) (defBody s_ulaw_are_hands_right) b_ulaw_are_hands_right := fun qual f cdv A outer s H E hr => (mss_cons (ms_pat (pat_seq (n := 5) (pats_cons (pat_name 1) (pats_cons (pat_name 2) (pats_cons (pat_name 3) (pats_cons (pat_name 4) (pats_cons (pat_name 5) pats_nil)))))) (me_var 0) (pg_seq (n := 5) rfl (pgs_cons (pg_name nd_ulaw_are_hands_right rfl (Or.inl rfl)) (pgs_cons (pg_name nd_ulaw_are_hands_right rfl (Or.inl rfl)) (pgs_cons (pg_name nd_ulaw_are_hands_right rfl (Or.inl rfl)) (pgs_cons (pg_name nd_ulaw_are_hands_right rfl (Or.inl rfl)) (pgs_cons (pg_name nd_ulaw_are_hands_right rfl (Or.inl rfl)) pgs_nil)))))))
  (mss_cons (ms_set nd_ulaw_are_hands_right rfl (Or.inr rfl) (me_call 0 (fg_ulaw_made g) (hr.mono (by decide)) (takes_of rfl rfl rfl rfl) rfl (ma_cons (me_var 0) (ma_cons (me_lst (ml_lst (ma_cons (me_tup (ma_cons me_int (ma_cons me_int ma_nil))) (ma_cons (me_tup (ma_cons me_int (ma_cons me_int ma_nil))) (ma_cons (me_tup (ma_cons me_int (ma_cons me_int ma_nil))) ma_nil))))) (ma_cons (me_lst (ml_lst ma_nil)) (ma_cons me_str ma_nil))))))
  (mss_cons (ms_set nd_ulaw_are_hands_right rfl (Or.inl rfl) (me_tup (ma_cons (me_tup ma_nil) (ma_cons (me_tup (ma_cons (me_var 1) (ma_cons (me_var 5) ma_nil))) (ma_cons (me_tup ma_nil) (ma_cons (me_tup (ma_cons (me_var 2) ma_nil)) (ma_cons (me_tup (ma_cons (me_var 3) ma_nil)) (ma_cons (me_tup (ma_cons (me_var 4) ma_nil)) ma_nil))))))))
  (mss_cons (ms_if (mt_w (mw_or (mt_cmp (op_neD (un64 hr)) opNe_ok (me_call 0 (fg_judged g) (hr.mono (by decide)) (takes_of rfl rfl rfl rfl) rfl (ma_cons (me_var 6) (ma_cons (me_var 7) ma_nil))) (me_tup (ma_cons me_str (ma_cons me_int ma_nil))) (nomark _)) (mw_or1 (mt_cmp (op_neD (un64 hr)) opNe_ok (me_call 0 (fg_judged g) (hr.mono (by decide)) (takes_of rfl rfl rfl rfl) rfl (ma_cons (me_var 6) (ma_cons (me_slice (me_var 7) (mp_some me_int) mp_none) ma_nil))) (me_tup (ma_cons me_str (ma_cons me_int ma_nil))) (nomark _))))) (mss_one (ms_ret me_bl)) mss_nil)
  (mss_cons (ms_if (mt_cmp (op_neD (un64 hr)) opNe_ok (me_call 0 (fg_judged g) (hr.mono (by decide)) (takes_of rfl rfl rfl rfl) rfl (ma_cons (me_var 6) (ma_cons (me_tup (ma_cons (me_tup ma_nil) (ma_cons (me_tup (ma_cons (me_var 1) (ma_cons (me_var 5) ma_nil))) (ma_cons (me_tup (ma_cons (me_var 2) ma_nil)) (ma_cons (me_tup (ma_cons (me_var 3) ma_nil)) (ma_cons (me_tup (ma_cons (me_var 4) ma_nil)) ma_nil)))))) ma_nil))) (me_tup (ma_cons me_str (ma_cons me_int ma_nil))) (nomark _)) (mss_one (ms_ret me_bl)) mss_nil)
  (mss_cons (ms_if (mt_cmp (op_neD (un64 hr)) opNe_ok (me_call 0 (fg_judged g) (hr.mono (by decide)) (takes_of rfl rfl rfl rfl) rfl (ma_cons (me_var 6) (ma_cons (me_bin op_plus opPlus_ok (me_slice (me_var 7) mp_none (mp_some me_int)) (me_tup (ma_cons (me_tup ma_nil) (ma_cons (me_tup (ma_cons (me_var 4) ma_nil)) ma_nil)))) ma_nil))) (me_tup (ma_cons me_str (ma_cons me_int ma_nil))) (nomark _)) (mss_one (ms_ret me_bl)) mss_nil)
  (mss_cons (ms_if (mt_cmp (op_neD (un64 hr)) opNe_ok (me_call 0 (fg_judged g) (hr.mono (by decide)) (takes_of rfl rfl rfl rfl) rfl (ma_cons (me_var 6) (ma_cons (me_tup (ma_cons (me_tup ma_nil) (ma_cons (me_tup (ma_cons (me_var 4) ma_nil)) (ma_cons (me_tup ma_nil) (ma_cons (me_tup (ma_cons (me_var 1) ma_nil)) (ma_cons (me_tup (ma_cons (me_var 2) ma_nil)) (ma_cons (me_tup (ma_cons (me_var 3) ma_nil)) (ma_cons (me_tup (ma_cons (me_var 5) ma_nil)) ma_nil)))))))) ma_nil))) (me_tup (ma_cons me_str (ma_cons me_int (ma_cons (me_var 1) (ma_cons (me_var 4) ma_nil))))) (nomark _)) (mss_one (ms_ret me_bl)) mss_nil)
  (mss_cons (ms_if (mt_cmp (op_neD (un64 hr)) opNe_ok (me_call 0 (fg_judged g) (hr.mono (by decide)) (takes_of rfl rfl rfl rfl) rfl (ma_cons (me_var 6) (ma_cons (me_tup (ma_cons (me_tup ma_nil) (ma_cons (me_tup (ma_cons (me_var 1) (ma_cons (me_var 4) ma_nil))) (ma_cons (me_tup ma_nil) (ma_cons (me_tup (ma_cons (me_var 2) ma_nil)) (ma_cons (me_tup (ma_cons (me_var 3) ma_nil)) (ma_cons (me_tup (ma_cons (me_var 5) ma_nil)) ma_nil))))))) ma_nil))) (me_tup (ma_cons me_str (ma_cons me_int (ma_cons (me_var 1) (ma_cons (me_var 4) ma_nil))))) (nomark _)) (mss_one (ms_ret me_bl)) mss_nil)
  (mss_cons (ms_if (mt_cmp (op_neD (un64 hr)) opNe_ok (me_call 0 (fg_judged g) (hr.mono (by decide)) (takes_of rfl rfl rfl rfl) rfl (ma_cons (me_var 6) (ma_cons (me_tup (ma_cons (me_tup ma_nil) (ma_cons (me_tup (ma_cons (me_var 1) ma_nil)) (ma_cons (me_tup ma_nil) (ma_cons (me_tup (ma_cons (me_var 2) ma_nil)) (ma_cons (me_tup (ma_cons (me_var 4) ma_nil)) (ma_cons (me_tup (ma_cons (me_var 3) ma_nil)) (ma_cons (me_tup (ma_cons (me_var 5) ma_nil)) ma_nil)))))))) ma_nil))) (me_tup (ma_cons me_str (ma_cons me_int (ma_cons (me_var 3) (ma_cons (me_var 4) ma_nil))))) (nomark _)) (mss_one (ms_ret me_bl)) mss_nil)
  (mss_one (ms_ret (me_cmp (op_eqD (un64 hr)) opEq_ok (me_lst (ml_lc rfl nd_ulaw_are_hands_right (mi_seqS (me_tup (ma_cons (me_tup ma_nil) (ma_cons (me_tup (ma_cons (me_var 1) ma_nil)) (ma_cons (me_tup (ma_cons (me_var 1) (ma_cons (me_var 5) ma_nil))) (ma_cons (me_tup (ma_cons (me_var 1) (ma_cons (me_var 2) (ma_cons (me_var 3) ma_nil)))) ma_nil)))))) (own := [("_law_lot", 8)]) (blkOk (N := N_ulaw_are_hands_right) (sc := defScope s_ulaw_are_hands_right) (by decide +kernel)) (pat_name 8) (by decide +kernel) (fun _ _ _ _ _ => (pg_name nd_ulaw_are_hands_right rfl (Or.inl rfl))) (fun _ _ _ _ _ => mts_nil) (fun _ _ _ _ _ => (me_call 0 (fg_free g) (hr.mono (by decide)) Mi.takes0 rfl (ma_cons (me_var 6) (ma_cons (me_var 8) ma_nil)))))) (me_lst (ml_lst (ma_cons (me_tup (ma_cons (me_var 1) (ma_cons (me_var 5) ma_nil))) (ma_cons (me_tup (ma_cons (me_var 2) (ma_cons (me_var 5) ma_nil))) (ma_cons (me_tup (ma_cons (me_var 2) ma_nil)) (ma_cons (me_tup (ma_cons (me_var 4) (ma_cons (me_var 5) ma_nil))) ma_nil)))))) (nomark _)))))))))))))
theorem sc_ulaw_are_hands_right : FnScope N_ulaw_are_hands_right ["_law_names"] (defScope s_ulaw_are_hands_right) := ⟨rfl, rfl, rfl, nd_ulaw_are_hands_right, rfl, by decide +kernel, by decide +kernel⟩
theorem fk_ulaw_are_hands_right (g : Gf fa fn ck K mg) : ∃ fd, FnOk P w K mg base (L2.CX P w) 11 ((fn.getD 32 dummyD).adr K) fd ["_law_names"] (spF K (omOf K ρ) 1 F_ulaw_are_hands_right) ∧ BndL K fd ["_law_names"] (omOf K ρ) [] := by
  obtain ⟨fd, F⟩ := g.def_ 32 (d := fn.getD 32 dummyD)
  exact ⟨fd, fnOk_of F sc_ulaw_are_hands_right (bs_ulaw_are_hands_right g), bndN F fun _ _ _ _ _ _ us hl => match us, hl with | [_], _ => rfl⟩
theorem fg_ulaw_are_hands_right (g : Gf fa fn ck K mg) : FnG P w K mg base (omOf K ρ) "_law_are_hands_right" 11 1 [] F_ulaw_are_hands_right := by
  obtain ⟨fd, ok, bd⟩ := fk_ulaw_are_hands_right (P := P) (w := w) (base := base) (ρ := ρ) g
  exact gFn rfl (g.glo 104) (g.keep 105) ok bd
/-! ### late_in -/
def b_late_in : SF := (sSeq (sSet 2 (eNewL (eLst aNil)))
  (sSeq (sFor (pSeq 2 (psCons (pName 3) (psCons (pName 4) psNil))) (iFun enS (aCons (eVar 1) aNil)) (sExpr (eAlt (eMt isLoc mExtend (eVar 2) (aCons (eFroz (eLc (List.map (·.2) ([("work", 5)] : List (Str × Nat))) (pName 5) (iSeqS (eVar 4)) (tAnd2 (tVal (eDin false (eVar 5) (eFld 0 2 (eVar 0)))) (tVal (eOp opLe (eDget (eFld 0 2 (eVar 0)) (eVar 5)) (eVar 3)))) (eVar 5))) aNil)) (eMt isLoc mExtT (eVar 2) (aCons (eFroz (eLc (List.map (·.2) ([("work", 5)] : List (Str × Nat))) (pName 5) (iSeqS (eVar 4)) (tAnd2 (tVal (eDin false (eVar 5) (eFld 0 2 (eVar 0)))) (tVal (eOp opLe (eDget (eFld 0 2 (eVar 0)) (eVar 5)) (eVar 3)))) (eVar 5))) aNil)))))
  (sRet (eBi bTuple (aCons (eFroz (eLc (List.map (·.2) ([("work", 5)] : List (Str × Nat))) (pName 5) (iSeqS (eFld 0 0 (eVar 0))) (tVal (eOp opIn (eVar 5) (eVar 2))) (eVar 5))) aNil)))))
def F_late_in : FF := runB 6 b_late_in
abbrev N_late_in : List Str := ["frame", "plan", "found", "at", "lot", "work"]
theorem nd_late_in : (N_late_in).Nodup := by decide +kernel
theorem bs_late_in (g : Gf fa fn ck K mg) : BodyS P w K mg base (omOf K ρ) 0 N_late_in (defScope s_late_in) (defBody s_late_in) b_late_in := fun qual f cdv A outer s H E hr => (mss_cons (ms_set nd_late_in rfl (Or.inr rfl) (me_newL (ml_lst ma_nil)))
  (mss_cons (ms_for (passes_of rfl) rfl (mi_enumS rfl (g.free 23) (ma_cons (me_var 1) ma_nil)) (pat_seq (n := 2) (pats_cons (pat_name 3) (pats_cons (pat_name 4) pats_nil))) (pg_seq (n := 2) rfl (pgs_cons (pg_name nd_late_in rfl (Or.inr rfl)) (pgs_cons (pg_name nd_late_in rfl (Or.inl rfl)) pgs_nil))) (mss_one (ms_expr (me_ext2 (me_var 2) (ma_cons (me_lst (ml_lc rfl nd_late_in (mi_seqS (me_var 4)) (own := [("work", 5)]) (blkOk (N := N_late_in) (sc := defScope s_late_in) (by decide +kernel)) (pat_name 5) (by decide +kernel) (fun _ _ _ _ _ => (pg_name nd_late_in rfl (Or.inl rfl))) (fun _ _ _ _ _ => (mts_one (mt_w (mw_and (mt_din (un1 hr) (me_var 5) (me_fld (c := 0) (g.cls 59) (g.noat 62) rfl fu_0_2 (me_var 0))) (mw_and1 (mt_cmp op_le opLe_ok (me_dget (un1 hr) (me_fld (c := 0) (g.cls 59) (g.noat 62) rfl fu_0_2 (me_var 0)) (me_var 5)) (me_var 3) (nomark _))))))) (fun _ _ _ _ _ => (me_var 5)))) ma_nil)))))
  (mss_one (ms_ret (me_callTy call_tuple_of bTuple_ok rfl (g.free 27) (by decide +kernel) (ma_cons (me_lst (ml_lc rfl nd_late_in (mi_seqS (me_fld (c := 0) (g.cls 59) (g.noat 60) rfl fu_0_0 (me_var 0))) (own := [("work", 5)]) (blkOk (N := N_late_in) (sc := defScope s_late_in) (by decide +kernel)) (pat_name 5) (by decide +kernel) (fun _ _ _ _ _ => (pg_name nd_late_in rfl (Or.inl rfl))) (fun _ _ _ _ _ => (mts_one (mt_cmp (op_in2 (un65 hr)) opIn_ok (me_var 5) (me_var 2)))) (fun _ _ _ _ _ => (me_var 5)))) ma_nil))))))
theorem sc_late_in : FnScope N_late_in ["frame", "plan"] (defScope s_late_in) := ⟨rfl, rfl, rfl, nd_late_in, rfl, by decide +kernel, by decide +kernel⟩
theorem fk_late_in (g : Gf fa fn ck K mg) : ∃ fd, FnOk P w K mg base (L2.CX P w) 1 ((fn.getD 33 dummyD).adr K) fd ["frame", "plan"] (spF K (omOf K ρ) 2 F_late_in) ∧ BndL K fd ["frame", "plan"] (omOf K ρ) [] := by
  obtain ⟨fd, F⟩ := g.def_ 33 (d := fn.getD 33 dummyD)
  exact ⟨fd, fnOk_of F sc_late_in (bs_late_in g), bndN F fun _ _ _ _ _ _ us hl => match us, hl with | [_, _], _ => rfl⟩
theorem fg_late_in (g : Gf fa fn ck K mg) : FnG P w K mg base (omOf K ρ) "late_in" 1 2 [] F_late_in := by
  obtain ⟨fd, ok, bd⟩ := fk_late_in (P := P) (w := w) (base := base) (ρ := ρ) g
  exact gFn rfl (g.glo 106) (g.keep 107) ok bd
/-! ### late -/
def b_late : SF := (sSeq (sExpr (eCall 2 F_check_plan (([] : List T).drop 0) (aCons (eFld 2 0 (eVar 0)) (aCons (eVar 1) aNil))))
  (sRet (eCall 2 F_late_in (([] : List T).drop 0) (aCons (eFld 2 0 (eVar 0)) (aCons (eVar 1) aNil)))))
def F_late : FF := runB 2 b_late
abbrev N_late : List Str := ["book", "plan"]
theorem nd_late : (N_late).Nodup := by decide +kernel
theorem bs_late (g : Gf fa fn ck K mg) : BodyS P w K mg base (omOf K ρ) 4 N_late (defScope s_late) (defBody s_late) b_late := fun qual f cdv A outer s H E hr => (mss_cons (ms_expr (me_call 0 (fg_check_plan g) (hr.mono (by decide)) (takes_of rfl rfl rfl rfl) rfl (ma_cons (me_fld (c := 2) (g.cls 72) (g.noat 73) rfl fu_2_0 (me_var 0)) (ma_cons (me_var 1) ma_nil))))
  (mss_one (ms_ret (me_call 0 (fg_late_in g) (hr.mono (by decide)) (takes_of rfl rfl rfl rfl) rfl (ma_cons (me_fld (c := 2) (g.cls 72) (g.noat 73) rfl fu_2_0 (me_var 0)) (ma_cons (me_var 1) ma_nil))))))
theorem sc_late : FnScope N_late ["book", "plan"] (defScope s_late) := ⟨rfl, rfl, rfl, nd_late, rfl, by decide +kernel, by decide +kernel⟩
theorem fk_late (g : Gf fa fn ck K mg) : ∃ fd, FnOk P w K mg base (L2.CX P w) 5 ((fn.getD 34 dummyD).adr K) fd ["book", "plan"] (spF K (omOf K ρ) 2 F_late) ∧ BndL K fd ["book", "plan"] (omOf K ρ) [] := by
  obtain ⟨fd, F⟩ := g.def_ 34 (d := fn.getD 34 dummyD)
  exact ⟨fd, fnOk_of F sc_late (bs_late g), bndN F fun _ _ _ _ _ _ us hl => match us, hl with | [_, _], _ => rfl⟩
theorem fg_late (g : Gf fa fn ck K mg) : FnG P w K mg base (omOf K ρ) "late" 5 2 [] F_late := by
  obtain ⟨fd, ok, bd⟩ := fk_late (P := P) (w := w) (base := base) (ρ := ρ) g
  exact gFn rfl (g.glo 108) (g.keep 109) ok bd
/-! ### Book.works -/
def b_Book_works : SF := (sRet (eFld 0 0 (eFld 2 0 (eVar 0))))
def F_Book_works : FF := runB 1 b_Book_works
abbrev N_Book_works : List Str := ["self"]
theorem nd_Book_works : (N_Book_works).Nodup := by decide +kernel
theorem bs_Book_works (g : Gf fa fn ck K mg) : BodyS P w K mg base (omOf K ρ) 0 N_Book_works (defScope s_Book_works) (defBody s_Book_works) b_Book_works := fun qual f cdv A outer s H E hr => (mss_one (ms_ret (me_fld (c := 0) (g.cls 59) (g.noat 60) rfl fu_0_0 (me_fld (c := 2) (g.cls 72) (g.noat 73) rfl fu_2_0 (me_var 0)))))
theorem sc_Book_works : FnScope N_Book_works ["self"] (defScope s_Book_works) := ⟨rfl, rfl, rfl, nd_Book_works, rfl, by decide +kernel, by decide +kernel⟩
theorem fk_Book_works (g : Gf fa fn ck K mg) : ∃ fd, FnOk P w K mg base (L2.CX P w) 1 ((fn.getD 35 dummyD).adr K) fd ["self"] (spF K (omOf K ρ) 1 F_Book_works) ∧ BndL K fd ["self"] (omOf K ρ) [] := by
  obtain ⟨fd, F⟩ := g.def_ 35 (d := fn.getD 35 dummyD)
  exact ⟨fd, fnOk_of F sc_Book_works (bs_Book_works g), bndN F fun _ _ _ _ _ _ us hl => match us, hl with | [_], _ => rfl⟩
theorem fg_Book_works (g : Gf fa fn ck K mg) : PrG P w K mg base (omOf K ρ) 2 "works" 1 F_Book_works := by
  obtain ⟨fd, ok, bd⟩ := fk_Book_works (P := P) (w := w) (base := base) (ρ := ρ) g
  exact gPr rfl (g.cls 72) (g.prop 1) ok bd
/-! ### Book.__contains__ -/
def b_Book_contains : SF := (sRet (eCall 2 F_is_word (([] : List T).drop 0) (aCons (eVar 1) (aCons (eProp 2 F_Book_works (eVar 0)) aNil))))
def F_Book_contains : FF := runB 2 b_Book_contains
abbrev N_Book_contains : List Str := ["self", "value"]
theorem nd_Book_contains : (N_Book_contains).Nodup := by decide +kernel
theorem bs_Book_contains (g : Gf fa fn ck K mg) : BodyS P w K mg base (omOf K ρ) 2 N_Book_contains (defScope s_Book_contains) (defBody s_Book_contains) b_Book_contains := fun qual f cdv A outer s H E hr => (mss_one (ms_ret (me_call 0 (fg_is_word g) (hr.mono (by decide)) (takes_of rfl rfl rfl rfl) rfl (ma_cons (me_var 1) (ma_cons (me_prop (fg_Book_works g) (hr.mono (by decide)) (me_var 0)) ma_nil)))))
theorem sc_Book_contains : FnScope N_Book_contains ["self", "value"] (defScope s_Book_contains) := ⟨rfl, rfl, rfl, nd_Book_contains, rfl, by decide +kernel, by decide +kernel⟩
theorem fk_Book_contains (g : Gf fa fn ck K mg) : ∃ fd, FnOk P w K mg base (L2.CX P w) 3 ((fn.getD 36 dummyD).adr K) fd ["self", "value"] (spF K (omOf K ρ) 2 F_Book_contains) ∧ BndL K fd ["self", "value"] (omOf K ρ) [] := by
  obtain ⟨fd, F⟩ := g.def_ 36 (d := fn.getD 36 dummyD)
  exact ⟨fd, fnOk_of F sc_Book_contains (bs_Book_contains g), bndN F fun _ _ _ _ _ _ us hl => match us, hl with | [_, _], _ => rfl⟩
theorem fg_Book_contains (g : Gf fa fn ck K mg) : MeG P w K mg base (omOf K ρ) 2 "__contains__" 3 2 [] F_Book_contains := by
  obtain ⟨fd, ok, bd⟩ := fk_Book_contains (P := P) (w := w) (base := base) (ρ := ρ) g
  exact gMe rfl (g.cls 72) (g.meth 110) nm_Book_contains ok bd
/-! ### Book.check_work -/
def b_Book_check_work : SF := (sIf (tVal (eOwnIn true 2 F_Book_contains (eVar 1) (eVar 0))) sNo sNil)
def F_Book_check_work : FF := runB 2 b_Book_check_work
abbrev N_Book_check_work : List Str := ["self", "work"]
theorem nd_Book_check_work : (N_Book_check_work).Nodup := by decide +kernel
theorem bs_Book_check_work (g : Gf fa fn ck K mg) : BodyS P w K mg base (omOf K ρ) 3 N_Book_check_work (defScope s_Book_check_work) (defBody s_Book_check_work) b_Book_check_work := fun qual f cdv A outer s H E hr => (mss_one (ms_if (mt_ownIn true (fg_Book_contains g) (hr.mono (by decide)) (takes_of rfl rfl rfl rfl) (me_var 1) (me_var 0) rfl) (mss_one ms_no) mss_nil))
theorem sc_Book_check_work : FnScope N_Book_check_work ["self", "work"] (defScope s_Book_check_work) := ⟨rfl, rfl, rfl, nd_Book_check_work, rfl, by decide +kernel, by decide +kernel⟩
theorem fk_Book_check_work (g : Gf fa fn ck K mg) : ∃ fd, FnOk P w K mg base (L2.CX P w) 4 ((fn.getD 37 dummyD).adr K) fd ["self", "work"] (spF K (omOf K ρ) 2 F_Book_check_work) ∧ BndL K fd ["self", "work"] (omOf K ρ) [] := by
  obtain ⟨fd, F⟩ := g.def_ 37 (d := fn.getD 37 dummyD)
  exact ⟨fd, fnOk_of F sc_Book_check_work (bs_Book_check_work g), bndN F fun _ _ _ _ _ _ us hl => match us, hl with | [_, _], _ => rfl⟩
theorem fg_Book_check_work (g : Gf fa fn ck K mg) : MeG P w K mg base (omOf K ρ) 2 "check_work" 4 2 [] F_Book_check_work := by
  obtain ⟨fd, ok, bd⟩ := fk_Book_check_work (P := P) (w := w) (base := base) (ρ := ρ) g
  exact gMe rfl (g.cls 72) (g.meth 111) nm_Book_check_work ok bd
/-! ### Book.due -/
def b_Book_due : SF := (sSeq (sExpr (eMeth 2 2 F_Book_check_work (([] : List T).drop 0) (eVar 0) (aCons (eVar 1) aNil)))
  (sRet (eDgetD (eFld 0 2 (eFld 2 0 (eVar 0))) (eVar 1) (eC .non))))
def F_Book_due : FF := runB 2 b_Book_due
abbrev N_Book_due : List Str := ["self", "work"]
theorem nd_Book_due : (N_Book_due).Nodup := by decide +kernel
theorem bs_Book_due (g : Gf fa fn ck K mg) : BodyS P w K mg base (omOf K ρ) 5 N_Book_due (defScope s_Book_due) (defBody s_Book_due) b_Book_due := fun qual f cdv A outer s H E hr => (mss_cons (ms_expr (me_meth 0 (fg_Book_check_work g) (hr.mono (by decide)) (takes_of rfl rfl rfl rfl) (me_var 0) (ma_cons (me_var 1) ma_nil)))
  (mss_one (ms_ret (me_dgetD (un1 hr) (me_fld (c := 0) (g.cls 59) (g.noat 62) rfl fu_0_2 (me_fld (c := 2) (g.cls 72) (g.noat 73) rfl fu_2_0 (me_var 0))) (me_var 1) me_non (by constructor <;> rfl)))))
theorem sc_Book_due : FnScope N_Book_due ["self", "work"] (defScope s_Book_due) := ⟨rfl, rfl, rfl, nd_Book_due, rfl, by decide +kernel, by decide +kernel⟩
theorem fk_Book_due (g : Gf fa fn ck K mg) : ∃ fd, FnOk P w K mg base (L2.CX P w) 6 ((fn.getD 38 dummyD).adr K) fd ["self", "work"] (spF K (omOf K ρ) 2 F_Book_due) ∧ BndL K fd ["self", "work"] (omOf K ρ) [] := by
  obtain ⟨fd, F⟩ := g.def_ 38 (d := fn.getD 38 dummyD)
  exact ⟨fd, fnOk_of F sc_Book_due (bs_Book_due g), bndN F fun _ _ _ _ _ _ us hl => match us, hl with | [_, _], _ => rfl⟩
theorem fg_Book_due (g : Gf fa fn ck K mg) : MeG P w K mg base (omOf K ρ) 2 "due" 6 2 [] F_Book_due := by
  obtain ⟨fd, ok, bd⟩ := fk_Book_due (P := P) (w := w) (base := base) (ρ := ρ) g
  exact gMe rfl (g.cls 72) (g.meth 112) nm_Book_due ok bd
/-! ### Book.dues -/
def b_Book_dues : SF := (sRet (eTupItems (eFld 0 2 (eFld 2 0 (eVar 0)))))
def F_Book_dues : FF := runB 1 b_Book_dues
abbrev N_Book_dues : List Str := ["self"]
theorem nd_Book_dues : (N_Book_dues).Nodup := by decide +kernel
theorem bs_Book_dues (g : Gf fa fn ck K mg) : BodyS P w K mg base (omOf K ρ) 0 N_Book_dues (defScope s_Book_dues) (defBody s_Book_dues) b_Book_dues := fun qual f cdv A outer s H E hr => (mss_one (ms_ret (me_tupItems rfl (me_fld (c := 0) (g.cls 59) (g.noat 62) rfl fu_0_2 (me_fld (c := 2) (g.cls 72) (g.noat 73) rfl fu_2_0 (me_var 0))) rfl (g.free 27))))
theorem sc_Book_dues : FnScope N_Book_dues ["self"] (defScope s_Book_dues) := ⟨rfl, rfl, rfl, nd_Book_dues, rfl, by decide +kernel, by decide +kernel⟩
theorem fk_Book_dues (g : Gf fa fn ck K mg) : ∃ fd, FnOk P w K mg base (L2.CX P w) 1 ((fn.getD 39 dummyD).adr K) fd ["self"] (spF K (omOf K ρ) 1 F_Book_dues) ∧ BndL K fd ["self"] (omOf K ρ) [] := by
  obtain ⟨fd, F⟩ := g.def_ 39 (d := fn.getD 39 dummyD)
  exact ⟨fd, fnOk_of F sc_Book_dues (bs_Book_dues g), bndN F fun _ _ _ _ _ _ us hl => match us, hl with | [_], _ => rfl⟩
theorem fg_Book_dues (g : Gf fa fn ck K mg) : PrG P w K mg base (omOf K ρ) 2 "dues" 1 F_Book_dues := by
  obtain ⟨fd, ok, bd⟩ := fk_Book_dues (P := P) (w := w) (base := base) (ρ := ρ) g
  exact gPr rfl (g.cls 72) (g.prop 2) ok bd
/-! ### text_by -/
def b_text_by : SF := (sSeq (sSet 4 (eNewL (eLst (aCons (eJoin (eC (.str [32])) (eFroz (eLst (aCons (eC (.str [119, 111, 114, 107, 115])) (aStar (eVar 0) aNil))))) aNil))))
  (sSeq (sExpr (eAlt (eMt isLoc mExtend (eVar 4) (aCons (eFroz (eLc (List.map (·.2) ([("names", 5)] : List (Str × Nat))) (pName 5) (iSeqS (eVar 1)) tTrue (eJoin (eC (.str [32])) (eFroz (eLst (aCons (eC (.str [97, 104, 101, 97, 100])) (aStar (eVar 5) aNil))))))) aNil)) (eMt isLoc mExtT (eVar 4) (aCons (eFroz (eLc (List.map (·.2) ([("names", 5)] : List (Str × Nat))) (pName 5) (iSeqS (eVar 1)) tTrue (eJoin (eC (.str [32])) (eFroz (eLst (aCons (eC (.str [97, 104, 101, 97, 100])) (aStar (eVar 5) aNil))))))) aNil))))
  (sSeq (sExpr (eAlt (eMt isLoc mExtend (eVar 4) (aCons (eFroz (eLc (List.map (·.2) ([("work", 6), ("hour", 7)] : List (Str × Nat))) (pSeq 2 (psCons (pName 6) (psCons (pName 7) psNil))) (iSeqS (eVar 2)) tTrue (eJoin (eC (.str [32])) (eFroz (eLst (aCons (eC (.str [100, 117, 101])) (aCons (eVar 6) (aCons (eBi bStrI (aCons (eVar 7) aNil)) aNil)))))))) aNil)) (eMt isLoc mExtT (eVar 4) (aCons (eFroz (eLc (List.map (·.2) ([("work", 6), ("hour", 7)] : List (Str × Nat))) (pSeq 2 (psCons (pName 6) (psCons (pName 7) psNil))) (iSeqS (eVar 2)) tTrue (eJoin (eC (.str [32])) (eFroz (eLst (aCons (eC (.str [100, 117, 101])) (aCons (eVar 6) (aCons (eBi bStrI (aCons (eVar 7) aNil)) aNil)))))))) aNil))))
  (sRet (eJoin (eC (.str [10])) (eFroz (eLst (aStar (eVar 4) (aCons (eJoin (eC (.str [32])) (eFroz (eLst (aCons (eC (.str [104, 97, 110, 100, 115])) (aStar (eFroz (eLc (List.map (·.2) ([("number", 8)] : List (Str × Nat))) (pName 8) (iSeqS (eVar 3)) tTrue (eBi bStrI (aCons (eVar 8) aNil)))) aNil))))) aNil)))))))))
def F_text_by : FF := runB 9 b_text_by
abbrev N_text_by : List Str := ["works", "needs", "dues", "hands", "lines", "names", "work", "hour", "number"]
theorem nd_text_by : (N_text_by).Nodup := by decide +kernel
theorem bs_text_by (g : Gf fa fn ck K mg) : BodyS P w K mg base (omOf K ρ) 0 N_text_by (defScope s_text_by) (defBody s_text_by) b_text_by := fun qual f cdv A outer s H E hr => (mss_cons (ms_set nd_text_by rfl (Or.inl rfl) (me_newL (ml_lst (ma_cons (me_join (g.eStr 24 rfl) (me_lst (ml_lst (ma_cons (g.eStr 26 rfl) (ma_star (me_var 0) ma_nil))))) ma_nil))))
  (mss_cons (ms_expr (me_ext2 (me_var 4) (ma_cons (me_lst (ml_lc rfl nd_text_by (mi_seqS (me_var 1)) (own := [("names", 5)]) (blkOk (N := N_text_by) (sc := defScope s_text_by) (by decide +kernel)) (pat_name 5) (by decide +kernel) (fun _ _ _ _ _ => (pg_name nd_text_by rfl (Or.inl rfl))) (fun _ _ _ _ _ => mts_nil) (fun _ _ _ _ _ => (me_join (g.eStr 24 rfl) (me_lst (ml_lst (ma_cons (g.eStr 37 rfl) (ma_star (me_var 5) ma_nil)))))))) ma_nil)))
  (mss_cons (ms_expr (me_ext2 (me_var 4) (ma_cons (me_lst (ml_lc rfl nd_text_by (mi_seqS (me_var 2)) (own := [("work", 6), ("hour", 7)]) (blkOk (N := N_text_by) (sc := defScope s_text_by) (by decide +kernel)) (pat_seq (n := 2) (pats_cons (pat_name 6) (pats_cons (pat_name 7) pats_nil))) (by decide +kernel) (fun _ _ _ _ _ => (pg_seq (n := 2) rfl (pgs_cons (pg_name nd_text_by rfl (Or.inl rfl)) (pgs_cons (pg_name nd_text_by rfl (Or.inl rfl)) pgs_nil)))) (fun _ _ _ _ _ => mts_nil) (fun _ _ _ _ _ => (me_join (g.eStr 24 rfl) (me_lst (ml_lst (ma_cons (g.eStr 43 rfl) (ma_cons (me_var 6) (ma_cons (me_callTy call_str_int bStrI_ok rfl (g.free 12) (by decide +kernel) (ma_cons (me_var 7) ma_nil)) ma_nil))))))))) ma_nil)))
  (mss_one (ms_ret (me_join (g.eStr 14 rfl) (me_lst (ml_lst (ma_star (me_var 4) (ma_cons (me_join (g.eStr 24 rfl) (me_lst (ml_lst (ma_cons (g.eStr 113 rfl) (ma_star (me_lst (ml_lc rfl nd_text_by (mi_seqS (me_var 3)) (own := [("number", 8)]) (blkOk (N := N_text_by) (sc := defScope s_text_by) (by decide +kernel)) (pat_name 8) (by decide +kernel) (fun _ _ _ _ _ => (pg_name nd_text_by rfl (Or.inl rfl))) (fun _ _ _ _ _ => mts_nil) (fun _ _ _ _ _ => (me_callTy call_str_int bStrI_ok rfl (g.free 12) (by decide +kernel) (ma_cons (me_var 8) ma_nil))))) ma_nil))))) ma_nil))))))))))
theorem sc_text_by : FnScope N_text_by ["works", "needs", "dues", "hands"] (defScope s_text_by) := ⟨rfl, rfl, rfl, nd_text_by, rfl, by decide +kernel, by decide +kernel⟩
theorem fk_text_by (g : Gf fa fn ck K mg) : ∃ fd, FnOk P w K mg base (L2.CX P w) 1 ((fn.getD 40 dummyD).adr K) fd ["works", "needs", "dues", "hands"] (spF K (omOf K ρ) 4 F_text_by) ∧ BndL K fd ["works", "needs", "dues", "hands"] (omOf K ρ) [] := by
  obtain ⟨fd, F⟩ := g.def_ 40 (d := fn.getD 40 dummyD)
  exact ⟨fd, fnOk_of F sc_text_by (bs_text_by g), bndN F fun _ _ _ _ _ _ us hl => match us, hl with | [_, _, _, _], _ => rfl⟩
theorem fg_text_by (g : Gf fa fn ck K mg) : FnG P w K mg base (omOf K ρ) "text_by" 1 4 [] F_text_by := by
  obtain ⟨fd, ok, bd⟩ := fk_text_by (P := P) (w := w) (base := base) (ρ := ρ) g
  exact gFn rfl (g.glo 114) (g.keep 115) ok bd
/-! ### Book.hands -/
def b_Book_hands : SF := (sRet (eFld 0 3 (eFld 2 0 (eVar 0))))
def F_Book_hands : FF := runB 1 b_Book_hands
abbrev N_Book_hands : List Str := ["self"]
theorem nd_Book_hands : (N_Book_hands).Nodup := by decide +kernel
theorem bs_Book_hands (g : Gf fa fn ck K mg) : BodyS P w K mg base (omOf K ρ) 0 N_Book_hands (defScope s_Book_hands) (defBody s_Book_hands) b_Book_hands := fun qual f cdv A outer s H E hr => (mss_one (ms_ret (me_fld (c := 0) (g.cls 59) (g.noat 63) rfl fu_0_3 (me_fld (c := 2) (g.cls 72) (g.noat 73) rfl fu_2_0 (me_var 0)))))
theorem sc_Book_hands : FnScope N_Book_hands ["self"] (defScope s_Book_hands) := ⟨rfl, rfl, rfl, nd_Book_hands, rfl, by decide +kernel, by decide +kernel⟩
theorem fk_Book_hands (g : Gf fa fn ck K mg) : ∃ fd, FnOk P w K mg base (L2.CX P w) 1 ((fn.getD 41 dummyD).adr K) fd ["self"] (spF K (omOf K ρ) 1 F_Book_hands) ∧ BndL K fd ["self"] (omOf K ρ) [] := by
  obtain ⟨fd, F⟩ := g.def_ 41 (d := fn.getD 41 dummyD)
  exact ⟨fd, fnOk_of F sc_Book_hands (bs_Book_hands g), bndN F fun _ _ _ _ _ _ us hl => match us, hl with | [_], _ => rfl⟩
theorem fg_Book_hands (g : Gf fa fn ck K mg) : PrG P w K mg base (omOf K ρ) 2 "hands" 1 F_Book_hands := by
  obtain ⟨fd, ok, bd⟩ := fk_Book_hands (P := P) (w := w) (base := base) (ρ := ρ) g
  exact gPr rfl (g.cls 72) (g.prop 3) ok bd
/-! ### Book.needs -/
def b_Book_needs : SF := (sRet (eFld 0 1 (eFld 2 0 (eVar 0))))
def F_Book_needs : FF := runB 1 b_Book_needs
abbrev N_Book_needs : List Str := ["self"]
theorem nd_Book_needs : (N_Book_needs).Nodup := by decide +kernel
theorem bs_Book_needs (g : Gf fa fn ck K mg) : BodyS P w K mg base (omOf K ρ) 0 N_Book_needs (defScope s_Book_needs) (defBody s_Book_needs) b_Book_needs := fun qual f cdv A outer s H E hr => (mss_one (ms_ret (me_fld (c := 0) (g.cls 59) (g.noat 61) rfl fu_0_1 (me_fld (c := 2) (g.cls 72) (g.noat 73) rfl fu_2_0 (me_var 0)))))
theorem sc_Book_needs : FnScope N_Book_needs ["self"] (defScope s_Book_needs) := ⟨rfl, rfl, rfl, nd_Book_needs, rfl, by decide +kernel, by decide +kernel⟩
theorem fk_Book_needs (g : Gf fa fn ck K mg) : ∃ fd, FnOk P w K mg base (L2.CX P w) 1 ((fn.getD 42 dummyD).adr K) fd ["self"] (spF K (omOf K ρ) 1 F_Book_needs) ∧ BndL K fd ["self"] (omOf K ρ) [] := by
  obtain ⟨fd, F⟩ := g.def_ 42 (d := fn.getD 42 dummyD)
  exact ⟨fd, fnOk_of F sc_Book_needs (bs_Book_needs g), bndN F fun _ _ _ _ _ _ us hl => match us, hl with | [_], _ => rfl⟩
theorem fg_Book_needs (g : Gf fa fn ck K mg) : PrG P w K mg base (omOf K ρ) 2 "needs" 1 F_Book_needs := by
  obtain ⟨fd, ok, bd⟩ := fk_Book_needs (P := P) (w := w) (base := base) (ρ := ρ) g
  exact gPr rfl (g.cls 72) (g.prop 4) ok bd
/-! ### Book.without_due -/
def b_Book_without_due : SF := (sSeq (sIf (tVal (eOp opIs (eMeth 2 2 F_Book_due (([] : List T).drop 0) (eVar 0) (aCons (eVar 1) aNil)) (eC .non))) sNo sNil)
  (sSeq (sSet 2 (eFroz (eLc (List.map (·.2) ([("one", 3), ("hour", 4)] : List (Str × Nat))) (pSeq 2 (psCons (pName 3) (psCons (pName 4) psNil))) (iSeqS (eProp 2 F_Book_dues (eVar 0))) (tVal (eOp opNe (eVar 3) (eVar 1))) (eTup (aCons (eVar 3) (aCons (eVar 4) aNil))))))
  (sRet (eMake true 2 2 F_Book_init (aCons (eCall 4 F_text_by (([] : List T).drop 0) (aCons (eProp 2 F_Book_works (eVar 0)) (aCons (eProp 2 F_Book_needs (eVar 0)) (aCons (eVar 2) (aCons (eProp 2 F_Book_hands (eVar 0)) aNil))))) aNil)))))
def F_Book_without_due : FF := runB 5 b_Book_without_due
abbrev N_Book_without_due : List Str := ["self", "work", "dues", "one", "hour"]
theorem nd_Book_without_due : (N_Book_without_due).Nodup := by decide +kernel
theorem bs_Book_without_due (g : Gf fa fn ck K mg) : BodyS P w K mg base (omOf K ρ) 9 N_Book_without_due (defScope s_Book_without_due) (defBody s_Book_without_due) b_Book_without_due := fun qual f cdv A outer s H E hr => (mss_cons (ms_if (mt_cmp op_is2 opIs_ok (me_meth 0 (fg_Book_due g) (hr.mono (by decide)) (takes_of rfl rfl rfl rfl) (me_var 0) (ma_cons (me_var 1) ma_nil)) me_non (nomark _)) (mss_one ms_no) mss_nil)
  (mss_cons (ms_lcF rfl nd_Book_without_due rfl rfl (mi_seqS (me_prop (fg_Book_dues g) (hr.mono (by decide)) (me_var 0))) (own := [("one", 3), ("hour", 4)]) (blkOk (N := N_Book_without_due) (sc := defScope s_Book_without_due) (by decide +kernel)) (pat_seq (n := 2) (pats_cons (pat_name 3) (pats_cons (pat_name 4) pats_nil))) (by decide +kernel) (fun _ _ _ _ _ => (pg_seq (n := 2) rfl (pgs_cons (pg_name nd_Book_without_due rfl (Or.inl rfl)) (pgs_cons (pg_name nd_Book_without_due rfl (Or.inl rfl)) pgs_nil)))) (fun _ _ _ _ _ => (mts_one (mt_cmp (op_neD (un64 hr)) opNe_ok (me_var 3) (me_var 1) (nomark _)))) (fun _ _ _ _ _ => (me_tup (ma_cons (me_var 3) (ma_cons (me_var 4) ma_nil)))))
  (mss_one (ms_ret (me_make true (fg_Book_init g) (hr.mono (by decide)) (takes_of rfl rfl rfl rfl) rfl (ma_cons (me_call 0 (fg_text_by g) (hr.mono (by decide)) (takes_of rfl rfl rfl rfl) rfl (ma_cons (me_prop (fg_Book_works g) (hr.mono (by decide)) (me_var 0)) (ma_cons (me_prop (fg_Book_needs g) (hr.mono (by decide)) (me_var 0)) (ma_cons (me_var 2) (ma_cons (me_prop (fg_Book_hands g) (hr.mono (by decide)) (me_var 0)) ma_nil))))) ma_nil))))))
theorem sc_Book_without_due : FnScope N_Book_without_due ["self", "work"] (defScope s_Book_without_due) := ⟨rfl, rfl, rfl, nd_Book_without_due, rfl, by decide +kernel, by decide +kernel⟩
theorem fk_Book_without_due (g : Gf fa fn ck K mg) : ∃ fd, FnOk P w K mg base (L2.CX P w) 10 ((fn.getD 43 dummyD).adr K) fd ["self", "work"] (spF K (omOf K ρ) 2 F_Book_without_due) ∧ BndL K fd ["self", "work"] (omOf K ρ) [] := by
  obtain ⟨fd, F⟩ := g.def_ 43 (d := fn.getD 43 dummyD)
  exact ⟨fd, fnOk_of F sc_Book_without_due (bs_Book_without_due g), bndN F fun _ _ _ _ _ _ us hl => match us, hl with | [_, _], _ => rfl⟩
theorem fg_Book_without_due (g : Gf fa fn ck K mg) : MeG P w K mg base (omOf K ρ) 2 "without_due" 10 2 [] F_Book_without_due := by
  obtain ⟨fd, ok, bd⟩ := fk_Book_without_due (P := P) (w := w) (base := base) (ρ := ρ) g
  exact gMe rfl (g.cls 72) (g.meth 116) nm_Book_without_due ok bd
/-! ### _law_are_dues_right -/
def b_ulaw_are_dues_right : SF := (sSeq (sPat (pSeq 5 (psCons (pName 1) (psCons (pName 2) (psCons (pName 3) (psCons (pName 4) (psCons (pName 5) psNil)))))) (eVar 0))
  (sSeq (sSet 6 (eCall 4 F_ulaw_made (([] : List T).drop 0) (aCons (eVar 0) (aCons (eFroz (eLst (aCons (eTup (aCons (eC (.int 0)) (aCons (eC (.int 1)) aNil))) aNil))) (aCons (eFroz (eLst (aCons (eTup (aCons (eC (.int 1)) (aCons (eC (.int 2)) aNil))) (aCons (eTup (aCons (eC (.int 0)) (aCons (eC (.int 1)) aNil))) (aCons (eTup (aCons (eC (.int 4)) (aCons (eC (.int 40)) aNil))) (aCons (eTup (aCons (eC (.int 2)) (aCons (eC (.int 3)) aNil))) aNil)))))) (aCons (eC (.str [49])) aNil))))))
  (sSeq (sIf (tOr2 (tVal (eOp opNe (eCall 2 F_late (([] : List T).drop 0) (aCons (eVar 6) (aCons (eTup (aCons (eTup (aCons (eVar 1) aNil)) (aCons (eTup (aCons (eVar 2) aNil)) (aCons (eTup (aCons (eVar 3) aNil)) (aCons (eTup (aCons (eVar 4) aNil)) (aCons (eTup (aCons (eVar 5) aNil)) aNil)))))) aNil))) (eTup aNil))) (tVal (eOp opNe (eCall 2 F_late (([] : List T).drop 0) (aCons (eVar 6) (aCons (eTup (aCons (eTup (aCons (eVar 2) aNil)) (aCons (eTup (aCons (eVar 1) aNil)) (aCons (eTup (aCons (eVar 3) (aCons (eVar 4) (aCons (eVar 5) aNil)))) aNil)))) aNil))) (eTup (aCons (eVar 1) aNil))))) (sRet (eC (.bl false))) sNil)
  (sSeq (sIf (tOr2 (tVal (eOp opNe (eCall 2 F_late (([] : List T).drop 0) (aCons (eVar 6) (aCons (eTup (aCons (eTup aNil) (aCons (eTup (aCons (eVar 1) aNil)) (aCons (eTup aNil) (aCons (eTup (aCons (eVar 2) (aCons (eVar 3) (aCons (eVar 4) (aCons (eVar 5) aNil))))) aNil))))) aNil))) (eTup (aCons (eVar 1) (aCons (eVar 2) (aCons (eVar 3) aNil)))))) (tVal (eOp opNe (eCall 2 F_late (([] : List T).drop 0) (aCons (eVar 6) (aCons (eTup (aCons (eRevT (eTup (aCons (eVar 5) (aCons (eVar 4) (aCons (eVar 3) (aCons (eVar 2) (aCons (eVar 1) aNil))))))) aNil)) aNil))) (eTup aNil)))) (sRet (eC (.bl false))) sNil)
  (sSeq (sSet 7 (eOp opPlus (eOp opPlus (eTup (aCons (eTup (aCons (eVar 1) (aCons (eVar 2) (aCons (eVar 3) aNil)))) aNil)) (eOp opTimes (eTup (aCons (eTup aNil) aNil)) (eC (.int 39)))) (eTup (aCons (eTup (aCons (eVar 4) (aCons (eVar 5) aNil))) aNil))))
  (sRet (eAnd (eOp opEq (eCall 2 F_late (([] : List T).drop 0) (aCons (eVar 6) (aCons (eVar 7) aNil))) (eTup (aCons (eVar 5) aNil))) (eAnd (eOp opEq (eCall 2 F_late (([] : List T).drop 0) (aCons (eVar 6) (aCons (eOp opPlus (eSlice (eVar 7) none (some (eC (.int 1))) slT) (eSlice (eVar 7) (some (eC (.int 2))) none slT)) aNil))) (eTup aNil)) (eOp opEq (eCall 2 F_late (([] : List T).drop 0) (aCons (eMeth 2 2 F_Book_without_due (([] : List T).drop 0) (eVar 6) (aCons (eVar 5) aNil)) (aCons (eVar 7) aNil))) (eTup aNil))))))))))
def F_ulaw_are_dues_right : FF := runB 8 b_ulaw_are_dues_right
abbrev N_ulaw_are_dues_right : List Str := ["_law_names", "_law_a", "_law_b", "_law_c", "_law_d", "_law_e", "_law_made_here", "_law_long"]
theorem nd_ulaw_are_dues_right : (N_ulaw_are_dues_right).Nodup := by decide +kernel
theorem bs_ulaw_are_dues_right (g : Gf fa fn ck K mg) : BodyS P w K mg base (omOf K ρ) 11 N_ulaw_are_dues_right (defScope s_ulaw_are_dues_right) (defBody s_ulaw_are_dues_right) b_ulaw_are_dues_right := fun qual f cdv A outer s H E hr => (mss_cons (ms_pat (pat_seq (n := 5) (pats_cons (pat_name 1) (pats_cons (pat_name 2) (pats_cons (pat_name 3) (pats_cons (pat_name 4) (pats_cons (pat_name 5) pats_nil)))))) (me_var 0) (pg_seq (n := 5) rfl (pgs_cons (pg_name nd_ulaw_are_dues_right rfl (Or.inl rfl)) (pgs_cons (pg_name nd_ulaw_are_dues_right rfl (Or.inl rfl)) (pgs_cons (pg_name nd_ulaw_are_dues_right rfl (Or.inl rfl)) (pgs_cons (pg_name nd_ulaw_are_dues_right rfl (Or.inl rfl)) (pgs_cons (pg_name nd_ulaw_are_dues_right rfl (Or.inl rfl)) pgs_nil)))))))
  (mss_cons (ms_set nd_ulaw_are_dues_right rfl (Or.inl rfl) (me_call 0 (fg_ulaw_made g) (hr.mono (by decide)) (takes_of rfl rfl rfl rfl) rfl (ma_cons (me_var 0) (ma_cons (me_lst (ml_lst (ma_cons (me_tup (ma_cons me_int (ma_cons me_int ma_nil))) ma_nil))) (ma_cons (me_lst (ml_lst (ma_cons (me_tup (ma_cons me_int (ma_cons me_int ma_nil))) (ma_cons (me_tup (ma_cons me_int (ma_cons me_int ma_nil))) (ma_cons (me_tup (ma_cons me_int (ma_cons me_int ma_nil))) (ma_cons (me_tup (ma_cons me_int (ma_cons me_int ma_nil))) ma_nil)))))) (ma_cons me_str ma_nil))))))
  (mss_cons (ms_if (mt_w (mw_or (mt_cmp (op_neD (un64 hr)) opNe_ok (me_call 0 (fg_late g) (hr.mono (by decide)) (takes_of rfl rfl rfl rfl) rfl (ma_cons (me_var 6) (ma_cons (me_tup (ma_cons (me_tup (ma_cons (me_var 1) ma_nil)) (ma_cons (me_tup (ma_cons (me_var 2) ma_nil)) (ma_cons (me_tup (ma_cons (me_var 3) ma_nil)) (ma_cons (me_tup (ma_cons (me_var 4) ma_nil)) (ma_cons (me_tup (ma_cons (me_var 5) ma_nil)) ma_nil)))))) ma_nil))) (me_tup ma_nil) (nomark _)) (mw_or1 (mt_cmp (op_neD (un64 hr)) opNe_ok (me_call 0 (fg_late g) (hr.mono (by decide)) (takes_of rfl rfl rfl rfl) rfl (ma_cons (me_var 6) (ma_cons (me_tup (ma_cons (me_tup (ma_cons (me_var 2) ma_nil)) (ma_cons (me_tup (ma_cons (me_var 1) ma_nil)) (ma_cons (me_tup (ma_cons (me_var 3) (ma_cons (me_var 4) (ma_cons (me_var 5) ma_nil)))) ma_nil)))) ma_nil))) (me_tup (ma_cons (me_var 1) ma_nil)) (nomark _))))) (mss_one (ms_ret me_bl)) mss_nil)
  (mss_cons (ms_if (mt_w (mw_or (mt_cmp (op_neD (un64 hr)) opNe_ok (me_call 0 (fg_late g) (hr.mono (by decide)) (takes_of rfl rfl rfl rfl) rfl (ma_cons (me_var 6) (ma_cons (me_tup (ma_cons (me_tup ma_nil) (ma_cons (me_tup (ma_cons (me_var 1) ma_nil)) (ma_cons (me_tup ma_nil) (ma_cons (me_tup (ma_cons (me_var 2) (ma_cons (me_var 3) (ma_cons (me_var 4) (ma_cons (me_var 5) ma_nil))))) ma_nil))))) ma_nil))) (me_tup (ma_cons (me_var 1) (ma_cons (me_var 2) (ma_cons (me_var 3) ma_nil)))) (nomark _)) (mw_or1 (mt_cmp (op_neD (un64 hr)) opNe_ok (me_call 0 (fg_late g) (hr.mono (by decide)) (takes_of rfl rfl rfl rfl) rfl (ma_cons (me_var 6) (ma_cons (me_tup (ma_cons (me_revT (me_tup (ma_cons (me_var 5) (ma_cons (me_var 4) (ma_cons (me_var 3) (ma_cons (me_var 2) (ma_cons (me_var 1) ma_nil))))))) ma_nil)) ma_nil))) (me_tup ma_nil) (nomark _))))) (mss_one (ms_ret me_bl)) mss_nil)
  (mss_cons (ms_set nd_ulaw_are_dues_right rfl (Or.inl rfl) (me_bin op_plus opPlus_ok (me_bin op_plus opPlus_ok (me_tup (ma_cons (me_tup (ma_cons (me_var 1) (ma_cons (me_var 2) (ma_cons (me_var 3) ma_nil)))) ma_nil)) (me_bin op_times opTimes_ok (me_tup (ma_cons (me_tup ma_nil) ma_nil)) me_int)) (me_tup (ma_cons (me_tup (ma_cons (me_var 4) (ma_cons (me_var 5) ma_nil))) ma_nil))))
  (mss_one (ms_ret (me_and (me_cmp (op_eqD (un64 hr)) opEq_ok (me_call 0 (fg_late g) (hr.mono (by decide)) (takes_of rfl rfl rfl rfl) rfl (ma_cons (me_var 6) (ma_cons (me_var 7) ma_nil))) (me_tup (ma_cons (me_var 5) ma_nil)) (nomark _)) (me_and (me_cmp (op_eqD (un64 hr)) opEq_ok (me_call 0 (fg_late g) (hr.mono (by decide)) (takes_of rfl rfl rfl rfl) rfl (ma_cons (me_var 6) (ma_cons (me_bin op_plus opPlus_ok (me_slice (me_var 7) mp_none (mp_some me_int)) (me_slice (me_var 7) (mp_some me_int) mp_none)) ma_nil))) (me_tup ma_nil) (nomark _)) (me_one (me_cmp (op_eqD (un64 hr)) opEq_ok (me_call 0 (fg_late g) (hr.mono (by decide)) (takes_of rfl rfl rfl rfl) rfl (ma_cons (me_meth 0 (fg_Book_without_due g) (hr.mono (by decide)) (takes_of rfl rfl rfl rfl) (me_var 6) (ma_cons (me_var 5) ma_nil)) (ma_cons (me_var 7) ma_nil))) (me_tup ma_nil) (nomark _))))))))))))
theorem sc_ulaw_are_dues_right : FnScope N_ulaw_are_dues_right ["_law_names"] (defScope s_ulaw_are_dues_right) := ⟨rfl, rfl, rfl, nd_ulaw_are_dues_right, rfl, by decide +kernel, by decide +kernel⟩
theorem fk_ulaw_are_dues_right (g : Gf fa fn ck K mg) : ∃ fd, FnOk P w K mg base (L2.CX P w) 12 ((fn.getD 44 dummyD).adr K) fd ["_law_names"] (spF K (omOf K ρ) 1 F_ulaw_are_dues_right) ∧ BndL K fd ["_law_names"] (omOf K ρ) [] := by
  obtain ⟨fd, F⟩ := g.def_ 44 (d := fn.getD 44 dummyD)
  exact ⟨fd, fnOk_of F sc_ulaw_are_dues_right (bs_ulaw_are_dues_right g), bndN F fun _ _ _ _ _ _ us hl => match us, hl with | [_], _ => rfl⟩
theorem fg_ulaw_are_dues_right (g : Gf fa fn ck K mg) : FnG P w K mg base (omOf K ρ) "_law_are_dues_right" 12 1 [] F_ulaw_are_dues_right := by
  obtain ⟨fd, ok, bd⟩ := fk_ulaw_are_dues_right (P := P) (w := w) (base := base) (ρ := ρ) g
  exact gFn rfl (g.glo 117) (g.keep 118) ok bd
/-! ### _law_right -/
def b1_ulaw_right : SF := (sSet 1 (eCall 3 F_ulaw_some (([] : List T).drop 0) (aCons (eVar 0) (aCons (eFroz (eLst (aCons (eC (.str [97])) (aCons (eC (.str [98])) (aCons (eC (.str [119, 111, 114, 107, 115])) (aCons (eC (.str [97, 104, 101, 97, 100])) (aCons (eC (.str [100, 117, 101])) (aCons (eC (.str [104, 97, 110, 100, 115])) (aCons (eC (.str [100, 97, 121])) (aCons (eC (.str [120])) (aCons (eC (.str [107, 101, 112, 116])) (aCons (eC (.str [122, 122])) aNil)))))))))))) (aCons (eC (.int 5)) aNil)))))
def b2_ulaw_right : SF := (sRet (eAnd (eCall 1 F_ulaw_are_judged_right (([] : List T).drop 0) (aCons (eVar 1) aNil)) (eAnd (eCall 1 F_ulaw_are_hands_right (([] : List T).drop 0) (aCons (eVar 1) aNil)) (eCall 1 F_ulaw_are_dues_right (([] : List T).drop 0) (aCons (eVar 1) aNil)))))
abbrev N_ulaw_right : List Str := ["_law_pot_here", "_law_names"]
theorem nd_ulaw_right : (N_ulaw_right).Nodup := by decide +kernel
theorem bs1_ulaw_right (g : Gf fa fn ck K mg) : StS P w K mg base (omOf K ρ) 12 N_ulaw_right (defScope s_ulaw_right) ((defBody s_ulaw_right).getD 0 (.Pass ⟨0, 0, 0, 0⟩)) b1_ulaw_right := fun qual f cdv A outer s H E hr => (ms_set nd_ulaw_right rfl (Or.inl rfl) (me_call 0 (fg_ulaw_some g) (hr.mono (by decide)) (takes_of rfl rfl rfl rfl) rfl (ma_cons (me_var 0) (ma_cons (me_lst (ml_lst (ma_cons me_str (ma_cons me_str (ma_cons me_str (ma_cons me_str (ma_cons me_str (ma_cons me_str (ma_cons me_str (ma_cons me_str (ma_cons me_str (ma_cons me_str ma_nil)))))))))))) (ma_cons me_int ma_nil)))))
theorem bs2_ulaw_right (g : Gf fa fn ck K mg) : BodyS P w K mg base (omOf K ρ) 12 N_ulaw_right (defScope s_ulaw_right) ((defBody s_ulaw_right).drop 1) b2_ulaw_right := fun qual f cdv A outer s H E hr => (mss_one (ms_ret (me_and (me_call 0 (fg_ulaw_are_judged_right g) (hr.mono (by decide)) (takes_of rfl rfl rfl rfl) rfl (ma_cons (me_var 1) ma_nil)) (me_and (me_call 0 (fg_ulaw_are_hands_right g) (hr.mono (by decide)) (takes_of rfl rfl rfl rfl) rfl (ma_cons (me_var 1) ma_nil)) (me_one (me_call 0 (fg_ulaw_are_dues_right g) (hr.mono (by decide)) (takes_of rfl rfl rfl rfl) rfl (ma_cons (me_var 1) ma_nil)))))))
theorem run_ulaw_right : (good (b2_ulaw_right (sig0 2 1 5) [])).isSome = true := by decide +kernel
def F_ulaw_right : FF := splitF 2 1 5 ((good (b2_ulaw_right (sig0 2 1 5) [])).getD 0) b1_ulaw_right
theorem sc_ulaw_right : FnScope N_ulaw_right ["_law_pot_here"] (defScope s_ulaw_right) := ⟨rfl, rfl, rfl, nd_ulaw_right, rfl, by decide +kernel, by decide +kernel⟩
theorem fk_ulaw_right (g : Gf fa fn ck K mg) : ∃ fd, FnOk P w K mg base (L2.CX P w) 13 ((fn.getD 45 dummyD).adr K) fd ["_law_pot_here"] (spF K (omOf K ρ) 1 F_ulaw_right) ∧ BndL K fd ["_law_pot_here"] (omOf K ρ) [] := by
  obtain ⟨fd, F⟩ := g.def_ 45 (d := fn.getD 45 dummyD)
  exact ⟨fd, split_fn (om := omOf K) F sc_ulaw_right (fun _ => rfl) rfl (bs1_ulaw_right g) (fun ρ2 => bs2_ulaw_right (ρ := ρ2) g) (some_getD run_ulaw_right) (by decide), bndN F fun _ _ _ _ _ _ us hl => match us, hl with | [_], _ => rfl⟩
theorem fg_ulaw_right (g : Gf fa fn ck K mg) : FnG P w K mg base (omOf K ρ) "_law_right" 13 1 [] F_ulaw_right := by
  obtain ⟨fd, ok, bd⟩ := fk_ulaw_right (P := P) (w := w) (base := base) (ρ := ρ) g
  exact gFn rfl (g.glo 119) (g.keep 120) ok bd
/-! ### _law_pot -/
def b_ulaw_pot : SF := (sSeq (sSet 2 (eIf (tVal (eOp opLt (eVar 1) (eBi bLen (aCons (eVar 0) aNil)))) (eOp opIx (eVar 0) (eVar 1)) (eOp opPlus (eOp opMul (eC (.int 27)) (eVar 1)) (eC (.int 16)))))
  (sSeq (sSet 3 (eOp opMul (eOp opMod (eBi bInt (aCons (eBi bAbs (aCons (eVar 2) aNil)) aNil)) (eOp opPow (eOp opPow (eC (.int 10)) (eC (.int 60))) (eC (.int 5)))) (eBi bInt (aCons (eOp opGe (eBi bAbs (aCons (eVar 2) aNil)) (eOp opPow (eC (.int 10)) (eC (.int 18)))) aNil))))
  (sSeq (sSet 4 (eOp opMod (eBi bInt (aCons (eVar 2) aNil)) (eC (.int 2305843009213693951))))
  (sRet (eNewL (eLst (aCons (eVar 3) (aCons (eOp opMod (eBi bInt (aCons (eOp opPlus (eOp opPlus (eOp opMul (eVar 4) (eC (.int 78343))) (eOp opMul (eOp opMul (eC (.int 9007)) (eVar 1)) (eVar 1))) (eC (.int 229))) aNil)) (eC (.int 2305843009213693921))) (aCons (eC (.int 0)) aNil)))))))))
def F_ulaw_pot : FF := runB 5 b_ulaw_pot
abbrev N_ulaw_pot : List Str := ["_law_script", "_law_k", "_law_cell", "_law_first", "_law_small"]
theorem nd_ulaw_pot : (N_ulaw_pot).Nodup := by decide +kernel
theorem bs_ulaw_pot (g : Gf fa fn ck K mg) : BodyS P w K mg base (omOf K ρ) 0 N_ulaw_pot (defScope s_ulaw_pot) (defBody s_ulaw_pot) b_ulaw_pot := fun qual f cdv A outer s H E hr => (mss_cons (ms_set nd_ulaw_pot rfl (Or.inl rfl) (me_if (mt_cmp op_lt opLt_ok (me_var 1) (me_callB call_len2 bLen_ok rfl (g.free 0) (by decide +kernel) (ma_cons (me_var 0) ma_nil)) (nomark _)) (me_ix (me_var 0) (me_var 1)) (me_bin op_plus opPlus_ok (me_bin op_mul opMul_ok me_int (me_var 1)) me_int)))
  (mss_cons (ms_set nd_ulaw_pot rfl (Or.inl rfl) (me_bin op_mul opMul_ok (me_bin op_mod opMod_ok (me_callTy call_int2 bInt_ok rfl (g.free 7) (by decide +kernel) (ma_cons (me_callB call_abs bAbs_ok rfl (g.free 121) (by decide +kernel) (ma_cons (me_var 2) ma_nil)) ma_nil)) (me_bin op_powW opPow_ok (me_bin op_powW opPow_ok me_int me_int) me_int)) (me_callTy call_int2 bInt_ok rfl (g.free 7) (by decide +kernel) (ma_cons (me_cmp op_ge opGe_ok (me_callB call_abs bAbs_ok rfl (g.free 121) (by decide +kernel) (ma_cons (me_var 2) ma_nil)) (me_bin op_powW opPow_ok me_int me_int) (nomark _)) ma_nil))))
  (mss_cons (ms_set nd_ulaw_pot rfl (Or.inl rfl) (me_bin op_mod opMod_ok (me_callTy call_int2 bInt_ok rfl (g.free 7) (by decide +kernel) (ma_cons (me_var 2) ma_nil)) me_int))
  (mss_one (ms_ret (me_newL (ml_lst (ma_cons (me_var 3) (ma_cons (me_bin op_mod opMod_ok (me_callTy call_int2 bInt_ok rfl (g.free 7) (by decide +kernel) (ma_cons (me_bin op_plus opPlus_ok (me_bin op_plus opPlus_ok (me_bin op_mul opMul_ok (me_var 4) me_int) (me_bin op_mul opMul_ok (me_bin op_mul opMul_ok me_int (me_var 1)) (me_var 1))) me_int) ma_nil)) me_int) (ma_cons me_int ma_nil))))))))))
theorem sc_ulaw_pot : FnScope N_ulaw_pot ["_law_script", "_law_k"] (defScope s_ulaw_pot) := ⟨rfl, rfl, rfl, nd_ulaw_pot, rfl, by decide +kernel, by decide +kernel⟩
theorem fk_ulaw_pot (g : Gf fa fn ck K mg) : ∃ fd, FnOk P w K mg base (L2.CX P w) 1 ((fn.getD 46 dummyD).adr K) fd ["_law_script", "_law_k"] (spF K (omOf K ρ) 2 F_ulaw_pot) ∧ BndL K fd ["_law_script", "_law_k"] (omOf K ρ) [] := by
  obtain ⟨fd, F⟩ := g.def_ 46 (d := fn.getD 46 dummyD)
  exact ⟨fd, fnOk_of F sc_ulaw_pot (bs_ulaw_pot g), bndN F fun _ _ _ _ _ _ us hl => match us, hl with | [_, _], _ => rfl⟩
theorem fg_ulaw_pot (g : Gf fa fn ck K mg) : FnG P w K mg base (omOf K ρ) "_law_pot" 1 2 [] F_ulaw_pot := by
  obtain ⟨fd, ok, bd⟩ := fk_ulaw_pot (P := P) (w := w) (base := base) (ρ := ρ) g
  exact gFn rfl (g.glo 122) (g.keep 123) ok bd
/-! ### law -/
def b_law : SF := (sRet (eBi bAll (aCons (eFroz (eLc (List.map (·.2) ([("_law_place", 1)] : List (Str × Nat))) (pName 1) (iSeqS (eCall 2 F_ulaw_places (([] : List T).drop 0) (aCons (eVar 0) (aCons (eC (.int 4)) aNil)))) tTrue (eCall 1 F_ulaw_right (([] : List T).drop 0) (aCons (eCall 2 F_ulaw_pot (([] : List T).drop 0) (aCons (eVar 0) (aCons (eVar 1) aNil))) aNil)))) aNil)))
def F_law : FF := runB 2 b_law
abbrev N_law : List Str := ["_law_script", "_law_place"]
theorem nd_law : (N_law).Nodup := by decide +kernel
theorem bs_law (g : Gf fa fn ck K mg) : BodyS P w K mg base (omOf K ρ) 13 N_law (defScope s_law) (defBody s_law) b_law := fun qual f cdv A outer s H E hr => (mss_one (ms_ret (me_callB (cr_all rfl) bAll_ok rfl (g.free 29) (by decide +kernel) (ma_cons (me_lst (ml_lc rfl nd_law (mi_seqS (me_call 0 (fg_ulaw_places g) (hr.mono (by decide)) (takes_of rfl rfl rfl rfl) rfl (ma_cons (me_var 0) (ma_cons me_int ma_nil)))) (own := [("_law_place", 1)]) (blkOk (N := N_law) (sc := defScope s_law) (by decide +kernel)) (pat_name 1) (by decide +kernel) (fun _ _ _ _ _ => (pg_name nd_law rfl (Or.inl rfl))) (fun _ _ _ _ _ => mts_nil) (fun _ _ _ _ _ => (me_call 0 (fg_ulaw_right g) (hr.mono (by decide)) Mi.takes0 rfl (ma_cons (me_call 0 (fg_ulaw_pot g) (hr.mono (by decide)) Mi.takes0 rfl (ma_cons (me_var 0) (ma_cons (me_var 1) ma_nil))) ma_nil))))) ma_nil))))
theorem sc_law : FnScope N_law ["_law_script"] (defScope s_law) := ⟨rfl, rfl, rfl, nd_law, rfl, by decide +kernel, by decide +kernel⟩
theorem fk_law (g : Gf fa fn ck K mg) : ∃ fd, FnOk P w K mg base (L2.CX P w) 14 ((fn.getD 47 dummyD).adr K) fd ["_law_script"] (spF K (omOf K ρ) 1 F_law) ∧ BndL K fd ["_law_script"] (omOf K ρ) [] := by
  obtain ⟨fd, F⟩ := g.def_ 47 (d := fn.getD 47 dummyD)
  exact ⟨fd, fnOk_of F sc_law (bs_law g), bndN F fun _ _ _ _ _ _ us hl => match us, hl with | [_], _ => rfl⟩
theorem fg_law (g : Gf fa fn ck K mg) : FnG P w K mg base (omOf K ρ) "law" 14 1 [] F_law := by
  obtain ⟨fd, ok, bd⟩ := fk_law (P := P) (w := w) (base := base) (ρ := ρ) g
  exact gFn rfl (g.glo 124) (g.keep 125) ok bd
end
end K13
namespace K13
open PySem Mi
theorem opGt_t {M : Mem} {i j : Int} (h : j < i) : opGt M (.int i) (.int j) = some (.bl true) := by show some (T.bl (decide (j < i))) = _; rw [decide_eq_true h]
theorem opGt_f {M : Mem} {i j : Int} (h : ¬ j < i) : opGt M (.int i) (.int j) = some (.bl false) := by show some (T.bl (decide (j < i))) = _; rw [decide_eq_false h]
theorem opLt_t {M : Mem} {i j : Int} (h : i < j) : opLt M (.int i) (.int j) = some (.bl true) := by show some (T.bl (decide (i < j))) = _; rw [decide_eq_true h]
theorem opLt_f {M : Mem} {i j : Int} (h : ¬ i < j) : opLt M (.int i) (.int j) = some (.bl false) := by show some (T.bl (decide (i < j))) = _; rw [decide_eq_false h]
theorem bnd_take (x c : Int) (hc : 0 ≤ c ∧ c ≤ 1000) : -(2 ^ 64) < x % 10007 + 97 * (c + 1) ∧ x % 10007 + 97 * (c + 1) < 2 ^ 64 := by
  have h1 := Int.emod_nonneg x (show (10007 : Int) ≠ 0 by decide)
  have h2 := Int.emod_lt_of_pos x (show (0 : Int) < 10007 by decide)
  omega
theorem take_ok {M : Mem} {n : Nat} {a b c u : Int} (hM : M[n]? = some (.lst [.int a, .int b, .int c])) (ha : 0 ≤ a) (hb : 0 ≤ b ∧ b < 2305843009213693951) (hc : 0 ≤ c ∧ c ≤ 1000) (hu : 1 ≤ u ∧ u ≤ 1000) :
    ∃ d a' c', F_ulaw_take [.loc n, .int u] M = .ok (.int d) (M.set n (.lst [.int a', .int b, .int c'])) ∧ (0 ≤ d ∧ d < u) ∧ 0 ≤ a' ∧ 0 ≤ c' ∧ c' ≤ c + 1 := by
  have hl : n < M.length := (List.getElem?_eq_some_iff.mp hM).1
  by_cases h : 0 < a
  · refine ⟨a % u, a / u, c, ?_, ⟨Int.emod_nonneg _ (by omega), Int.emod_lt_of_pos _ (by omega)⟩, Int.ediv_nonneg ha (by omega), hc.1, by omega⟩
    refine runB_rt (sSeq_rt (sIf_t (tVal_ok (eOp_ok (eOp_ok (eVar_ok rfl) eC_ok (opIx_loc hM rfl)) eC_ok (opGt_t h)))
      (sSeq_nx (sSet_ok (eOp_ok (eBi_ok (aCons_ok (eOp_ok (eVar_ok rfl) eC_ok (opIx_loc hM rfl)) aNil_ok) rfl) (eVar_ok rfl) (opMod_p (by omega))))
      (sSeq_nx (sLput_ok (eOp_ok (eOp_ok (eVar_ok rfl) eC_ok (opIx_loc hM rfl)) (eVar_ok rfl) (opFdiv_p (by omega))) (eVar_ok rfl) eC_ok hM rfl) (sRet_ok (eVar_ok rfl))))))
  · have hM2 : (M.set n (.lst [.int a, .int b, .int (c + 1)]))[n]? = some (.lst [.int a, .int b, .int (c + 1)]) := List.getElem?_set_self hl
    have h5 : 0 ≤ (c + 1) % 5 ∧ (c + 1) % 5 < 5 := ⟨Int.emod_nonneg _ (by omega), Int.emod_lt_of_pos _ (by omega)⟩
    obtain ⟨p, hp, hp1⟩ : ∃ p : Int, L2.atI [T.int 2147483647, .int 2147483629, .int 2147483587, .int 2147483579, .int 2147483563] ((c + 1) % 5) = some (.int p) ∧ 0 < p ∧ p ≤ 2147483647 := by
      generalize (c + 1) % 5 = r at h5
      have : r = 0 ∨ r = 1 ∨ r = 2 ∨ r = 3 ∨ r = 4 := by omega
      rcases this with rfl | rfl | rfl | rfl | rfl
      · exact ⟨_, rfl, by decide⟩
      · exact ⟨_, rfl, by decide⟩
      · exact ⟨_, rfl, by decide⟩
      · exact ⟨_, rfl, by decide⟩
      · exact ⟨_, rfl, by decide⟩
    have hcc : 0 ≤ (c + 1) * (c + 1) ∧ (c + 1) * (c + 1) ≤ 1002001 := by
      constructor
      · exact Int.mul_nonneg (by omega) (by omega)
      · have := Int.mul_le_mul (show c + 1 ≤ 1001 by omega) (show c + 1 ≤ 1001 by omega) (by omega) (by omega)
        omega
    have hz : 92081 * (c + 1) * (c + 1) = 92081 * ((c + 1) * (c + 1)) := Int.mul_assoc _ _ _
    refine ⟨_, a, c + 1, runB_rt (sSeq_nx (sIf_f (tVal_ok (eOp_ok (eOp_ok (eVar_ok rfl) eC_ok (opIx_loc hM rfl)) eC_ok (opGt_f h))) sNil_ok)
      (sSeq_nx (sLput_ok (eOp_ok (eOp_ok (eVar_ok rfl) eC_ok (opIx_loc hM rfl)) eC_ok rfl) (eVar_ok rfl) eC_ok hM rfl)
      (sSeq_nx (sSet_ok (eOp_ok (eFroz_ok (eLst_ok (aCons_ok eC_ok (aCons_ok eC_ok (aCons_ok eC_ok (aCons_ok eC_ok (aCons_ok eC_ok aNil_ok))))) rfl)) (eOp_ok (eBi_ok (aCons_ok (eOp_ok (eVar_ok rfl) eC_ok (opIx_loc hM2 rfl)) aNil_ok) rfl) eC_ok (opMod_p (by omega))) (show opIx _ (.lst _) (.int _) = _ from hp)))
      (sSeq_nx (sSet_ok (eOp_ok (eBi_ok (aCons_ok (eOp_ok (eBi_ok (aCons_ok (eOp_ok (eOp_ok (eOp_ok (eVar_ok rfl) eC_ok (opIx_loc hM2 rfl)) (eOp_ok (eOp_ok eC_ok (eOp_ok (eVar_ok rfl) eC_ok (opIx_loc hM2 rfl)) (opMul_l (by decide))) (eOp_ok (eVar_ok rfl) eC_ok (opIx_loc hM2 rfl)) (opMul_r (by omega))) rfl) eC_ok rfl) aNil_ok) rfl) eC_ok (opPow_3 (by omega) (by omega))) aNil_ok) rfl) (eVar_ok rfl) (opMod_p hp1.1)))
      (sRet_ok (eOp_ok (eBi_ok (aCons_ok (eOp_ok (eOp_ok (eVar_ok rfl) (eOp_ok (eOp_ok (eBi_ok (aCons_ok (eVar_ok rfl) aNil_ok) rfl) eC_ok (opMod_p (by decide))) (eOp_ok eC_ok (eOp_ok (eVar_ok rfl) eC_ok (opIx_loc hM2 rfl)) (opMul_l (by decide))) rfl) (opMul_r (bnd_take _ _ hc))) eC_ok (opFdiv_p (by decide))) aNil_ok) rfl) (eVar_ok rfl) (opMod_p (by omega)))))))), ⟨Int.emod_nonneg _ (by omega), Int.emod_lt_of_pos _ (by omega)⟩, ha, by omega, by omega⟩

theorem map_erase (j : Nat) : ∀ (l : List (List Nat)) (j : Nat), (l.map T.str).eraseIdx j = (l.eraseIdx j).map T.str
  | [], _ => rfl
  | _ :: _, 0 => rfl
  | a :: l, j + 1 => by
    show T.str a :: (l.map T.str).eraseIdx j = T.str a :: (l.eraseIdx j).map T.str
    rw [map_erase j l j]
theorem erase_perm {α : Type} : ∀ (l : List α) (j : Nat) (h : j < l.length), (l[j] :: l.eraseIdx j).Perm l
  | a :: l, 0, _ => List.Perm.refl _
  | a :: l, j + 1, h => by
    have ih := erase_perm l j (Nat.lt_of_succ_lt_succ h)
    show ((l[j]'(Nat.lt_of_succ_lt_succ h)) :: a :: l.eraseIdx j).Perm (a :: l)
    exact (List.Perm.swap _ _ _).trans (ih.cons a)
theorem isLoc_t {M : Mem} {n : Nat} {xs : List T} (h : M[n]? = some (.lst xs)) : locL M (.loc n) = some (n, xs) := by
  show (match M[n]? with | some (.lst ts) => some (n, ts) | _ => none) = _
  rw [h]
theorem isLoc_b {M : Mem} {n : Nat} {xs : List T} (h : M[n]? = some (.lst xs)) : isLoc M (.loc n) = true := by
  unfold isLoc
  rw [isLoc_t h]
  rfl
theorem bLen_loc {M : Mem} {n : Nat} {xs : List T} (h : M[n]? = some (.lst xs)) : bLen M [.loc n] = some (.int xs.length) := by
  show (seqT M (.loc n)).map (fun xs => T.int xs.length) = _
  have : seqT M (.loc n) = some xs := by
    show (match M[n]? with | some (.lst ts) => some ts | _ => none) = _
    rw [h]
  rw [this]
  rfl
theorem ixN_ok {n : Nat} {d : Int} (h : 0 ≤ d ∧ d < n) : L2.ixN n d = some d.toNat := by
  unfold L2.ixN
  rw [if_pos h.1, if_pos h.2]
/-- the loop that draws -/
theorem draw_loop {n L : Nat} {b : Int} (hb : 0 ≤ b ∧ b < 2305843009213693951) (pool : List (List Nat)) (hp : pool.length ≤ 100) (pt kt : T) (hne : n ≠ L) (hne1 : n ≠ L + 1) : ∀ (ts : List T) (x : Option T) (M : Mem) (found left : List (List Nat)) (a c : Int),
    M[n]? = some (.lst [.int a, .int b, .int c]) → M[L]? = some (.lst (left.map .str)) → M[L + 1]? = some (.lst (found.map .str)) → (found ++ left).Perm pool → ts.length ≤ left.length → 0 ≤ a → 0 ≤ c → c + ts.length ≤ 1000 →
    ∃ (x' : Option T) (M' : Mem) (left' : List (List Nat)), forL (pName 5) (sExpr (eMt isLoc mAppend (eVar 4) (aCons (eMt isLoc mPopAt (eVar 3) (aCons (eCall 2 F_ulaw_take (([] : List T).drop 0) (aCons (eVar 0) (aCons (eBi bLen (aCons (eVar 3) aNil)) aNil))) aNil)) aNil))) ts [some (.loc n), some pt, some kt, some (.loc L), some (.loc (L + 1)), x] M
      = some (.nx [some (.loc n), some pt, some kt, some (.loc L), some (.loc (L + 1)), x'], M') ∧ ∃ ws : List (List Nat), M'[L + 1]? = some (.lst (ws.map .str)) ∧ (ws ++ left').Perm pool ∧ ws.length = found.length + ts.length
  | [], x, M, found, left, a, c, h1, h2, h3, hperm, _, _, _, _ => ⟨x, M, left, rfl, found, h3, hperm, rfl⟩
  | t :: ts, x, M, found, left, a, c, h1, h2, h3, hperm, hlen, ha, hc, hcl => by
    have hn : n < M.length := (List.getElem?_eq_some_iff.mp h1).1
    have hL : L < M.length := (List.getElem?_eq_some_iff.mp h2).1
    have hL1 : L + 1 < M.length := (List.getElem?_eq_some_iff.mp h3).1
    have hpl := hperm.length_eq
    rw [List.length_append] at hpl
    rw [List.length_cons] at hlen hcl
    obtain ⟨d, a', c', e1, hd, ha', hc', hc2⟩ := take_ok (u := (left.length : Nat)) h1 ha hb ⟨hc, by omega⟩ ⟨by omega, by omega⟩
    have g1 : (M.set n (.lst [.int a', .int b, .int c']))[n]? = some (.lst [.int a', .int b, .int c']) := List.getElem?_set_self hn
    have g2 : (M.set n (.lst [.int a', .int b, .int c']))[L]? = some (.lst (left.map .str)) := by rw [List.getElem?_set_ne hne]; exact h2
    have g3 : (M.set n (.lst [.int a', .int b, .int c']))[L + 1]? = some (.lst (found.map .str)) := by rw [List.getElem?_set_ne hne1]; exact h3
    have hj : d.toNat < left.length := by omega
    have hw : (left.map T.str)[d.toNat]? = some (.str left[d.toNat]) := by rw [List.getElem?_map, List.getElem?_eq_getElem hj]; rfl
    have e2 : mPopAt (M.set n (.lst [.int a', .int b, .int c'])) (.loc L) [.int d] = some (.str left[d.toNat], (M.set n (.lst [.int a', .int b, .int c'])).set L (.lst ((left.eraseIdx d.toNat).map .str))) := by
      unfold mPopAt
      rw [isLoc_t g2]
      have hbig : big (left.map T.str).length = true := decide_eq_true (by rw [List.length_map]; omega)
      have hix : L2.ixN (left.map T.str).length d = some d.toNat := ixN_ok ⟨hd.1, by rw [List.length_map]; exact hd.2⟩
      simp only [hbig, cond_true, hix, hw]
      rw [map_erase 0]
    have k3 : ((M.set n (.lst [.int a', .int b, .int c'])).set L (.lst ((left.eraseIdx d.toNat).map .str)))[L + 1]? = some (.lst (found.map .str)) := by rw [List.getElem?_set_ne (by omega)]; exact g3
    have e3 : mAppend ((M.set n (.lst [.int a', .int b, .int c'])).set L (.lst ((left.eraseIdx d.toNat).map .str))) (.loc (L + 1)) [.str left[d.toNat]] = some (.non, ((M.set n (.lst [.int a', .int b, .int c'])).set L (.lst ((left.eraseIdx d.toNat).map .str))).set (L + 1) (.lst ((found ++ [left[d.toNat]]).map .str))) := by
      unfold mAppend
      rw [isLoc_t k3]
      have hbig : big ((found.map T.str).length + 1) = true := decide_eq_true (by rw [List.length_map]; omega)
      simp only [hbig, cond_true, List.map_append, List.map_cons, List.map_nil]
    obtain ⟨x', M', left', q1, ws, q2, q3, q4⟩ := draw_loop hb pool hp pt kt hne hne1 ts (some t) (((M.set n (.lst [.int a', .int b, .int c'])).set L (.lst ((left.eraseIdx d.toNat).map .str))).set (L + 1) (.lst ((found ++ [left[d.toNat]]).map .str))) (found ++ [left[d.toNat]]) (left.eraseIdx d.toNat) a' c'
      (by rw [List.getElem?_set_ne (Ne.symm hne1), List.getElem?_set_ne (Ne.symm hne)]; exact g1) (by rw [List.getElem?_set_ne (by omega), List.getElem?_set_self (by rw [List.length_set]; exact hL)])
      (by rw [List.getElem?_set_self (by rw [List.length_set, List.length_set]; exact hL1)])
      (by
        rw [List.append_assoc]
        exact (List.Perm.append_left found (erase_perm left d.toNat hj)).trans hperm)
      (by rw [List.length_eraseIdx_of_lt hj]; omega) ha' hc' (by omega)
    refine ⟨x', M', left', ?_, ws, q2, q3, by rw [q4, List.length_append, List.length_cons, List.length_cons, List.length_nil]; omega⟩
    have step : sExpr (eMt isLoc mAppend (eVar 4) (aCons (eMt isLoc mPopAt (eVar 3) (aCons (eCall 2 F_ulaw_take (([] : List T).drop 0) (aCons (eVar 0) (aCons (eBi bLen (aCons (eVar 3) aNil)) aNil))) aNil)) aNil)) [some (.loc n), some pt, some kt, some (.loc L), some (.loc (L + 1)), some t] M
        = some (.nx [some (.loc n), some pt, some kt, some (.loc L), some (.loc (L + 1)), some t], ((M.set n (.lst [.int a', .int b, .int c'])).set L (.lst ((left.eraseIdx d.toNat).map .str))).set (L + 1) (.lst ((found ++ [left[d.toNat]]).map .str))) :=
      sExpr_ok (eMt_ok (eVar_ok rfl) (isLoc_b h3) (aCons_ok (eMt_ok (eVar_ok rfl) (isLoc_b h2) (aCons_ok (eCall_ok (aCons_ok (eVar_ok rfl) (aCons_ok (eBi_ok (aCons_ok (eVar_ok rfl) aNil_ok) (bLen_loc h2)) aNil_ok)) rfl (by rw [List.length_map]; exact e1)) aNil_ok) e2) aNil_ok) e3)
    unfold forL
    have hpn : pName 5 t [some (.loc n), some pt, some kt, some (.loc L), some (.loc (L + 1)), x] M = some [some (.loc n), some pt, some kt, some (.loc L), some (.loc (L + 1)), some t] := rfl
    rw [hpn]
    dsimp only
    rw [step]
    exact q1

theorem some_ok {M : Mem} {n k : Nat} {a b : Int} (pool : List (List Nat)) (hp : pool.length ≤ 100) (hk : k ≤ pool.length) (hM : M[n]? = some (.lst [.int a, .int b, .int 0])) (ha : 0 ≤ a) (hb : 0 ≤ b ∧ b < 2305843009213693951) :
    ∃ (M' : Mem) (left ws : List (List Nat)), F_ulaw_some [.loc n, .lst (pool.map .str), .int (k : Nat)] M = .ok (.loc (M.length + 1)) M' ∧ M'[M.length + 1]? = some (.lst (ws.map .str)) ∧ (ws ++ left).Perm pool ∧ ws.length = k := by
  have hn : n < M.length := (List.getElem?_eq_some_iff.mp hM).1
  have l2 : (M ++ [MO.lst (pool.map .str)]).length = M.length + 1 := by simp
  have g0 : ((M ++ [MO.lst (pool.map .str)]) ++ [.lst []])[n]? = some (.lst [.int a, .int b, .int 0]) := by rw [List.getElem?_append_left (by rw [l2]; omega), List.getElem?_append_left hn]; exact hM
  have g1 : ((M ++ [MO.lst (pool.map .str)]) ++ [.lst []])[M.length]? = some (.lst (pool.map .str)) := by rw [List.getElem?_append_left (by rw [l2]; omega), List.getElem?_append_right (Nat.le_refl _), Nat.sub_self]; rfl
  have g2 : ((M ++ [MO.lst (pool.map .str)]) ++ [.lst []])[M.length + 1]? = some (.lst (([] : List (List Nat)).map .str)) := by rw [← l2, List.getElem?_append_right (Nat.le_refl _), Nat.sub_self]; rfl
  have hrl : (rngT 0 k).length = k := by unfold rngT; rw [List.length_map, List.length_range]
  obtain ⟨x', M', left, e, ws, q1, q2, q3⟩ := draw_loop hb pool hp (.lst (pool.map .str)) (.int (k : Nat)) (n := n) (L := M.length) (by omega) (by omega) (rngT 0 k) none _ [] pool a 0 g0 g1 g2 (List.Perm.refl _) (by rw [hrl]; exact hk) ha (Int.le_refl 0) (by rw [hrl]; omega)
  refine ⟨M', left, ws, ?_, q1, q2, by rw [q3, hrl]; simp⟩
  have hr : rg1 [.int (k : Nat)] = some (rngT 0 k) := by
    have : inR (k : Nat) = true := by
      unfold inR
      rw [Bool.and_eq_true, decide_eq_true_eq, decide_eq_true_eq]
      omega
    show (bif inR (k : Nat) then some (rngT 0 ((k : Nat) : Int).toNat) else none) = _
    rw [this]
    rfl
  have e0 : sPar 3 4 (aCons (eNewL (eBiL bList (aCons (eVar 1) aNil))) (aCons (eNewL (eLst aNil)) aNil)) [some (.loc n), some (.lst (pool.map .str)), some (.int (k : Nat)), none, none, none] M = some (.nx [some (.loc n), some (.lst (pool.map .str)), some (.int (k : Nat)), some (.loc M.length), some (.loc (M.length + 1)), none], (M ++ [MO.lst (pool.map .str)]) ++ [.lst []]) := by
    have z := sPar_ok (i := 3) (j := 4) (aCons_ok (eNewL_ok (eBiL_ok (o := bList) (us := pool.map .str) (aCons_ok (eVar_ok (i := 1) (σ := [some (.loc n), some (.lst (pool.map .str)), some (.int (k : Nat)), none, none, none]) (M := M) rfl) aNil_ok) rfl)) (aCons_ok (eNewL_ok (eLst_ok aNil_ok rfl)) aNil_ok))
    rw [l2] at z
    exact z
  refine runB_rt (n := 6) (s := b_ulaw_some) (M1 := M') ?_
  show b_ulaw_some [some (.loc n), some (.lst (pool.map .str)), some (.int (k : Nat)), none, none, none] M = _
  unfold b_ulaw_some
  refine sSeq_nx e0 (sSeq_nx (M1 := M') (σ1 := [some (.loc n), some (.lst (pool.map .str)), some (.int (k : Nat)), some (.loc M.length), some (.loc (M.length + 1)), x']) ?_ (sRet_ok (eVar_ok rfl)))
  exact sFor_ok (iFun_ok (aCons_ok (eVar_ok rfl) aNil_ok) hr) e
theorem atI_map {zs : List Int} {k : Nat} (h : k < zs.length) : L2.atI (zs.map T.int) (k : Nat) = some (.int zs[k]) := by
  unfold L2.atI
  rw [List.length_map, ixN_ok ⟨by omega, by omega⟩]
  show (zs.map T.int)[((k : Nat) : Int).toNat]? = _
  rw [Int.toNat_natCast, List.getElem?_map, List.getElem?_eq_getElem h]
  rfl
theorem pot_ok (zs : List Int) (k : Nat) (hk : k ≤ 100) (M : Mem) : ∃ a b : Int, F_ulaw_pot [.klst (zs.map .int), .int (k : Nat)] M = .ok (.loc M.length) (M ++ [.lst [.int a, .int b, .int 0]]) ∧ 0 ≤ a ∧ 0 ≤ b ∧ b < 2305843009213693951 := by
  obtain ⟨z, hz⟩ : ∃ z : Int, eIf (tVal (eOp opLt (eVar 1) (eBi bLen (aCons (eVar 0) aNil)))) (eOp opIx (eVar 0) (eVar 1)) (eOp opPlus (eOp opMul (eC (.int 27)) (eVar 1)) (eC (.int 16))) [some (.klst (zs.map .int)), some (.int (k : Nat)), none, none, none] M = .ok (.int z) M := by
    have hl : bLen M [.klst (zs.map .int)] = some (.int zs.length) := by
      show some (T.int ((zs.map T.int).length : Nat)) = _
      rw [List.length_map]
    by_cases h : k < zs.length
    · exact ⟨zs[k], eIf_t (tVal_ok (eOp_ok (eVar_ok rfl) (eBi_ok (aCons_ok (eVar_ok rfl) aNil_ok) hl) (opLt_t (by omega)))) (eOp_ok (eVar_ok rfl) (eVar_ok rfl) (atI_map h))⟩
    · exact ⟨_, eIf_f (tVal_ok (eOp_ok (eVar_ok rfl) (eBi_ok (aCons_ok (eVar_ok rfl) aNil_ok) hl) (opLt_f (by omega)))) (eOp_ok (eOp_ok eC_ok (eVar_ok rfl) (opMul_l (by decide))) eC_ok rfl)⟩
  have pw : ∀ (i j : Int) (r : Int), (decide (0 ≤ j) && decide ((Builtin.Int.intBits i : Int) * j ≤ 2 ^ 27)) = true → i ^ j.toNat = r → opPow M (.int i) (.int j) = some (.int r) := fun i j r h1 h2 => by
    show (bif decide (0 ≤ j) && decide ((Builtin.Int.intBits i : Int) * j ≤ 2 ^ 27) then some (T.int (i ^ j.toNat)) else none) = _
    rw [h1, ← h2]
    rfl
  have p1 : ∀ σ : TV, eOp opPow (eOp opPow (eC (.int 10)) (eC (.int 60))) (eC (.int 5)) σ M = .ok (.int ((10 ^ 60) ^ 5)) M := fun σ => eOp_ok (eOp_ok eC_ok eC_ok (pw 10 60 (10 ^ 60) (by decide +kernel) rfl)) eC_ok (pw (10 ^ 60) 5 _ (by decide +kernel) rfl)
  have p2 : ∀ σ : TV, eOp opPow (eC (.int 10)) (eC (.int 18)) σ M = .ok (.int (10 ^ 18)) M := fun σ => eOp_ok eC_ok eC_ok (pw 10 18 _ (by decide +kernel) rfl)
  have hpos : (0 : Int) < (10 ^ 60) ^ 5 := by decide +kernel
  generalize ((10 : Int) ^ 60) ^ 5 = P at p1 hpos
  generalize (10 : Int) ^ 18 = P18 at p2
  generalize hw : (if z < 0 then -z else z) = w
  have hab : bAbs M [.int z] = some (.int w) := by
    show some (T.int (if z < 0 then -z else z)) = _
    rw [hw]
  obtain ⟨e, he, he1⟩ : ∃ e : Int, eBi bInt (aCons (eOp opGe (eBi bAbs (aCons (eVar 2) aNil)) (eOp opPow (eC (.int 10)) (eC (.int 18)))) aNil) [some (.klst (zs.map .int)), some (.int (k : Nat)), some (.int z), none, none] M = .ok (.int e) M ∧ 0 ≤ e ∧ e ≤ 1 := by
    refine ⟨if decide (P18 ≤ w) then 1 else 0, eBi_ok (aCons_ok (eOp_ok (eBi_ok (aCons_ok (eVar_ok rfl) aNil_ok) hab) (p2 _) rfl) aNil_ok) rfl, ?_⟩
    split <;> omega
  refine ⟨w % P * e, (z % 2305843009213693951 * 78343 + 9007 * (k : Nat) * (k : Nat) + 229) % 2305843009213693921, ?_, Int.mul_nonneg (Int.emod_nonneg _ (by omega)) he1.1, Int.emod_nonneg _ (show (2305843009213693921 : Int) ≠ 0 by decide), Int.lt_trans (Int.emod_lt_of_pos _ (show (0 : Int) < 2305843009213693921 by decide)) (by decide)⟩
  refine runB_rt (n := 5) (s := b_ulaw_pot) ?_
  show b_ulaw_pot [some (.klst (zs.map .int)), some (.int (k : Nat)), none, none, none] M = _
  unfold b_ulaw_pot
  exact sSeq_nx (sSet_ok hz) (sSeq_nx (sSet_ok (eOp_ok (eOp_ok (eBi_ok (aCons_ok (eBi_ok (aCons_ok (eVar_ok rfl) aNil_ok) hab) aNil_ok) rfl) (p1 _) (opMod_p hpos)) he (opMul_r (by omega))))
    (sSeq_nx (sSet_ok (eOp_ok (eBi_ok (aCons_ok (eVar_ok rfl) aNil_ok) rfl) eC_ok (opMod_p (j := 2305843009213693951) (by decide))))
    (sRet_ok (eNewL_ok (eLst_ok (aCons_ok (eVar_ok rfl) (aCons_ok (eOp_ok (eBi_ok (aCons_ok (eOp_ok (eOp_ok (eOp_ok (eVar_ok rfl) eC_ok (opMul_r (j := 78343) (by decide))) (eOp_ok (eOp_ok eC_ok (eVar_ok rfl) (opMul_l (i := 9007) (by decide))) (eVar_ok rfl) (opMul_r (j := (k : Nat)) (by omega))) rfl) eC_ok rfl) aNil_ok) rfl) eC_ok (opMod_p (j := 2305843009213693921) (by decide))) (aCons_ok eC_ok aNil_ok))) rfl)))))
theorem places_ok (zs : List Int) (m : Nat) (hm : m ≤ 1000) (M : Mem) : ∃ k : Nat, k ≤ m + 1 ∧ F_ulaw_places [.klst (zs.map .int), .int (m : Nat)] M = .ok (.lst (rngT 0 k)) M := by
  have hl : bLen M [.klst (zs.map .int)] = some (.int zs.length) := by
    show some (T.int ((zs.map T.int).length : Nat)) = _
    rw [List.length_map]
  obtain ⟨w, hw, hw1, hw2⟩ : ∃ w : Int, eBi bMax2 (aCons (eC (.int 1)) (aCons (eBi bMin2 (aCons (eVar 1) (aCons (eBi bLen (aCons (eVar 0) aNil)) aNil))) aNil)) [some (.klst (zs.map .int)), some (.int (m : Nat))] M = .ok (.int w) M ∧ 0 ≤ w ∧ w ≤ m + 1 := by
    refine ⟨if (if (zs.length : Int) < (m : Nat) then (zs.length : Int) else (m : Nat)) > 1 then (if (zs.length : Int) < (m : Nat) then (zs.length : Int) else (m : Nat)) else 1, eBi_ok (aCons_ok eC_ok (aCons_ok (eBi_ok (aCons_ok (eVar_ok rfl) (aCons_ok (eBi_ok (aCons_ok (eVar_ok rfl) aNil_ok) hl) aNil_ok)) rfl) aNil_ok)) rfl, ?_⟩
    split <;> split <;> omega
  refine ⟨w.toNat, by omega, ?_⟩
  refine runB_rt (n := 2) (s := b_ulaw_places) ?_
  show b_ulaw_places [some (.klst (zs.map .int)), some (.int (m : Nat))] M = _
  unfold b_ulaw_places
  refine sRet_ok (eFroz_ok ?_)
  unfold eLrg
  rw [hw]
  show Res.of (bif decide (0 ≤ w) && decide (w ≤ 1000000) then some (rngT 0 w.toNat) else none) M = _
  rw [decide_eq_true hw1, decide_eq_true (show w ≤ 1000000 by omega)]
  rfl

def poolW : List (List Nat) := [[97], [98], [119, 111, 114, 107, 115], [97, 104, 101, 97, 100], [100, 117, 101], [104, 97, 110, 100, 115], [100, 97, 121], [120], [107, 101, 112, 116], [122, 122]]
theorem okW_perm {pool ws left : List (List Nat)} (hp : (ws ++ left).Perm pool) (h1 : pool.all letters = true) (h2 : (pool ++ extraW).Nodup) (n : Nat) (hn : ws.length = n) (hs : n ≤ symN) : okW n ws = true := by
  unfold okW
  rw [Bool.and_eq_true, Bool.and_eq_true, Bool.and_eq_true]
  refine ⟨⟨⟨decide_eq_true hn, List.all_eq_true.mpr fun w hw => List.all_eq_true.mp h1 w (hp.mem_iff.mp (List.mem_append_left _ hw))⟩, decide_eq_true ?_⟩, decide_eq_true hs⟩
  have h3 : ((ws ++ left) ++ extraW).Nodup := (List.Perm.append_right extraW hp).nodup_iff.mpr h2
  rw [List.append_assoc] at h3
  have e : (ws ++ extraW).Sublist (ws ++ (left ++ extraW)) := (List.Sublist.refl ws).append (List.sublist_append_right left extraW)
  exact h3.sublist e
theorem strsT_map : ∀ ws : List (List Nat), strsT (ws.map T.str) = some ws
  | [] => rfl
  | w :: ws => by
    show (strsT (ws.map T.str)).map (w :: ·) = _
    rw [strsT_map ws]
    rfl
theorem right_ok {M : Mem} {n : Nat} {a b : Int} (hM : M[n]? = some (.lst [.int a, .int b, .int 0])) (ha : 0 ≤ a) (hb : 0 ≤ b ∧ b < 2305843009213693951) : ∃ M', F_ulaw_right [.loc n] M = .ok (.bl true) M' := by
  obtain ⟨M1, left, ws, e, h1, hp, hl⟩ := some_ok (k := 5) poolW (by decide) (by decide) hM ha hb
  have ok : okW 5 ws = true := okW_perm hp (by decide) (by decide +kernel) 5 hl (by decide)
  unfold F_ulaw_right splitF
  have e1 : b1_ulaw_right ([T.loc n].map some ++ List.replicate (2 - [T.loc n].length) none) M = some (.nx (([T.loc n].map some ++ List.replicate (2 - [T.loc n].length) none).set 1 (some (.loc (M.length + 1)))), M1) := by
    unfold b1_ulaw_right
    refine sSet_ok (eCall_ok (aCons_ok (eVar_ok rfl) (aCons_ok (eFroz_ok (eLst_ok (aCons_ok eC_ok (aCons_ok eC_ok (aCons_ok eC_ok (aCons_ok eC_ok (aCons_ok eC_ok (aCons_ok eC_ok (aCons_ok eC_ok (aCons_ok eC_ok (aCons_ok eC_ok (aCons_ok eC_ok aNil_ok)))))))))) rfl)) (aCons_ok eC_ok aNil_ok))) rfl ?_)
    exact e
  rw [e1]
  have e2 : wordsAt 1 (([T.loc n].map some ++ List.replicate (2 - [T.loc n].length) none).set 1 (some (.loc (M.length + 1)))) M1 = some ws := by
    show (lstT M1 (.loc (M.length + 1))).bind strsT = _
    have : lstT M1 (.loc (M.length + 1)) = some (ws.map .str) := by
      show (match M1[M.length + 1]? with | some (.lst ts) => some ts | _ => none) = _
      rw [h1]
    rw [this]
    exact strsT_map ws
  simp only [e2, ok]
  exact ⟨_, rfl⟩
theorem law_ok (zs : List Int) (M : Mem) : ∃ M', F_law [.klst (zs.map .int)] M = .ok (.bl true) M' := by
  obtain ⟨k, hk, e1⟩ := places_ok zs 4 (by decide) M
  have hrl : (rngT 0 k).length = k := by unfold rngT; rw [List.length_map, List.length_range]
  obtain ⟨M', e2⟩ := compL_all (n := 1) (t0 := .bl true) (f := eCall 1 F_ulaw_right (([] : List T).drop 0) (aCons (eCall 2 F_ulaw_pot (([] : List T).drop 0) (aCons (eVar 0) (aCons (eVar 1) aNil))) aNil))
    (σ := wipeT [some (.klst (zs.map .int)), none] (List.map (·.2) ([("_law_place", 1)] : List (Str × Nat)))) (fun t => ∃ i : Nat, t = .int (i : Nat) ∧ i ≤ 100) (fun t M ⟨i, ht, hi⟩ => by
      subst ht
      obtain ⟨a, b, h1, h2, h3⟩ := pot_ok zs i hi M
      obtain ⟨M2, h4⟩ := right_ok (M := M ++ [.lst [.int a, .int b, .int 0]]) (n := M.length) (a := a) (b := b) (by rw [List.getElem?_append_right (Nat.le_refl _), Nat.sub_self]; rfl) h2 ⟨h3.1, by omega⟩
      exact ⟨M2, eCall_ok (aCons_ok (eCall_ok (aCons_ok (eVar_ok rfl) (aCons_ok (eVar_ok rfl) aNil_ok)) rfl h1) aNil_ok) rfl h4⟩) (rngT 0 k) [] M (fun t ht => by
      unfold rngT at ht
      obtain ⟨i, hi, rfl⟩ := List.mem_map.mp ht
      have := List.mem_range.mp hi
      exact ⟨i, by rw [Int.zero_add], by omega⟩)
  refine ⟨M', runB_rt (n := 2) (s := b_law) ?_⟩
  show b_law [some (.klst (zs.map .int)), none] M = _
  unfold b_law
  refine sRet_ok (eBi_ok (aCons_ok (eFroz_ok (eLc_ok (iSeqS_ok (eCall_ok (aCons_ok (eVar_ok rfl) (aCons_ok eC_ok aNil_ok)) rfl e1) rfl) (decide_eq_true (by rw [hrl]; omega)) e2)) aNil_ok) ?_)
  exact bAll_rep
end K13
namespace K13
open PySem PySem.Spec PyProof.Rows L2 Mi
def loose0 : List Str := ["_wall", "__name__", "NeedError", "BadBook", "NoWork", "NoDue", "BadHands", "BadDone", "BadPlan", "BLANK", "FEED", "MINUS", "SIGNS", "FIGURES", "MOST_SIGNS", "is_integer", "is_tuple", "is_word", "is_name", "number_in", "are_unlike", "lot_of", "is_lot", "has_all", "RIGHT", "HANDS_plans", "EARLY", "free", "is_plan", "first_wrong"]
def loose1 : List Str := ["late_in", "check_plan", "judged", "late", "reached", "Frame", "WORKS", "AHEAD", "DUE", "HANDS_reading", "LINES", "MOST_WORKS", "MOST_NEEDS", "MOST_HOUR", "MOST_NUMBERS", "MOST_HANDS", "PAIR", "are_hands", "Reading", "read", "text_by", "Book", "_law_pot", "_law_take", "_law_some", "_law_places", "_law_made", "_law_are_judged_right", "_law_are_hands_right", "_law_are_dues_right"]
def loose2 : List Str := ["_law_right"]
def loose : List Str := loose0 ++ loose1 ++ loose2
abbrev Rw : PySem.W.OpenRow := PySem.W.OpenLaw.row PySem.Challenge.rw_stretchneeds_k13_plans_by_hand
abbrev hk : PySem.W.Hook := hookM 6 fa fn ck
def ob (s : PySem.W.SharedT) : AlM := obsMG 6 fa fn ck (HandSHeadRun.getT s)
theorem ob_eq (s : PySem.W.SharedT) : ob s = hk.obs s.abs := obsMG_eq (HandSHeadRun.getT_eq s)
theorem run (w : World) : HandSHeadRun.RunEq Rw (PySem.W.view Rw.prog [67]) hk ob 8000 loose w := by
  intro os
  kernel_rfl
def rho0 : Rho := rhoOf (n := 0) (ws := []) (by decide)
theorem lawF {P : Program} {w : World} {K : PySem.W.Frag} {mg : Str → Option Value} (g : Gf fa fn ck K mg) : ∃ fd, (∀ (s : Shared) (v : Value), BindsTo s fd ⟨[v], []⟩ [("_law_script", v)]) ∧ ∀ base : Heap, FnOk P w K mg base (fun _ _ _ _ _ _ => False) 14 (He.ga K "law") fd ["_law_script"] (fun vs H Q _ => spF K (omOf K rho0) 1 F_law vs H Q fun _ _ _ => False) := by
  obtain ⟨fd, F⟩ := g.def_ 47 (d := fn.getD 47 dummyD)
  have b := FunD.bindsA (ps := ["_law_script"]) F fun _ _ _ _ _ _ us hl => match us, hl with | [_], _ => rfl
  exact ⟨fd, fun s v => b s [v] rfl, fun base => calm_fn (fnOk_of F sc_law (bs_law g))⟩
end K13
open PySem PySem.W PySem.Calls PyProof.Rows
theorem PySem.Challenge.cw_stretchneeds_k13_plans_by_hand_holds : PySem.Challenge.rw_stretchneeds_k13_plans_by_hand.Holds := by
  w_on; o_law
  refine HandSHeadRun.head_any (r := OpenLaw.row PySem.Challenge.rw_stretchneeds_k13_plans_by_hand) (q := view (OpenLaw.row PySem.Challenge.rw_stretchneeds_k13_plans_by_hand).prog [67]) (H := K13.hk) (ob := K13.ob) (M := 8000) (loose := K13.loose) (d := HandSHeadRun.topDef (OpenLaw.row PySem.Challenge.rw_stretchneeds_k13_plans_by_hand).prog 67) (kwd := []) K13.ob_eq
    (by kernel_rfl) (fun s => by kernel_rfl) K13.run (by kernel_rfl) (by kernel_rfl) (by kernel_rfl) (by rfl) (by first | assumption | decide +kernel) (by decide +kernel) ⟨rfl, rfl, rfl, rfl, rfl, by decide +kernel⟩ ?hw ?hc
  case hw => w_witness2
  case hc =>
    refine L2.walk_ofE (l := PySem.Challenge.rw_stretchneeds_k13_plans_by_hand) (n := 63) (k := 14) (x := "_law_script") (CX := fun _ _ _ _ _ _ => False) rfl (by decide) (by kernel_rfl) ⟨rfl, by decide, by decide⟩ ?F (fun _ _ _ _ z => z)
    intro w mg fa h Y G hmg0
    obtain ⟨K, KX, c⟩ := Y
    have hmg : mg ("law" : PySem.Str) = some (.ref fa) := by
      have e : (HandSHeadRun.topDef (OpenLaw.row PySem.Challenge.rw_stretchneeds_k13_plans_by_hand).prog 67).name = ("law" : PySem.Str) := by kernel_rfl
      rw [← e]
      exact hmg0
    have g : Mi.Gf K13.fa K13.fn K13.ck K mg := ⟨h, KX, G, c⟩
    have ef := hmg.symm.trans (g.glo (x := "law") 124 rfl)
    cases ef
    obtain ⟨fd, hb, hF⟩ := K13.lawF (P := (PySem.Challenge.rw_stretchneeds_k13_plans_by_hand).prog) (w := w) g
    exact ⟨K, fd, fun vs H Q _ => Mi.spF K (K13.omOf K K13.rho0) 1 K13.F_law vs H Q fun _ _ _ => False, KX, hb, fun H a ns _ ho hs => Mi.law_sp (fun zs => K13.law_ok zs []) H a ns ho hs, fun base _ _ => hF base⟩
