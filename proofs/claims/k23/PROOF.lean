import PyProof.Rows.All
import HandS.ForMost
import HandS.Exc
import HandS.Lambda
import HandS.Slots
import HandS.TupAny
import HandS.Conv
import HandS.TupMul
import HandS.IsInst
import HandS.Deep
import HandS.Text
import HandS.TupLe
import HandS.More
import HandS.NoneIn
import KE.DataCmp
import PyProof.ReprRoads
import HandS.Style
import PyProof.RulesMatch
import HandS.Iter
import HandS.Comp
import PyProof.StrBlock2
import HandS.RaiseMore
import PyProof.TwoTypesSub
import PyProof.Rows.RuleB_bool
import PyProof.CallStr
import HandS.SortRule
import KE.KSortTupAny
import HandS.ExcInit
import HandS.Nested
import HandS.ExcSuper
import KE.KExcSuper
import HandS.ExcField
import HandS.TryMany
import KE.KExcIs
import HandS.ClsMeth
import HandS.MakeKw
import HandS.DictComp
import KE.GoesEnum
import HandS.Star
import HandS.Zip
import KE.KDictPairs
import HandS.AnyAll
import PyProof.GenCompT
import PyProof.WalksPairs
import PyProof.WalksMore
import PyProof.Rows.LoopUnroll
import PyProof.FactsGen
import KE.KDictIter
import HandS.Set
import HandS.SetKeys
import HandS.SetBool
import PyProof.Rows.SortShellK
import PyProof.Rows.SortStr
import HandS.Sort
import KE.KUnpackStar
import HandS.Strs
import HandS.SetFor
import HandS.DictTup
import HandS.EndBits
import PyProof.StrLawsRepr
import PyProof.FitsInt
import PyProof.Rows.ReprOcc
import PyProof.ReprText
import PyProof.StrLawsIn
import KE.KNestM
import PySem.Challenge.RW_lotback_k23_lots_refused
set_option Elab.async false
set_option linter.all false
set_option maxRecDepth 100000
section
/-! DL1: data values D over the hand layer: tuples and lists that stand still are written out, what changes has a number in a store. -/
namespace DL
open PySem L2
open LamX (Tabs TabS ExtN)

/-- a value, with what stands still written out; obj n: the n-th object of the store -/
inductive D where
  | non | bl (b : Bool) | int (i : Int) | str (x : Str) | ty (n : String) | glb (x : Str)
  | tup (xs : List D) | lst (xs : List D) | scr (xs : List D) | obj (n : Nat)
  /-- a pair that an iterator hands out -/
  | pr (xs : List D)
  deriving Inhabited
/-- an object that changes -/
inductive DO where
  | lst (xs : List D)
  | dk (kvs : List (Key × D))
  /-- a dict that stands still while its entries are gone through -/
  | dF (kvs : List (Key × D))
  /-- an instance of a class of the module that has slots -/
  | ins (c : Str) (fs : List (Option D))
  deriving Inhabited
abbrev Store := List DO
/-- an exception: its class (a name of the module), its fields -/
structure XD where
  cls : Str
  fs : List (Str × D)
  deriving Inhabited
inductive Res (α : Type) where
  | ok (a : α) (st : Store)
  | exc (x : XD) (st : Store)
  | stuck
def Res.bind {α β : Type} (r : Res α) (k : α → Store → Res β) : Res β := match r with
  | .ok a st => k a st
  | .exc x st => .exc x st
  | .stuck => .stuck

/-- where things lie: r, the numbered objects; h, lists that are being made -/
structure Pl where
  r : List Addr
  h : List Addr
  T : List (Addr × Str)
def isTbl : HO → Bool
  | .tbl _ => true
  | _ => false
/-- what a name of the module holds at an address -/
def GlbAt (K : PySem.W.Frag) (x : Str) (a : Addr) : Prop := PySem.W.nsIn K mainGlobals x = some (some (.ref a))
abbrev Pl.Off (ρ : Pl) (a : Addr) : Prop := a ∉ ρ.r ∧ a ∉ ρ.h
def Pl.add (ρ : Pl) (p : Addr) : Pl := ⟨ρ.r ++ [p], ρ.h, ρ.T⟩
/-- a tuple that has no names of its own -/
def PlT (H : Hp) (a : Addr) (vs : List V) : Prop := ∃ ob : Obj, H a = some (.frz ob (.tup vs)) ∧ ob.dict = none
mutual
inductive RelD (K : PySem.W.Frag) (ρ : Pl) (H : Hp) : D → V → Prop
  | non : RelD K ρ H .non .non
  | bl (b : Bool) : RelD K ρ H (.bl b) (.bl b)
  | int (i : Int) : RelD K ρ H (.int i) (.int i)
  | str (x : Str) : RelD K ρ H (.str x) (.str x)
  | ty (n : String) : RelD K ρ H (.ty n) (.ty n)
  | glb {x : Str} {a : Addr} : GlbAt K x a → RelD K ρ H (.glb x) (.ref a)
  | tup {a : Addr} {vs : List V} {xs : List D} : PlT H a vs → ρ.Off a → RelDs K ρ H xs vs → RelD K ρ H (.tup xs) (.ref a)
  | pr {a : Addr} {vs : List V} {xs : List D} : Rd H a (.tup vs) → ρ.Off a → RelDs K ρ H xs vs → RelD K ρ H (.pr xs) (.ref a)
  | tupK {a : Addr} {vs : List V} {xs : List D} : SqT K (fun _ => none) a vs → (∀ o, K.lookup a = some o → o.dict = none) → RelDs K ρ H xs vs → RelD K ρ H (.tup xs) (.ref a)
  | lst {a : Addr} {vs : List V} {xs : List D} : H a = some (.lst vs) → ρ.Off a → RelDs K ρ H xs vs → RelD K ρ H (.lst xs) (.ref a)
  | scr {a : Addr} {vs : List V} {xs : List D} : Rd H a (.lst vs) → ρ.Off a → RelDs K ρ H xs vs → RelD K ρ H (.scr xs) (.ref a)
  | scrK {a : Addr} {vs : List V} {xs : List D} : SqL K (fun _ => none) a vs → RelDs K ρ H xs vs → RelD K ρ H (.scr xs) (.ref a)
  | obj {n : Nat} {a : Addr} : ρ.r[n]? = some a → RelD K ρ H (.obj n) (.ref a)
inductive RelDs (K : PySem.W.Frag) (ρ : Pl) (H : Hp) : List D → List V → Prop
  | nil : RelDs K ρ H [] []
  | cons {d : D} {v : V} {ds : List D} {vs : List V} : RelD K ρ H d v → RelDs K ρ H ds vs → RelDs K ρ H (d :: ds) (v :: vs)
end

/-- what came before stands: the numbered objects keep their places, all else that is tracked stays as it is -/
structure Ext (ρ : Pl) (H : Hp) (ρ' : Pl) (H' : Hp) : Prop where
  pre : ∀ (i : Nat) (a : Addr), ρ.r[i]? = some a → ρ'.r[i]? = some a
  keep : ∀ a o, H a = some o → isTbl o = false → ρ.Off a → H' a = some o ∧ ρ'.Off a
  hh : ρ'.h = ρ.h
  hid : ∀ a ∈ ρ.h, H' a = H a
  tt : ρ'.T = ρ.T
  fz : ∀ a o u, H a = some (.frz o u) → H' a = some (.frz o u)
theorem Ext.refl {ρ : Pl} {H : Hp} : Ext ρ H ρ H := ⟨fun _ _ h => h, fun _ _ h _ n => ⟨h, n⟩, rfl, fun _ _ => rfl, rfl, fun _ _ _ h => h⟩
theorem Ext.trans {ρ ρ1 ρ2 : Pl} {H H1 H2 : Hp} (a : Ext ρ H ρ1 H1) (b : Ext ρ1 H1 ρ2 H2) : Ext ρ H ρ2 H2 :=
  ⟨fun i x h => b.pre i x (a.pre i x h), fun x o h t n => b.keep x o (a.keep x o h t n).1 t (a.keep x o h t n).2, b.hh.trans a.hh, fun x hx => (b.hid x (by rw [a.hh]; exact hx)).trans (a.hid x hx), b.tt.trans a.tt, fun x o u h => b.fz x o u (a.fz x o u h)⟩
/-- the part of it on which values lean -/
structure Stay (ρ : Pl) (H : Hp) (ρ' : Pl) (H' : Hp) : Prop where
  pre : ∀ (i : Nat) (a : Addr), ρ.r[i]? = some a → ρ'.r[i]? = some a
  keep : ∀ a o, H a = some o → isTbl o = false → ρ.Off a → H' a = some o ∧ ρ'.Off a
/-- .. with what is locked -/
structure StayF (ρ : Pl) (H : Hp) (ρ' : Pl) (H' : Hp) : Prop extends Stay ρ H ρ' H' where
  fz : ∀ a o u, H a = some (.frz o u) → H' a = some (.frz o u)
theorem Ext.stayF {ρ : Pl} {H : Hp} {ρ' : Pl} {H' : Hp} (e : Ext ρ H ρ' H') : StayF ρ H ρ' H' := ⟨⟨e.pre, e.keep⟩, e.fz⟩
theorem Ext.stay {ρ : Pl} {H : Hp} {ρ' : Pl} {H' : Hp} (e : Ext ρ H ρ' H') : Stay ρ H ρ' H' := ⟨e.pre, e.keep⟩
theorem Stay.trans {ρ ρ1 ρ2 : Pl} {H H1 H2 : Hp} (a : Stay ρ H ρ1 H1) (b : Stay ρ1 H1 ρ2 H2) : Stay ρ H ρ2 H2 :=
  ⟨fun i x h => b.pre i x (a.pre i x h), fun x o h t n => b.keep x o (a.keep x o h t n).1 t (a.keep x o h t n).2⟩
theorem StayF.trans {ρ ρ1 ρ2 : Pl} {H H1 H2 : Hp} (a : StayF ρ H ρ1 H1) (b : StayF ρ1 H1 ρ2 H2) : StayF ρ H ρ2 H2 := ⟨a.toStay.trans b.toStay, fun x o u h => b.fz x o u (a.fz x o u h)⟩
theorem Rd.stay {ρ ρ' : Pl} {H H' : Hp} {a : Addr} {u : HO} (e : Stay ρ H ρ' H') (r : Rd H a u) (n : ρ.Off a) (t : isTbl u = false := by rfl) : Rd H' a u ∧ ρ'.Off a := by
  rcases r with r | ⟨o, r⟩
  · exact ⟨.inl (e.keep a _ r t n).1, (e.keep a _ r t n).2⟩
  · exact ⟨.inr ⟨o, (e.keep a _ r rfl n).1⟩, (e.keep a _ r rfl n).2⟩
theorem PlT.stay {ρ ρ' : Pl} {H H' : Hp} {a : Addr} {vs : List V} (e : Stay ρ H ρ' H') (r : PlT H a vs) (n : ρ.Off a) : PlT H' a vs ∧ ρ'.Off a := by
  obtain ⟨ob, h, d⟩ := r
  exact ⟨⟨ob, (e.keep a _ h rfl n).1, d⟩, (e.keep a _ h rfl n).2⟩
theorem PlT.rd {H : Hp} {a : Addr} {vs : List V} (r : PlT H a vs) : Rd H a (.tup vs) := let ⟨ob, h, _⟩ := r; .inr ⟨ob, h⟩
section
variable {K : PySem.W.Frag} {ρ ρ' : Pl} {H H' : Hp}
mutual
theorem RelD.stay (e : Stay ρ H ρ' H') : ∀ {d : D} {v : V}, RelD K ρ H d v → RelD K ρ' H' d v
  | _, _, .non => .non
  | _, _, .bl b => .bl b
  | _, _, .int i => .int i
  | _, _, .str x => .str x
  | _, _, .ty n => .ty n
  | _, _, .glb h => .glb h
  | _, _, .tup r n t => .tup (PlT.stay e r n).1 (PlT.stay e r n).2 (RelDs.stay e t)
  | _, _, .pr r n t => .pr (Rd.stay e r n).1 (Rd.stay e r n).2 (RelDs.stay e t)
  | _, _, .tupK s d t => .tupK s d (RelDs.stay e t)
  | _, _, .lst r n t => .lst (e.keep _ _ r rfl n).1 (e.keep _ _ r rfl n).2 (RelDs.stay e t)
  | _, _, .scr r n t => .scr (Rd.stay e r n).1 (Rd.stay e r n).2 (RelDs.stay e t)
  | _, _, .scrK s t => .scrK s (RelDs.stay e t)
  | _, _, .obj h => .obj (e.pre _ _ h)
theorem RelDs.stay (e : Stay ρ H ρ' H') : ∀ {ds : List D} {vs : List V}, RelDs K ρ H ds vs → RelDs K ρ' H' ds vs
  | _, _, .nil => .nil
  | _, _, .cons a t => .cons (RelD.stay e a) (RelDs.stay e t)
end
theorem RelD.ext (e : Ext ρ H ρ' H') {d : D} {v : V} (r : RelD K ρ H d v) : RelD K ρ' H' d v := r.stay e.stay
theorem RelDs.ext (e : Ext ρ H ρ' H') {ds : List D} {vs : List V} (r : RelDs K ρ H ds vs) : RelDs K ρ' H' ds vs := r.stay e.stay
theorem RelDs.length : ∀ {ds : List D} {vs : List V}, RelDs K ρ H ds vs → ds.length = vs.length
  | _, _, .nil => rfl
  | _, _, .cons _ t => by simp [RelDs.length t]
theorem RelDs.append : ∀ {ds es : List D} {vs us : List V}, RelDs K ρ H ds vs → RelDs K ρ H es us → RelDs K ρ H (ds ++ es) (vs ++ us)
  | _, _, _, _, .nil, h => h
  | _, _, _, _, .cons a t, h => .cons a (RelDs.append t h)
theorem RelDs.get : ∀ {ds : List D} {vs : List V} {i : Nat} {d : D}, RelDs K ρ H ds vs → ds[i]? = some d → ∃ v, vs[i]? = some v ∧ RelD K ρ H d v
  | _, _, _, _, .nil, e => by simp at e
  | _, _, 0, _, .cons a _, e => by simp at e; subst e; exact ⟨_, rfl, a⟩
  | _, _, i + 1, d, .cons _ t, e => by
    obtain ⟨v, h1, h2⟩ := RelDs.get (i := i) (d := d) t (by simpa using e)
    exact ⟨v, by simpa using h1, h2⟩
theorem RelDs.take : ∀ {ds : List D} {vs : List V} (n : Nat), RelDs K ρ H ds vs → RelDs K ρ H (ds.take n) (vs.take n)
  | _, _, 0, _ => .nil
  | _, _, _ + 1, .nil => .nil
  | _, _, n + 1, .cons a t => .cons a (RelDs.take n t)
theorem RelDs.drop : ∀ {ds : List D} {vs : List V} (n : Nat), RelDs K ρ H ds vs → RelDs K ρ H (ds.drop n) (vs.drop n)
  | _, _, 0, h => h
  | _, _, _ + 1, .nil => .nil
  | _, _, n + 1, .cons _ t => RelDs.drop n t
theorem RelDs.set {d : D} {v : V} (r : RelD K ρ H d v) : ∀ {ds : List D} {vs : List V} (i : Nat), RelDs K ρ H ds vs → RelDs K ρ H (ds.set i d) (vs.set i v)
  | _, _, _, .nil => .nil
  | _, _, 0, .cons _ t => .cons r t
  | _, _, i + 1, .cons a t => .cons a (RelDs.set r i t)
theorem RelDs.eraseIdx : ∀ {ds : List D} {vs : List V} (i : Nat), RelDs K ρ H ds vs → RelDs K ρ H (ds.eraseIdx i) (vs.eraseIdx i)
  | _, _, _, .nil => .nil
  | _, _, 0, .cons _ t => t
  | _, _, i + 1, .cons a t => .cons a (RelDs.eraseIdx i t)
theorem RelDs.dropLast {ds : List D} {vs : List V} (h : RelDs K ρ H ds vs) : RelDs K ρ H ds.dropLast vs.dropLast := by
  rw [List.dropLast_eq_take, List.dropLast_eq_take, h.length]
  exact h.take _
theorem RelDs.reverse {ds : List D} {vs : List V} (h : RelDs K ρ H ds vs) : RelDs K ρ H ds.reverse vs.reverse := by
  induction h using RelDs.rec (motive_1 := fun _ _ _ => True) with
  | nil => exact .nil
  | cons a t _ ih => simp only [List.reverse_cons]; exact ih.append (.cons a .nil)
  | _ => trivial

/-- the slots of an instance -/
def RelFs (K : PySem.W.Frag) (ρ : Pl) (H : Hp) (fs : List (Option D)) (vs : List (Option V)) : Prop := ∀ (i : Nat) (d : D), fs[i]? = some (some d) → ∃ v, vs[i]? = some (some v) ∧ RelD K ρ H d v
theorem RelFs.stay (e : Stay ρ H ρ' H') {fs : List (Option D)} {vs : List (Option V)} (r : RelFs K ρ H fs vs) : RelFs K ρ' H' fs vs := fun i d h => let ⟨v, h1, h2⟩ := r i d h; ⟨v, h1, h2.stay e⟩
def vOf : V → Value
  | .non => .none
  | .bl b => .bool b
  | .int i => .int i 0
  | .str x => .str x 0
  | .byt b => .bytes b 0
  | .flt b => .float b 0
  | .ref a => .ref a
  | .ty n => .type n
theorem vOf_rel (v : V) : RelV v (vOf v) := by cases v <;> first | rfl | exact ⟨_, rfl⟩
/-- an instance is no code object -/
theorem slO_code {a C dx c : Addr} {vs : List (Option V)} {q : Str} : SlX.SlO a C dx vs ≠ LamX.CodeO c q := fun z => by
  unfold SlX.SlO LamX.CodeO at z
  have z := HO.ext.inj z
  let ob : Obj := { PySem.W.instObj C dx with slots := (vs.map fun o => o.map vOf).toArray }
  let h : Heap := ⟨Array.replicate (a + c + 1) ob, {}⟩
  have get : ∀ b, b ≤ a + c → h.get? b = some ob := fun b hb => by
    show (match (Array.replicate (a + c + 1) ob)[b]? with | some ⟨_, _, .freed, _⟩ => none | o => o) = some ob
    rw [Array.getElem?_replicate, if_pos (Nat.lt_succ_of_le hb)]
  have h1 : ∃ sl : Array (Option Value), h.get? a = some { PySem.W.instObj C dx with slots := sl } ∧ SlX.SlR vs sl := ⟨_, get a (Nat.le_add_right a c), fun i v e => ⟨vOf v, by simp [e], vOf_rel v⟩⟩
  rw [congrFun z h] at h1
  obtain ⟨oc, us, t, e1, e2, _⟩ := h1
  rw [get c (Nat.le_add_left c a)] at e1
  cases e1
  cases e2
theorem slO_ne {a C dx : Addr} {vs : List (Option V)} {u : HO} (h : ∀ φ, u ≠ .ext φ) : SlX.SlO a C dx vs ≠ u := fun z => h _ (by rw [← z]; rfl)
/-- an object of the store as it stands at its address -/
def RelO (K : PySem.W.Frag) (ρ : Pl) (H : Hp) (o : DO) (a : Addr) : Prop := match o with
  | .lst xs => ∃ vs, H a = some (.lst vs) ∧ RelDs K ρ H xs vs
  | .dk kvs => ∃ vvs, H a = some (.dK vvs) ∧ vvs.map (·.1) = kvs.map (·.1) ∧ RelDs K ρ H (kvs.map (·.2)) (vvs.map (·.2))
  | .dF kvs => ∃ ob vvs, H a = some (.frz ob (.dK vvs)) ∧ vvs.map (·.1) = kvs.map (·.1) ∧ RelDs K ρ H (kvs.map (·.2)) (vvs.map (·.2))
  | .ins c fs => ∃ C dx vs, GlbAt K c C ∧ H a = some (SlX.SlO a C dx vs) ∧ H dx = some (.xd []) ∧ ρ.Off dx ∧ RelFs K ρ H fs vs
/-- what may be hidden while it is made: no table, no code object, nothing locked -/
structure hidable (o : HO) : Prop where
  tbl : isTbl o = false
  code : ∀ c q, o ≠ LamX.CodeO c q
  frz : ∀ ob u, o ≠ .frz ob u
theorem hid_lst (vs : List V) : hidable (.lst vs) := ⟨rfl, fun c q h => (by unfold LamX.CodeO at h; cases h), fun ob u h => by cases h⟩
structure RelSt (K : PySem.W.Frag) (ρ : Pl) (H : Hp) (st : Store) : Prop where
  len : ρ.r.length = st.length
  nd : ρ.r.Nodup
  at_ : ∀ (n : Nat) (a : Addr) (o : DO), ρ.r[n]? = some a → st[n]? = some o → RelO K ρ H o a
  dis : ∀ a ∈ ρ.r, a ∉ ρ.h
  hid : ∀ a ∈ ρ.h, ∃ o, H a = some o
  tabs : Tabs ρ.T H
  ht : ∀ a ∈ ρ.h, ∃ o, H a = some o ∧ hidable o
theorem RelO.there {o : DO} {a : Addr} (r : RelO K ρ H o a) : ∃ u, H a = some u := by
  cases o with
  | lst xs => obtain ⟨vs, h, _⟩ := r; exact ⟨_, h⟩
  | dk kvs => obtain ⟨vs, h, _⟩ := r; exact ⟨_, h⟩
  | dF kvs => obtain ⟨_, vs, h, _⟩ := r; exact ⟨_, h⟩
  | ins c fs => obtain ⟨_, _, _, _, h, _⟩ := r; exact ⟨_, h⟩
theorem RelO.stay (e : Stay ρ H ρ' H') {o : DO} {a : Addr} (r : RelO K ρ H o a) (h : H' a = H a) : RelO K ρ' H' o a := by
  cases o with
  | lst xs => obtain ⟨vs, h1, h2⟩ := r; exact ⟨vs, h.trans h1, h2.stay e⟩
  | dk kvs => obtain ⟨vs, h1, h2, h3⟩ := r; exact ⟨vs, h.trans h1, h2, h3.stay e⟩
  | dF kvs => obtain ⟨ob, vs, h1, h2, h3⟩ := r; exact ⟨ob, vs, h.trans h1, h2, h3.stay e⟩
  | ins c fs => obtain ⟨C, dx, vs, h1, h2, h3, h4, h5⟩ := r; exact ⟨C, dx, vs, h1, h.trans h2, (e.keep _ _ h3 rfl h4).1, (e.keep _ _ h3 rfl h4).2, h5.stay e⟩
theorem RelO.ext (e : Ext ρ H ρ' H') {o : DO} {a : Addr} (r : RelO K ρ H o a) (h : H' a = H a) : RelO K ρ' H' o a := r.stay e.stay h
theorem RelSt.mem {st : Store} (r : RelSt K ρ H st) {n : Nat} {a : Addr} (h : ρ.r[n]? = some a) : ∃ o, st[n]? = some o ∧ RelO K ρ H o a := by
  have hl : n < ρ.r.length := (List.getElem?_eq_some_iff.mp h).1
  rw [r.len] at hl
  exact ⟨st[n], List.getElem?_eq_getElem hl, r.at_ n a _ h (List.getElem?_eq_getElem hl)⟩
theorem RelSt.there {st : Store} (r : RelSt K ρ H st) {a : Addr} (h : a ∈ ρ.r) : ∃ u, H a = some u := by
  obtain ⟨n, hn⟩ := List.mem_iff_getElem?.mp h
  obtain ⟨o, _, q⟩ := r.mem hn
  exact q.there
theorem RelSt.notin {st : Store} (r : RelSt K ρ H st) {p : Addr} (h : H p = none) : ρ.Off p := by
  refine ⟨fun m => ?_, fun m => ?_⟩
  · obtain ⟨u, e⟩ := r.there m
    rw [h] at e; cases e
  · obtain ⟨u, e⟩ := r.hid p m
    rw [h] at e; cases e
/-- a new thing that stands still -/
theorem Ext.new {st : Store} (r : RelSt K ρ H st) {p : Addr} {o : HO} (h : H p = none) : Ext ρ H ρ (upd H p o) :=
  ⟨fun _ _ e => e, fun a u e _ n => ⟨by rw [upd_ne (ne_of_none e h)]; exact e, n⟩, rfl, fun a ha => by
    obtain ⟨u, e⟩ := r.hid a ha
    exact upd_ne (ne_of_none e h), rfl, fun a ob u e => (by rw [upd_ne (ne_of_none e h)]; exact e)⟩
theorem RelSt.new {st : Store} {p : Addr} {o : HO} (r : RelSt K ρ H st) (h : H p = none) : RelSt K ρ (upd H p o) st := ⟨r.len, r.nd, fun n a u e1 e2 => by
  obtain ⟨w, q⟩ := (r.at_ n a u e1 e2).there
  exact (r.at_ n a u e1 e2).ext (Ext.new r h) (upd_ne (ne_of_none q h)), r.dis, fun a ha => by
  obtain ⟨u, e⟩ := r.hid a ha
  exact ⟨u, by rw [upd_ne (ne_of_none e h)]; exact e⟩, r.tabs.ext fun b o e => (by rw [upd_ne (ne_of_none e h)]; exact e), fun a ha => by
  obtain ⟨u, e⟩ := r.hid a ha
  rw [upd_ne (ne_of_none e h)]
  exact r.ht a ha⟩
/-- a new object of the store -/
theorem Ext.newO {st : Store} (r : RelSt K ρ H st) {p : Addr} {o : HO} (h : H p = none) : Ext ρ H (ρ.add p) (upd H p o) :=
  ⟨fun i a e => by unfold Pl.add; rw [List.getElem?_append_left (List.getElem?_eq_some_iff.mp e).1]; exact e, fun a u e _ n => ⟨by rw [upd_ne (ne_of_none e h)]; exact e, by
    intro m
    rcases List.mem_append.mp m with m | m
    · exact n.1 m
    · exact ne_of_none e h (by simpa using m), n.2⟩, rfl, fun a ha => by
    obtain ⟨u, e⟩ := r.hid a ha
    exact upd_ne (ne_of_none e h), rfl, fun a ob u e => (by rw [upd_ne (ne_of_none e h)]; exact e)⟩
theorem RelSt.newO {st : Store} {p : Addr} {o : HO} {d : DO} (r : RelSt K ρ H st) (h : H p = none) (q : RelO K (ρ.add p) (upd H p o) d p) : RelSt K (ρ.add p) (upd H p o) (st ++ [d]) := by
  refine ⟨by simp [Pl.add, r.len], ?_, fun n a u e1 e2 => ?_, fun a ha => ?_, fun a ha => ?_, r.tabs.ext fun b o e => (by rw [upd_ne (ne_of_none e h)]; exact e), fun a ha => (by obtain ⟨u, e⟩ := r.hid a ha; rw [upd_ne (ne_of_none e h)]; exact r.ht a ha)⟩
  · show (ρ.r ++ [p]).Nodup
    rw [List.nodup_append]
    refine ⟨r.nd, by simp, fun a ha b hb e => ?_⟩
    have : b = p := by simpa using hb
    subst this; subst e
    exact (r.notin h).1 ha
  · have e1 : (ρ.r ++ [p])[n]? = some a := e1
    by_cases hn : n < ρ.r.length
    · rw [List.getElem?_append_left hn] at e1
      rw [List.getElem?_append_left (by rw [← r.len]; exact hn)] at e2
      obtain ⟨w, z⟩ := (r.at_ n a u e1 e2).there
      exact (r.at_ n a u e1 e2).ext (Ext.newO r h) (upd_ne (ne_of_none z h))
    · have hl : n < (ρ.r ++ [p]).length := (List.getElem?_eq_some_iff.mp e1).1
      have hn' : n = ρ.r.length := by simp at hl; omega
      subst hn'
      have e1' : a = p := by simpa using e1.symm
      have e2' : u = d := by rw [r.len] at e2; simpa using e2.symm
      subst e1'; subst e2'
      exact q
  · rcases List.mem_append.mp ha with m | m
    · exact r.dis a m
    · have : a = p := by simpa using m
      subst this
      exact (r.notin h).2
  · obtain ⟨u, e⟩ := r.hid a ha
    exact ⟨u, by rw [upd_ne (ne_of_none e h)]; exact e⟩
theorem RelSt.last {st : Store} (r : RelSt K ρ H st) (p : Addr) : (ρ.add p).r[st.length]? = some p := by rw [← r.len]; simp [Pl.add]
/-- an object of the store changes -/
theorem Stay.mut {n : Nat} {a : Addr} {o : HO} (h : ρ.r[n]? = some a) : Stay ρ H ρ (upd H a o) := ⟨fun _ _ e => e, fun b u e _ m => ⟨by
  rw [upd_ne (fun z => m.1 (by rw [z]; exact List.mem_of_getElem? h))]; exact e, m⟩⟩
theorem Ext.mut {st : Store} (r : RelSt K ρ H st) {n : Nat} {a : Addr} {o : HO} (h : ρ.r[n]? = some a) (hf : ∀ ob u, H a ≠ some (.frz ob u)) : Ext ρ H ρ (upd H a o) := ⟨fun _ _ e => e, fun b u e _ m => ⟨by
  rw [upd_ne (fun z => m.1 (by rw [z]; exact List.mem_of_getElem? h))]; exact e, m⟩, rfl, fun b hb => upd_ne (a := a) (b := b) fun z => r.dis a (List.mem_of_getElem? h) (by rw [← z]; exact hb), rfl, fun b ob u e => (by rw [upd_ne (fun z => hf ob u (by rw [← z]; exact e))]; exact e)⟩
theorem RelO.noTbl {o : DO} {a : Addr} (r : RelO K ρ H o a) : ∃ u, H a = some u ∧ isTbl u = false ∧ ∀ c q, u ≠ LamX.CodeO c q := by
  cases o with
  | lst xs => obtain ⟨vs, h, _⟩ := r; exact ⟨_, h, rfl, fun c q z => by unfold LamX.CodeO at z; cases z⟩
  | dk kvs => obtain ⟨vs, h, _⟩ := r; exact ⟨_, h, rfl, fun c q z => by unfold LamX.CodeO at z; cases z⟩
  | dF kvs => obtain ⟨_, vs, h, _⟩ := r; exact ⟨_, h, rfl, fun c q z => by unfold LamX.CodeO at z; cases z⟩
  | ins c fs => obtain ⟨_, _, _, _, h, _⟩ := r; exact ⟨_, h, rfl, fun c q z => slO_code z⟩
theorem RelSt.tabsMut {st : Store} {n : Nat} {a : Addr} {o : HO} (r : RelSt K ρ H st) (h : ρ.r[n]? = some a) : Tabs ρ.T (upd H a o) := by
  obtain ⟨d, _, q⟩ := r.mem h
  obtain ⟨u, hu, ht, hc⟩ := q.noTbl
  intro p hp
  obtain ⟨ps, h1, h2, h3⟩ := r.tabs p hp
  refine ⟨ps, ?_, h2, fun pos cv hcv => ?_⟩
  · rw [upd_ne]
    · exact h1
    · intro z; rw [z, hu] at h1; cases h1; cases ht
  · obtain ⟨c, e1, e2⟩ := h3 pos cv hcv
    refine ⟨c, e1, ?_⟩
    rw [upd_ne]
    · exact e2
    · intro z; rw [z, hu] at e2; exact hc _ _ (Option.some.inj e2)
theorem RelSt.set {st : Store} {n : Nat} {a : Addr} {o : HO} {d : DO} (r : RelSt K ρ H st) (h : ρ.r[n]? = some a) (q : RelO K ρ (upd H a o) d a) : RelSt K ρ (upd H a o) (st.set n d) := by
  refine ⟨by simp [r.len], r.nd, fun m b u e1 e2 => ?_, r.dis, fun b hb => ?_, r.tabsMut h, fun b hb => (by rw [upd_ne (a := a) (b := b) fun z => r.dis a (List.mem_of_getElem? h) (by rw [← z]; exact hb)]; exact r.ht b hb)⟩
  · by_cases hm : m = n
    · subst hm
      rw [h] at e1; cases e1
      have hl : m < st.length := by rw [← r.len]; exact (List.getElem?_eq_some_iff.mp h).1
      rw [List.getElem?_set_self hl] at e2
      cases e2
      exact q
    · rw [List.getElem?_set_ne (Ne.symm hm)] at e2
      have hb : b ≠ a := fun z => by
        subst z
        obtain ⟨h1, e1'⟩ := List.getElem?_eq_some_iff.mp e1
        obtain ⟨h2, e2'⟩ := List.getElem?_eq_some_iff.mp h
        exact hm ((List.getElem_inj r.nd).mp (e1'.trans e2'.symm))
      exact (r.at_ m b u e1 e2).stay (Stay.mut h) (upd_ne hb)
  · obtain ⟨u, e⟩ := r.hid b hb
    exact ⟨u, (upd_ne (a := a) (b := b) fun z => r.dis a (List.mem_of_getElem? h) (by rw [← z]; exact hb)).trans e⟩

/-- the frame's names -/
abbrev Env' := List (Option D)
structure RelEnv (K : PySem.W.Frag) (ρ : Pl) (H : Hp) (env : Env') (σ : St) : Prop where
  len : env.length = σ.length
  at_ : ∀ (i : Nat) (d : D), env[i]? = some (some d) → ∃ v, σ[i]? = some (some v) ∧ RelD K ρ H d v
theorem RelEnv.stay (e : Stay ρ H ρ' H') {env : Env'} {σ : St} (r : RelEnv K ρ H env σ) : RelEnv K ρ' H' env σ :=
  ⟨r.len, fun i d h => let ⟨v, h1, h2⟩ := r.at_ i d h; ⟨v, h1, h2.stay e⟩⟩
theorem RelEnv.ext (e : Ext ρ H ρ' H') {env : Env'} {σ : St} (r : RelEnv K ρ H env σ) : RelEnv K ρ' H' env σ := r.stay e.stay
theorem RelEnv.set {env : Env'} {σ : St} {d : D} {v : V} (r : RelEnv K ρ H env σ) (i : Nat) (q : RelD K ρ H d v) : RelEnv K ρ H (env.set i (some d)) (σ.set i (some v)) :=
  ⟨by simp [r.len], fun j x h => by
    by_cases hj : j = i
    · subst hj
      have hl : j < env.length := by
        have := (List.getElem?_eq_some_iff.mp h).1
        simpa using this
      rw [List.getElem?_set_self hl] at h
      cases h
      exact ⟨v, by rw [List.getElem?_set_self (by rw [← r.len]; exact hl)], q⟩
    · rw [List.getElem?_set_ne (Ne.symm hj)] at h
      obtain ⟨u, h1, h2⟩ := r.at_ j x h
      exact ⟨u, by rw [List.getElem?_set_ne (Ne.symm hj)]; exact h1, h2⟩⟩
/-- the exception that a suite holds: the slot of its name, where it stands, its dict, its fields -/
structure GhX where
  i : Nat
  a : Addr
  dd : Addr
  fs : List (Str × D)
/-- the lambda that a def got: the slot of its name, the function, its code object, the maker's names -/
structure GhL where
  i : Nat
  f : Addr
  c : Addr
  q : Str
  env : Env'
  σ : St
structure WG where
  w : WX
  g : Option GhX
  T : List (Addr × Str)
  l : Option GhL
/-- the dict of an exception as it stands -/
def RelXF (K : PySem.W.Frag) (ρ : Pl) (H : Hp) (fs : List (Str × D)) (d : Addr) : Prop := ρ.Off d ∧ ∃ vs, H d = some (.xd vs) ∧ vs.map (·.1) = fs.map (·.1) ∧ RelDs K ρ H (fs.map (·.2)) (vs.map (·.2))
theorem RelXF.stay (e : Stay ρ H ρ' H') {fs : List (Str × D)} {d : Addr} (r : RelXF K ρ H fs d) : RelXF K ρ' H' fs d := by
  obtain ⟨n, vs, h1, h2, h3⟩ := r
  exact ⟨(e.keep _ _ h1 rfl n).2, vs, (e.keep _ _ h1 rfl n).1, h2, h3.stay e⟩
def LamAt (K : PySem.W.Frag) (l : GhL) (ρ : Pl) (H : Hp) (σ : St) : Prop := σ[l.i]? = some (some (.ref l.f)) ∧ (ρ.Off l.c ∧ H l.c = some (LamX.CodeO l.c l.q)) ∧ RelEnv K ρ H l.env l.σ
structure GhOk (K : PySem.W.Frag) (W : WG) (ρ : Pl) (H : Hp) (σ : St) : Prop where
  x : ∀ x, W.g = some x → σ[x.i]? = some (some (.ref x.a)) ∧ RelXF K ρ H x.fs x.dd
  l : ∀ l, W.l = some l → LamAt K l ρ H σ
theorem GhOk.stay {W : WG} {σ : St} (e : Stay ρ H ρ' H') (g : GhOk K W ρ H σ) : GhOk K W ρ' H' σ := ⟨fun x h => ⟨(g.x x h).1, (g.x x h).2.stay e⟩, fun l h => by
  obtain ⟨h1, ⟨h2, h3⟩, h4⟩ := g.l l h
  exact ⟨h1, ⟨(e.keep _ _ h3 rfl h2).2, (e.keep _ _ h3 rfl h2).1⟩, h4.stay e⟩⟩
/-- the slot may be stored -/
def Free (W : WG) (i : Nat) : Prop := (∀ x, W.g = some x → x.i ≠ i) ∧ ∀ l, W.l = some l → l.i ≠ i
theorem GhOk.set {W : WG} {σ : St} {i : Nat} {v : Option V} (g : GhOk K W ρ H σ) (f : Free W i) : GhOk K W ρ H (σ.set i v) := ⟨fun x h => ⟨by rw [List.getElem?_set_ne (Ne.symm (f.1 x h))]; exact (g.x x h).1, (g.x x h).2⟩, fun l h => by
  obtain ⟨h1, h2⟩ := g.l l h
  exact ⟨by rw [List.getElem?_set_ne (Ne.symm (f.2 l h))]; exact h1, h2⟩⟩
theorem GhOk.none {W : WG} {σ : St} (h : W.g = none) (hl : W.l = none) : GhOk K W ρ H σ := ⟨fun x e => (by rw [h] at e; cases e), fun x e => (by rw [hl] at e; cases e)⟩
structure Good (K : PySem.W.Frag) (W : WG) (ρ : Pl) (H : Hp) (env : Env') (σ : St) (st : Store) : Prop where
  env : RelEnv K ρ H env σ
  st : RelSt K ρ H st
  tt : ρ.T = W.T
  gh : GhOk K W ρ H σ
/-- an exception as it stands -/
def RelX (K : PySem.W.Frag) (ρ : Pl) (H : Hp) (x : XD) (cls : Value) (dx : Option Addr) : Prop :=
  ∃ C d, cls = .ref C ∧ GlbAt K x.cls C ∧ dx = some d ∧ RelXF K ρ H x.fs d
theorem RelX.ext (e : Ext ρ H ρ' H') {x : XD} {cls : Value} {dx : Option Addr} (r : RelX K ρ H x cls dx) : RelX K ρ' H' x cls dx := by
  obtain ⟨C, d, h1, h2, h3, h4⟩ := r
  exact ⟨C, d, h1, h2, h3, h4.stay e.stay⟩
end
end DL
end
section
/-! ELT: new tuples: they are known to have no names of their own. -/
namespace DL
open PySem PySem.Spec PyProof.Rows L2
section
variable {X : Cx} {pins : List (Addr × Obj)} {σ : L2.St} {H : Hp} {s : Shared}
/-- a new tuple is there -/
theorem made_plain {xs : List V} {its : List Value} {h0 : Heap} (I : L2.Inv X pins σ H { s with heap := h0 }) (r : Vals xs its) (hz : xs.length ≤ sizeLine) {Q : VK} (q : ∀ p ob, H p = none → ob.dict = none → Q (.ref p) (upd H p (.frz ob (.tup xs)))) :
    EP X pins σ Q (.ref h0.objs.size) { s with heap := h0.push { cls := .type "tuple", data := .seq its.toArray } } := by
  have e : (h0.push { cls := .type "tuple", data := .seq its.toArray }).get? h0.objs.size = some { cls := .type "tuple", data := .seq its.toArray } := Heap.get?_push_size _ rfl
  have hn : H h0.objs.size = none := I.hok.fresh (Nat.le_refl _)
  exact ⟨.ref h0.objs.size, _, I.laid (t' := s.toks) (o := .frz _ (.tup xs)) (fun b o q => Heap.get?_push_of_some _ q) (Nat.le_refl _) ⟨e, hz, its, r, _, e, rfl, _, rfl⟩, rfl, q _ _ hn rfl⟩
theorem pe_tupP {es : List Expr} {t : TA} {x1 : Nat} {pos : Pos} (h : PA X es t) : PE X (.Tuple es x1 pos) (fun σ H Q => t σ H fun xs H1 => xs.length ≤ sizeLine ∧ ∀ p ob, H1 p = none → ob.dict = none → Q (.ref p) (upd H1 p (.frz ob (.tup xs)))) :=
  ⟨fun pins s σ H Q I hq => wpAny_Tuple_spliced (thn (h.run pos pins s σ H _ I hq) fun us s1 ⟨xs, H1, I1, r, z, q⟩ => ⟨by rw [← r.length]; exact z, made_plain (s := s1) (h0 := s1.heap) I1 r z q⟩)⟩
/-- t + u -/
theorem op_catP : OpR X (binaryOp .Add) (fun x y H Q => ∃ a b xs ys, x = .ref a ∧ y = .ref b ∧ SqT X.K H a xs ∧ SqT X.K H b ys ∧ xs.length + ys.length ≤ sizeLine ∧ (xs = [] → Q (.ref b) H) ∧ (xs ≠ [] → ys = [] → Q (.ref a) H) ∧ (xs ≠ [] → ys ≠ [] → ∀ p ob, H p = none → ob.dict = none → Q (.ref p) (upd H p (.frz ob (.tup (xs ++ ys)))))) := by
  intro pins s σ H x y v u Q I rx ry h
  obtain ⟨a, b, xs, ys, rfl, rfl, ha, hb, hz, q0, q1, q2⟩ := h
  cases rx
  cases ry
  obtain ⟨its, r1, p1, _⟩ := I.tuple ha
  obtain ⟨its2, r2, p2, _⟩ := I.tuple hb
  by_cases hx : xs = []
  · subst hx
    cases r1
    exact cat_tup0 p1 p2 ⟨.ref b, H, I, rfl, q0 rfl⟩
  · have i1 : its ≠ [] := fun z => hx (r1.nil_iff.mp z)
    refine HT.cat_tup p1 p2 i1 (fun z => ⟨.ref a, H, I, rfl, q1 hx (r2.nil_iff.mp z)⟩) (fun z => ?_) (by rw [← r1.length, ← r2.length]; exact hz)
    exact made_plain (h0 := s.heap) I (r1.append r2) (by rw [List.length_append]; exact hz) (q2 hx fun w => z (r2.nil_iff.mpr w))
/-- t[lo:hi] -/
def rSlP (K : PySem.W.Frag) : V → Option Int → Option Int → Hp → VK → Prop := fun x lo hi H Q => ∃ a xs, x = .ref a ∧ SqT K H a xs ∧ (HT.sIx xs.length 0 lo = 0 ∧ HT.sIx xs.length xs.length hi = xs.length → Q (.ref a) H) ∧
    (¬ (HT.sIx xs.length 0 lo = 0 ∧ HT.sIx xs.length xs.length hi = xs.length) → ∀ p ob, H p = none → ob.dict = none → Q (.ref p) (upd H p (.frz ob (.tup (cutV xs lo hi)))))
theorem sl_tupP : SlR X (rSlP X.K) := by
  intro pins s σ H x v vl vu lo hi sl Q I rx hs pl pu h
  obtain ⟨a, xs, rfl, hx, q1, q2⟩ := h
  cases rx
  obtain ⟨its, r, ht, hz⟩ := I.tuple hx
  have len : its.toArray.size = xs.length := by rw [List.size_toArray]; exact r.length.symm
  refine ⟨"tuple", _, PyProof.Rows.slot_tuple_getitem.lookup, ht.typeIs, ?_⟩
  by_cases hw : HT.sIx xs.length 0 lo = 0 ∧ HT.sIx xs.length xs.length hi = xs.length
  · exact getItem_tuple_whole ht hs pl pu (by rw [len]; exact hw) ⟨.ref a, H, I, rfl, q1 hw⟩
  · refine HT.getItem_tuple_cut ht hs pl pu (by rw [len]; exact hw) ?_ (by rw [len]; exact hz)
    rw [len]
    exact made_plain (h0 := s.heap) I ((r.drop (HT.sIx xs.length 0 lo)).take (HT.sIx xs.length xs.length hi - HT.sIx xs.length 0 lo)) (Nat.le_trans (cutV_length xs lo hi) hz) (q2 hw)
/-- tuple(x) of a list, of a tuple -/
theorem call_tupleP : CallR X (.type "tuple") (fun xs H Q => ∃ a ys, xs = [.ref a] ∧ ((SqL X.K H a ys ∧ ∀ p ob, H p = none → ob.dict = none → Q (.ref p) (upd H p (.frz ob (.tup ys)))) ∨ (SqT X.K H a ys ∧ Q (.ref a) H))) := by
  intro pins s σ H xs us Q I r h
  obtain ⟨a, ys, rfl, h⟩ := h
  obtain ⟨u, rfl, ru⟩ := vals1 r
  cases ru
  rcases h with ⟨hs, q⟩ | ⟨hs, q⟩
  · obtain ⟨its, rv, pl, hz⟩ := I.list hs
    refine call_tuple_list pl.isList (fun h' hk => ?_) (by rw [List.size_toArray, ← rv.length]; exact hz)
    exact made_plain (h0 := h') (I.kept (t' := s.toks) hk) rv hz q
  · obtain ⟨its, _, p1, _⟩ := I.tuple hs
    exact call_tuple_same (items := its.toArray) p1 ⟨.ref a, H, I, rfl, q⟩
/-- t * k, new -/
theorem op_repP : OpR X (binaryOp .Mult) (fun x y H Q => ∃ a k xs, x = .ref a ∧ y = .int k ∧ SqT X.K H a xs ∧ xs ≠ [] ∧ (2 ≤ k ∧ k ≤ 1000 ∧ xs.length ≤ 1000) ∧ ∀ p ob, H p = none → ob.dict = none → Q (.ref p) (upd H p (.frz ob (.tup (List.replicate k.toNat xs).flatten)))) := by
  intro pins s σ H x y v u Q I rx ry h
  obtain ⟨a, k, xs, rfl, rfl, hx, ne, ⟨k2, k1, xl⟩, q⟩ := h
  cases rx
  obtain ⟨t, rfl⟩ := ry
  obtain ⟨its, r, ⟨⟨oc, od, odt, osl⟩, at_, ec, n, ed⟩, -⟩ := I.tuple hx
  dsimp only at ec ed
  subst ec
  subst ed
  have li : its.length = xs.length := r.length.symm
  have l0 : its ≠ [] := fun z => ne (List.eq_nil_of_length_eq_zero (by rw [← li, z]; rfl))
  have em : its.toArray.isEmpty = false := by
    cases hi : its with
    | nil => exact absurd hi l0
    | cons _ _ => rfl
  have sz : its.toArray.size = xs.length := List.size_toArray.trans li
  have up : (xs.length : Int) * k ≤ 1000000 := Int.le_trans (Int.mul_le_mul_of_nonneg_right (show (xs.length : Int) ≤ 1000 by omega) (by omega)) (by omega)
  have many : k.toNat * xs.length ≤ 1000000 := Nat.le_trans (Nat.mul_le_mul (show k.toNat ≤ 1000 by omega) xl) (by decide)
  have whole : (List.replicate k.toNat its).flatten.length ≤ sizeLine := by
    rw [lm_len_rep_flat, li, sizeLine_eq]
    exact Nat.le_trans many (by decide)
  have g0 : (decide (k < -(2 ^ 63)) || decide (k ≥ 2 ^ 63)) = false := by
    rw [Bool.or_eq_false_iff]
    exact ⟨decide_eq_false (by omega), decide_eq_false (by omega)⟩
  have g1 : (its.toArray.isEmpty || k == 1) = false := by
    rw [Bool.or_eq_false_iff]
    exact ⟨em, beq_eq_false_iff_ne.mpr (by omega)⟩
  have g2 : (decide (k ≤ 0) || its.toArray.isEmpty) = false := by
    rw [Bool.or_eq_false_iff]
    exact ⟨decide_eq_false (by omega), em⟩
  have g3 : ¬ ((its.toArray.size : Nat) : Int) * k > (2 ^ 63 - 1) / 8 := by
    rw [sz]
    omega
  have g4 : Builtin.Tuple.tupleTooMany (((its.toArray.size : Nat) : Int) * k) = false := by
    rw [sz]
    unfold Builtin.Tuple.tupleTooMany
    refine decide_eq_false ?_
    rw [sizeLine_eq]
    omega
  have g5 : (List.foldl (fun x1 x2 => x1 ++ x2) #[] (List.replicate k.toNat its.toArray)).size ≤ sizeLine := by
    rw [L2.size_rep, List.size_toArray]
    exact whole
  have m1 := tuple_mulW a its.toArray n od osl k t g0 g1 g2 g3 g4 g5
  have m2 := int_rmul_tuple k t a its.toArray n od osl
  have tI := typeIs_int s k t
  refine wpAny_binaryOp_repeat_ref (T := "tuple") (U := "int") (by decide) ⟨_, at_, rfl⟩ (fun s' => typeIs_int s' k t) noFill_tuple_mul F.fills_int_mul F.slot_int_rmul repeat_tuple F.slot_int_index.lookup ?_
  refine call_meets F.slot_int_rmul tI F.entry_int_rmul (F.args_int_rmul_2 _ _) m2 ⟨at_, rfl, ⟨_, at_, rfl⟩, ?_⟩
  refine call_meets F.slot_tuple_mul ⟨_, at_, rfl⟩ F.entry_tuple_mul (F.args_tuple_mul_2 _ _) m1 ⟨at_, ?_⟩
  rw [L2.size_rep]
  exact made_plain (h0 := s.heap) (its := (List.replicate k.toNat its).flatten) I (r.rep k.toNat) (by rw [lm_len_rep_flat, sizeLine_eq]; exact Nat.le_trans many (by decide)) q
end
end DL
end
section
/-! DL2: expressions over data values: outcomes one after the other; names, constants, operators, comparisons. -/
namespace DL
open PySem L2
section
variable {K : PySem.W.Frag} {W : WG} {ρ ρ' ρ1 : Pl} {H H' H1 : Hp} {σ : St}
/-- an outcome, whatever is given -/
def OutR {α β : Type} (R : Pl → Hp → α → β → Prop) (K : PySem.W.Frag) (W : WG) (ρ : Pl) (H : Hp) (σ : St) (r : Res α) (Q : β → Hp → Prop) : Prop := match r with
  | .ok d st' => ∀ ρ' H' v, Ext ρ H ρ' H' → RelSt K ρ' H' st' → R ρ' H' d v → Q v H'
  | .exc x st' => ∀ ρ' H' cls dx, Ext ρ H ρ' H' → RelSt K ρ' H' st' → RelX K ρ' H' x cls dx → W.w cls dx σ H'
  | .stuck => False
abbrev OutE (K : PySem.W.Frag) := OutR (RelD K) K
abbrev OutA (K : PySem.W.Frag) := OutR (RelDs K) K
abbrev RB : Pl → Hp → Bool → Bool → Prop := fun _ _ a b => b = a
abbrev OutT (K : PySem.W.Frag) := OutR RB K
variable {α β γ δ : Type} {R : Pl → Hp → α → β → Prop} {R2 : Pl → Hp → γ → δ → Prop}
theorem OutR.from_ {r : Res α} {Q : β → Hp → Prop} (e : Ext ρ H ρ1 H1) (h : OutR R K W ρ H σ r Q) : OutR R K W ρ1 H1 σ r Q := by
  cases r with
  | ok d st => exact fun ρ' H' v e' => h ρ' H' v (e.trans e')
  | exc x st => exact fun ρ' H' c d e' => h ρ' H' c d (e.trans e')
  | stuck => exact h
theorem OutR.bind {r : Res α} {k : α → Store → Res γ} {Q : δ → Hp → Prop} (h : OutR R2 K W ρ H σ (r.bind k) Q) :
    OutR R K W ρ H σ r (fun v H1 => ∃ ρ1 d st1, r = .ok d st1 ∧ Ext ρ H ρ1 H1 ∧ RelSt K ρ1 H1 st1 ∧ R ρ1 H1 d v ∧ OutR R2 K W ρ1 H1 σ (k d st1) Q) := by
  cases r with
  | ok d st => exact fun ρ' H' v e s q => ⟨ρ', d, st, rfl, e, s, q, OutR.from_ e h⟩
  | exc x st => exact h
  | stuck => exact h
theorem OutR.now {d : α} {st : Store} {Q : β → Hp → Prop} {v : β} (h : OutR R K W ρ H σ (.ok d st) Q) (s : RelSt K ρ H st) (r : R ρ H d v) : Q v H := h ρ H v Ext.refl s r
theorem OutR.mono {r : Res α} {Q Q' : β → Hp → Prop} (h : OutR R K W ρ H σ r Q) (i : ∀ v H, Q v H → Q' v H) : OutR R K W ρ H σ r Q' := by
  cases r with
  | ok d st => exact fun ρ' H' v e s q => i _ _ (h ρ' H' v e s q)
  | exc x st => exact h
  | stuck => exact h
abbrev FF (α : Type) := Env' → Store → Res α
def lE (K : PySem.W.Frag) (W : WG) (f : FF D) : TE := fun σ H Q => ∃ ρ env st, Good K W ρ H env σ st ∧ OutE K W ρ H σ (f env st) Q
def lA (K : PySem.W.Frag) (W : WG) (f : FF (List D)) : TA := fun σ H Q => ∃ ρ env st, Good K W ρ H env σ st ∧ OutA K W ρ H σ (f env st) Q
def lT (K : PySem.W.Frag) (W : WG) (f : FF Bool) : TT := fun σ H Q => ∃ ρ env st, Good K W ρ H env σ st ∧ OutT K W ρ H σ (f env st) Q
theorem Good.ext {env : Env'} {st st1 : Store} (g : Good K W ρ H env σ st) (e : Ext ρ H ρ1 H1) (s : RelSt K ρ1 H1 st1) : Good K W ρ1 H1 env σ st1 := ⟨g.env.ext e, s, e.tt.trans g.tt, g.gh.stay e.stay⟩
def rbind {α β : Type} (f : FF α) (k : α → FF β) : FF β := fun env st => (f env st).bind fun a st1 => k a env st1
end

section
variable {X : Cx} {W : WG} {a b c : Expr} {fa fb fc : FF D} {pos : Pos}
theorem PE.imp {e : Expr} {t t' : TE} (h : PE X e t) (i : ∀ σ H Q, t' σ H Q → t σ H Q) : PE X e t' := ⟨fun pins s σ H Q I q => h.run pins s σ H Q I (i _ _ _ q)⟩
theorem PT.imp {e : Expr} {t t' : TT} (h : PT X e t) (i : ∀ σ H Q, t' σ H Q → t σ H Q) : PT X e t' := ⟨fun pins s σ H Q I q => h.run pins s σ H Q I (i _ _ _ q)⟩
theorem PA.imp {e : List Expr} {t t' : TA} (h : PA X e t) (i : ∀ σ H Q, t' σ H Q → t σ H Q) : PA X e t' := ⟨fun pos pins s σ H Q I q => h.run pos pins s σ H Q I (i _ _ _ q)⟩
/-- an expression, a test, arguments, as functions of data -/
abbrev DE (X : Cx) (W : WG) (e : Expr) (f : FF D) : Prop := PE X e (lE X.K W f)
abbrev DT (X : Cx) (W : WG) (e : Expr) (f : FF Bool) : Prop := PT X e (lT X.K W f)
abbrev DA (X : Cx) (W : WG) (es : List Expr) (f : FF (List D)) : Prop := PA X es (lA X.K W f)

/-! names and constants -/
def fvar (i : Nat) : FF D := fun env st => match env[i]? with
  | some (some d) => .ok d st
  | _ => .stuck
theorem de_var {i : Nat} {x : Str} (hN : X.N[i]? = some x) (hv : Vis X.env.scope x) (hd : (x == ("__debug__" : Str)) = false) (hcd : (x == ("__classdict__" : Str)) = false) : DE X W (.Name x pos) (fvar i) := by
  refine PE.imp (pe_var hN hv hd hcd) fun σ H Q h => ?_
  obtain ⟨ρ, env, st, g, o⟩ := h
  unfold fvar at o
  split at o
  · rename_i d e
    obtain ⟨v, h1, h2⟩ := g.env.at_ i d e
    exact ⟨v, h1, o.now g.st h2⟩
  · exact o.elim
def fcon (d : D) : FF D := fun _ st => .ok d st
theorem de_con {e : Expr} {v : V} {d : D} (h : PE X e (tC v)) (r : ∀ ρ H, RelD X.K ρ H d v) : DE X W e (fcon d) := by
  refine PE.imp h fun σ H Q h => ?_
  obtain ⟨ρ, env, st, g, o⟩ := h
  exact o.now g.st (r ρ H)
theorem de_int {i j} : DE X W (.Constant (.int i) j pos) (fcon (.int i)) := de_con pe_int fun _ _ => .int i
theorem de_bl {b j} : DE X W (.Constant (.bool b) j pos) (fcon (.bl b)) := de_con pe_bl fun _ _ => .bl b
theorem de_non {j} : DE X W (.Constant .none j pos) (fcon .non) := de_con pe_non fun _ _ => .non
theorem de_str {x j} : DE X W (.Constant (.str x) j pos) (fcon (.str x)) := de_con pe_str fun _ _ => .str x

/-! arguments -/
def fnil : FF (List D) := fun _ st => .ok [] st
def fcons (f : FF D) (g : FF (List D)) : FF (List D) := fun env st => (f env st).bind fun d st1 => (g env st1).bind fun ds st2 => .ok (d :: ds) st2
theorem star_plain {e : Expr} {es : List Expr} {env : PySem.Env} (h : PySem.W.isStarred e = false) : starEach (e :: es) env = (false, eval e env) :: starEach es env := by
  cases e <;> first | rfl | (cases h)
theorem da_nil : DA X W [] fnil := by
  refine PA.imp pa_nil fun σ H Q h => ?_
  obtain ⟨ρ, env, st, g, o⟩ := h
  exact o.now g.st .nil
theorem da_cons {e : Expr} {es : List Expr} {f : FF D} {g : FF (List D)} (he : DE X W e f) (hes : DA X W es g) (hs : PySem.W.isStarred e = false) : DA X W (e :: es) (fcons f g) := by
  refine PA.imp (pa_cons he hes (star_plain hs)) fun σ H Q h => ?_
  obtain ⟨ρ, env, st, gd, o⟩ := h
  refine ⟨ρ, env, st, gd, (OutR.bind (R := RelD X.K) o).mono ?_⟩
  rintro v H1 ⟨ρ1, d, st1, -, e1, s1, r1, o1⟩
  refine ⟨ρ1, env, st1, gd.ext e1 s1, (OutR.bind (R := RelDs X.K) o1).mono ?_⟩
  rintro vs H2 ⟨ρ2, ds, st2, -, e2, s2, r2, o2⟩
  exact o2.now s2 (.cons (r1.ext e2) r2)

/-! two-place operations by values -/
/-- an operation on data that an operation of the machine keeps to -/
def OpD (X : Cx) (W : WG) (f : Value → Value → Sem Value) (g : D → D → Store → Res D) : Prop :=
  ∀ (pins : List (Addr × Obj)) (s : Shared) (σ : St) (H : Hp) (ρ : Pl) (st : Store) (x y : D) (v u : V) (v' u' : Value) (Q : VK), Inv X pins σ H s → RelSt X.K ρ H st → RelD X.K ρ H x v → RelD X.K ρ H y u → RelV v v' → RelV u u' →
    OutE X.K W ρ H σ (g x y st) Q → wpAny (model X.prog X.w) X.A (f v' u') (EP X pins σ Q) X.xe s
def fbin (g : D → D → Store → Res D) (fa fb : FF D) : FF D := fun env st => (fa env st).bind fun x st1 => (fb env st1).bind fun y st2 => g x y st2
theorem bin_walk {g : D → D → Store → Res D} {f : Value → Value → Sem Value} (ho : OpD X W f g) (ha : DE X W a fa) (hb : DE X W b fb) {pins : List (Addr × Obj)} {s : Shared} {σ : St} {H : Hp} {Q : VK} (I : Inv X pins σ H s)
    (h : lE X.K W (fbin g fa fb) σ H Q) : wpAny (model X.prog X.w) X.A (eval a X.env) (fun v s₁ => wpAny (model X.prog X.w) X.A (eval b X.env) (fun u s₂ => wpAny (model X.prog X.w) X.A (f v u) (EP X pins σ Q) X.xe s₂) X.xe s₁) X.xe s := by
  obtain ⟨ρ, env, st, gd, o⟩ := h
  refine thn (ha.run pins s σ H _ I ⟨ρ, env, st, gd, OutR.bind (R := RelD X.K) o⟩) ?_
  rintro v' s1 ⟨v, H1, I1, rv, ρ1, d, st1, -, e1, rs1, r1, o1⟩
  refine thn (hb.run pins s1 σ H1 _ I1 ⟨ρ1, env, st1, gd.ext e1 rs1, OutR.bind (R := RelD X.K) o1⟩) ?_
  rintro u' s2 ⟨u, H2, I2, ru, ρ2, e, st2, -, e2, rs2, r2, o2⟩
  exact ho pins s2 σ H2 ρ2 st2 d e v u v' u' Q I2 rs2 (r1.ext e2) r2 rv ru o2
theorem de_bin {op : Operator} {g : D → D → Store → Res D} (ho : OpD X W (binaryOp op) g) (ha : DE X W a fa) (hb : DE X W b fb) : DE X W (.BinOp a op b pos) (fbin g fa fb) :=
  ⟨fun pins s σ H Q I h => wpAny_BinOp (bin_walk ho ha hb I h)⟩
theorem de_cmp {op : CmpOp} {g : D → D → Store → Res D} (ho : OpD X W (compareOp op) g) (ha : DE X W a fa) (hb : DE X W b fb) (hm : behindInMarks op b = false) : DE X W (.Compare a [op] [b] pos) (fbin g fa fb) :=
  ⟨fun pins s σ H Q I h => wpAny_Compare1 (bin_walk ho ha hb I h) hm⟩
theorem OpD.by {f : Value → Value → Sem Value} {g : D → D → Store → Res D} {r : R2} (ho : OpR X f r)
    (i : ∀ (ρ : Pl) (H : Hp) (σ : St) (st : Store) (x y : D) (v u : V) (Q : VK), RelSt X.K ρ H st → RelD X.K ρ H x v → RelD X.K ρ H y u → OutE X.K W ρ H σ (g x y st) Q → r v u H Q) : OpD X W f g :=
  fun pins s σ H ρ st x y v u v' u' Q I rs rx ry rv ru o => ho pins s σ H v u v' u' Q I rv ru (i ρ H σ st x y v u Q rs rx ry o)
/-- two operations: the first where it is not stuck -/
theorem OpD.or {f : Value → Value → Sem Value} {g g' k : D → D → Store → Res D} (h : OpD X W f g) (h' : OpD X W f g') (hk : ∀ x y st, k x y st = .stuck ∨ k x y st = g x y st ∨ k x y st = g' x y st) : OpD X W f k := by
  intro pins s σ H ρ st x y v u v' u' Q I rs rx ry rv ru o
  rcases hk x y st with e | e | e
  · rw [e] at o; exact o.elim
  · rw [e] at o; exact h pins s σ H ρ st x y v u v' u' Q I rs rx ry rv ru o
  · rw [e] at o; exact h' pins s σ H ρ st x y v u v' u' Q I rs rx ry rv ru o
/-! ints -/
def opI0D (g : Int → Int → D) : D → D → Store → Res D := fun x y st => match x, y with
  | .int i, .int j => .ok (g i j) st
  | _, _ => .stuck
def opID (C : Int → Int → Bool) (g : Int → Int → D) : D → D → Store → Res D := fun x y st => match x, y with
  | .int i, .int j => if C i j then .ok (g i j) st else .stuck
  | _, _ => .stuck
theorem od_int0 {f : Value → Value → Sem Value} {g : Int → Int → V} {gd : Int → Int → D} (ho : OpR X f (rI0 g)) (hg : ∀ i j ρ H, RelD X.K ρ H (gd i j) (g i j)) : OpD X W f (opI0D gd) :=
  OpD.by ho fun ρ H σ st x y v u Q rs rx ry o => by
    cases x with
    | int i =>
      cases y with
      | int j => cases rx; cases ry; exact ⟨i, j, rfl, rfl, o.now rs (hg i j ρ H)⟩
      | _ => exact o.elim
    | _ => exact o.elim
theorem od_int {f : Value → Value → Sem Value} {C : Int → Int → Prop} {Cb : Int → Int → Bool} {g : Int → Int → V} {gd : Int → Int → D} (ho : OpR X f (rI C g)) (hC : ∀ i j, Cb i j = true → C i j) (hg : ∀ i j ρ H, RelD X.K ρ H (gd i j) (g i j)) : OpD X W f (opID Cb gd) :=
  OpD.by ho fun ρ H σ st x y v u Q rs rx ry o => by
    cases x with
    | int i =>
      cases y with
      | int j =>
        cases rx; cases ry
        change OutE X.K W ρ H σ (if Cb i j = true then _ else _) Q at o
        split at o
        · rename_i c
          exact ⟨i, j, rfl, rfl, hC i j c, o.now rs (hg i j ρ H)⟩
        · exact o.elim
      | _ => exact o.elim
    | _ => exact o.elim
end
end DL
end
section
/-! DL3: lists, tuples, texts, data: what a value shows; operators and comparisons of all kinds of data. -/
namespace DL
open PySem L2
/-- what lies in a list: one that stands still, the script, one of the store -/
def seqL (st : Store) : D → Option (List D)
  | .lst xs => some xs
  | .scr xs => some xs
  | .obj n => match st[n]? with | some (.lst xs) => some xs | _ => none
  | _ => none
/-- .. of a list that is not locked -/
def seqO (st : Store) : D → Option (List D)
  | .lst xs => some xs
  | .obj n => match st[n]? with | some (.lst xs) => some xs | _ => none
  | _ => none
section
variable {K : PySem.W.Frag} {ρ : Pl} {H : Hp} {st : Store}
theorem seqL_ok {d : D} {v : V} {xs : List D} (rs : RelSt K ρ H st) (r : RelD K ρ H d v) (e : seqL st d = some xs) : ∃ a vs, v = .ref a ∧ SqL K H a vs ∧ RelDs K ρ H xs vs := by
  cases r with
  | lst h n t => cases e; exact ⟨_, _, rfl, .inl (.inl h), t⟩
  | scr h n t => cases e; exact ⟨_, _, rfl, .inl h, t⟩
  | scrK h t =>
    cases e
    refine ⟨_, _, rfl, .inr ?_, t⟩
    rcases h with h | h
    · rcases h with h | ⟨o, h⟩ <;> cases h
    · exact h
  | @obj n a h =>
    simp only [seqL] at e
    split at e
    · rename_i ys q
      cases e
      obtain ⟨vs, h1, h2⟩ := rs.at_ n a _ h q
      exact ⟨a, vs, rfl, .inl (.inl h1), h2⟩
    · cases e
  | _ => cases e
theorem seqO_ok {d : D} {v : V} {xs : List D} (rs : RelSt K ρ H st) (r : RelD K ρ H d v) (e : seqO st d = some xs) : ∃ a vs, v = .ref a ∧ H a = some (.lst vs) ∧ RelDs K ρ H xs vs := by
  cases r with
  | lst h n t => cases e; exact ⟨_, _, rfl, h, t⟩
  | @obj n a h =>
    simp only [seqO] at e
    split at e
    · rename_i ys q
      cases e
      obtain ⟨vs, h1, h2⟩ := rs.at_ n a _ h q
      exact ⟨a, vs, rfl, h1, h2⟩
    · cases e
  | _ => cases e
theorem tup_ok {v : V} {xs : List D} (r : RelD K ρ H (.tup xs) v) : ∃ a vs, v = .ref a ∧ SqT K H a vs ∧ RelDs K ρ H xs vs := by
  cases r with
  | tup h n t => exact ⟨_, _, rfl, .inl h.rd, t⟩
  | tupK h _ t =>
    refine ⟨_, _, rfl, .inr ?_, t⟩
    rcases h with h | h
    · rcases h with h | ⟨o, h⟩ <;> cases h
    · exact h
/-- a new tuple, a new list that stand still -/
theorem new_tup {p : Addr} {ob : Obj} {xs : List D} {vs : List V} (rs : RelSt K ρ H st) (h : H p = none) (hd : ob.dict = none) (r : RelDs K ρ H xs vs) : RelD K ρ (upd H p (.frz ob (.tup vs))) (.tup xs) (.ref p) :=
  .tup ⟨ob, upd_same, hd⟩ (rs.notin h) (r.ext (Ext.new rs h))
/-- .. a pair -/
theorem new_pr {p : Addr} {xs : List D} {vs : List V} (rs : RelSt K ρ H st) (h : H p = none) (r : RelDs K ρ H xs vs) : RelD K ρ (upd H p (.tup vs)) (.pr xs) (.ref p) :=
  .pr (.inl upd_same) (rs.notin h) (r.ext (Ext.new rs h))
theorem pr_ok {v : V} {xs : List D} (r : RelD K ρ H (.pr xs) v) : ∃ a vs, v = .ref a ∧ SqT K H a vs ∧ RelDs K ρ H xs vs := by
  cases r with
  | pr h n t => exact ⟨_, _, rfl, .inl h, t⟩
theorem new_lst {p : Addr} {xs : List D} {vs : List V} (rs : RelSt K ρ H st) (h : H p = none) (r : RelDs K ρ H xs vs) : RelD K ρ (upd H p (.lst vs)) (.lst xs) (.ref p) :=
  .lst upd_same (rs.notin h) (r.ext (Ext.new rs h))
section
variable {W : WG} {σ : St} {Q : VK}
theorem out_tup {xs : List D} {vs : List V} (o : OutE K W ρ H σ (.ok (.tup xs) st) Q) (rs : RelSt K ρ H st) (r : RelDs K ρ H xs vs) {p : Addr} {ob : Obj} (h : H p = none) (hd : ob.dict = none) : Q (.ref p) (upd H p (.frz ob (.tup vs))) :=
  o ρ _ _ (Ext.new rs h) (rs.new h) (new_tup rs h hd r)
theorem out_lst {xs : List D} {vs : List V} (o : OutE K W ρ H σ (.ok (.lst xs) st) Q) (rs : RelSt K ρ H st) (r : RelDs K ρ H xs vs) {p : Addr} (h : H p = none) : Q (.ref p) (upd H p (.lst vs)) :=
  o ρ _ _ (Ext.new rs h) (rs.new h) (new_lst rs h r)
end
/-! data for the library's own == and repr -/
mutual
def toP : D → Option PyData
  | .non => some .none
  | .bl b => some (.bool b)
  | .int i => some (.int i)
  | .str x => some (.str x)
  | .tup xs => (toPs xs).map .tuple
  | .lst xs => (toPs xs).map .list
  | _ => none
def toPs : List D → Option (List PyData)
  | [] => some []
  | d :: ds => match toP d, toPs ds with
    | some p, some ps => some (p :: ps)
    | _, _ => none
end
mutual
theorem toP_ok : ∀ {d : D} {v : V} {p : PyData}, RelD K ρ H d v → toP d = some p → Dp K H v p
  | .non, _, _, r, e => by cases r; cases e; exact .non
  | .bl b, _, _, r, e => by cases r; cases e; exact .bl b
  | .int i, _, _, r, e => by cases r; cases e; exact .int i
  | .str x, _, _, r, e => by cases r; cases e; exact .str x
  | .tup xs, v, p, r, e => by
    simp only [toP, Option.map_eq_some_iff] at e
    obtain ⟨ps, e1, rfl⟩ := e
    obtain ⟨a, vs, rfl, h, t⟩ := tup_ok r
    exact .tup h (toPs_ok t e1)
  | .lst xs, v, p, r, e => by
    simp only [toP, Option.map_eq_some_iff] at e
    obtain ⟨ps, e1, rfl⟩ := e
    cases r with
    | lst h n t => exact .lst (.inl (.inl h)) (toPs_ok t e1)
  | .ty _, _, _, _, e => by cases e
  | .glb _, _, _, _, e => by cases e
  | .scr _, _, _, _, e => by cases e
  | .obj _, _, _, _, e => by cases e
  | .pr _, _, _, _, e => by cases e
theorem toPs_ok : ∀ {ds : List D} {vs : List V} {ps : List PyData}, RelDs K ρ H ds vs → toPs ds = some ps → DpAll K H vs ps
  | [], _, _, r, e => by cases r; cases e; exact .nil
  | d :: ds, _, ps, r, e => by
    cases r with
    | cons r1 r2 =>
      simp only [toPs] at e
      split at e
      · rename_i p qs e1 e2
        cases e
        exact .cons (toP_ok r1 e1) (toPs_ok r2 e2)
      · cases e
end
def toPS (st : Store) (d : D) : Option PyData := match seqL st d with
  | some xs => (toPs xs).map .list
  | none => toP d
theorem toPS_ok {d : D} {v : V} {p : PyData} (rs : RelSt K ρ H st) (r : RelD K ρ H d v) (e : toPS st d = some p) : Dp K H v p := by
  unfold toPS at e
  split at e
  · rename_i xs h
    obtain ⟨a, vs, rfl, h1, h2⟩ := seqL_ok rs r h
    simp only [Option.map_eq_some_iff] at e
    obtain ⟨ps, e1, rfl⟩ := e
    exact .lst h1 (toPs_ok h2 e1)
  · exact toP_ok r e
end
/-! the longest -/
theorem line_le {n : Nat} (h : n ≤ 16777216) : n ≤ sizeLine := by rw [sizeLine_eq]; exact h
section
variable {X : Cx} {W : WG}
/-! + -/
def addD (x y : D) (st : Store) : Res D := match x, y with
  | .int i, .int j => .ok (.int (i + j)) st
  | .str a, .str b => if a.length + b.length ≤ 16777216 then .ok (.str (a ++ b)) st else .stuck
  | .tup xs, .tup ys => if xs.length + ys.length ≤ 16777216 then .ok (.tup (xs ++ ys)) st else .stuck
  | x, y => match seqO st x, seqO st y with
    | some xs, some ys => if xs.length + ys.length ≤ 16777216 then .ok (.lst (xs ++ ys)) st else .stuck
    | _, _ => .stuck
theorem od_add : OpD X W (binaryOp .Add) addD := by
  intro pins s σ H ρ st x y v u v' u' Q I rs rx ry rv ru o
  unfold addD at o
  split at o
  · cases rx; cases ry
    exact op_add pins s σ H _ _ v' u' Q I rv ru ⟨_, _, rfl, rfl, o.now rs (.int _)⟩
  · cases rx; cases ry
    split at o
    · rename_i h
      exact op_add_str pins s σ H _ _ v' u' Q I rv ru ⟨_, _, rfl, rfl, line_le h, o.now rs (.str _)⟩
    · exact o.elim
  · rename_i xs ys
    split at o
    · rename_i h
      obtain ⟨a, vs, rfl, h1, h2⟩ := tup_ok rx
      obtain ⟨b, us, rfl, h3, h4⟩ := tup_ok ry
      refine op_catP pins s σ H _ _ v' u' Q I rv ru ⟨a, b, vs, us, rfl, rfl, h1, h3, line_le (by rw [← h2.length, ← h4.length]; exact h), fun e => ?_, fun _ e => ?_, fun _ _ p ob np nd => out_tup o rs (h2.append h4) np nd⟩
      · subst e
        cases h2
        exact o.now rs ry
      · subst e
        cases h4
        rw [List.append_nil] at o
        exact o.now rs rx
    · exact o.elim
  · split at o
    · rename_i xs ys e1 e2
      split at o
      · rename_i h
        obtain ⟨a, vs, rfl, h1, h2⟩ := seqO_ok rs rx e1
        obtain ⟨b, us, rfl, h3, h4⟩ := seqO_ok rs ry e2
        exact op_cat pins s σ H _ _ v' u' Q I rv ru ⟨a, b, vs, us, rfl, rfl, h1, h3, line_le (by rw [← h2.length, ← h4.length]; exact h), fun p np => out_lst o rs (h2.append h4) np⟩
      · exact o.elim
    · exact o.elim
/-! the other operators of whole numbers; a list some times over -/
def subD : D → D → Store → Res D := opI0D fun i j => .int (i - j)
theorem od_sub : OpD X W (binaryOp .Sub) subD := od_int0 op_sub fun i j ρ H => .int _
def okMul (i j : Int) : Bool := (decide (-(2 ^ 64) < i) && decide (i < 2 ^ 64)) || (decide (-(2 ^ 64) < j) && decide (j < 2 ^ 64))
def mulI : D → D → Store → Res D := opID okMul fun i j => .int (i * j)
theorem od_mulI : OpD X W (binaryOp .Mult) mulI := od_int op_mul (fun i j h => by
  simpa [okMul, CMul] using h) fun i j ρ H => .int _
def divD : D → D → Store → Res D := opID (fun i j => decide (0 < j) && decide (j < 1073741824)) fun i j => .int (i / j)
theorem od_div : OpD X W (binaryOp .FloorDiv) divD := od_int op_fdiv (fun i j h => by simpa [CDiv] using h) fun i j ρ H => .int _
def modD : D → D → Store → Res D := opID (fun i j => decide (0 < j)) fun i j => .int (i % j)
theorem od_mod : OpD X W (binaryOp .Mod) modD := od_int op_mod (fun i j h => by simpa using h) fun i j ρ H => .int _
def powD : D → D → Store → Res D := opID (fun i j => decide (0 ≤ j) && decide (j ≤ 1000000) && decide (i.natAbs < 2 ^ 64)) fun i j => .int (i ^ j.toNat)
theorem od_pow : OpD X W (binaryOp .Pow) powD := od_int op_pow (fun i j h => by simpa [CPow, and_assoc] using h) fun i j ρ H => .int _
/-- a list k times -/
def repL (k : Int) (xs : List D) : List D := (List.replicate k.toNat xs).flatten
theorem RelDs.rep {K : PySem.W.Frag} {ρ : Pl} {H : Hp} {xs : List D} {vs : List V} (h : RelDs K ρ H xs vs) : ∀ n : Nat, RelDs K ρ H (List.replicate n xs).flatten (List.replicate n vs).flatten
  | 0 => .nil
  | n + 1 => by simp only [List.replicate_succ, List.flatten_cons]; exact h.append (RelDs.rep h n)
def mulL : D → D → Store → Res D := fun x y st => match seqO st x, y with
  | some xs, .int k => if -(2 ^ 63) ≤ k ∧ k < 2 ^ 63 ∧ xs.length * k.toNat ≤ 16777216 then .ok (.lst (repL k xs)) st else .stuck
  | _, _ => .stuck
theorem od_mulL : OpD X W (binaryOp .Mult) mulL := OpD.by op_rep fun ρ H σ st x y v u Q rs rx ry o => by
  unfold mulL at o
  split at o
  · rename_i xs k e
    split at o
    · rename_i h
      obtain ⟨a, vs, rfl, h1, h2⟩ := seqO_ok rs rx e
      cases ry
      exact ⟨a, k, vs, rfl, rfl, h1, h.1, h.2.1, line_le (by rw [← h2.length]; exact h.2.2), fun p np => out_lst o rs (h2.rep _) np⟩
    · exact o.elim
  · exact o.elim
def mulD (x y : D) (st : Store) : Res D := match x with
  | .int _ => mulI x y st
  | _ => mulL x y st
theorem od_mul : OpD X W (binaryOp .Mult) mulD := od_mulI.or od_mulL fun x y st => by
  cases x <;> first | exact .inr (.inl rfl) | exact .inr (.inr rfl)
/-- the operators -/
def binD (op : Operator) : D → D → Store → Res D := match op with
  | .Add => addD
  | .Sub => subD
  | .Mult => mulD
  | .FloorDiv => divD
  | .Mod => modD
  | .Pow => powD
  | _ => fun _ _ _ => .stuck
theorem od_bin (op : Operator) : OpD X W (binaryOp op) (binD op) := by
  cases op <;> first | exact od_add | exact od_sub | exact od_mul | exact od_div | exact od_mod | exact od_pow | exact fun _ _ _ _ _ _ _ _ _ _ _ _ _ _ _ _ _ _ _ o => o.elim
/-! comparisons -/
def eqD (neg : Bool) (x y : D) (st : Store) : Res D := match toPS st x, toPS st y with
  | some p, some q => if SeqAt.shaped p && SeqAt.shaped q then .ok (.bl (if neg then !PyData.eqv p q else PyData.eqv p q)) st else .stuck
  | _, _ => .stuck
theorem od_eq (hu : X.A.units + 64 < cLine) : OpD X W (compareOp .Eq) (eqD false) := OpD.by (op_eqD hu) fun ρ H σ st x y v u Q rs rx ry o => by
  unfold eqD at o
  split at o
  · rename_i p q e1 e2
    split at o
    · rename_i h
      rw [Bool.and_eq_true] at h
      exact ⟨p, q, toPS_ok rs rx e1, toPS_ok rs ry e2, h.1, h.2, o.now rs (.bl _)⟩
    · exact o.elim
  · exact o.elim
theorem od_ne (hu : X.A.units + 64 < cLine) : OpD X W (compareOp .NotEq) (eqD true) := OpD.by (op_neD hu) fun ρ H σ st x y v u Q rs rx ry o => by
  unfold eqD at o
  split at o
  · rename_i p q e1 e2
    split at o
    · rename_i h
      rw [Bool.and_eq_true] at h
      exact ⟨p, q, toPS_ok rs rx e1, toPS_ok rs ry e2, h.1, h.2, o.now rs (.bl _)⟩
    · exact o.elim
  · exact o.elim
def ltStr : D → D → Store → Res D := fun x y st => match x, y with
  | .str i, .str j => .ok (.bl (decide (i.cps.toList < j.cps.toList))) st
  | _, _ => .stuck
def ltD (x y : D) (st : Store) : Res D := match x with
  | .str _ => ltStr x y st
  | _ => opI0D (fun i j => .bl (decide (i < j))) x y st
theorem od_lt : OpD X W (compareOp .Lt) ltD := by
  refine OpD.or (g := ltStr) (g' := opI0D fun i j => .bl (decide (i < j))) (OpD.by op_lt_str fun ρ H σ st x y v u Q rs rx ry o => ?_) (od_int0 op_lt fun i j ρ H => .bl _) fun x y st => ?_
  · unfold ltStr at o
    split at o
    · cases rx; cases ry; exact ⟨_, _, rfl, rfl, o.now rs (.bl _)⟩
    · exact o.elim
  · cases x <;> first | exact .inr (.inl rfl) | exact .inr (.inr rfl)
/-! is None -/
def isN (neg : Bool) : D → D → Store → Res D := fun x y st => match y with
  | .non => .ok (.bl (match x with | .non => !neg | _ => neg)) st
  | _ => .stuck
theorem non_iff {K : PySem.W.Frag} {ρ : Pl} {H : Hp} {x : D} {v : V} (r : RelD K ρ H x v) : decide (v = .non) = match x with | .non => true | _ => false := by
  cases r <;> simp
theorem od_is : OpD X W (compareOp .Is) (isN false) := OpD.by op_isN fun ρ H σ st x y v u Q rs rx ry o => by
  unfold isN at o
  split at o
  · cases ry
    refine ⟨rfl, ?_⟩
    rw [non_iff rx]
    cases x <;> exact o.now rs (.bl _)
  · exact o.elim
theorem od_isnot : OpD X W (compareOp .IsNot) (isN true) := OpD.by op_notN fun ρ H σ st x y v u Q rs rx ry o => by
  unfold isN at o
  split at o
  · cases ry
    refine ⟨rfl, ?_⟩
    rw [non_iff rx]
    cases x <;> exact o.now rs (.bl _)
  · exact o.elim
end
end DL
end
section
/-! DL4: in; dicts read; displays; tests; subscripts; calls of built-ins by values. -/
namespace DL
open PySem L2
section
variable {X : Cx} {W : WG}
/-! flat values and `in` -/
def flatD : D → Option V
  | .non => some .non
  | .bl b => some (.bl b)
  | .int i => some (.int i)
  | .str x => some (.str x)
  | _ => none
def flatDs : List D → Option (List V)
  | [] => some []
  | d :: ds => match flatD d, flatDs ds with
    | some v, some vs => some (v :: vs)
    | _, _ => none
theorem flatD_ok {K : PySem.W.Frag} {ρ : Pl} {H : Hp} {d : D} {v w : V} (r : RelD K ρ H d v) (e : flatD d = some w) : v = w ∧ flatV v = true := by
  cases r <;> first | (cases e; exact ⟨rfl, rfl⟩) | cases e
theorem flatDs_ok {K : PySem.W.Frag} {ρ : Pl} {H : Hp} : ∀ {ds : List D} {vs ws : List V}, RelDs K ρ H ds vs → flatDs ds = some ws → vs = ws ∧ vs.all flatV = true
  | [], _, _, r, e => by cases r; cases e; exact ⟨rfl, rfl⟩
  | d :: ds, _, ws, r, e => by
    cases r with
    | cons r1 r2 =>
      simp only [flatDs] at e
      split at e
      · rename_i v vs e1 e2
        cases e
        obtain ⟨h1, h2⟩ := flatD_ok r1 e1
        obtain ⟨h3, h4⟩ := flatDs_ok r2 e2
        subst h1; subst h3
        exact ⟨rfl, by simp [h2, h4]⟩
      · cases e
def inStr (neg : Bool) : D → D → Store → Res D := fun x y st => match x, y with
  | .str i, .str j => .ok (.bl (if neg then !(!(Builtin.Str.occurrences j i 0 j.length 1).isEmpty) else !(Builtin.Str.occurrences j i 0 j.length 1).isEmpty)) st
  | _, _ => .stuck
def seqA (st : Store) (d : D) : Option (List D) := match d with
  | .tup xs => some xs
  | d => seqL st d
theorem seqA_ok {K : PySem.W.Frag} {ρ : Pl} {H : Hp} {st : Store} {d : D} {v : V} {xs : List D} (rs : RelSt K ρ H st) (r : RelD K ρ H d v) (e : seqA st d = some xs) : ∃ a vs, v = .ref a ∧ (SqL K H a vs ∨ SqT K H a vs) ∧ RelDs K ρ H xs vs := by
  unfold seqA at e
  split at e
  · cases e
    obtain ⟨a, vs, h1, h2, h3⟩ := tup_ok r
    exact ⟨a, vs, h1, .inr h2, h3⟩
  · obtain ⟨a, vs, h1, h2, h3⟩ := seqL_ok rs r e
    exact ⟨a, vs, h1, .inl h2, h3⟩
def inFlat (neg : Bool) : D → D → Store → Res D := fun x y st => match flatD x, (seqA st y).bind flatDs with
  | some v, some vs => .ok (.bl (if neg then !inV v vs else inV v vs)) st
  | _, _ => .stuck
def inDeep (neg : Bool) : D → D → Store → Res D := fun x y st => match toPS st x, (seqA st y).bind toPs with
  | some d, some ds => if SeqAt.shaped d && SeqAt.shaped (.list ds) then .ok (.bl (if neg then !(ds.any fun z => PyData.eqv z d) else ds.any fun z => PyData.eqv z d)) st else .stuck
  | _, _ => .stuck
def getK (kvs : List (Key × D)) (k : Key) : Option D := (kvs.find? fun kv => decide (kv.1 = k)).map (·.2)
def keyD : D → Option Key
  | .int i => some (.inl i)
  | .str x => some (.inr x)
  | _ => none
theorem keyD_ok {K : PySem.W.Frag} {ρ : Pl} {H : Hp} {d : D} {v : V} {k : Key} (r : RelD K ρ H d v) (e : keyD d = some k) : v = kV k := by
  cases r <;> first | (cases e; rfl) | cases e
def dctO (st : Store) : D → Option (List (Key × D))
  | .obj n => match st[n]? with | some (.dk kvs) => some kvs | _ => none
  | _ => none
theorem dctO_ok {K : PySem.W.Frag} {ρ : Pl} {H : Hp} {st : Store} {d : D} {v : V} {kvs : List (Key × D)} (rs : RelSt K ρ H st) (r : RelD K ρ H d v) (e : dctO st d = some kvs) :
    ∃ a vvs, v = .ref a ∧ H a = some (.dK vvs) ∧ vvs.map (·.1) = kvs.map (·.1) ∧ RelDs K ρ H (kvs.map (·.2)) (vvs.map (·.2)) := by
  cases r with
  | @obj n a h =>
    simp only [dctO] at e
    split at e
    · rename_i ys q
      cases e
      obtain ⟨vs, h1, h2, h3⟩ := rs.at_ n a _ h q
      exact ⟨a, vs, rfl, h1, h2, h3⟩
    · cases e
  | _ => cases e
theorem getK_ok {K : PySem.W.Frag} {ρ : Pl} {H : Hp} (k : Key) : ∀ {kvs : List (Key × D)} {vvs : List (Key × V)}, vvs.map (·.1) = kvs.map (·.1) → RelDs K ρ H (kvs.map (·.2)) (vvs.map (·.2)) →
    (getK kvs k = none ∧ valV vvs k = none) ∨ ∃ d v, getK kvs k = some d ∧ valV vvs k = some v ∧ RelD K ρ H d v
  | [], [], _, _ => .inl ⟨rfl, rfl⟩
  | [], _ :: _, e, _ => by cases e
  | _ :: _, [], e, _ => by cases e
  | (a, d) :: r, (b, v) :: s, e, q => by
    simp only [List.map_cons, List.cons.injEq] at e
    obtain ⟨e1, e2⟩ := e
    simp only [List.map_cons] at q
    cases q with
    | cons q1 q2 =>
      by_cases h : a = k
      · refine .inr ⟨d, v, by simp [getK, h], by rw [valV_pos (by rw [e1]; exact h)], q1⟩
      · have h2 : ¬ (b, v).1 = k := by rw [e1]; exact h
        rw [valV_neg h2]
        have h3 : getK ((a, d) :: r) k = getK r k := by simp [getK, List.find?_cons, h]
        rw [h3]
        exact getK_ok k e2 q2
def inDct (neg : Bool) : D → D → Store → Res D := fun x y st => match x with
  | .non => (match dctO st y with
    | some _ => .ok (.bl neg) st
    | none => .stuck)
  | _ => match keyD x, dctO st y with
  | some k, some kvs => .ok (.bl (if neg then !(getK kvs k).isSome else (getK kvs k).isSome)) st
  | _, _ => .stuck
/-- in, not in -/
def inD (neg : Bool) (x y : D) (st : Store) : Res D := match y with
  | .str _ => inStr neg x y st
  | _ => match dctO st y with
    | some _ => inDct neg x y st
    | none => match flatD x, (seqA st y).bind flatDs with
      | some _, some _ => inFlat neg x y st
      | _, _ => inDeep neg x y st
theorem inD_cases (neg : Bool) (x y : D) (st : Store) : inD neg x y st = inStr neg x y st ∨ inD neg x y st = inDct neg x y st ∨ inD neg x y st = inFlat neg x y st ∨ inD neg x y st = inDeep neg x y st := by
  unfold inD
  split
  · exact .inl rfl
  · split
    · exact .inr (.inl rfl)
    · split
      · exact .inr (.inr (.inl rfl))
      · exact .inr (.inr (.inr rfl))
theorem od_inStr (neg : Bool) : OpD X W (compareOp (if neg then .NotIn else .In)) (inStr neg) := by
  intro pins s σ H ρ st x y v u v' u' Q I rs rx ry rv ru o
  unfold inStr at o
  split at o
  · cases rx; cases ry
    cases neg with
    | false => exact op_in_str pins s σ H _ _ v' u' Q I rv ru ⟨_, _, rfl, rfl, o.now rs (.bl _)⟩
    | true => exact op_notin_str pins s σ H _ _ v' u' Q I rv ru ⟨_, _, rfl, rfl, o.now rs (.bl _)⟩
  · exact o.elim
theorem od_inFlat (neg : Bool) : OpD X W (compareOp (if neg then .NotIn else .In)) (inFlat neg) := by
  intro pins s σ H ρ st x y v u v' u' Q I rs rx ry rv ru o
  unfold inFlat at o
  split at o
  · rename_i w ws e1 e2
    rw [Option.bind_eq_some_iff] at e2
    obtain ⟨ys, e3, e4⟩ := e2
    obtain ⟨a, vs, rfl, h1, h2⟩ := seqA_ok rs ry e3
    obtain ⟨rfl, h4⟩ := flatD_ok rx e1
    obtain ⟨rfl, h6⟩ := flatDs_ok h2 e4
    cases neg with
    | false => exact op_in_seq pins s σ H _ _ v' u' Q I rv ru ⟨a, _, rfl, h1, h4, h6, o.now rs (.bl _)⟩
    | true => exact op_notIn_seq pins s σ H _ _ v' u' Q I rv ru ⟨a, _, rfl, h1, h4, h6, o.now rs (.bl _)⟩
  · exact o.elim
theorem dp_in {X : Cx} {E : Value → Shared → Prop} {pins : List (Addr × Obj)} {s : Shared} {σ : L2.St} {H : Hp} {a : Addr} {v : V} {v' : Value} {vs : List V} {d : PyData} {ds : List PyData} {Q : Value → Shared → Prop} (hu : X.A.units + 65 < cLine) (I : Inv X pins σ H s) (h1 : SqL X.K H a vs ∨ SqT X.K H a vs) (h2 : DpAll X.K H vs ds) (hd : Dp X.K H v d) (rv : RelV v v') (sd : SeqAt.shaped d = true) (se : SeqAt.shaped (.list ds) = true)
    (q : Q (.bool (ds.any fun z => PyData.eqv z d)) s) : wpAny (model X.prog X.w) X.A (compareOp .In v' (.ref a)) Q E s := by
  obtain ⟨as, r1⟩ := Dp.reads I d v v' hd rv
  rcases h1 with h1 | h1
  · obtain ⟨bs, r2⟩ := Dp.reads I (.list ds) (.ref a) (.ref a) (.lst h1 h2) rfl
    exact SeqAt.in_list_reads r2 r1 (SeqAt.canLay_of_shaped se) (SeqAt.canLay_of_shaped sd) (PyProof.Rows.room_in_shaped sd hu) q
  · obtain ⟨bs, r2⟩ := Dp.reads I (.tuple ds) (.ref a) (.ref a) (.tup h1 h2) rfl
    exact SeqAt.in_tuple_reads r2 r1 (SeqAt.canLay_of_shaped se) (SeqAt.canLay_of_shaped sd) (PyProof.Rows.room_in_shaped sd hu) q
theorem dp_notIn {X : Cx} {E : Value → Shared → Prop} {pins : List (Addr × Obj)} {s : Shared} {σ : L2.St} {H : Hp} {a : Addr} {v : V} {v' : Value} {vs : List V} {d : PyData} {ds : List PyData} {Q : Value → Shared → Prop} (hu : X.A.units + 65 < cLine) (I : Inv X pins σ H s) (h1 : SqL X.K H a vs ∨ SqT X.K H a vs) (h2 : DpAll X.K H vs ds) (hd : Dp X.K H v d) (rv : RelV v v') (sd : SeqAt.shaped d = true) (se : SeqAt.shaped (.list ds) = true)
    (q : Q (.bool (!ds.any fun z => PyData.eqv z d)) s) : wpAny (model X.prog X.w) X.A (compareOp .NotIn v' (.ref a)) Q E s := by
  obtain ⟨as, r1⟩ := Dp.reads I d v v' hd rv
  rcases h1 with h1 | h1
  · obtain ⟨bs, r2⟩ := Dp.reads I (.list ds) (.ref a) (.ref a) (.lst h1 h2) rfl
    exact SeqAt.notIn_list_reads r2 r1 (SeqAt.canLay_of_shaped se) (SeqAt.canLay_of_shaped sd) (PyProof.Rows.room_in_shaped sd hu) q
  · obtain ⟨bs, r2⟩ := Dp.reads I (.tuple ds) (.ref a) (.ref a) (.tup h1 h2) rfl
    exact SeqAt.notIn_tuple_reads r2 r1 (SeqAt.canLay_of_shaped se) (SeqAt.canLay_of_shaped sd) (PyProof.Rows.room_in_shaped sd hu) q
theorem od_inDeep (hu : X.A.units + 65 < cLine) (neg : Bool) : OpD X W (compareOp (if neg then .NotIn else .In)) (inDeep neg) := by
  intro pins s σ H ρ st x y v u v' u' Q I rs rx ry rv ru o
  unfold inDeep at o
  split at o
  · rename_i d ds e1 e2
    split at o
    · rename_i h
      rw [Bool.and_eq_true] at h
      rw [Option.bind_eq_some_iff] at e2
      obtain ⟨ys, e3, e4⟩ := e2
      obtain ⟨a, vs, rfl, h1, h2⟩ := seqA_ok rs ry e3
      have hd := toPS_ok rs rx e1
      obtain rfl : u' = Value.ref a := ru
      cases neg with
      | false => exact dp_in hu I h1 (toPs_ok h2 e4) hd rv h.1 h.2 ⟨.bl _, H, I, rfl, o.now rs (.bl _)⟩
      | true => exact dp_notIn hu I h1 (toPs_ok h2 e4) hd rv h.1 h.2 ⟨.bl _, H, I, rfl, o.now rs (.bl _)⟩
    · exact o.elim
  · exact o.elim
theorem od_inDct (hu : X.A.units + 65 < cLine) (neg : Bool) : OpD X W (compareOp (if neg then .NotIn else .In)) (inDct neg) := by
  intro pins s σ H ρ st x y v u v' u' Q I rs rx ry rv ru o
  unfold inDct at o
  split at o
  · split at o
    · rename_i kvs e2
      obtain ⟨a, vvs, rfl, h1, h2, h3⟩ := dctO_ok rs ry e2
      cases rx
      obtain rfl : v' = Value.none := rv
      cases ru
      cases neg with
      | false => exact d_inNone I (.inl h1) fun s' I' => ⟨.bl _, H, I', rfl, o.now rs (.bl _)⟩
      | true => exact d_notInNone I (.inl h1) fun s' I' => ⟨.bl _, H, I', rfl, o.now rs (.bl _)⟩
    · exact o.elim
  split at o
  · rename_i k kvs e1 e2
    obtain ⟨a, vvs, rfl, h1, h2, h3⟩ := dctO_ok rs ry e2
    have hk := keyD_ok rx e1
    subst hk
    have hs : (valV vvs k).isSome = (getK kvs k).isSome := by
      rcases getK_ok k h2 h3 with ⟨g1, g2⟩ | ⟨d, w, g1, g2, _⟩ <;> simp [g1, g2]
    cases ru
    cases neg with
    | false => exact d_in (by omega) I (DGet.k h1) rv fun s' I' => ⟨.bl _, H, I', rfl, by rw [hs]; exact o.now rs (.bl _)⟩
    | true => exact d_notIn (by omega) I (DGet.k h1) rv fun s' I' => ⟨.bl _, H, I', rfl, by rw [hs]; exact o.now rs (.bl _)⟩
  · exact o.elim
theorem od_inn (hu : X.A.units + 65 < cLine) (neg : Bool) : OpD X W (compareOp (if neg then .NotIn else .In)) (inD neg) := by
  intro pins s σ H ρ st x y v u v' u' Q I rs rx ry rv ru o
  rcases inD_cases neg x y st with e | e | e | e <;> rw [e] at o
  · exact od_inStr neg pins s σ H ρ st x y v u v' u' Q I rs rx ry rv ru o
  · exact od_inDct hu neg pins s σ H ρ st x y v u v' u' Q I rs rx ry rv ru o
  · exact od_inFlat neg pins s σ H ρ st x y v u v' u' Q I rs rx ry rv ru o
  · exact od_inDeep hu neg pins s σ H ρ st x y v u v' u' Q I rs rx ry rv ru o
def strB (f : List Nat → List Nat → Bool) : D → D → Store → Res D := fun x y st => match x, y with
  | .str i, .str j => .ok (.bl (f i.cps.toList j.cps.toList)) st
  | _, _ => .stuck
def nnB : PyData → Bool
  | .none => false
  | _ => true
/-- tuples, one after the other -/
def lexD (f : PyData → PyData → Bool) : D → D → Store → Res D := fun x y st => match toPS st x, toPS st y with
  | some p, some q => if PySem.W.alike p q && nnB p && decide (p.depth ≤ 60) then .ok (.bl (f p q)) st else .stuck
  | _, _ => .stuck
theorem od_ord {f : PyData → PyData → Bool} {op : CmpOp} (h : ∀ {A : Around} {E : Value → Shared → Prop} {s : Shared} {a b : Value} {da db : PyData} {as bs : List Addr} {Q : Value → Shared → Prop}, Reads s.heap a da as → Reads s.heap b db bs → PySem.W.alike da db = true → da ≠ .none → A.units + min da.depth db.depth < cLine → Q (.bool (f da db)) s → wpAny (model X.prog X.w) A (compareOp op a b) Q E s)
    (hu : X.A.units + 65 < cLine) : OpD X W (compareOp op) (lexD f) := by
  intro pins s σ H ρ st x y v u v' u' Q I rs rx ry rv ru o
  unfold lexD at o
  split at o
  · rename_i p q e1 e2
    split at o
    · rename_i hh
      simp only [Bool.and_eq_true, decide_eq_true_eq] at hh
      obtain ⟨as, r1⟩ := Dp.reads I p v v' (toPS_ok rs rx e1) rv
      obtain ⟨bs, r2⟩ := Dp.reads I q u u' (toPS_ok rs ry e2) ru
      exact h r1 r2 hh.1.1 (fun z => by rw [z] at hh; cases hh.1.2) (by omega) ⟨.bl _, H, I, rfl, o.now rs (.bl _)⟩
    · exact o.elim
  · exact o.elim
theorem od_ordLt (hu : X.A.units + 65 < cLine) : OpD X W (compareOp .Lt) (lexD PySem.W.dataLt) := od_ord (fun a b c d e f => PySem.W.lt_data a b c d e f) hu
theorem od_ordLe (hu : X.A.units + 65 < cLine) : OpD X W (compareOp .LtE) (lexD fun a b => !PySem.W.dataLt b a) := od_ord (f := fun a b => !PySem.W.dataLt b a) (fun a b c d e f => PySem.W.le_data a b c d e f) hu
theorem od_ordGt (hu : X.A.units + 65 < cLine) : OpD X W (compareOp .Gt) (lexD fun a b => PySem.W.dataLt b a) := od_ord (f := fun a b => PySem.W.dataLt b a) (fun a b c d e f => PySem.W.gt_data a b c d e f) hu
theorem od_ordGe (hu : X.A.units + 65 < cLine) : OpD X W (compareOp .GtE) (lexD fun a b => !PySem.W.dataLt a b) := od_ord (f := fun a b => !PySem.W.dataLt a b) (fun a b c d e f => PySem.W.ge_data a b c d e f) hu
def ltD2 (x y : D) (st : Store) : Res D := match x with
  | .tup _ => lexD PySem.W.dataLt x y st
  | _ => ltD x y st
theorem od_lt2 (hu : X.A.units + 65 < cLine) : OpD X W (compareOp .Lt) ltD2 :=
  OpD.or (od_ordLt hu) od_lt fun x y st => by
    cases x <;> first | exact .inr (.inl rfl) | exact .inr (.inr rfl)
def leD (x y : D) (st : Store) : Res D := match x with
  | .str _ => strB (fun a b => !decide (b < a)) x y st
  | _ => opI0D (fun i j => .bl (decide (i ≤ j))) x y st
def gtD (x y : D) (st : Store) : Res D := match x with
  | .str _ => strB (fun a b => decide (b < a)) x y st
  | _ => opI0D (fun i j => .bl (decide (j < i))) x y st
def geD (x y : D) (st : Store) : Res D := match x with
  | .str _ => strB (fun a b => !decide (a < b)) x y st
  | _ => opI0D (fun i j => .bl (decide (j ≤ i))) x y st
theorem od_strB {f : List Nat → List Nat → Bool} {op : CmpOp} (h : OpR X (compareOp op) (fun x y H Q => ∃ i j, x = .str i ∧ y = .str j ∧ Q (.bl (f i.cps.toList j.cps.toList)) H)) : OpD X W (compareOp op) (strB f) :=
  OpD.by h fun ρ H σ st x y v u Q rs rx ry o => by
    unfold strB at o
    split at o
    · cases rx; cases ry; exact ⟨_, _, rfl, rfl, o.now rs (.bl _)⟩
    · exact o.elim
theorem od_le : OpD X W (compareOp .LtE) leD :=
  OpD.or (od_strB (f := fun a b => !decide (b < a)) op_le_str) (od_int0 op_le fun i j ρ H => .bl _) fun x y st => by
    cases x <;> first | exact .inr (.inl rfl) | exact .inr (.inr rfl)
theorem od_gt : OpD X W (compareOp .Gt) gtD :=
  OpD.or (od_strB (f := fun a b => decide (b < a)) op_gt_str) (od_int0 op_gt fun i j ρ H => .bl _) fun x y st => by
    cases x <;> first | exact .inr (.inl rfl) | exact .inr (.inr rfl)
theorem od_ge : OpD X W (compareOp .GtE) geD :=
  OpD.or (od_strB (f := fun a b => !decide (a < b)) op_ge_str) (od_int0 op_ge fun i j ρ H => .bl _) fun x y st => by
    cases x <;> first | exact .inr (.inl rfl) | exact .inr (.inr rfl)
/-! is, is not -/
def isBl (neg : Bool) : D → D → Store → Res D := fun x y st => match x, y with
  | .bl a, .bl b => .ok (.bl (if neg then !decide (a = b) else decide (a = b))) st
  | _, _ => .stuck
def isTyD (neg : Bool) : D → D → Store → Res D := fun x y st => match x, y with
  | .ty a, .ty b => .ok (.bl (if neg then !decide (a = b) else decide (a = b))) st
  | _, _ => .stuck
def isD (neg : Bool) (x y : D) (st : Store) : Res D := match y with
  | .bl _ => isBl neg x y st
  | .ty _ => isTyD neg x y st
  | _ => isN neg x y st
theorem isD_cases (neg : Bool) (x y : D) (st : Store) : isD neg x y st = isBl neg x y st ∨ isD neg x y st = isTyD neg x y st ∨ isD neg x y st = isN neg x y st := by
  cases y <;> first | exact .inl rfl | exact .inr (.inl rfl) | exact .inr (.inr rfl)
theorem od_isBl : OpD X W (compareOp .Is) (isBl false) := OpD.by op_is_bl fun ρ H σ st x y v u Q rs rx ry o => by
  unfold isBl at o
  split at o
  · cases rx; cases ry; exact ⟨_, _, rfl, rfl, o.now rs (.bl _)⟩
  · exact o.elim
theorem od_isnotBl : OpD X W (compareOp .IsNot) (isBl true) := OpD.by op_isnot_bl fun ρ H σ st x y v u Q rs rx ry o => by
  unfold isBl at o
  split at o
  · cases rx; cases ry; exact ⟨_, _, rfl, rfl, o.now rs (.bl _)⟩
  · exact o.elim
theorem od_isTy : OpD X W (compareOp .Is) (isTyD false) := OpD.by op_isTy fun ρ H σ st x y v u Q rs rx ry o => by
  unfold isTyD at o
  split at o
  · cases rx; cases ry; exact ⟨_, _, rfl, rfl, o.now rs (.bl _)⟩
  · exact o.elim
theorem od_isnotTy : OpD X W (compareOp .IsNot) (isTyD true) := OpD.by op_isNotTy fun ρ H σ st x y v u Q rs rx ry o => by
  unfold isTyD at o
  split at o
  · cases rx; cases ry; exact ⟨_, _, rfl, rfl, o.now rs (.bl _)⟩
  · exact o.elim
theorem od_isD : OpD X W (compareOp .Is) (isD false) := by
  intro pins s σ H ρ st x y v u v' u' Q I rs rx ry rv ru o
  rcases isD_cases false x y st with e | e | e <;> rw [e] at o
  · exact od_isBl pins s σ H ρ st x y v u v' u' Q I rs rx ry rv ru o
  · exact od_isTy pins s σ H ρ st x y v u v' u' Q I rs rx ry rv ru o
  · exact od_is pins s σ H ρ st x y v u v' u' Q I rs rx ry rv ru o
theorem od_isnotD : OpD X W (compareOp .IsNot) (isD true) := by
  intro pins s σ H ρ st x y v u v' u' Q I rs rx ry rv ru o
  rcases isD_cases true x y st with e | e | e <;> rw [e] at o
  · exact od_isnotBl pins s σ H ρ st x y v u v' u' Q I rs rx ry rv ru o
  · exact od_isnotTy pins s σ H ρ st x y v u v' u' Q I rs rx ry rv ru o
  · exact od_isnot pins s σ H ρ st x y v u v' u' Q I rs rx ry rv ru o
def leD2 (x y : D) (st : Store) : Res D := match x with
  | .tup _ => lexD (fun a b => !PySem.W.dataLt b a) x y st
  | _ => leD x y st
theorem od_le2 (hu : X.A.units + 65 < cLine) : OpD X W (compareOp .LtE) leD2 :=
  OpD.or (od_ordLe hu) od_le fun x y st => by
    cases x <;> first | exact .inr (.inl rfl) | exact .inr (.inr rfl)
def gtD2 (x y : D) (st : Store) : Res D := match x with
  | .tup _ => lexD (fun a b => PySem.W.dataLt b a) x y st
  | _ => gtD x y st
theorem od_gt2 (hu : X.A.units + 65 < cLine) : OpD X W (compareOp .Gt) gtD2 :=
  OpD.or (od_ordGt hu) od_gt fun x y st => by
    cases x <;> first | exact .inr (.inl rfl) | exact .inr (.inr rfl)
def geD2 (x y : D) (st : Store) : Res D := match x with
  | .tup _ => lexD (fun a b => !PySem.W.dataLt a b) x y st
  | _ => geD x y st
theorem od_ge2 (hu : X.A.units + 65 < cLine) : OpD X W (compareOp .GtE) geD2 :=
  OpD.or (od_ordGe hu) od_ge fun x y st => by
    cases x <;> first | exact .inr (.inl rfl) | exact .inr (.inr rfl)
/-- the comparisons -/
def cmpD (op : CmpOp) : D → D → Store → Res D := match op with
  | .Eq => eqD false
  | .NotEq => eqD true
  | .Lt => ltD2
  | .LtE => leD2
  | .Gt => gtD2
  | .GtE => geD2
  | .Is => isD false
  | .IsNot => isD true
  | .In => inD false
  | .NotIn => inD true
theorem od_cmp (hu : X.A.units + 65 < cLine) (op : CmpOp) : OpD X W (compareOp op) (cmpD op) := by
  cases op with
  | Eq => exact od_eq (by omega)
  | NotEq => exact od_ne (by omega)
  | Lt => exact od_lt2 hu
  | LtE => exact od_le2 hu
  | Gt => exact od_gt2 hu
  | GtE => exact od_ge2 hu
  | Is => exact od_isD
  | IsNot => exact od_isnotD
  | In => exact od_inn hu false
  | NotIn => exact od_inn hu true
end
end DL
end
section
/-! DL5: and, or, not, tests, displays, subscripts, slices. -/
namespace DL
open PySem PySem.Spec PyProof.Rows L2
section
variable {X : Cx} {W : WG} {a b c : Expr} {fa fb fc : FF D} {pos : Pos} {rest : List Expr}
/-! and, or, not as values -/
def fandV (fa fb : FF D) : FF D := fun env st => (fa env st).bind fun d st1 => match d with
  | .bl true => fb env st1
  | .bl false => .ok (.bl false) st1
  | _ => .stuck
def forV (fa fb : FF D) : FF D := fun env st => (fa env st).bind fun d st1 => match d with
  | .bl true => .ok (.bl true) st1
  | .bl false => fb env st1
  | _ => .stuck
theorem de_one {op : BoolOp} (h : DE X W a fa) : DE X W (.BoolOp op [a] pos) fa := pe_one h
theorem de_and (ha : DE X W a fa) (hb : DE X W (.BoolOp .And (b :: rest) pos) fb) : DE X W (.BoolOp .And (a :: b :: rest) pos) (fandV fa fb) := by
  refine PE.imp (pe_and ha hb) fun σ H Q h => ?_
  obtain ⟨ρ, env, st, g, o⟩ := h
  refine ⟨ρ, env, st, g, (OutR.bind (R := RelD X.K) o).mono ?_⟩
  rintro v H1 ⟨ρ1, d, st1, -, e1, s1, r1, o1⟩
  split at o1
  · cases r1; exact ⟨true, rfl, ρ1, env, st1, g.ext e1 s1, o1⟩
  · cases r1; exact ⟨false, rfl, o1.now s1 (.bl _)⟩
  · exact o1.elim
theorem de_or (ha : DE X W a fa) (hb : DE X W (.BoolOp .Or (b :: rest) pos) fb) : DE X W (.BoolOp .Or (a :: b :: rest) pos) (forV fa fb) := by
  refine PE.imp (pe_or ha hb) fun σ H Q h => ?_
  obtain ⟨ρ, env, st, g, o⟩ := h
  refine ⟨ρ, env, st, g, (OutR.bind (R := RelD X.K) o).mono ?_⟩
  rintro v H1 ⟨ρ1, d, st1, -, e1, s1, r1, o1⟩
  split at o1
  · cases r1; exact ⟨true, rfl, o1.now s1 (.bl _)⟩
  · cases r1; exact ⟨false, rfl, ρ1, env, st1, g.ext e1 s1, o1⟩
  · exact o1.elim
def fnotV (fa : FF D) : FF D := fun env st => (fa env st).bind fun d st1 => match d with
  | .bl k => .ok (.bl (!k)) st1
  | _ => .stuck
theorem de_not (ha : DE X W a fa) : DE X W (.UnaryOp .Not a pos) (fnotV fa) := by
  refine PE.imp (pe_not ha) fun σ H Q h => ?_
  obtain ⟨ρ, env, st, g, o⟩ := h
  refine ⟨ρ, env, st, g, (OutR.bind (R := RelD X.K) o).mono ?_⟩
  rintro v H1 ⟨ρ1, d, st1, -, e1, s1, r1, o1⟩
  split at o1
  · rename_i k
    cases r1; exact ⟨k, rfl, o1.now s1 (.bl _)⟩
  · exact o1.elim
def fneg (fa : FF D) : FF D := fun env st => (fa env st).bind fun d st1 => match d with
  | .int i => .ok (.int (-i)) st1
  | _ => .stuck
theorem de_neg (ha : DE X W a fa) : DE X W (.UnaryOp .USub a pos) (fneg fa) := by
  refine PE.imp (pe_un un_neg ha) fun σ H Q h => ?_
  obtain ⟨ρ, env, st, g, o⟩ := h
  refine ⟨ρ, env, st, g, (OutR.bind (R := RelD X.K) o).mono ?_⟩
  rintro v H1 ⟨ρ1, d, st1, -, e1, s1, r1, o1⟩
  split at o1
  · rename_i i
    cases r1; exact ⟨i, rfl, o1.now s1 (.int _)⟩
  · exact o1.elim
/-! tests -/
def truD (st : Store) (d : D) : Option Bool := match d with
  | .non => some false
  | .bl b => some b
  | .int i => some (i != 0)
  | .str x => if x.length ≤ 16777216 then some ((x.length : Int) != 0) else none
  | .tup xs => some (!xs.isEmpty)
  | d => match seqL st d with
    | some xs => some (!xs.isEmpty)
    | none => (dctO st d).map fun kvs => !kvs.isEmpty
theorem isEmpty_rel {K : PySem.W.Frag} {ρ : Pl} {H : Hp} {xs : List D} {vs : List V} (r : RelDs K ρ H xs vs) : xs.isEmpty = vs.isEmpty := by cases r <;> rfl
theorem truD_ok {K : PySem.W.Frag} {ρ : Pl} {H : Hp} {st : Store} {d : D} {v : V} {k : Bool} (rs : RelSt K ρ H st) (r : RelD K ρ H d v) (e : truD st d = some k) : TruV K v H k := by
  unfold truD at e
  split at e
  · cases r; cases e; rfl
  · cases r; cases e; rfl
  · cases r; cases e; rfl
  · cases r
    split at e
    · rename_i h
      cases e
      exact ⟨line_le h, rfl⟩
    · cases e
  · cases e
    obtain ⟨a, vs, rfl, h1, h2⟩ := tup_ok r
    exact .inr (.inl ⟨vs, h1, by rw [isEmpty_rel h2]⟩)
  · split at e
    · rename_i xs h
      cases e
      obtain ⟨a, vs, rfl, h1, h2⟩ := seqL_ok rs r h
      exact .inl ⟨vs, h1, by rw [isEmpty_rel h2]⟩
    · rw [Option.map_eq_some_iff] at e
      obtain ⟨kvs, e1, rfl⟩ := e
      obtain ⟨a, vvs, rfl, h1, h2, h3⟩ := dctO_ok rs r e1
      refine .inr (.inr ⟨vvs, h1, ?_⟩)
      have := congrArg List.length h2
      cases kvs <;> cases vvs <;> first | rfl | simp at this
def ftru (f : FF D) : FF Bool := fun env st => (f env st).bind fun d st1 => match truD st1 d with
  | some k => .ok k st1
  | none => .stuck
/-- an expression whose test is its value's truth -/
def plainTest : Expr → Bool
  | .UnaryOp .Not _ _ => false
  | .BoolOp _ _ _ => false
  | .IfExp _ _ _ _ => false
  | .Compare _ _ _ _ => false
  | _ => true
theorem isTrue_plainTest {e : Expr} {env : PySem.Env} (h : plainTest e = true) (whole : Sem Value) : isTrue e env whole = (do let v ← whole; standAt e.pos; holding [v] (truthy v)) := by
  cases e with
  | UnaryOp op x p => cases op <;> first | rfl | cases h
  | BoolOp => cases h
  | IfExp => cases h
  | Compare => cases h
  | _ => rfl
theorem dt_tru (ha : DE X W a fa) (h : plainTest a = true) : DT X W a (ftru fa) := by
  refine PT.imp (pt_truth ha (isTrue_plainTest h)) fun σ H Q h => ?_
  obtain ⟨ρ, env, st, g, o⟩ := h
  refine ⟨ρ, env, st, g, (OutR.bind (R := RelD X.K) o).mono ?_⟩
  rintro v H1 ⟨ρ1, d, st1, -, e1, s1, r1, o1⟩
  split at o1
  · rename_i k e
    exact ⟨k, truD_ok s1 r1 e, o1.now s1 rfl⟩
  · exact o1.elim
def fbool (f : FF D) : FF Bool := fun env st => (f env st).bind fun d st1 => match d with
  | .bl k => .ok k st1
  | _ => .stuck
theorem dt_cmp {op : CmpOp} {g : D → D → Store → Res D} (ho : OpD X W (compareOp op) g) (ha : DE X W a fa) (hb : DE X W b fb) (hm : behindInMarks op b = false) : DT X W (.Compare a [op] [b] pos) (fbool (fbin g fa fb)) := by
  refine ⟨fun pins s σ H Q I h => ?_⟩
  obtain ⟨ρ, env, st, gd, o⟩ := h
  refine wpAny_isTrue_Compare1 (thn (bin_walk ho ha hb I ⟨ρ, env, st, gd, OutR.bind (R := RelD X.K) o⟩) fun v s1 h1 => thn h1 fun u s2 h2 => thn h2 fun w' s3 h3 => ?_) hm
  obtain ⟨v3, H3, I3, r3, ρ1, d, st1, -, e1, s1', r1, o1⟩ := h3
  split at o1
  · rename_i k
    cases r1
    cases r3
    exact wpAny_truthy_bool ⟨H3, I3, o1.now s1' rfl⟩
  · exact o1.elim
def fand (ta tb : FF Bool) : FF Bool := fun env st => (ta env st).bind fun k st1 => if k then tb env st1 else .ok false st1
def for_ (ta tb : FF Bool) : FF Bool := fun env st => (ta env st).bind fun k st1 => if k then .ok true st1 else tb env st1
def fnot (ta : FF Bool) : FF Bool := fun env st => (ta env st).bind fun k st1 => .ok (!k) st1
variable {ta tb : FF Bool}
abbrev DW (X : Cx) (W : WG) (e : Expr) (f : FF Bool) : Prop := PW X e (lT X.K W f)
theorem PW.imp {e : Expr} {t t' : TT} (h : PW X e t) (i : ∀ σ H Q, t' σ H Q → t σ H Q) : PW X e t' := ⟨fun wh pins s σ H Q I q => h.run wh pins s σ H Q I (i _ _ _ q)⟩
theorem dw_one {op : BoolOp} (ha : DT X W a ta) : DW X W (.BoolOp op [a] pos) ta := by
  cases op with
  | And => exact pw_and1 ha
  | Or => exact pw_or1 ha
theorem dw_and (ha : DT X W a ta) (hb : DW X W (.BoolOp .And (b :: rest) pos) tb) : DW X W (.BoolOp .And (a :: b :: rest) pos) (fand ta tb) := by
  refine PW.imp (pw_and ha hb) fun σ H Q h => ?_
  obtain ⟨ρ, env, st, g, o⟩ := h
  refine ⟨ρ, env, st, g, (OutR.bind (R := RB) o).mono ?_⟩
  rintro v H1 ⟨ρ1, d, st1, -, e1, s1, r1, o1⟩
  cases r1
  split at o1
  · rename_i h; subst h; exact ⟨ρ1, env, st1, g.ext e1 s1, o1⟩
  · rename_i h
    rw [if_neg h]
    exact o1.now s1 rfl
theorem dw_or (ha : DT X W a ta) (hb : DW X W (.BoolOp .Or (b :: rest) pos) tb) : DW X W (.BoolOp .Or (a :: b :: rest) pos) (for_ ta tb) := by
  refine PW.imp (pw_or ha hb) fun σ H Q h => ?_
  obtain ⟨ρ, env, st, g, o⟩ := h
  refine ⟨ρ, env, st, g, (OutR.bind (R := RB) o).mono ?_⟩
  rintro v H1 ⟨ρ1, d, st1, -, e1, s1, r1, o1⟩
  cases r1
  split at o1
  · rename_i h
    rw [if_pos h]
    exact o1.now s1 rfl
  · rename_i h
    rw [if_neg h]
    exact ⟨ρ1, env, st1, g.ext e1 s1, o1⟩
theorem dt_not (ha : DT X W a ta) : DT X W (.UnaryOp .Not a pos) (fnot ta) := by
  refine PT.imp (pt_not ha) fun σ H Q h => ?_
  obtain ⟨ρ, env, st, g, o⟩ := h
  refine ⟨ρ, env, st, g, (OutR.bind (R := RB) o).mono ?_⟩
  rintro v H1 ⟨ρ1, d, st1, -, e1, s1, r1, o1⟩
  cases r1
  exact o1.now s1 rfl
def fif {α : Type} (t : FF Bool) (fa fb : FF α) : FF α := fun env st => (t env st).bind fun k st1 => if k then fa env st1 else fb env st1
theorem de_if (hc : DT X W c ta) (ha : DE X W a fa) (hb : DE X W b fb) : DE X W (.IfExp c a b pos) (fif ta fa fb) := by
  refine PE.imp (pe_ifExp hc ha hb) fun σ H Q h => ?_
  obtain ⟨ρ, env, st, g, o⟩ := h
  refine ⟨ρ, env, st, g, (OutR.bind (R := RB) o).mono ?_⟩
  rintro v H1 ⟨ρ1, d, st1, -, e1, s1, r1, o1⟩
  cases r1
  split at o1
  · rename_i h; rw [if_pos h]; exact ⟨ρ1, env, st1, g.ext e1 s1, o1⟩
  · rename_i h; rw [if_neg h]; exact ⟨ρ1, env, st1, g.ext e1 s1, o1⟩
/-- a chain of two comparisons -/
def fchain (g g' : D → D → Store → Res D) (fa fb fc : FF D) : FF D := fun env st => (fa env st).bind fun x st1 => (fb env st1).bind fun y st2 => (g x y st2).bind fun k st3 => match k with
  | .bl true => (fc env st3).bind fun z st4 => g' y z st4
  | .bl false => .ok (.bl false) st3
  | _ => .stuck
theorem chain_walk {op op' : CmpOp} {g g' : D → D → Store → Res D} (ho : OpD X W (compareOp op) g) (ho' : OpD X W (compareOp op') g') (ha : DE X W a fa) (hb : DE X W b fb) (hc : DE X W c fc) {pins : List (Addr × Obj)} {s : Shared} {σ : L2.St} {H : Hp} {Q : VK} (I : Inv X pins σ H s)
    (h : lE X.K W (fchain g g' fa fb fc) σ H Q) : wpAny (model X.prog X.w) X.A (eval a X.env) (fun v s1 => wpAny (model X.prog X.w) X.A (eval b X.env) (fun u s2 => wpAny (model X.prog X.w) X.A (compareOp op v u) (fun d s3 => ∃ k, d = Value.bool k ∧
      if k = true then wpAny (model X.prog X.w) X.A (eval c X.env) (fun z s4 => wpAny (model X.prog X.w) X.A (compareOp op' u z) (EP X pins σ Q) X.xe s4) X.xe s3 else EP X pins σ Q (.bool false) s3) X.xe s2) X.xe s1) X.xe s := by
  obtain ⟨ρ, env, st, gd, o⟩ := h
  refine thn (ha.run pins s σ H _ I ⟨ρ, env, st, gd, OutR.bind (R := RelD X.K) o⟩) ?_
  rintro v' s1 ⟨v, H1, I1, rv, ρ1, d, st1, -, e1, rs1, r1, o1⟩
  refine thn (hb.run pins s1 σ H1 _ I1 ⟨ρ1, env, st1, gd.ext e1 rs1, OutR.bind (R := RelD X.K) o1⟩) ?_
  rintro u' s2 ⟨u, H2, I2, ru, ρ2, e, st2, -, e2, rs2, r2, o2⟩
  refine thn (ho pins s2 σ H2 ρ2 st2 d e v u v' u' _ I2 rs2 (r1.ext e2) r2 rv ru (OutR.bind (R := RelD X.K) o2)) ?_
  rintro w' s3 ⟨w, H3, I3, rw', ρ3, k, st3, -, e3, rs3, r3, o3⟩
  split at o3
  · cases r3; cases rw'
    refine ⟨true, rfl, ?_⟩
    rw [if_pos rfl]
    refine thn (hc.run pins s3 σ H3 _ I3 ⟨ρ3, env, st3, gd.ext (e1.trans (e2.trans e3)) rs3, OutR.bind (R := RelD X.K) o3⟩) ?_
    rintro z' s4 ⟨z, H4, I4, rz, ρ4, f, st4, -, e4, rs4, r4, o4⟩
    exact ho' pins s4 σ H4 ρ4 st4 e f u z u' z' Q I4 rs4 (r2.ext (e3.trans e4)) r4 ru rz o4
  · cases r3; cases rw'
    refine ⟨false, rfl, ?_⟩
    rw [if_neg Bool.false_ne_true]
    exact ⟨.bl false, H3, I3, rfl, o3.now rs3 (.bl _)⟩
  · exact o3.elim
theorem de_chain {op op' : CmpOp} {g g' : D → D → Store → Res D} (ho : OpD X W (compareOp op) g) (ho' : OpD X W (compareOp op') g') (ha : DE X W a fa) (hb : DE X W b fb) (hc : DE X W c fc)
    (hm : lastMarks [op, op'] [b, c] = false) : DE X W (.Compare a [op, op'] [b, c] pos) (fchain g g' fa fb fc) := by
  refine ⟨fun pins s σ H Q I h => ?_⟩
  refine Compare_chain (thn (chain_walk ho ho' ha hb hc I h) fun v s1 h1 => chain_link (thn h1 fun u s2 h2 => thn h2 fun d s3 ⟨k, e, q⟩ => ?_)) hm
  subst e
  refine wpAny_truthy_bool ?_
  cases k with
  | false => rw [if_neg Bool.false_ne_true] at q; exact ite_ff q
  | true => rw [if_pos rfl] at q; exact ite_tt (chain_last q)
theorem dt_chain {op op' : CmpOp} {g g' : D → D → Store → Res D} (ho : OpD X W (compareOp op) g) (ho' : OpD X W (compareOp op') g') (ha : DE X W a fa) (hb : DE X W b fb) (hc : DE X W c fc)
    (hm : lastMarks [op, op'] [b, c] = false) : DT X W (.Compare a [op, op'] [b, c] pos) (fbool (fchain g g' fa fb fc)) := by
  refine ⟨fun pins s σ H Q I h => ?_⟩
  obtain ⟨ρ, env, st, gd, o⟩ := h
  have o' : OutE X.K W ρ H σ (fchain g g' fa fb fc env st) (fun v H' => ∃ k, v = .bl k ∧ Q k H') := by
    refine (OutR.bind (R := RelD X.K) o).mono ?_
    rintro v H1 ⟨ρ1, d, st1, -, e1, s1, r1, o1⟩
    split at o1
    · rename_i k
      cases r1
      exact ⟨k, rfl, o1.now s1 rfl⟩
    · exact o1.elim
  refine isTrue_chain (thn (chain_walk ho ho' ha hb hc I ⟨ρ, env, st, gd, o'⟩) fun v s1 h1 => test_link (thn h1 fun u s2 h2 => thn h2 fun d s3 ⟨k, e, q⟩ => ?_)) hm
  subst e
  refine wpAny_truthy_bool ?_
  cases k with
  | false =>
    rw [if_neg Bool.false_ne_true] at q
    obtain ⟨v, H1, I1, r, k', e', q'⟩ := q
    subst e'
    cases r
    exact ite_ff ⟨H1, I1, q'⟩
  | true =>
    rw [if_pos rfl] at q
    refine ite_tt (test_last (thn q fun z s4 h4 => thn h4 fun y s5 ⟨v, H5, I5, r, k', e', q'⟩ => ?_))
    subst e'
    cases r
    exact wpAny_truthy_bool ⟨H5, I5, q'⟩
end
end DL
end
section
/-! DL6: displays, items. -/
namespace DL
open PySem PySem.Spec PyProof.Rows L2
section
variable {X : Cx} {W : WG} {a b c : Expr} {fa fb fc : FF D} {pos : Pos} {es : List Expr} {fs : FF (List D)}
def ftup (g : FF (List D)) : FF D := fun env st => (g env st).bind fun ds st1 => if ds.length ≤ 16777216 then .ok (.tup ds) st1 else .stuck
theorem de_tup {x1} (h : DA X W es fs) : DE X W (.Tuple es x1 pos) (ftup fs) := by
  refine PE.imp (pe_tupP h) fun σ H Q h => ?_
  obtain ⟨ρ, env, st, g, o⟩ := h
  refine ⟨ρ, env, st, g, (OutR.bind (R := RelDs X.K) o).mono ?_⟩
  rintro vs H1 ⟨ρ1, ds, st1, -, e1, s1, r1, o1⟩
  split at o1
  · rename_i hl
    exact ⟨line_le (by rw [← r1.length]; exact hl), fun p ob np nd => out_tup o1 s1 r1 np nd⟩
  · exact o1.elim
/-- m: the list has a number in the store -/
def flst (m : Bool) (g : FF (List D)) : FF D := fun env st => (g env st).bind fun ds st1 => if ds.length ≤ 16777216 then (if m then .ok (.obj st1.length) (st1 ++ [.lst ds]) else .ok (.lst ds) st1) else .stuck
theorem out_newL {K : PySem.W.Frag} {W : WG} {ρ : Pl} {H : Hp} {σ : L2.St} {st : Store} {Q : VK} {ds : List D} {vs : List V} (m : Bool) (rs : RelSt K ρ H st) (r : RelDs K ρ H ds vs)
    (o : OutE K W ρ H σ (if m then .ok (.obj st.length) (st ++ [.lst ds]) else .ok (.lst ds) st) Q) {p : Addr} (np : H p = none) : Q (.ref p) (upd H p (.lst vs)) := by
  cases m with
  | false => rw [if_neg Bool.false_ne_true] at o; exact out_lst o rs r np
  | true =>
    rw [if_pos rfl] at o
    exact o (ρ.add p) _ _ (Ext.newO rs np) (rs.newO np ⟨vs, upd_same, r.ext (Ext.newO rs np)⟩) (.obj (rs.last _))
theorem de_lst (m : Bool) (h : DA X W es fs) : DE X W (.List es pos) (flst m fs) := by
  refine PE.imp (pe_lst h) fun σ H Q h => ?_
  obtain ⟨ρ, env, st, g, o⟩ := h
  refine ⟨ρ, env, st, g, (OutR.bind (R := RelDs X.K) o).mono ?_⟩
  rintro vs H1 ⟨ρ1, ds, st1, -, e1, s1, r1, o1⟩
  split at o1
  · rename_i hl
    exact ⟨line_le (by rw [← r1.length]; exact hl), fun p np => out_newL m s1 r1 o1 np⟩
  · exact o1.elim
/-! dicts -/
def putKD (kvs : List (Key × D)) (k : Key) (d : D) : List (Key × D) :=
  if (kvs.any fun kv => decide (kv.1 = k)) = true then kvs.map (fun kv => if kv.1 = k then (kv.1, d) else kv) else kvs ++ [(k, d)]
def mergeD (kvs more : List (Key × D)) : List (Key × D) := more.foldl (fun acc kv => putKD acc kv.1 kv.2) kvs
/-- pairs of a dict as they stand -/
def RelKV (K : PySem.W.Frag) (ρ : Pl) (H : Hp) (kvs : List (Key × D)) (vvs : List (Key × V)) : Prop := vvs.map (·.1) = kvs.map (·.1) ∧ RelDs K ρ H (kvs.map (·.2)) (vvs.map (·.2))
section
variable {K : PySem.W.Frag} {ρ ρ' : Pl} {H H' : Hp}
theorem RelKV.nil : RelKV K ρ H [] [] := ⟨rfl, .nil⟩
theorem RelKV.ext (e : Ext ρ H ρ' H') {kvs : List (Key × D)} {vvs : List (Key × V)} (r : RelKV K ρ H kvs vvs) : RelKV K ρ' H' kvs vvs := ⟨r.1, r.2.ext e⟩
theorem RelKV.ind {motive : List (Key × D) → List (Key × V) → Prop} (h0 : motive [] []) (h1 : ∀ k d v kvs vvs, RelD K ρ H d v → RelKV K ρ H kvs vvs → motive kvs vvs → motive ((k, d) :: kvs) ((k, v) :: vvs)) :
    ∀ {kvs : List (Key × D)} {vvs : List (Key × V)}, RelKV K ρ H kvs vvs → motive kvs vvs
  | [], [], _ => h0
  | [], _ :: _, e => by cases e.1
  | _ :: _, [], e => by cases e.1
  | (a, d) :: r, (b, v) :: s, e => by
    obtain ⟨e1, e2⟩ := e
    simp only [List.map_cons, List.cons.injEq] at e1
    simp only [List.map_cons] at e2
    obtain ⟨rfl, e3⟩ := e1
    cases e2 with
    | cons q1 q2 => exact h1 b d v r s q1 ⟨e3, q2⟩ (RelKV.ind h0 h1 (⟨e3, q2⟩ : RelKV K ρ H r s))
theorem RelKV.any {kvs : List (Key × D)} {vvs : List (Key × V)} (r : RelKV K ρ H kvs vvs) (k : Key) : (vvs.any fun kv => decide (kv.1 = k)) = kvs.any fun kv => decide (kv.1 = k) := by
  have h1 : ∀ l : List (Key × D), (l.any fun kv => decide (kv.1 = k)) = (l.map (·.1)).any fun x => decide (x = k) := fun l => by rw [List.any_map]; rfl
  have h2 : ∀ l : List (Key × V), (l.any fun kv => decide (kv.1 = k)) = (l.map (·.1)).any fun x => decide (x = k) := fun l => by rw [List.any_map]; rfl
  rw [h1, h2, r.1]
theorem RelKV.cons {k : Key} {d : D} {v : V} {kvs : List (Key × D)} {vvs : List (Key × V)} (q : RelD K ρ H d v) (r : RelKV K ρ H kvs vvs) : RelKV K ρ H ((k, d) :: kvs) ((k, v) :: vvs) :=
  ⟨by simp [r.1], by simp only [List.map_cons]; exact .cons q r.2⟩
theorem RelKV.append {kvs es : List (Key × D)} {vvs us : List (Key × V)} (r : RelKV K ρ H kvs vvs) (s : RelKV K ρ H es us) : RelKV K ρ H (kvs ++ es) (vvs ++ us) :=
  ⟨by simp only [List.map_append]; rw [r.1, s.1], by simp only [List.map_append]; exact r.2.append s.2⟩
theorem RelKV.put {kvs : List (Key × D)} {vvs : List (Key × V)} {d : D} {v : V} (r : RelKV K ρ H kvs vvs) (k : Key) (q : RelD K ρ H d v) : RelKV K ρ H (putKD kvs k d) (putK vvs k v) := by
  unfold putKD putK
  rw [r.any k]
  split
  · refine RelKV.ind (K := K) (ρ := ρ) (H := H) (motive := fun kvs vvs => RelKV K ρ H (kvs.map fun kv => if kv.1 = k then (kv.1, d) else kv) (vvs.map fun kv => if kv.1 = k then (kv.1, v) else kv)) .nil ?_ r
    intro j e u kvs vvs h1 _ ih
    simp only [List.map_cons]
    by_cases hj : j = k
    · rw [if_pos hj, if_pos hj]; exact ih.cons q
    · rw [if_neg hj, if_neg hj]; exact ih.cons h1
  · exact r.append (RelKV.nil.cons q)
theorem RelKV.merge : ∀ {more : List (Key × D)} {us : List (Key × V)} {kvs : List (Key × D)} {vvs : List (Key × V)}, RelKV K ρ H more us → RelKV K ρ H kvs vvs → RelKV K ρ H (mergeD kvs more) (mergeK vvs us) := by
  intro more us kvs vvs m
  refine RelKV.ind (K := K) (ρ := ρ) (H := H) (motive := fun more us => ∀ kvs vvs, RelKV K ρ H kvs vvs → RelKV K ρ H (mergeD kvs more) (mergeK vvs us)) (fun _ _ h => h) ?_ m kvs vvs
  intro k d v kvs' vvs' h1 _ ih kvs vvs h
  exact ih _ _ (h.put k h1)
end
def fpairs : List (FF D × FF D) → FF (List (D × D))
  | [] => fun _ st => .ok [] st
  | (fk, fv) :: r => fun env st => (fk env st).bind fun k st1 => (fv env st1).bind fun v st2 => (fpairs r env st2).bind fun ps st3 => .ok ((k, v) :: ps) st3
def RelPs (K : PySem.W.Frag) (ρ : Pl) (H : Hp) (ps : List (D × D)) (qs : List (V × V)) : Prop := RelDs K ρ H (ps.map (·.1)) (qs.map (·.1)) ∧ RelDs K ρ H (ps.map (·.2)) (qs.map (·.2))
theorem pairs_walk {K : PySem.W.Frag} : ∀ {trs : List (FF D × FF D)} {ρ : Pl} {H : Hp} {env : Env'} {σ : L2.St} {st : Store} {Q : List (V × V) → Hp → Prop}, Good K W ρ H env σ st → OutR (RelPs K) K W ρ H σ (fpairs trs env st) Q →
    tPairs (trs.map fun p => (lE K W p.1, lE K W p.2)) σ H Q
  | [], ρ, H, env, σ, st, Q, g, o => o.now g.st ⟨.nil, .nil⟩
  | (fk, fv) :: r, ρ, H, env, σ, st, Q, g, o => by
    refine ⟨ρ, env, st, g, (OutR.bind (R := RelD K) o).mono ?_⟩
    rintro v H1 ⟨ρ1, d, st1, -, e1, s1, r1, o1⟩
    refine ⟨ρ1, env, st1, g.ext e1 s1, (OutR.bind (R := RelD K) o1).mono ?_⟩
    rintro u H2 ⟨ρ2, e, st2, -, e2, s2, r2, o2⟩
    refine pairs_walk (g.ext (e1.trans e2) s2) ((OutR.bind (R := RelPs K) o2).mono ?_)
    rintro qs H3 ⟨ρ3, ps, st3, -, e3, s3, r3, o3⟩
    exact o3.now s3 ⟨.cons (r1.ext (e2.trans e3)) r3.1, .cons (r2.ext e3) r3.2⟩
def keysOf : List (D × D) → Option (List (Key × D))
  | [] => some []
  | (k, d) :: r => match keyD k, keysOf r with
    | some x, some l => some ((x, d) :: l)
    | _, _ => none
theorem keysOf_ok {K : PySem.W.Frag} {ρ : Pl} {H : Hp} : ∀ {ps : List (D × D)} {qs : List (V × V)} {kvs : List (Key × D)}, RelPs K ρ H ps qs → keysOf ps = some kvs → ∃ vvs : List (Key × V), qs = vvs.map (fun kv => (kV kv.1, kv.2)) ∧ RelKV K ρ H kvs vvs ∧ vvs.length = kvs.length
  | [], [], _, _, e => by cases e; exact ⟨[], rfl, .nil, rfl⟩
  | [], _ :: _, _, r, _ => by cases r.1
  | _ :: _, [], _, r, _ => by cases r.1
  | (k, d) :: r, (x, y) :: s, kvs, q, e => by
    obtain ⟨q1, q2⟩ := q
    simp only [List.map_cons] at q1 q2
    cases q1 with
    | cons a1 a2 =>
      cases q2 with
      | cons b1 b2 =>
        simp only [keysOf] at e
        split at e
        · rename_i z l e1 e2
          cases e
          obtain ⟨vvs, h1, h2, h3⟩ := keysOf_ok ⟨a2, b2⟩ e2
          have hk := keyD_ok a1 e1
          subst hk
          exact ⟨(z, y) :: vvs, by simp [h1], h2.cons b1, by simp [h3]⟩
        · cases e
def fdict (trs : List (FF D × FF D)) : FF D := fun env st => (fpairs trs env (st ++ [.dk []])).bind fun ps st1 => match st1[st.length]?, keysOf ps with
  | some (.dk []), some kvs => if kvs.length ≤ 15 then .ok (.obj st.length) (st1.set st.length (.dk (mergeD [] kvs))) else .stuck
  | _, _ => .stuck
theorem de_dict {keys : List (Option Expr)} {values : List Expr} {trs : List (FF D × FF D)} (h : PPs X pos keys values (trs.map fun p => (lE X.K W p.1, lE X.K W p.2))) (hall : keys.all (·.isSome) = true) (hl : keys.length = values.length) (h0 : keys ≠ [])
    (h15 : keys.length ≤ 15) : DE X W (.Dict keys values pos) (fdict trs) := by
  refine PE.imp (pe_disp h hall hl h0 h15) fun σ H Q h => ?_
  obtain ⟨ρ, env, st, g, o⟩ := h
  intro p np
  have e0 : Ext ρ H (ρ.add p) (upd H p (.dK [])) := Ext.newO g.st np
  have s0 : RelSt X.K (ρ.add p) (upd H p (.dK [])) (st ++ [.dk []]) := g.st.newO np ⟨[], upd_same, rfl, .nil⟩
  have hp0 : (ρ.add p).r[st.length]? = some p := g.st.last p
  refine pairs_walk (g.ext e0 s0) ((OutR.bind (R := RelPs X.K) (OutR.from_ e0 o)).mono ?_)
  rintro qs H2 ⟨ρ2, ps, st2, -, e2, s2, r2, o2⟩
  split at o2
  · rename_i kvs q1 q2
    have hp2 : ρ2.r[st.length]? = some p := e2.pre _ _ hp0
    obtain ⟨vs, h1, h2, h3⟩ := s2.at_ _ _ _ hp2 q1
    have hv : vs = [] := by simpa using h2
    subst hv
    obtain ⟨vvs, k1, k2, k3⟩ := keysOf_ok r2 q2
    refine ⟨h1, vvs, k1, ?_, ?_⟩
    · split at o2
      · rename_i hl; rw [k3]; exact hl
      · exact o2.elim
    · split at o2
      · have em : Ext ρ2 H2 ρ2 (upd H2 p (.dK (mergeK [] vvs))) := Ext.mut s2 hp2 (fun ob u z => by rw [h1] at z; cases z)
        have km : RelKV X.K ρ2 (upd H2 p (.dK (mergeK [] vvs))) (mergeD [] kvs) (mergeK [] vvs) := RelKV.merge (k2.ext em) .nil
        exact o2 ρ2 _ _ em (s2.set hp2 ⟨_, upd_same, km.1, km.2⟩) (.obj hp2)
      · exact o2.elim
  · exact o2.elim
def fdict0 : FF D := fun _ st => .ok (.obj st.length) (st ++ [.dk []])
theorem de_dict0 : DE X W (.Dict [] [] pos) fdict0 := by
  refine PE.imp pe_dnewK fun σ H Q h => ?_
  obtain ⟨ρ, env, st, g, o⟩ := h
  intro p np
  exact o _ _ _ (Ext.newO g.st np) (g.st.newO np ⟨[], upd_same, rfl, .nil⟩) (.obj (g.st.last _))
/-! items -/
def PlainB : Expr → Bool
  | .Slice _ _ _ _ => false
  | _ => true
def IxD (X : Cx) (W : WG) (g : D → D → Store → Res D) : Prop :=
  ∀ (value slice : Expr) (pins : List (Addr × Obj)) (s : Shared) (σ : L2.St) (H : Hp) (ρ : Pl) (st : Store) (x y : D) (v u : V) (v' u' : Value) (Q : VK), L2.Inv X pins σ H s → RelSt X.K ρ H st → RelD X.K ρ H x v → RelD X.K ρ H y u → RelV v v' → RelV u u' →
    OutE X.K W ρ H σ (g x y st) Q → subscripted slice false v' u' = operate [v', u'] (getItem v' u') → wpAny (model X.prog X.w) X.A (subscriptTail value slice v' u') (EP X pins σ Q) X.xe s
theorem IxD.by {g : D → D → Store → Res D} {r : R2} (ho : IxR X r)
    (i : ∀ (ρ : Pl) (H : Hp) (σ : L2.St) (st : Store) (x y : D) (v u : V) (Q : VK), RelSt X.K ρ H st → RelD X.K ρ H x v → RelD X.K ρ H y u → OutE X.K W ρ H σ (g x y st) Q → r v u H Q) : IxD X W g :=
  fun value slice pins s σ H ρ st x y v u v' u' Q I rs rx ry rv ru o hs => ho value slice pins s σ H v u v' u' Q I rv ru (i ρ H σ st x y v u Q rs rx ry o) hs
theorem de_ix {g : D → D → Store → Res D} (hr : IxD X W g) (ha : DE X W a fa) (hb : DE X W b fb) (hs : PlainIx b) : DE X W (.Subscript a b pos) (fbin g fa fb) := by
  refine ⟨fun pins s σ H Q I h => ?_⟩
  refine Subscript_ ?_
  obtain ⟨ρ, env, st, gd, o⟩ := h
  refine thn (ha.run pins s σ H _ I ⟨ρ, env, st, gd, OutR.bind (R := RelD X.K) o⟩) ?_
  rintro v' s1 ⟨v, H1, I1, rv, ρ1, d, st1, -, e1, rs1, r1, o1⟩
  refine thn (hb.run pins s1 σ H1 _ I1 ⟨ρ1, env, st1, gd.ext e1 rs1, OutR.bind (R := RelD X.K) o1⟩) ?_
  rintro u' s2 ⟨u, H2, I2, ru, ρ2, e, st2, -, e2, rs2, r2, o2⟩
  exact hr a b pins s2 σ H2 ρ2 st2 d e v u v' u' Q I2 rs2 (r1.ext e2) r2 rv ru o2 (hs _ _)
theorem plainIx_of {b : Expr} (h : PlainB b = true) : PlainIx b := by
  intro o i
  cases b <;> first | rfl | cases h
theorem atI_rel {K : PySem.W.Frag} {ρ : Pl} {H : Hp} {xs : List D} {vs : List V} {i : Int} {d : D} (r : RelDs K ρ H xs vs) (e : atI xs i = some d) : ∃ v, atI vs i = some v ∧ RelD K ρ H d v := by
  unfold atI at e ⊢
  rw [← r.length]
  cases h : ixN xs.length i with
  | none => rw [h] at e; cases e
  | some j =>
    rw [h] at e
    exact r.get e
def ixSeq : D → D → Store → Res D := fun x y st => match seqL st x, y with
  | some xs, .int i => match atI xs i with | some d => .ok d st | none => .stuck
  | _, _ => .stuck
def ixTup : D → D → Store → Res D := fun x y st => match x, y with
  | .tup xs, .int i => match atI xs i with | some d => .ok d st | none => .stuck
  | _, _ => .stuck
def ixStr : D → D → Store → Res D := fun x y st => match x, y with
  | .str z, .int i => if z.length ≤ 16777216 then (match atI z.cps.toList i with | some c => .ok (.str ⟨#[c]⟩) st | none => .stuck) else .stuck
  | _, _ => .stuck
def ixDct : D → D → Store → Res D := fun x y st => match dctO st x, keyD y with
  | some kvs, some k => match getK kvs k with | some d => .ok d st | none => .stuck
  | _, _ => .stuck
def ixD (x y : D) (st : Store) : Res D := match x with
  | .str _ => ixStr x y st
  | .tup _ => ixTup x y st
  | _ => match dctO st x with
    | some _ => ixDct x y st
    | none => ixSeq x y st
theorem id_seq : IxD X W ixSeq := IxD.by ix_list fun ρ H σ st x y v u Q rs rx ry o => by
  unfold ixSeq at o
  split at o
  · rename_i xs i e
    split at o
    · rename_i d ed
      obtain ⟨a, vs, rfl, h1, h2⟩ := seqL_ok rs rx e
      cases ry
      obtain ⟨w, h3, h4⟩ := atI_rel h2 ed
      exact ⟨a, vs, i, w, rfl, rfl, h1, h3, o.now rs h4⟩
    · exact o.elim
  · exact o.elim
theorem id_tup : IxD X W ixTup := IxD.by ix_tup fun ρ H σ st x y v u Q rs rx ry o => by
  unfold ixTup at o
  split at o
  · rename_i xs i
    split at o
    · rename_i d ed
      obtain ⟨a, vs, rfl, h1, h2⟩ := tup_ok rx
      cases ry
      obtain ⟨w, h3, h4⟩ := atI_rel h2 ed
      exact ⟨a, vs, i, w, rfl, rfl, h1, h3, o.now rs h4⟩
    · exact o.elim
  · exact o.elim
theorem id_str : IxD X W ixStr := IxD.by ix_str fun ρ H σ st x y v u Q rs rx ry o => by
  unfold ixStr at o
  split at o
  · rename_i z i
    split at o
    · rename_i hl
      split at o
      · rename_i ch ed
        cases rx; cases ry
        exact ⟨z, i, ch, rfl, rfl, line_le hl, ed, o.now rs (.str _)⟩
      · exact o.elim
    · exact o.elim
  · exact o.elim
theorem id_dct (hu : X.A.units + 65 < cLine) : IxD X W ixDct := by
  intro value slice pins s σ H ρ st x y v u v' u' Q I rs rx ry rv ru o hs
  unfold ixDct at o
  split at o
  · rename_i kvs k e1 e2
    split at o
    · rename_i d ed
      obtain ⟨a, vvs, rfl, h1, h2, h3⟩ := dctO_ok rs rx e1
      have hk := keyD_ok ry e2
      subst hk
      rcases getK_ok k h2 h3 with ⟨g1, _⟩ | ⟨d', w, g1, g2, g3⟩
      · rw [g1] at ed; cases ed
      · rw [g1] at ed; cases ed
        cases rv
        have dg : DGet H a (kV k) (some w) := g2 ▸ DGet.k h1
        exact tail_any (dict_typeIs I dg) slot_dict_getitem.lookup (d_getItem (by omega) I dg ru fun w' s' I' r' => ⟨w, H, I', r', o.now rs g3⟩) hs
    · exact o.elim
  · exact o.elim
theorem id_all (hu : X.A.units + 65 < cLine) : IxD X W ixD := by
  intro value slice pins s σ H ρ st x y v u v' u' Q I rs rx ry rv ru o hs
  unfold ixD at o
  split at o
  · exact id_str value slice pins s σ H ρ st _ y v u v' u' Q I rs rx ry rv ru o hs
  · exact id_tup value slice pins s σ H ρ st _ y v u v' u' Q I rs rx ry rv ru o hs
  · split at o
    · exact id_dct hu value slice pins s σ H ρ st x y v u v' u' Q I rs rx ry rv ru o hs
    · exact id_seq value slice pins s σ H ρ st x y v u v' u' Q I rs rx ry rv ru o hs
end
end DL
end
section
/-! DL7: slices; calls of built-ins and their methods by values. -/
namespace DL
open PySem PySem.Spec PyProof.Rows L2
section
variable {X : Cx} {W : WG} {a b c : Expr} {fa fb fc : FF D} {pos : Pos} {es : List Expr} {fs : FF (List D)}
/-! slices -/
abbrev RO : Pl → Hp → Option Int → Option Int → Prop := fun _ _ a b => b = a
def lP (K : PySem.W.Frag) (W : WG) (f : FF (Option Int)) : TO := fun σ H Q => ∃ ρ env st, Good K W ρ H env σ st ∧ OutR RO K W ρ H σ (f env st) Q
abbrev DP (X : Cx) (W : WG) (e : Option Expr) (f : FF (Option Int)) : Prop := PO X e (lP X.K W f)
theorem PO.imp {e : Option Expr} {t t' : TO} (h : PO X e t) (i : ∀ σ H Q, t' σ H Q → t σ H Q) : PO X e t' := ⟨fun pins s σ H Q I q => h.run pins s σ H Q I (i _ _ _ q)⟩
def fpartN : FF (Option Int) := fun _ st => .ok none st
def fpart (f : FF D) : FF (Option Int) := fun env st => (f env st).bind fun d st1 => match d with | .int i => .ok (some i) st1 | _ => .stuck
theorem dp_none : DP X W none fpartN := PO.imp po_none fun σ H Q ⟨ρ, env, st, g, o⟩ => o.now g.st rfl
theorem dp_some (h : DE X W a fa) : DP X W (some a) (fpart fa) := by
  refine PO.imp (po_some h) fun σ H Q h => ?_
  obtain ⟨ρ, env, st, g, o⟩ := h
  refine ⟨ρ, env, st, g, (OutR.bind (R := RelD X.K) o).mono ?_⟩
  rintro v H1 ⟨ρ1, d, st1, -, e1, s1, r1, o1⟩
  split at o1
  · rename_i i
    cases r1
    exact ⟨i, rfl, o1.now s1 rfl⟩
  · exact o1.elim
def cutD (xs : List D) (lo hi : Option Int) : List D := (xs.drop (HT.sIx xs.length 0 lo)).take (HT.sIx xs.length xs.length hi - HT.sIx xs.length 0 lo)
theorem cut_rel {K : PySem.W.Frag} {ρ : Pl} {H : Hp} {xs : List D} {vs : List V} (r : RelDs K ρ H xs vs) (lo hi : Option Int) : RelDs K ρ H (cutD xs lo hi) (cutV vs lo hi) := by
  unfold cutD cutV
  rw [r.length]
  exact (r.drop _).take _
/-- x[lo:hi]; m: a new list has a number -/
def sliceD (m : Bool) (x : D) (lo hi : Option Int) (st : Store) : Res D := match x with
  | .str z => if z.length ≤ 16777216 then .ok (.str (cutS z lo hi)) st else .stuck
  | .tup xs => .ok (.tup (cutD xs lo hi)) st
  | x => match seqL st x with
    | some xs => if m then .ok (.obj st.length) (st ++ [.lst (cutD xs lo hi)]) else .ok (.lst (cutD xs lo hi)) st
    | none => .stuck
def rSlAll (K : PySem.W.Frag) : V → Option Int → Option Int → Hp → VK → Prop := fun x lo hi H Q => rSlS x lo hi H Q ∨ rSlP K x lo hi H Q ∨ rSlL K x lo hi H Q
theorem sl_all : SlR X (rSlAll X.K) := sl_str.or (sl_tupP.or sl_list)
def fslice (m : Bool) (f : FF D) (lo hi : FF (Option Int)) : FF D := fun env st => (f env st).bind fun x st1 => (lo env st1).bind fun l st2 => (hi env st2).bind fun h st3 => sliceD m x l h st3
theorem de_slice {lo hi : Option Expr} {fl fh : FF (Option Int)} {p2 : Pos} (m : Bool) (he : DE X W a fa) (hl : DP X W lo fl) (hh : DP X W hi fh) : DE X W (.Subscript a (.Slice lo hi none p2) pos) (fslice m fa fl fh) := by
  refine PE.imp (pe_slice sl_all he hl hh) fun σ H Q h => ?_
  obtain ⟨ρ, env, st, g, o⟩ := h
  refine ⟨ρ, env, st, g, (OutR.bind (R := RelD X.K) o).mono ?_⟩
  rintro v H1 ⟨ρ1, d, st1, -, e1, s1, r1, o1⟩
  refine ⟨ρ1, env, st1, g.ext e1 s1, (OutR.bind (R := RO) o1).mono ?_⟩
  rintro l H2 ⟨ρ2, l', st2, -, e2, s2, r2, o2⟩
  cases r2
  refine ⟨ρ2, env, st2, g.ext (e1.trans e2) s2, (OutR.bind (R := RO) o2).mono ?_⟩
  rintro h H3 ⟨ρ3, h', st3, -, e3, s3, r3, o3⟩
  cases r3
  have r := r1.ext (e2.trans e3)
  unfold sliceD at o3
  split at o3
  · rename_i z
    cases r
    split at o3
    · rename_i hz
      exact .inl ⟨z, rfl, line_le hz, o3.now s3 (.str _)⟩
    · exact o3.elim
  · rename_i xs
    obtain ⟨p, vs, rfl, h1, h2⟩ := tup_ok r
    refine .inr (.inl ⟨p, vs, rfl, h1, fun hw => ?_, fun hw q ob nq nd => out_tup o3 s3 (cut_rel h2 _ _) nq nd⟩)
    have hc : cutD xs l h = xs := by
      unfold cutD
      rw [h2.length, hw.1, hw.2]
      simp only [List.drop_zero, Nat.sub_zero]
      rw [← h2.length]
      exact List.take_length
    rw [hc] at o3
    exact o3.now s3 r
  · split at o3
    · rename_i xs ex
      obtain ⟨p, vs, rfl, h1, h2⟩ := seqL_ok s3 r ex
      exact .inr (.inr ⟨p, vs, rfl, h1, fun q nq => out_newL m s3 (cut_rel h2 _ _) o3 nq⟩)
    · exact o3.elim
/-! calls by values -/
/-- what a call that raises nothing brings about -/
def rD (K : PySem.W.Frag) (g : List D → Store → Option (D × Store)) : List V → Hp → VK → Prop := fun vs H Q => ∃ ρ st ds, RelSt K ρ H st ∧ RelDs K ρ H ds vs ∧ match g ds st with
  | some (d, st') => ∀ ρ' H' v, Ext ρ H ρ' H' → RelSt K ρ' H' st' → RelD K ρ' H' d v → Q v H'
  | none => False
def ofO {α : Type} : Option (α × Store) → Res α
  | some (d, st) => .ok d st
  | none => .stuck
abbrev CallD (X : Cx) (f : Value) (g : List D → Store → Option (D × Store)) : Prop := CallR X f (rD X.K g)
theorem CallD.by {f : Value} {g : List D → Store → Option (D × Store)} {r : List V → Hp → VK → Prop} (h : CallR X f r)
    (i : ∀ (ρ : Pl) (H : Hp) (st : Store) (ds : List D) (vs : List V) (Q : VK) (d : D) (st' : Store), RelSt X.K ρ H st → RelDs X.K ρ H ds vs → g ds st = some (d, st') →
      (∀ ρ' H' v, Ext ρ H ρ' H' → RelSt X.K ρ' H' st' → RelD X.K ρ' H' d v → Q v H') → r vs H Q) : CallD X f g := by
  intro pins s σ H xs us Q I rx q
  obtain ⟨ρ, st, ds, rs, rd, o⟩ := q
  cases e : g ds st with
  | none => rw [e] at o; exact o.elim
  | some p =>
    obtain ⟨d, st'⟩ := p
    rw [e] at o
    exact h pins s σ H xs us Q I rx (i ρ H st ds xs Q d st' rs rd e o)
theorem CallD.or {f : Value} {g g' k : List D → Store → Option (D × Store)} (h : CallD X f g) (h' : CallD X f g') (hk : ∀ ds st, k ds st = none ∨ k ds st = g ds st ∨ k ds st = g' ds st) : CallD X f k := by
  intro pins s σ H xs us Q I rx q
  obtain ⟨ρ, st, ds, rs, rd, o⟩ := q
  rcases hk ds st with e | e | e
  · rw [e] at o; exact o.elim
  · rw [e] at o; exact h pins s σ H xs us Q I rx ⟨ρ, st, ds, rs, rd, o⟩
  · rw [e] at o; exact h' pins s σ H xs us Q I rx ⟨ρ, st, ds, rs, rd, o⟩
def fcallO (g : List D → Store → Option (D × Store)) (fs : FF (List D)) : FF D := fun env st => (fs env st).bind fun ds st1 => ofO (g ds st1)
theorem tCB_of {g : List D → Store → Option (D × Store)} {σ : L2.St} {H : Hp} {Q : VK} (h : lE X.K W (fcallO g fs) σ H Q) : tCB (rD X.K g) (lA X.K W fs) σ H Q := by
  obtain ⟨ρ, env, st, gd, o⟩ := h
  refine ⟨ρ, env, st, gd, (OutR.bind (R := RelDs X.K) o).mono ?_⟩
  rintro vs H1 ⟨ρ1, ds, st1, -, e1, s1, r1, o1⟩
  refine ⟨ρ1, st1, ds, s1, r1, ?_⟩
  cases e : g ds st1 with
  | none => rw [e] at o1; exact o1.elim
  | some p => rw [e] at o1; exact o1
theorem plain_star : ∀ {es : List Expr} {env : PySem.Env} {pos : Pos}, es.all (fun e => !PySem.W.isStarred e) = true → (backTo pos (starEach es env)).any (·.1) = false
  | [], _, _, _ => rfl
  | e :: es, env, pos, h => by
    rw [List.all_cons, Bool.and_eq_true, Bool.not_eq_true'] at h
    rw [star_plain h.1]
    show (false || (backTo pos (starEach es env)).any (·.1)) = false
    rw [Bool.false_or]
    exact plain_star h.2
theorem de_callB {id : String} {x : Str} {p : Pos} {g : List D → Store → Option (D × Store)} (hc : CallD X (.builtin id) g) (hg : Gl X x) (hm : X.mg x = none) (hv : bootBuiltins x = some (.builtin id)) (ha : DA X W (a :: es) fs) (hn : x ≠ "__name__") (hdb : (x == ("__debug__" : Str)) = false)
    (hst : (a :: es).all (fun e => !PySem.W.isStarred e) = true) : DE X W (.Call (.Name x p) (a :: es) [] pos) (fcallO g fs) := by
  rw [List.all_cons, Bool.and_eq_true, Bool.not_eq_true'] at hst
  exact PE.imp (pe_callB hc hg hm hv ha hn hdb (star_plain hst.1) (plain_star hst.2)) fun σ H Q h => tCB_of h
theorem de_callTy {T : String} {x : Str} {p : Pos} {g : List D → Store → Option (D × Store)} (hc : CallD X (.type T) g) (hg : Gl X x) (hm : X.mg x = none) (hv : bootBuiltins x = some (.type T)) (ha : DA X W (a :: es) fs) (hn : x ≠ "__name__") (hdb : (x == ("__debug__" : Str)) = false)
    (hst : (a :: es).all (fun e => !PySem.W.isStarred e) = true) : DE X W (.Call (.Name x p) (a :: es) [] pos) (fcallO g fs) := by
  rw [List.all_cons, Bool.and_eq_true, Bool.not_eq_true'] at hst
  exact PE.imp (pe_callTy hc hg hm hv ha hn hdb (star_plain hst.1) (plain_star hst.2)) fun σ H Q h => tCB_of h
/-! methods of built-in types -/
def rM (K : PySem.W.Frag) (g : D → List D → Store → Option (D × Store)) : V → List V → Hp → VK → Prop := fun x vs H Q => ∃ ρ st d ds, RelSt K ρ H st ∧ RelD K ρ H d x ∧ RelDs K ρ H ds vs ∧ match g d ds st with
  | some (d, st') => ∀ ρ' H' v, Ext ρ H ρ' H' → RelSt K ρ' H' st' → RelD K ρ' H' d v → Q v H'
  | none => False
abbrev MtD (X : Cx) (id : String) (g : D → List D → Store → Option (D × Store)) : Prop := MtR X id (rM X.K g)
theorem MtD.by {id : String} {g : D → List D → Store → Option (D × Store)} {r : V → List V → Hp → VK → Prop} (h : MtR X id r)
    (i : ∀ (ρ : Pl) (H : Hp) (st : Store) (d : D) (ds : List D) (v : V) (vs : List V) (Q : VK) (e : D) (st' : Store), RelSt X.K ρ H st → RelD X.K ρ H d v → RelDs X.K ρ H ds vs → g d ds st = some (e, st') →
      (∀ ρ' H' v, Ext ρ H ρ' H' → RelSt X.K ρ' H' st' → RelD X.K ρ' H' e v → Q v H') → r v vs H Q) : MtD X id g := by
  intro pins s σ H x xs v us Q I rx rxs q
  obtain ⟨ρ, st, d, ds, rs, rd, rds, o⟩ := q
  cases e : g d ds st with
  | none => rw [e] at o; exact o.elim
  | some p =>
    obtain ⟨d', st'⟩ := p
    rw [e] at o
    exact h pins s σ H x xs v us Q I rx rxs (i ρ H st d ds x xs Q d' st' rs rd rds e o)
/-- the built-in type of a value -/
def tyName (st : Store) (d : D) : Option String := match d with
  | .non => some "NoneType"
  | .bl _ => some "bool"
  | .int _ => some "int"
  | .str _ => some "str"
  | .tup _ => some "tuple"
  | .lst _ => some "list"
  | .scr _ => some "list"
  | .obj n => match st[n]? with
    | some (.lst _) => some "list"
    | some (.dk _) => some "dict"
    | _ => none
  | _ => none
theorem tyName_ok {K : PySem.W.Frag} {ρ : Pl} {H : Hp} {st : Store} {d : D} {v : V} {T : String} (rs : RelSt K ρ H st) (r : RelD K ρ H d v) (e : tyName st d = some T) : TyX K H v (.type T) := by
  cases r with
  | non => cases e; exact .base .non
  | bl b => cases e; exact .base (.bl b)
  | int i => cases e; exact .base (.int i)
  | str x => cases e; exact .base (.str x)
  | ty n => cases e
  | glb x => cases e
  | tup h n t =>
    cases e
    obtain ⟨o, h, _⟩ := h
    exact .fTuple h
  | pr h n t => cases e
  | tupK h _ t =>
    cases e
    rcases h with h | ⟨o, its, n, h1, h2, h3⟩
    · rcases h with h | ⟨o, h⟩ <;> cases h
    · exact .kTuple h1 h2
  | lst h n t => cases e; exact .base (.lst h)
  | scr h n t =>
    cases e
    rcases h with h | ⟨o, h⟩
    · exact .base (.lst h)
    · exact .base (.frz h)
  | scrK h t =>
    cases e
    rcases h with h | ⟨o, its, n, h1, h2, h3⟩
    · rcases h with h | ⟨o, h⟩ <;> cases h
    · exact .kList h1 h2
  | @obj n a h =>
    simp only [tyName] at e
    split at e
    · rename_i xs q
      cases e
      obtain ⟨vs, h1, _⟩ := rs.at_ n a _ h q
      exact .base (.lst h1)
    · rename_i kvs q
      cases e
      obtain ⟨vs, h1, _⟩ := rs.at_ n a _ h q
      exact .base (.dK h1)
    · cases e
/-- isinstance(x, T) -/
def isiD (ds : List D) (st : Store) : Option (D × Store) := match ds with
  | [x, .ty n] => match tyName st x with
    | some t => (kitB t n).map fun b => (.bl b, st)
    | none => none
  | _ => none
theorem RelDs.one {K : PySem.W.Frag} {ρ : Pl} {H : Hp} {d : D} {vs : List V} (r : RelDs K ρ H [d] vs) : ∃ v, vs = [v] ∧ RelD K ρ H d v := by
  cases r with | cons a t => cases t; exact ⟨_, rfl, a⟩
theorem RelDs.two {K : PySem.W.Frag} {ρ : Pl} {H : Hp} {d e : D} {vs : List V} (r : RelDs K ρ H [d, e] vs) : ∃ v u, vs = [v, u] ∧ RelD K ρ H d v ∧ RelD K ρ H e u := by
  cases r with | cons a t => cases t with | cons b t => cases t; exact ⟨_, _, rfl, a, b⟩
theorem cd_isi : CallD X (.builtin "isinstance") isiD := CallD.by call_isi fun ρ H st ds vs Q d st' rs rd e q => by
  unfold isiD at e
  split at e
  · rename_i x n
    obtain ⟨v, u, rfl, r1, r2⟩ := rd.two
    cases r2
    split at e
    · rename_i t et
      rw [Option.map_eq_some_iff] at e
      obtain ⟨k, e1, e2⟩ := e
      cases e2
      exact ⟨v, .ty n, _, _, k, rfl, .ty n, tyName_ok rs r1 et, kit_ty e1, q ρ H _ Ext.refl rs (.bl _)⟩
    · cases e
  · cases e
/-- len(x) -/
def lenD (ds : List D) (st : Store) : Option (D × Store) := match ds with
  | [.str x] => if x.length ≤ 16777216 then some (.int x.length, st) else none
  | [d] => match seqA st d with
    | some xs => some (.int xs.length, st)
    | none => none
  | _ => none
theorem cd_len : CallD X (.builtin "len") lenD := CallD.by call_len fun ρ H st ds vs Q d st' rs rd e q => by
  unfold lenD at e
  split at e
  · rename_i x
    obtain ⟨v, rfl, r1⟩ := rd.one
    cases r1
    split at e
    · rename_i hl
      cases e
      exact ⟨.str x, x.length, rfl, ⟨line_le hl, rfl⟩, q ρ H _ Ext.refl rs (.int _)⟩
    · cases e
  · rename_i x _
    obtain ⟨v, rfl, r1⟩ := rd.one
    split at e
    · rename_i xs ex
      cases e
      obtain ⟨p, ws, rfl, h1, h2⟩ := seqA_ok rs r1 ex
      refine ⟨.ref p, ws.length, rfl, ?_, q ρ H _ Ext.refl rs (by rw [← h2.length]; exact .int _)⟩
      rcases h1 with h1 | h1
      · exact .inl ⟨ws, h1, rfl⟩
      · exact .inr ⟨ws, h1, rfl⟩
    · cases e
  · cases e
def intI (ds : List D) (st : Store) : Option (D × Store) := match ds with
  | [.int i] => some (.int i, st)
  | [.bl k] => some (.int (if k then 1 else 0), st)
  | _ => none
theorem cd_intI : CallD X (.type "int") intI := CallD.by call_int1 fun ρ H st ds vs Q d st' rs rd e q => by
  unfold intI at e
  split at e
  · rename_i i
    cases e
    obtain ⟨v, rfl, r1⟩ := rd.one
    cases r1
    exact .inl ⟨i, rfl, q ρ H _ Ext.refl rs (.int _)⟩
  · rename_i k
    cases e
    obtain ⟨v, rfl, r1⟩ := rd.one
    cases r1
    exact .inr ⟨k, rfl, q ρ H _ Ext.refl rs (.int _)⟩
  · cases e
/-- int(a text of digits) -/
def intS (ds : List D) (st : Store) : Option (D × Store) := match ds with
  | [.str x] => match PySem.intText? x with
    | some n => if x.length ≤ 640 then some (.int n, st) else none
    | none => none
  | _ => none
theorem cd_intS : CallD X (.type "int") intS := CallD.by call_int_str fun ρ H st ds vs Q d st' rs rd e q => by
  unfold intS at e
  split at e
  · rename_i x
    split at e
    · rename_i n hn
      split at e
      · rename_i hl
        cases e
        obtain ⟨v, rfl, r1⟩ := rd.one
        cases r1
        exact ⟨x, n, rfl, hn, hl, q ρ H _ Ext.refl rs (.int _)⟩
      · cases e
    · cases e
  · cases e
/-- int(x) -/
def intD (ds : List D) (st : Store) : Option (D × Store) := match ds with
  | [.str x] => intS [.str x] st
  | _ => intI ds st
theorem intD_or (ds : List D) (st : Store) : intD ds st = intS ds st ∨ intD ds st = intI ds st := by
  unfold intD
  split
  · exact .inl rfl
  · exact .inr rfl
theorem cd_int : CallD X (.type "int") intD := by
  intro pins s σ H xs us Q I rx q
  obtain ⟨ρ, st, ds, rs, rd, q⟩ := q
  rcases intD_or ds st with e | e <;> rw [e] at q
  · exact cd_intS pins s σ H xs us Q I rx ⟨ρ, st, _, rs, rd, q⟩
  · exact cd_intI pins s σ H xs us Q I rx ⟨ρ, st, _, rs, rd, q⟩
def ordD (ds : List D) (st : Store) : Option (D × Store) := match ds with
  | [.str x] => if x.length = 1 then some (.int (x.cps.getD 0 0 : Nat), st) else none
  | _ => none
theorem cd_ord : CallD X (.builtin "ord") ordD := CallD.by call_ord fun ρ H st ds vs Q d st' rs rd e q => by
  unfold ordD at e
  split at e
  · rename_i x
    obtain ⟨v, rfl, r1⟩ := rd.one
    cases r1
    split at e
    · rename_i hl
      cases e
      exact ⟨x, rfl, hl, q ρ H _ Ext.refl rs (.int _)⟩
    · cases e
  · cases e
def strD (ds : List D) (st : Store) : Option (D × Store) := match ds with
  | [.int i] => if i.natAbs.log2 < 1920 then some (.str (toString i), st) else none
  | _ => none
theorem cd_str : CallD X (.type "str") strD := CallD.by call_str_int fun ρ H st ds vs Q d st' rs rd e q => by
  unfold strD at e
  split at e
  · rename_i i
    obtain ⟨v, rfl, r1⟩ := rd.one
    cases r1
    split at e
    · rename_i hl
      cases e
      exact ⟨i, rfl, hl, q ρ H _ Ext.refl rs (.str _)⟩
    · cases e
  · cases e
def min2D (mx : Bool) (ds : List D) (st : Store) : Option (D × Store) := match ds with
  | [.int i, .int j] => some (.int (if mx then (if j > i then j else i) else (if j < i then j else i)), st)
  | _ => none
theorem cd_min2 (hc : X.calm = true) : CallD X (.builtin "min") (min2D false) := CallD.by (call_min2 hc) fun ρ H st ds vs Q d st' rs rd e q => by
  unfold min2D at e
  split at e
  · rename_i i j
    cases e
    obtain ⟨v, u, rfl, r1, r2⟩ := rd.two
    cases r1; cases r2
    exact ⟨i, j, rfl, q ρ H _ Ext.refl rs (.int _)⟩
  · cases e
theorem cd_max2 (hc : X.calm = true) : CallD X (.builtin "max") (min2D true) := CallD.by (call_max2 hc) fun ρ H st ds vs Q d st' rs rd e q => by
  unfold min2D at e
  split at e
  · rename_i i j
    cases e
    obtain ⟨v, u, rfl, r1, r2⟩ := rd.two
    cases r1; cases r2
    exact ⟨i, j, rfl, q ρ H _ Ext.refl rs (.int _)⟩
  · cases e
/-- bools of a list -/
def blsOf : List D → Option (List Bool)
  | [] => some []
  | .bl k :: r => (blsOf r).map (k :: ·)
  | _ => none
theorem blsOf_ok {K : PySem.W.Frag} {ρ : Pl} {H : Hp} : ∀ {ds : List D} {vs : List V} {bs : List Bool}, RelDs K ρ H ds vs → blsOf ds = some bs → vs = bs.map V.bl
  | [], _, _, r, e => by cases r; cases e; rfl
  | d :: ds, _, bs, r, e => by
    cases r with
    | cons r1 r2 =>
      cases r1 with
      | bl k =>
        simp only [blsOf, Option.map_eq_some_iff] at e
        obtain ⟨cs, e1, rfl⟩ := e
        rw [blsOf_ok r2 e1]
        rfl
      | _ => cases e
def allD (any : Bool) (ds : List D) (st : Store) : Option (D × Store) := match ds with
  | [d] => ((seqL st d).bind blsOf).map fun bs => (.bl (if any then bs.any id else bs.all id), st)
  | _ => none
theorem cd_all (hc : X.calm = true) : CallD X (.builtin "all") (allD false) := CallD.by (cr_all hc) fun ρ H st ds vs Q d st' rs rd e q => by
  unfold allD at e
  split at e
  · rename_i x
    rw [Option.map_eq_some_iff] at e
    obtain ⟨bs, e1, e2⟩ := e
    cases e2
    rw [Option.bind_eq_some_iff] at e1
    obtain ⟨xs, e3, e4⟩ := e1
    obtain ⟨v, rfl, r1⟩ := rd.one
    obtain ⟨p, ws, rfl, h1, h2⟩ := seqL_ok rs r1 e3
    have := blsOf_ok h2 e4
    subst this
    exact ⟨p, bs, rfl, h1, q ρ H _ Ext.refl rs (.bl _)⟩
  · cases e
theorem cd_any (hc : X.calm = true) : CallD X (.builtin "any") (allD true) := CallD.by (cr_any hc) fun ρ H st ds vs Q d st' rs rd e q => by
  unfold allD at e
  split at e
  · rename_i x
    rw [Option.map_eq_some_iff] at e
    obtain ⟨bs, e1, e2⟩ := e
    cases e2
    rw [Option.bind_eq_some_iff] at e1
    obtain ⟨xs, e3, e4⟩ := e1
    obtain ⟨v, rfl, r1⟩ := rd.one
    obtain ⟨p, ws, rfl, h1, h2⟩ := seqL_ok rs r1 e3
    have := blsOf_ok h2 e4
    subst this
    exact ⟨p, bs, rfl, h1, q ρ H _ Ext.refl rs (.bl _)⟩
  · cases e
/-- list(x), tuple(x) of a list, a tuple; m: the list has a number -/
def listD (m : Bool) (ds : List D) (st : Store) : Option (D × Store) := match ds with
  | [d] => match seqA st d with
    | some xs => if m then some (.obj st.length, st ++ [.lst xs]) else some (.lst xs, st)
    | none => none
  | _ => none
theorem cd_list (m : Bool) : CallD X (.type "list") (listD m) := CallD.by call_list_of fun ρ H st ds vs Q d st' rs rd e q => by
  unfold listD at e
  split at e
  · rename_i x
    obtain ⟨v, rfl, r1⟩ := rd.one
    split at e
    · rename_i xs ex
      obtain ⟨p, ws, rfl, h1, h2⟩ := seqA_ok rs r1 ex
      refine ⟨p, ws, rfl, h1, fun l hl => ?_⟩
      cases m with
      | false =>
        rw [if_neg Bool.false_ne_true] at e
        cases e
        exact q ρ _ _ (Ext.new rs hl) (rs.new hl) (new_lst rs hl h2)
      | true =>
        rw [if_pos rfl] at e
        cases e
        exact q _ _ _ (Ext.newO rs hl) (rs.newO hl ⟨ws, upd_same, h2.ext (Ext.newO rs hl)⟩) (.obj (rs.last _))
    · cases e
  · cases e
def tupleD (ds : List D) (st : Store) : Option (D × Store) := match ds with
  | [d] => match seqA st d with
    | some xs => some (.tup xs, st)
    | none => none
  | _ => none
theorem cd_tuple : CallD X (.type "tuple") tupleD := CallD.by call_tupleP fun ρ H st ds vs Q d st' rs rd e q => by
  unfold tupleD at e
  split at e
  · rename_i x
    obtain ⟨v, rfl, r1⟩ := rd.one
    split at e
    · rename_i xs ex
      cases e
      cases x with
      | tup ys =>
        obtain ⟨p, ws, rfl, h1, h2⟩ := tup_ok r1
        cases ex
        exact ⟨p, ws, rfl, .inr ⟨h1, q ρ H _ Ext.refl rs r1⟩⟩
      | _ =>
        obtain ⟨p, ws, rfl, h1, h2⟩ := seqL_ok rs r1 ex
        exact ⟨p, ws, rfl, .inl ⟨h1, fun l ob hl hd => q ρ _ _ (Ext.new rs hl) (rs.new hl) (new_tup rs hl hd h2)⟩⟩
    · cases e
  · cases e
/-- sum of a list of whole numbers -/
def intsOf : List D → Option (List Int)
  | [] => some []
  | .int i :: r => (intsOf r).map (i :: ·)
  | _ => none
theorem intsOf_ok {K : PySem.W.Frag} {ρ : Pl} {H : Hp} : ∀ {ds : List D} {vs : List V} {bs : List Int}, RelDs K ρ H ds vs → intsOf ds = some bs → vs = bs.map V.int
  | [], _, _, r, e => by cases r; cases e; rfl
  | d :: ds, _, bs, r, e => by
    cases r with
    | cons r1 r2 =>
      cases r1 with
      | int k =>
        simp only [intsOf, Option.map_eq_some_iff] at e
        obtain ⟨cs, e1, rfl⟩ := e
        rw [intsOf_ok r2 e1]
        rfl
      | _ => cases e
def sumD (ds : List D) (st : Store) : Option (D × Store) := match ds with
  | [d] => ((seqL st d).bind intsOf).map fun ns => (.int ns.sum, st)
  | _ => none
theorem cd_sum (hc : X.calm = true) : CallD X (.builtin "sum") sumD := CallD.by (cr_sum hc) fun ρ H st ds vs Q d st' rs rd e q => by
  unfold sumD at e
  split at e
  · rename_i x
    rw [Option.map_eq_some_iff] at e
    obtain ⟨bs, e1, e2⟩ := e
    cases e2
    rw [Option.bind_eq_some_iff] at e1
    obtain ⟨xs, e3, e4⟩ := e1
    obtain ⟨v, rfl, r1⟩ := rd.one
    obtain ⟨p, ws, rfl, h1, h2⟩ := seqL_ok rs r1 e3
    have := intsOf_ok h2 e4
    subst this
    exact ⟨p, bs, rfl, h1, q ρ H _ Ext.refl rs (.int _)⟩
  · cases e
end
end DL
end
section
/-! DL8: repr; methods of lists, dicts, texts. -/
namespace DL
open PySem PySem.Spec PyProof.Rows L2
section
variable {X : Cx} {W : WG} {a b c o : Expr} {fa fb fc fo : FF D} {pos apos cpos : Pos} {es : List Expr} {fs : FF (List D)}
/-! repr -/
def reprD (ds : List D) (st : Store) : Option (D × Store) := match ds with
  | [d] => match toPS st d with
    | some p => if p.showable && SeqAt.shaped p && decide (p.shown.length ≤ 16777216) then some (.str p.shown, st) else none
    | none => none
  | _ => none
theorem cd_repr (hg : X.A.guards = some []) (hu : X.A.units + 80 < cLine) : CallD X (.builtin "repr") reprD := by
  intro pins s σ H xs us Q I rx q
  obtain ⟨ρ, st, ds, rs, rd, q⟩ := q
  unfold reprD at q
  split at q
  · rename_i d e
    skip
    split at e
    · rename_i x
      split at e
      · rename_i p hp
        split at e
        · rename_i hc
          cases e
          rw [Bool.and_eq_true, Bool.and_eq_true] at hc
          obtain ⟨⟨h1, h2⟩, h3⟩ := hc
          have h3 := line_le (of_decide_eq_true h3)
          obtain ⟨v, rfl, r1⟩ := rd.one
          obtain ⟨u, rfl, ru⟩ := Vals.one rx
          have hd := toPS_ok rs r1 hp
          obtain ⟨as, hr⟩ := Dp.reads I p v u hd ru
          have fin : ∀ h' t tk, (∀ b o, s.heap.get? b = some o → h'.get? b = some o) → EP X pins σ Q (.str p.shown t) { s with heap := h', toks := tk } := fun h' t tk hk =>
            ⟨.str p.shown, H, I.kept hk, ⟨t, rfl⟩, q ρ H _ Ext.refl rs (.str _)⟩
          have dep := SeqAt.depth_of_shaped h2
          have nod := PyData.hasDict_of_canLay p (SeqAt.canLay_of_shaped h2)
          cases hd with
          | non => cases ru; exact PySem.P.repr_of_none (fin s.heap _ _ fun _ _ e => e)
          | bl k => cases ru; exact PySem.P.repr_of_bool (fin s.heap _ _ fun _ _ e => e)
          | int i => obtain ⟨t, rfl⟩ := ru; exact PySem.P.repr_of_int (of_decide_eq_true h1) (fin s.heap _ _ fun _ _ e => e)
          | str z => obtain ⟨t, rfl⟩ := ru; exact PySem.P.repr_of_str (fin s.heap _ _ fun _ _ e => e) h3
          | lst h t => cases ru; exact PySem.repr_of_reads' hr h1 (PyData.noDict_hsm nod) hg (by omega) (fun _ _ e => e) fin h3
          | tup h t => cases ru; exact PySem.repr_of_reads' hr h1 (PyData.noDict_hsm nod) hg (by omega) (fun _ _ e => e) fin h3
        · cases e
      · cases e
    · cases e
  · exact q.elim
/-! method calls -/
def superish : Expr → Bool
  | .Call (.Name _ _) [] [] _ => true
  | _ => false
theorem base_plain {m : Str} {env : PySem.Env} {w : Sem Value} (h : superish o = false) : attributeBase o m env w = w := by
  unfold attributeBase
  split
  · cases h
  · rfl
def starless (es : List Expr) : Bool := es.all fun e => !PySem.W.isStarred e
theorem star_all : ∀ {es : List Expr} {env : PySem.Env} {pos : Pos}, starless es = true → (backTo pos (starEach es env)).all (fun x => !x.1) = true
  | [], _, _, _ => rfl
  | e :: es, env, pos, h => by
    unfold starless at h
    rw [List.all_cons, Bool.and_eq_true, Bool.not_eq_true'] at h
    rw [star_plain h.1]
    show (true && (backTo pos (starEach es env)).all (fun x => !x.1)) = true
    rw [Bool.true_and]
    exact star_all h.2
theorem few_ok {env : PySem.Env} (h : starless es = true) (hl : es.length < 29) : ((backTo cpos (starEach es env)).all (fun x => !x.1) && (backToKw cpos (keywordEach [] env)).all (fun x => x.1.isSome)
      && decide (es.length + ([] : List Keyword).length + (if ([] : List Keyword).isEmpty then 0 else 1) < 30)) = true := by
  rw [star_all h]
  show (true && true && decide (es.length + 0 + 0 < 30)) = true
  rw [decide_eq_true (by omega)]
  rfl
/-- receiver, then arguments, then the method -/
def fmeth (T : String) (g : D → List D → Store → Option (D × Store)) (fo : FF D) (fs : FF (List D)) : FF D := fun env st => (fo env st).bind fun d st1 => if tyName st1 d = some T then (fs env st1).bind fun ds st2 => ofO (g d ds st2) else .stuck
theorem tyV_of {K : PySem.W.Frag} {ρ : Pl} {H : Hp} {st : Store} {d : D} {v : V} {T : String} (rs : RelSt K ρ H st) (r : RelD K ρ H d v) (e : tyName st d = some T) (hT : T = "str" ∨ T = "list" ∨ T = "dict") : tyV K T v H := by
  cases r with
  | str x => cases e; rfl
  | lst h n t => cases e; exact .inl ⟨rfl, _, .inl (.inl h)⟩
  | scr h n t => cases e; exact .inl ⟨rfl, _, .inl h⟩
  | @scrK _ vs _ h t =>
    cases e
    refine .inl ⟨rfl, vs, .inr ?_⟩
    rcases h with h | h
    · rcases h with h | ⟨o, h⟩ <;> cases h
    · exact h
  | @obj n a h =>
    simp only [tyName] at e
    split at e
    · rename_i xs q
      cases e
      obtain ⟨vs, h1, _⟩ := rs.at_ n a _ h q
      exact .inl ⟨rfl, _, .inl (.inl h1)⟩
    · rename_i kvs q
      cases e
      obtain ⟨vs, h1, _⟩ := rs.at_ n a _ h q
      exact .inr (.inr (.inl ⟨rfl, .inl ⟨_, h1⟩⟩))
    · cases e
  | non => cases e; exact absurd hT (by decide)
  | bl => cases e; exact absurd hT (by decide)
  | int => cases e; exact absurd hT (by decide)
  | tup => cases e; exact absurd hT (by decide)
  | tupK => cases e; exact absurd hT (by decide)
  | pr => cases e
  | ty => cases e
  | glb => cases e
theorem de_meth {T id : String} {name : Str} {g : D → List D → Store → Option (D × Store)} (pa : PlainAttrs T) (slot : Slot T name id) (hty : typeOf (.builtin id) = pure (.type "method_descriptor")) (hT : T = "str" ∨ T = "list" ∨ T = "dict")
    (hm : MtD X id g) (ho : DE X W o fo) (ha : DA X W (a :: es) fs) (hsup : superish o = false) (hline : (apos.endLine == cpos.line) = true) (hst : starless (a :: es) = true) (hl : (a :: es).length < 29) :
    DE X W (.Call (.Attribute o name apos) (a :: es) [] cpos) (fmeth T g fo fs) := by
  have hst' := hst
  unfold starless at hst'
  rw [List.all_cons, Bool.and_eq_true, Bool.not_eq_true'] at hst'
  refine PE.imp (pe_bm pa slot hty hm ho ha (base_plain hsup) (few_ok hst hl) hline (star_plain hst'.1) (plain_star hst'.2)) fun σ H Q h => ?_
  obtain ⟨ρ, env, st, gd, q⟩ := h
  refine ⟨ρ, env, st, gd, (OutR.bind (R := RelD X.K) q).mono ?_⟩
  rintro v H1 ⟨ρ1, d, st1, -, e1, s1, r1, o1⟩
  split at o1
  · rename_i ht
    refine ⟨tyV_of s1 r1 ht hT, ρ1, env, st1, gd.ext e1 s1, (OutR.bind (R := RelDs X.K) o1).mono ?_⟩
    rintro vs H2 ⟨ρ2, ds, st2, -, e2, s2, r2, o2⟩
    refine ⟨ρ2, st2, d, ds, s2, r1.ext e2, r2, ?_⟩
    cases e : g d ds st2 with
    | none => rw [e] at o2; exact o2.elim
    | some p => rw [e] at o2; exact o2
  · exact o1.elim
theorem de_meth0 {T id : String} {name : Str} {g : D → List D → Store → Option (D × Store)} (pa : PlainAttrs T) (slot : Slot T name id) (hty : typeOf (.builtin id) = pure (.type "method_descriptor")) (hT : T = "str" ∨ T = "list" ∨ T = "dict")
    (hm : MtD X id g) (ho : DE X W o fo) (hsup : superish o = false) (hline : (apos.endLine == cpos.line) = true) :
    DE X W (.Call (.Attribute o name apos) [] [] cpos) (fmeth T g fo fnil) := by
  refine PE.imp (pe_bm0 pa slot hty hm ho (base_plain hsup) hline) fun σ H Q h => ?_
  obtain ⟨ρ, env, st, gd, q⟩ := h
  refine ⟨ρ, env, st, gd, (OutR.bind (R := RelD X.K) q).mono ?_⟩
  rintro v H1 ⟨ρ1, d, st1, -, e1, s1, r1, o1⟩
  split at o1
  · rename_i ht
    refine ⟨tyV_of s1 r1 ht hT, ρ1, st1, d, [], s1, r1, .nil, ?_⟩
    cases e : g d [] st1 with
    | none => change OutE X.K W ρ1 H1 σ (ofO (g d [] st1)) Q at o1; rw [e] at o1; exact o1.elim
    | some p => change OutE X.K W ρ1 H1 σ (ofO (g d [] st1)) Q at o1; rw [e] at o1; exact o1
  · exact o1.elim
/-! lists -/
def lstAt (st : Store) : D → Option (Nat × List D)
  | .obj n => match st[n]? with | some (.lst xs) => some (n, xs) | _ => none
  | _ => none
theorem lstAt_ok {K : PySem.W.Frag} {ρ : Pl} {H : Hp} {st : Store} {d : D} {v : V} {n : Nat} {xs : List D} (rs : RelSt K ρ H st) (r : RelD K ρ H d v) (e : lstAt st d = some (n, xs)) :
    ∃ a vs, v = .ref a ∧ ρ.r[n]? = some a ∧ H a = some (.lst vs) ∧ RelDs K ρ H xs vs := by
  cases r with
  | @obj m a h =>
    simp only [lstAt] at e
    split at e
    · rename_i ys q
      cases e
      obtain ⟨vs, h1, h2⟩ := rs.at_ _ a _ h q
      exact ⟨a, vs, rfl, h, h1, h2⟩
    · cases e
  | _ => cases e
/-- behind a change of the list -/
theorem lst_changed {K : PySem.W.Frag} {ρ : Pl} {H : Hp} {st : Store} {n : Nat} {a : Addr} {xs : List D} {vs : List V} {d : D} {v : V} {Q : VK} (rs : RelSt K ρ H st) (h : ρ.r[n]? = some a) (r : RelDs K ρ H xs vs) (rd : RelD K ρ H d v) {ws : List V} (hl : H a = some (.lst ws))
    (q : ∀ ρ' H' v, Ext ρ H ρ' H' → RelSt K ρ' H' (st.set n (.lst xs)) → RelD K ρ' H' d v → Q v H') : Q v (upd H a (.lst vs)) :=
  q ρ _ _ (Ext.mut rs h fun ob u z => by rw [hl] at z; cases z) (rs.set h ⟨vs, upd_same, r.stay (Stay.mut h)⟩) (rd.stay (Stay.mut h))
def appendD (d : D) (ds : List D) (st : Store) : Option (D × Store) := match lstAt st d, ds with
  | some (n, xs), [y] => if xs.length < 16777216 then some (.non, st.set n (.lst (xs ++ [y]))) else none
  | _, _ => none
theorem md_append : MtD X "list.append" appendD := MtD.by mt_append fun ρ H st d ds v vs Q e st' rs rd rds h q => by
  unfold appendD at h
  split at h
  · rename_i n xs y hl
    split at h
    · rename_i hlen
      cases h
      obtain ⟨p, ws, rfl, h1, h2, h3⟩ := lstAt_ok rs rd hl
      obtain ⟨u, rfl, r1⟩ := rds.one
      exact ⟨p, ws, u, rfl, rfl, h2, by rw [sizeLine_eq, ← h3.length]; exact hlen, lst_changed rs h1 (h3.append (.cons r1 .nil)) .non h2 q⟩
    · cases h
  · cases h
def extendD (d : D) (ds : List D) (st : Store) : Option (D × Store) := match lstAt st d, ds with
  | some (n, xs), [y] => match seqO st y with
    | some ys => if xs.length + ys.length ≤ 16777216 then some (.non, st.set n (.lst (xs ++ ys))) else none
    | none => none
  | _, _ => none
theorem md_extend : MtD X "list.extend" extendD := MtD.by mt_extend fun ρ H st d ds v vs Q e st' rs rd rds h q => by
  unfold extendD at h
  split at h
  · rename_i n xs y hl
    split at h
    · rename_i ys hy
      split at h
      · rename_i hlen
        cases h
        obtain ⟨p, ws, rfl, h1, h2, h3⟩ := lstAt_ok rs rd hl
        obtain ⟨u, rfl, r1⟩ := rds.one
        obtain ⟨p', zs, rfl, h4, h5⟩ := seqO_ok rs r1 hy
        exact ⟨p, p', ws, zs, rfl, rfl, h2, h4, line_le (by rw [← h3.length, ← h5.length]; exact hlen), lst_changed rs h1 (h3.append h5) .non h2 q⟩
      · cases h
    · cases h
  · cases h
def popAtD (d : D) (ds : List D) (st : Store) : Option (D × Store) := match lstAt st d, ds with
  | some (n, xs), [.int i] => if -(2 ^ 63) ≤ i ∧ i < 2 ^ 63 then (match seqIndex? i xs.length with
    | some k => match xs[k]? with | some y => some (y, st.set n (.lst (xs.eraseIdx k))) | none => none
    | none => none) else none
  | _, _ => none
theorem md_popAt : MtD X "list.pop" popAtD := MtD.by mt_popAt fun ρ H st d ds v vs Q e st' rs rd rds h q => by
  unfold popAtD at h
  split at h
  · rename_i n xs i hl
    split at h
    · rename_i hi
      split at h
      · rename_i k hk
        split at h
        · rename_i y hy
          cases h
          obtain ⟨p, ws, rfl, h1, h2, h3⟩ := lstAt_ok rs rd hl
          obtain ⟨u, rfl, r1⟩ := rds.one
          cases r1
          obtain ⟨w, h4, h5⟩ := h3.get hy
          exact ⟨p, ws, i, k, w, rfl, rfl, h2, hi.1, hi.2, by rw [← h3.length]; exact hk, h4, lst_changed rs h1 (h3.eraseIdx k) h5 h2 q⟩
        · cases h
      · cases h
    · cases h
  · cases h
def popD (d : D) (ds : List D) (st : Store) : Option (D × Store) := match lstAt st d, ds with
  | some (n, xs), [] => match xs[xs.length - 1]? with | some y => some (y, st.set n (.lst xs.dropLast)) | none => none
  | _, _ => none
theorem md_pop : MtD X "list.pop" popD := MtD.by mt_pop fun ρ H st d ds v vs Q e st' rs rd rds h q => by
  unfold popD at h
  split at h
  · rename_i n xs hl
    split at h
    · rename_i y hy
      cases h
      obtain ⟨p, ws, rfl, h1, h2, h3⟩ := lstAt_ok rs rd hl
      cases rds
      obtain ⟨w, h4, h5⟩ := h3.get hy
      exact ⟨p, ws, w, rfl, rfl, h2, by rw [← h3.length]; exact h4, lst_changed rs h1 h3.dropLast h5 h2 q⟩
    · cases h
  · cases h
/-- the first place of a flat item -/
def idxOfV (y : V) : List V → Option Nat
  | [] => none
  | z :: r => if eqV z y then some 0 else (idxOfV y r).map (· + 1)
theorem idxOfV_ok {y : V} : ∀ {l : List V} {j : Nat}, idxOfV y l = some j → (∃ z, l[j]? = some z ∧ eqV z y = true) ∧ ∀ (m : Nat) (z : V), m < j → l[m]? = some z → eqV z y = false
  | [], _, e => by cases e
  | z :: r, j, e => by
    simp only [idxOfV] at e
    split at e
    · rename_i h
      cases e
      exact ⟨⟨z, rfl, h⟩, fun m _ hm => absurd hm (Nat.not_lt_zero _)⟩
    · rename_i h
      rw [Option.map_eq_some_iff] at e
      obtain ⟨k, e1, rfl⟩ := e
      obtain ⟨⟨w, h1, h2⟩, h3⟩ := idxOfV_ok e1
      refine ⟨⟨w, by simpa using h1, h2⟩, fun m u hm hu => ?_⟩
      cases m with
      | zero =>
        simp only [List.getElem?_cons_zero, Option.some.injEq] at hu
        subst hu
        simpa using h
      | succ m => exact h3 m u (by omega) (by simpa using hu)
/-- the first place of equal data -/
def idxP (d : PyData) : List PyData → Option Nat
  | [] => none
  | z :: r => if PyData.eqv z d then some 0 else (idxP d r).map (· + 1)
theorem idxP_ok {d : PyData} : ∀ {l : List PyData} {j : Nat}, idxP d l = some j → (∃ z, l[j]? = some z ∧ PyData.eqv z d = true) ∧ ∀ (m : Nat) (z : PyData), m < j → l[m]? = some z → PyData.eqv z d = false
  | [], _, e => by cases e
  | z :: r, j, e => by
    simp only [idxP] at e
    split at e
    · rename_i h
      cases e
      exact ⟨⟨z, rfl, h⟩, fun m _ hm => absurd hm (Nat.not_lt_zero _)⟩
    · rename_i h
      rw [Option.map_eq_some_iff] at e
      obtain ⟨k, e1, rfl⟩ := e
      obtain ⟨⟨w, h1, h2⟩, h3⟩ := idxP_ok e1
      refine ⟨⟨w, by simpa using h1, h2⟩, fun m u hm hu => ?_⟩
      cases m with
      | zero =>
        simp only [List.getElem?_cons_zero, Option.some.injEq] at hu
        subst hu
        simpa using h
      | succ m => exact h3 m u (by omega) (by simpa using hu)
def indexP (d : D) (ds : List D) (st : Store) : Option (D × Store) := match (seqL st d).bind toPs, ds with
  | some ps, [y] => match toPS st y with
    | some p => if SeqAt.shaped (.list ps) && SeqAt.shaped p then (idxP p ps).map fun j => (.int (j : Nat), st) else none
    | none => none
  | _, _ => none
def indexF (d : D) (ds : List D) (st : Store) : Option (D × Store) := match (seqL st d).bind flatDs, ds with
  | some vs, [y] => match flatD y with
    | some v => (idxOfV v vs).map fun j => (.int (j : Nat), st)
    | none => none
  | _, _ => none
def indexD (d : D) (ds : List D) (st : Store) : Option (D × Store) := match (seqL st d).bind flatDs with
  | some _ => indexF d ds st
  | none => indexP d ds st
theorem md_indexF : MtD X "list.index" indexF := MtD.by mt_index fun ρ H st d ds v vs Q e st' rs rd rds h q => by
  unfold indexF at h
  split at h
  · rename_i ws y hl
    split at h
    · rename_i w hw
      rw [Option.map_eq_some_iff] at h
      obtain ⟨j, h1, h2⟩ := h
      cases h2
      rw [Option.bind_eq_some_iff] at hl
      obtain ⟨xs, h3, h4⟩ := hl
      obtain ⟨p, zs, rfl, h5, h6⟩ := seqL_ok rs rd h3
      obtain ⟨u, rfl, r1⟩ := rds.one
      obtain ⟨rfl, f1⟩ := flatD_ok r1 hw
      obtain ⟨rfl, f2⟩ := flatDs_ok h6 h4
      obtain ⟨⟨z, g1, g2⟩, g3⟩ := idxOfV_ok h1
      exact ⟨p, zs, u, j, z, rfl, rfl, h5, f1, f2, g1, g2, g3, q ρ H _ Ext.refl rs (.int _)⟩
    · cases h
  · cases h
theorem md_indexP (hu : X.A.units + 65 < cLine) : MtD X "list.index" indexP := MtD.by (mt_indexD hu) fun ρ H st d ds v vs Q e st' rs rd rds h q => by
  unfold indexP at h
  split at h
  · rename_i ps y hl
    split at h
    · rename_i p hp
      split at h
      · rename_i hs
        rw [Bool.and_eq_true] at hs
        rw [Option.map_eq_some_iff] at h
        obtain ⟨j, h1, h2⟩ := h
        cases h2
        rw [Option.bind_eq_some_iff] at hl
        obtain ⟨xs, h3, h4⟩ := hl
        obtain ⟨a, zs, rfl, h5, h6⟩ := seqL_ok rs rd h3
        obtain ⟨u, rfl, r1⟩ := rds.one
        obtain ⟨⟨z, g1, g2⟩, g3⟩ := idxP_ok h1
        exact ⟨a, u, p, ps, j, z, rfl, rfl, .lst h5 (toPs_ok h6 h4), toPS_ok rs r1 hp, hs.1, hs.2, g1, g2, g3, q ρ H _ Ext.refl rs (.int _)⟩
      · cases h
    · cases h
  · cases h
theorem indexD_or (d : D) (ds : List D) (st : Store) : indexD d ds st = indexF d ds st ∨ indexD d ds st = indexP d ds st := by
  unfold indexD
  split
  · exact .inl rfl
  · exact .inr rfl
theorem md_index (hu : X.A.units + 65 < cLine) : MtD X "list.index" indexD := by
  intro pins s σ H x xs v us Q I rx rxs q
  obtain ⟨ρ, st, d, ds, rs, rd, rds, o⟩ := q
  rcases indexD_or d ds st with e | e <;> rw [e] at o
  · exact md_indexF pins s σ H x xs v us Q I rx rxs ⟨ρ, st, d, ds, rs, rd, rds, o⟩
  · exact md_indexP hu pins s σ H x xs v us Q I rx rxs ⟨ρ, st, d, ds, rs, rd, rds, o⟩
/-! texts -/
def upperD (d : D) (ds : List D) (st : Store) : Option (D × Store) := match d, ds with
  | .str x, [] => if x.length ≤ 5592405 then some (.str (Txt.upper x), st) else none
  | _, _ => none
theorem md_upper : MtD X "str.upper" upperD := MtD.by mt_upper fun ρ H st d ds v vs Q e st' rs rd rds h q => by
  unfold upperD at h
  split at h
  · rename_i x
    split at h
    · rename_i hl
      cases h
      cases rd
      cases rds
      exact ⟨x, rfl, rfl, hl, q ρ H _ Ext.refl rs (.str _)⟩
    · cases h
  · cases h
/-! dicts -/
def getD1 (d : D) (ds : List D) (st : Store) : Option (D × Store) := match dctO st d, ds with
  | some kvs, [y] => match keyD y with
    | some k => some ((getK kvs k).getD .non, st)
    | none => none
  | some kvs, [y, z] => match keyD y with
    | some k => some ((getK kvs k).getD z, st)
    | none => none
  | _, _ => none
theorem md_get (hu : X.A.units + 1 < cLine) : MtD X "dict.get" getD1 := by
  intro pins s σ H x xs v us Q I rx rxs q
  obtain ⟨ρ, st, d, ds, rs, rd, rds, q⟩ := q
  unfold getD1 at q
  split at q
  · rename_i e st' h
    split at h
    · rename_i kvs y hd
      split at h
      · rename_i k hk
        cases h
        obtain ⟨p, vvs, rfl, h1, h2, h3⟩ := dctO_ok rs rd hd
        obtain ⟨w, rfl, r1⟩ := rds.one
        obtain ⟨u, rfl, ru⟩ := Vals.one rxs
        have hw := keyD_ok r1 hk
        subst hw
        cases rx
        refine d_get1 hu I (DGet.k h1) ru fun w' s' I' r' => ⟨_, H, I', r', ?_⟩
        rcases getK_ok k h2 h3 with ⟨g1, g2⟩ | ⟨d', w, g1, g2, g3⟩
        · rw [g2]; rw [g1] at q; exact q ρ H _ Ext.refl rs .non
        · rw [g2]; rw [g1] at q; exact q ρ H _ Ext.refl rs g3
      · cases h
    · rename_i kvs y z hd
      split at h
      · rename_i k hk
        cases h
        obtain ⟨p, vvs, rfl, h1, h2, h3⟩ := dctO_ok rs rd hd
        obtain ⟨w, w2, rfl, r1, r2⟩ := rds.two
        obtain ⟨u, u2, rfl, ru, ru2⟩ := Vals.two rxs
        have hw := keyD_ok r1 hk
        subst hw
        cases rx
        refine d_get2 hu I (DGet.k h1) ru ru2 fun w' s' I' r' => ⟨_, H, I', r', ?_⟩
        rcases getK_ok k h2 h3 with ⟨g1, g2⟩ | ⟨d', w, g1, g2, g3⟩
        · rw [g2]; rw [g1] at q; exact q ρ H _ Ext.refl rs r2
        · rw [g2]; rw [g1] at q; exact q ρ H _ Ext.refl rs g3
      · cases h
    · cases h
  · exact q.elim
end
end DL
end
section
/-! EX1: a.split(b), a.join(texts). -/
namespace DL
open PySem PySem.Spec PyProof.Rows L2
section
variable {X : Cx}
/-- texts -/
def strsD : List D → Option (List Str)
  | [] => some []
  | .str x :: r => (strsD r).map (x :: ·)
  | _ => none
theorem strsD_ok {K : PySem.W.Frag} {ρ : Pl} {H : Hp} : ∀ {ds : List D} {vs : List V} {xs : List Str}, RelDs K ρ H ds vs → strsD ds = some xs → vs = xs.map V.str
  | [], _, _, .nil, e => by cases e; rfl
  | d :: ds, _, _, .cons a t, e => by
    cases d with
    | str x =>
      simp only [strsD, Option.map_eq_some_iff] at e
      obtain ⟨r, h1, rfl⟩ := e
      cases a
      rw [strsD_ok t h1]
      rfl
    | _ => simp [strsD] at e
theorem rds_str {K : PySem.W.Frag} {ρ : Pl} {H : Hp} : ∀ (l : List Str), RelDs K ρ H (l.map D.str) (l.map V.str)
  | [] => .nil
  | x :: r => .cons (.str x) (rds_str r)
def splitD (m : Bool) (d : D) (ds : List D) (st : Store) : Option (D × Store) := match d, ds with
  | .str a, [.str b] => if b.length == 0 then none else if a.length + 2 ≤ 16777216 then (if m then some (.obj st.length, st ++ [.lst ((Txt.split a b).map D.str)]) else some (.lst ((Txt.split a b).map D.str), st)) else none
  | _, _ => none
theorem md_split (m : Bool) : MtD X "str.split" (splitD m) := MtD.by mt_split fun ρ H st d ds v vs Q e st' rs rd rds h q => by
  unfold splitD at h
  split at h
  · rename_i a b
    split at h
    · cases h
    · rename_i hb
      split at h
      · rename_i hl
        cases rd
        obtain ⟨u, rfl, r1⟩ := rds.one
        cases r1
        refine ⟨a, b, rfl, rfl, by simpa using hb, line_le hl, fun p hp => ?_⟩
        cases m with
        | false =>
          rw [if_neg Bool.false_ne_true] at h
          cases h
          exact q ρ _ _ (Ext.new rs hp) (rs.new hp) (new_lst rs hp (rds_str _))
        | true =>
          rw [if_pos rfl] at h
          cases h
          exact q _ _ _ (Ext.newO rs hp) (rs.newO hp ⟨_, upd_same, rds_str _⟩) (.obj (rs.last _))
      · cases h
  · cases h
def joinD (d : D) (ds : List D) (st : Store) : Option (D × Store) := match d, ds with
  | .str a, [e] => match (seqA st e).bind strsD with
    | some ys => if (ys.map (·.length)).sum + ys.length * a.length ≤ 16777216 then some (.str (Txt.join a ys), st) else none
    | none => none
  | _, _ => none
theorem md_join : MtD X "str.join" joinD := MtD.by mt_join fun ρ H st d ds v vs Q e st' rs rd rds h q => by
  unfold joinD at h
  split at h
  · rename_i a e
    split at h
    · rename_i ys hy
      split at h
      · rename_i hl
        cases h
        cases rd
        obtain ⟨u, rfl, r1⟩ := rds.one
        rw [Option.bind_eq_some_iff] at hy
        obtain ⟨xs, h1, h2⟩ := hy
        obtain ⟨p, ws, rfl, h3, h4⟩ := seqA_ok rs r1 h1
        have := strsD_ok h4 h2
        subst this
        exact ⟨a, p, ys, rfl, rfl, h3, hl, q ρ H _ Ext.refl rs (.str _)⟩
      · cases h
    · cases h
  · cases h
end
end DL
end
section
/-! DL9: targets and statements. -/
namespace DL
open PySem PySem.Spec PyProof.Rows L2
/-- how a statement ends -/
inductive RS where
  | nx (env : Env') (st : Store)
  | rt (d : D) (st : Store)
  | bk (env : Env') (st : Store)
  | ct (env : Env') (st : Store)
  | exc (x : XD) (env : Env') (st : Store)
  | stuck
abbrev FS := Env' → Store → RS
section
variable {K : PySem.W.Frag} {W : WG} {ρ ρ1 : Pl} {H H1 : Hp}
def OutS (K : PySem.W.Frag) (W : WG) (ρ : Pl) (H : Hp) (r : RS) (D : Ends) : Prop := match r with
  | .nx env st => ∀ ρ' H' σ', Ext ρ H ρ' H' → Good K W ρ' H' env σ' st → D.nx σ' H'
  | .rt d st => ∀ ρ' H' v, Ext ρ H ρ' H' → RelSt K ρ' H' st → RelD K ρ' H' d v → D.rt v H'
  | .bk env st => ∀ ρ' H' σ', Ext ρ H ρ' H' → Good K W ρ' H' env σ' st → D.bk σ' H'
  | .ct env st => ∀ ρ' H' σ', Ext ρ H ρ' H' → Good K W ρ' H' env σ' st → D.ct σ' H'
  | .exc x env st => ∀ ρ' H' σ' cls dx, Ext ρ H ρ' H' → Good K W ρ' H' env σ' st → RelX K ρ' H' x cls dx → W.w cls dx σ' H'
  | .stuck => False
theorem OutS.from_ {r : RS} {D : Ends} (e : Ext ρ H ρ1 H1) (h : OutS K W ρ H r D) : OutS K W ρ1 H1 r D := by
  cases r with
  | nx env st => exact fun ρ' H' σ' e' => h ρ' H' σ' (e.trans e')
  | rt d st => exact fun ρ' H' v e' => h ρ' H' v (e.trans e')
  | bk env st => exact fun ρ' H' σ' e' => h ρ' H' σ' (e.trans e')
  | ct env st => exact fun ρ' H' σ' e' => h ρ' H' σ' (e.trans e')
  | exc x env st => exact fun ρ' H' σ' c d e' => h ρ' H' σ' c d (e.trans e')
  | stuck => exact h
theorem OutS.mono {r : RS} {D D' : Ends} (h : OutS K W ρ H r D) (h1 : ∀ σ H, D.nx σ H → D'.nx σ H) (h2 : ∀ v H, D.rt v H → D'.rt v H) (h3 : ∀ σ H, D.bk σ H → D'.bk σ H) (h4 : ∀ σ H, D.ct σ H → D'.ct σ H) : OutS K W ρ H r D' := by
  cases r with
  | nx env st => exact fun ρ' H' σ' e g => h1 _ _ (h ρ' H' σ' e g)
  | rt d st => exact fun ρ' H' v e s q => h2 _ _ (h ρ' H' v e s q)
  | bk env st => exact fun ρ' H' σ' e g => h3 _ _ (h ρ' H' σ' e g)
  | ct env st => exact fun ρ' H' σ' e g => h4 _ _ (h ρ' H' σ' e g)
  | exc x env st => exact h
  | stuck => exact h
def lS (K : PySem.W.Frag) (W : WG) (f : FS) : TS := fun D σ H => ∃ ρ env st, Good K W ρ H env σ st ∧ OutS K W ρ H (f env st) D
/-- an expression's outcome, then a statement's -/
def Res.toS {α : Type} (r : Res α) (env : Env') (k : α → Store → RS) : RS := match r with
  | .ok a st => k a st
  | .exc x st => .exc x env st
  | .stuck => .stuck
theorem OutS.bind {α β : Type} {R : Pl → Hp → α → β → Prop} {env : Env'} {σ : L2.St} {st : Store} {r : Res α} {k : α → Store → RS} {D : Ends} (g : Good K W ρ H env σ st) (h : OutS K W ρ H (r.toS env k) D) :
    OutR R K W ρ H σ r (fun v H1 => ∃ ρ1 d st1, r = .ok d st1 ∧ Ext ρ H ρ1 H1 ∧ RelSt K ρ1 H1 st1 ∧ R ρ1 H1 d v ∧ OutS K W ρ1 H1 (k d st1) D) := by
  cases r with
  | ok d st => exact fun ρ' H' v e s q => ⟨ρ', d, st, rfl, e, s, q, OutS.from_ e h⟩
  | exc x st => exact fun ρ' H' cls dx e s q => h ρ' H' σ cls dx e (g.ext e s) q
  | stuck => exact h
def fseq (s t : FS) : FS := fun env st => match s env st with
  | .nx env' st' => t env' st'
  | r => r
end
section
variable {X : Cx} {W : WG} {a b c e : Expr} {fa fb fc : FF D} {pos : Pos} {es : List Expr} {fs : FF (List D)} {s1 s2 : FS}
abbrev DS (X : Cx) (W : WG) (st : Stmt) (f : FS) : Prop := PS X st (lS X.K W f)
abbrev DSs (X : Cx) (W : WG) (st : List Stmt) (f : FS) : Prop := PSs X st (lS X.K W f)
theorem PS.imp {st : Stmt} {t t' : TS} (h : PS X st t) (i : ∀ D σ H, t' D σ H → t D σ H) : PS X st t' := ⟨fun pins s σ H D I q => h.run pins s σ H D I (i _ _ _ q)⟩
theorem PSs.imp {st : List Stmt} {t t' : TS} (h : PSs X st t) (i : ∀ D σ H, t' D σ H → t D σ H) : PSs X st t' := ⟨fun pins s σ H D I q => h.run pins s σ H D I (i _ _ _ q)⟩
def fskip : FS := fun env st => .nx env st
theorem dss_nil : DSs X W [] fskip := PSs.imp pss_nil fun D σ H ⟨ρ, env, st, g, o⟩ => o ρ H σ Ext.refl g
theorem dss_cons {x : Stmt} {r : List Stmt} (h1 : DS X W x s1) (h2 : DSs X W r s2) : DSs X W (x :: r) (fseq s1 s2) := by
  refine PSs.imp (pss_cons h1 h2) fun D σ H h => ?_
  obtain ⟨ρ, env, st, g, o⟩ := h
  refine ⟨ρ, env, st, g, ?_⟩
  unfold fseq at o
  cases h : s1 env st with
  | nx env' st' => rw [h] at o; exact fun ρ' H' σ' ex g' => ⟨ρ', env', st', g', OutS.from_ ex o⟩
  | rt d st' => rw [h] at o; exact o
  | bk env' st' => rw [h] at o; exact o
  | ct env' st' => rw [h] at o; exact o
  | exc x env' st' => rw [h] at o; exact o
  | stuck => rw [h] at o; exact o
theorem ds_pass : DS X W (.Pass pos) fskip := PS.imp ps_pass fun D σ H ⟨ρ, env, st, g, o⟩ => o ρ H σ Ext.refl g
theorem ds_break : DS X W (.Break pos) (fun env st => .bk env st) := PS.imp ps_break fun D σ H ⟨ρ, env, st, g, o⟩ => o ρ H σ Ext.refl g
theorem ds_continue : DS X W (.Continue pos) (fun env st => .ct env st) := PS.imp ps_continue fun D σ H ⟨ρ, env, st, g, o⟩ => o ρ H σ Ext.refl g
/-- no comprehension, whose value the machine lets fall in a way of its own -/
def noComp : Expr → Bool
  | .ListComp _ _ _ _ => false
  | .SetComp _ _ _ _ => false
  | .DictComp _ _ _ _ _ => false
  | _ => true
theorem swaps_no {t : Option Expr} {l : Nat} {env : PySem.Env} (h : noComp e = true) : swapsWith e t l env = pure false := by
  cases e <;> first | rfl | cases h
def fdrop (f : FF D) : FS := fun env st => (f env st).toS env fun _ st1 => .nx env st1
theorem ds_expr (h : DE X W e fa) (hn : noComp e = true) : DS X W (.Expr e pos) (fdrop fa) := by
  refine PS.imp (ps_expr h (swaps_no hn)) fun D σ H h => ?_
  obtain ⟨ρ, env, st, g, o⟩ := h
  refine ⟨ρ, env, st, g, (OutS.bind (R := RelD X.K) g o).mono ?_⟩
  rintro v H1 ⟨ρ1, d, st1, -, e1, s1, r1, o1⟩
  exact o1 ρ1 H1 σ Ext.refl (g.ext e1 s1)
def fret (f : FF D) : FS := fun env st => (f env st).toS env fun d st1 => .rt d st1
theorem ds_ret (h : DE X W e fa) : DS X W (.Return (some e) pos) (fret fa) := by
  refine PS.imp (ps_ret h) fun D σ H h => ?_
  obtain ⟨ρ, env, st, g, o⟩ := h
  refine ⟨ρ, env, st, g, (OutS.bind (R := RelD X.K) g o).mono ?_⟩
  rintro v H1 ⟨ρ1, d, st1, -, e1, s1, r1, o1⟩
  exact o1 ρ1 H1 v Ext.refl s1 r1
theorem ds_retN : DS X W (.Return none pos) (fun _ st => .rt .non st) := PS.imp ps_retN fun D σ H ⟨ρ, env, st, g, o⟩ => o ρ H _ Ext.refl g.st .non
def fifS (t : FF Bool) (s1 s2 : FS) : FS := fun env st => (t env st).toS env fun k st1 => if k then s1 env st1 else s2 env st1
theorem ds_if {tc : FF Bool} {x y : List Stmt} (hc : DT X W c tc) (ha : DSs X W x s1) (hb : DSs X W y s2) : DS X W (.If c x y pos) (fifS tc s1 s2) := by
  refine PS.imp (ps_if hc ha hb) fun D σ H h => ?_
  obtain ⟨ρ, env, st, g, o⟩ := h
  refine ⟨ρ, env, st, g, (OutS.bind (R := RB) g o).mono ?_⟩
  rintro v H1 ⟨ρ1, d, st1, -, e1, s1, r1, o1⟩
  cases r1
  split at o1
  · rename_i h; rw [if_pos h]; exact ⟨ρ1, env, st1, g.ext e1 s1, o1⟩
  · rename_i h; rw [if_neg h]; exact ⟨ρ1, env, st1, g.ext e1 s1, o1⟩
/-! targets -/
abbrev FG := D → Env' → Store → Option (Env' × Store)
abbrev FGs := List D → Env' → Store → Option (Env' × Store)
def OutG (K : PySem.W.Frag) (W : WG) (ρ : Pl) (H : Hp) (r : Option (Env' × Store)) (Q : L2.St → Hp → Prop) : Prop := match r with
  | some (env', st') => ∀ ρ' H' σ', Ext ρ H ρ' H' → Good K W ρ' H' env' σ' st' → Q σ' H'
  | none => False
def lG (K : PySem.W.Frag) (W : WG) (f : FG) : TG := fun v σ H Q => ∃ ρ env st d, Good K W ρ H env σ st ∧ RelD K ρ H d v ∧ OutG K W ρ H (f d env st) Q
def lGs (K : PySem.W.Frag) (W : WG) (f : FGs) : TGs := fun vs σ H Q => ∃ ρ env st ds, Good K W ρ H env σ st ∧ RelDs K ρ H ds vs ∧ OutG K W ρ H (f ds env st) Q
abbrev DG (X : Cx) (W : WG) (t : Expr) (f : FG) : Prop := PG X t (lG X.K W f)
abbrev DGs (X : Cx) (W : WG) (t : List Expr) (f : FGs) : Prop := PGs X t (lGs X.K W f)
theorem PG.imp {t : Expr} {g g' : TG} (h : PG X t g) (i : ∀ v σ H Q, g' v σ H Q → g v σ H Q) : PG X t g' := ⟨fun pins s σ H v u Q I r q => h.run pins s σ H v u Q I r (i _ _ _ _ q)⟩
theorem PGs.imp {t : List Expr} {g g' : TGs} (h : PGs X t g) (i : ∀ v σ H Q, g' v σ H Q → g v σ H Q) : PGs X t g' := ⟨fun pins s σ H v u Q I r q => h.run pins s σ H v u Q I r (i _ _ _ _ q)⟩
def gname (i : Nat) : FG := fun d env st => some (env.set i (some d), st)
theorem dg_name {i : Nat} {x : Str} (hN : X.N.Nodup) (hi : X.N[i]? = some x) (hx : Loc X.env.scope x) (hf : X.fn x = true ∨ X.env.scope.names.lookup x = some .local) (hfr : Free W i) : DG X W (.Name x pos) (gname i) := by
  refine PG.imp (pg_name hN hi hx hf) fun v σ H Q h => ?_
  obtain ⟨ρ, env, st, d, g, r, o⟩ := h
  exact o ρ H _ Ext.refl ⟨g.env.set i r, g.st, g.tt, g.gh.set hfr⟩
def gnil : FGs := fun ds env st => if ds.isEmpty then some (env, st) else none
def gcons (f : FG) (fs : FGs) : FGs := fun ds env st => match ds with
  | d :: r => match f d env st with | some (env', st') => fs r env' st' | none => none
  | [] => none
theorem dgs_nil : DGs X W [] gnil := by
  refine PGs.imp pgs_nil fun vs σ H Q h => ?_
  obtain ⟨ρ, env, st, ds, g, r, o⟩ := h
  unfold gnil at o
  cases r with
  | nil => exact ⟨rfl, o ρ H _ Ext.refl g⟩
  | cons _ _ => exact o.elim
theorem assign_plain {e : Expr} {es : List Expr} {env : PySem.Env} (h : PySem.W.isStarred e = false) : assignEach (e :: es) env = (false, assign e env) :: assignEach es env := by
  cases e <;> first | rfl | (cases h)
theorem dgs_cons {f : FG} {fs : FGs} (h1 : DG X W e f) (h2 : DGs X W es fs) (hs : PySem.W.isStarred e = false) : DGs X W (e :: es) (gcons f fs) := by
  refine PGs.imp (pgs_cons h1 h2 (by rw [assign_plain hs]; rfl)) fun vs σ H Q h => ?_
  obtain ⟨ρ, env, st, ds, g, r, o⟩ := h
  unfold gcons at o
  cases r with
  | nil => exact o.elim
  | @cons d v ds' vs' r1 r2 =>
    refine ⟨v, vs', rfl, ρ, env, st, d, g, r1, ?_⟩
    simp only at o
    cases hf : f d env st with
    | none => rw [hf] at o; exact o.elim
    | some p =>
      obtain ⟨env', st'⟩ := p
      rw [hf] at o
      intro ρ' H' σ' ex g'
      refine ⟨ρ', env', st', ds', g', r2.ext ex, ?_⟩
      simp only at o
      cases hr : fs ds' env' st' with
      | none => rw [hr] at o; exact o.elim
      | some p =>
        obtain ⟨env2, st2⟩ := p
        rw [hr] at o
        exact fun ρ2 H2 σ2 e2 g2 => o ρ2 H2 σ2 (ex.trans e2) g2
def gtup (n : Nat) (fs : FGs) : FG := fun d env st => match d with
  | .tup ds => if ds.length = n then fs ds env st else none
  | .pr ds => if ds.length = n then fs ds env st else none
  | _ => none
theorem assignEach_len : ∀ {es : List Expr} {env : PySem.Env}, starless es = true → (assignEach es env).length = es.length ∧ (assignEach es env).findIdx? (·.1) = none
  | [], _, _ => ⟨rfl, rfl⟩
  | e :: es, env, h => by
    unfold starless at h
    rw [List.all_cons, Bool.and_eq_true, Bool.not_eq_true'] at h
    rw [assign_plain h.1]
    obtain ⟨h1, h2⟩ := assignEach_len (es := es) (env := env) h.2
    exact ⟨by simp [h1], by simp [List.findIdx?_cons, h2]⟩
theorem dg_tup {k : Nat} {fs : FGs} (hc : X.calm = true) (h : DGs X W es fs) (hst : starless es = true) : DG X W (.Tuple es k pos) (gtup es.length fs) := by
  refine PG.imp (pg_tup hc h (assignEach_len hst).1 (assignEach_len hst).2) fun v σ H Q h => ?_
  obtain ⟨ρ, env, st, d, g, r, o⟩ := h
  unfold gtup at o
  split at o
  · rename_i ds
    split at o
    · rename_i hl
      obtain ⟨p, vs, rfl, h1, h2⟩ := tup_ok r
      exact ⟨p, vs, rfl, h1, by rw [← h2.length]; exact hl, ρ, env, st, ds, g, h2, o⟩
    · exact o.elim
  · rename_i ds
    split at o
    · rename_i hl
      obtain ⟨p, vs, rfl, h1, h2⟩ := pr_ok r
      exact ⟨p, vs, rfl, h1, by rw [← h2.length]; exact hl, ρ, env, st, ds, g, h2, o⟩
    · exact o.elim
  · exact o.elim
/-- o[i] = d -/
def setL (o i d : D) (st : Store) : Option Store := match lstAt st o, i with
  | some (n, xs), .int k => match ixN xs.length k with | some j => some (st.set n (.lst (xs.set j d))) | none => none
  | _, _ => none
def dctAt (st : Store) : D → Option (Nat × List (Key × D))
  | .obj n => match st[n]? with | some (.dk kvs) => some (n, kvs) | _ => none
  | _ => none
theorem dctAt_ok {K : PySem.W.Frag} {ρ : Pl} {H : Hp} {st : Store} {d : D} {v : V} {n : Nat} {kvs : List (Key × D)} (rs : RelSt K ρ H st) (r : RelD K ρ H d v) (e : dctAt st d = some (n, kvs)) :
    ∃ a vvs, v = .ref a ∧ ρ.r[n]? = some a ∧ H a = some (.dK vvs) ∧ RelKV K ρ H kvs vvs := by
  cases r with
  | @obj m a h =>
    simp only [dctAt] at e
    split at e
    · rename_i ys q
      cases e
      obtain ⟨vs, h1, h2⟩ := rs.at_ _ a _ h q
      exact ⟨a, vs, rfl, h, h1, h2⟩
    · cases e
  | _ => cases e
def setK (o i d : D) (st : Store) : Option Store := match dctAt st o, keyD i with
  | some (n, kvs), some k => if kvs.length < 16777216 then some (st.set n (.dk (putKD kvs k d))) else none
  | _, _ => none
def setD (o i d : D) (st : Store) : Option Store := match lstAt st o with
  | some _ => setL o i d st
  | none => setK o i d st
def rSetD (K : PySem.W.Frag) : TSet := fun o i v H Q => ∃ ρ st od id d, RelSt K ρ H st ∧ RelD K ρ H od o ∧ RelD K ρ H id i ∧ RelD K ρ H d v ∧ match setD od id d st with
  | some st' => ∀ ρ' H', Ext ρ H ρ' H' → RelSt K ρ' H' st' → Q H'
  | none => False
theorem set_all (hu : X.A.units + 1 < cLine) : PSet X (rSetD X.K) := by
  intro pins s σ H o i v ov iv u Q I ro ri rv q
  obtain ⟨ρ, st, od, id, d, rs, r1, r2, r3, q⟩ := q
  unfold setD at q
  split at q
  · rename_i st' h
    split at h
    · unfold setL at h
      split at h
      · rename_i n xs k hl
        split at h
        · rename_i j hj
          cases h
          obtain ⟨p, ws, rfl, h1, h2, h3⟩ := lstAt_ok rs r1 hl
          cases r2
          refine set_list pins s σ H _ _ v ov iv u Q I ro ri rv ⟨p, ws, k, j, rfl, rfl, h2, by rw [← h3.length]; exact hj, ?_⟩
          exact q ρ _ (Ext.mut rs h1 (fun ob u z => by rw [h2] at z; cases z)) (rs.set h1 ⟨_, upd_same, (h3.set r3 j).ext (Ext.mut rs h1 (fun ob u z => by rw [h2] at z; cases z))⟩)
        · cases h
      · cases h
    · unfold setK at h
      split at h
      · rename_i n kvs k hd hk
        split at h
        · rename_i hlen
          cases h
          obtain ⟨p, vvs, rfl, hp, h1, h2⟩ := dctAt_ok rs r1 hd
          have hw := keyD_ok r2 hk
          subst hw
          cases ro
          have hlen' : vvs.length < sizeLine := by
            have := congrArg List.length h2.1
            simp only [List.length_map] at this
            rw [sizeLine_eq, this]
            exact hlen
          refine d_setItem hu I (DPut.k h1 hlen') ri rv fun s' I' => ⟨_, I', ?_⟩
          have kv' := (RelKV.put h2 k r3).ext (Ext.mut rs (o := .dK (putK vvs k v)) hp (fun ob u z => by rw [h1] at z; cases z))
          exact q ρ _ (Ext.mut rs hp (fun ob u z => by rw [h1] at z; cases z)) (rs.set hp ⟨_, upd_same, kv'.1, kv'.2⟩)
        · cases h
      · cases h
  · exact q.elim
def gsub (fo fi : FF D) : FG := fun d env st => match fo env st with
  | .ok o st1 => match fi env st1 with
    | .ok i st2 => (setD o i d st2).map fun st3 => (env, st3)
    | _ => none
  | _ => none
theorem dg_sub (hu : X.A.units + 1 < cLine) (ho : DE X W a fa) (hi : DE X W b fb)
    (ha : ∀ v, assign (.Subscript a b pos) X.env v = (do
      let ov ← holding [v] (eval a X.env)
      let iv ← holding [v, ov] (eval b X.env)
      standAt pos
      holding [v, ov, iv] (setItem ov iv v)
      release [v, ov, iv] [])) : DG X W (.Subscript a b pos) (gsub fa fb) := by
  refine PG.imp (pg_sub ho hi (set_all hu) ha) fun v σ H Q h => ?_
  obtain ⟨ρ, env, st, d, g, r, o⟩ := h
  unfold gsub at o
  refine ⟨ρ, env, st, g, ?_⟩
  cases h1 : fa env st with
  | ok od st1 =>
    rw [h1] at o
    simp only at o
    intro ρ1 H1 v1 e1 s1 r1
    refine ⟨ρ1, env, st1, g.ext e1 s1, ?_⟩
    cases h2 : fb env st1 with
    | ok id st2 =>
      rw [h2] at o
      simp only at o
      intro ρ2 H2 v2 e2 s2 r2
      refine ⟨ρ2, st2, od, id, d, s2, r1.ext e2, r2, r.ext (e1.trans e2), ?_⟩
      cases h3 : setD od id d st2 with
      | none => rw [h3] at o; exact o.elim
      | some st3 =>
        rw [h3] at o
        exact fun ρ3 H3 e3 s3 => o ρ3 H3 σ (e1.trans (e2.trans e3)) (g.ext (e1.trans (e2.trans e3)) s3)
    | exc x st2 => rw [h2] at o; exact o.elim
    | stuck => rw [h2] at o; exact o.elim
  | exc x st1 => rw [h1] at o; exact o.elim
  | stuck => rw [h1] at o; exact o.elim
/-! assignments -/
def Opt.toS (r : Option (Env' × Store)) : RS := match r with
  | some (env, st) => .nx env st
  | none => .stuck
def fasg (f : FF D) (g : FG) : FS := fun env st => (f env st).toS env fun d st1 => Opt.toS (g d env st1)
theorem ds_asg {tg : Expr} {g : FG} (he : DE X W e fa) (hg : DG X W tg g) (hs : swapsWithSole [tg] e pos.line X.env = pure false) (hw : swappedStores [tg] e X.env = pure none) (h1 : PySem.W.isStarred tg = false) : DS X W (.Assign [tg] e pos) (fasg fa g) := by
  refine PS.imp (ps_asg he hg hs hw (by rw [assign_plain h1]; rfl)) fun D σ H h => ?_
  obtain ⟨ρ, env, st, gd, o⟩ := h
  refine ⟨ρ, env, st, gd, (OutS.bind (R := RelD X.K) gd o).mono ?_⟩
  rintro v H1 ⟨ρ1, d, st1, -, e1, s1, r1, o1⟩
  refine ⟨ρ1, env, st1, d, gd.ext e1 s1, r1, ?_⟩
  cases h : g d env st1 with
  | none => rw [h] at o1; exact o1.elim
  | some p => rw [h] at o1; exact o1
/-- a, b = x, y -/
def fpar (i j : Nat) (fs : FF (List D)) : FS := fun env st => (fs env st).toS env fun ds st1 => match ds with
  | [d, e] => .nx ((env.set i (some d)).set j (some e)) st1
  | _ => .stuck
theorem ds_par {i j : Nat} {x y : Str} {px py pt : Pos} {kt k2 pt2} (hc : X.calm = true) (hN : X.N.Nodup) (hi : X.N[i]? = some x) (hj : X.N[j]? = some y) (hij : i ≠ j)
    (hx : X.env.scope.names.lookup x = some .local) (hy : X.env.scope.names.lookup y = some .local) (ha : DA X W [a, b] fs) (hfi : Free W i) (hfj : Free W j)
    (hw : swappedStores [.Tuple [.Name x px, .Name y py] kt pt] (.Tuple [a, b] k2 pt2) X.env = pure (some [x, y])) :
    DS X W (.Assign [.Tuple [.Name x px, .Name y py] kt pt] (.Tuple [a, b] k2 pt2) pos) (fpar i j fs) := by
  refine PS.imp (ps_par hc hN hi hj hij hx hy ha hw rfl) fun D σ H h => ?_
  obtain ⟨ρ, env, st, gd, o⟩ := h
  refine ⟨ρ, env, st, gd, (OutS.bind (R := RelDs X.K) gd o).mono ?_⟩
  rintro v H1 ⟨ρ1, ds, st1, -, e1, s1, r1, o1⟩
  split at o1
  · rename_i d e
    obtain ⟨v1, v2, rfl, r2, r3⟩ := r1.two
    exact ⟨v1, v2, rfl, o1 ρ1 H1 _ Ext.refl ⟨((gd.env.ext e1).set i r2).set j r3, s1, e1.tt.trans gd.tt, ((gd.gh.stay e1.stay).set hfi).set hfj⟩⟩
  · exact o1.elim
def fpar3 (i j l : Nat) (fs : FF (List D)) : FS := fun env st => (fs env st).toS env fun ds st1 => match ds with
  | [d, e, f] => .nx (((env.set i (some d)).set j (some e)).set l (some f)) st1
  | _ => .stuck
theorem ds_par3 {i j l : Nat} {x y z : Str} {px py pz pt : Pos} {kt k2 pt2} (hc : X.calm = true) (hN : X.N.Nodup) (hi : X.N[i]? = some x) (hj : X.N[j]? = some y) (hl : X.N[l]? = some z) (hij : i ≠ j) (hil : i ≠ l) (hjl : j ≠ l)
    (hx : X.env.scope.names.lookup x = some .local) (hy : X.env.scope.names.lookup y = some .local) (hz : X.env.scope.names.lookup z = some .local) (ha : DA X W [a, b, c] fs) (hfi : Free W i) (hfj : Free W j) (hfl : Free W l)
    (hw : swappedStores [.Tuple [.Name x px, .Name y py, .Name z pz] kt pt] (.Tuple [a, b, c] k2 pt2) X.env = pure (some [x, y, z])) :
    DS X W (.Assign [.Tuple [.Name x px, .Name y py, .Name z pz] kt pt] (.Tuple [a, b, c] k2 pt2) pos) (fpar3 i j l fs) := by
  refine PS.imp (ps_par3 hc hN hi hj hl hij hil hjl hx hy hz ha hw rfl) fun D σ H h => ?_
  obtain ⟨ρ, env, st, gd, o⟩ := h
  refine ⟨ρ, env, st, gd, (OutS.bind (R := RelDs X.K) gd o).mono ?_⟩
  rintro v H1 ⟨ρ1, ds, st1, -, e1, s1, r1, o1⟩
  split at o1
  · rename_i d e f
    cases r1 with
    | cons r2 r => cases r with
      | cons r3 r => cases r with
        | cons r4 r =>
          cases r
          exact ⟨_, _, _, rfl, o1 ρ1 H1 _ Ext.refl ⟨(((gd.env.ext e1).set i r2).set j r3).set l r4, s1, e1.tt.trans gd.tt, (((gd.gh.stay e1.stay).set hfi).set hfj).set hfl⟩⟩
  · exact o1.elim
/-- x op= e -/
def ipD (op : Operator) : D → D → Store → Res D := match op with
  | .Add => fun x y st => match x, y with
    | .int i, .int j => .ok (.int (i + j)) st
    | _, _ => .stuck
  | .Sub => fun x y st => match x, y with
    | .int i, .int j => .ok (.int (i - j)) st
    | _, _ => .stuck
  | _ => fun _ _ _ => .stuck
theorem od_ip (op : Operator) : OpD X W (inplaceOp op) (ipD op) := by
  cases op with
  | Add => exact od_int0 (gd := fun i j => .int (i + j)) iop_add fun i j ρ H => .int _
  | Sub => exact od_int0 (gd := fun i j => .int (i - j)) iop_sub fun i j ρ H => .int _
  | _ => exact fun _ _ _ _ _ _ _ _ _ _ _ _ _ _ _ _ _ _ _ o => o.elim
def rIp (K : PySem.W.Frag) (g : D → D → Store → Res D) : TIp := fun x y H Q => ∃ ρ st d e, RelSt K ρ H st ∧ RelD K ρ H d x ∧ RelD K ρ H e y ∧ match g d e st with
  | .ok z st' => ∀ ρ' H' v, Ext ρ H ρ' H' → RelSt K ρ' H' st' → RelD K ρ' H' z v → Q v H'
  | _ => False
def faug (i : Nat) (op : Operator) (f : FF D) : FS := fun env st => match env[i]? with
  | some (some x) => (f env st).toS env fun y st1 => match ipD op x y st1 with
    | .ok z st2 => .nx (env.set i (some z)) st2
    | _ => .stuck
  | _ => .stuck
theorem ds_aug {i : Nat} {x : Str} {op : Operator} {pos' : Pos} (hN : X.N.Nodup) (hi : X.N[i]? = some x) (hx : Loc X.env.scope x) (he : DE X W e fa) (hf : X.fn x = true ∨ X.env.scope.names.lookup x = some .local) (hfr : Free W i) :
    DS X W (.AugAssign (.Name x pos') op e pos) (faug i op fa) := by
  have hip : PIp X op (rIp X.K (ipD op)) := by
    intro pins s σ H x y v u Q I rv ru q
    obtain ⟨ρ, st, d, e, rs, r1, r2, q⟩ := q
    split at q
    · rename_i z st' hz
      exact od_ip (W := ⟨fun _ _ _ _ => False, none, [], none⟩) op pins s σ H ρ st d e x y v u Q I rs r1 r2 rv ru (by rw [hz]; exact q)
    · exact q.elim
  refine PS.imp (ps_aug hN hi hx he hip hf) fun D σ H h => ?_
  obtain ⟨ρ, env, st, gd, o⟩ := h
  unfold faug at o
  split at o
  · rename_i x hx
    obtain ⟨v, h1, h2⟩ := gd.env.at_ i x hx
    refine ⟨v, h1, ρ, env, st, gd, (OutS.bind (R := RelD X.K) gd o).mono ?_⟩
    rintro u H1 ⟨ρ1, y, st1, -, e1, s1, r1, o1⟩
    refine ⟨ρ1, st1, x, y, s1, h2.ext e1, r1, ?_⟩
    split at o1
    · rename_i z st2 hz
      exact fun ρ2 H2 w e2 s2 r2 => o1 ρ2 H2 _ e2 ⟨(gd.env.ext (e1.trans e2)).set i r2, s2, (e1.trans e2).tt.trans gd.tt, (gd.gh.stay (e1.trans e2).stay).set hfr⟩
    · exact o1.elim
  · exact o.elim
/-! match -/
def eqB (d e : D) (st : Store) : Option Bool := match eqD false d e st with
  | .ok (.bl k) _ => some k
  | _ => none
mutual
def fpat : Pattern → D → Store → Option Bool
  | .MatchValue (.Constant (.str x) _ _) _, d, st => eqB d (.str x) st
  | .MatchAs none none _, _, _ => some true
  | .MatchOr ps _, d, st => fpats ps d st
  | _, _, _ => none
def fpats : List Pattern → D → Store → Option Bool
  | [], _, _ => some false
  | p :: ps, d, st => match fpat p d st with
    | some true => some true
    | some false => fpats ps d st
    | none => none
end
section
variable {pins : List (Addr × Obj)} {s : Shared} {σ : L2.St} {H : Hp} {ρ : Pl} {st : Store} {d : D} {v : V} {v' : Value}
theorem filterMap_none : ∀ l : List Str, (l.filterMap fun n => (([] : List (Str × Value)).lookup n).map (n, ·)) = []
  | [] => rfl
  | n :: l => by rw [List.filterMap_cons]; exact filterMap_none l
theorem eqB_walk (hu : X.A.units + 64 < cLine) {x : Str} {j : Nat} {p1 p2 : Pos} {k : Bool} {Q : Option (List (Str × Value)) → Shared → Prop} (I : L2.Inv X pins σ H s) (rs : RelSt X.K ρ H st) (r : RelD X.K ρ H d v) (rv : RelV v v')
    (e : eqB d (.str x) st = some k) (h : ∀ s' H' ρ', L2.Inv X pins σ H' s' → Ext ρ H ρ' H' → RelSt X.K ρ' H' st → Q (if k then some [] else none) s') : wpAny (model X.prog X.w) X.A (matchPattern (.MatchValue (.Constant (.str x) j p1) p2) X.env v') Q X.xe s := by
  refine wpAny_matchPattern_Value (thn ((pe_str (X := X) (x := x) (j := j) (pos := p1)).run pins s σ H (fun w H' => w = .str x ∧ H' = H) I ⟨rfl, rfl⟩) ?_)
  rintro u s1 ⟨w, H1, I1, r1, rfl, rfl⟩
  have o : OutE X.K ⟨fun _ _ _ _ => False, none, [], none⟩ ρ H1 σ (eqD false d (.str x) st) (fun v H' => v = .bl k ∧ ∃ ρ', Ext ρ H1 ρ' H' ∧ RelSt X.K ρ' H' st) := by
    unfold eqB at e
    split at e
    · rename_i k' st' he
      cases e
      rw [he]
      have hst : st' = st := by
        unfold eqD at he
        split at he
        · split at he
          · cases he; rfl
          · cases he
        · cases he
      subst hst
      intro ρ' H' w ex rs' r'
      cases r'
      exact ⟨rfl, ρ', ex, rs'⟩
    · cases e
  refine thn (od_eq hu pins s1 σ H1 ρ st d (.str x) v (.str x) v' u _ I1 rs r (.str x) rv r1 o) ?_
  rintro c s2 ⟨w, H2, I2, r2, rfl, ρ2, ex, rs2⟩
  cases r2
  refine wpAny_truthy_bool ?_
  have := h s2 H2 ρ2 I2 ex rs2
  cases k
  · exact this
  · exact this
mutual
theorem pat_walk (hu : X.A.units + 64 < cLine) : ∀ (p : Pattern) {pins : List (Addr × Obj)} {s : Shared} {σ : L2.St} {H : Hp} {ρ : Pl} {st : Store} {d : D} {v : V} {v' : Value} {k : Bool} {Q : Option (List (Str × Value)) → Shared → Prop}, L2.Inv X pins σ H s → RelSt X.K ρ H st → RelD X.K ρ H d v → RelV v v' →
    fpat p d st = some k → (∀ s' H' ρ', L2.Inv X pins σ H' s' → Ext ρ H ρ' H' → RelSt X.K ρ' H' st → Q (if k then some [] else none) s') → wpAny (model X.prog X.w) X.A (matchPattern p X.env v') Q X.xe s
  | .MatchValue (.Constant (.str x) j p1) p2, _, _, _, _, _, _, _, _, _, _, _, I, rs, r, rv, e, h => eqB_walk hu I rs r rv e h
  | .MatchAs none none p, _, s, _, H, ρ, _, _, _, _, _, Q, I, rs, r, rv, e, h => by
    simp only [fpat, Option.some.injEq] at e
    subst e
    exact wpAny_matchPattern_Capture (h s H ρ I Ext.refl rs)
  | .MatchOr ps p, pins, s, σ, H, ρ, st, d, v, v', k, Q, I, rs, r, rv, e, h => by
    refine wpAny_matchPattern_Or (pats_walk hu ps I rs r rv (by simpa only [fpat] using e) fun s' H' ρ' I' ex rs' => ?_)
    have := h s' H' ρ' I' ex rs'
    cases k with
    | false => exact this
    | true =>
      simp only [if_true] at this ⊢
      rw [filterMap_none]
      exact this
  | .MatchSingleton _ _, _, _, _, _, _, _, _, _, _, _, _, _, _, _, _, e, _ => by simp [fpat] at e
  | .MatchSequence _ _, _, _, _, _, _, _, _, _, _, _, _, _, _, _, _, e, _ => by simp [fpat] at e
  | .MatchMapping _ _ _ _, _, _, _, _, _, _, _, _, _, _, _, _, _, _, _, e, _ => by simp [fpat] at e
  | .MatchClass _ _ _ _ _, _, _, _, _, _, _, _, _, _, _, _, _, _, _, _, e, _ => by simp [fpat] at e
  | .MatchStar _ _, _, _, _, _, _, _, _, _, _, _, _, _, _, _, _, e, _ => by simp [fpat] at e
  | .MatchAs (some _) _ _, _, _, _, _, _, _, _, _, _, _, _, _, _, _, _, e, _ => by simp [fpat] at e
  | .MatchAs none (some _) _, _, _, _, _, _, _, _, _, _, _, _, _, _, _, _, e, _ => by simp [fpat] at e
  | .MatchValue v _, _, _, _, _, _, _, _, _, _, _, _, I, rs, r, rv, e, h => by
    unfold fpat at e
    split at e
    · rename_i hx; cases hx; exact eqB_walk hu I rs r rv e h
    · rename_i hx; cases hx
    · rename_i hx; cases hx
    · cases e
theorem pats_walk (hu : X.A.units + 64 < cLine) : ∀ (ps : List Pattern) {pins : List (Addr × Obj)} {s : Shared} {σ : L2.St} {H : Hp} {ρ : Pl} {st : Store} {d : D} {v : V} {v' : Value} {k : Bool} {Q : Option (List (Str × Value)) → Shared → Prop}, L2.Inv X pins σ H s → RelSt X.K ρ H st → RelD X.K ρ H d v → RelV v v' →
    fpats ps d st = some k → (∀ s' H' ρ', L2.Inv X pins σ H' s' → Ext ρ H ρ' H' → RelSt X.K ρ' H' st → Q (if k then some [] else none) s') → wpAny (model X.prog X.w) X.A (matchFirst ps X.env v') Q X.xe s
  | [], _, s, _, H, ρ, _, _, _, _, _, Q, I, rs, r, rv, e, h => by
    simp only [fpats, Option.some.injEq] at e
    subst e
    exact wpAny_matchFirst_nil (h s H ρ I Ext.refl rs)
  | p :: ps, pins, s, σ, H, ρ, st, d, v, v', k, Q, I, rs, r, rv, e, h => by
    simp only [fpats] at e
    refine wpAny_matchFirst_cons ?_
    split at e
    · rename_i hp
      cases e
      exact pat_walk hu p I rs r rv hp fun s' H' ρ' I' ex rs' => h s' H' ρ' I' ex rs'
    · rename_i hp
      exact pat_walk hu p I rs r rv hp fun s' H' ρ' I' ex rs' => pats_walk hu ps I' rs' (r.ext ex) rv e fun s2 H2 ρ2 I2 ex2 rs2 => h s2 H2 ρ2 I2 (ex.trans ex2) rs2
    · cases e
end
end
/-- the cases of a match -/
def MC (X : Cx) (W : WG) (cs : List MatchCase) (g : D → FS) : Prop := ∀ (pins : List (Addr × Obj)) (s : Shared) (σ : L2.St) (H : Hp) (ρ : Pl) (env : Env') (st : Store) (d : D) (v : V) (v' : Value) (first : Bool) (Dn : Ends), L2.Inv X pins σ H s → Good X.K W ρ H env σ st → RelD X.K ρ H d v → RelV v v' →
  OutS X.K W ρ H (g d env st) Dn → wpAny (model X.prog X.w) X.A (matchCases cs X.env v' first) (SP X pins Dn) X.xe s
theorem mc_nil : MC X W [] fun _ => fskip := fun pins s σ H ρ env st d v v' first Dn I g r rv o => wpAny_matchCases_nil ⟨σ, H, I, o ρ H σ Ext.refl g⟩
def fcase (p : Pattern) (f : FS) (g : D → FS) : D → FS := fun d env st => match fpat p d st with
  | some true => f env st
  | some false => g d env st
  | none => .stuck
theorem mc_cons (hu : X.A.units + 64 < cLine) {p : Pattern} {body : List Stmt} {rest : List MatchCase} {f : FS} {g : D → FS} (hb : DSs X W body f) (hr : MC X W rest g) : MC X W (⟨p, none, body⟩ :: rest) (fcase p f g) := by
  intro pins s σ H ρ env st d v v' first Dn I gd r rv o
  unfold fcase at o
  refine wpAny_matchCases_cons ?_
  split at o
  · rename_i hp
    refine pat_walk hu p I gd.st r rv hp fun s' H' ρ' I' ex rs' => ?_
    exact wpAny_assignInOrder_none (hb.run pins s' σ H' Dn I' ⟨ρ', env, st, gd.ext ex rs', OutS.from_ ex o⟩)
  · rename_i hp
    exact pat_walk hu p I gd.st r rv hp fun s' H' ρ' I' ex rs' => hr pins s' σ H' ρ' env st d v v' false Dn I' (gd.ext ex rs') (r.ext ex) rv (OutS.from_ ex o)
  · exact o.elim
def fmatch (f : FF D) (g : D → FS) : FS := fun env st => (f env st).toS env fun d st1 => g d env st1
theorem ds_match {cs : List MatchCase} {g : D → FS} (he : DE X W e fa) (hc : MC X W cs g) : DS X W (.Match e cs pos) (fmatch fa g) := by
  refine ⟨fun pins s σ H Dn I h => ?_⟩
  obtain ⟨ρ, env, st, gd, o⟩ := h
  refine wpAny_Match (thn (he.run pins s σ H _ I ⟨ρ, env, st, gd, OutS.bind (R := RelD X.K) gd o⟩) ?_)
  rintro v' s1 ⟨v, H1, I1, rv, ρ1, d, st1, -, e1, s1', r1, o1⟩
  exact hc pins s1 σ H1 ρ1 env st1 d v v' true Dn I1 (gd.ext e1 s1') r1 rv o1
end
end DL
end
section
/-! DL10: what is walked, for, while, list comprehensions. -/
namespace DL
open PySem PySem.Spec PyProof.Rows L2
/-- what a loop goes through; chk: whether it stands as it stood -/
structure Items where
  xs : List D
  chk : Store → Bool
/-- an iterator of the machine that gives these items -/
structure ItD (K : PySem.W.Frag) (J : It) (P : Pl → Hp → Prop) (it : Items) : Prop where
  stay : ∀ ρ H ρ' H', StayF ρ H ρ' H' → P ρ H → P ρ' H'
  stop : ∀ ρ H st i, RelSt K ρ H st → it.chk st = true → P ρ H → i = it.xs.length → J.stop i H
  go : ∀ ρ H st i, RelSt K ρ H st → it.chk st = true → P ρ H → i < it.xs.length → J.go i H
  yld : ∀ ρ H st i d x H', RelSt K ρ H st → it.chk st = true → P ρ H → it.xs[i]? = some d → J.yld i H x H' → ∃ ρ', Ext ρ H ρ' H' ∧ RelSt K ρ' H' st ∧ RelD K ρ' H' d x
section
variable {K : PySem.W.Frag} {W : WG}
def OutI (K : PySem.W.Frag) (W : WG) (ρ : Pl) (H : Hp) (σ : L2.St) (r : Res Items) (R : It → Hp → Prop) : Prop := match r with
  | .ok it st' => ∀ ρ' H' J P, Ext ρ H ρ' H' → RelSt K ρ' H' st' → P ρ' H' → ItD K J P it → it.chk st' = true → R J H'
  | .exc x st' => ∀ ρ' H' cls dx, Ext ρ H ρ' H' → RelSt K ρ' H' st' → RelX K ρ' H' x cls dx → W.w cls dx σ H'
  | .stuck => False
def lI (K : PySem.W.Frag) (W : WG) (f : FF Items) : TI := fun σ H R => ∃ ρ env st, Good K W ρ H env σ st ∧ OutI K W ρ H σ (f env st) R
end
section
variable {X : Cx} {W : WG} {a b c e : Expr} {fa fb fc : FF D} {pos : Pos} {es : List Expr} {fs : FF (List D)} {s1 s2 : FS} {tg iter : Expr}
abbrev DI (X : Cx) (W : WG) (tg iter : Expr) (f : FF Items) : Prop := PI X tg iter (lI X.K W f)
theorem PI.imp {w w' : TI} (h : PI X tg iter w) (i : ∀ σ H R, w' σ H R → w σ H R) : PI X tg iter w' := ⟨fun pins s σ H R I q => h.run pins s σ H R I (i _ _ _ q)⟩
theorem PI.or {w w' : TI} (h : PI X tg iter w) (h' : PI X tg iter w') : PI X tg iter (fun σ H R => w σ H R ∨ w' σ H R) := ⟨fun pins s σ H R I q => by
  rcases q with q | q
  · exact h.run pins s σ H R I q
  · exact h'.run pins s σ H R I q⟩
/-! == of data, to see that a list stands as it stood -/
mutual
def beqD : D → D → Bool
  | .non, .non => true
  | .bl a, .bl b => a == b
  | .int a, .int b => a == b
  | .str a, .str b => a == b
  | .ty a, .ty b => a == b
  | .glb a, .glb b => a == b
  | .tup a, .tup b => beqDs a b
  | .lst a, .lst b => beqDs a b
  | .scr a, .scr b => beqDs a b
  | .obj a, .obj b => a == b
  | .pr a, .pr b => beqDs a b
  | _, _ => false
def beqDs : List D → List D → Bool
  | [], [] => true
  | x :: xs, y :: ys => beqD x y && beqDs xs ys
  | _, _ => false
end
mutual
theorem beqD_eq : ∀ {a b : D}, beqD a b = true → a = b
  | .non, b, h => by cases b <;> first | rfl | cases h
  | .bl a, b, h => by cases b <;> first | (simp [beqD] at h; rw [h]) | cases h
  | .int a, b, h => by cases b <;> first | (simp [beqD] at h; rw [h]) | cases h
  | .str a, b, h => by cases b <;> first | (simp [beqD] at h; rw [h]) | cases h
  | .ty a, b, h => by cases b <;> first | (simp [beqD] at h; rw [h]) | cases h
  | .glb a, b, h => by cases b <;> first | (simp [beqD] at h; rw [h]) | cases h
  | .obj a, b, h => by cases b <;> first | (simp [beqD] at h; rw [h]) | cases h
  | .tup a, b, h => by
    cases b with
    | tup b => rw [beqDs_eq (a := a) (b := b) (by simpa [beqD] using h)]
    | _ => cases h
  | .lst a, b, h => by
    cases b with
    | lst b => rw [beqDs_eq (a := a) (b := b) (by simpa [beqD] using h)]
    | _ => cases h
  | .scr a, b, h => by
    cases b with
    | scr b => rw [beqDs_eq (a := a) (b := b) (by simpa [beqD] using h)]
    | _ => cases h
  | .pr a, b, h => by
    cases b with
    | pr b => rw [beqDs_eq (a := a) (b := b) (by simpa [beqD] using h)]
    | _ => cases h
theorem beqDs_eq : ∀ {a b : List D}, beqDs a b = true → a = b
  | [], [], _ => rfl
  | [], _ :: _, h => by cases h
  | _ :: _, [], h => by cases h
  | x :: xs, y :: ys, h => by
    simp only [beqDs, Bool.and_eq_true] at h
    rw [beqD_eq h.1, beqDs_eq h.2]
end
mutual
theorem beqD_refl : ∀ a : D, beqD a a = true
  | .non => rfl
  | .bl a => by simp [beqD]
  | .int a => by simp [beqD]
  | .str a => by simp [beqD]
  | .ty a => by simp [beqD]
  | .glb a => by simp [beqD]
  | .obj a => by simp [beqD]
  | .tup a => by simpa [beqD] using beqDs_refl a
  | .lst a => by simpa [beqD] using beqDs_refl a
  | .scr a => by simpa [beqD] using beqDs_refl a
  | .pr a => by simpa [beqD] using beqDs_refl a
theorem beqDs_refl : ∀ a : List D, beqDs a a = true
  | [] => rfl
  | x :: xs => by simp [beqDs, beqD_refl x, beqDs_refl xs]
end
/-- the list stands as it stood -/
def stands (d : D) (xs : List D) (st : Store) : Bool := match d with
  | .obj n => match st[n]? with | some (.lst ys) => beqDs ys xs | _ => false
  | _ => true
theorem stands_now {d : D} {xs : List D} {st : Store} (h : seqL st d = some xs) : stands d xs st = true := by
  cases d <;> try rfl
  rename_i n
  simp only [seqL] at h
  simp only [stands]
  split at h
  · rename_i q
    cases h
    first | (rw [q]; exact beqDs_refl _) | exact beqDs_refl _
  · cases h
theorem seqL_later {d : D} {xs : List D} {st0 st : Store} (h0 : seqL st0 d = some xs) (h : stands d xs st = true) : seqL st d = some xs := by
  cases d <;> first | exact h0 | skip
  rename_i n
  simp only [stands] at h
  simp only [seqL]
  split at h
  · rename_i q
    first | (rw [q]; exact congrArg some (beqDs_eq h)) | exact congrArg some (beqDs_eq h)
  · cases h
/-- a list, a tuple, a text -/
def itemsD (d : D) (st : Store) : Option Items := match d with
  | .tup xs => some ⟨xs, fun _ => true⟩
  | .str x => some ⟨x.cps.toList.map fun c => .str ⟨#[c]⟩, fun _ => true⟩
  | d => (seqL st d).map fun xs => ⟨xs, stands d xs⟩
def fitems (f : FF D) : FF Items := fun env st => (f env st).bind fun d st1 => match itemsD d st1 with
  | some it => .ok it st1
  | none => .stuck
theorem itd_list {K : PySem.W.Frag} {a : Addr} {d : D} {xs : List D} {st0 : Store} (h0 : seqL st0 d = some xs) : ItD K (Itl K a) (fun ρ H => RelD K ρ H d (.ref a)) ⟨xs, stands d xs⟩ where
  stay := fun ρ H ρ' H' s r => r.stay s.toStay
  stop := fun ρ H st i rs hc r hi => by
    obtain ⟨p, vs, e, h1, h2⟩ := seqL_ok rs r (seqL_later h0 hc)
    cases e
    exact ⟨vs, h1, by rw [← h2.length]; exact Nat.le_of_eq hi.symm⟩
  go := fun ρ H st i rs hc r hi => by
    obtain ⟨p, vs, e, h1, h2⟩ := seqL_ok rs r (seqL_later h0 hc)
    cases e
    obtain ⟨v, h3, _⟩ := h2.get (List.getElem?_eq_getElem hi)
    exact ⟨vs, v, h1, h3⟩
  yld := fun ρ H st i d' x H' rs hc r hd y => by
    obtain ⟨p, vs, e, h1, h2⟩ := seqL_ok rs r (seqL_later h0 hc)
    cases e
    obtain ⟨v, h3, h4⟩ := h2.get hd
    obtain ⟨rfl, y⟩ := y
    have := y vs h1
    rw [h3] at this
    cases this
    exact ⟨ρ, Ext.refl, rs, h4⟩
theorem itd_tup {K : PySem.W.Frag} {a : Addr} {xs : List D} : ItD K (Itt K a) (fun ρ H => RelD K ρ H (.tup xs) (.ref a)) ⟨xs, fun _ => true⟩ where
  stay := fun ρ H ρ' H' s r => r.stay s.toStay
  stop := fun ρ H st i rs hc r hi => by
    obtain ⟨p, vs, e, h1, h2⟩ := tup_ok r
    cases e
    exact ⟨vs, h1, by rw [← h2.length]; exact Nat.le_of_eq hi.symm⟩
  go := fun ρ H st i rs hc r hi => by
    obtain ⟨p, vs, e, h1, h2⟩ := tup_ok r
    cases e
    obtain ⟨v, h3, _⟩ := h2.get (List.getElem?_eq_getElem hi)
    exact ⟨vs, v, h1, h3⟩
  yld := fun ρ H st i d' x H' rs hc r hd y => by
    obtain ⟨p, vs, e, h1, h2⟩ := tup_ok r
    cases e
    obtain ⟨v, h3, h4⟩ := h2.get hd
    obtain ⟨rfl, y⟩ := y
    have := y vs h1
    rw [h3] at this
    cases this
    exact ⟨ρ, Ext.refl, rs, h4⟩
theorem itd_str {K : PySem.W.Frag} {x : Str} : ItD K (Its x) (fun _ _ => True) ⟨x.cps.toList.map fun c => .str ⟨#[c]⟩, fun _ => true⟩ where
  stay := fun _ _ _ _ _ _ => trivial
  stop := fun ρ H st i rs hc r hi => by have := Nat.le_of_eq hi.symm; simpa [Its] using this
  go := fun ρ H st i rs hc r hi => by simpa [Its] using hi
  yld := fun ρ H st i d' y H' rs hc r hd q => by
    obtain ⟨rfl, ch, h1, rfl⟩ := q
    rw [List.getElem?_map] at hd
    have : x.cps.toList[i]? = some ch := by simpa using h1
    rw [this] at hd
    cases hd
    exact ⟨ρ, Ext.refl, rs, .str _⟩
theorem itd_range {K : PySem.W.Frag} {lo : Int} {n : Nat} : ItD K (Itr lo n) (fun _ _ => True) ⟨(List.range n).map fun (i : Nat) => .int (lo + i), fun _ => true⟩ where
  stay := fun _ _ _ _ _ _ => trivial
  stop := fun ρ H st i rs hc r hi => by have := Nat.le_of_eq hi.symm; simpa [Itr] using this
  go := fun ρ H st i rs hc r hi => by simpa [Itr] using hi
  yld := fun ρ H st i d' y H' rs hc r hd q => by
    obtain ⟨rfl, rfl⟩ := q
    rw [List.getElem?_map] at hd
    have hi : i < n := by
      cases h : (List.range n)[i]? with
      | none => rw [h] at hd; cases hd
      | some k => simpa using (List.getElem?_eq_some_iff.mp h).1
    rw [List.getElem?_range hi] at hd
    cases hd
    exact ⟨ρ, Ext.refl, rs, .int _⟩
theorem di_val (h : DE X W iter fa) : DI X W tg iter (fitems fa) := by
  refine PI.imp (PI.or (pi_str h) (PI.or (pi_tup h) (pi_list h))) fun σ H R q => ?_
  obtain ⟨ρ, env, st, g, o⟩ := q
  have key : OutE X.K W ρ H σ (fa env st) (fun v H1 => ∃ ρ1 d st1 it, fa env st = .ok d st1 ∧ RelSt X.K ρ1 H1 st1 ∧ RelD X.K ρ1 H1 d v ∧ itemsD d st1 = some it ∧ ∀ J P, P ρ1 H1 → ItD X.K J P it → it.chk st1 = true → R J H1) := by
    unfold fitems at o
    cases hf : fa env st with
    | exc x st1 => rw [hf] at o; exact o
    | stuck => rw [hf] at o; exact o
    | ok d st1 =>
      rw [hf] at o
      intro ρ1 H1 v e1 s1 r1
      simp only [Res.bind] at o
      cases hi : itemsD d st1 with
      | none => rw [hi] at o; exact o.elim
      | some it =>
        rw [hi] at o
        exact ⟨ρ1, d, st1, it, rfl, s1, r1, hi, fun J P hp hI hc => o ρ1 H1 J P e1 s1 hp hI hc⟩
  cases hf : fa env st with
  | exc x st1 => rw [hf] at key; exact .inl ⟨ρ, env, st, g, by rw [hf]; exact key⟩
  | stuck => rw [hf] at key; exact key.elim
  | ok d st1 =>
    rw [hf] at key
    cases d with
    | str x =>
      refine .inl ⟨ρ, env, st, g, ?_⟩
      rw [hf]
      refine OutR.mono key ?_
      rintro v H1 ⟨ρ1, d1, st2, it, e, s1, r1, hi, q⟩
      cases e; cases r1; cases hi
      exact ⟨x, rfl, q _ _ trivial itd_str rfl⟩
    | tup xs =>
      refine .inr (.inl ⟨ρ, env, st, g, ?_⟩)
      rw [hf]
      refine OutR.mono key ?_
      rintro v H1 ⟨ρ1, d1, st2, it, e, s1, r1, hi, q⟩
      cases e; cases hi
      obtain ⟨p, vs, rfl, h1, h2⟩ := tup_ok r1
      exact ⟨p, rfl, ⟨vs, h1⟩, q _ _ r1 itd_tup rfl⟩
    | _ =>
      refine .inr (.inr ⟨ρ, env, st, g, ?_⟩)
      rw [hf]
      refine OutR.mono key ?_
      rintro v H1 ⟨ρ1, d1, st2, it, e, s1, r1, hi, q⟩
      cases e
      simp only [itemsD, Option.map_eq_some_iff] at hi
      obtain ⟨xs, hx, rfl⟩ := hi
      obtain ⟨p, vs, rfl, h1, h2⟩ := seqL_ok s1 r1 hx
      exact ⟨p, rfl, ⟨vs, h1⟩, q _ _ r1 (itd_list hx) (stands_now hx)⟩
def okR (i : Int) : Bool := decide (-(2 ^ 62) ≤ i) && decide (i < 2 ^ 62)
def frange1 (f : FF D) : FF Items := fun env st => (f env st).bind fun d st1 => match d with
  | .int j => if okR j then .ok ⟨(List.range j.toNat).map fun (i : Nat) => .int (0 + i), fun _ => true⟩ st1 else .stuck
  | _ => .stuck
theorem di_range1 {p : Pos} (hg : Gl X "range") (hm : X.mg "range" = none) (ha : DE X W a fa) (hs : PySem.W.isStarred a = false) : DI X W tg (.Call (.Name "range" p) [a] [] pos) (frange1 fa) := by
  refine PI.imp (pi_range1 hg hm (da_cons ha da_nil hs) (by rw [star_plain hs]; rfl)) fun σ H R q => ?_
  obtain ⟨ρ, env, st, g, o⟩ := q
  refine ⟨ρ, env, st, g, ?_⟩
  unfold frange1 at o
  unfold fcons
  cases hf : fa env st with
  | exc x st1 => rw [hf] at o; exact o
  | stuck => rw [hf] at o; exact o
  | ok d st1 =>
    rw [hf] at o
    cases d with
    | int j =>
      simp only [Res.bind] at o
      split at o
      · rename_i hr
        simp only [okR, Bool.and_eq_true, decide_eq_true_eq] at hr
        intro ρ1 H1 vs e1 s1 r1
        obtain ⟨v, rfl, r2⟩ := r1.one
        cases r2
        exact ⟨j, rfl, hr.1, hr.2, o ρ1 H1 _ _ e1 s1 trivial itd_range rfl⟩
      · exact o.elim
    | _ => exact o.elim
def frange2 (f g : FF D) : FF Items := fun env st => (f env st).bind fun d st1 => (g env st1).bind fun e st2 => match d, e with
  | .int i, .int j => if okR i && okR j then .ok ⟨(List.range (j - i).toNat).map fun (k : Nat) => .int (i + k), fun _ => true⟩ st2 else .stuck
  | _, _ => .stuck
theorem di_range2 {p : Pos} (hg : Gl X "range") (hm : X.mg "range" = none) (ha : DE X W a fa) (hb : DE X W b fb) (hs : PySem.W.isStarred a = false) (hs2 : PySem.W.isStarred b = false) : DI X W tg (.Call (.Name "range" p) [a, b] [] pos) (frange2 fa fb) := by
  refine PI.imp (pi_range2 hg hm (da_cons ha (da_cons hb da_nil hs2) hs) (by rw [star_plain hs, star_plain hs2]; rfl) (by rw [star_plain hs2]; rfl)) fun σ H R q => ?_
  obtain ⟨ρ, env, st, g, o⟩ := q
  refine ⟨ρ, env, st, g, ?_⟩
  unfold frange2 at o
  unfold fcons
  cases hf : fa env st with
  | exc x st1 => rw [hf] at o; exact o
  | stuck => rw [hf] at o; exact o
  | ok d st1 =>
    rw [hf] at o
    simp only [Res.bind] at o ⊢
    cases hh : fb env st1 with
    | exc x st1 => rw [hh] at o; simp only [fcons, hh, Res.bind]; exact o
    | stuck => rw [hh] at o; exact o.elim
    | ok e st2 =>
      rw [hh] at o
      simp only [fcons, hh, Res.bind, fnil]
      cases d with
      | int i =>
        cases e with
        | int j =>
          simp only at o
          split at o
          · rename_i hr
            simp only [okR, Bool.and_eq_true, decide_eq_true_eq] at hr
            intro ρ1 H1 vs e1 s1 r1
            obtain ⟨v, u, rfl, r2, r3⟩ := r1.two
            cases r2; cases r3
            exact ⟨i, j, rfl, ⟨hr.1.1, hr.1.2, hr.2.1, hr.2.2⟩, o ρ1 H1 _ _ e1 s1 trivial itd_range rfl⟩
          · exact o.elim
        | _ => exact o.elim
      | _ => exact o.elim
/-- range(a, b, c) -/
def okC (i j c : Int) : Bool := decide (c ≠ 0) && decide (c.natAbs < 1073741824) && Builtin.Range.small i j c && decide (0 ≤ Builtin.Range.rangeSize i j c)
def frange3 (fs : FF (List D)) : FF Items := fun env st => (fs env st).bind fun ds st1 => match ds with
  | [.int i, .int j, .int c] => if okC i j c then .ok ⟨(List.range (Builtin.Range.rangeSize i j c).toNat).map fun (k : Nat) => .int (i + k * c), fun _ => true⟩ st1 else .stuck
  | _ => .stuck
theorem itd_rangeC {K : PySem.W.Frag} {lo c : Int} {n : Nat} : ItD K (Itc lo c n) (fun _ _ => True) ⟨(List.range n).map fun (i : Nat) => .int (lo + i * c), fun _ => true⟩ where
  stay := fun _ _ _ _ _ _ => trivial
  stop := fun ρ H st i rs hc r hi => by have := Nat.le_of_eq hi.symm; simpa [Itc] using this
  go := fun ρ H st i rs hc r hi => by simpa [Itc] using hi
  yld := fun ρ H st i d' y H' rs hc r hd q => by
    obtain ⟨rfl, rfl⟩ := q
    rw [List.getElem?_map] at hd
    have hi : i < n := by
      cases h : (List.range n)[i]? with
      | none => rw [h] at hd; cases hd
      | some k => simpa using (List.getElem?_eq_some_iff.mp h).1
    rw [List.getElem?_range hi] at hd
    cases hd
    exact ⟨ρ, Ext.refl, rs, .int _⟩
theorem di_range3 {b' c' : Expr} {fs : FF (List D)} {p : Pos} (hg : Gl X "range") (hm : X.mg "range" = none) (ha : DA X W [a, b', c'] fs) (hs : PySem.W.isStarred a = false) (hs2 : PySem.W.isStarred b' = false) (hs3 : PySem.W.isStarred c' = false) : DI X W tg (.Call (.Name "range" p) [a, b', c'] [] pos) (frange3 fs) := by
  refine PI.imp (pi_range3 hg hm ha (by rw [star_plain hs]) (by rw [star_plain hs2, star_plain hs3]; rfl)) fun σ H R q => ?_
  obtain ⟨ρ, env, st, g, o⟩ := q
  refine ⟨ρ, env, st, g, ?_⟩
  unfold frange3 at o
  cases hf : fs env st with
  | exc x st1 => rw [hf] at o; exact o
  | stuck => rw [hf] at o; exact o
  | ok ds st1 =>
    rw [hf] at o
    simp only [Res.bind] at o
    split at o
    · rename_i i j c
      split at o
      · rename_i hr
        simp only [okC, Bool.and_eq_true, decide_eq_true_eq] at hr
        intro ρ1 H1 vs e1 s1 r1
        cases r1 with
        | cons q1 r1 =>
          cases r1 with
          | cons q2 r1 =>
            cases r1 with
            | cons q3 r1 =>
              cases r1
              cases q1; cases q2; cases q3
              exact ⟨i, j, c, _, rfl, ⟨hr.1.1.1, hr.1.1.2, hr.1.2, (Int.toNat_of_nonneg hr.2).symm⟩, o ρ1 H1 _ _ e1 s1 trivial itd_rangeC rfl⟩
      · exact o.elim
    · exact o.elim
/-! for -/
def forL (chk : Store → Bool) (g : FG) (body : FS) : List D → FS
  | [] => fun env st => if chk st then .nx env st else .stuck
  | x :: r => fun env st => if chk st then (match g x env st with
    | some (env1, st1) => match body env1 st1 with
      | .nx env2 st2 => forL chk g body r env2 st2
      | .ct env2 st2 => forL chk g body r env2 st2
      | .bk env2 st2 => .nx env2 st2
      | .rt d st2 => .rt d st2
      | .exc x env2 st2 => .exc x env2 st2
      | .stuck => .stuck
    | none => .stuck) else .stuck
def ffor (fi : FF Items) (g : FG) (body : FS) : FS := fun env st => (fi env st).toS env fun it st1 => forL it.chk g body it.xs env st1
def noSet : Expr → Bool
  | .Set _ _ _ => false
  | _ => true
theorem folded_val {x : Value} {env : PySem.Env} (h : noSet iter = true) : foldedSetIterable iter env x = pure x := by
  cases iter <;> first | rfl | cases h
theorem forL_chk {chk : Store → Bool} {g : FG} {body : FS} {l : List D} {env : Env'} {st : Store} {K : PySem.W.Frag} {W : WG} {ρ : Pl} {H : Hp} {Dn : Ends} (o : OutS K W ρ H (forL chk g body l env st) Dn) : chk st = true := by
  cases l with
  | nil =>
    unfold forL at o
    split at o
    · assumption
    · exact o.elim
  | cons x r =>
    unfold forL at o
    split at o
    · assumption
    · exact o.elim
theorem ds_for {fi : FF Items} {g : FG} {body : List Stmt} {fb : FS} (hp : PassesOwn (model X.prog X.w) X.A X.env X.xe) (hc : X.calm = true) (hi : DI X W tg iter fi) (hg : DG X W tg g) (hb : DSs X W body fb) (hs : noSet iter = true) :
    DS X W (.For tg iter body [] pos) (ffor fi g fb) := by
  refine PS.imp (ps_for hp hc hi hg hb fun x => folded_val hs) fun Dn σ H q => ?_
  obtain ⟨ρ, env, st, gd, o⟩ := q
  refine ⟨ρ, env, st, gd, ?_⟩
  unfold ffor at o
  cases hf : fi env st with
  | exc x st1 => rw [hf] at o; exact fun ρ' H' cls dx e s q => o ρ' H' σ cls dx e (gd.ext e s) q
  | stuck => rw [hf] at o; exact o.elim
  | ok it st1 =>
    rw [hf] at o
    intro ρ1 H1 J P e1 s1 hP hI hchk
    have o1 : OutS X.K W ρ1 H1 (forL it.chk g fb it.xs env st1) Dn := OutS.from_ e1 o
    refine ⟨fun i m σ H => ∃ ρ env st, m = it.xs.length - i ∧ i ≤ it.xs.length ∧ Good X.K W ρ H env σ st ∧ P ρ H ∧ OutS X.K W ρ H (forL it.chk g fb (it.xs.drop i) env st) Dn, ⟨_, ρ1, env, st1, rfl, Nat.zero_le _, gd.ext e1 s1, hP, by simpa using o1⟩, ?_⟩
    rintro i m σ2 H2 ⟨ρ2, env2, st2, rfl, hle, g2, hP2, o2⟩
    have hc2 := forL_chk o2
    by_cases hlt : i < it.xs.length
    · refine .inr ⟨hI.go ρ2 H2 st2 i g2.st hc2 hP2 hlt, _, fun σ' H' q => q, fun x H' y => ?_⟩
      obtain ⟨ρ3, e3, s3, r3⟩ := hI.yld ρ2 H2 st2 i _ x H' g2.st hc2 hP2 (List.getElem?_eq_getElem hlt) y
      rw [List.drop_eq_getElem_cons hlt] at o2
      unfold forL at o2
      rw [if_pos hc2] at o2
      refine ⟨ρ3, env2, st2, it.xs[i], g2.ext e3 s3, r3, ?_⟩
      cases hgx : g it.xs[i] env2 st2 with
      | none => rw [hgx] at o2; exact o2.elim
      | some p =>
        obtain ⟨env3, st3⟩ := p
        rw [hgx] at o2
        simp only at o2
        intro ρ4 H4 σ4 e4 g4
        refine ⟨ρ4, env3, st3, g4, ?_⟩
        have back : ∀ {env5 : Env'} {st5 : Store}, OutS X.K W ρ2 H2 (forL it.chk g fb (it.xs.drop (i + 1)) env5 st5) Dn → ∀ ρ5 H5 σ5, Ext ρ4 H4 ρ5 H5 → Good X.K W ρ5 H5 env5 σ5 st5 →
            ∃ m', m' < it.xs.length - i ∧ ∃ ρ env st, m' = it.xs.length - (i + 1) ∧ i + 1 ≤ it.xs.length ∧ Good X.K W ρ H5 env σ5 st ∧ P ρ H5 ∧ OutS X.K W ρ H5 (forL it.chk g fb (it.xs.drop (i + 1)) env st) Dn := by
          intro env5 st5 o5 ρ5 H5 σ5 e5 g5
          have et := e3.trans (e4.trans e5)
          exact ⟨_, by omega, ρ5, env5, st5, rfl, hlt, g5, hI.stay _ _ _ _ et.stayF hP2, OutS.from_ et o5⟩
        cases hbx : fb env3 st3 with
        | nx env5 st5 => rw [hbx] at o2; exact back o2
        | ct env5 st5 => rw [hbx] at o2; exact back o2
        | bk env5 st5 => rw [hbx] at o2; exact fun ρ5 H5 σ5 e5 g5 => o2 ρ5 H5 σ5 (e3.trans (e4.trans e5)) g5
        | rt d st5 => rw [hbx] at o2; exact fun ρ5 H5 v e5 s5 r5 => o2 ρ5 H5 v (e3.trans (e4.trans e5)) s5 r5
        | exc x env5 st5 => rw [hbx] at o2; exact fun ρ5 H5 σ5 c d e5 g5 q5 => o2 ρ5 H5 σ5 c d (e3.trans (e4.trans e5)) g5 q5
        | stuck => rw [hbx] at o2; exact o2
    · have hi' : i = it.xs.length := by omega
      subst hi'
      refine .inl ⟨hI.stop ρ2 H2 st2 _ g2.st hc2 hP2 rfl, ?_⟩
      rw [List.drop_length] at o2
      unfold forL at o2
      rw [if_pos hc2] at o2
      exact o2 ρ2 H2 σ2 Ext.refl g2
/-! while: so many turns at most -/
def whileL (t : FF Bool) (body : FS) : Nat → FS
  | 0 => fun _ _ => .stuck
  | n + 1 => fun env st => (t env st).toS env fun k st1 => if k then (match body env st1 with
      | .nx env2 st2 => whileL t body n env2 st2
      | .ct env2 st2 => whileL t body n env2 st2
      | .bk env2 st2 => .nx env2 st2
      | .rt d st2 => .rt d st2
      | .exc x env2 st2 => .exc x env2 st2
      | .stuck => .stuck) else .nx env st1
theorem ds_while {t : FF Bool} {body : List Stmt} {fb : FS} (n : Nat) (hp : PassesOwn (model X.prog X.w) X.A X.env X.xe) (hc : DT X W c t) (hb : DSs X W body fb) : DS X W (.While c body [] pos) (whileL t fb n) := by
  refine PS.imp (ps_while hp hc hb) fun Dn σ H q => ?_
  obtain ⟨ρ, env, st, gd, o⟩ := q
  refine ⟨fun m σ H => ∃ ρ env st, Good X.K W ρ H env σ st ∧ OutS X.K W ρ H (whileL t fb m env st) Dn, ⟨n, ρ, env, st, gd, o⟩, ?_⟩
  rintro m σ2 H2 ⟨ρ2, env2, st2, g2, o2⟩
  cases m with
  | zero => exact o2.elim
  | succ m =>
    refine ⟨ρ2, env2, st2, g2, (OutS.bind (R := RB) g2 o2).mono ?_⟩
    rintro k H3 ⟨ρ3, k', st3, -, e3, s3, r3, o3⟩
    cases r3
    cases k with
    | false =>
      rw [if_neg Bool.false_ne_true] at o3 ⊢
      exact o3 ρ3 H3 σ2 Ext.refl (g2.ext e3 s3)
    | true =>
      rw [if_pos rfl] at o3 ⊢
      refine ⟨_, fun σ' H' q => q, ρ3, env2, st3, g2.ext e3 s3, ?_⟩
      have back : ∀ {env5 : Env'} {st5 : Store}, OutS X.K W ρ3 H3 (whileL t fb m env5 st5) Dn → ∀ ρ5 H5 σ5, Ext ρ3 H3 ρ5 H5 → Good X.K W ρ5 H5 env5 σ5 st5 →
          ∃ m', m' < m + 1 ∧ ∃ ρ env st, Good X.K W ρ H5 env σ5 st ∧ OutS X.K W ρ H5 (whileL t fb m' env st) Dn := fun o5 ρ5 H5 σ5 e5 g5 => ⟨m, by omega, ρ5, _, _, g5, OutS.from_ e5 o5⟩
      cases hbx : fb env2 st3 with
      | nx env5 st5 => rw [hbx] at o3; exact back o3
      | ct env5 st5 => rw [hbx] at o3; exact back o3
      | bk env5 st5 => rw [hbx] at o3; exact o3
      | rt d st5 => rw [hbx] at o3; exact o3
      | exc x env5 st5 => rw [hbx] at o3; exact o3
      | stuck => rw [hbx] at o3; exact o3
end
end DL
end
section
/-! DL11: list comprehensions. -/
namespace DL
open PySem PySem.Spec PyProof.Rows L2
open LamX (Tabs TabS ExtN)
section
variable {K : PySem.W.Frag} {W : WG} {ρ ρ' ρ1 : Pl} {H H' H1 : Hp} {σ : L2.St}
/-- a list that is being made -/
def Pl.hide (ρ : Pl) (p : Addr) : Pl := ⟨ρ.r, p :: ρ.h, ρ.T⟩
/-- the state while a list is being made at p: r0, H0 where it began -/
structure Making (K : PySem.W.Frag) (ρ0 : Pl) (H0 : Hp) (p : Addr) (ρ : Pl) (H : Hp) (st : Store) (acc : List D) : Prop where
  free : H0 p = none
  stay : StayF ρ0 H0 ρ H
  hh : ρ.h = p :: ρ0.h
  hid : ∀ a ∈ ρ0.h, H a = H0 a
  st : RelSt K ρ H st
  at_ : ∃ vs, H p = some (.lst vs) ∧ RelDs K ρ H acc vs
  tt : ρ.T = ρ0.T
theorem Making.start {st : Store} {p : Addr} (r : RelSt K ρ H st) (h : H p = none) : Making K ρ H p (ρ.hide p) (upd H p (.lst [])) st [] := by
  have sy : StayF ρ H (ρ.hide p) (upd H p (.lst [])) := ⟨⟨fun _ _ e => e, fun a o e _ n => ⟨by rw [upd_ne (ne_of_none e h)]; exact e, n.1, fun m => by
    rcases List.mem_cons.mp m with m | m
    · exact ne_of_none e h m
    · exact n.2 m⟩⟩, fun a ob u e => (by rw [upd_ne (ne_of_none e h)]; exact e)⟩
  refine ⟨h, sy, rfl, fun a ha => ?_, ⟨r.len, r.nd, fun n a o e1 e2 => ?_, fun a ha hm => ?_, fun a ha => ?_, r.tabs.ext fun b o e => (by rw [upd_ne (ne_of_none e h)]; exact e), fun a ha => ?_⟩, ⟨[], upd_same, .nil⟩, rfl⟩
  · obtain ⟨u, e⟩ := r.hid a ha
    exact upd_ne (ne_of_none e h)
  · obtain ⟨w, q⟩ := (r.at_ n a o e1 e2).there
    exact (r.at_ n a o e1 e2).stay sy.toStay (upd_ne (ne_of_none q h))
  · rcases List.mem_cons.mp hm with m | m
    · subst m
      exact (r.notin h).1 ha
    · exact r.dis a ha m
  · rcases List.mem_cons.mp ha with m | m
    · subst m
      exact ⟨_, upd_same⟩
    · obtain ⟨u, e⟩ := r.hid a m
      exact ⟨u, by rw [upd_ne (ne_of_none e h)]; exact e⟩
  · rcases List.mem_cons.mp ha with m | m
    · subst m
      rw [upd_same]
      exact ⟨_, rfl, hid_lst _⟩
    · obtain ⟨u, e⟩ := r.hid a m
      rw [upd_ne (ne_of_none e h)]
      exact r.ht a m
theorem Making.ext {ρ0 : Pl} {H0 : Hp} {p : Addr} {st st' : Store} {acc : List D} (m : Making K ρ0 H0 p ρ H st acc) (e : Ext ρ H ρ' H') (s : RelSt K ρ' H' st') : Making K ρ0 H0 p ρ' H' st' acc := by
  obtain ⟨vs, h1, h2⟩ := m.at_
  refine ⟨m.free, m.stay.trans e.stayF, e.hh.trans m.hh, fun a ha => (e.hid a (by rw [m.hh]; exact List.mem_cons_of_mem _ ha)).trans (m.hid a ha), s, ⟨vs, (e.hid p (by rw [m.hh]; exact List.mem_cons_self)).trans h1, h2.ext e⟩, e.tt.trans m.tt⟩
theorem Making.push {ρ0 : Pl} {H0 : Hp} {p : Addr} {st : Store} {acc : List D} {d : D} {v : V} {vs : List V} (m : Making K ρ0 H0 p ρ H st acc) (hp : H p = some (.lst vs)) (ra : RelDs K ρ H acc vs) (r : RelD K ρ H d v) :
    Making K ρ0 H0 p ρ (upd H p (.lst (vs ++ [v]))) st (acc ++ [d]) ∧ StayF ρ H ρ (upd H p (.lst (vs ++ [v]))) := by
  have hm : p ∈ ρ.h := by rw [m.hh]; exact List.mem_cons_self
  have sy : StayF ρ H ρ (upd H p (.lst (vs ++ [v]))) := ⟨⟨fun _ _ e => e, fun a o e _ n => ⟨by rw [upd_ne (a := p) (b := a) fun z => n.2 (by rw [z]; exact hm)]; exact e, n⟩⟩, fun a ob u e => (by rw [upd_ne fun z => (by rw [z, hp] at e; cases e)]; exact e)⟩
  have np : ∀ a ∈ ρ.r, a ≠ p := fun a ha z => m.st.dis a ha (by rw [z]; exact hm)
  have n0 : ∀ a ∈ ρ0.h, a ≠ p ∨ H0 a = none := fun a ha => by
    by_cases z : a = p
    · exact .inr (by rw [z]; exact m.free)
    · exact .inl z
  have htb : Tabs ρ.T (upd H p (.lst (vs ++ [v]))) := by
    intro q hq
    obtain ⟨ps, h1, h2, h3⟩ := m.st.tabs q hq
    refine ⟨ps, ?_, h2, fun pos cv hcv => ?_⟩
    · rw [upd_ne]
      · exact h1
      · intro z; rw [z, hp] at h1; cases h1
    · obtain ⟨c, e1, e2⟩ := h3 pos cv hcv
      refine ⟨c, e1, ?_⟩
      rw [upd_ne]
      · exact e2
      · intro z; rw [z, hp] at e2; unfold LamX.CodeO at e2; cases e2
  refine ⟨⟨m.free, m.stay.trans sy, m.hh, fun a ha => ?_, ⟨m.st.len, m.st.nd, fun n a o e1 e2 => ?_, m.st.dis, fun a ha => ?_, htb, fun a ha => ?_⟩, ⟨_, upd_same, (ra.append (.cons r .nil)).stay sy.toStay⟩, m.tt⟩, sy⟩
  · rcases n0 a ha with z | z
    · rw [upd_ne z]; exact m.hid a ha
    · have h1 := m.hid a ha
      rw [z] at h1
      obtain ⟨u, e⟩ := m.st.hid a (by rw [m.hh]; exact List.mem_cons_of_mem _ ha)
      rw [h1] at e; cases e
  · exact (m.st.at_ n a o e1 e2).stay sy.toStay (upd_ne (np a (List.mem_of_getElem? e1)))
  · by_cases z : a = p
    · exact ⟨_, by rw [z]; exact upd_same⟩
    · obtain ⟨u, e⟩ := m.st.hid a ha
      exact ⟨u, by rw [upd_ne z]; exact e⟩
  · by_cases z : a = p
    · rw [z, upd_same]
      exact ⟨_, rfl, hid_lst _⟩
    · rw [upd_ne z]
      exact m.st.ht a ha
/-- the list is made: it stands still -/
theorem Making.done {ρ0 : Pl} {H0 : Hp} {p : Addr} {st : Store} {acc : List D} (m : Making K ρ0 H0 p ρ H st acc) (dis0 : ∀ a ∈ ρ0.h, ∃ o, H0 a = some o) :
    Ext ρ0 H0 ⟨ρ.r, ρ0.h, ρ.T⟩ H ∧ RelSt K ⟨ρ.r, ρ0.h, ρ.T⟩ H st ∧ RelD K ⟨ρ.r, ρ0.h, ρ.T⟩ H (.lst acc) (.ref p) := by
  have sy : Stay ρ H ⟨ρ.r, ρ0.h, ρ.T⟩ H := ⟨fun _ _ e => e, fun a o e _ n => ⟨e, n.1, fun z => n.2 (by rw [m.hh]; exact List.mem_cons_of_mem _ z)⟩⟩
  have sy2 := m.stay.toStay.trans sy
  obtain ⟨vs, h1, h2⟩ := m.at_
  have hm : p ∈ ρ.h := by rw [m.hh]; exact List.mem_cons_self
  refine ⟨⟨sy2.pre, sy2.keep, rfl, m.hid, m.tt, m.stay.fz⟩, ⟨m.st.len, m.st.nd, fun n a o e1 e2 => (m.st.at_ n a o e1 e2).stay sy rfl, fun a ha hb => m.st.dis a ha (by rw [m.hh]; exact List.mem_cons_of_mem _ hb), fun a ha => m.st.hid a (by rw [m.hh]; exact List.mem_cons_of_mem _ ha), m.st.tabs, fun a ha => m.st.ht a (by rw [m.hh]; exact List.mem_cons_of_mem _ ha)⟩, .lst h1 ⟨fun ha => m.st.dis p ha hm, fun ha => ?_⟩ (h2.stay sy)⟩
  obtain ⟨u, e⟩ := dis0 p ha
  rw [m.free] at e; cases e
/-- .. or it gets a number -/
theorem Making.doneO {ρ0 : Pl} {H0 : Hp} {p : Addr} {st : Store} {acc : List D} (m : Making K ρ0 H0 p ρ H st acc) (dis0 : ∀ a ∈ ρ0.h, ∃ o, H0 a = some o) :
    Ext ρ0 H0 ⟨ρ.r ++ [p], ρ0.h, ρ.T⟩ H ∧ RelSt K ⟨ρ.r ++ [p], ρ0.h, ρ.T⟩ H (st ++ [.lst acc]) ∧ RelD K ⟨ρ.r ++ [p], ρ0.h, ρ.T⟩ H (.obj st.length) (.ref p) := by
  obtain ⟨vs, h1, h2⟩ := m.at_
  have hm : p ∈ ρ.h := by rw [m.hh]; exact List.mem_cons_self
  have npr : p ∉ ρ.r := fun ha => m.st.dis p ha hm
  have np0 : p ∉ ρ0.h := fun ha => by
    obtain ⟨u, e⟩ := dis0 p ha
    rw [m.free] at e; cases e
  have sy : Stay ρ H ⟨ρ.r ++ [p], ρ0.h, ρ.T⟩ H := ⟨fun i a e => by
    show (ρ.r ++ [p])[i]? = some a
    rw [List.getElem?_append_left (List.getElem?_eq_some_iff.mp e).1]; exact e, fun a o e _ n => ⟨e, fun z => by
    rcases List.mem_append.mp z with z | z
    · exact n.1 z
    · have : a = p := by simpa using z
      subst this
      exact n.2 hm, fun z => n.2 (by rw [m.hh]; exact List.mem_cons_of_mem _ z)⟩⟩
  have sy2 := m.stay.toStay.trans sy
  refine ⟨⟨sy2.pre, sy2.keep, rfl, m.hid, m.tt, m.stay.fz⟩, ⟨by simp [m.st.len], ?_, fun n a o e1 e2 => ?_, fun a ha hb => ?_, fun a ha => m.st.hid a (by rw [m.hh]; exact List.mem_cons_of_mem _ ha), m.st.tabs, fun a ha => m.st.ht a (by rw [m.hh]; exact List.mem_cons_of_mem _ ha)⟩, .obj (by rw [← m.st.len]; simp)⟩
  · show (ρ.r ++ [p]).Nodup
    rw [List.nodup_append]
    refine ⟨m.st.nd, by simp, fun a ha b hb e => ?_⟩
    have : b = p := by simpa using hb
    subst this; subst e
    exact npr ha
  · have e1 : (ρ.r ++ [p])[n]? = some a := e1
    by_cases hn : n < ρ.r.length
    · rw [List.getElem?_append_left hn] at e1
      rw [List.getElem?_append_left (by rw [← m.st.len]; exact hn)] at e2
      exact (m.st.at_ n a o e1 e2).stay sy rfl
    · have hl : n < (ρ.r ++ [p]).length := (List.getElem?_eq_some_iff.mp e1).1
      have hn' : n = ρ.r.length := by simp at hl; omega
      subst hn'
      have e1' : a = p := by simpa using e1.symm
      have e2' : o = .lst acc := by rw [m.st.len] at e2; simpa using e2.symm
      subst e1'; subst e2'
      exact ⟨vs, h1, h2.stay sy⟩
  · rcases List.mem_append.mp ha with z | z
    · exact m.st.dis a z (by rw [m.hh]; exact List.mem_cons_of_mem _ hb)
    · have : a = p := by simpa using z
      subst this
      exact np0 hb
end
/-- what a comprehension's target names -/
inductive CT where
  | one (i : Nat)
  | tup (is : List Nat)
def setAll : List Nat → List D → Env' → Option Env'
  | [], [], env => some env
  | i :: is, d :: ds, env => setAll is ds (env.set i (some d))
  | _, _, _ => none
def bindT : CT → D → Env' → Option Env'
  | .one i, d, env => some (env.set i (some d))
  | .tup is, .tup ds, env => setAll is ds env
  | .tup is, .pr ds, env => setAll is ds env
  | _, _, _ => none
/-- the names of the block forgotten -/
def wipeE (env : Env') (vs : List Nat) : Env' := vs.foldl (fun e v => e.set v none) env
def gNames : List Nat → TGs
  | [] => gNil
  | i :: is => gCons (gName i) (gNames is)
def gCT (K : PySem.W.Frag) : CT → TG
  | .one i => gName i
  | .tup is => gTup K is.length (gNames is)
def CT.vars : CT → List Nat
  | .one i => [i]
  | .tup is => is
section
variable {K : PySem.W.Frag} {ρ : Pl} {H : Hp} {env : Env'} {σ : L2.St}
theorem wipe_get (σ : L2.St) (j : Nat) : ∀ vs : List Nat, (wipe σ vs)[j]? = if j ∈ vs then σ[j]?.map (fun _ => none) else σ[j]?
  | [] => by simp [wipe]
  | v :: vs => by
    unfold wipe
    by_cases h : v = j
    · subst h
      by_cases hl : v < σ.length
      · rw [List.getElem?_set_self (by rw [wipe_length]; exact hl)]
        simp [List.getElem?_eq_getElem hl]
      · rw [List.getElem?_eq_none (by rw [List.length_set, wipe_length]; omega), List.getElem?_eq_none (by omega)]
        simp
    · rw [List.getElem?_set_ne h, wipe_get σ j vs]
      have : j ∈ v :: vs ↔ j ∈ vs := by simp [Ne.symm h]
      simp only [this]
theorem wipe_ext {σ τ : L2.St} {vs : List Nat} (hl : σ.length = τ.length) (h : ∀ j, j ∉ vs → σ[j]? = τ[j]?) : wipe σ vs = wipe τ vs := by
  refine List.ext_getElem? fun j => ?_
  rw [wipe_get, wipe_get]
  split
  · by_cases hj : j < σ.length
    · rw [List.getElem?_eq_getElem hj, List.getElem?_eq_getElem (by rw [← hl]; exact hj)]
      rfl
    · rw [List.getElem?_eq_none (by omega), List.getElem?_eq_none (by omega)]
  · rename_i hj
    exact h j hj
theorem wipeE_len (vs : List Nat) : ∀ env : Env', (wipeE env vs).length = env.length := by
  induction vs with
  | nil => intro env; rfl
  | cons v vs ih => intro env; show (wipeE (env.set v none) vs).length = _; rw [ih]; simp
theorem wipeE_some {vs : List Nat} : ∀ {env : Env'} {i : Nat} {d : D}, (wipeE env vs)[i]? = some (some d) → env[i]? = some (some d) ∧ i ∉ vs := by
  induction vs with
  | nil => intro env i d h; exact ⟨h, by simp⟩
  | cons v vs ih =>
    intro env i d h
    obtain ⟨h1, h2⟩ := ih (env := env.set v none) h
    by_cases hv : v = i
    · subst hv
      by_cases hl : v < env.length
      · rw [List.getElem?_set_self hl] at h1; cases h1
      · rw [List.getElem?_eq_none (by simpa using hl)] at h1; cases h1
    · rw [List.getElem?_set_ne hv] at h1
      exact ⟨h1, by simp only [List.mem_cons, not_or]; exact ⟨fun e => hv e.symm, h2⟩⟩
theorem RelEnv.wiped (r : RelEnv K ρ H env σ) (vs : List Nat) : RelEnv K ρ H (wipeE env vs) (wipe σ vs) := by
  refine ⟨by rw [wipeE_len, wipe_length]; exact r.len, fun i d h => ?_⟩
  obtain ⟨h1, h2⟩ := wipeE_some h
  obtain ⟨v, h3, h4⟩ := r.at_ i d h1
  refine ⟨v, ?_, h4⟩
  rw [wipe_get, if_neg h2]
  exact h3
/-- the target's names are set, nothing else -/
theorem names_walk : ∀ {is : List Nat} {ds : List D} {vs : List V} {env env' : Env'} {σ : L2.St} {Q : L2.St → Hp → Prop}, RelEnv K ρ H env σ → RelDs K ρ H ds vs → setAll is ds env = some env' →
    (∀ σ', RelEnv K ρ H env' σ' → σ'.length = σ.length → (∀ j, j ∉ is → σ'[j]? = σ[j]?) → Q σ' H) → gNames is vs σ H Q
  | [], [], _, env, env', σ, Q, re, r, e, h => by
    cases r; cases e
    exact ⟨rfl, h σ re rfl fun _ _ => rfl⟩
  | i :: is, d :: ds, _, env, env', σ, Q, re, r, e, h => by
    cases r with
    | @cons _ v _ vs r1 r2 =>
      refine ⟨v, vs, rfl, ?_⟩
      refine names_walk (re.set i r1) r2 e fun σ' r' hl hk => h σ' r' (by rw [hl]; simp) fun j hj => ?_
      simp only [List.mem_cons, not_or] at hj
      rw [hk j hj.2, List.getElem?_set_ne (Ne.symm hj.1)]
  | [], _ :: _, _, _, _, _, _, _, _, e, _ => by cases e
  | _ :: _, [], _, _, _, _, _, _, _, e, _ => by cases e
theorem ct_walk {c : CT} {d : D} {v : V} {env' : Env'} {Q : L2.St → Hp → Prop} (re : RelEnv K ρ H env σ) (r : RelD K ρ H d v) (e : bindT c d env = some env')
    (h : ∀ σ', RelEnv K ρ H env' σ' → σ'.length = σ.length → (∀ j, j ∉ c.vars → σ'[j]? = σ[j]?) → Q σ' H) : gCT K c v σ H Q := by
  cases c with
  | one i =>
    cases e
    refine h _ (re.set i r) (by simp) fun j hj => ?_
    simp only [CT.vars, List.mem_singleton] at hj
    rw [List.getElem?_set_ne (Ne.symm hj)]
  | tup is =>
    cases d with
    | tup ds =>
      obtain ⟨p, vs, rfl, h1, h2⟩ := tup_ok r
      have hl : ∀ {is : List Nat} {ds : List D} {env : Env'}, setAll is ds env = some env' → ds.length = is.length := by
        intro is
        induction is with
        | nil => intro ds env e; cases ds with | nil => rfl | cons _ _ => cases e
        | cons i is ih => intro ds env e; cases ds with | nil => cases e | cons d ds => simp [ih e]
      exact ⟨p, vs, rfl, h1, by rw [← h2.length]; exact hl e, names_walk re h2 e h⟩
    | pr ds =>
      obtain ⟨p, vs, rfl, h1, h2⟩ := pr_ok r
      have hl : ∀ {is : List Nat} {ds : List D} {env : Env'}, setAll is ds env = some env' → ds.length = is.length := by
        intro is
        induction is with
        | nil => intro ds env e; cases ds with | nil => rfl | cons _ _ => cases e
        | cons i is ih => intro ds env e; cases ds with | nil => cases e | cons d ds => simp [ih e]
      exact ⟨p, vs, rfl, h1, by rw [← h2.length]; exact hl e, names_walk re h2 e h⟩
    | _ => cases e
end
/-- the turns of a comprehension; nothing may be raised in it -/
def lcL (chk : Store → Bool) (c : CT) (tt : FF Bool) (te : FF D) (env0 : Env') : List D → List D → Store → Option (List D × Store)
  | [], acc, st => if chk st then some (acc, st) else none
  | x :: r, acc, st => if chk st then (match bindT c x env0 with
    | some env1 => match tt env1 st with
      | .ok true st1 => match te env1 st1 with
        | .ok y st2 => if acc.length < 16777216 then lcL chk c tt te env0 r (acc ++ [y]) st2 else none
        | _ => none
      | .ok false st1 => lcL chk c tt te env0 r acc st1
      | _ => none
    | none => none) else none
def flc (m : Bool) (fi : FF Items) (c : CT) (tt : FF Bool) (te : FF D) (vs : List Nat) : FF D := fun env st => (fi env st).bind fun it st1 => match lcL it.chk c tt te (wipeE env vs) it.xs [] st1 with
  | some (acc, st2) => if m then .ok (.obj st2.length) (st2 ++ [.lst acc]) else .ok (.lst acc) st2
  | none => .stuck
/-- nothing is raised, no exception in hand -/
def WG.nf (W : WG) : WG := ⟨fun _ _ _ _ => False, none, W.T, none⟩
def ftrue : FF Bool := fun _ st => .ok true st
section
variable {X : Cx} {W : WG} {pos : Pos} {tg iter elt : Expr}
theorem lcL_chk {chk : Store → Bool} {c : CT} {tt : FF Bool} {te : FF D} {env0 : Env'} {l acc : List D} {st : Store} {r : List D × Store} (h : lcL chk c tt te env0 l acc st = some r) : chk st = true := by
  cases l <;> (unfold lcL at h; split at h; assumption; cases h)
/-- the reading of a comprehension, from its turns -/
theorem tLc_of {K : PySem.W.Frag} {fi : FF Items} {c : CT} {tt : FF Bool} {te : FF D} {vs : List Nat} {m : Bool} {σ : L2.St} {H : Hp} {Q : VK} (hv : ∀ i ∈ c.vars, i ∈ vs) (h : lE K W (flc m fi c tt te vs) σ H Q) :
    tLc (lI K W fi) (gCT K c) (lT K W.nf tt) (lE K W.nf te) vs σ H Q := by
  obtain ⟨ρ, env, st, g, o⟩ := h
  refine ⟨ρ, env, st, g, ?_⟩
  unfold flc at o
  cases hf : fi env st with
  | exc x st1 => rw [hf] at o; exact o
  | stuck => rw [hf] at o; exact o.elim
  | ok it st1 =>
    rw [hf] at o
    intro ρ1 H1 J P e1 s1 hP hI hchk p np
    have o1 : OutE K W ρ1 H1 σ (match lcL it.chk c tt te (wipeE env vs) it.xs [] st1 with
      | some (acc, st2) => if m then .ok (.obj st2.length) (st2 ++ [.lst acc]) else .ok (.lst acc) st2
      | none => .stuck) Q := OutR.from_ e1 o
    have g1 := g.ext e1 s1
    have mk0 := Making.start (K := K) s1 np
    have reach : ∀ {ρ2 : Pl} {H2 : Hp}, Stay ρ1 H1 ρ2 H2 → RelEnv K ρ2 H2 (wipeE env vs) (wipe σ vs) := fun s => (g1.env.stay s).wiped vs
    refine ⟨fun i n H2 => ∃ ρ2 st2 acc, n = it.xs.length - i ∧ i ≤ it.xs.length ∧ Making K ρ1 H1 p ρ2 H2 st2 acc ∧ P ρ2 H2 ∧ ∃ r, lcL it.chk c tt te (wipeE env vs) (it.xs.drop i) acc st2 = some r ∧ OutE K W ρ1 H1 σ (if m then .ok (.obj r.2.length) (r.2 ++ [.lst r.1]) else .ok (.lst r.1) r.2) Q, ?_, ?_⟩
    · cases hr : lcL it.chk c tt te (wipeE env vs) it.xs [] st1 with
      | none => rw [hr] at o1; exact o1.elim
      | some r => rw [hr] at o1; exact ⟨_, _, st1, [], rfl, Nat.zero_le _, mk0, hI.stay _ _ _ _ mk0.stay hP, r, by simpa using hr, o1⟩
    · rintro i n H2 ⟨ρ2, st2, acc, rfl, hle, mk, hP2, r, hr, o2⟩
      have hc2 := lcL_chk hr
      by_cases hlt : i < it.xs.length
      · refine .inr ⟨hI.go ρ2 H2 st2 i mk.st hc2 hP2 hlt, _, fun H' q => q, fun x H' y => ?_⟩
        obtain ⟨ρ3, e3, s3, r3⟩ := hI.yld ρ2 H2 st2 i _ x H' mk.st hc2 hP2 (List.getElem?_eq_getElem hlt) y
        have mk3 := mk.ext e3 s3
        rw [List.drop_eq_getElem_cons hlt] at hr
        unfold lcL at hr
        rw [if_pos hc2] at hr
        split at hr
        · rename_i env1 hb
          refine ct_walk (reach mk3.stay.toStay) r3 hb fun σ' re' hl' hk' => ⟨?_, ρ3, env1, st2, ⟨re', s3, e3.tt.trans (mk.tt.trans g1.tt), .none rfl rfl⟩, ?_⟩
          · have : wipe σ' vs = wipe (wipe σ vs) vs := wipe_ext hl' fun j hj => hk' j fun z => hj (hv j z)
            rw [this]
            exact wipe_ext (wipe_length _ _) fun j hj => by rw [wipe_get, if_neg hj]
          · split at hr
            · rename_i st3 ht
              rw [ht]
              intro ρ4 H4 k e4 s4 r4
              cases r4
              rw [if_pos rfl]
              have mk4 := mk3.ext e4 s4
              refine ⟨ρ4, env1, st3, ⟨re'.ext e4, s4, (e3.trans e4).tt.trans (mk.tt.trans g1.tt), .none rfl rfl⟩, ?_⟩
              split at hr
              · rename_i y st4 hy
                rw [hy]
                split at hr
                · rename_i hlen
                  intro ρ5 H5 v e5 s5 r5
                  have mk5 := mk4.ext e5 s5
                  obtain ⟨ws, h1, h2⟩ := mk5.at_
                  obtain ⟨mk6, sy⟩ := mk5.push h1 h2 r5
                  refine ⟨ws, h1, by rw [sizeLine_eq, ← h2.length]; exact hlen, _, (by omega : it.xs.length - (i + 1) < it.xs.length - i), ρ5, st4, _, rfl, hlt, mk6, hI.stay _ _ _ _ ((e3.trans (e4.trans e5)).stayF.trans sy) hP2, r, hr, o2⟩
                · cases hr
              · cases hr
            · rename_i st3 ht
              rw [ht]
              intro ρ4 H4 k e4 s4 r4
              cases r4
              rw [if_neg Bool.false_ne_true]
              exact ⟨_, (by omega : it.xs.length - (i + 1) < it.xs.length - i), ρ4, st3, acc, rfl, hlt, mk3.ext e4 s4, hI.stay _ _ _ _ (e3.trans e4).stayF hP2, r, hr, o2⟩
            · cases hr
        · cases hr
      · have hi' : i = it.xs.length := by omega
        subst hi'
        refine .inl ⟨hI.stop ρ2 H2 st2 _ mk.st hc2 hP2 rfl, ?_⟩
        rw [List.drop_length] at hr
        unfold lcL at hr
        rw [if_pos hc2] at hr
        cases hr
        cases m with
        | false =>
          rw [if_neg Bool.false_ne_true] at o2
          obtain ⟨h1, h2, h3⟩ := mk.done s1.hid
          exact o2 _ _ _ h1 h2 h3
        | true =>
          rw [if_pos rfl] at o2
          obtain ⟨h1, h2, h3⟩ := mk.doneO s1.hid
          exact o2 _ _ _ h1 h2 h3
end
end DL
end
section
/-! DL12: comprehensions in place; calls of defs of one's own. -/
namespace DL
open PySem PySem.Spec PyProof.Rows L2
section
variable {X : Cx} {W : WG} {pos : Pos} {tg iter elt a : Expr} {es : List Expr} {fs : FF (List D)}
theorem pg_names {is : List Nat} {xs : List (Str × Pos)} (hN : X.N.Nodup) (hi : is.length = xs.length) (h : ∀ (k i : Nat) (x : Str × Pos), is[k]? = some i → xs[k]? = some x → X.N[i]? = some x.1 ∧ Loc X.env.scope x.1 ∧ (X.fn x.1 = true ∨ X.env.scope.names.lookup x.1 = some .local)) :
    PGs X (xs.map fun x => .Name x.1 x.2) (gNames is) := by
  induction is generalizing xs with
  | nil => cases xs with | nil => exact pgs_nil | cons _ _ => cases hi
  | cons i is ih =>
    cases xs with
    | nil => cases hi
    | cons x xs =>
      obtain ⟨h1, h2, h3⟩ := h 0 i x (by simp) (by simp)
      exact pgs_cons (pg_name hN h1 h2 h3) (ih (by simpa using hi) fun k j y e1 e2 => h (k + 1) j y (by simpa using e1) (by simpa using e2)) rfl
theorem de_lc {fi : FF Items} {c : CT} {tt : FF Bool} {te : FF D} {scope : Scope} {own : List (Str × Nat)} {ifs : List Expr} (m : Bool) (hc : X.calm = true) (hN : X.N.Nodup) (hi : DI X W tg iter fi) (ok : BlkOk X.N X.env.scope scope own)
    (hg : ∀ (s : Shared) (H : Hp) (C : Addr) (cl : List (Str × Addr)) (fp : List Addr), PG (X.blk s H scope (compEnvC scope cl C X.env) fp) tg (gCT X.K c))
    (ht : ∀ (s : Shared) (H : Hp) (C : Addr) (cl : List (Str × Addr)) (fp : List Addr), PTs (X.blk s H scope (compEnvC scope cl C X.env) fp) ifs (lT X.K W.nf tt))
    (he : ∀ (s : Shared) (H : Hp) (C : Addr) (cl : List (Str × Addr)) (fp : List Addr), DE (X.blk s H scope (compEnvC scope cl C X.env) fp) W.nf elt te) (hs : noSet iter = true) (hv : ∀ i ∈ c.vars, i ∈ own.map (·.2)) :
    DE X W (.ListComp elt [⟨tg, iter, ifs, 0⟩] scope pos) (flc m fi c tt te (own.map (·.2))) :=
  PE.imp (pe_lc hc hN hi ok hg ht he fun x => folded_val hs) fun σ H Q h => tLc_of hv h
theorem ds_setLc {fi : FF Items} {c : CT} {tt : FF Bool} {te : FF D} {scope : Scope} {own : List (Str × Nat)} {ifs : List Expr} {i : Nat} {y : Str} {py spos : Pos} (m : Bool) (hc : X.calm = true) (hN : X.N.Nodup) (hy : X.N[i]? = some y) (hyl : X.env.scope.names.lookup y = some .local)
    (hsw : swapsWith (.ListComp elt [⟨tg, iter, ifs, 0⟩] scope pos) (some (.Name y py)) spos.line X.env = pure true) (hi : DI X W tg iter fi) (ok : BlkOk X.N X.env.scope scope own)
    (hg : ∀ (s : Shared) (H : Hp) (C : Addr) (cl : List (Str × Addr)) (fp : List Addr), PG (X.blk s H scope (compEnvC scope cl C X.env) fp) tg (gCT X.K c))
    (ht : ∀ (s : Shared) (H : Hp) (C : Addr) (cl : List (Str × Addr)) (fp : List Addr), PTs (X.blk s H scope (compEnvC scope cl C X.env) fp) ifs (lT X.K W.nf tt))
    (he : ∀ (s : Shared) (H : Hp) (C : Addr) (cl : List (Str × Addr)) (fp : List Addr), DE (X.blk s H scope (compEnvC scope cl C X.env) fp) W.nf elt te) (hs : noSet iter = true) (hv : ∀ i ∈ c.vars, i ∈ own.map (·.2)) (hfr : Free W i) :
    DS X W (.Assign [.Name y py] (.ListComp elt [⟨tg, iter, ifs, 0⟩] scope pos) spos) (fasg (flc m fi c tt te (own.map (·.2))) (gname i)) := by
  refine PS.imp (ps_setLc (te := lE X.K W.nf te) hc hN hy hyl hsw hi ok hg ht he fun x => folded_val hs) fun Dn σ H h => ?_
  obtain ⟨ρ, env, st, gd, o⟩ := h
  refine tLc_of (m := m) hv ⟨ρ, env, st, gd, (OutS.bind (R := RelD X.K) gd o).mono ?_⟩
  rintro v H1 ⟨ρ1, d, st1, -, e1, s1, r1, o1⟩
  exact o1 ρ1 H1 _ Ext.refl ⟨(gd.env.ext e1).set i r1, s1, e1.tt.trans gd.tt, (gd.gh.stay e1.stay).set hfr⟩
theorem dts_nil : PTs X [] (lT X.K W ftrue) := ⟨fun pins s σ H Q I h => by
  obtain ⟨ρ, env, st, g, o⟩ := h
  exact pts_nil.run pins s σ H Q I (o.now g.st rfl)⟩
/-! calls of defs -/
/-- a def's promise where no repr runs around the call -/
structure FnG (P : Program) (w : World) (K : PySem.W.Frag) (mg : Str → Option Value) (base : Heap) (CX : CXT) (k : Nat) (f : Addr) (fd : FuncData) (ps : List Str) (sp : Sp) : Prop where
  len : ∀ vs H Q E, sp vs H Q E → vs.length = ps.length
  run : ∀ (A : Around) (outer : List PySem.Env) (s : Shared) (H : Hp) (args : Args) (us : List Value) (vs : List V) (Q : VK) (E : XK), Room k A → A.guards = some [] → Env0 P w K mg base A outer s H → BindsTo s fd args (ps.zip us) → Vals vs us → sp vs H Q E →
    codeAny (model P w) A (.call (.ref f) args) (CR CX outer P w H s Q E) s
theorem FnG.mono {P : Program} {w : World} {K : PySem.W.Frag} {mg : Str → Option Value} {base : Heap} {CX : CXT} {j k : Nat} {f : Addr} {fd : FuncData} {ps : List Str} {sp : Sp} (F : FnG P w K mg base CX j f fd ps sp) (h : j ≤ k) : FnG P w K mg base CX k f fd ps sp :=
  ⟨F.len, fun A outer s H args us vs Q E hr => F.run A outer s H args us vs Q E (hr.mono h)⟩
/-- a def by its body -/
theorem fnG_of {CX : CXT} {P : Program} {w : World} {K : PySem.W.Frag} {mg : Str → Option Value} {base : Heap} {k : Nat} {x qual : Str} {st : Stmt} {f : Addr} {fd : FuncData} {N ps : List Str} {sp : Sp} (F : Fun K x qual st f fd) (S : FnScope N ps (defScope st))
    (len : ∀ vs H Q E, sp vs H Q E → vs.length = ps.length)
    (body : ∀ (cdv : Value) (A : Around) (outer : List PySem.Env) (s : Shared) (H : Hp) (vs : List V) (Q : VK) (E : XK), fd.code = cdv → Room k (A.deeper (envOfC qual (defScope st) s.heap.objs.size f cdv)) → A.guards = some [] → sp vs H Q E →
      ∃ t, PSs (cxOf CX P w K mg base N qual (defScope st) f cdv A outer s H E) (defBody st) t ∧ t { nx := fun _ H' => Q .non H', rt := Q } (start N vs) H) : FnG P w K mg base CX (k + 1) f fd ps sp := by
  obtain ⟨oc, od, kV, doc, pm, an, cdv, ct, osl, rfl, lk, hcd⟩ := F.ex
  refine ⟨len, fun A outer s H args us vs Q E room gd e0 bind rel want => ?_⟩
  have nvs := len _ _ _ _ want
  have kin : K.In s.heap := e0.mod.kin.keeps fun b o q => (e0.bs b o q).1
  have nolim : s.heap.NoLimit := e0.mod.nolimit.keeps fun b o q => (e0.bs b o q).1
  have kinds : ∀ y ∈ ps.zip us, (defScope st).names.lookup y.1 = some .local ∨ ((defScope st).names.lookup y.1 = some .cell ∧ ((cellsFrom (s.heap.objs.size + 1) (defScope st).names []).lookup y.1).isSome = true) := by
    rintro ⟨n, v⟩ hy
    refine (S.par n (List.of_mem_zip hy).1).imp id fun q => ⟨q, ?_⟩
    exact PySem.W.cellsFrom_some _ _ _ (.inl q)
  apply codeAny_call_function room.depth (kin _ _ lk) rfl S.co S.gen rfl (PySem.W.codeRec_of kin hcd)
  apply bind
  apply wpAny_newFunctionEnv_cells S.kind kinds
  rintro _ rfl s1 made
  refine ⟨nolim.keeps made.toInCall.keep, codeAny_func ?_⟩
  obtain ⟨t, walk, reads⟩ := body cdv A outer s H vs Q E rfl (room.deeper _) gd want
  have began := inv_start (CX := CX) (E := E) S room.hd e0 nvs rel made
  have ran := walk.run [] s1 (start N vs) H _ began reads
  refine wpAny_mono ran ?_ fun _ _ q => q
  intro fl s' q
  cases fl with
  | next =>
    obtain ⟨_, H', J, q⟩ := q
    exact ⟨.non, H', J.os, J.bare, J.base, J.hok, rfl, q⟩
  | ret u =>
    obtain ⟨v, _, H', J, rv, q⟩ := q
    exact ⟨v, H', J.os, J.bare, J.base, J.hok, rv, q⟩
  | brk => exact q.elim fun _ q => q.elim fun _ q => q.2.elim
  | cont => exact q.elim fun _ q => q.elim fun _ q => q.2.elim
/-- a def as a function of data: a value, or an exception -/
abbrev SemX := List D → Store → Res D
def OutX (K : PySem.W.Frag) (ρ : Pl) (H : Hp) (r : Res D) (Q : VK) (E : XK) : Prop := match r with
  | .ok d st' => ∀ ρ' H' v, Ext ρ H ρ' H' → RelSt K ρ' H' st' → RelD K ρ' H' d v → Q v H'
  | .exc x st' => ∀ ρ' H' cls dx, Ext ρ H ρ' H' → RelSt K ρ' H' st' → RelX K ρ' H' x cls dx → E cls dx H'
  | .stuck => False
def rX (K : PySem.W.Frag) (T : List (Addr × Str)) (g : SemX) (vs : List V) (H : Hp) (Q : VK) (E : XK) : Prop := ∃ ρ st ds, ρ.T = T ∧ RelSt K ρ H st ∧ RelDs K ρ H ds vs ∧ OutX K ρ H (g ds st) Q E
/-- the promise of a def that reckons g -/
def spR (K : PySem.W.Frag) (T : List (Addr × Str)) (n : Nat) (g : SemX) : Sp := fun vs H Q E => vs.length = n ∧ rX K T g vs H Q E
/-- f(..) with values: where f stands in the module -/
theorem callX {k : Nat} {f : Addr} {fd : FuncData} {ps : List Str} {T : List (Addr × Str)} {g : SemX} (F : FnG X.prog X.w X.K X.mg X.base (L2.CX X.prog X.w) k f fd ps (spR X.K T ps.length g)) (hr : Room k X.A) (hg : X.A.guards = some []) (tk : Takes X W.w)
    {pins : List (Addr × Obj)} {s : Shared} {σ : L2.St} {H : Hp} {vs : List V} {us : List Value} {args : Args} {Q : VK} (I : L2.Inv X pins σ H s) (bind : BindsTo s fd args (ps.zip us)) (rel : Vals vs us)
    (h : vs.length = ps.length ∧ rX X.K T g vs H Q (fun cls d H' => W.w cls d σ H')) :
    wpAny (model X.prog X.w) X.A (call (.ref f) args.pos args.kw) (EP X pins σ Q) X.xe s := by
  refine wpAny_call (codeAny_mono (F.run X.A X.stack s H args us vs Q (fun cls d H' => W.w cls d σ H') hr hg I.env0 bind rel h) fun r s' q => ?_)
  cases r with
  | error e => exact tk e s' (XE.of_call I (fun cls d H' h => h) q)
  | ok fl =>
    cases fl with
    | ret u => exact I.after q
    | next => exact False.elim q
    | brk => exact False.elim q
    | cont => exact False.elim q
def fcallX (g : SemX) (fs : FF (List D)) : FF D := fun env st => (fs env st).bind fun ds st1 => g ds st1
/-! a def that leaves nothing behind: called with nothing that changes, its answer has nothing that changes -/
mutual
def pureD : D → Bool
  | .lst _ => false
  | .scr _ => false
  | .obj _ => false
  | .pr _ => false
  | .tup xs => pureDs xs
  | _ => true
def pureDs : List D → Bool
  | [] => true
  | x :: r => pureD x && pureDs r
end
mutual
def noObj : D → Bool
  | .obj _ => false
  | .pr _ => false
  | .tup xs => noObjs xs
  | .lst xs => noObjs xs
  | .scr xs => noObjs xs
  | _ => true
def noObjs : List D → Bool
  | [] => true
  | x :: r => noObj x && noObjs r
end
/-- its own store goes with it -/
def pureS (g : SemX) : SemX := fun ds st => if noObjs ds then (match g ds [] with
  | .ok d _ => if pureD d then .ok d st else .stuck
  | .exc x _ => if pureDs (x.fs.map (·.2)) then .exc x st else .stuck
  | .stuck => .stuck) else .stuck
section
variable {K : PySem.W.Frag} {ρ ρ' : Pl} {H H' : Hp}
mutual
theorem RelD.bare : ∀ {d : D} {v : V}, RelD K ρ H d v → noObj d = true → RelD K ⟨[], ρ.h, ρ.T⟩ H d v
  | _, _, .non, _ => .non
  | _, _, .bl b, _ => .bl b
  | _, _, .int i, _ => .int i
  | _, _, .str x, _ => .str x
  | _, _, .ty n, _ => .ty n
  | _, _, .glb h, _ => .glb h
  | _, _, .tup r n t, h => .tup r ⟨by simp, n.2⟩ (RelDs.bare t (by simpa only [noObj] using h))
  | _, _, .pr r n t, h => by simp [noObj] at h
  | _, _, .tupK s d t, h => .tupK s d (RelDs.bare t (by simpa only [noObj] using h))
  | _, _, .lst r n t, h => .lst r ⟨by simp, n.2⟩ (RelDs.bare t (by simpa only [noObj] using h))
  | _, _, .scr r n t, h => .scr r ⟨by simp, n.2⟩ (RelDs.bare t (by simpa only [noObj] using h))
  | _, _, .scrK s t, h => .scrK s (RelDs.bare t (by simpa only [noObj] using h))
  | _, _, .obj _, h => by simp [noObj] at h
theorem RelDs.bare : ∀ {ds : List D} {vs : List V}, RelDs K ρ H ds vs → noObjs ds = true → RelDs K ⟨[], ρ.h, ρ.T⟩ H ds vs
  | _, _, .nil, _ => .nil
  | _, _, .cons a t, h => by
    simp only [noObjs, Bool.and_eq_true] at h
    exact .cons (RelD.bare a h.1) (RelDs.bare t h.2)
end
/-- no place of the store holds a tuple -/
def NoTup (ρ : Pl) (H : Hp) : Prop := ∀ a ∈ ρ.r, ∃ u, H a = some u ∧ (∀ xs, u ≠ .tup xs) ∧ ∀ o xs, u ≠ .frz o (.tup xs)
mutual
theorem RelD.back {ρ2 : Pl} (hh : ρ2.h = ρ.h) (hn : NoTup ρ H) : ∀ {d : D} {v : V}, RelD K ρ2 H d v → pureD d = true → RelD K ρ H d v
  | _, _, .non, _ => .non
  | _, _, .bl b, _ => .bl b
  | _, _, .int i, _ => .int i
  | _, _, .str x, _ => .str x
  | _, _, .ty n, _ => .ty n
  | _, _, .glb h, _ => .glb h
  | _, _, .tup (a := a) r n t, h => .tup r ⟨fun m => by
      obtain ⟨u, h1, h2, h3⟩ := hn a m
      obtain ⟨o, r, _⟩ := r
      rw [r] at h1; cases h1; exact h3 _ _ rfl, by rw [← hh]; exact n.2⟩ (RelDs.back hh hn t (by simpa only [pureD] using h))
  | _, _, .pr r n t, h => by simp [pureD] at h
  | _, _, .tupK s d t, h => .tupK s d (RelDs.back hh hn t (by simpa only [pureD] using h))
  | _, _, .lst r n t, h => by simp [pureD] at h
  | _, _, .scr r n t, h => by simp [pureD] at h
  | _, _, .scrK s t, h => by simp [pureD] at h
  | _, _, .obj _, h => by simp [pureD] at h
theorem RelDs.back {ρ2 : Pl} (hh : ρ2.h = ρ.h) (hn : NoTup ρ H) : ∀ {ds : List D} {vs : List V}, RelDs K ρ2 H ds vs → pureDs ds = true → RelDs K ρ H ds vs
  | _, _, .nil, _ => .nil
  | _, _, .cons a t, h => by
    simp only [pureDs, Bool.and_eq_true] at h
    exact .cons (RelD.back hh hn a h.1) (RelDs.back hh hn t h.2)
end
theorem RelSt.bare {st : Store} (r : RelSt K ρ H st) : RelSt K ⟨[], ρ.h, ρ.T⟩ H [] := ⟨rfl, List.nodup_nil, fun n a o e => by simp at e, fun a ha => (by simp at ha), r.hid, r.tabs, r.ht⟩
/-- behind such a call: what was tracked stands -/
theorem bare_back {st st' : Store} (r : RelSt K ρ H st) (e : Ext ⟨[], ρ.h, ρ.T⟩ H ρ' H') (r' : RelSt K ρ' H' st') : Ext ρ H ρ H' ∧ RelSt K ρ H' st ∧ NoTup ρ H' := by
  have kp : ∀ a ∈ ρ.r, H' a = H a := fun a ha => by
    obtain ⟨n, hn⟩ := List.mem_iff_getElem?.mp ha
    obtain ⟨d, _, q⟩ := r.mem hn
    obtain ⟨u, hu, ht, _⟩ := q.noTbl
    rw [hu]
    exact (e.keep a u hu ht ⟨by simp, r.dis a ha⟩).1
  have sy : Stay ρ H ρ H' := ⟨fun _ _ h => h, fun a o h t n => ⟨(e.keep a o h t ⟨by simp, n.2⟩).1, n⟩⟩
  refine ⟨⟨sy.pre, sy.keep, rfl, e.hid, rfl, e.fz⟩, ⟨r.len, r.nd, fun n a o e1 e2 => (r.at_ n a o e1 e2).stay sy (kp a (List.mem_of_getElem? e1)), r.dis, fun a ha => ?_, ?_, fun a ha => (by rw [e.hid a ha]; exact r.ht a ha)⟩, fun a ha => ?_⟩
  · obtain ⟨o, h⟩ := r.hid a ha
    exact ⟨o, by rw [e.hid a ha]; exact h⟩
  · have := r'.tabs
    rw [e.tt] at this
    exact this
  · obtain ⟨n, hn⟩ := List.mem_iff_getElem?.mp ha
    obtain ⟨d, _, q⟩ := r.mem hn
    cases d with
    | lst xs => obtain ⟨vs, h, _⟩ := q; exact ⟨_, by rw [kp a ha]; exact h, by simp, by simp⟩
    | dk kvs => obtain ⟨vs, h, _⟩ := q; exact ⟨_, by rw [kp a ha]; exact h, by simp, by simp⟩
    | dF kvs => obtain ⟨_, vs, h, _⟩ := q; exact ⟨_, by rw [kp a ha]; exact h, by simp, by simp⟩
    | ins c fs => obtain ⟨_, _, _, _, h, _⟩ := q; exact ⟨_, by rw [kp a ha]; exact h, fun xs => slO_ne fun φ z => (by cases z), fun o xs => slO_ne fun φ z => (by cases z)⟩
theorem rX_pure {T : List (Addr × Str)} {g : SemX} {vs : List V} {Q : VK} {E : XK} (h : rX K T (pureS g) vs H Q E) : rX K T g vs H Q E := by
  obtain ⟨ρ, st, ds, ht, rs, rd, o⟩ := h
  unfold pureS at o
  split at o
  · rename_i hn
    refine ⟨⟨[], ρ.h, ρ.T⟩, [], ds, ht, rs.bare, rd.bare hn, ?_⟩
    cases hg : g ds [] with
    | ok d st' =>
      rw [hg] at o
      simp only at o
      split at o
      · rename_i hp
        intro ρ' H' v e r' q
        obtain ⟨b1, b2, b3⟩ := bare_back rs e r'
        exact o ρ H' v b1 b2 (q.back (ρ := ρ) e.hh b3 hp)
      · exact o.elim
    | exc x st' =>
      rw [hg] at o
      simp only at o
      split at o
      · rename_i hp
        intro ρ' H' cls dx e r' q
        obtain ⟨b1, b2, b3⟩ := bare_back rs e r'
        refine o ρ H' cls dx b1 b2 ?_
        obtain ⟨C, d, h1, h2, h3, n, ws, h4, h5, h6⟩ := q
        refine ⟨C, d, h1, h2, h3, ⟨fun m => ?_, by have := n.2; rw [e.hh] at this; exact this⟩, ws, h4, h5, h6.back (ρ := ρ) e.hh b3 hp⟩
        obtain ⟨k, hk⟩ := List.mem_iff_getElem?.mp m
        obtain ⟨o', _, q'⟩ := b2.mem hk
        cases o' with
        | lst xs => obtain ⟨vs, h, _⟩ := q'; rw [h] at h4; cases h4
        | dk kvs => obtain ⟨vs, h, _⟩ := q'; rw [h] at h4; cases h4
        | dF kvs => obtain ⟨_, vs, h, _⟩ := q'; rw [h] at h4; cases h4
        | ins c fs => obtain ⟨_, _, _, _, h, _⟩ := q'; rw [h] at h4; exact absurd (Option.some.inj h4) (slO_ne fun φ z => by cases z)
      · exact o.elim
    | stuck => rw [hg] at o; exact o.elim
  · exact o.elim
end
end
end DL
end
section
/-! DLB: slices with a step, dict(pairs), list(range(..)), text * int. -/
namespace DL
open PySem PySem.Spec PyProof.Rows L2
/-- the places perm of a list -/
def pick {α : Type} (perm : List Nat) (l : List α) : List α := perm.filterMap (l[·]?)
theorem Vals.pick {vs : List V} {us : List Value} (h : Vals vs us) : ∀ perm : List Nat, Vals (pick perm vs) (pick perm us)
  | [] => .nil
  | i :: perm => by
    have ih := Vals.pick h perm
    unfold DL.pick at ih ⊢
    rw [List.filterMap_cons, List.filterMap_cons]
    by_cases hi : i < vs.length
    · have hl := h.length
      rw [List.getElem?_eq_getElem hi, List.getElem?_eq_getElem (by omega)]
      refine .cons ?_ ih
      have : ∀ {vs : List V} {us : List Value}, Vals vs us → ∀ (i : Nat) (h1 : i < vs.length) (h2 : i < us.length), RelV vs[i] us[i] := by
        intro vs us h
        induction h with
        | nil => intro i h1; simp at h1
        | cons r _ ih =>
          intro i h1 h2
          cases i with
          | zero => exact r
          | succ i => exact ih i (by simpa using h1) (by simpa using h2)
      exact this h i hi (by omega)
    · have hl := h.length
      rw [List.getElem?_eq_none (by omega), List.getElem?_eq_none (by omega)]
      exact ih
theorem RelDs.pick {K : PySem.W.Frag} {ρ : Pl} {H : Hp} {ds : List D} {vs : List V} (h : RelDs K ρ H ds vs) : ∀ perm : List Nat, RelDs K ρ H (pick perm ds) (pick perm vs)
  | [] => .nil
  | i :: perm => by
    have ih := RelDs.pick h perm
    unfold DL.pick at ih ⊢
    rw [List.filterMap_cons, List.filterMap_cons]
    cases hd : ds[i]? with
    | some d =>
      obtain ⟨v, h1, h2⟩ := h.get hd
      rw [h1]
      exact .cons h2 ih
    | none =>
      have := h.length
      rw [List.getElem?_eq_none (by rw [List.getElem?_eq_none_iff] at hd; omega)]
      exact ih

/-! text * int -/
section
variable {X : Cx} {W : WG}
theorem mulOk_small {x : Str} {n : Int} (h0 : -(2 ^ 62) ≤ n) (h1 : n ≤ 4096) (h2 : x.length ≤ 4096) : PySem.MulOk x n := by
  refine ⟨?_, fun h3 _ => ?_, fun h3 _ => ?_⟩
  · simp only [Bool.or_eq_false_iff, decide_eq_false_iff_not]
    omega
  · have a1 : (1 : Int) ≤ n := by omega
    have a2 : (2 ^ 63 - 1 : Int) / n ≥ 4096 := by
      refine Int.le_ediv_of_mul_le (by omega) ?_
      have : (4096 : Int) * n ≤ 4096 * 4096 := Int.mul_le_mul_of_nonneg_left h1 (by decide)
      omega
    omega
  · unfold Builtin.Str.tooLong
    have : x.length * n.toNat ≤ 4096 * 4096 := Nat.mul_le_mul h2 (by omega)
    rw [decide_eq_false_iff_not, sizeLine_eq]
    omega
def mulT : D → D → Store → Res D := fun x y st => match x, y with
  | .str a, .int n => if -(2 ^ 62) ≤ n ∧ n ≤ 4096 ∧ a.length ≤ 4096 then .ok (.str (PySem.Txt.mul a n)) st else .stuck
  | _, _ => .stuck
theorem od_mulT : OpD X W (binaryOp .Mult) mulT := by
  intro pins s σ H ρ st x y v u v' u' Q I rs rx ry rv ru o
  unfold mulT at o
  split at o
  · split at o
    · rename_i h
      cases rx; cases ry
      obtain ⟨t, rfl⟩ := (show ∃ t, v' = Value.str _ t from rv)
      obtain ⟨t', rfl⟩ := (show ∃ t, u' = Value.int _ t from ru)
      exact PySem.SB.mul (mulOk_small h.1 h.2.1 h.2.2) fun t2 k => ⟨.str _, H, I.tok _, ⟨_, rfl⟩, o.now rs (.str _)⟩
    · exact o.elim
  · exact o.elim
/-! a bool and an int -/
abbrev bI (p : Bool) : Int := if p = true then 1 else 0
theorem gives_add_bi (p : Bool) (j : Int) (u : Tok) : Gives (Builtin.«int.__add__» ⟨[.bool p, .int j u], []⟩) (.int (bI p + j)) := Gives.of_wp fun M A E s Q h => by
  obtain ⟨hp, g, d, tk, os⟩ := s
  wp_walk
  exact ⟨_, rfl, h⟩
theorem gives_sub_bi (p : Bool) (j : Int) (u : Tok) : Gives (Builtin.«int.__sub__» ⟨[.bool p, .int j u], []⟩) (.int (bI p - j)) := Gives.of_wp fun M A E s Q h => by
  obtain ⟨hp, g, d, tk, os⟩ := s
  wp_walk
  exact ⟨_, rfl, h⟩
theorem gives_sub_ib (i : Int) (p : Bool) (u : Tok) : Gives (Builtin.«int.__sub__» ⟨[.int i u, .bool p], []⟩) (.int (i - bI p)) := Gives.of_wp fun M A E s Q h => by
  obtain ⟨hp, g, d, tk, os⟩ := s
  wp_walk
  exact ⟨_, rfl, h⟩
theorem sub_int_bool : isSubtype (.type "int") (.type "bool") = pure false := by kernel_rfl
theorem refl_sub : reflectedDiffers (.type "int") (.type "bool") "sub" = pure false := by
  unfold reflectedDiffers
  show (typeLookup (.type "bool") (dunderR "sub") >>= fun rb => typeLookup (.type "int") (dunderR "sub") >>= fun ra => pure (rb.isSome && rb != ra)) = pure false
  rw [typeLookup_type, typeLookup_type, builtinLookup_eq_fast]
  kernel_rfl
def addBI : D → D → Store → Res D := fun x y st => match x, y with
  | .bl p, .int j => .ok (.int (bI p + j)) st
  | _, _ => .stuck
def subBI : D → D → Store → Res D := fun x y st => match x, y with
  | .bl p, .int j => .ok (.int (bI p - j)) st
  | .int i, .bl p => .ok (.int (i - bI p)) st
  | _, _ => .stuck
theorem od_addBI : OpD X W (binaryOp .Add) addBI := by
  intro pins s σ H ρ st x y v u v' u' Q I rs rx ry rv ru o
  unfold addBI at o
  split at o
  · rename_i p j
    cases rx; cases ry
    obtain rfl : v' = Value.bool p := rv
    obtain ⟨t, rfl⟩ := (show ∃ t, u' = Value.int j t from ru)
    exact binaryOp_left_gives (op := .Add) (T := "bool") (U := "int") (by decide) (typeIs_bool' s p) (fun s' => typeIs_int s' j t) PySem.F.fills_bool_add PySem.F.fills_int_add sub_int_bool PySem.F.slot_bool_add PySem.F.slot_int_radd PySem.F.entry_int_add
      (PySem.F.args_int_add_2 _ _) (gives_add_bi p j t) trivial ⟨.int _, H, I.tok _, ⟨_, rfl⟩, o.now rs (.int _)⟩
  · exact o.elim
theorem od_subBI : OpD X W (binaryOp .Sub) subBI := by
  intro pins s σ H ρ st x y v u v' u' Q I rs rx ry rv ru o
  unfold subBI at o
  split at o
  · rename_i p j
    cases rx; cases ry
    obtain rfl : v' = Value.bool p := rv
    obtain ⟨t, rfl⟩ := (show ∃ t, u' = Value.int j t from ru)
    exact binaryOp_left_gives (op := .Sub) (T := "bool") (U := "int") (by decide) (typeIs_bool' s p) (fun s' => typeIs_int s' j t) PySem.F.fills_bool_sub PySem.F.fills_int_sub sub_int_bool PySem.F.slot_bool_sub PySem.F.slot_int_rsub PySem.F.entry_int_sub
      (PySem.F.args_int_sub_2 _ _) (gives_sub_bi p j t) trivial ⟨.int _, H, I.tok _, ⟨_, rfl⟩, o.now rs (.int _)⟩
  · rename_i i p
    cases rx; cases ry
    obtain ⟨t, rfl⟩ := (show ∃ t, v' = Value.int i t from rv)
    obtain rfl : u' = Value.bool p := ru
    exact binaryOp_sub_gives (op := .Sub) (T := "int") (U := "bool") (by decide) (typeIs_int s i t) rfl PySem.F.fills_int_sub PySem.F.fills_bool_sub isSubtype_bool_int refl_sub PySem.F.slot_int_sub PySem.F.entry_int_sub (PySem.F.args_int_sub_2 _ _)
      (gives_sub_ib i p t) trivial ⟨.int _, H, I.tok _, ⟨_, rfl⟩, o.now rs (.int _)⟩
  · exact o.elim
/-- str(x) of an int, a bool, a text -/
def strD2 (ds : List D) (st : Store) : Option (D × Store) := match ds with
  | [.bl b] => some (.str (if b then "True" else "False" : String), st)
  | [.str x] => some (.str x, st)
  | _ => strD ds st
theorem cd_strB : CallD X (.type "str") (fun ds st => match ds with | [.bl b] => some (.str (if b then "True" else "False" : String), st) | _ => none) := by
  intro pins s σ H vs us Q I rx q
  obtain ⟨ρ, st, ds, rs, rd, q⟩ := q
  split at q
  · rename_i d st' e
    dsimp only at e
    split at e
    · rename_i b
      cases e
      obtain ⟨v, rfl, r1⟩ := rd.one
      cases r1
      obtain ⟨u, rfl, ru⟩ := vals1 rx
      obtain rfl : u = Value.bool b := ru
      refine PySem.P.str_of_bool ⟨.str _, H, I.tok _, ⟨_, rfl⟩, q ρ H _ Ext.refl rs ?_⟩
      cases b <;> exact .str _
    · cases e
  · exact q.elim
theorem cd_strS : CallD X (.type "str") (fun ds st => match ds with | [.str x] => some (.str x, st) | _ => none) := CallD.by SkE.call_str_str fun ρ H st ds vs Q d st' rs rd e q => by
  split at e
  · rename_i x
    cases e
    obtain ⟨v, rfl, r1⟩ := rd.one
    cases r1
    exact ⟨x, rfl, q ρ H _ Ext.refl rs (.str _)⟩
  · cases e
theorem cd_str2 : CallD X (.type "str") strD2 := by
  refine CallD.or cd_strB (CallD.or cd_strS cd_str (k := fun ds st => match ds with | [.bl _] => none | _ => strD2 ds st) fun ds st => ?_) fun ds st => ?_
  · split
    · exact .inl rfl
    · rename_i h
      unfold strD2
      split
      · exact absurd rfl (h _)
      · exact .inr (.inl rfl)
      · exact .inr (.inr rfl)
  · unfold strD2
    split
    · exact .inr (.inl rfl)
    · exact .inr (.inr rfl)
    · rename_i h1 h2
      right; right
      split
      · exact absurd rfl (h1 _)
      · rfl
/-- a tuple some times over -/
def mulP : D → D → Store → Res D := fun x y st => match x, y with
  | .tup xs, .int n => if xs.isEmpty = false ∧ 2 ≤ n ∧ n ≤ 1000 ∧ xs.length ≤ 1000 then .ok (.tup (repL n xs)) st else .stuck
  | _, _ => .stuck
theorem od_mulP : OpD X W (binaryOp .Mult) mulP := OpD.by op_repP fun ρ H σ st x y v u Q rs rx ry o => by
  unfold mulP at o
  split at o
  · rename_i xs k
    split at o
    · rename_i h
      obtain ⟨a, vs, rfl, h1, h2⟩ := tup_ok rx
      cases ry
      refine ⟨a, k, vs, rfl, rfl, h1, fun z => ?_, ⟨h.2.1, h.2.2.1, by rw [← h2.length]; exact h.2.2.2⟩, fun p ob np nd => out_tup o rs (h2.rep _) np nd⟩
      have e := h2.length
      rw [z] at e
      cases xs with
      | nil => exact absurd h.1 (by decide)
      | cons _ _ => cases e
    · exact o.elim
  · exact o.elim
def mulX (x y : D) (st : Store) : Res D := match x with
  | .str _ => mulT x y st
  | .tup _ => mulP x y st
  | _ => binD .Mult x y st
theorem mulX_cases (x y : D) (st : Store) : mulX x y st = mulT x y st ∨ mulX x y st = mulP x y st ∨ mulX x y st = binD .Mult x y st := by
  cases x <;> first | exact .inl rfl | exact .inr (.inl rfl) | exact .inr (.inr rfl)
theorem od_mulX : OpD X W (binaryOp .Mult) mulX := by
  intro pins s σ H ρ st x y v u v' u' Q I rs rx ry rv ru o
  rcases mulX_cases x y st with e | e | e <;> rw [e] at o
  · exact od_mulT pins s σ H ρ st x y v u v' u' Q I rs rx ry rv ru o
  · exact od_mulP pins s σ H ρ st x y v u v' u' Q I rs rx ry rv ru o
  · exact od_bin .Mult pins s σ H ρ st x y v u v' u' Q I rs rx ry rv ru o
/-- the operators, texts * ints and bools with ints among them -/
def binD2 (op : Operator) (x y : D) (st : Store) : Res D := match op, x, y with
  | .Mult, _, _ => mulX x y st
  | .Add, .bl _, _ => addBI x y st
  | .Sub, .bl _, _ => subBI x y st
  | .Sub, .int _, .bl _ => subBI x y st
  | _, _, _ => binD op x y st
theorem od_bin2 (op : Operator) : OpD X W (binaryOp op) (binD2 op) := by
  cases op
  case Mult => exact od_mulX
  all_goals first
    | exact od_bin _
    | (refine OpD.or (g := addBI) (g' := binD .Add) od_addBI (od_bin .Add) fun x y st => ?_
       cases x <;> first | exact .inr (.inl rfl) | exact .inr (.inr rfl))
    | (refine OpD.or (g := subBI) (g' := binD .Sub) od_subBI (od_bin .Sub) fun x y st => ?_
       cases x <;> cases y <;> first | exact .inr (.inl rfl) | exact .inr (.inr rfl))
/-- a list made of two, with a number in the store -/
def addM (x y : D) (st : Store) : Res D := match seqO st x, seqO st y with
  | some xs, some ys => if xs.length + ys.length ≤ 16777216 then .ok (.obj st.length) (st ++ [.lst (xs ++ ys)]) else .stuck
  | _, _ => .stuck
theorem od_addM : OpD X W (binaryOp .Add) addM := by
  intro pins s σ H ρ st x y v u v' u' Q I rs rx ry rv ru o
  unfold addM at o
  split at o
  · rename_i xs ys e1 e2
    split at o
    · rename_i h
      obtain ⟨a, vs, rfl, h1, h2⟩ := seqO_ok rs rx e1
      obtain ⟨b, us, rfl, h3, h4⟩ := seqO_ok rs ry e2
      exact op_cat pins s σ H _ _ v' u' Q I rv ru ⟨a, b, vs, us, rfl, rfl, h1, h3, line_le (by rw [← h2.length, ← h4.length]; exact h), fun p np => out_newL true rs (h2.append h4) o np⟩
    · exact o.elim
  · exact o.elim
def binM (m : Bool) (op : Operator) : D → D → Store → Res D := if m then (match op with
  | .Add => addM
  | op => binD2 op) else binD2 op
theorem od_binM (m : Bool) (op : Operator) : OpD X W (binaryOp op) (binM m op) := by
  unfold binM
  cases m with
  | false => exact od_bin2 op
  | true =>
    rw [if_pos rfl]
    cases op <;> first | exact od_addM | exact od_bin2 _
/-! slices with a step -/
abbrev stepOf (n : Nat) (lo hi : Option Int) (st : Int) : List Nat := sliceRange (sliceBounds lo hi (some st) n).1 (sliceBounds lo hi (some st) n).2.1 (sliceBounds lo hi (some st) n).2.2
/-- the places of [::c] -/
def stepsT (n : Nat) (c : Int) : List Nat := (List.range (Builtin.Slice.slicePlaces 0 (n : Int) c)).map fun (i : Nat) => ((i : Int) * c).toNat
def stepD (m : Bool) (x : D) (lo hi : Option Int) (k : Option Int) (st : Store) : Res D := match k with
  | some c => if c = 0 then .stuck else match x with
    | .tup xs => if c = -1 ∧ lo = none ∧ hi = none ∧ xs.length ≤ 16777216 then .ok (.tup xs.reverse) st else if 2 ≤ c ∧ lo = none ∧ hi = none ∧ (pick (stepsT xs.length c) xs).length ≤ 16777216 then .ok (.tup (pick (stepsT xs.length c) xs)) st else .stuck
    | x => match seqL st x with
      | some xs => if m then .ok (.obj st.length) (st ++ [.lst (pick (stepOf xs.length lo hi c) xs)]) else .ok (.lst (pick (stepOf xs.length lo hi c) xs)) st
      | none => .stuck
  | none => .stuck
def fstep (m : Bool) (f : FF D) (lo hi k : FF (Option Int)) : FF D := fun env st => (f env st).bind fun x st1 => (lo env st1).bind fun l st2 => (hi env st2).bind fun h st3 => (k env st3).bind fun c st4 => stepD m x l h c st4
theorem slice_back {sl : Addr} {vl vu vs : Value} {n : Nat} {prog : Program} {w : World} {A : Around} {E : Value → Shared → Prop} {s : Shared} {Q : Int × Int × Nat → Shared → Prop} (hs : s.heap.IsSliceOf sl vl vu vs) (pl : IsPart vl none) (pu : IsPart vu none) (ps : IsPart vs (some (-1)))
    (h : Q ((n : Int) - 1, -1, n) s) : wpAny (model prog w) A (Builtin.Slice.sliceApplied (.ref sl) (pure (n : Int))) Q E s := by
  obtain ⟨os, hos, hcs, hds⟩ := id hs
  cases pl
  cases pu
  unfold Builtin.Slice.sliceApplied Builtin.Slice.sliceFields
  refine wpAny_bind (wpAny_bind (wpAny_field hos hds (x := .none) rfl (wpAny_bind (wpAny_field hos hds (x := .none) rfl (wpAny_bind (wpAny_field hos hds (x := vs) rfl (wpAny_pure ?_)))))))
  refine wpAny_bind (HT.slicePart_ ps ?_)
  show wpAny _ _ (if ((-1 : Int) == 0) = true then _ else _) _ _ s
  rw [if_neg (by decide)]
  refine wpAny_bind (slicePart_none (wpAny_bind (slicePart_none (wpAny_bind (wpAny_pure ?_)))))
  have e1 : Builtin.Slice.sliceAdjust none none (-1) (n : Int) = ((n : Int) - 1, -1) := rfl
  show wpAny _ _ (match Builtin.Slice.sliceAdjust none none (-1) (n : Int) with | (lo, hi) => pure (lo, (-1 : Int), Builtin.Slice.slicePlaces lo hi (-1))) _ _ s
  rw [e1]
  have e2 : Builtin.Slice.slicePlaces ((n : Int) - 1) (-1) (-1) = n := by
    unfold Builtin.Slice.slicePlaces
    rw [if_neg (by decide)]
    split
    · rw [show (- -1 : Int) = 1 by decide, Int.ediv_one]; omega
    · omega
  show wpAny _ _ (pure ((n : Int) - 1, (-1 : Int), Builtin.Slice.slicePlaces ((n : Int) - 1) (-1) (-1))) _ _ s
  rw [e2]
  exact wpAny_pure h
theorem slice_fwd {sl : Addr} {vl vu vs : Value} {n : Nat} {c : Int} {prog : Program} {w : World} {A : Around} {E : Value → Shared → Prop} {s : Shared} {Q : Int × Int × Nat → Shared → Prop} (hs : s.heap.IsSliceOf sl vl vu vs) (pl : IsPart vl none) (pu : IsPart vu none) (ps : IsPart vs (some c)) (hc : 2 ≤ c)
    (h : Q (0, c, Builtin.Slice.slicePlaces 0 (n : Int) c) s) : wpAny (model prog w) A (Builtin.Slice.sliceApplied (.ref sl) (pure (n : Int))) Q E s := by
  obtain ⟨os, hos, hcs, hds⟩ := id hs
  cases pl
  cases pu
  unfold Builtin.Slice.sliceApplied Builtin.Slice.sliceFields
  refine wpAny_bind (wpAny_bind (wpAny_field hos hds (x := .none) rfl (wpAny_bind (wpAny_field hos hds (x := .none) rfl (wpAny_bind (wpAny_field hos hds (x := vs) rfl (wpAny_pure ?_)))))))
  refine wpAny_bind (HT.slicePart_ ps ?_)
  show wpAny _ _ (if (c == 0) = true then _ else _) _ _ s
  rw [if_neg (by simp; omega)]
  refine wpAny_bind (slicePart_none (wpAny_bind (slicePart_none (wpAny_bind (wpAny_pure ?_)))))
  have e1 : Builtin.Slice.sliceAdjust none none c (n : Int) = (0, (n : Int)) := by
    unfold Builtin.Slice.sliceAdjust
    rw [if_neg (by omega), if_neg (by omega)]
    simp only
    rw [if_neg (by omega), if_neg (by omega)]
  show wpAny _ _ (match Builtin.Slice.sliceAdjust none none c (n : Int) with | (lo, hi) => pure (lo, c, Builtin.Slice.slicePlaces lo hi c)) _ _ s
  rw [e1]
  exact wpAny_pure h
theorem pick_fwd (xs : List Value) (c : Int) : (((List.range (Builtin.Slice.slicePlaces 0 (xs.toArray.size : Int) c)).filterMap fun (m : Nat) => xs.toArray[((0 : Int) + (m : Int) * c).toNat]?).toArray) = (pick (stepsT xs.length c) xs).toArray := by
  unfold stepsT pick
  rw [List.filterMap_map, List.size_toArray]
  congr 2
  funext m
  simp
theorem tup_fwd {t sl : Addr} {items : List Value} {vl vu vs : Value} {c : Int} {prog : Program} {w : World} {A : Around} {E : Value → Shared → Prop} {s : Shared} {Q : Value → Shared → Prop} (ht : IsTup s.heap t items.toArray) (hs : s.heap.IsSliceOf sl vl vu vs) (pl : IsPart vl none) (pu : IsPart vu none) (ps : IsPart vs (some c)) (hc : 2 ≤ c)
    (h : Q (.ref s.heap.objs.size) { s with heap := s.heap.push { cls := .type "tuple", data := .seq (pick (stepsT items.length c) items).toArray } }) (hsz : (pick (stepsT items.length c) items).length ≤ sizeLine) : wpAny (model prog w) A (getItem (.ref t) (.ref sl)) Q E s := by
  have fits : sizeOk (.seq (pick (stepsT items.length c) items).toArray) := by
    show (pick (stepsT items.length c) items).toArray.size ≤ sizeLine
    rw [List.size_toArray]
    exact hsz
  obtain ⟨os, hos, hcs, hds⟩ := id hs
  have hTs : s.TypeIs (.ref sl) "slice" := ⟨os, hos, hcs⟩
  unfold getItem
  (try with_reducible refine wpAny_holding ?_)
  first | refine wpAny_bind (wpAny_pure ?_) | skip
  refine wpAny_bind (wpAny_sequenceKey ht.typeIs (by decide) ?_)
  refine wpAny_bind (wpAny_callSpecial?_slot (name := Str.ofString "__getitem__") ht.typeIs slot_tuple_getitem (wpAny_call_entry slot_tuple_getitem ht.typeIs entry_tuple_getitem ?_ (args_tuple_getitem _ _)))
  show wpAny _ _ (Builtin.Tuple.tupleItemsOf (.ref t) >>= _) _ _ s
  refine wpAny_bind (tupleItemsOf_ ht ?_)
  refine wpAny_bind (wpAny_typeOf hTs ?_)
  rw [if_pos (by decide)]
  refine wpAny_bind (slice_fwd hs pl pu ps hc ?_)
  show wpAny _ _ (if ((0 : Int) == 0 && c == 1 && Builtin.Slice.slicePlaces 0 (items.toArray.size : Int) c == items.toArray.size) = true then _ else _) _ _ s
  rw [if_neg (by simp; omega), pick_fwd]
  first
    | exact wpAny_bind (m := Builtin.Tuple.tupleExact _) (wpAny_newObj_type (wpAny_pure ⟨_, rfl, wpAny_pure h⟩) fits)
    | exact wpAny_bind (m := Builtin.Tuple.tupleExact _) (wpAny_newObj_type (wpAny_bind (wpAny_pure (wpAny_pure ⟨_, rfl, wpAny_pure h⟩))) fits)
    | exact wpAny_bind (wpAny_bind (m := Builtin.Tuple.tupleExact _) (wpAny_newObj_type (wpAny_pure (wpAny_pure ⟨_, rfl, wpAny_pure h⟩)) fits))
    | exact wpAny_bind (wpAny_bind (m := Builtin.Tuple.tupleExact _) (wpAny_newObj_type (wpAny_pure ⟨_, rfl, wpAny_pure h⟩) fits))
theorem pick_back (xs : Array Value) : ((List.range xs.size).filterMap fun (m : Nat) => xs[((xs.size : Int) - 1 + (m : Int) * -1).toNat]?).toArray = xs.toList.reverse.toArray := by
  congr 1
  refine List.ext_getElem? fun i => ?_
  have key : ∀ (l : List Nat), (∀ m ∈ l, m < xs.size) → (l.filterMap fun (m : Nat) => xs[((xs.size : Int) - 1 + (m : Int) * -1).toNat]?) = l.map fun m => xs.toList.reverse[m]?.getD default := by
    intro l hl
    induction l with
    | nil => rfl
    | cons m l ih =>
      have hm := hl m List.mem_cons_self
      have e : ((xs.size : Int) - 1 + (m : Int) * -1).toNat = xs.size - 1 - m := by omega
      rw [List.filterMap_cons, e, Array.getElem?_eq_getElem (by omega), ih fun k hk => hl k (List.mem_cons_of_mem _ hk)]
      simp only [List.map_cons]
      congr 1
      rw [List.getElem?_reverse (by simpa using hm)]
      simp [Array.getElem?_eq_getElem (show xs.size - 1 - m < xs.size by omega)]
  rw [key _ fun m hm => List.mem_range.mp hm, List.getElem?_map]
  by_cases hi : i < xs.size
  · rw [List.getElem?_range hi]
    rw [Option.map_some, List.getElem?_eq_getElem (by simpa using hi)]
    rfl
  · rw [List.getElem?_eq_none (by simpa using hi), List.getElem?_eq_none (by simpa using hi)]
    rfl
theorem tup_back {t sl : Addr} {items : Array Value} {vl vu vs : Value} {prog : Program} {w : World} {A : Around} {E : Value → Shared → Prop} {s : Shared} {Q : Value → Shared → Prop} (ht : IsTup s.heap t items) (hs : s.heap.IsSliceOf sl vl vu vs) (pl : IsPart vl none) (pu : IsPart vu none) (ps : IsPart vs (some (-1)))
    (h : Q (.ref s.heap.objs.size) { s with heap := s.heap.push { cls := .type "tuple", data := .seq items.toList.reverse.toArray } }) (hsz : items.size ≤ sizeLine) : wpAny (model prog w) A (getItem (.ref t) (.ref sl)) Q E s := by
  have fits : sizeOk (.seq items.toList.reverse.toArray) := by
    show items.toList.reverse.toArray.size ≤ sizeLine
    rw [List.size_toArray, List.length_reverse, Array.length_toList]
    exact hsz
  obtain ⟨os, hos, hcs, hds⟩ := id hs
  have hTs : s.TypeIs (.ref sl) "slice" := ⟨os, hos, hcs⟩
  unfold getItem
  (try with_reducible refine wpAny_holding ?_)
  first | refine wpAny_bind (wpAny_pure ?_) | skip
  refine wpAny_bind (wpAny_sequenceKey ht.typeIs (by decide) ?_)
  refine wpAny_bind (wpAny_callSpecial?_slot (name := Str.ofString "__getitem__") ht.typeIs slot_tuple_getitem (wpAny_call_entry slot_tuple_getitem ht.typeIs entry_tuple_getitem ?_ (args_tuple_getitem _ _)))
  show wpAny _ _ (Builtin.Tuple.tupleItemsOf (.ref t) >>= _) _ _ s
  refine wpAny_bind (tupleItemsOf_ ht ?_)
  refine wpAny_bind (wpAny_typeOf hTs ?_)
  rw [if_pos (by decide)]
  refine wpAny_bind (slice_back hs pl pu ps ?_)
  show wpAny _ _ (if (((items.size : Int) - 1) == 0 && (-1 : Int) == 1 && items.size == items.size) = true then _ else _) _ _ s
  rw [if_neg (by simp), pick_back]
  first
    | exact wpAny_bind (m := Builtin.Tuple.tupleExact _) (wpAny_newObj_type (wpAny_pure ⟨_, rfl, wpAny_pure h⟩) fits)
    | exact wpAny_bind (m := Builtin.Tuple.tupleExact _) (wpAny_newObj_type (wpAny_bind (wpAny_pure (wpAny_pure ⟨_, rfl, wpAny_pure h⟩))) fits)
    | exact wpAny_bind (wpAny_bind (m := Builtin.Tuple.tupleExact _) (wpAny_newObj_type (wpAny_pure (wpAny_pure ⟨_, rfl, wpAny_pure h⟩)) fits))
    | exact wpAny_bind (wpAny_bind (m := Builtin.Tuple.tupleExact _) (wpAny_newObj_type (wpAny_pure ⟨_, rfl, wpAny_pure h⟩) fits))
end
section
variable {X : Cx} {W : WG} {a e : Expr} {fa : FF D} {pos p2 : Pos} {fl fh fk : FF (Option Int)} {lo hi : Option Expr} {k : Expr}
theorem de_step (m : Bool) (he : DE X W a fa) (hl : DP X W lo fl) (hh : DP X W hi fh) (hk : DP X W (some k) fk) : DE X W (.Subscript a (.Slice lo hi (some k) p2) pos) (fstep m fa fl fh fk) := by
  refine ⟨fun pins s σ H Q I h => ?_⟩
  obtain ⟨ρ, env, st, g, o⟩ := h
  refine Subscript_ (thn (he.run pins s σ H _ I ⟨ρ, env, st, g, OutR.bind (R := RelD X.K) o⟩) ?_)
  rintro v s1 ⟨x, H1, I1, rx, ρ1, d, st1, -, e1, q1, r1, o1⟩
  refine wpAny_Slice (thn (hl.run pins s1 σ H1 _ I1 ⟨ρ1, env, st1, g.ext e1 q1, OutR.bind (R := RO) o1⟩) ?_)
  rintro vl s2 ⟨l, H2, I2, pl, ρ2, l', st2, -, e2, q2, r2, o2⟩
  cases r2
  refine thn (hh.run pins s2 σ H2 _ I2 ⟨ρ2, env, st2, g.ext (e1.trans e2) q2, OutR.bind (R := RO) o2⟩) ?_
  rintro vu s3 ⟨u, H3, I3, pu, ρ3, u', st3, -, e3, q3, r3, o3⟩
  cases r3
  refine thn (hk.run pins s3 σ H3 _ I3 ⟨ρ3, env, st3, g.ext (e1.trans (e2.trans e3)) q3, OutR.bind (R := RO) o3⟩) ?_
  rintro vs s4 ⟨c, H4, I4, ps, ρ4, c', st4, -, e4, q4, r4, o4⟩
  cases r4
  have rd := r1.ext (e2.trans (e3.trans e4))
  have I5 : L2.Inv X pins σ H4 { s4 with heap := s4.heap.push { cls := .type "slice", data := .fields #[vl, vu, vs] } } := I4.kept (t' := s4.toks) fun b ob q => Heap.get?_push_of_some _ q
  have hsl := Heap.IsSliceOf.new s4.heap vl vu vs
  unfold stepD at o4
  split at o4
  · rename_i c
    split at o4
    · exact o4.elim
    · rename_i hc0
      split at o4
      · rename_i xs
        split at o4
        · rename_i hh
          obtain ⟨rfl, rfl, rfl, hlen⟩ := hh
          obtain ⟨p, ws, rfl, h1, h2⟩ := tup_ok rd
          cases rx
          obtain ⟨its, r, ht, hz⟩ := I5.tuple h1
          have hlen := r.length
          show wpAny (model X.prog X.w) X.A (subscriptTail a (.Slice lo hi (some k) p2) (.ref p) (.ref s4.heap.objs.size)) (EP X pins σ Q) X.xe { s4 with heap := s4.heap.push { cls := .type "slice", data := .fields #[vl, vu, vs] } }
          refine tail_any (ops := [.ref p, .ref s4.heap.objs.size]) ht.typeIs slot_tuple_getitem.lookup ?_ (by with_unfolding_all rfl)
          refine tup_back ht hsl pl pu ps ?_ (by rw [List.size_toArray]; omega)
          exact made_plain (s := s4) (h0 := s4.heap.push { cls := .type "slice", data := .fields #[vl, vu, vs] }) I5 r.reverse (by rw [List.length_reverse]; omega) fun q ob nq nd => out_tup o4 q4 h2.reverse nq nd
        · split at o4
          · rename_i hh
            obtain ⟨hc, rfl, rfl, hle⟩ := hh
            obtain ⟨p, ws, rfl, h1, h2⟩ := tup_ok rd
            cases rx
            obtain ⟨its, r, ht, hz⟩ := I5.tuple h1
            have hlen := r.length
            have hle2 := h2.length
            have e1 : xs.length = its.length := by omega
            have e2 : ws.length = its.length := by omega
            show wpAny (model X.prog X.w) X.A (subscriptTail a (.Slice lo hi (some k) p2) (.ref p) (.ref s4.heap.objs.size)) (EP X pins σ Q) X.xe { s4 with heap := s4.heap.push { cls := .type "slice", data := .fields #[vl, vu, vs] } }
            refine tail_any (ops := [.ref p, .ref s4.heap.objs.size]) ht.typeIs slot_tuple_getitem.lookup ?_ (by with_unfolding_all rfl)
            have rp := (Vals.pick r (stepsT its.length c)).length
            have rq := (h2.pick (stepsT xs.length c)).length
            rw [e1] at rq hle o4
            refine tup_fwd ht hsl pl pu ps hc ?_ (by rw [← rp, ← rq]; exact line_le hle)
            refine made_plain (s := s4) (h0 := s4.heap.push { cls := .type "slice", data := .fields #[vl, vu, vs] }) I5 (Vals.pick r (stepsT its.length c)) (by rw [← rq]; exact hle) fun q ob nq nd => out_tup o4 q4 ?_ nq nd
            exact h2.pick _
          · exact o4.elim
      · split at o4
        · rename_i xs ex
          obtain ⟨p, ws, rfl, h1, h2⟩ := seqL_ok q4 rd ex
          cases rx
          obtain ⟨its, r, ht, hz⟩ := I5.list h1
          have hlen := r.length
          show wpAny (model X.prog X.w) X.A (subscriptTail a (.Slice lo hi (some k) p2) (.ref p) (.ref s4.heap.objs.size)) (EP X pins σ Q) X.xe { s4 with heap := s4.heap.push { cls := .type "slice", data := .fields #[vl, vu, vs] } }
          refine tail_any (ops := [.ref p, .ref s4.heap.objs.size]) ht.isList.typeIs (PySem.slot_list_getitem.lookup) ?_ (by with_unfolding_all rfl)
          refine wpAny_getItem_list_slice ht.isList hsl pl pu ps (by simpa using hc0) ?_ (by rw [List.size_toArray]; omega)
          have hsz : its.toArray.size = xs.length := by rw [List.size_toArray, ← hlen, h2.length]
          have hp : slicePick its.toArray l u (some c) = (pick (stepOf xs.length l u c) its).toArray := by
            unfold slicePick
            rw [hsz]
            congr 1
            unfold DL.pick
            simp
          rw [hp]
          refine ⟨.ref _, _, I5.laid (t' := s4.toks) (o := .lst (pick (stepOf xs.length l u c) ws)) (fun b ob q => Heap.get?_push_of_some _ q) (Nat.le_refl _) ?_, rfl, out_newL m q4 (h2.pick _) o4 (I5.hok.fresh (Nat.le_refl _))⟩
          refine ⟨?_, _, 0, Vals.pick r _, Heap.get?_push_size _ rfl⟩
          have := slicePick_size_le its.toArray l u (some c)
          rw [hp, List.size_toArray] at this
          rw [(Vals.pick r _).length]
          exact Nat.le_trans this (by rw [List.size_toArray]; omega)
        · exact o4.elim
  · exact o4.elim
/-! dict of a list of pairs -/
def pairD : D → Option (Key × D)
  | .tup [k, v] => (keyD k).map (·, v)
  | _ => none
def pairsD : List D → Option (List (Key × D))
  | [] => some []
  | d :: ds => match pairD d, pairsD ds with
    | some p, some ps => some (p :: ps)
    | _, _ => none
def dictD (ds : List D) (st : Store) : Option (D × Store) := match ds with
  | [x] => match (seqL st x).bind pairsD with
    | some kvs => some (.obj st.length, st ++ [.dk (mergeD [] kvs)])
    | none => none
  | _ => none
theorem pairsD_ok {K : PySem.W.Frag} {ρ : Pl} {H : Hp} : ∀ {ds : List D} {vs : List V} {kvs : List (Key × D)}, RelDs K ρ H ds vs → pairsD ds = some kvs →
    ∃ (ps : List Addr) (vvs : List (Key × V)), vs = ps.map V.ref ∧ Paired (fun p kv => SqT K H p [kV kv.1, kv.2]) ps vvs ∧ RelKV K ρ H kvs vvs
  | [], _, _, r, e => by cases r; cases e; exact ⟨[], [], rfl, .nil, .nil⟩
  | d :: ds, _, kvs, r, e => by
    cases r with
    | cons r1 r2 =>
      unfold pairsD at e
      split at e
      · rename_i p ps e1 e2
        cases e
        obtain ⟨qs, vvs, h1, h2, h3⟩ := pairsD_ok r2 e2
        unfold pairD at e1
        split at e1
        · rename_i kd vd
          rw [Option.map_eq_some_iff] at e1
          obtain ⟨k, e3, rfl⟩ := e1
          obtain ⟨a, us, rfl, h4, h5⟩ := tup_ok r1
          obtain ⟨u1, u2, rfl, g1, g2⟩ := h5.two
          have := keyD_ok g1 e3
          subst this
          exact ⟨a :: qs, (k, u2) :: vvs, by rw [h1]; rfl, .cons h4 h2, h3.cons g2⟩
        · cases e1
      · cases e
theorem cd_dict (hc : X.calm = true) : CallD X (.type "dict") dictD := CallD.by (call_dictP hc) fun ρ H st ds vs Q d st' rs rd e q => by
  unfold dictD at e
  split at e
  · rename_i x
    split at e
    · rename_i kvs hk
      cases e
      rw [Option.bind_eq_some_iff] at hk
      obtain ⟨xs, h1, h2⟩ := hk
      obtain ⟨v, rfl, r1⟩ := rd.one
      obtain ⟨a, us, rfl, h3, h4⟩ := seqL_ok rs r1 h1
      obtain ⟨ps, vvs, rfl, h6, h7⟩ := pairsD_ok h4 h2
      refine ⟨a, ps, vvs, rfl, h3, h6, fun p np => ?_⟩
      have em : Ext ρ H (ρ.add p) (upd H p (.dK (mergeK [] vvs))) := Ext.newO rs np
      have km : RelKV X.K (ρ.add p) (upd H p (.dK (mergeK [] vvs))) (mergeD [] kvs) (mergeK [] vvs) := RelKV.merge (h7.ext em) .nil
      exact q _ _ _ em (rs.newO np ⟨_, upd_same, km.1, km.2⟩) (.obj (rs.last _))
    · cases e
  · cases e
/-! list(range(..)) -/
def rgD (a b : Int) : List D := (List.range (b - a).toNat).map fun (i : Nat) => .int (a + i)
def newLD (m : Bool) (xs : List D) (st : Store) : Res D := if m then .ok (.obj st.length) (st ++ [.lst xs]) else .ok (.lst xs) st
theorem rg_rel {K : PySem.W.Frag} {ρ : Pl} {H : Hp} (a b : Int) : RelDs K ρ H (rgD a b) (rgV a b) := by
  unfold rgD rgV
  induction List.range (b - a).toNat with
  | nil => exact .nil
  | cons i l ih => exact .cons (.int _) ih
def okRg (a b : Int) : Bool := decide (-(2 ^ 62) ≤ a ∧ a < 2 ^ 62 ∧ -(2 ^ 62) ≤ b ∧ b < 2 ^ 62 ∧ (b - a).toNat ≤ 2 ^ 24)
theorem okRg_ok {a b : Int} (h : okRg a b = true) : RgOk a b := of_decide_eq_true (p := _ ∧ _) h
def flistRg1 (m : Bool) (f : FF D) : FF D := fun env st => (f env st).bind fun d st1 => match d with
  | .int j => if okRg 0 j then newLD m (rgD 0 j) st1 else .stuck
  | _ => .stuck
def flistRg2 (m : Bool) (f g : FF D) : FF D := fun env st => (f env st).bind fun d st1 => (g env st1).bind fun e st2 => match d, e with
  | .int i, .int j => if okRg i j then newLD m (rgD i j) st2 else .stuck
  | _, _ => .stuck
variable {b : Expr} {fb : FF D} {pp pl2 pr : Pos}
theorem de_listRg1 (m : Bool) (hc : X.calm = true) (hg : Gl X "list") (hm : X.mg "list" = none) (hg2 : Gl X "range") (hm2 : X.mg "range" = none) (ha : DE X W a fa) (hs : PySem.W.isStarred a = false) :
    DE X W (.Call (.Name "list" pl2) [.Call (.Name "range" pp) [a] [] pr] [] pos) (flistRg1 m fa) := by
  refine PE.imp (pe_listRg hc hg hm (prg_1 hg2 hm2 ha (by rw [star_plain hs]))) fun σ H Q h => ?_
  obtain ⟨ρ, env, st, g, o⟩ := h
  refine ⟨ρ, env, st, g, (OutR.bind (R := RelD X.K) o).mono ?_⟩
  rintro v H1 ⟨ρ1, d, st1, -, e1, s1, r1, o1⟩
  split at o1
  · rename_i j
    cases r1
    split at o1
    · rename_i ok
      exact ⟨j, rfl, okRg_ok ok, fun q nq => out_newL m s1 (rg_rel 0 j) o1 nq⟩
    · exact o1.elim
  · exact o1.elim
theorem de_listRg2 (m : Bool) (hc : X.calm = true) (hg : Gl X "list") (hm : X.mg "list" = none) (hg2 : Gl X "range") (hm2 : X.mg "range" = none) (ha : DE X W a fa) (hb : DE X W b fb) (hs : PySem.W.isStarred a = false) (hs2 : PySem.W.isStarred b = false) :
    DE X W (.Call (.Name "list" pl2) [.Call (.Name "range" pp) [a, b] [] pr] [] pos) (flistRg2 m fa fb) := by
  refine PE.imp (pe_listRg hc hg hm (prg_2 hg2 hm2 ha hb (by rw [star_plain hs]) (by rw [star_plain hs2]) (by rw [star_plain hs2]; rfl))) fun σ H Q h => ?_
  obtain ⟨ρ, env, st, g, o⟩ := h
  refine ⟨ρ, env, st, g, (OutR.bind (R := RelD X.K) o).mono ?_⟩
  rintro v H1 ⟨ρ1, d, st1, -, e1, s1, r1, o1⟩
  refine ⟨ρ1, env, st1, g.ext e1 s1, (OutR.bind (R := RelD X.K) o1).mono ?_⟩
  rintro u H2 ⟨ρ2, e, st2, -, e2, s2, r2, o2⟩
  split at o2
  · rename_i i j
    cases r1; cases r2
    split at o2
    · rename_i ok
      exact ⟨i, j, rfl, rfl, okRg_ok ok, fun q nq => out_newL m s2 (rg_rel i j) o2 nq⟩
    · exact o2.elim
  · exact o2.elim
end
end DL
end
section
/-! EST: sorted of a tuple (the library's rule sorts a list). -/
namespace SrtT
open PySem PySem.Spec PyProof.Rows Srt SrtO
section
variable {prog : Program} {w : World} {A : Around} {E : Value → Shared → Prop} {s : Shared}
/-- a tuple with these items -/
def IsTp (h : Heap) (l : Addr) (vs : List Value) : Prop := ∃ ob k, h.get? l = some ob ∧ ob.cls = .type "tuple" ∧ ob.data = .seq vs.toArray k
abbrev got (h : Heap) (vs : List Value) : Heap := (h.push (seqObj "list" #[] 0)).update h.objs.size (Obj.mapSeq (· ++ vs.toArray))
theorem collect_tp {l : Addr} {vs : List Value} {Q : List Value → Shared → Prop} (tp : IsTp s.heap l vs) (fin : Q vs { s with heap := got s.heap vs }) (room : vs.length ≤ sizeLine) : wpAny (model prog w) A (collect (.ref l)) Q E s := by
  obtain ⟨ob, k, hob, hcl, hda⟩ := tp
  unfold collect
  apply wpAny_bind
  refine wpAny_runValue (codeAny_builtin entry_proto_collect' (?_ : wpAny _ _ (do again (.builtin "list.__iadd__" ⟨[← newList [], .ref l], []⟩)) _ _ s))
  apply wpAny_bind
  refine wpAny_newList (wpAny_pure ⟨Code.quiet_builtin _ (by decide +kernel), codeAny_builtin entry_list_iadd' (?_ : wpAny _ _ (Builtin.List.listExtendWith (.ref s.heap.objs.size) (.ref l) (.ref s.heap.objs.size)) _ _ { s with heap := s.heap.push (seqObj "list" #[] 0) })⟩)
  have hob' := Heap.get?_push_of_some (h := s.heap) (seqObj "list" #[] 0) hob
  have t2 : (Value.type "tuple" == Value.type "tuple") = true := by rfl
  have emp : (s.heap.push (seqObj "list" #[] 0)).get? s.heap.objs.size = some (seqObj "list" #[] 0) := Heap.get?_push_size _ rfl
  unfold Builtin.List.listExtendWith
  apply wpAny_bind
  refine wpAny_typeOf (T := "tuple") ⟨ob, hob', hcl⟩ ?_
  rw [t2, Bool.or_true, if_pos rfl]
  apply wpAny_bind
  refine listItems_at hob' hda ?_
  apply wpAny_bind
  refine listItems_at emp rfl ?_
  rw [if_neg (by simp)]
  apply wpAny_bind
  refine listUpdate_at emp rfl ?_ (Nat.zero_le _) (by
    change (#[] ++ vs.toArray).size ≤ sizeLine + 1
    simp only [Array.size_append, List.size_toArray, List.length_nil]
    omega)
  refine wpAny_pure (?_ : wpAny (model prog w) A (do
      let o ← load s.heap.objs.size
      match o.data with
      | .seq xs _ => pure xs.toList
      | _ => unsupported "internal:collect") Q E { s with heap := got s.heap vs })
  apply wpAny_bind
  refine wpAny_load (get?_update_seq emp _) (?_ : wpAny _ _ (pure ((#[] : Array Value) ++ vs.toArray).toList) Q E _)
  have e : ((#[] : Array Value) ++ vs.toArray).toList = vs := by simp
  rw [e]
  exact wpAny_pure fin
theorem sorted_tp {l : Addr} {vs : List Value} {ltv : Value → Value → Bool} {Q : Value → Shared → Prop} (O : Swo ltv) (tp : IsTp s.heap l vs) (room : vs.length ≤ sizeLine)
    (cmp : 2 ≤ vs.length → ∀ (h₁ : Heap) (a : Addr), h₁.get? a = some (seqObj "list" vs.toArray 0) → (∀ b o, s.heap.get? b = some o → b ≠ a ∧ h₁.get? b = some o) → SortableO prog w A.in1.in1 { s with heap := h₁ } a vs ltv)
    (fin : ∀ out : List Value, Srtd ltv out → Stb ltv out vs → Q (.ref (s.heap.objs.size + 1)) { s with heap := sortedAll s.heap vs out.toArray }) : wpAny (model prog w) A (call (.builtin "sorted") [.ref l]) Q E s := by
  refine Calls.call_function_entry kind_sorted plain_sorted entry_sorted (args_sorted1 _) ?_
  unfold Builtin.«sorted»
  apply wpAny_bind (m := checkCount "sorted" 1 1 _)
  apply wpAny_pure
  apply wpAny_bind
  refine collect_tp tp ?_ room
  apply wpAny_bind
  refine wpAny_newList ?_ room
  have hsz : (got s.heap vs).objs.size = s.heap.objs.size + 1 := (Heap.size_update _ _ _).trans (size_push' _ _)
  have hoL : ((got s.heap vs).push (seqObj "list" vs.toArray 0)).get? (s.heap.objs.size + 1) = some (seqObj "list" vs.toArray 0) := by rw [← hsz]; exact Heap.get?_push_size _ rfl
  have keep : ∀ b o, s.heap.get? b = some o → b ≠ s.heap.objs.size + 1 ∧ ((got s.heap vs).push (seqObj "list" vs.toArray 0)).get? b = some o := by
    intro b o q
    have hlt := Heap.lt_size q
    have hne : b ≠ s.heap.objs.size := Nat.ne_of_lt hlt
    exact ⟨Nat.ne_of_lt (Nat.lt_succ_of_lt hlt), Heap.get?_push_of_some _ ((Heap.get?_update_ne _ _ _ _ hne).trans (Heap.get?_push_of_some _ q))⟩
  change wpAny _ _ _ _ _ { s with heap := (got s.heap vs).push (seqObj "list" vs.toArray 0) }
  rw [hsz]
  apply wpAny_bind
  apply wpAny_holding
  refine wpAny_call_entry slot_list_sort ⟨_, hoL, rfl⟩ entry_list_sort (list_sort_ord O hoL room (fun h2 => cmp h2 _ _ hoL keep) fun out hs hb => ⟨_, rfl, ?_⟩) (args_list_sort _)
  exact wpAny_pure ⟨_, rfl, fin out hs hb⟩
end
end SrtT
end
section
/-! DLS: sorted(..) of tuples of ints and texts. -/
namespace DL
open PySem PySem.Spec PyProof.Rows L2 Srt SrtO
/-! an order of keys -/
def ltKey : Key → Key → Bool
  | .inl i, .inl j => decide (i < j)
  | .inr a, .inr b => decide (a.cps.toList < b.cps.toList)
  | .inl _, .inr _ => true
  | .inr _, .inl _ => false
def lexK : List Key → List Key → Bool
  | [], [] => false
  | [], _ :: _ => true
  | _ :: _, [] => false
  | a :: as, b :: bs => if a = b then lexK as bs else ltKey a b
theorem str_ext {a b : Str} (h : a.cps.toList = b.cps.toList) : a = b := by
  cases a; cases b
  congr 1
  exact Array.toList_inj.mp h
theorem ltKey_asym {a b : Key} (h : ltKey a b = true) : ltKey b a = false := by
  match a, b with
  | .inl i, .inl j => simp only [ltKey, decide_eq_true_eq, decide_eq_false_iff_not] at h ⊢; omega
  | .inr x, .inr y =>
    simp only [ltKey, decide_eq_true_eq, decide_eq_false_iff_not] at h ⊢
    exact fun h2 => List.lt_irrefl _ (List.lt_trans h h2)
  | .inl _, .inr _ => rfl
  | .inr _, .inl _ => cases h
theorem ltKey_tri {a b : Key} (h1 : ltKey a b = false) (h2 : ltKey b a = false) : a = b := by
  match a, b with
  | .inl i, .inl j =>
    simp only [ltKey, decide_eq_false_iff_not] at h1 h2
    congr 1; omega
  | .inr x, .inr y =>
    simp only [ltKey, decide_eq_false_iff_not] at h1 h2
    congr 1
    exact str_ext (List.le_antisymm (List.not_lt.mp h2) (List.not_lt.mp h1))
  | .inl _, .inr _ => cases h1
  | .inr _, .inl _ => cases h2
theorem ltKey_trans {a b c : Key} (h1 : ltKey a b = true) (h2 : ltKey b c = true) : ltKey a c = true := by
  match a, b, c with
  | .inl i, .inl j, .inl k => simp only [ltKey, decide_eq_true_eq] at h1 h2 ⊢; omega
  | .inr x, .inr y, .inr z => simp only [ltKey, decide_eq_true_eq] at h1 h2 ⊢; exact List.lt_trans h1 h2
  | .inl _, _, .inr _ => rfl
  | .inr _, .inl _, _ => cases h1
  | _, .inr _, .inl _ => cases h2
theorem ltKey_irr (a : Key) : ltKey a a = false := by
  cases h : ltKey a a with
  | false => rfl
  | true => have := ltKey_asym h; rw [h] at this; cases this
theorem lexK_asym : ∀ as bs : List Key, lexK as bs = true → lexK bs as = false
  | [], [], h => by cases h
  | [], _ :: _, _ => rfl
  | _ :: _, [], h => by cases h
  | a :: as, b :: bs, h => by
    unfold lexK at h ⊢
    by_cases e : a = b
    · rw [if_pos e] at h; rw [if_pos e.symm]; exact lexK_asym as bs h
    · rw [if_neg e] at h; rw [if_neg fun z => e z.symm]; exact ltKey_asym h
theorem lexK_tr : ∀ as bs cs : List Key, lexK bs as = false → lexK cs bs = false → lexK cs as = false
  | [], [], [], _, _ => rfl
  | [], [], _ :: _, _, h => by unfold lexK; rfl
  | [], _ :: _, [], h, h2 => by cases h2
  | [], _ :: _, _ :: _, _, _ => by unfold lexK; rfl
  | _ :: _, [], _, h, _ => by cases h
  | _ :: _, _ :: _, [], _, h => by cases h
  | a :: as, b :: bs, c :: cs, h1, h2 => by
    unfold lexK at h1 h2 ⊢
    by_cases e1 : b = a
    · subst e1
      rw [if_pos rfl] at h1
      by_cases e2 : c = b
      · subst e2
        rw [if_pos rfl] at h2 ⊢
        exact lexK_tr as bs cs h1 h2
      · rw [if_neg e2] at h2 ⊢; exact h2
    · rw [if_neg e1] at h1
      by_cases e2 : c = b
      · subst e2
        rw [if_neg e1]; exact h1
      · rw [if_neg e2] at h2
        by_cases e3 : c = a
        · subst e3
          exact absurd (ltKey_tri h1 h2) e1
        · rw [if_neg e3]
          cases h : ltKey c a with
          | false => rfl
          | true =>
            have hab : ltKey a b = true := by
              cases q : ltKey a b with
              | true => rfl
              | false => exact absurd (ltKey_tri h1 q) e1
            have := ltKey_trans h hab
            rw [h2] at this; cases this
theorem swo_key {α : Type} (k : α → List Key) : Swo fun x y => lexK (k x) (k y) := ⟨fun x y h => lexK_asym _ _ h, fun x y z h1 h2 => lexK_tr _ _ _ h1 h2⟩
/-! a plain stable sort -/
def insB {α : Type} (lt : α → α → Bool) (y : α) (l : List α) : List α := (l.takeWhile fun x => !lt y x) ++ y :: (l.dropWhile fun x => !lt y x)
def isort {α : Type} (lt : α → α → Bool) (l : List α) : List α := l.foldl (fun acc y => insB lt y acc) []
theorem take_all {α : Type} {p : α → Bool} : ∀ {l : List α} {x : α}, x ∈ l.takeWhile p → p x = true
  | [], _, h => by cases h
  | a :: l, x, h => by
    rw [List.takeWhile_cons] at h
    split at h
    · rcases List.mem_cons.mp h with e | h
      · rw [e]; assumption
      · exact take_all h
    · cases h
theorem insB_ok {α : Type} {lt : α → α → Bool} (O : Swo lt) {acc O1 : List α} {y : α} (h : Srtd lt acc) (s : Stb lt acc O1) : Srtd lt (insB lt y acc) ∧ Stb lt (insB lt y acc) (O1 ++ [y]) := by
  have e : (acc.takeWhile fun x => !lt y x) ++ (acc.dropWhile fun x => !lt y x) = acc := List.takeWhile_append_dropWhile
  have h1 : ∀ x ∈ acc.takeWhile fun x => !lt y x, lt y x = false := fun x hx => by
    have := take_all hx
    simpa using this
  have h' : Srtd lt ((acc.takeWhile fun x => !lt y x) ++ (acc.dropWhile fun x => !lt y x)) := by rw [e]; exact h
  have h2 : ∀ x ∈ acc.dropWhile fun x => !lt y x, lt y x = true := by
    obtain ⟨-, h3, -⟩ := srtd_app.mp h'
    cases hd : acc.dropWhile fun x => !lt y x with
    | nil => intro x hx; cases hx
    | cons z r =>
      rw [hd] at h3
      have hz : lt y z = true := by
        have := List.head?_dropWhile_not (fun x => !lt y x) acc
        rw [hd] at this
        simpa using this
      exact O.lt_all h3 hz
  exact ⟨ins_srtd O h' h1 h2, ins_stb O h2 (by rw [e]; exact s)⟩
theorem isort_aux {α : Type} {lt : α → α → Bool} (O : Swo lt) : ∀ (l acc O1 : List α), Srtd lt acc → Stb lt acc O1 → Srtd lt (l.foldl (fun acc y => insB lt y acc) acc) ∧ Stb lt (l.foldl (fun acc y => insB lt y acc) acc) (O1 ++ l)
  | [], acc, O1, h, s => ⟨h, by simpa using s⟩
  | y :: l, acc, O1, h, s => by
    obtain ⟨h1, h2⟩ := insB_ok (y := y) O h s
    have := isort_aux O l _ _ h1 h2
    simpa using this
theorem isort_ok {α : Type} {lt : α → α → Bool} (O : Swo lt) (l : List α) : Srtd lt (isort lt l) ∧ Stb lt (isort lt l) l := by
  have := isort_aux O l [] [] List.Pairwise.nil (Stb.refl _)
  rw [List.nil_append] at this
  exact this
/-! tuples of keys in the heap -/
def KI (k : Key) (u : Value) : Prop := RelV (kV k) u
def IsKT (h : Heap) (v : Value) (ks : List Key) : Prop := ∃ a o its n, v = .ref a ∧ h.get? a = some o ∧ o.cls = .type "tuple" ∧ o.data = .seq its n ∧ Vals (ks.map kV) its.toList
theorem IsKT.keeps {h h' : Heap} {v : Value} {ks : List Key} (p : IsKT h v ks) (k : ∀ b o, h.get? b = some o → o.cls = .type "tuple" → h'.get? b = some o) : IsKT h' v ks := by
  obtain ⟨a, o, its, n, e, ho, hc, hd⟩ := p
  exact ⟨a, o, its, n, e, k _ _ ho hc, hc, hd⟩
/-- the keys of a tuple, read off the heap -/
def keyOfV : Value → Key
  | .int i _ => .inl i
  | .str x _ => .inr x
  | _ => .inl 0
def keysAt (h : Heap) (v : Value) : List Key := match v with
  | .ref a => match h.get? a with
    | some o => match o.data with
      | .seq its _ => its.toList.map keyOfV
      | _ => []
    | none => []
  | _ => []
theorem keys_vals : ∀ {ks : List Key} {us : List Value}, Vals (ks.map kV) us → us.map keyOfV = ks
  | [], _, h => by cases h; rfl
  | k :: ks, _, h => by
    cases h with
    | cons r t =>
      rw [List.map_cons, keys_vals t]
      congr 1
      cases k with
      | inl i => obtain ⟨t, rfl⟩ := (show ∃ t, _ = Value.int i t from r); rfl
      | inr x => obtain ⟨t, rfl⟩ := (show ∃ t, _ = Value.str x t from r); rfl
theorem IsKT.keys {h : Heap} {v : Value} {ks : List Key} (p : IsKT h v ks) : keysAt h v = ks := by
  obtain ⟨a, o, its, n, rfl, ho, hc, hd, r⟩ := p
  unfold keysAt
  simp only [ho, hd]
  exact keys_vals r
def kindK : Key → Bool
  | .inl _ => true
  | .inr _ => false
section
variable {prog : Program} {w : World} {A : Around} {E : Value → Shared → Prop} {s : Shared}
theorem lex_walk {fin : Bool} {Q : Bool → Shared → Prop} : ∀ (i : Nat) {ks ms : List Key} {us ws : List Value}, ks.map kindK = ms.map kindK → Vals (ks.map kV) us → Vals (ms.map kV) ws → fin = false → Q (lexK ks ms) s → PySem.W.KatLex prog w A true fin Q (us.zip ws) i s
  | i, [], [], _, _, _, r1, r2, hf, h => by
    cases r1; cases r2
    subst hf
    exact PySem.W.kat_nil h
  | i, [], _ :: _, _, _, e, _, _, _, _ => by cases e
  | i, _ :: _, [], _, _, e, _, _, _, _ => by cases e
  | i, k :: ks, m :: ms, _, _, e, r1, r2, hf, h => by
    cases r1 with
    | cons a1 t1 =>
      cases r2 with
      | cons a2 t2 =>
        simp only [List.map_cons, List.cons.injEq] at e
        match k, m, e.1 with
        | .inl x, .inl y, _ =>
          obtain ⟨t, rfl⟩ := (show ∃ t, _ = Value.int x t from a1)
          obtain ⟨u, rfl⟩ := (show ∃ t, _ = Value.int y t from a2)
          refine PySem.W.kat_cons (SeqAt.EqAt.int_int x t y u prog w _ _ ?_)
          refine PySem.W.kat_go (fun e1 => ?_) (fun e1 => ?_)
          · have ex : x = y := by simpa using e1
            subst ex
            refine PySem.W.kat_yes (lex_walk (i + 1) e.2 t1 t2 hf ?_)
            unfold lexK at h
            rw [if_pos rfl] at h
            exact h
          · have ex : ¬ x = y := by simpa using e1
            refine PySem.W.kat_no (oneLt_any_int ?_)
            unfold lexK at h
            rw [if_neg fun z => ex (Sum.inl.inj z)] at h
            exact h
        | .inr x, .inr y, _ =>
          obtain ⟨t, rfl⟩ := (show ∃ t, _ = Value.str x t from a1)
          obtain ⟨u, rfl⟩ := (show ∃ t, _ = Value.str y t from a2)
          refine PySem.W.kat_cons (SeqAt.EqAt.str_str x t y u prog w _ _ ?_)
          refine PySem.W.kat_go (fun e1 => ?_) (fun e1 => ?_)
          · have ex : x = y := by simpa using e1
            subst ex
            refine PySem.W.kat_yes (lex_walk (i + 1) e.2 t1 t2 hf ?_)
            unfold lexK at h
            rw [if_pos rfl] at h
            exact h
          · have ex : ¬ x = y := by simpa using e1
            refine PySem.W.kat_no (oneLt_any_str ?_)
            unfold lexK at h
            rw [if_neg fun z => ex (Sum.inr.inj z)] at h
            exact h
theorem kt_cmp {vs : List Value} {sh : List Bool} {k : Value → List Key} (hp : ∀ v ∈ vs, IsKT s.heap v (k v) ∧ (k v).map kindK = sh) : Cmp prog w A s (tuples' true) (fun p => p.1 ∈ vs) (lt2 fun v u => lexK (k v) (k u)) := by
  intro p q hm hm'
  obtain ⟨⟨a, o, its, n, e, ho, hc, hd, r⟩, sh1⟩ := hp _ hm
  obtain ⟨⟨a', o', its', n', e', ho', hc', hd', r'⟩, sh2⟩ := hp _ hm'
  show wpAny (model prog w) A (keyLt' (tuples' true) p.1 q.1) (fun r s' => s' = s ∧ r = lexK (k p.1) (k q.1)) (fun _ _ => False) s
  generalize k p.1 = ks at *
  generalize k q.1 = ms at *
  rw [e, e']
  refine PySem.W.kat_lt ho hd ho' hd' (lex_walk 0 (sh1.trans sh2.symm) r r' ?_ ⟨rfl, rfl⟩)
  have l1 := r.length
  have l2 := r'.length
  have l3 := congrArg List.length (sh1.trans sh2.symm)
  simp only [List.length_map] at l1 l2 l3
  have : its.size = its'.size := by rw [← Array.length_toList, ← Array.length_toList]; omega
  rw [this]
  exact decide_eq_false (Nat.lt_irrefl _)
theorem kt_firsts {h : Heap} {b : Bool} : ∀ {vs : List Value}, (∀ v ∈ vs, ∃ c cs, IsKT h v (c :: cs) ∧ kindK c = b) → ∃ fs : List Value, PySem.W.KatTups h vs fs ∧ fs.length = vs.length ∧ ∀ f ∈ fs, ∃ c, kindK c = b ∧ RelV (kV c) f
  | [], _ => ⟨[], PySem.W.KatTups.nil, rfl, fun _ hm => by cases hm⟩
  | v :: vs, hp => by
    obtain ⟨fs, h1, h2, h3⟩ := kt_firsts (vs := vs) fun v' hm => hp v' (List.mem_cons_of_mem _ hm)
    obtain ⟨c, cs, ⟨a, o, its, n, e, ho, hc, hd, r⟩, hb⟩ := hp v List.mem_cons_self
    subst e
    cases hl : its.toList with
    | nil => rw [hl] at r; cases r
    | cons u us =>
      rw [hl] at r
      cases r with
      | cons r1 r2 =>
        have h0 : its[0]? = some u := by rw [← Array.getElem?_toList, hl]; rfl
        refine ⟨u :: fs, PySem.W.KatTups.cons ho hc hd h0 h1, by simp [h2], fun f hm => ?_⟩
        rcases List.mem_cons.mp hm with rfl | hm
        · exact ⟨c, hb, r1⟩
        · exact h3 f hm
theorem kt_sortable {a : Addr} {vs : List Value} {b : Bool} {sh : List Bool} {k : Value → List Key} (h0 : 0 < vs.length) (hp : ∀ v ∈ vs, IsKT s.heap v (k v) ∧ (k v).map kindK = b :: sh) (ha : ∀ o, s.heap.get? a = some o → o.cls ≠ .type "tuple") :
    SortableO prog w A s a vs fun v u => lexK (k v) (k u) := by
  intro h' keep
  have hp' : ∀ v ∈ vs, IsKT h' v (k v) ∧ (k v).map kindK = b :: sh := fun v hm => ⟨(hp v hm).1.keeps fun b o e c => keep b o (fun z => by subst z; exact ha o e c) e, (hp v hm).2⟩
  obtain ⟨fs, h1, h2, h3⟩ := kt_firsts (b := b) fun v hm => by
    obtain ⟨q1, q2⟩ := hp' v hm
    cases hk : k v with
    | nil => rw [hk] at q2; cases q2
    | cons c cs =>
      rw [hk] at q1 q2
      simp only [List.map_cons, List.cons.injEq] at q2
      exact ⟨c, cs, q1, q2.1⟩
  refine ⟨tuples' true, fun Q E hq => ?_, kt_cmp (s := { s with heap := h' }) hp'⟩
  cases b with
  | true =>
    refine PySem.W.kat_kind (T := .type "int") h1 (by omega) (fun f hm => ?_) (by rfl) ?_
    · obtain ⟨c, hc, r⟩ := h3 f hm
      cases c with
      | inl i => obtain ⟨t, rfl⟩ := (show ∃ t, f = Value.int i t from r); exact PySem.W.Looks.now
      | inr x => cases hc
    · have e : (Value.type "int" != Value.type "tuple") = true := by decide +kernel
      rw [e]; exact hq
  | false =>
    refine PySem.W.kat_kind (T := .type "str") h1 (by omega) (fun f hm => ?_) (by rfl) ?_
    · obtain ⟨c, hc, r⟩ := h3 f hm
      cases c with
      | inl i => cases hc
      | inr x => obtain ⟨t, rfl⟩ := (show ∃ t, f = Value.str x t from r); exact PySem.W.Looks.now
    · have e : (Value.type "str" != Value.type "tuple") = true := by decide +kernel
      rw [e]; exact hq
end
/-! sorted -/
def keysD : List D → Option (List Key)
  | [] => some []
  | d :: ds => match keyD d, keysD ds with
    | some k, some ks => some (k :: ks)
    | _, _ => none
def tupKeys : D → Option (List Key)
  | .tup xs => keysD xs
  | _ => none
def tk (d : D) : List Key := (tupKeys d).getD []
/-- all of them tuples of keys of one kind -/
def sortable (xs : List D) : Bool := match xs with
  | [] => true
  | x :: r => (tupKeys x).isSome && !(tk x).isEmpty && r.all fun y => (tupKeys y).isSome && (tk y).map kindK == (tk x).map kindK
def sortedD (ds : List D) (st : Store) : Option (D × Store) := match ds with
  | [x] => match seqA st x with
    | some xs => if sortable xs then some (.lst (isort (fun x y => lexK (tk x) (tk y)) xs), st) else none
    | none => none
  | _ => none
theorem sortable_ok {xs : List D} (h : sortable xs = true) : xs = [] ∨ ∃ b sh, ∀ x ∈ xs, (tupKeys x).isSome = true ∧ (tk x).map kindK = b :: sh := by
  unfold sortable at h
  split at h
  · exact .inl rfl
  · rename_i x r
    right
    simp only [Bool.and_eq_true, Bool.not_eq_true', List.all_eq_true, beq_iff_eq] at h
    obtain ⟨⟨h1, h2⟩, h3⟩ := h
    cases hk : tk x with
    | nil => rw [hk] at h2; cases h2
    | cons c cs =>
      refine ⟨kindK c, cs.map kindK, fun y hy => ?_⟩
      rcases List.mem_cons.mp hy with rfl | hy
      · exact ⟨h1, by rw [hk]; rfl⟩
      · exact ⟨(h3 y hy).1, by rw [(h3 y hy).2, hk]; rfl⟩
theorem Stb.symm {α : Type} {lt : α → α → Bool} {l m : List α} (h : Stb lt l m) : Stb lt m l := ⟨h.perm.symm, fun x => (h.cls x).symm⟩
theorem while_congr {α : Type} {p q : α → Bool} : ∀ {l : List α}, (∀ x ∈ l, p x = q x) → l.takeWhile p = l.takeWhile q ∧ l.dropWhile p = l.dropWhile q
  | [], _ => ⟨rfl, rfl⟩
  | a :: l, h => by
    obtain ⟨h1, h2⟩ := while_congr (l := l) fun x hx => h x (List.mem_cons_of_mem _ hx)
    have h0 := h a List.mem_cons_self
    rw [List.takeWhile_cons, List.takeWhile_cons, List.dropWhile_cons, List.dropWhile_cons, h0, h1, h2]
    exact ⟨rfl, rfl⟩
theorem insB_mem {α : Type} {lt : α → α → Bool} {y x : α} {l : List α} (h : x ∈ insB lt y l) : x = y ∨ x ∈ l := by
  unfold insB at h
  rcases List.mem_append.mp h with h | h
  · exact .inr ((List.takeWhile_sublist _).subset h)
  · rcases List.mem_cons.mp h with h | h
    · exact .inl h
    · exact .inr ((List.dropWhile_sublist _).subset h)
theorem isort_congr {α : Type} {lt lt' : α → α → Bool} {P : α → Prop} (h : ∀ x y, P x → P y → lt x y = lt' x y) : ∀ (l acc : List α), (∀ x ∈ l, P x) → (∀ x ∈ acc, P x) → l.foldl (fun acc y => insB lt y acc) acc = l.foldl (fun acc y => insB lt' y acc) acc
  | [], _, _, _ => rfl
  | y :: l, acc, h1, h2 => by
    have e : insB lt y acc = insB lt' y acc := by
      unfold insB
      obtain ⟨q1, q2⟩ := while_congr (l := acc) (p := fun x => !lt y x) (q := fun x => !lt' y x) fun x hx => by rw [h y x (h1 y List.mem_cons_self) (h2 x hx)]
      rw [q1, q2]
    simp only [List.foldl_cons]
    rw [e]
    refine isort_congr h l _ (fun x hx => h1 x (List.mem_cons_of_mem _ hx)) fun x hx => ?_
    rcases insB_mem hx with e | hx
    · rw [e]; exact h1 y List.mem_cons_self
    · exact h2 x hx
theorem while_map {α β : Type} {p : β → Bool} (f : α → β) : ∀ l : List α, (l.map f).takeWhile p = (l.takeWhile fun x => p (f x)).map f ∧ (l.map f).dropWhile p = (l.dropWhile fun x => p (f x)).map f
  | [] => ⟨rfl, rfl⟩
  | a :: l => by
    obtain ⟨h1, h2⟩ := while_map (p := p) f l
    simp only [List.map_cons, List.takeWhile_cons, List.dropWhile_cons]
    split
    · exact ⟨by rw [h1]; rfl, h2⟩
    · exact ⟨rfl, rfl⟩
theorem insB_map {α β : Type} {lt : β → β → Bool} (f : α → β) (y : α) (l : List α) : insB lt (f y) (l.map f) = (insB (fun a b => lt (f a) (f b)) y l).map f := by
  unfold insB
  obtain ⟨h1, h2⟩ := while_map (p := fun x => !lt (f y) x) f l
  rw [h1, h2]
  simp
theorem isort_map {α β : Type} {lt : β → β → Bool} (f : α → β) : ∀ (l acc : List α), (l.map f).foldl (fun acc y => insB lt y acc) (acc.map f) = (l.foldl (fun acc y => insB (fun a b => lt (f a) (f b)) y acc) acc).map f
  | [], _ => rfl
  | y :: l, acc => by
    simp only [List.map_cons, List.foldl_cons]
    rw [insB_map]
    exact isort_map f l _
theorem isort_len {α : Type} {lt : α → α → Bool} (O : Swo lt) (l : List α) : (isort lt l).length = l.length := (isort_ok O l).2.perm.length_eq
theorem isort_mem {α : Type} {lt : α → α → Bool} (O : Swo lt) {l : List α} {x : α} : x ∈ isort lt l ↔ x ∈ l := (isort_ok O l).2.perm.mem_iff
section
variable {K : PySem.W.Frag} {ρ : Pl} {H : Hp}
theorem keysD_ok : ∀ {ds : List D} {vs : List V} {ks : List Key}, RelDs K ρ H ds vs → keysD ds = some ks → vs = ks.map kV
  | [], _, _, r, e => by cases r; cases e; rfl
  | d :: ds, _, ks, r, e => by
    cases r with
    | cons r1 r2 =>
      unfold keysD at e
      split at e
      · rename_i k ks' e1 e2
        cases e
        rw [keysD_ok r2 e2, keyD_ok r1 e1]; rfl
      · cases e
/-- value by value: the data, what the heap tracks, what the machine holds -/
structure Tri (K : PySem.W.Frag) (ρ : Pl) (H : Hp) (t : D × V × Value) : Prop where
  d : RelD K ρ H t.1 t.2.1
  v : RelV t.2.1 t.2.2
theorem tri_of : ∀ {ds : List D} {vs : List V} {us : List Value}, RelDs K ρ H ds vs → Vals vs us → ∃ T : List (D × V × Value), T.map (·.1) = ds ∧ T.map (·.2.1) = vs ∧ T.map (·.2.2) = us ∧ ∀ t ∈ T, Tri K ρ H t
  | [], _, _, r, q => by cases r; cases q; exact ⟨[], rfl, rfl, rfl, fun _ h => by cases h⟩
  | d :: ds, _, _, r, q => by
    cases r with
    | cons r1 r2 =>
      cases q with
      | cons q1 q2 =>
        obtain ⟨T, h1, h2, h3, h4⟩ := tri_of r2 q2
        refine ⟨(d, _, _) :: T, by rw [List.map_cons, h1], by rw [List.map_cons, h2], by rw [List.map_cons, h3], fun t ht => ?_⟩
        rcases List.mem_cons.mp ht with rfl | ht
        · exact ⟨r1, q1⟩
        · exact h4 t ht
theorem tri_back : ∀ {T : List (D × V × Value)}, (∀ t ∈ T, Tri K ρ H t) → RelDs K ρ H (T.map (·.1)) (T.map (·.2.1)) ∧ Vals (T.map (·.2.1)) (T.map (·.2.2))
  | [], _ => ⟨.nil, .nil⟩
  | t :: T, h => by
    obtain ⟨h1, h2⟩ := tri_back (T := T) fun x hx => h x (List.mem_cons_of_mem _ hx)
    have := h t List.mem_cons_self
    exact ⟨.cons this.d h1, .cons this.v h2⟩
end
section
variable {X : Cx}
theorem kt_of {pins : List (Addr × Obj)} {σ : L2.St} {H : Hp} {s : Shared} {ρ : Pl} (I : L2.Inv X pins σ H s) {t : D × V × Value} (r : Tri X.K ρ H t) (h : (tupKeys t.1).isSome = true) : IsKT s.heap t.2.2 (tk t.1) := by
  obtain ⟨d, v, u⟩ := t
  obtain ⟨rd, rv⟩ := r
  obtain ⟨ks, hk⟩ := Option.isSome_iff_exists.mp h
  have e : tk d = ks := by unfold tk; rw [show tupKeys d = some ks from hk]; rfl
  show IsKT s.heap u (tk d)
  rw [e]
  cases d with
  | tup xs =>
    obtain ⟨a, vs, e1, h1, h2⟩ := tup_ok rd
    cases e1
    obtain rfl : u = Value.ref a := rv
    obtain ⟨its, r, ⟨o, ho, hc, n, hd⟩, _⟩ := I.tuple h1
    have := keysD_ok h2 hk
    subst this
    exact ⟨a, o, _, n, rfl, ho, hc, hd, by simpa using r⟩
  | _ => cases hk
theorem sorted_lt {prog : Program} {w : World} {A : Around} {E : Value → Shared → Prop} {s : Shared} {l : Addr} {vs : List Value} {ltv : Value → Value → Bool} {Q : Value → Shared → Prop} (O : Swo ltv) (hl : s.heap.IsList l vs.toArray ∨ SrtT.IsTp s.heap l vs) (room : vs.length ≤ sizeLine)
    (cmp : 2 ≤ vs.length → ∀ (h₁ : Heap) (a : Addr), h₁.get? a = some (seqObj "list" vs.toArray 0) → (∀ b o, s.heap.get? b = some o → b ≠ a ∧ h₁.get? b = some o) → SortableO prog w A.in1.in1 { s with heap := h₁ } a vs ltv)
    (fin : ∀ out : List Value, Srtd ltv out → Stb ltv out vs → Q (.ref (s.heap.objs.size + 1)) { s with heap := sortedAll s.heap vs out.toArray }) : wpAny (model prog w) A (call (.builtin "sorted") [.ref l]) Q E s :=
  hl.elim (fun h => sorted_ord O h room cmp fin) fun h => SrtT.sorted_tp O h room cmp fin
theorem cd_sorted : CallD X (.builtin "sorted") sortedD := by
  intro pins s σ H vs us Q I rx q
  obtain ⟨ρ, st, ds, rs, rd, q⟩ := q
  unfold sortedD at q
  split at q
  · rename_i d st' e
    split at e
    · rename_i x
      split at e
      · rename_i xs hx
        split at e
        · rename_i hs
          cases e
          obtain ⟨v, rfl, r1⟩ := rd.one
          obtain ⟨a, ws, rfl, h1, h2⟩ := seqA_ok rs r1 hx
          obtain ⟨u, rfl, ru⟩ := vals1 rx
          obtain rfl : u = Value.ref a := ru
          obtain ⟨its, rv, hl, hz⟩ : ∃ its : List Value, Vals ws its ∧ (s.heap.IsList a its.toArray ∨ SrtT.IsTp s.heap a its) ∧ ws.length ≤ sizeLine := by
            rcases h1 with h1 | h1
            · obtain ⟨its, rv, hl, hz⟩ := I.list h1
              exact ⟨its, rv, .inl hl.isList, hz⟩
            · obtain ⟨its, rv, ⟨o, ho, hc, n, hd⟩, hz⟩ := I.tuple h1
              exact ⟨its, rv, .inr ⟨o, n, ho, hc, hd⟩, hz⟩
          obtain ⟨T, t1, t2, t3, t4⟩ := tri_of h2 rv
          have every : ∀ t ∈ T, (tupKeys t.1).isSome = true := fun t ht => by
            rcases sortable_ok hs with h | ⟨b, sh, h⟩
            · rw [h] at t1
              rw [List.map_eq_nil_iff.mp t1] at ht
              cases ht
            · exact (h t.1 (by rw [← t1]; exact List.mem_map_of_mem ht)).1
          have look : ∀ t ∈ T, keysAt s.heap t.2.2 = tk t.1 := fun t ht => (kt_of I (t4 t ht) (every t ht)).keys
          have O := swo_key (keysAt s.heap)
          have OT := swo_key fun t : D × V × Value => keysAt s.heap t.2.2
          refine sorted_lt O hl (by rw [← rv.length]; exact hz) (fun h2' h₁ a' ha kk => ?_) fun out hsd hsb => ?_
          · rcases sortable_ok hs with h | ⟨b, sh, h⟩
            · exfalso
              rw [h] at t1
              rw [← t3, List.map_eq_nil_iff.mp t1] at h2'
              simp at h2'
            · refine kt_sortable (s := { s with heap := h₁ }) (b := b) (sh := sh) (by omega) (fun v hv => ?_) fun o e => ?_
              · rw [← t3] at hv
                obtain ⟨t, ht, rfl⟩ := List.mem_map.mp hv
                rw [look t ht]
                exact ⟨(kt_of I (t4 t ht) (every t ht)).keeps fun b o e _ => (kk b o e).2, (h t.1 (by rw [← t1]; exact List.mem_map_of_mem ht)).2⟩
              · have e' : some o = some (seqObj "list" its.toArray 0) := e.symm.trans ha
                cases e'
                intro c
                exact absurd (Value.type.inj c) (by decide)
          · have hT := isort_ok OT T
            have eo : out = (isort (fun t u : D × V × Value => lexK (keysAt s.heap t.2.2) (keysAt s.heap u.2.2)) T).map (·.2.2) := by
              refine stb_uniq O hsd (srtd_map (lt := fun v u => lexK (keysAt s.heap v) (keysAt s.heap u)) hT.1) (hsb.trans (Stb.symm ?_))
              have := Stb.map O (fun t : D × V × Value => t.2.2) hT.2
              rw [t3] at this
              exact this
            have ed : isort (fun x y => lexK (tk x) (tk y)) xs = (isort (fun t u : D × V × Value => lexK (keysAt s.heap t.2.2) (keysAt s.heap u.2.2)) T).map (·.1) := by
              rw [← t1]
              refine (isort_map (lt := fun x y => lexK (tk x) (tk y)) (fun t : D × V × Value => t.1) T []).trans (congrArg (List.map fun t : D × V × Value => t.1) ?_)
              exact isort_congr (P := (· ∈ T)) (fun x y hx hy => by rw [look x hx, look y hy]) T [] (fun x hx => hx) fun x hx => by cases hx
            have every4 : ∀ t ∈ isort (fun t u : D × V × Value => lexK (keysAt s.heap t.2.2) (keysAt s.heap u.2.2)) T, Tri X.K ρ H t := fun t ht => t4 t ((isort_mem OT).mp ht)
            obtain ⟨b1, b2⟩ := tri_back every4
            rw [← ed] at b1
            rw [← eo] at b2
            obtain ⟨n, hn⟩ := sortedAll_at s.heap its out.toArray
            have np : H (s.heap.objs.size + 1) = none := I.hok.fresh (Nat.le_succ _)
            refine ⟨.ref (s.heap.objs.size + 1), upd H (s.heap.objs.size + 1) (.lst _), I.laid (t' := s.toks) (fun b o e => sortedAll_old e) (Nat.le_succ _) ⟨?_, out, n, b2, hn⟩, rfl, q ρ _ _ (Ext.new rs np) (rs.new np) (new_lst rs np b1)⟩
            rw [List.length_map, isort_len OT, ← List.length_map (f := fun t : D × V × Value => t.2.1), t2]
            exact hz
        · cases e
      · cases e
    · cases e
  · exact q.elim
end
end DL
end
section
/-! ELX: an exception class whose __init__ says super().__init__(..). -/
namespace DL
open PySem PySem.Spec PyProof.Rows L2 PySem.Calls
open PySem.W (ksFn kxs_mw KxsFacts)
section
open PySem.W
variable {prog : Program} {w : World} {A : Around} {E : Value → Shared → Prop} {h : Heap} {g : Array GenState} {d : Drawn} {t : Nat} {os : OsState}
theorem call_mw {C N u e t0 : Addr} {nm q : Str} {bs bm : List Value} {hdct : Bool} {sn : List Str} {sub : List Value} {ab : Bool} {col : Option Bool} {dd : Option Addr} {k0 k1 k2 k3 k5 : Option Value} {rest : List Value} {Q : Value → Shared → Prop}
    (hC : h.get? C = some (excClassObj nm q C N bs bm hdct sn sub ab col dd k0 k1 k2 k3 k5 "ValueError.__new__")) (he : h.get? e = some (HandSPX.excO C t0)) (hu : h.get? u = some (kxs_mw "ValueError.__init__" e)) (hrest : rest.length ≤ sizeLine)
    (hq : ∀ h' t1, (∀ b o, b ≠ e → h.get? b = some o → h'.get? b = some o) → h'.get? e = some (HandSPX.excO C t1) → Q .none ⟨h', g, d, t, os⟩) :
    wpAny (model prog w) A (call (.ref u) rest) Q E ⟨h, g, d, t, os⟩ := by
  refine wpAny_call (codeAny_of_tree ?_)
  show wpAny _ A.in1 (callAny (.ref u) ⟨rest, []⟩) _ _ _
  simp only [callAny]
  refine wpAny_bind (wpAny_load hu ?_)
  simp only [kxs_mw, show (Value.type "method-wrapper" == Value.type "method" || Value.type "method-wrapper" == Value.type "builtin_function_or_method" || Value.type "method-wrapper" == Value.type "method-wrapper") = true by decide, if_true]
  refine W.KFB.if_so (by decide) ?_
  refine wpAny_bind (ESX.check_bound F.excBase_ValueError hC he rfl ?_)
  refine wpAny_bind (wpAny_pure (wpAny_pure ?_))
  refine ⟨Code.quiet_builtin _ (by decide +kernel), codeAny_builtin F.excBase_ValueError.initEntry ?_⟩
  rw [Around.under_plainId F.excBase_ValueError.init.plain _]
  wp_walk
  refine hq _ h.objs.size (fun b o hb ho => ?_) ?_
  · rw [Heap.get?_update_other _ _ (Ne.symm hb)]
    exact Heap.get?_push_of_some _ ho
  · rw [Heap.get?_update_self _ (Heap.get?_push_of_some _ he) rfl]
    rfl
end
def superS (p0 p1 p2 p3 p4 : Pos) (args : List Expr) : Stmt := .Expr (.Call (.Attribute (.Call (.Name "super" p0) [] [] p1) "__init__" p2) args [] p3) p4
section
variable {X : Cx} {pins : List (Addr × Obj)} {σ : L2.St} {H : Hp} {s : Shared}
/-- one thing more is pinned -/
theorem Inv.pinned {u : Addr} {o : Obj} (I : L2.Inv X pins σ H s) (h1 : s.heap.get? u = some o) (h2 : H u = none) (h3 : u ≠ X.env.locals) (h4 : u ∉ X.fs) (h5 : ∀ v, o.data ≠ .cell v) : L2.Inv X ((u, o) :: pins) σ H s :=
  ⟨I.ok, I.os, I.bare, I.base, I.loc, I.cell, I.free, I.freeC, fun p hp => by
    rcases List.mem_append.mp hp with m | m
    · exact I.pin p (List.mem_append_left _ m)
    · rcases List.mem_cons.mp m with rfl | m
      · exact ⟨h1, h2, h3, h4, h5⟩
      · exact I.pin p (List.mem_append_right _ m), I.hok, I.len⟩
theorem Inv.unpin {p : Addr × Obj} (I : L2.Inv X (p :: pins) σ H s) : L2.Inv X pins σ H s :=
  ⟨I.ok, I.os, I.bare, I.base, I.loc, I.cell, I.free, I.freeC, fun q hq => I.pin q (by
    rcases List.mem_append.mp hq with m | m
    · exact List.mem_append_left _ m
    · exact List.mem_append_right _ (List.mem_cons_of_mem _ m)), I.hok, I.len⟩
/-- super().__init__(..) in the __init__ of the class at C: the object's args are laid anew -/
theorem super_step {C a fI cda cc : Addr} {body : List Stmt} {fd : FuncData} {ar : Arg} {me : Str} {vs : Array Value} {file : Str} {tf : Tok} {oc ccl cl : Value} {od cdd cld : Option Addr} {osl ccs csl : Array (Option Value)} {p0 p1 p2 p3 p4 : Pos} {e : Expr} {es : List Expr} {ta : TA} {R : Hp → Prop} {pl : Sem Bool}
    (T : OexC X.K C) (hks : X.env.kindOf "super" = some .globalImplicit) (hkc : X.env.kindOf "__class__" = some .free) (hfu : X.env.func = some fI) (hcode : X.env.code = .ref cda) (hcl : X.env.cells.lookup ("__class__" : Str) = some cc) (hN0 : X.N[0]? = some me) (hme : X.env.kindOf me = some .local)
    (lkf : X.K.lookup fI = some ⟨oc, od, .func fd, osl⟩) (hp : (fd.params.posonlyargs ++ fd.params.args).head? = some ar) (har : ar.arg = me) (lkc : X.K.lookup cda = some ⟨ccl, cdd, .fields vs, ccs⟩) (hvs : vs[2]? = some (.str file tf)) (hfile : ((X.prog.main.file : Str) == file) = true)
    (lkcell : X.K.lookup cc = some ⟨cl, cld, .cell (some (.ref C)), csl⟩) (hsub : PySem.W.mroIn X.K C (.ref C) = some true) (hm : X.mg "super" = none) (htop : (X.prog.main.scope.names.lookup ("super" : Str)).isSome = false) (opq : PySem.W.nsIn X.K PySem.cStatics "thirdparty.any" = some none)
    (hsup : PySem.W.ks_superIn X.K C C "__init__" = some (some (.builtin "ValueError.__init__"))) (hB : PySem.W.subIn X.K (.ref C) (.type "ValueError") = some true)
    (ha : PA X (e :: es) ta) (he : starEach (e :: es) X.env = (false, eval e X.env) :: starEach es X.env) (hpl : (backTo p3 (starEach es X.env)).any (·.1) = false)
    (he2 : eval (.Call (.Attribute (.Call (.Name "super" p0) [] [] p1) "__init__" p2) (e :: es) [] p3) X.env = (do
      let ov ← attributeBase (.Call (.Name "super" p0) [] [] p1) "__init__" X.env (eval (.Call (.Name "super" p0) [] [] p1) X.env)
      standAt p2.atName
      let (f, first) ← holding [ov] (getMethod ov "__init__" pl)
      callWith p3 f first (backTo p3 (starEach (e :: es) X.env)) []))
    (I : L2.Inv X pins σ H s) (h0 : σ[0]? = some (some (.ref a))) (hex : H a = some (exo a C none)) (hR : ta σ H fun ws H1 => ws.length ≤ 1000 ∧ H1 a = some (exo a C none) ∧ R H1) :
    _root_.PySem.wpAt (model X.prog X.w) X.A (.func body X.env) (exec (superS p0 p1 p2 p3 p4 (e :: es)) X.env) (fun f s' => f = .next ∧ ∃ H1, L2.Inv X pins σ H1 s' ∧ R H1) X.xe s := by
  obtain ⟨nm, q, N, bs, bm, sn, sub, ab, col, dd, k0, k1, k2, k3, k5, hC, hbm⟩ := T.cls
  have hcd : PySem.W.clsIn X.K C = some { name := nm, bases := bs, mro := .ref C :: bm, ns := N, qualname := q, hasDict := true, slotNames := sn, subclasses := sub, abstract := ab, collection := col, hasDel := false } := by unfold PySem.W.clsIn; rw [hC] <;> rfl
  obtain ⟨t1, ho⟩ := exo_at I.hok hex
  refine ks_wpAt_Expr_any (ks_wpAt_MethodCall ?_ he2) ?_ rfl
  rotate_left
  · have hk := I.ok.kind
    unfold interactive
    simp [hk, Env.blockKind]
  have hkind := I.ok.kind
  obtain ⟨mb, hb1, hb2⟩ := I.mod.blt
  refine ks_wpAt_super_base (env := X.env) hks hkc rfl hfu (I.kIn _ _ lkf) rfl hp hcode (I.kIn _ _ lkc) rfl hvs hfile htop ?_
  refine PySem.W.ks_loadName_global hkind hks (loadGlobal_builtin (env := X.env) (by rw [I.ok.glob]; exact I.mod.glob.keeps I.bk) hm (by rw [I.ok.blt]; exact hb1.keeps I.bk) ((hb2 "super" (by decide)).trans PyProof.Rows.Boot.«super») ⟨rfl, ?_⟩)
  refine wpAny_loadName_free hkind hkc hcl ⟨_, I.kIn _ _ lkcell, rfl⟩ ?_
  obtain ⟨m, hn, hlk⟩ := id I.loc
  obtain ⟨u, ru, hl⟩ := hlk 0 me (.ref a) hN0 h0 (.inl hme)
  obtain rfl : u = Value.ref a := ru
  have hmv : m me = some (.ref a) := by
    rcases hl with ⟨_, e⟩ | ⟨k, _⟩
    · exact e
    · rcases k with k | k <;> (rw [hme] at k; cases k)
  refine wpAny_loadName_local hkind (by rw [har]; exact hme) hn (by rw [har]; exact hmv) ?_
  refine ks_wpAny_isType_cls (I.kIn _ _ hC) rfl ⟨rfl, ?_⟩
  obtain ⟨hp0, g, d, tk, os⟩ := s
  refine ks_wpAny_call_super (I.kIn _ _ hC) rfl ho rfl (fun c e => by cases e) (PySem.W.looks_mroIn I.kIn hsub) (fun h' es' k => ?_)
  have I1 : L2.Inv X pins σ H ⟨h', g, d, tk, os⟩ := I.kept k
  have inst : PySem.W.InstAt h' a { cls := .ref C, dict := none, data := .fields #[.ref t1, .none, .none, .none, .bool false, .none] } C none := ⟨k _ _ ho, rfl, rfl, trivial⟩
  refine PySem.W.kxs_getMethod PySem.W.kxs_ValueError es' (PySem.W.looks_opaque I1.kIn opq) (l₀ := .ref C :: bm) ?_ rfl I1.kIn ?_ (inst.type.andThen (PySem.W.looks_subIn I1.kIn hB)) (PySem.W.ks_ne I1.kIn inst hcd) rfl ?_
  · exact fun A Q E s k q => wpAny_bind ((PySem.W.looks_clsIn I1.kIn hcd) A _ E s k (wpAny_pure q))
  · unfold PySem.W.ks_superIn at hsup
    rw [hcd] at hsup
    exact hsup
  have k2 : ∀ b o, h'.get? b = some o → (h'.push (kxs_mw "ValueError.__init__" a)).get? b = some o := fun b o e => Heap.get?_push_of_some _ e
  have I2 : L2.Inv X pins σ H ⟨h'.push (kxs_mw "ValueError.__init__" a), g, d, tk + 1, os⟩ := I1.kept k2
  have hmw : (h'.push (kxs_mw "ValueError.__init__" a)).get? h'.objs.size = some (kxs_mw "ValueError.__init__" a) := Heap.get?_push_at rfl rfl
  have I3 := Inv.pinned I2 hmw (I1.hok.fresh (Nat.le_refl _)) (fun z => by
    have := I1.lt
    rw [← z] at this
    exact Nat.lt_irrefl _ this) (I1.nofs (Nat.le_refl _)) (fun v z => by cases z)
  rw [he]
  refine PySem.W.kxs_callWith (i := "ValueError.__init__") (x := a) (by show (false || (backTo p3 (starEach es X.env)).any (·.1)) = false; rw [hpl]; rfl) ?_
  have hrun := ha.run p3 _ _ σ H _ I3 hR
  rw [he] at hrun
  refine evalArgs_plain (thn hrun ?_)
  rintro us s1 ⟨ws, H1, J, rw', hl1, hex1, hr⟩
  obtain ⟨hmw1, _⟩ := J.pin (h'.objs.size, kxs_mw "ValueError.__init__" a) (List.mem_append_right _ List.mem_cons_self)
  refine ⟨hmw1, ?_⟩
  obtain ⟨t2, ho1⟩ := exo_at J.hok hex1
  have J1 := Inv.unpin J
  obtain ⟨hp1, g1, d1, tk1, os1⟩ := s1
  refine call_mw (J1.kIn _ _ hC) ho1 hmw1 (by rw [List.nil_append, ← rw'.length, sizeLine_eq]; omega) fun h2 t3 k3 hx => ?_
  have J2 := J1.write (t' := tk1) (x := a) (e := a) (o := exo a C none) (by rw [hex1]; exact True.intro) (.inl rfl) k3 ⟨_, hx⟩ (exo_ok hx)
  have eu : upd H1 a (exo a C none) = H1 := by
    funext b
    by_cases hb : b = a
    · rw [hb, upd_same, hex1]
    · rw [upd_ne hb]
  rw [eu] at J2
  exact ⟨rfl, H1, J2, hr⟩
end
/-! the def __init__ -/
def setF (me : Str) (q : Str × Pos × Pos × Pos × Pos) : Stmt := .Assign [.Attribute (.Name me q.2.1) q.1 q.2.2.1] (.Name q.1 q.2.2.2.1) q.2.2.2.2
section
variable {X : Cx}
theorem pa_vars : ∀ (l : List (Str × Pos)) (j : Nat), (∀ k x, l[k]? = some x → X.N[j + k]? = some x.1 ∧ X.env.kindOf x.1 = some .local ∧ (x.1 == ("__debug__" : Str)) = false ∧ (x.1 == ("__classdict__" : Str)) = false) →
    PA X (l.map fun x => .Name x.1 x.2) (fun σ H Q => ∃ ws : List V, ws.length = l.length ∧ (∀ k v, ws[k]? = some v → σ[j + k]? = some (some v)) ∧ Q ws H)
  | [], j, _ => PA.imp pa_nil fun σ H Q ⟨ws, h1, _, q⟩ => by
    cases ws with
    | nil => exact q
    | cons _ _ => cases h1
  | x :: l, j, h => by
    obtain ⟨h1, h2, h3, h4⟩ := h 0 x rfl
    refine PA.imp (pa_cons (pe_var (i := j) (by simpa using h1) (.inl h2) h3 h4) (pa_vars l (j + 1) fun k y e => by
      obtain ⟨a, b⟩ := h (k + 1) y (by simpa using e)
      exact ⟨by rw [show j + 1 + k = j + (k + 1) by omega]; exact a, b⟩) (by rfl)) fun σ H Q ⟨ws, e1, e2, q⟩ => ?_
    cases ws with
    | nil => cases e1
    | cons v ws =>
      exact ⟨v, by simpa using e2 0 v rfl, ws, by simpa using e1, fun k u e => by
        rw [show j + 1 + k = j + (k + 1) by omega]
        exact e2 (k + 1) u (by simpa using e), q⟩
/-- self.f = f, one after the other, the dict made -/
theorem pss_sets {C a : Addr} (T : OexC X.K C) {me : Str} (hN0 : X.N[0]? = some me) (hme : X.env.kindOf me = some .local) (hmd : (me == ("__debug__" : Str)) = false) (hmc : (me == ("__classdict__" : Str)) = false) : ∀ (l : List (Str × Pos × Pos × Pos × Pos)) (j : Nat),
    (∀ k x, l[k]? = some x → X.N[j + k]? = some x.1 ∧ X.env.kindOf x.1 = some .local ∧ (x.1 == ("__debug__" : Str)) = false ∧ (x.1 == ("__classdict__" : Str)) = false ∧ PySem.W.findIn X.K (.ref C) x.1 = some none) →
    ∃ t, PSs X (l.map (setF me)) t ∧ ∀ (D : Ends) (σ : L2.St) (H : Hp) (dx : Addr) (fs : List (Str × V)) (ws : List V), ws.length = l.length → (∀ k v, ws[k]? = some v → σ[j + k]? = some (some v)) → σ[0]? = some (some (.ref a)) → H a = some (exo a C (some dx)) → H dx = some (exd dx fs) → dx ≠ a → fs.length + l.length ≤ 900 →
      (∀ H', H' a = some (exo a C (some dx)) → H' dx = some (exd dx (((l.map (·.1)).zip ws).reverse ++ fs)) → (∀ b, b ≠ dx → H' b = H b) → D.nx σ H') → t D σ H
  | [], j, _ => ⟨_, pss_nil, fun D σ H dx fs ws h1 _ _ h3 h4 _ _ q => q H h3 (by simpa using h4) fun _ _ => rfl⟩
  | x :: l, j, h => by
    obtain ⟨h1, h2, h3, h4, h5⟩ := h 0 x rfl
    obtain ⟨t, ht, hq⟩ := pss_sets T hN0 hme hmd hmc l (j + 1) fun k y e => by
      obtain ⟨a, b⟩ := h (k + 1) y (by simpa using e)
      exact ⟨by rw [show j + 1 + k = j + (k + 1) by omega]; exact a, b⟩
    refine ⟨_, pss_cons (ps_ost (pe_var (i := 0) hN0 (.inl hme) hmd hmc) (pe_var (i := j) (by simpa using h1) (.inl h2) h3 h4)) ht, fun D σ H dx fs ws e1 e2 e0 e3 e4 ne e5 q => ?_⟩
    cases ws with
    | nil => cases e1
    | cons v ws =>
      refine ⟨v, by simpa using e2 0 v rfl, .ref a, e0, a, C, rfl, T, h5, .inr ⟨dx, fs, e3, e4, by simp at e5; omega, ?_⟩⟩
      refine hq D σ _ dx ((x.1, v) :: fs) ws (by simpa using e1) (fun k u e => by
        rw [show j + 1 + k = j + (k + 1) by omega]
        exact e2 (k + 1) u (by simpa using e)) e0 (by rw [upd_ne (Ne.symm ne)]; exact e3) upd_same ne (by simp at e5 ⊢; omega) fun H' a1 a2 a3 => q H' a1 (by simpa using a2) fun b hb => (a3 b hb).trans (upd_ne hb)
/-- .. the dict not yet made -/
theorem pss_sets0 {C a : Addr} (T : OexC X.K C) {me : Str} (hN0 : X.N[0]? = some me) (hme : X.env.kindOf me = some .local) (hmd : (me == ("__debug__" : Str)) = false) (hmc : (me == ("__classdict__" : Str)) = false) (x : Str × Pos × Pos × Pos × Pos) (l : List (Str × Pos × Pos × Pos × Pos)) (j : Nat)
    (h : ∀ k y, (x :: l)[k]? = some y → X.N[j + k]? = some y.1 ∧ X.env.kindOf y.1 = some .local ∧ (y.1 == ("__debug__" : Str)) = false ∧ (y.1 == ("__classdict__" : Str)) = false ∧ PySem.W.findIn X.K (.ref C) y.1 = some none) :
    ∃ t, PSs X ((x :: l).map (setF me)) t ∧ ∀ (D : Ends) (σ : L2.St) (H : Hp) (ws : List V), ws.length = l.length + 1 → (∀ k v, ws[k]? = some v → σ[j + k]? = some (some v)) → σ[0]? = some (some (.ref a)) → H a = some (exo a C none) → l.length ≤ 800 →
      (∀ dx H', H dx = none → dx ≠ a → H' a = some (exo a C (some dx)) → H' dx = some (exd dx ((((x :: l).map (·.1)).zip ws).reverse)) → (∀ b, b ≠ a → b ≠ dx → H' b = H b) → D.nx σ H') → t D σ H := by
  obtain ⟨h1, h2, h3, h4, h5⟩ := h 0 x rfl
  obtain ⟨t, ht, hq⟩ := pss_sets (a := a) T hN0 hme hmd hmc l (j + 1) fun k y e => by
    obtain ⟨a, b⟩ := h (k + 1) y (by simpa using e)
    exact ⟨by rw [show j + 1 + k = j + (k + 1) by omega]; exact a, b⟩
  refine ⟨_, pss_cons (ps_ost (pe_var (i := 0) hN0 (.inl hme) hmd hmc) (pe_var (i := j) (by simpa using h1) (.inl h2) h3 h4)) ht, fun D σ H ws e1 e2 e0 e3 e5 q => ?_⟩
  cases ws with
  | nil => cases e1
  | cons v ws =>
    refine ⟨v, by simpa using e2 0 v rfl, .ref a, e0, a, C, rfl, T, h5, .inl ⟨e3, fun dx n ne => ?_⟩⟩
    refine hq D σ _ dx [(x.1, v)] ws (by simpa using e1) (fun k u e => by
        rw [show j + 1 + k = j + (k + 1) by omega]
        exact e2 (k + 1) u (by simpa using e)) e0 upd_same (by rw [upd_ne ne]; exact upd_same) ne (by simp; omega) fun H' a1 a2 a3 => q dx H' n ne a1 (by simpa using a2) fun b hb hd => by rw [a3 b hd, upd_ne hb, upd_ne hd]
end
/-- the promise of such an __init__ -/
def spInit (C : Addr) (flds : List Str) : Sp := fun vs H Q _ => ∃ (a : Addr) (ws : List V), vs = .ref a :: ws ∧ ws.length = flds.length ∧ H a = some (exo a C none) ∧
  ∀ dx H', H dx = none → dx ≠ a → H' a = some (exo a C (some dx)) → H' dx = some (exd dx (flds.zip ws).reverse) → (∀ b, b ≠ a → b ≠ dx → H' b = H b) → Q .non H'
open NdefX (NF ncx startF NScope CellsAt inv_startN envF)
theorem exc_fn {P : Program} {w : World} {K : PySem.W.Frag} {mg : Str → Option Value} {base : Heap} {C fI cda cc : Addr} {name qual me : Str} {params : Arguments} {scope : Scope} {dV kV doc pm ct oc ccl cl : Value} {an od cdd cld : Option Addr} {osl ccs csl : Array (Option Value)} {vs : Array Value} {file : Str} {tf : Tok} {ar : Arg} {N : List Str}
    {p0 p1 p2 p3 p4 : Pos} {x0 : Str × Pos} {argl : List (Str × Pos)} {y0 : Str × Pos × Pos × Pos × Pos} {sets : List (Str × Pos × Pos × Pos × Pos)} {body : List Stmt} {k : Nat}
    (hbody : body = superS p0 p1 p2 p3 p4 ((x0 :: argl).map fun x => .Name x.1 x.2) :: (y0 :: sets).map (setF me)) (hnames : (x0 :: argl).map (·.1) = (y0 :: sets).map (·.1))
    (T : OexC K C) (lkf : K.lookup fI = some ⟨oc, od, .func (ksFn name qual params body scope dV kV doc pm an (.ref cda) ct cc), osl⟩) (hcd : PySem.W.codeIn K (.ref cda) qual = true)
    (hp : (params.posonlyargs ++ params.args).head? = some ar) (har : ar.arg = me) (lkc : K.lookup cda = some ⟨ccl, cdd, .fields vs, ccs⟩) (hvs : vs[2]? = some (.str file tf)) (hfile : ((P.main.file : Str) == file) = true)
    (lkcell : K.lookup cc = some ⟨cl, cld, .cell (some (.ref C)), csl⟩) (hsub : PySem.W.mroIn K C (.ref C) = some true) (hm : mg "super" = none) (htop : (P.main.scope.names.lookup ("super" : Str)).isSome = false) (opq : PySem.W.nsIn K PySem.cStatics "thirdparty.any" = some none)
    (hsup : PySem.W.ks_superIn K C C "__init__" = some (some (.builtin "ValueError.__init__"))) (hB : PySem.W.subIn K (.ref C) (.type "ValueError") = some true)
    (S : NScope N (me :: (y0 :: sets).map (·.1)) [("__class__" : Str)] scope) (hks : scope.names.lookup ("super" : Str) = some .globalImplicit) (hnm : ∀ x ∈ me :: (y0 :: sets).map (·.1), (x == ("__debug__" : Str)) = false ∧ (x == ("__classdict__" : Str)) = false)
    (hfi : ∀ f ∈ (y0 :: sets).map (·.1), PySem.W.findIn K (.ref C) f = some none) (hlen : sets.length ≤ 800)
    (he2 : ∀ env : PySem.Env, ∃ pl : Sem Bool, eval (.Call (.Attribute (.Call (.Name "super" p0) [] [] p1) "__init__" p2) ((x0 :: argl).map fun x => .Name x.1 x.2) [] p3) env = (do
      let ov ← attributeBase (.Call (.Name "super" p0) [] [] p1) "__init__" env (eval (.Call (.Name "super" p0) [] [] p1) env)
      standAt p2.atName
      let (f, first) ← holding [ov] (getMethod ov "__init__" pl)
      callWith p3 f first (backTo p3 (starEach ((x0 :: argl).map fun x => .Name x.1 x.2) env)) [])) :
    FnOk P w K mg base (L2.CX P w) (k + 1) fI (ksFn name qual params body scope dV kV doc pm an (.ref cda) ct cc) (me :: (y0 :: sets).map (·.1)) (spInit C ((y0 :: sets).map (·.1))) := by
  refine ⟨fun vs H Q E h => ?_, fun A outer s H args us vs0 Q E hr e0 hb r hsp => ?_⟩
  · obtain ⟨a, ws, rfl, hl, _⟩ := h
    simp [hl]
  · obtain ⟨a, ws, rfl, hl, hex, hq⟩ := hsp
    have KX : K.In s.heap := e0.mod.kin.keeps fun b o e => (e0.bs b o e).1
    have lim : s.heap.NoLimit := e0.mod.nolimit.keeps fun b o e => (e0.bs b o e).1
    have kb : ∀ {b o}, K.lookup b = some o → H b = none := fun {b o} e => (e0.bs b o (e0.mod.kin b o e)).2
    obtain ⟨F, hF⟩ : ∃ F : NF, F = ⟨name, qual, params, body, scope, [(("__class__" : Str), cc)], cda⟩ := ⟨_, rfl⟩
    have Cl : CellsAt F.cl [("__class__" : Str)] [none] s.heap H := by
      subst hF
      refine ⟨rfl, fun y c e => ?_, fun x y c e1 e2 => ?_, fun i y e => ?_⟩
      · have : c = cc := by
          simp only [List.lookup_cons] at e
          split at e
          · cases e; rfl
          · cases e
        subst this
        exact ⟨kb lkcell, _, _, KX _ _ lkcell, rfl⟩
      · simp only [List.lookup_cons] at e1 e2
        split at e1
        · rename_i q1
          split at e2
          · rename_i q2
            rw [eq_of_beq q1, eq_of_beq q2]
          · cases e2
        · cases e1
      · cases i with
        | zero => simp at e; subst e; exact ⟨cc, by simp, fun v z => by simp at z⟩
        | succ i => simp at e
    have S' : NScope N (me :: (y0 :: sets).map (·.1)) [("__class__" : Str)] F.scope := by subst hF; exact S
    refine ks_codeAny_call_defAt hr.depth (KX _ _ lkf) rfl lim (PySem.W.codeRec_of KX hcd) rfl hb S.nocell (fun ⟨n, _⟩ hy => S.par n (List.of_mem_zip hy).1) (fun h₁ hns hk => ?_) S.co S.gen S.kind
    have hlv : (V.ref a :: ws).length = (me :: (y0 :: sets).map (·.1)).length := by simp [hl]
    have I := inv_startN (CX := L2.CX P w) (P := P) (w := w) (K := K) (mg := mg) (base := base) (f := fI) (E := E) (tk := s.toks + ((me :: (y0 :: sets).map (·.1)).zip us).length) S' hr.hd e0 hlv r Cl hns hk
    subst hF
    generalize hXe : ncx (L2.CX P w) P w K mg base N ⟨name, qual, params, body, scope, [(("__class__" : Str), cc)], cda⟩ fI A outer s H E = X at I
    have hpre : N.take (1 + ((y0 :: sets).length + 1)) = me :: ((y0 :: sets).map (·.1) ++ [("__class__" : Str)]) := by
      have := S.pre
      rw [show (me :: (y0 :: sets).map (·.1)).length + [("__class__" : Str)].length = 1 + ((y0 :: sets).length + 1) by simp; omega] at this
      exact this
    have hNk : ∀ k f, ((y0 :: sets).map (·.1))[k]? = some f → N[1 + k]? = some f := by
      intro k f e
      have hk' : k < (y0 :: sets).length := by
        have := (List.getElem?_eq_some_iff.mp e).1
        simpa using this
      have hk2 : k < ((y0 :: sets).map (·.1)).length := by rw [List.length_map]; exact hk'
      rw [← List.getElem?_take_of_lt (show 1 + k < 1 + ((y0 :: sets).length + 1) by omega), hpre, show 1 + k = k + 1 by omega, List.getElem?_cons_succ, List.getElem?_append_left hk2]
      exact e
    have hN0 : N[0]? = some me := by
      rw [← List.getElem?_take_of_lt (show 0 < 1 + ((y0 :: sets).length + 1) by omega), hpre]
      rfl
    have hst0 : (startF N (V.ref a :: ws) [none])[0]? = some (some (.ref a)) := by unfold startF; rfl
    have hstk : ∀ k v, ws[k]? = some v → (startF N (V.ref a :: ws) [none])[1 + k]? = some (some v) := by
      intro k v e
      unfold startF
      have hk' := (List.getElem?_eq_some_iff.mp e).1
      rw [show 1 + k = k + 1 by omega, List.map_cons, List.cons_append, List.getElem?_cons_succ, List.getElem?_append_left (by simpa using hk'), List.getElem?_map, e]
      rfl
    have hloc : ∀ x ∈ me :: (y0 :: sets).map (·.1), X.env.kindOf x = some .local := by
      intro x hx
      subst hXe
      exact S.par x hx
    have hNX : X.N = N := by subst hXe; rfl
    have hKX : X.K = K := by subst hXe; rfl
    have hargs : ∀ k x, (x0 :: argl)[k]? = some x → X.N[1 + k]? = some x.1 ∧ X.env.kindOf x.1 = some .local ∧ (x.1 == ("__debug__" : Str)) = false ∧ (x.1 == ("__classdict__" : Str)) = false := by
      intro k x e
      have e2 : ((y0 :: sets).map (·.1))[k]? = some x.1 := by rw [← hnames, List.getElem?_map, e]; rfl
      have hm2 : x.1 ∈ me :: (y0 :: sets).map (·.1) := List.mem_cons_of_mem _ (List.mem_of_getElem? e2)
      exact ⟨by rw [hNX]; exact hNk k _ e2, hloc _ hm2, hnm _ hm2⟩
    have hmm : me ∈ me :: (y0 :: sets).map (·.1) := List.mem_cons_self
    obtain ⟨t, ht, hq2⟩ := pss_sets0 (X := X) (C := C) (a := a) (by rw [hKX]; exact T) (by rw [hNX]; exact hN0) (hloc _ hmm) (hnm _ hmm).1 (hnm _ hmm).2 y0 sets 1 (fun k y e => by
      have e2 : ((y0 :: sets).map (·.1))[k]? = some y.1 := by rw [List.getElem?_map, e]; rfl
      have hm2 := List.mem_of_getElem? e2
      have hm3 : y.1 ∈ me :: (y0 :: sets).map (·.1) := List.mem_cons_of_mem _ hm2
      exact ⟨by rw [hNX]; exact hNk k _ e2, hloc _ hm3, (hnm _ hm3).1, (hnm _ hm3).2, by rw [hKX]; exact hfi _ hm2⟩)
    have pa := pa_vars (X := X) (x0 :: argl) 1 hargs
    have f1 : X.env.kindOf ("super" : Str) = some .globalImplicit := by subst hXe; exact hks
    have f2 : X.env.kindOf ("__class__" : Str) = some .free := by subst hXe; exact S.frk _ (by simp)
    have f3 : X.env.func = some fI := by subst hXe; rfl
    have f4 : X.env.code = .ref cda := by subst hXe; rfl
    have f5 : X.env.cells.lookup ("__class__" : Str) = some cc := by
      subst hXe
      show ([(("__class__" : Str), cc)] : List (Str × Addr)).lookup ("__class__" : Str) = some cc
      simp
    have f6 : X.N[0]? = some me := by rw [hNX]; exact hN0
    have f7 : X.prog = P := by subst hXe; rfl
    have f8 : X.mg = mg := by subst hXe; rfl
    have hpl : ∀ l : List (Str × Pos), (backTo p3 (starEach (l.map fun x => Expr.Name x.1 x.2) X.env)).any (·.1) = false := by
      intro l
      induction l with
      | nil => rfl
      | cons x l ih =>
        show ((false : Bool) || _) = false
        exact ih
    obtain ⟨pl, hpl2⟩ := he2 X.env
    have step := super_step (pl := pl) (body := body) (R := fun H1 => H1 = H) (X := X) (C := C) (a := a) (fI := fI) (cda := cda) (cc := cc) (me := me) (fd := ksFn name qual params body scope dV kV doc pm an (.ref cda) ct cc) (p0 := p0) (p1 := p1) (p2 := p2) (p3 := p3) (p4 := p4) (e := .Name x0.1 x0.2) (es := argl.map fun (x : Str × Pos) => Expr.Name x.1 x.2)
      (by rw [hKX]; exact T) f1 f2 f3 f4 f5 f6 (hloc _ hmm) (by rw [hKX]; exact lkf) hp har (by rw [hKX]; exact lkc) hvs (by rw [f7]; exact hfile) (by rw [hKX]; exact lkcell) (by rw [hKX]; exact hsub) (by rw [f8]; exact hm) (by rw [f7]; exact htop) (by rw [hKX]; exact opq) (by rw [hKX]; exact hsup) (by rw [hKX]; exact hB) pa (by rfl) (hpl argl) hpl2 I hst0 hex
      ⟨ws, by
        rw [hl]
        have := congrArg List.length hnames
        simpa using this.symm, hstk, by rw [hl]; simp; omega, hex, rfl⟩
    subst hXe
    subst hbody
    refine ks_wpAt_execs_cons (ks_wpAt_mono step (fun f s' hf => ?_) fun e s' z => z)
    obtain ⟨rfl, H1, J, rfl⟩ := hf
    refine PySem.wpAt_of_wpAny ?_
    refine wpAny_mono (ht.run [] s' _ H1 { nx := fun _ H' => Q .non H', rt := Q } J (hq2 _ _ _ ws (by simpa using hl) hstk hst0 hex hlen fun dx H' a1 a2 a3 a4 a5 => hq dx H' a1 a2 a3 a4 a5)) (fun fl s2 hs => ?_) fun e s2 z => z
    cases fl with
    | next =>
      obtain ⟨σ', H', J', q⟩ := hs
      exact ⟨.non, H', J'.os, J'.bare, J'.base, J'.hok, rfl, q⟩
    | ret u =>
      obtain ⟨v, σ', H', J', rv, q⟩ := hs
      exact ⟨v, H', J'.os, J'.bare, J'.base, J'.hok, rv, q⟩
    | brk =>
      obtain ⟨_, _, _, q⟩ := hs
      exact False.elim q
    | cont =>
      obtain ⟨_, _, _, q⟩ := hs
      exact False.elim q
end DL
end
section
/-! ELY: raise, try, the exception in hand. -/
namespace DL
open PySem PySem.Spec PyProof.Rows L2
/-- what the written part says of an exception class of the module -/
structure ExcA (K : PySem.W.Frag) (C : Addr) (flds : List Str) : Prop where
  oex : OexC K C
  cl : (PySem.W.clsIn K C).isSome = true
  ga : PySem.W.findIn K (.ref C) "__getattribute__" = some (some (.builtin "BaseException.__getattribute__"))
  gt : PySem.W.findIn K (.ref C) "__getattr__" = some none
  hd : PySem.W.hasDictIn K C = true
  ca : PySem.W.findIn K (.ref C) "__class__" = some (some (.builtin "object.__class__"))
  sg : PySem.W.specialIn K (.builtin "object.__class__") "__get__" = some (some (.builtin "getset_descriptor.__get__"))
  tk : PySem.W.takesIn K (.builtin "object.__class__") = some true
  mr : PySem.W.mroIn K C (.type "object") = some true
  fl : ∀ f ∈ flds, PySem.W.findIn K (.ref C) f = some none
  ln : flds.length ≤ 800
/-- an exception class that may be raised: its fields as __init__ names them -/
def ExOk (X : Cx) (x : Str) (flds : List Str) : Prop := ∃ (C fI : Addr) (fd : FuncData) (me : Str), X.mg x = some (.ref C) ∧ GlbAt X.K x C ∧ ExcA X.K C flds ∧ PySem.W.findIn X.K (.ref C) "__init__" = some (some (.ref fI)) ∧ PySem.W.typeIn X.K (.ref fI) = some (.type "function") ∧
  FnOk X.prog X.w X.K X.mg X.base (L2.CX X.prog X.w) 1 fI fd (me :: flds) (spInit C flds) ∧ Binds X.K fd (me :: flds) []
theorem GlbAt.uniq {K : PySem.W.Frag} {x : Str} {a b : Addr} (h : GlbAt K x a) (h' : GlbAt K x b) : a = b := by
  unfold GlbAt at h h'
  rw [h] at h'
  exact Value.ref.inj (Option.some.inj (Option.some.inj h'))
section
variable {X : Cx} {W : WG} {e : Expr} {es : List Expr} {fs : FF (List D)} {x : Str} {flds : List Str} {p pos pos2 : Pos}
def fraise (x : Str) (flds : List Str) (fs : FF (List D)) : FS := fun env st => (fs env st).toS env fun ds st1 => if ds.length = flds.length then .exc ⟨x, (flds.zip ds).reverse⟩ env st1 else .stuck
theorem ds_raise (hc : X.calm = true) (tk : Takes X W.w) (Ex : ExOk X x flds) (hr : Room 2 X.A) (hg : Gl X x) (ha : DA X W (e :: es) fs) (hst : starless (e :: es) = true) (hdb : (x == ("__debug__" : Str)) = false) :
    DS X W (.Raise (some (.Call (.Name x p) (e :: es) [] pos)) none pos2) (fraise x flds fs) := by
  obtain ⟨C, fI, fd, me, hm, hgl, A, iC, tI, F1, hb⟩ := Ex
  unfold starless at hst
  rw [List.all_cons, Bool.and_eq_true, Bool.not_eq_true'] at hst
  have hx : Passes (L2.CX X.prog X.w) X (fun _ _ _ => False) := fun pins σ H s e s' I c => by
    obtain ⟨_, _, _, _, _, _, _, _, _, _, _, _, z⟩ := c
    exact z.elim
  refine PS.imp (ps_raise hc tk (pmk_oex (CX := L2.CX X.prog X.w) (k := 1) A.oex iC tI F1 hr hb .nil hx hg hm ha hdb (star_plain hst.1) (plain_star hst.2))) fun Dn σ H h => ?_
  obtain ⟨ρ, env, st, gd, o⟩ := h
  refine ⟨ρ, env, st, gd, (OutS.bind (R := RelDs X.K) gd o).mono ?_⟩
  rintro vs H1 ⟨ρ1, ds, st1, -, e1, s1, r1, o1⟩
  split at o1
  · rename_i hl
    have hlv : vs.length = flds.length := by rw [← r1.length]; exact hl
    refine ⟨by rw [hlv]; have := A.ln; omega, fun a na => ⟨a, vs, by simp, hlv, upd_same, fun dx H2 nd ne a1 a2 a3 => ?_⟩⟩
    have hd : H1 dx = none := by rw [upd_ne ne] at nd; exact nd
    refine ⟨rfl, dx, _, a1, a2, hd, ?_⟩
    have eH : upd (del H2 a) dx (.xd (flds.zip vs).reverse) = upd H1 dx (.xd (flds.zip vs).reverse) := by
      funext b
      by_cases hb : b = dx
      · subst hb; rw [upd_same, upd_same]
      · rw [upd_ne hb, upd_ne hb]
        by_cases hba : b = a
        · subst hba; rw [del_same, na]
        · rw [del_ne hba, a3 b hba hb, upd_ne hba]
    rw [eH]
    refine o1 ρ1 _ σ _ _ (Ext.new s1 hd) (gd.ext (e1.trans (Ext.new s1 hd)) (s1.new hd)) ⟨C, dx, rfl, hgl, rfl, s1.notin hd, _, upd_same, ?_, ?_⟩
    · rw [List.map_reverse, List.map_reverse, List.map_fst_zip (by omega), List.map_fst_zip (by omega)]
    · rw [List.map_reverse, List.map_reverse, List.map_snd_zip (by omega), List.map_snd_zip (by omega)]
      exact (r1.ext (Ext.new s1 hd)).reverse
  · exact o1.elim
/-! the exception in hand -/
structure SuiteOk (X : Cx) (W : WG) (n : Str) (x : XD) : Prop where
  ex : ∃ (i : Nat) (a dd C : Addr) (oe : Obj) (pn : List (Addr × Obj)) (X0 : Cx), X = X0.suite a ((a, oe) :: pn) ∧ W.g = some ⟨i, a, dd, x.fs⟩ ∧ X.N[i]? = some n ∧ Zc (.ref C) (some dd) oe ∧ (∃ vs, oe.data = .fields vs) ∧ GlbAt X.K x.cls C ∧ Vis X.env.scope n
theorem look_rel {K : PySem.W.Frag} {ρ : Pl} {H : Hp} : ∀ {fs : List (Str × D)} {vs : List (Str × V)} {f : Str} {d : D}, vs.map (·.1) = fs.map (·.1) → RelDs K ρ H (fs.map (·.2)) (vs.map (·.2)) → fs.lookup f = some d → ∃ v, vs.lookup f = some v ∧ RelD K ρ H d v
  | [], _, _, _, _, _, h => by cases h
  | (g, e) :: fs, [], _, _, h, _, _ => by cases h
  | (g, e) :: fs, (g', u) :: vs, f, d, h, r, hl => by
    simp only [List.map_cons, List.cons.injEq] at h
    obtain ⟨rfl, h⟩ := h
    cases r with
    | cons r1 r2 =>
      rw [List.lookup_cons] at hl ⊢
      split at hl
      · cases hl; exact ⟨u, rfl, r1⟩
      · exact look_rel h r2 hl
variable {n f : Str} {xd : XD} {d : D}
theorem de_exattr (S : SuiteOk X W n xd) (A : ∀ C, GlbAt X.K xd.cls C → ExcA X.K C flds) (hf : f ∈ flds) (hl : xd.fs.lookup f = some d) (hd : (n == ("__debug__" : Str)) = false) (hcd : (n == ("__classdict__" : Str)) = false) : DE X W (.Attribute (.Name n p) f pos) (fcon d) := by
  obtain ⟨i, a, dd, C, oe, pn, X0, rfl, hg, hN, hz, hfd, hgl, hv⟩ := S.ex
  have hA := A C hgl
  refine PE.imp (pe_xf (X := X0) ⟨hA.ga, hA.gt, hA.oex.exC, hA.hd⟩ (hA.fl f hf) hz hfd (pe_var (X := X0.suite a ((a, oe) :: pn)) (i := i) hN hv hd hcd)) fun σ H Q h => ?_
  obtain ⟨ρ, env, st, gd, o⟩ := h
  obtain ⟨h1, off, vs, h2, h3, h4⟩ := gd.gh.x _ hg
  obtain ⟨v, h5, h6⟩ := look_rel h3 h4 hl
  exact ⟨_, h1, rfl, rfl, dd, vs, v, rfl, h2, h5, o.now gd.st h6⟩
/-- isinstance(e, c) of it -/
theorem call_isX {X0 : Cx} {a D C dd : Addr} {oe : Obj} {pn : List (Addr × Obj)} {b : Bool} (A : ExcA X0.K C flds) (hz : Zc (.ref C) (some dd) oe) (hf : ∃ vs, oe.data = .fields vs) (hk : PySem.W.kitOne X0.K (.ref C) (.ref D) = some b) :
    CallR (X0.suite a ((a, oe) :: pn)) (.builtin "isinstance") (fun xs H Q => xs = [.ref a, .ref D] ∧ (∃ fs, H dd = some (.xd fs)) ∧ Q (.bl b) H) := by
  intro pins s σ H xs us Q I r h
  obtain ⟨rfl, ⟨fs, hdd⟩, q⟩ := h
  cases r with
  | cons rx rr =>
    cases rr with
    | cons rt rr =>
      cases rr
      cases rx
      cases rt
      obtain ⟨hget, _⟩ := I.pin (a, oe) (List.mem_append.mpr (.inl List.mem_cons_self))
      obtain ⟨vs, hv⟩ := hf
      have hx : ObjOk X0.prog X0.w H s.heap dd (.xd fs) := I.hok dd _ hdd
      obtain ⟨mA, ⟨od, es, ep, ho, _⟩, _⟩ := hx
      have J : PySem.W.InstAt s.heap a oe C (some od) := by
        obtain ⟨oc, od', oda, osl⟩ := oe
        obtain ⟨h1, h2⟩ := hz
        dsimp only at h1 h2 hv
        subst h1 h2 hv
        exact ⟨hget, rfl, rfl, ho⟩
      exact PySem.W.kia_one (PySem.W.kitx_exc A.cl A.ga A.gt A.oex.exC A.ca A.sg A.tk A.mr) I.kIn J hk (fun z => nomatch z) fun tk => ⟨.bl b, H, I.kept (t' := tk) fun _ _ z => z, rfl, q⟩
theorem de_exis {c : Str} {D : Addr} {b : Bool} {p1 p2 : Pos} (S : SuiteOk X W n xd) (A : ∀ C, GlbAt X.K xd.cls C → ExcA X.K C flds) (hk : ∀ C, GlbAt X.K xd.cls C → PySem.W.kitOne X.K (.ref C) (.ref D) = some b) (hg : Gl X "isinstance") (hm : X.mg "isinstance" = none)
    (hgc : Gl X c) (hmc : X.mg c = some (.ref D)) (hdc : (c == ("__debug__" : Str)) = false) (hd : (n == ("__debug__" : Str)) = false) (hcd : (n == ("__classdict__" : Str)) = false) : DE X W (.Call (.Name "isinstance" p) [.Name n p1, .Name c p2] [] pos) (fcon (.bl b)) := by
  obtain ⟨i, a, dd, C, oe, pn, X0, rfl, hgg, hN, hz, hfd, hgl, hv⟩ := S.ex
  refine PE.imp (pe_callB (call_isX (pn := pn) (A C hgl) hz hfd (hk C hgl)) hg hm PyProof.Rows.Boot.«isinstance» (pa_cons (pe_var (X := X0.suite a ((a, oe) :: pn)) (i := i) hN hv hd hcd) (pa_cons (pe_glob hgc hmc (v := .ref D) rfl hdc) pa_nil (by rfl)) (by rfl)) (by decide) (by decide) (by rfl) (by rfl)) fun σ H Q h => ?_
  obtain ⟨ρ, env, st, gd, o⟩ := h
  obtain ⟨h1, off, vs, h2, h3, h4⟩ := gd.gh.x _ hgg
  exact ⟨_, h1, rfl, ⟨vs, h2⟩, o.now gd.st (.bl b)⟩
end
/-! try -/
theorem Good.conv {K : PySem.W.Frag} {W W' : WG} {ρ : Pl} {H : Hp} {env : Env'} {σ : L2.St} {st : Store} (g : Good K W ρ H env σ st) (h1 : W'.g = none) (h2 : W'.T = W.T) (h3 : W'.l = W.l) : Good K W' ρ H env σ st :=
  ⟨g.env, g.st, g.tt.trans h2.symm, ⟨fun x e => (by rw [h1] at e; cases e), fun l e => g.gh.l l (by rw [← h3]; exact e)⟩⟩
theorem RelEnv.setN {K : PySem.W.Frag} {ρ : Pl} {H : Hp} {env : Env'} {σ : L2.St} (r : RelEnv K ρ H env σ) (i : Nat) (v : Option V) : RelEnv K ρ H (env.set i none) (σ.set i v) :=
  ⟨by simp [r.len], fun j d h => by
    by_cases hj : j = i
    · subst hj
      by_cases hl : j < env.length
      · rw [List.getElem?_set_self hl] at h; cases h
      · rw [List.getElem?_eq_none (by simpa using hl)] at h; cases h
    · rw [List.getElem?_set_ne (Ne.symm hj)] at h
      obtain ⟨u, h1, h2⟩ := r.at_ j d h
      exact ⟨u, by rw [List.getElem?_set_ne (Ne.symm hj)]; exact h1, h2⟩⟩
def gone (i : Nat) : RS → RS
  | .nx e s => .nx (e.set i none) s
  | .bk e s => .bk (e.set i none) s
  | .ct e s => .ct (e.set i none) s
  | .exc _ _ _ => .stuck
  | r => r
def ftryAs (sub : Str → Option Bool) (i : Nat) (fb : FS) (fs : XD → FS) : FS := fun env st => match fb env st with
  | .exc x env1 st1 => match sub x.cls with
    | some true => if i < env1.length then gone i (fs x (env1.set i none) st1) else .stuck
    | some false => .exc x env1 st1
    | none => .stuck
  | r => r
def ftry1 (sub : Str → Option Bool) (fb fs : FS) : FS := fun env st => match fb env st with
  | .exc x env1 st1 => match sub x.cls with
    | some true => (match fs env1 st1 with
      | .exc _ _ _ => .stuck
      | r => r)
    | some false => .exc x env1 st1
    | none => .stuck
  | r => r
section
variable {X : Cx} {W : WG} {c n : Str} {D : Addr} {i : Nat} {body suite : List Stmt} {b₀ : Stmt} {np pos pos' : Pos} {fb : FS} {sub : Str → Option Bool}
theorem ds_tryAs {fs : XD → FS} (hs : X.stack = X.env :: X.outer) (hf : X.env.frame = some X.env.locals) (hN : X.N.Nodup) (hi : X.N[i]? = some n) (hln : X.env.kindOf n = some .local) (hc : Names X c (.ref D)) (tk : Takes X W.w) (hg : W.g = none) (hli : ∀ l, W.l = some l → l.i ≠ i)
    (hb : ∀ (W' : WG) (pn : List (Addr × Obj)) (xe : Value → Shared → Prop), W'.g = none → W'.T = W.T → W'.l = W.l → Takes (X.tr pn xe) W'.w → PassesOwn (model X.prog X.w) X.A X.env xe → DSs (X.tr pn xe) W' body fb)
    (hsu : ∀ (x : XD) (a dd C : Addr) (oe : Obj) (pn : List (Addr × Obj)), Zc (.ref C) (some dd) oe → (∃ vs, oe.data = .fields vs) → GlbAt X.K x.cls C → sub x.cls = some true → DSs (X.suite a ((a, oe) :: pn)) ⟨fun _ _ _ _ => False, some ⟨i, a, dd, x.fs⟩, W.T, W.l⟩ (b₀ :: suite) (fs x))
    (hsub : ∀ x b C, sub x = some b → GlbAt X.K x C → PySem.W.exmOne X.K (.ref C) (.ref D) = some b) :
    DS X W (.Try body [.ExceptHandler (some (.Name c np)) (some n) (b₀ :: suite) pos'] [] [] pos) (ftryAs sub i fb fs) := by
  refine PS.imp (ps_try_as (tb := fun W'' => lS X.K ⟨W'', none, W.T, W.l⟩ fb) (ts := fun a cls d => fun D' σ H => ∃ (x : XD) (C dd : Addr), cls = .ref C ∧ d = some dd ∧ GlbAt X.K x.cls C ∧ sub x.cls = some true ∧ lS X.K ⟨fun _ _ _ _ => False, some ⟨i, a, dd, x.fs⟩, W.T, W.l⟩ (fs x) D' σ H)
    hs hf hN hi hln hc tk (fun W'' pn xe tk' own => hb ⟨W'', none, W.T, W.l⟩ pn xe rfl rfl rfl tk' own) (fun a oe cls d pn hz hfd => ⟨fun pins s σ H D' I q => ?_⟩)) fun Dn σ H h => ?_
  · obtain ⟨x, C, dd, rfl, rfl, hgl, hst, q⟩ := q
    exact (hsu x a dd C oe pn hz hfd hgl hst).run pins s σ H D' I q
  · obtain ⟨ρ, env, st, gd, o⟩ := h
    refine ⟨ρ, env, st, gd.conv rfl rfl rfl, ?_⟩
    unfold ftryAs at o
    cases hfb : fb env st with
    | nx e2 s2 => rw [hfb] at o; exact fun ρ' H' σ' ex g' => o ρ' H' σ' ex (g'.conv hg rfl rfl)
    | bk e2 s2 => rw [hfb] at o; exact fun ρ' H' σ' ex g' => o ρ' H' σ' ex (g'.conv hg rfl rfl)
    | ct e2 s2 => rw [hfb] at o; exact fun ρ' H' σ' ex g' => o ρ' H' σ' ex (g'.conv hg rfl rfl)
    | rt d s2 => rw [hfb] at o; exact o
    | stuck => rw [hfb] at o; exact o
    | exc x env1 st1 =>
      rw [hfb] at o
      simp only at o
      intro ρ' H' σ' cls dx ex g' rx
      obtain ⟨C, d, rfl, hgl, rfl, hxf⟩ := rx
      split at o
      · rename_i hsb
        split at o
        · rename_i hil
          refine ⟨true, hsub _ _ _ hsb hgl, fun _ a na => ⟨x, C, d, rfl, rfl, hgl, hsb, ρ', env1.set i none, st1, ⟨g'.env.setN i _, g'.st, g'.tt, ⟨fun y e => ?_, fun l e => ?_⟩⟩, ?_⟩, fun z => by cases z⟩
          · cases e
            exact ⟨by rw [List.getElem?_set_self (by rw [← g'.env.len]; exact hil)], hxf⟩
          · obtain ⟨h1, h2⟩ := g'.gh.l l e
            exact ⟨by rw [List.getElem?_set_ne (Ne.symm (hli l e))]; exact h1, h2⟩
          · have back : ∀ {e2 : Env'} {s2 : Store} {ρ2 : Pl} {H2 : Hp} {σ2 : L2.St}, Ext ρ' H' ρ2 H2 → Good X.K ⟨fun _ _ _ _ => False, some ⟨i, a, d, x.fs⟩, W.T, W.l⟩ ρ2 H2 e2 σ2 s2 → Good X.K W ρ2 H2 (e2.set i none) (σ2.set i none) s2 := fun e' g2 =>
              ⟨g2.env.setN i none, g2.st, g2.tt, ⟨fun y e => (by rw [hg] at e; cases e), fun l e => by
                obtain ⟨h1, h2⟩ := g2.gh.l l e
                exact ⟨by rw [List.getElem?_set_ne (Ne.symm (hli l e))]; exact h1, h2⟩⟩⟩
            cases hfs : fs x (env1.set i none) st1 with
            | nx e2 s2 => rw [hfs] at o; exact fun ρ2 H2 σ2 e' g2 => o ρ2 H2 _ (ex.trans e') (back e' g2)
            | bk e2 s2 => rw [hfs] at o; exact fun ρ2 H2 σ2 e' g2 => o ρ2 H2 _ (ex.trans e') (back e' g2)
            | ct e2 s2 => rw [hfs] at o; exact fun ρ2 H2 σ2 e' g2 => o ρ2 H2 _ (ex.trans e') (back e' g2)
            | rt d2 s2 => rw [hfs] at o; exact fun ρ2 H2 v e' s' r' => o ρ2 H2 v (ex.trans e') s' r'
            | exc y e2 s2 =>
              rw [hfs] at o
              exact o.elim
            | stuck => rw [hfs] at o; exact o
        · exact o.elim
      · rename_i hsb
        refine ⟨false, hsub _ _ _ hsb hgl, fun z => (by cases z), fun _ => o ρ' H' σ' _ _ ex (g'.conv hg rfl rfl) ⟨C, d, rfl, hgl, rfl, hxf⟩⟩
      · exact o.elim
theorem ds_try1 {fs : FS} (hs : X.stack = X.env :: X.outer) (hf : X.env.frame = some X.env.locals) (hc : Names X c (.ref D)) (tk : Takes X W.w) (hg : W.g = none)
    (hb : ∀ (W' : WG) (pn : List (Addr × Obj)) (xe : Value → Shared → Prop), W'.g = none → W'.T = W.T → W'.l = W.l → Takes (X.tr pn xe) W'.w → PassesOwn (model X.prog X.w) X.A X.env xe → DSs (X.tr pn xe) W' body fb)
    (hsu : ∀ (a : Addr) (oe : Obj) (pn : List (Addr × Obj)), DSs (X.suite a ((a, oe) :: pn)) ⟨fun _ _ _ _ => False, none, W.T, W.l⟩ (b₀ :: suite) fs)
    (hsub : ∀ x b C, sub x = some b → GlbAt X.K x C → PySem.W.exmOne X.K (.ref C) (.ref D) = some b) :
    DS X W (.Try body [.ExceptHandler (some (.Name c np)) none (b₀ :: suite) pos'] [] [] pos) (ftry1 sub fb fs) := by
  refine PS.imp (ps_try_many (tb := fun W'' => lS X.K ⟨W'', none, W.T, W.l⟩ fb) (l := [(.ref D, fun a cls d => lS X.K ⟨fun _ _ _ _ => False, none, W.T, W.l⟩ fs)])
    hs hf tk (fun W'' pn xe tk' own => hb ⟨W'', none, W.T, W.l⟩ pn xe rfl rfl rfl tk' own) (.cons hc (fun a oe cls d pn hz hfd => hsu a oe pn) .nil)) fun Dn σ H h => ?_
  obtain ⟨ρ, env, st, gd, o⟩ := h
  refine ⟨ρ, env, st, gd.conv rfl rfl rfl, ?_⟩
  unfold ftry1 at o
  cases hfb : fb env st with
  | nx e2 s2 => rw [hfb] at o; exact fun ρ' H' σ' ex g' => o ρ' H' σ' ex (g'.conv hg rfl rfl)
  | bk e2 s2 => rw [hfb] at o; exact fun ρ' H' σ' ex g' => o ρ' H' σ' ex (g'.conv hg rfl rfl)
  | ct e2 s2 => rw [hfb] at o; exact fun ρ' H' σ' ex g' => o ρ' H' σ' ex (g'.conv hg rfl rfl)
  | rt d s2 => rw [hfb] at o; exact o
  | stuck => rw [hfb] at o; exact o
  | exc x env1 st1 =>
    rw [hfb] at o
    simp only at o
    intro ρ' H' σ' cls dx ex g' rx
    obtain ⟨C, d, rfl, hgl, rfl, hxf⟩ := rx
    split at o
    · rename_i hsb
      refine ⟨true, hsub _ _ _ hsb hgl, fun _ a na => ⟨ρ', env1, st1, g'.conv rfl rfl rfl, ?_⟩, fun z => (by cases z)⟩
      cases hfs : fs env1 st1 with
      | nx e2 s2 => rw [hfs] at o; exact fun ρ2 H2 σ2 e' g2 => o ρ2 H2 _ (ex.trans e') (g2.conv hg rfl rfl)
      | bk e2 s2 => rw [hfs] at o; exact fun ρ2 H2 σ2 e' g2 => o ρ2 H2 _ (ex.trans e') (g2.conv hg rfl rfl)
      | ct e2 s2 => rw [hfs] at o; exact fun ρ2 H2 σ2 e' g2 => o ρ2 H2 _ (ex.trans e') (g2.conv hg rfl rfl)
      | rt d2 s2 => rw [hfs] at o; exact fun ρ2 H2 v e' s' r' => o ρ2 H2 v (ex.trans e') s' r'
      | exc y e2 s2 => rw [hfs] at o; exact o.elim
      | stuck => rw [hfs] at o; exact o
    · rename_i hsb
      exact ⟨false, hsub _ _ _ hsb hgl, fun z => (by cases z), fun _ => o ρ' H' σ' _ _ ex (g'.conv hg rfl rfl) ⟨C, d, rfl, hgl, rfl, hxf⟩⟩
    · exact o.elim
end
end DL
end
section
/-! EO1: instances with slots: attributes read and stored; o[i] op= e. -/
namespace DL
open PySem PySem.Spec PyProof.Rows L2
def insAt (st : Store) : D → Option (Nat × Str × List (Option D))
  | .obj n => match st[n]? with | some (.ins c fs) => some (n, c, fs) | _ => none
  | _ => none
theorem insAt_ok {K : PySem.W.Frag} {ρ : Pl} {H : Hp} {st : Store} {d : D} {v : V} {n : Nat} {c : Str} {fs : List (Option D)} (rs : RelSt K ρ H st) (r : RelD K ρ H d v) (e : insAt st d = some (n, c, fs)) :
    ∃ a C dx vs, v = .ref a ∧ ρ.r[n]? = some a ∧ GlbAt K c C ∧ H a = some (SlX.SlO a C dx vs) ∧ H dx = some (.xd []) ∧ ρ.Off dx ∧ RelFs K ρ H fs vs := by
  cases r with
  | @obj m a h =>
    simp only [insAt] at e
    split at e
    · rename_i c' fs' q
      cases e
      obtain ⟨C, dx, vs, h1, h2, h3, h4, h5⟩ := rs.at_ _ a _ h q
      exact ⟨a, C, dx, vs, rfl, h, h1, h2, h3, h4, h5⟩
    · cases e
  | _ => cases e
/-- f is the i-th slot of the class c -/
def FldOk (X : Cx) (c f : Str) (i : Nat) : Prop := ∃ Ca p, GlbAt X.K c Ca ∧ SlX.SCls X.K Ca ∧ SlX.Slot1 X.K Ca f p i
def fattr (fld : Str → Str → Option Nat) (f : Str) (fo : FF D) : FF D := fun env st => (fo env st).bind fun d st1 => match insAt st1 d with
  | some (_, c, fs) => match fld c f with
    | some i => match fs[i]? with | some (some v) => .ok v st1 | _ => .stuck
    | none => .stuck
  | none => .stuck
def gattr (fld : Str → Str → Option Nat) (f : Str) (fo : FF D) : FG := fun d env st => match fo env st with
  | .ok o st1 => match insAt st1 o with
    | some (n, c, fs) => match fld c f with
      | some i => if i < fs.length then some (env, st1.set n (.ins c (fs.set i (some d)))) else none
      | none => none
    | none => none
  | _ => none
section
variable {X : Cx} {W : WG} {o a b e : Expr} {fo fa fb fe : FF D} {pos tpos : Pos} {fld : Str → Str → Option Nat} {f : Str} {op : Operator}
theorem de_attr (F : ∀ c i, fld c f = some i → FldOk X c f i) (ho : DE X W o fo) (hs : superish o = false) : DE X W (.Attribute o f pos) (fattr fld f fo) := by
  refine PE.imp (SlX.pe_sl ho (base_plain hs)) fun σ H Q h => ?_
  obtain ⟨ρ, env, st, gd, q⟩ := h
  refine ⟨ρ, env, st, gd, (OutR.bind (R := RelD X.K) q).mono ?_⟩
  rintro v H1 ⟨ρ1, d, st1, -, e1, s1, r1, o1⟩
  split at o1
  · rename_i n c fs hi
    obtain ⟨a, C, dx, vs, rfl, h1, h2, h3, h4, h5, h6⟩ := insAt_ok s1 r1 hi
    split at o1
    · rename_i i hf
      obtain ⟨Ca, p, g1, g2, g3⟩ := F _ _ hf
      cases g1.uniq h2
      split at o1
      · rename_i w hw
        obtain ⟨u, k1, k2⟩ := h6 _ _ hw
        exact ⟨a, C, dx, p, vs, i, u, rfl, .inr ⟨h3, h4⟩, g2, g3, k1, o1.now s1 k2⟩
      · exact o1.elim
    · exact o1.elim
  · exact o1.elim
theorem slH_eq {H : Hp} {a C dx : Addr} {vs vs' : List (Option V)} (h1 : H a = some (SlX.SlO a C dx vs)) (h2 : H dx = some (.xd [])) : SlX.slH H a C dx vs' = upd H a (SlX.SlO a C dx vs') := by
  funext b
  unfold SlX.slH
  by_cases hb : b = a
  · rw [hb, upd_same, upd_same]
  · rw [upd_ne hb, upd_ne hb]
    by_cases hd : b = dx
    · rw [hd, upd_same, h2]
    · rw [upd_ne hd]
/-- a slot of a numbered instance stored -/
theorem slot_set {K : PySem.W.Frag} {ρ : Pl} {H : Hp} {st : Store} {n i : Nat} {a C dx : Addr} {c : Str} {vs : List (Option V)} {fs : List (Option D)} {d : D} {v : V} (rs : RelSt K ρ H st) (hn : ρ.r[n]? = some a) (h2 : GlbAt K c C) (h3 : H a = some (SlX.SlO a C dx vs)) (h4 : H dx = some (.xd [])) (h5 : ρ.Off dx) (h6 : RelFs K ρ H fs vs) (r : RelD K ρ H d v) (hl : i < fs.length) :
    Ext ρ H ρ (SlX.slH H a C dx (SlX.putS i v vs)) ∧ RelSt K ρ (SlX.slH H a C dx (SlX.putS i v vs)) (st.set n (.ins c (fs.set i (some d)))) := by
  rw [slH_eq h3 h4]
  have ex : Ext ρ H ρ (upd H a (SlX.SlO a C dx (SlX.putS i v vs))) := Ext.mut rs hn (fun ob u z => by rw [h3] at z; exact slO_ne (fun φ z => by cases z) (Option.some.inj z))
  have ne : dx ≠ a := fun z => by
    rw [z, h3] at h4
    exact slO_ne (fun φ z => by cases z) (Option.some.inj h4)
  refine ⟨ex, rs.set hn ⟨C, dx, _, h2, upd_same, by rw [upd_ne ne]; exact h4, h5, fun j d' hj => ?_⟩⟩
  by_cases hji : j = i
  · subst hji
    rw [List.getElem?_set_self hl] at hj
    cases hj
    exact ⟨v, SlX.putS_get j v vs, r.ext ex⟩
  · rw [List.getElem?_set_ne (Ne.symm hji)] at hj
    obtain ⟨u, k1, k2⟩ := h6 j d' hj
    exact ⟨u, (SlX.putS_ne hji).mpr k1, k2.ext ex⟩
theorem dg_attr (F : ∀ c i, fld c f = some i → FldOk X c f i) (ho : DE X W o fo) : DG X W (.Attribute o f pos) (gattr fld f fo) := by
  refine ⟨fun pins s σ H v u Q I r h => ?_⟩
  obtain ⟨ρ, env, st, d, gd, rd, q⟩ := h
  unfold gattr at q
  have key : OutE X.K W ρ H σ (fo env st) (fun x H1 => ∃ ρ1 st1 o n c fs i, insAt st1 o = some (n, c, fs) ∧ fld c f = some i ∧ i < fs.length ∧ Ext ρ H ρ1 H1 ∧ RelSt X.K ρ1 H1 st1 ∧ RelD X.K ρ1 H1 o x ∧ OutG X.K W ρ H (some (env, st1.set n (.ins c (fs.set i (some d))))) Q) := by
    cases h1 : fo env st with
    | ok o st1 =>
      rw [h1] at q
      simp only at q
      split at q
      · rename_i n c fs hi
        split at q
        · rename_i i hf
          split at q
          · rename_i hl
            exact fun ρ1 H1 x e1 s1 r1 => ⟨ρ1, st1, o, n, c, fs, i, hi, hf, hl, e1, s1, r1, q⟩
          · exact q.elim
        · exact q.elim
      · exact q.elim
    | exc x st1 => rw [h1] at q; exact q.elim
    | stuck => rw [h1] at q; exact q.elim
  refine wpAny_bind (wpAny_holding (thn (ho.run pins s σ H _ I ⟨ρ, env, st, gd, key⟩) ?_))
  rintro ov s1 ⟨x, H1, I1, rx, ρ1, st1, o, n, c, fs, i, hi, hf, hl, e1, s1', r1, q1⟩
  obtain ⟨a, C, dx, vs, rfl, h1, h2, h3, h4, h5, h6⟩ := insAt_ok s1' r1 hi
  obtain ⟨Ca, p, g1, g2, g3⟩ := F _ _ hf
  cases g1.uniq h2
  obtain rfl : ov = Value.ref a := rx
  refine wpAny_bind (wpAny_standAt (wpAny_bind (wpAny_holding (SlX.setslot_ok I1 (.inr ⟨h3, h4⟩) g2 g3 r fun s' I' => ?_))))
  obtain ⟨ex, s2⟩ := slot_set s1' h1 h2 h3 h4 h5 h6 (rd.ext e1) hl
  exact wpAny_release ⟨σ, _, I', q1 _ _ _ (e1.trans ex) (gd.ext (e1.trans ex) s2)⟩
/-- o[i], of what has a number -/
def getO (o i : D) (st : Store) : Option D := match dctAt st o with
  | some (_, kvs) => match keyD i with | some k => getK kvs k | none => none
  | none => match lstAt st o, i with
    | some (_, xs), .int k => atI xs k
    | _, _ => none
def rGetO (K : PySem.W.Frag) : V → V → Hp → VK → Prop := fun o i H Q => ∃ ρ st od id, RelSt K ρ H st ∧ RelD K ρ H od o ∧ RelD K ρ H id i ∧ match getO od id st with
  | some d => ∀ v, RelD K ρ H d v → Q v H
  | none => False
theorem get_all (hu : X.A.units + 65 < cLine) : PGet X (rGetO X.K) := by
  intro pins s σ H o i ov iv Q I ro ri q
  obtain ⟨ρ, st, od, id, rs, r1, r2, q⟩ := q
  unfold getO at q
  split at q
  · rename_i d h
    split at h
    · rename_i n kvs hd
      split at h
      · rename_i k hk
        obtain ⟨a, vvs, rfl, hp, h1, h2, h3⟩ := dctAt_ok rs r1 hd
        have hw := keyD_ok r2 hk
        subst hw
        rcases getK_ok k h2 h3 with ⟨g1, _⟩ | ⟨d', w, g1, g2, g3⟩
        · rw [g1] at h; cases h
        · rw [g1] at h; cases h
          cases ro
          have dg : DGet H a (kV k) (some w) := g2 ▸ DGet.k h1
          exact d_getItem (by omega) I dg ri fun w' s' I' r' => ⟨w, H, I', r', q w g3⟩
      · cases h
    · split at h
      · rename_i n xs k hl
        obtain ⟨p, ws, rfl, h1, h2, h3⟩ := lstAt_ok rs r1 hl
        obtain ⟨w, h4, h5⟩ := atI_rel h3 h
        cases r2
        cases ro
        obtain ⟨t, rfl⟩ := ri
        obtain ⟨its, r, pl, hz⟩ := I.list (.inl (.inl h2))
        obtain ⟨j, j1, j2, j3, j4, j5⟩ := atI_get h4
        obtain ⟨u, ew, rw'⟩ := r.get j2
        have hl' := r.length
        have hn := line63
        have fin : EP X pins σ Q u s := ⟨w, H, I, rw', q w h5⟩
        by_cases h0 : 0 ≤ k
        · have hj : k.toNat = j := by
            rw [seqIndex_of h0 j5] at j1
            exact Option.some.inj j1
          exact wpAny_getItem_list pl.isList h0 (by omega) (by rw [hj]; simpa using ew) fin
        · have hj : (k + (its.toArray.size : Int)).toNat = j := by
            rw [seqIndex_neg (by omega) j4] at j1
            rw [List.size_toArray, ← hl']
            exact Option.some.inj j1
          exact wpAny_getItem_list_neg pl.isList (by omega) (by rw [List.size_toArray] <;> omega) (by omega) (by rw [hj]; simpa using ew) fin
      · cases h
  · exact q.elim
/-- o[i] op= e -/
def faugS (op : Operator) (fo fi fe : FF D) : FS := fun env st => (fo env st).toS env fun o st1 => (fi env st1).toS env fun i st2 => match getO o i st2 with
  | some x => (fe env st2).toS env fun y st3 => match ipD op x y st3 with
    | .ok z st4 => match setD o i z st4 with | some st5 => .nx env st5 | none => .stuck
    | _ => .stuck
  | none => .stuck
theorem ds_augS (hu : X.A.units + 65 < cLine) (ho : DE X W a fa) (hi : DE X W b fb) (he : DE X W e fe)
    (ha : ∀ ov iv new, augStore b ov iv new = (do holding [new, ov, iv] (setItem ov iv new); release [new, ov, iv] []; pure .next)) : DS X W (.AugAssign (.Subscript a b tpos) op e pos) (faugS op fa fb fe) := by
  have hip : PIp X op (rIp X.K (ipD op)) := by
    intro pins s σ H x y v u Q I rv ru q
    obtain ⟨ρ, st, d, e, rs, r1, r2, q⟩ := q
    split at q
    · rename_i z st' hz
      exact od_ip (W := ⟨fun _ _ _ _ => False, none, [], none⟩) op pins s σ H ρ st d e x y v u Q I rs r1 r2 rv ru (by rw [hz]; exact q)
    · exact q.elim
  refine PS.imp (ps_augS ho hi (get_all hu) he hip (set_all (by omega)) ha) fun D σ H h => ?_
  obtain ⟨ρ, env, st, gd, o⟩ := h
  refine ⟨ρ, env, st, gd, (OutS.bind (R := RelD X.K) gd o).mono ?_⟩
  rintro ov H1 ⟨ρ1, od, st1, -, e1, s1, r1, o1⟩
  have gd1 := gd.ext e1 s1
  refine ⟨ρ1, env, st1, gd1, (OutS.bind (R := RelD X.K) gd1 o1).mono ?_⟩
  rintro iv H2 ⟨ρ2, id, st2, -, e2, s2, r2, o2⟩
  have gd2 := gd1.ext e2 s2
  refine ⟨ρ2, st2, od, id, s2, r1.ext e2, r2, ?_⟩
  split at o2
  · rename_i x hx
    try rw [hx]
    intro xv rx
    refine ⟨ρ2, env, st2, gd2, (OutS.bind (R := RelD X.K) gd2 o2).mono ?_⟩
    rintro yv H3 ⟨ρ3, y, st3, -, e3, s3, r3, o3⟩
    have gd3 := gd2.ext e3 s3
    refine ⟨ρ3, st3, x, y, s3, rx.ext e3, r3, ?_⟩
    split at o3
    · rename_i z st4 hz
      try rw [hz]
      intro ρ4 H4 zv e4 s4 r4
      refine ⟨ρ4, st4, od, id, z, s4, (r1.ext e2).ext (e3.trans e4), r2.ext (e3.trans e4), r4, ?_⟩
      split at o3
      · rename_i st5 h5
        try rw [h5]
        exact fun ρ5 H5 e5 s5 => o3 ρ5 H5 σ (e4.trans e5) (gd3.ext (e4.trans e5) s5)
      · exact o3.elim
    · exact o3.elim
  · exact o2.elim
end
end DL
end
section
/-! EO2: isinstance of the exception in hand: a built-in class, two classes of the module. -/
namespace DL
open PySem PySem.Spec PyProof.Rows L2
section
variable {X : Cx} {W : WG} {flds : List Str} {n : Str} {xd : XD} {p pos : Pos}
/-- e at a, as isinstance asks it -/
theorem suite_inst {X0 : Cx} {a C dd : Addr} {oe : Obj} {pn : List (Addr × Obj)} {pins : List (Addr × Obj)} {s : Shared} {σ : L2.St} {H : Hp} (hz : Zc (.ref C) (some dd) oe) (hf : ∃ vs, oe.data = .fields vs) (I : L2.Inv (X0.suite a ((a, oe) :: pn)) pins σ H s) (h : ∃ fs, H dd = some (.xd fs)) :
    ∃ od, PySem.W.InstAt s.heap a oe C (some od) := by
  obtain ⟨fs, hdd⟩ := h
  obtain ⟨hget, _⟩ := I.pin (a, oe) (List.mem_append.mpr (.inl List.mem_cons_self))
  obtain ⟨vs, hv⟩ := hf
  have hx : ObjOk X0.prog X0.w H s.heap dd (.xd fs) := I.hok dd _ hdd
  obtain ⟨mA, ⟨od, es, ep, ho, _⟩, _⟩ := hx
  refine ⟨od, ?_⟩
  obtain ⟨oc, od', oda, osl⟩ := oe
  obtain ⟨h1, h2⟩ := hz
  dsimp only at h1 h2 hv
  subst h1 h2 hv
  exact ⟨hget, rfl, rfl, ho⟩
theorem call_isXT {X0 : Cx} {a C dd : Addr} {t : String} {oe : Obj} {pn : List (Addr × Obj)} {b : Bool} (A : ExcA X0.K C flds) (hz : Zc (.ref C) (some dd) oe) (hf : ∃ vs, oe.data = .fields vs) (hk : PySem.W.kitOne X0.K (.ref C) (.type t) = some b) :
    CallR (X0.suite a ((a, oe) :: pn)) (.builtin "isinstance") (fun xs H Q => xs = [.ref a, .ty t] ∧ (∃ fs, H dd = some (.xd fs)) ∧ Q (.bl b) H) := by
  intro pins s σ H xs us Q I r h
  obtain ⟨rfl, hdd, q⟩ := h
  cases r with
  | cons rx rr =>
    cases rr with
    | cons rt rr =>
      cases rr
      cases rx
      cases rt
      obtain ⟨od, J⟩ := suite_inst hz hf I hdd
      exact PySem.W.kia_one (PySem.W.kitx_exc A.cl A.ga A.gt A.oex.exC A.ca A.sg A.tk A.mr) I.kIn J hk (fun z => nomatch z) fun tk => ⟨.bl b, H, I.kept (t' := tk) fun _ _ z => z, rfl, q⟩
theorem de_exisT {c : Str} {t : String} {b : Bool} {p1 p2 : Pos} (S : SuiteOk X W n xd) (A : ∀ C, GlbAt X.K xd.cls C → ExcA X.K C flds) (hk : ∀ C, GlbAt X.K xd.cls C → PySem.W.kitOne X.K (.ref C) (.type t) = some b) (hg : Gl X "isinstance") (hm : X.mg "isinstance" = none)
    (hgc : Gl X c) (hmc : X.mg c = none) (hbc : bootBuiltins c = some (.type t)) (hdc : (c == ("__debug__" : Str)) = false) (hnc : c ≠ "__name__") (hd : (n == ("__debug__" : Str)) = false) (hcd : (n == ("__classdict__" : Str)) = false) : DE X W (.Call (.Name "isinstance" p) [.Name n p1, .Name c p2] [] pos) (fcon (.bl b)) := by
  obtain ⟨i, a, dd, C, oe, pn, X0, rfl, hgg, hN, hz, hfd, hgl, hv⟩ := S.ex
  refine PE.imp (pe_callB (call_isXT (pn := pn) (A C hgl) hz hfd (hk C hgl)) hg hm PyProof.Rows.Boot.«isinstance» (pa_cons (pe_var (X := X0.suite a ((a, oe) :: pn)) (i := i) hN hv hd hcd) (pa_cons (pe_bltn (v := .ty t) hgc hmc hbc rfl hnc hdc) pa_nil (by rfl)) (by rfl)) (by decide) (by decide) (by rfl) (by rfl)) fun σ H Q h => ?_
  obtain ⟨ρ, env, st, gd, o⟩ := h
  obtain ⟨h1, off, vs, h2, h3, h4⟩ := gd.gh.x _ hgg
  exact ⟨_, h1, rfl, ⟨vs, h2⟩, o.now gd.st (.bl b)⟩
theorem kit_two {K : PySem.W.Frag} {t c d : Value} {a b : Bool} (h1 : PySem.W.kitOne K t c = some a) (h2 : PySem.W.kitOne K t d = some b) : PySem.W.kitAny K t [c, d] = some (a || b) := by
  unfold PySem.W.kitAny
  rw [h1]
  cases a with
  | true => rfl
  | false =>
    show PySem.W.kitAny K t [d] = _
    unfold PySem.W.kitAny
    rw [h2]
    cases b <;> rfl
theorem call_isXP {X0 : Cx} {a C D1 D2 dd : Addr} {oe : Obj} {pn : List (Addr × Obj)} {b1 b2 : Bool} (A : ExcA X0.K C flds) (hz : Zc (.ref C) (some dd) oe) (hf : ∃ vs, oe.data = .fields vs) (hk1 : PySem.W.kitOne X0.K (.ref C) (.ref D1) = some b1) (hk2 : PySem.W.kitOne X0.K (.ref C) (.ref D2) = some b2) :
    CallR (X0.suite a ((a, oe) :: pn)) (.builtin "isinstance") (fun xs H Q => ∃ tp, xs = [.ref a, .ref tp] ∧ H tp = some (.tup [.ref D1, .ref D2]) ∧ (∃ fs, H dd = some (.xd fs)) ∧ Q (.bl (b1 || b2)) H) := by
  intro pins s σ H xs us Q I r h
  obtain ⟨tp, rfl, hT, hdd, q⟩ := h
  cases r with
  | cons rx rr =>
    cases rr with
    | cons rt rr =>
      cases rr
      cases rx
      cases rt
      obtain ⟨od, J⟩ := suite_inst hz hf I hdd
      obtain ⟨_, its, rv, o, h1, h2, m, h3⟩ := (show ObjOk X0.prog X0.w H s.heap tp (.tup [.ref D1, .ref D2]) from I.hok tp _ hT)
      cases rv with
      | cons r1 rv =>
        cases rv with
        | cons r2 rv =>
          cases rv
          cases r1
          cases r2
          obtain ⟨oc, od', dt, sl⟩ := o
          simp only at h2 h3
          subst h2 h3
          exact PySem.W.kia_tup (PySem.W.kitx_exc A.cl A.ga A.gt A.oex.exC A.ca A.sg A.tk A.mr) I.kIn J h1 (kit_two hk1 hk2) (fun z => nomatch z) fun tk => ⟨.bl (b1 || b2), H, I.tok tk, rfl, q⟩
theorem de_exisP {c d : Str} {D1 D2 : Addr} {b1 b2 : Bool} {p1 p2 p3 p4 : Pos} {k : Nat} (S : SuiteOk X W n xd) (A : ∀ C, GlbAt X.K xd.cls C → ExcA X.K C flds) (hk1 : ∀ C, GlbAt X.K xd.cls C → PySem.W.kitOne X.K (.ref C) (.ref D1) = some b1) (hk2 : ∀ C, GlbAt X.K xd.cls C → PySem.W.kitOne X.K (.ref C) (.ref D2) = some b2) (hg : Gl X "isinstance") (hm : X.mg "isinstance" = none)
    (hgc : Gl X c) (hmc : X.mg c = some (.ref D1)) (hdc : (c == ("__debug__" : Str)) = false) (hgd : Gl X d) (hmd : X.mg d = some (.ref D2)) (hdd : (d == ("__debug__" : Str)) = false) (hd : (n == ("__debug__" : Str)) = false) (hcd : (n == ("__classdict__" : Str)) = false) :
    DE X W (.Call (.Name "isinstance" p) [.Name n p1, .Tuple [.Name c p2, .Name d p3] k p4] [] pos) (fcon (.bl (b1 || b2))) := by
  obtain ⟨i, a, dd, C, oe, pn, X0, rfl, hgg, hN, hz, hfd, hgl, hv⟩ := S.ex
  refine PE.imp (pe_callB (call_isXP (pn := pn) (A C hgl) hz hfd (hk1 C hgl) (hk2 C hgl)) hg hm PyProof.Rows.Boot.«isinstance» (pa_cons (pe_var (X := X0.suite a ((a, oe) :: pn)) (i := i) hN hv hd hcd) (pa_cons (pe_tup (pa_cons (pe_glob hgc hmc (v := .ref D1) rfl hdc) (pa_cons (pe_glob hgd hmd (v := .ref D2) rfl hdd) pa_nil (by rfl)) (by rfl))) pa_nil (by rfl)) (by rfl)) (by decide) (by decide) (by rfl) (by rfl)) fun σ H Q h => ?_
  obtain ⟨ρ, env, st, gd, o⟩ := h
  obtain ⟨h1, off, vs, h2, h3, h4⟩ := gd.gh.x _ hgg
  refine ⟨_, h1, (show (2 : Nat) ≤ 16777216 by decide), fun q nq => ⟨q, rfl, upd_same, ⟨vs, by rw [upd_ne (ne_of_none h2 nq)]; exact h2⟩, ?_⟩⟩
  exact o ρ _ _ (Ext.new gd.st nq) (gd.st.new nq) (.bl _)
end
/-- which def o.m is: 0 a method of the instance's class, 1 a class method of a class -/
def metOf1 (met : Nat → Str → Str → Nat → List Str → Option SemX) (m : Str) (n : Nat) (ks : List Str) (d : D) (st : Store) : Option SemX := match insAt st d with
  | some (_, c, _) => met 0 c m n ks
  | none => match d with
    | .glb c => met 1 c m n ks
    | _ => none
/-- o.m(..) -/
def fmethU (met : Nat → Str → Str → Nat → List Str → Option SemX) (m : Str) (n : Nat) (ks : List Str) (fo : FF D) (fs : FF (List D)) : FF D := fun env st => (fo env st).bind fun d st1 => match metOf1 met m n ks d st1 with
  | some g => (fs env st1).bind fun ds st2 => g (d :: ds) st2
  | none => .stuck
/-- C(..): a new instance with so many slots, then g, its __init__ -/
def mkD (c : Str) (ns : Nat) (g : SemX) : SemX := fun ds st => match g (.obj st.length :: ds) (st ++ [.ins c (List.replicate ns none)]) with
  | .ok .non st' => .ok (.obj st.length) st'
  | .ok _ _ => .stuck
  | .exc x st' => .exc x st'
  | .stuck => .stuck
end DL
end
section
/-! ELL: a lambda without parameters, handed to a def that calls it in a try. -/
namespace DL
open PySem PySem.Spec PyProof.Rows L2
open LamX (CodeO Tabs TabS ExtN TabB LamS lamEnv lamCx lam_make2 lam_start2 run_ofS)
section
variable {X : Cx} {pins : List (Addr × Obj)} {σ : L2.St} {H HZ : Hp} {s s1 : Shared}
/-- x(), in the def that got the lambda -/
theorem act_walk {CXg : CXT} {Eg : XK} {Ng : List Str} {qg : Str} {sg : Scope} {g f c' : Addr} {cdg pm ctv : Value} {params : Arguments} {body : Expr} {scope : Scope} {k i : Nat} {a : Str} {pn : List (Addr × Obj)} {xe : Value → Shared → Prop} {W : WX} {t : XK → TE} {p1 p2 : Pos}
    (I : L2.Inv X pins σ H s) (L : LamS X.env.scope scope) (hf : s.heap.get? f = some (PySem.W.kla_obj "<lambda>" (X.env.qual ++ "<lambda>") params body scope (cloFrom X.env.cells scope.names []) pm c' ctv)) (hfn : H f = none) (hfr : f ∉ frs X.stack)
    (hbind : bindArgs (PySem.W.kla_fn "<lambda>" (X.env.qual ++ "<lambda>") params body scope (cloFrom X.env.cells scope.names []) pm (.ref c') ctv) ⟨[], []⟩ = pure [])
    (tk : Takes ((cxOf CXg X.prog X.w X.K X.mg X.base Ng qg sg g cdg X.A X.stack s H Eg).tr pn xe) W) (hr : Room (k + 1) (X.A.deeper (envOfC qg sg s.heap.objs.size g cdg))) (hgd : X.A.guards = some [])
    (hbody : ∀ (A : Around) (outer : List PySem.Env) (s : Shared) (H : Hp) (E : XK), Room k (A.deeper (lamEnv X scope s.heap.objs.size f c')) → A.guards = some [] → PE (lamCx X A outer s H E scope f c') body (t E))
    (hN : Ng[i]? = some a) (hv : Vis sg a) (hd : (a == ("__debug__" : Str)) = false) (hcd : (a == ("__classdict__" : Str)) = false) :
    PE ((cxOf CXg X.prog X.w X.K X.mg X.base Ng qg sg g cdg X.A X.stack s H Eg).tr pn xe) (.Call (.Name a p1) [] [] p2)
      (fun σZ HZ Q => ∃ E : XK, (∀ cls d H', E cls d H' → W cls d σZ H') ∧ σZ[i]? = some (some (.ref f)) ∧ HZ c' = some (CodeO c' (X.env.qual ++ "<lambda>")) ∧ t E σ HZ Q) := by
  refine ⟨fun pinsZ sZ σZ HZ Q IZ h => ?_⟩
  obtain ⟨E, hE, hs, hc, ht⟩ := h
  refine wpAny_Call_Name_kw (thn ((pe_var (pos := p1) (i := i) hN hv hd hcd).run pinsZ sZ σZ HZ (fun v H1 => v = .ref f ∧ H1 = HZ) IZ ⟨.ref f, hs, rfl, rfl⟩) fun u s1 ⟨v, H1, I1, r1, q1⟩ => ?_)
  obtain ⟨ev, eH⟩ := q1
  subst ev
  rw [eH] at I1
  obtain rfl : u = Value.ref f := r1
  have of1 : s1.heap.get? f = some (PySem.W.kla_obj "<lambda>" (X.env.qual ++ "<lambda>") params body scope (cloFrom X.env.cells scope.names []) pm c' ctv) := I1.base.keep f _ hf hfn hfr (fun z => nomatch (show f ∈ ([] : List Addr) from z))
  refine PySem.W.callWith_F0 ⟨_, _, _, _, of1⟩ ?_
  have un : Un (frs X.stack) [] H HZ s.heap s1.heap := I1.base
  obtain ⟨⟨oc, vs, t', hoc, hdc, hvc⟩, _, _⟩ := I1.hok c' _ hc
  have rc : codeAny (model X.prog X.w) (X.A.deeper (envOfC qg sg s.heap.objs.size g cdg)) (.call (.ref f) ⟨[], []⟩) (CR (L2.CX X.prog X.w) (envOfC qg sg s.heap.objs.size g cdg :: X.stack) X.prog X.w HZ s1 Q E) s1 := by
    refine PySem.W.kla_callFunE hr.depth of1 rfl L.co L.gen rfl ⟨c', oc, vs, t', rfl, hoc, hdc, hvc⟩ ?_
    rw [hbind]
    refine wpAny_pure (wpAny_newFunctionEnv (fun y hy => (L.own y hy).2) (fun y hy => absurd hy (by simp)) (fun h₁ hns hsb => ⟨I1.nolimit.fresh _ hsb, ?_⟩) L.kind)
    show codeAny _ _ (.expr body (lamEnv X scope s1.heap.objs.size f c')) _ _
    have kp : ∀ b o, s1.heap.get? b = some o → h₁.get? b = some o := fun b o e => hsb.extBut b o (Nat.ne_of_lt (Heap.lt_size e)) (Heap.get?_push_of_some _ e)
    have J : L2.Inv (lamCx X (X.A.deeper (envOfC qg sg s.heap.objs.size g cdg)) (envOfC qg sg s.heap.objs.size g cdg :: X.stack) s1 HZ E scope f c') [] σ HZ { s1 with heap := h₁, toks := s1.toks + ([] : List (Str × Value)).length } :=
      lam_start2 I L I1.env0 hr.hd un hns kp
    refine PySem.W.kla_codeExpr (wpAny_mono ((hbody _ _ s1 HZ E (hr.deeper _) hgd).run [] _ _ HZ Q J ht) (fun v s' hq => ?_) fun e s' hq => hq)
    obtain ⟨w', H', J', rv, q⟩ := hq
    exact ⟨w', H', J'.os, J'.bare, J'.base, J'.hok, rv, q⟩
  refine wpAny_call (codeAny_mono rc fun r s' hq => ?_)
  cases r with
  | error e => exact tk e s' (XE.of_call I1 (fun cls d H' h => hE cls d H' h) hq)
  | ok fl =>
    cases fl with
    | ret u => exact I1.after hq
    | next => exact False.elim hq
    | brk => exact False.elim hq
    | cont => exact False.elim hq
end
def WG.lamW (W : WG) (E : XK) : WG := ⟨fun cls d _ H => E cls d H, none, W.T, none⟩
/-- a def's end, where nothing may be raised -/
def endL : RS → Res D
  | .rt d st => .ok d st
  | .nx _ st => .ok .non st
  | _ => .stuck
/-- the call of the lambda -/
def flamc (h : Store → Res D) : FF D := fun _ st => h st
section
variable {X : Cx} {W : WG}
/-- the context of the def that gets the lambda -/
abbrev lamDef (X : Cx) (Ng : List Str) (x : Str) (sg : Scope) (g : Addr) (cdg : Value) (s : Shared) (H : Hp) : Cx := (cxOf C8.CX0 X.prog X.w X.K X.mg X.base Ng x sg g cdg X.A X.stack s H C8.E0).nox
/-- x(lambda: body): L, what x's body reckons from what the lambda gives -/
theorem de_lamcall {x a : Str} {g c P : Addr} {k : Nat} {pg : Arguments} {bg : List Stmt} {sg : Scope} {dV kV doc pm cdv ct oc : Value} {an od : Option Addr} {osl : Array (Option Value)} {Ng : List Str}
    {params : Arguments} {body : Expr} {scope : Scope} {fb : FF D} {L : (Store → Res D) → FS} {p lpos pos : Pos} (hg : Gl X x) (hm : X.mg x = some (.ref g)) (hk : PySem.W.keepIn X.K (.ref g) = true)
    (lk : X.K.lookup g = some ⟨oc, od, .func (PySem.W.fnOf x x pg bg sg dV kV doc pm an cdv ct), osl⟩) (hcg : PySem.W.codeIn X.K cdv x = true) (hb : L2.Binds X.K (PySem.W.fnOf x x pg bg sg dV kV doc pm an cdv ct) [a] []) (Sg : FnScope Ng [a] sg) (hNg : Ng[0]? = some a) (hva : Vis sg a)
    (TB : TabB X.base X.mg c P) (hcode : X.env.code = .ref c) (hmT : (P, X.env.qual ++ "<lambda>") ∈ W.T) (hu : ∀ p ∈ W.T, p.1 = P → p.2 = X.env.qual ++ "<lambda>") (hr : Room (k + 2) X.A) (hgd : X.A.guards = some []) (Ls : LamS X.env.scope scope) (hdef : defaultsOf params X.env = ([], []))
    (hbind : ∀ (q : Str) (cl : List (Str × Addr)) (pm cv ctv : Value), bindArgs (PySem.W.kla_fn "<lambda>" q params body scope cl pm cv ctv) ⟨[], []⟩ = pure [])
    (hcallee : ∀ (h : Store → Res D) (s : Shared) (H : Hp) (Wc : WG), Wc.w = (fun _ _ _ _ => False) → Wc.g = none → Wc.T = W.T → (∀ l, Wc.l = some l → l.i = 0) → Room (k + 1) (X.A.deeper (envOfC x sg s.heap.objs.size g cdv)) →
      (∀ (pn : List (Addr × Obj)) (xe : Value → Shared → Prop) (W' : WG), W'.g = none → W'.T = Wc.T → W'.l = Wc.l → Takes ((lamDef X Ng x sg g cdv s H).tr pn xe) W'.w → ∀ p1 p2 : Pos, DE ((lamDef X Ng x sg g cdv s H).tr pn xe) W' (.Call (.Name a p1) [] [] p2) (flamc h)) →
      DSs (lamDef X Ng x sg g cdv s H) Wc bg (L h))
    (hbody : ∀ (A : Around) (outer : List PySem.Env) (s : Shared) (H : Hp) (E : XK) (f c' : Addr), Room k (A.deeper (lamEnv X scope s.heap.objs.size f c')) → A.guards = some [] → DE (lamCx X A outer s H E scope f c') (W.lamW E) body fb)
    (hdb : (x == ("__debug__" : Str)) = false) (hd : (a == ("__debug__" : Str)) = false) (hcd : (a == ("__classdict__" : Str)) = false) :
    DE X W (.Call (.Name x p) [.Lambda params body scope lpos] [] pos) (fun env st => endL (L (fun st1 => fb env st1) (List.replicate Ng.length none) st)) := by
  refine ⟨fun pins s σ H Q I h => ?_⟩
  obtain ⟨ρ, env, st, gd, o⟩ := h
  refine wpAny_Call_Name_kw (ld_glob I hg hm ?_ hdb)
  refine PySem.W.callWith_K (h₀ := X.base) I.ok.mod.kin hk ?_ (by rfl) (by rfl)
  show wpAny _ _ (spliced ((false, eval (.Lambda params body scope lpos) X.env) :: backTo pos (starEach [] X.env))) _ _ s
  have hT : Tabs W.T H := by have := gd.st.tabs; rw [gd.tt] at this; exact this
  refine Calls.spliced_cons (lam_make2 I TB hcode hmT hu hT hdef (Ls.has I.ok) fun f c' pm' ctv H1 s' I1 eN T1 hf hfn hfr hco => ?_)
  refine Calls.spliced_nil ⟨I1.kIn, ?_⟩
  -- what was tracked stands, but for the tables
  have sy : Stay ρ H ρ H1 := ⟨fun _ _ h => h, fun b u e t n => ⟨eN b u e (fun ps z => by rw [z] at t; cases t), n⟩⟩
  have kp : ∀ b ∈ ρ.r, H1 b = H b := fun b hb => by
    obtain ⟨n, hn⟩ := List.mem_iff_getElem?.mp hb
    obtain ⟨d, _, q⟩ := gd.st.mem hn
    obtain ⟨u, hu', ht, _⟩ := q.noTbl
    rw [hu']
    exact eN b u hu' (fun ps z => by rw [z] at ht; cases ht)
  have hid1 : ∀ b ∈ ρ.h, H1 b = H b := fun b hb => by
    obtain ⟨u, hu'⟩ := gd.st.hid b hb
    rw [hu']
    exact eN b u hu' fun ps z => (by obtain ⟨o, q, nt⟩ := gd.st.ht b hb; rw [hu', z] at q; cases q; cases nt.tbl)
  have ex1 : Ext ρ H ρ H1 := ⟨sy.pre, sy.keep, rfl, hid1, rfl, fun b ob u z => eN b _ z fun ps y => by cases y⟩
  have rs1 : RelSt X.K ρ H1 st := ⟨gd.st.len, gd.st.nd, fun n b u e1 e2 => (gd.st.at_ n b u e1 e2).stay sy (kp b (List.mem_of_getElem? e1)), gd.st.dis, fun b hb => (by rw [hid1 b hb]; exact gd.st.hid b hb), (by rw [gd.tt]; exact T1), fun b hb => (by rw [hid1 b hb]; exact gd.st.ht b hb)⟩
  have offc : ρ.Off c' := ⟨fun m => ?_, fun m => ?_⟩
  rotate_left
  · obtain ⟨n, hn⟩ := List.mem_iff_getElem?.mp m
    obtain ⟨d, _, q⟩ := rs1.mem hn
    obtain ⟨u, hu', _, hc'⟩ := q.noTbl
    rw [hco] at hu'
    exact hc' _ _ (Option.some.inj hu').symm
  · obtain ⟨o, q, nt⟩ := rs1.ht c' m
    rw [hco] at q
    exact nt.code _ _ (Option.some.inj q).symm
  have env1 : RelEnv X.K ρ H1 env σ := gd.env.stay sy
  have rc : codeAny (model X.prog X.w) X.A (.call (.ref g) ⟨[.ref f], []⟩) (CR C8.CX0 X.stack X.prog X.w H1 s' Q C8.E0) s' := by
    refine run_ofS (N := Ng) (ps := [a]) (us := [.ref f]) (vs := [.ref f]) lk hcg Sg hr I1.env0 (hb s' [.ref f] I1.kIn rfl) (.cons rfl .nil) rfl fun hr' => ?_
    have hl0 : (L2.start Ng [V.ref f])[0]? = some (some (.ref f)) := by unfold L2.start; rfl
    refine ⟨lS X.K ⟨fun _ _ _ _ => False, none, W.T, some ⟨0, f, c', X.env.qual ++ "<lambda>", env, σ⟩⟩ (L fun st1 => fb env st1), (PSs.nox (hcallee _ s' H1 _ rfl rfl rfl (fun l e => (by cases e; rfl)) hr' fun pn xe W' w1 w2 w3 tk p1 p2 => ?_)), ρ, List.replicate Ng.length none, st, ⟨⟨by
      have := (List.getElem?_eq_some_iff.mp hNg).1
      unfold L2.start
      simp
      omega, fun i d e => ?_⟩, rs1, by rw [gd.tt], ⟨fun x e => (by cases e), fun l e => ?_⟩⟩, ?_⟩
    · refine PE.imp (act_walk (CXg := C8.CX0) (Eg := C8.E0) (t := fun E => lE X.K (W.lamW E) fb) (i := 0) I1 Ls hf hfn hfr (hbind _ _ _ _ _) tk hr' hgd (fun A outer s H E hr2 hg2 => hbody A outer s H E f c' hr2 hg2) hNg hva hd hcd) fun σZ HZ Q' hz => ?_
      obtain ⟨ρZ, envZ, stZ, gZ, oZ⟩ := hz
      obtain ⟨l1, ⟨l2, l3⟩, l4⟩ := gZ.gh.l _ w3
      refine ⟨fun cls d H' => W'.w cls d σZ H', fun cls d H' z => z, l1, l3, ρZ, env, stZ, ⟨l4, gZ.st, by rw [gZ.tt, w2]; rfl, .none rfl rfl⟩, ?_⟩
      unfold flamc at oZ
      dsimp only at oZ
      cases hh : fb env stZ with
      | ok d st2 => rw [hh] at oZ; exact oZ
      | exc x st2 => rw [hh] at oZ; exact oZ
      | stuck => rw [hh] at oZ; exact oZ
    · rw [List.getElem?_replicate] at e
      split at e <;> cases e
    · cases e
      exact ⟨hl0, ⟨offc, hco⟩, env1⟩
    · cases hL : L (fun st1 => fb env st1) (List.replicate Ng.length none) st with
      | rt d st2 =>
        simp only [hL, endL] at o
        exact fun ρ' H' v e' s2 r => o ρ' H' v (ex1.trans e') s2 r
      | nx e2 st2 =>
        simp only [hL, endL] at o
        exact fun ρ' H' σ' e' g2 => o ρ' H' .non (ex1.trans e') g2.st .non
      | bk e2 st2 => simp only [hL, endL] at o; exact o.elim
      | ct e2 st2 => simp only [hL, endL] at o; exact o.elim
      | exc x e2 st2 => simp only [hL, endL] at o; exact o.elim
      | stuck => simp only [hL, endL] at o; exact o.elim
  refine wpAny_call (codeAny_mono rc fun r s2 hq => ?_)
  cases r with
  | error e => exact (show False from hq).elim
  | ok fl =>
    cases fl with
    | ret u => exact I1.after hq
    | next => exact False.elim hq
    | brk => exact False.elim hq
    | cont => exact False.elim hq
end
end DL
end
section
/-! EM1: {**d, k: v}. -/
namespace DL
open PySem PySem.Spec PyProof.Rows L2
section
variable {prog : Program} {w : World} {KT : Type} [DecidableEq KT] {knd : KeyKind prog w KT} {A : Around} {E : Value → Shared → Prop} {s : Shared}
/-- one entry is put into a dict, its hash known -/
theorem put_pairs {d : Addr} {kvs : List (KT × Value)} {k : KT} {key v : Value} {Q : Unit → Shared → Prop} (hkey : knd.is k key = true) (hm : s.heap.DictOf knd d kvs) (hsz : kvs.length ≤ sizeLine)
    (hQ : ∀ h', h'.DictOf knd d (stored kvs k v) → Heap.SameBut d s.heap h' → Q () { s with heap := h' }) : wpAny (model prog w) A (dictPut d (knd.hash k) key v) Q E s := by
  obtain ⟨o, es, ep, ho, hc, hd, hk, hp, hn⟩ := hm
  have len : es.size ≤ sizeLine := by
    have := hp.length
    rw [Array.length_toList] at this
    omega
  have same : (es.findIdx? fun e => knd.is k e.key) = kvs.findIdx? fun kv => decide (kv.1 = k) := by
    rw [← hp.findIdx k]
    obtain ⟨l⟩ := es
    simp
  refine wpAny_bind (wpAny_dictFind_of hkey ho hd hk ?_)
  cases hi : es.findIdx? fun e => knd.is k e.key with
  | none =>
    rw [hi] at same
    have out : ¬ (kvs.any fun kv => decide (kv.1 = k)) = true := fun z => by
      obtain ⟨x, hx, e⟩ := List.any_eq_true.mp z
      exact not_mem_of_findIdx_none same.symm (List.mem_map.mpr ⟨x, hx, of_decide_eq_true e⟩)
    refine wpAny_updateDictKeys (hz := len) ho hd (hQ _ ⟨_, _, ep + 1, Heap.get?_update_self _ ho (Obj.isFreed_of_dict (Obj.data_mapDictKeys hd _)), hc.mapDictKeys _, Obj.data_mapDictKeys hd _, hk.push hkey _, ?_, ?_⟩ (Heap.SameBut.update ..))
    · rw [stored, if_neg out]
      obtain ⟨l⟩ := es
      simpa using hp.append hkey (knd.hash k) v
    · rw [stored, if_neg out, List.map_append, List.nodup_append]
      refine ⟨hn, by simp, fun a ha b hb e => ?_⟩
      obtain rfl : b = k := by simpa using hb
      subst e
      exact not_mem_of_findIdx_none same.symm ha
  | some i =>
    rw [hi] at same
    have inn := any_of_findIdx_some same.symm
    refine wpAny_updateDict ho hd (hQ _ ⟨_, _, ep, Heap.get?_update_self _ ho (Obj.isFreed_of_dict (Obj.data_mapDict hd _)), hc.mapDict _, Obj.data_mapDict hd _, hk.modify _ _, ?_, ?_⟩ (Heap.SameBut.update ..))
    · rw [stored, if_pos inn]
      have at_ : (es.toList.findIdx? fun e => knd.is k e.key) = some i := by
        rw [← hi]
        obtain ⟨l⟩ := es
        simp
      have := hp.modify hn at_ v
      obtain ⟨l⟩ := es
      simpa using this
    · rw [stored, if_pos inn, keys_map_store]
      exact hn
/-- the entries of the dict at a go into the one at d -/
theorem merge_map {d a : Addr} {kvs more : List (KT × Value)} {Q : Unit → Shared → Prop} (hda : d ≠ a) (hS : (a == sysModules) = false) (hd : s.heap.DictOf knd d kvs) (ha : s.heap.DictOf knd a more) (hv : ∀ k v, knd.is k v = true → ∀ b, v ≠ .ref b) (hsz : kvs.length + more.length ≤ sizeLine)
    (hQ : ∀ h', h'.DictOf knd d (merged kvs more) → Heap.SameBut d s.heap h' → Q () { s with heap := h' }) : wpAny (model prog w) A (mergeMapping d (.ref a) false) Q E s := by
  have hd' := id hd
  obtain ⟨od, esd, epd, hod, -, hdd, -, -, -⟩ := hd'
  have ha' := id ha
  obtain ⟨oa, esa, epa, hoa, hca, hda', hka, hpa, -⟩ := ha'
  have hlen : more.length = esa.size := by
    have := hpa.length
    rw [Array.length_toList] at this
    exact this.symm
  unfold mergeMapping
  refine wpAny_bind (wpAny_isInstance ha.typeIs isSubtype_dict_dict ?_)
  rw [if_pos rfl]
  refine wpAny_bind (wpAny_specialOf ha.typeIs F.slot_dict_iter.lookup (wpAny_bind (wpAny_pure ?_)))
  rw [show (some (Value.builtin "dict.__iter__") == some (Value.builtin "dict.__iter__")) = true from by simp]
  dsimp only
  rw [if_neg (by rw [hS]; exact Bool.false_ne_true)]
  have loop : wpAny (model prog w) A (do
      let l ← dictEntries a
      let epoch ← dictEpoch a
      forIn (List.range l.size) PUnit.unit fun i (_ : PUnit) => (do
          let l' ← dictEntries a
          match l'[i]? with
            | some e => do
              holding [e.key, e.val] (dictPut d e.hash e.key e.val)
              let ep' ← dictEpoch a
              if (ep' != epoch) = true then do
                  (unsupported "dict.changed-during-merge" : Sem PUnit)
                  pure (ForInStep.yield PUnit.unit)
                else pure (ForInStep.yield PUnit.unit)
            | _ => do
              (unsupported "dict.changed-during-merge" : Sem PUnit)
              pure (ForInStep.yield PUnit.unit) : Sem (ForInStep PUnit))
      pure ()) Q E s := by
    refine wpAny_bind (wpAny_dictEntries hoa hda' (wpAny_bind (wpAny_dictEpoch hoa hda' (wpAny_bind ?_))))
    rw [List.range_eq_range']
    refine wpAny_forIn_list _ (fun rest _ s' => ∃ h' i, s' = { s with heap := h' } ∧ rest = List.range' i (esa.size - i) ∧ i ≤ esa.size ∧ h'.DictOf knd d (merged kvs (more.take i)) ∧ h'.get? a = some oa ∧ Heap.SameBut d s.heap h') _ ?_ ?_ _ _
      ⟨s.heap, 0, rfl, by simp, Nat.zero_le _, by simpa [merged] using hd, hoa, Heap.SameBut.refl _ _⟩
    · rintro x rest b s' ⟨h', i, rfl, hr, hi, hd1, ho1, sb1⟩
      have hlt : i < esa.size := by
        by_cases z : i < esa.size
        · exact z
        · rw [show esa.size - i = 0 by omega] at hr; cases hr
      rw [show esa.size - i = (esa.size - (i + 1)) + 1 by omega, List.range'_succ] at hr
      obtain ⟨rfl, rfl⟩ := List.cons.inj hr
      refine wpAny_bind (wpAny_dictEntries ho1 hda' ?_)
      rw [Array.getElem?_eq_getElem hlt]
      obtain ⟨⟨k, v⟩, hkv⟩ : ∃ kv, more[x]? = some kv := ⟨more[x]'(by rw [hlen]; exact hlt), List.getElem?_eq_getElem _⟩
      obtain ⟨hkey, hval⟩ := hpa.get? (e := esa[x]) (by simp [hlt]) hkv
      obtain ⟨k', hkey', hhash⟩ := hka esa[x] (Array.getElem_mem hlt)
      obtain rfl : k' = k := knd.inj _ _ _ hkey' hkey
      show wpAny _ _ (holding [esa[x].key, esa[x].val] (dictPut d esa[x].hash esa[x].key esa[x].val) >>= _) _ _ _
      rw [hhash, hval]
      have room : (merged kvs (more.take x)).length ≤ sizeLine := by
        have e1 := merged_length_le kvs (more.take x)
        have e2 : (more.take x).length ≤ more.length := by rw [List.length_take]; omega
        omega
      refine wpAny_bind (wpAny_holding (put_pairs hkey hd1 room fun h2 hd2 sb2 => ?_))
      have ho2 : h2.get? a = some oa := (sb2.2 a (Ne.symm hda)).trans ho1
      refine wpAny_bind (wpAny_dictEpoch ho2 hda' ?_)
      rw [if_neg (by simp)]
      exact wpAny_pure ⟨h2, x + 1, rfl, rfl, hlt, by rw [merged_take_succ kvs more x (k', v) hkv]; exact hd2, ho2, sb1.trans sb2⟩
    · rintro b s' ⟨h', i, rfl, hr, hi, hd1, ho1, sb1⟩
      have all : i = esa.size := by
        by_cases z : i < esa.size
        · rw [show esa.size - i = (esa.size - (i + 1)) + 1 by omega, List.range'_succ] at hr; cases hr
        · omega
      rw [all, ← hlen, List.take_length] at hd1
      exact wpAny_pure (hQ h' hd1 sb1)
  refine wpAny_bind (wpAny_dictEntries hod hdd ?_)
  split
  · refine wpAny_bind (wpAny_dictEntries hoa hda' (wpAny_bind ?_))
    rw [← Array.forIn_toList]
    refine wpAny_forIn_list _ (fun rest _ s' => s' = s ∧ ∀ e ∈ rest, ∃ k, knd.is k e.key = true) _ ?_ ?_ _ _ ⟨rfl, fun e he => (hka e (by simpa using he)).imp fun _ q => q.1⟩
    · rintro e rest b s' ⟨rfl, hl⟩
      obtain ⟨k, hk⟩ := hl e (by simp)
      have no := hv k e.key hk
      split
      · rename_i z
        exact (no _ z).elim
      · exact wpAny_pure ⟨rfl, fun x hx => hl x (by simp [hx])⟩
    · rintro b s' ⟨rfl, -⟩
      exact loop
  · exact loop
end
section
variable {X : Cx} {e k v : Expr} {pos : Pos} {te tk tv : TE}
theorem key_noref {P : Program} {w : World} (k : Key) (v : Value) (h : (mixKind P w).is k v = true) (b : Addr) : v ≠ .ref b := by
  rcases keyIs_shape (show keyIs k v = true from h) with ⟨i, t, rfl, rfl⟩ | ⟨x, t, rfl, rfl⟩ <;> intro z <;> cases z
/-- .. a new dict: what stands in the one at e, then one entry -/
def tDStar (te tk tv : TE) : TE := fun σ H Q => ∀ d, H d = none → te σ (upd H d (.dK [])) fun x H1 => ∃ a kvs, x = .ref a ∧ a ≠ d ∧ H1 d = some (.dK []) ∧ H1 a = some (.dK kvs) ∧ kvs.length < sizeLine ∧
  tk σ (upd H1 d (.dK kvs)) fun y H2 => tv σ H2 fun z H3 => ∃ c kvs3, y = kV c ∧ H3 d = some (.dK kvs3) ∧ kvs3.length < sizeLine ∧ Q (.ref d) (upd H3 d (.dK (putK kvs3 c z)))
theorem pe_dstar (he : PE X e te) (hk : PE X k tk) (hv : PE X v tv) : PE X (.Dict [none, some k] [e, v] pos) (tDStar te tk tv) := by
  refine ⟨fun pins s σ H Q I h => ?_⟩
  rw [arm_eval_Dict]
  refine wpAny_bind (wpAny_standAt ?_)
  show wpAny _ _ (dictDisplay [(none, (do let x ← eval e X.env; standAt pos; pure x)), (some (eval k X.env), (do let x ← eval v X.env; standAt pos; pure x))]) _ _ _
  unfold dictDisplay
  dsimp only
  rw [List.forIn_cons]
  refine wpAny_bind (wpAny_bind ?_)
  dsimp only
  rw [if_pos (by rfl)]
  refine wpAny_bind (wpAny_pure ?_)
  dsimp only
  refine wpAny_bind (wpAny_alloc ?_)
  refine wpAny_bind (wpAny_holding ?_)
  have dn : H s.heap.objs.size = none := I.hok.fresh (Nat.le_refl _)
  have I1 : L2.Inv X pins σ (upd H s.heap.objs.size (.dK [])) { s with heap := s.heap.push { cls := .type "dict", data := .dict #[] } } :=
    I.laid (a := s.heap.objs.size) (o := .dK []) (t' := s.toks) (fun _ _ q => Heap.get?_push_of_some _ q) (Nat.le_refl _) (dk_empty s.heap I.big)
  refine wpAny_bind (thn (he.run pins _ σ _ _ I1 (h _ dn)) fun u s2 ⟨x, H1, I2, rx, a, kvs, ex, had, hd, ha, hl, hq⟩ => wpAny_bind (wpAny_standAt (wpAny_pure ?_)))
  generalize s.heap.objs.size = d at *
  subst ex
  obtain rfl : u = Value.ref a := rx
  obtain ⟨-, hS, vs, rel, da⟩ := dk_of I2.hok ha
  obtain ⟨-, hSd, v0, rel0, dd⟩ := dk_of I2.hok hd
  cases rel0
  have lv : kvs.length = vs.length := rel.length
  refine wpAny_bind (wpAny_onRaise (wpAny_tryCatch (wpAny_onRaise (wpAny_holding (merge_map (knd := mixKind X.prog X.w) (Ne.symm had) hS dd da key_noref (by simp; omega) fun h1 dd1 sb1 => ?_)))))
  have I3 : L2.Inv X pins σ (upd H1 d (.dK kvs)) { s2 with heap := h1 } := by
    obtain ⟨o1, _, _, e1, _⟩ := id dd1
    have nd := da
    obtain ⟨_, _, _, _, _, _, _, _, nd⟩ := nd
    rw [merged_nil_of_nodup vs nd] at dd1
    exact I2.write (x := d) (e := d) (t' := s2.toks) (h' := h1) (by rw [hd]; trivial) (.inl rfl) (fun b u n q => (sb1.2 b n).trans q) ⟨_, e1⟩ (dk_new (by omega) hSd rel dd1)
  have dd3 : h1.DictOf (mixKind X.prog X.w) d vs := by
    obtain ⟨_, _, _, _, _, _, _, _, nd⟩ := id da
    rw [merged_nil_of_nodup vs nd] at dd1
    exact dd1
  refine wpAny_pure ?_
  dsimp only
  rw [List.forIn_cons]
  refine wpAny_bind ?_
  dsimp only
  rw [if_neg (by simp)]
  refine wpAny_pure ?_
  dsimp only
  rw [List.forIn_nil]
  refine wpAny_pure ?_
  dsimp only
  rw [if_neg (by simp)]
  refine wpAny_bind (wpAny_bind (wpAny_holding ?_))
  -- the dict of the entry alone
  have f0 : ∀ {H' : Hp}, H' h1.objs.size = none → FpOk X pins H' h1.objs.size := fun n => I3.fpOk (Nat.le_refl _) n
  have n3 : (upd H1 d (.dK kvs)) h1.objs.size = none := I3.hok.fresh (Nat.le_refl _)
  have I4 : L2.Inv X pins σ (upd H1 d (.dK kvs)) { s2 with heap := h1.push { cls := .type "dict", data := .dict #[] } } := I3.kept (t' := s2.toks) fun b o q => Heap.get?_push_of_some _ q
  have I5 := Inv.pinned (u := h1.objs.size) (o := { cls := .type "dict", data := .dict #[] }) I4 (Heap.get?_push_size _ rfl) n3 (f0 n3).2.1 (f0 n3).2.2.1 (fun v z => by cases z)
  refine wpAny_subDict (knd := mixKind X.prog X.w) (by simp) (evalPairs_cons (thn (hk.run _ _ σ _ _ I5 hq) fun uk s5 ⟨y, H2, I6, ry, q2⟩ => thn (wpAny_bind (thn (hv.run _ s5 σ H2 _ I6 q2) fun uv s6 ⟨z, H3, I7, rz, q3⟩ => wpAny_bind (wpAny_standAt (wpAny_pure (show (fun uv s6 => ∃ z H3, L2.Inv X ((h1.objs.size, { cls := .type "dict", data := .dict #[] }) :: pins) σ H3 s6 ∧ RelV z uv ∧ ∃ c kvs3, y = kV c ∧ H3 d = some (.dK kvs3) ∧ kvs3.length < sizeLine ∧ Q (.ref d) (upd H3 d (.dK (putK kvs3 c z)))) uv s6 from ⟨z, H3, I7, rz, q3⟩))))) fun uv s6 ⟨z, H3, I7, rz, c, kvs3, ey, hd3, hl3, q⟩ => evalPairs_nil ?_))
  subst ey
  obtain ⟨eo, nH, -⟩ := I7.pin (h1.objs.size, { cls := .type "dict", data := .dict #[] }) (List.mem_append_right _ List.mem_cons_self)
  refine ⟨[(c, uv)], ⟨kV_is ry, rfl, trivial⟩, ⟨_, #[], 0, eo, ⟨rfl, rfl, rfl⟩, rfl, fun _ he => by simp at he, Pairs.nil, List.nodup_nil⟩, fun h7 ds7 sb7 => ?_⟩
  have one : merged ([] : List (Key × Value)) [(c, uv)] = [(c, uv)] := rfl
  rw [one] at ds7
  refine wpAny_bind (wpAny_onRaise (wpAny_holding ?_))
  obtain ⟨g0, g1, g2, g3, g4, g5⟩ := f0 nH
  have I8 : L2.Inv X pins σ H3 { s6 with heap := h7, toks := s6.toks + 1 } := (Inv.unpin I7).turned (it := h1.objs.size) (t' := s6.toks + 1) (fun b o n e => (sb7.2 b n).trans e) g0 g1 g3 g4 g5
  obtain ⟨-, hSd8, vs8, rel8, dd8⟩ := dk_of I8.hok hd3
  have l8 : kvs3.length = vs8.length := rel8.length
  have dne : d ≠ h1.objs.size := fun z => by rw [z, nH] at hd3; cases hd3
  refine merge_map (knd := mixKind X.prog X.w) dne (beq_eq_false_iff_ne.mpr (Ne.symm (Nat.ne_of_lt I3.big))) dd8 ds7 key_noref (by simp; omega) fun h9 dd9 sb9 => ?_
  refine wpAny_pure ?_
  dsimp only
  refine wpAny_pure ⟨.ref d, _, ?_, rfl, q⟩
  have two : merged vs8 [(c, uv)] = stored vs8 c uv := rfl
  rw [two] at dd9
  obtain ⟨o9, _, _, e9, _⟩ := id dd9
  have := length_putK kvs3 c z
  exact I8.write (x := d) (e := d) (t' := s6.toks + 1) (h' := h9) (by rw [hd3]; trivial) (.inl rfl) (fun b u n e => (sb9.2 b n).trans e) ⟨_, e9⟩ (dk_new (by omega) hSd8 (rel8.put c rz) dd9)
end
/-- {**d, k: v}; the new dict has its number at once -/
def fdstar (fe fk fv : FF D) : FF D := fun env st => (fe env (st ++ [.dk []])).bind fun x st1 => match st1[st.length]?, x with
  | some (.dk []), .obj m => if m = st.length then .stuck else (match st1[m]? with
    | some (.dk kvs) => if kvs.length < 16777216 then (fk env (st1.set st.length (.dk kvs))).bind fun y st2 => (fv env st2).bind fun z st3 => match keyD y, st3[st.length]? with
      | some c, some (.dk kvs3) => if kvs3.length < 16777216 then .ok (.obj st.length) (st3.set st.length (.dk (putKD kvs3 c z))) else .stuck
      | _, _ => .stuck
      else .stuck
    | _ => .stuck)
  | _, _ => .stuck
theorem de_dstar {X : Cx} {W : WG} {e k v : Expr} {pos : Pos} {fe fk fv : FF D} (he : DE X W e fe) (hk : DE X W k fk) (hv : DE X W v fv) : DE X W (.Dict [none, some k] [e, v] pos) (fdstar fe fk fv) := by
  refine PE.imp (pe_dstar he hk hv) fun σ H Q h => ?_
  obtain ⟨ρ, env, st, g, o⟩ := h
  intro p np
  have e0 : Ext ρ H (ρ.add p) (upd H p (.dK [])) := Ext.newO g.st np
  have s0 : RelSt X.K (ρ.add p) (upd H p (.dK [])) (st ++ [.dk []]) := g.st.newO np ⟨[], upd_same, rfl, .nil⟩
  have hp0 : (ρ.add p).r[st.length]? = some p := g.st.last p
  refine ⟨ρ.add p, env, st ++ [.dk []], g.ext e0 s0, (OutR.bind (R := RelD X.K) (OutR.from_ e0 o)).mono ?_⟩
  rintro x H1 ⟨ρ1, d, st1, -, e1, s1, r1, o1⟩
  split at o1
  · rename_i m q1
    split at o1
    · exact o1.elim
    · rename_i hm
      split at o1
      · rename_i kvs q2
        split at o1
        · rename_i hl
          have hp1 : ρ1.r[st.length]? = some p := e1.pre _ _ hp0
          obtain ⟨vs, h1, h2, h3⟩ := s1.at_ _ _ _ hp1 q1
          obtain rfl : vs = [] := by simpa using h2
          cases r1 with
          | @obj _ a ha =>
            obtain ⟨vvs, k1, k2, k3⟩ := s1.at_ _ _ _ ha q2
            have hne : a ≠ p := fun z => hm (by
              subst z
              exact (List.getElem?_inj (List.getElem?_eq_some_iff.mp ha).1 s1.nd).mp (ha.trans hp1.symm))
            have len : vvs.length = kvs.length := by
              have := congrArg List.length k2
              simpa using this
            have em : Ext ρ1 H1 ρ1 (upd H1 p (.dK vvs)) := Ext.mut s1 hp1 (fun ob u z => by rw [h1] at z; cases z)
            have s2 := s1.set (o := .dK vvs) (d := .dk kvs) hp1 ⟨_, upd_same, k2, k3.ext em⟩
            refine ⟨a, vvs, rfl, hne, h1, k1, by rw [sizeLine_eq, len]; exact hl, ρ1, env, _, (g.ext (e0.trans e1) s1).ext em s2, (OutR.bind (R := RelD X.K) (OutR.from_ em o1)).mono ?_⟩
            rintro y H2 ⟨ρ2, dy, st2, -, e2, s3, r2, o2⟩
            refine ⟨ρ2, env, st2, ((g.ext (e0.trans e1) s1).ext em s2).ext e2 s3, (OutR.bind (R := RelD X.K) o2).mono ?_⟩
            rintro z H3 ⟨ρ3, dz, st3, -, e3, s4, r3, o3⟩
            split at o3
            · rename_i c kvs3 w1 w2
              split at o3
              · rename_i hl3
                have hp3 : ρ3.r[st.length]? = some p := e3.pre _ _ (e2.pre _ _ hp1)
                obtain ⟨us, u1, u2, u3⟩ := s4.at_ _ _ _ hp3 w2
                have len3 : us.length = kvs3.length := by
                  have := congrArg List.length u2
                  simpa using this
                have em3 : Ext ρ3 H3 ρ3 (upd H3 p (.dK (putK us c z))) := Ext.mut s4 hp3 (fun ob u z => by rw [u1] at z; cases z)
                have km : RelKV X.K ρ3 (upd H3 p (.dK (putK us c z))) (putKD kvs3 c dz) (putK us c z) := RelKV.put ⟨u2, u3.ext em3⟩ c (r3.ext em3)
                exact ⟨c, us, keyD_ok r2 w1, u1, by rw [sizeLine_eq, len3]; exact hl3, o3 ρ3 _ _ em3 (s4.set hp3 ⟨_, upd_same, km.1, km.2⟩) (.obj hp3)⟩
              · exact o3.elim
            · exact o3.elim
        · exact o1.elim
      · exact o1.elim
  · exact o1.elim
end DL
end
section
/-! EM2: dict comprehensions. -/
namespace DL
open PySem PySem.Spec PyProof.Rows L2
/-- the turns of a dict comprehension; nothing may be raised in it; n: the number of the new dict -/
def dcL (chk : Store → Bool) (c : CT) (tt : FF Bool) (tk tv : FF D) (env0 : Env') (n : Nat) : List D → Store → Option Store
  | [], st => if chk st then some st else none
  | x :: r, st => if chk st then (match bindT c x env0 with
    | some env1 => match tt env1 st with
      | .ok true st1 => match tk env1 st1 with
        | .ok y st2 => match tv env1 st2 with
          | .ok z st3 => match keyD y, st3[n]? with
            | some k, some (.dk kvs) => if kvs.length < 16777216 then dcL chk c tt tk tv env0 n r (st3.set n (.dk (putKD kvs k z))) else none
            | _, _ => none
          | _ => none
        | _ => none
      | .ok false st1 => dcL chk c tt tk tv env0 n r st1
      | _ => none
    | none => none) else none
def fdc (fi : FF Items) (c : CT) (tt : FF Bool) (tk tv : FF D) (vs : List Nat) : FF D := fun env st => (fi env st).bind fun it st1 => match dcL it.chk c tt tk tv (wipeE env vs) st1.length it.xs (st1 ++ [.dk []]) with
  | some st2 => .ok (.obj st1.length) st2
  | none => .stuck
theorem dcL_chk {chk : Store → Bool} {c : CT} {tt : FF Bool} {tk tv : FF D} {env0 : Env'} {n : Nat} {l : List D} {st r : Store} (h : dcL chk c tt tk tv env0 n l st = some r) : chk st = true := by
  cases l <;> (unfold dcL at h; split at h; assumption; cases h)
theorem tDc_of {K : PySem.W.Frag} {W : WG} {fi : FF Items} {c : CT} {tt : FF Bool} {tk tv : FF D} {vs : List Nat} {σ : L2.St} {H : Hp} {Q : VK} (hv : ∀ i ∈ c.vars, i ∈ vs) (h : lE K W (fdc fi c tt tk tv vs) σ H Q) :
    tDc (lI K W fi) (gCT K c) (lT K W.nf tt) (lE K W.nf tk) (lE K W.nf tv) vs σ H Q := by
  obtain ⟨ρ, env, st, g, o⟩ := h
  refine ⟨ρ, env, st, g, ?_⟩
  unfold fdc at o
  cases hf : fi env st with
  | exc x st1 => rw [hf] at o; exact o
  | stuck => rw [hf] at o; exact o.elim
  | ok it st1 =>
    rw [hf] at o
    intro ρ1 H1 J P e1 s1 hP hI hchk p np
    have g1 := g.ext e1 s1
    have e0 : Ext ρ1 H1 (ρ1.add p) (upd H1 p (.dK [])) := Ext.newO s1 np
    have s0 : RelSt K (ρ1.add p) (upd H1 p (.dK [])) (st1 ++ [.dk []]) := s1.newO np ⟨[], upd_same, rfl, .nil⟩
    have hp0 : (ρ1.add p).r[st1.length]? = some p := s1.last p
    have o1 : OutE K W ρ1 H1 σ (match dcL it.chk c tt tk tv (wipeE env vs) st1.length it.xs (st1 ++ [.dk []]) with
      | some st2 => .ok (.obj st1.length) st2
      | none => .stuck) Q := OutR.from_ e1 o
    refine ⟨fun i n H2 => ∃ ρ2 st2, n = it.xs.length - i ∧ i ≤ it.xs.length ∧ Ext ρ1 H1 ρ2 H2 ∧ RelSt K ρ2 H2 st2 ∧ ρ2.r[st1.length]? = some p ∧ P ρ2 H2 ∧ ∃ r, dcL it.chk c tt tk tv (wipeE env vs) st1.length (it.xs.drop i) st2 = some r ∧ OutE K W ρ1 H1 σ (.ok (.obj st1.length) r) Q, ?_, ?_⟩
    · cases hr : dcL it.chk c tt tk tv (wipeE env vs) st1.length it.xs (st1 ++ [.dk []]) with
      | none => rw [hr] at o1; exact o1.elim
      | some r => rw [hr] at o1; exact ⟨_, _, _, rfl, Nat.zero_le _, e0, s0, hp0, hI.stay _ _ _ _ e0.stayF hP, r, by simpa using hr, o1⟩
    · rintro i n H2 ⟨ρ2, st2, rfl, hle, e2, s2, hp2, hP2, r, hr, o2⟩
      have hc2 := dcL_chk hr
      by_cases hlt : i < it.xs.length
      · refine .inr ⟨hI.go ρ2 H2 st2 i s2 hc2 hP2 hlt, _, fun H' q => q, fun x H' y => ?_⟩
        obtain ⟨ρ3, e3, s3, r3⟩ := hI.yld ρ2 H2 st2 i _ x H' s2 hc2 hP2 (List.getElem?_eq_getElem hlt) y
        rw [List.drop_eq_getElem_cons hlt] at hr
        unfold dcL at hr
        rw [if_pos hc2] at hr
        split at hr
        · rename_i env1 hb
          refine ct_walk ((g1.env.ext (e2.trans e3)).wiped vs) r3 hb fun σ' re' hl' hk' => ⟨?_, ρ3, env1, st2, ⟨re', s3, (e2.trans e3).tt.trans g1.tt, .none rfl rfl⟩, ?_⟩
          · have : wipe σ' vs = wipe (wipe σ vs) vs := wipe_ext hl' fun j hj => hk' j fun z => hj (hv j z)
            rw [this]
            exact wipe_ext (wipe_length _ _) fun j hj => by rw [wipe_get, if_neg hj]
          · split at hr
            · rename_i st3 ht
              rw [ht]
              intro ρ4 H4 k e4 s4 r4
              cases r4
              rw [if_pos rfl]
              refine ⟨ρ4, env1, st3, ⟨re'.ext e4, s4, (e2.trans (e3.trans e4)).tt.trans g1.tt, .none rfl rfl⟩, ?_⟩
              split at hr
              · rename_i y' st4 hy
                rw [hy]
                intro ρ5 H5 v5 e5 s5 r5
                refine ⟨ρ5, env1, st4, ⟨re'.ext (e4.trans e5), s5, (e2.trans (e3.trans (e4.trans e5))).tt.trans g1.tt, .none rfl rfl⟩, ?_⟩
                split at hr
                · rename_i z st5 hz
                  rw [hz]
                  intro ρ6 H6 v6 e6 s6 r6
                  split at hr
                  · rename_i k' kvs w1 w2
                    split at hr
                    · rename_i hlen
                      have et := e3.trans (e4.trans (e5.trans e6))
                      have hp6 : ρ6.r[st1.length]? = some p := et.pre _ _ hp2
                      obtain ⟨us, u1, u2, u3⟩ := s6.at_ _ _ _ hp6 w2
                      have len : us.length = kvs.length := by
                        have := congrArg List.length u2
                        simpa using this
                      have em : Ext ρ6 H6 ρ6 (upd H6 p (.dK (putK us k' v6))) := Ext.mut s6 hp6 (fun ob u z => by rw [u1] at z; cases z)
                      have km : RelKV K ρ6 (upd H6 p (.dK (putK us k' v6))) (putKD kvs k' z) (putK us k' v6) := RelKV.put ⟨u2, u3.ext em⟩ k' (r6.ext em)
                      have s7 := s6.set (o := .dK (putK us k' v6)) (d := .dk (putKD kvs k' z)) hp6 ⟨_, upd_same, km.1, km.2⟩
                      exact ⟨us, k', keyD_ok r5 w1, u1, by rw [sizeLine_eq, len]; exact hlen, _, (by omega : it.xs.length - (i + 1) < it.xs.length - i), ρ6, _, rfl, hlt, e2.trans (et.trans em), s7, hp6, hI.stay _ _ _ _ (et.trans em).stayF hP2, r, hr, o2⟩
                    · cases hr
                  · cases hr
                · cases hr
              · cases hr
            · rename_i st3 ht
              rw [ht]
              intro ρ4 H4 k e4 s4 r4
              cases r4
              rw [if_neg Bool.false_ne_true]
              exact ⟨_, (by omega : it.xs.length - (i + 1) < it.xs.length - i), ρ4, st3, rfl, hlt, e2.trans (e3.trans e4), s4, (e3.trans e4).pre _ _ hp2, hI.stay _ _ _ _ (e3.trans e4).stayF hP2, r, hr, o2⟩
            · cases hr
        · cases hr
      · have hi' : i = it.xs.length := by omega
        subst hi'
        refine .inl ⟨hI.stop ρ2 H2 st2 _ s2 hc2 hP2 rfl, ?_⟩
        rw [List.drop_length] at hr
        unfold dcL at hr
        rw [if_pos hc2] at hr
        cases hr
        exact o2 ρ2 H2 _ e2 s2 (.obj hp2)
theorem de_dc {X : Cx} {W : WG} {pos : Pos} {tg iter kx vx : Expr} {fi : FF Items} {c : CT} {tt : FF Bool} {tk tv : FF D} {scope : Scope} {own : List (Str × Nat)} {ifs : List Expr} (hc : X.calm = true) (hN : X.N.Nodup) (hi : DI X W tg iter fi) (ok : BlkOk X.N X.env.scope scope own)
    (hg : ∀ (s : Shared) (H : Hp) (C : Addr) (cl : List (Str × Addr)) (fp : List Addr), PG (X.blk s H scope (compEnvC scope cl C X.env) fp) tg (gCT X.K c))
    (ht : ∀ (s : Shared) (H : Hp) (C : Addr) (cl : List (Str × Addr)) (fp : List Addr), PTs (X.blk s H scope (compEnvC scope cl C X.env) fp) ifs (lT X.K W.nf tt))
    (hk : ∀ (s : Shared) (H : Hp) (C : Addr) (cl : List (Str × Addr)) (fp : List Addr), DE (X.blk s H scope (compEnvC scope cl C X.env) fp) W.nf kx tk)
    (he : ∀ (s : Shared) (H : Hp) (C : Addr) (cl : List (Str × Addr)) (fp : List Addr), DE (X.blk s H scope (compEnvC scope cl C X.env) fp) W.nf vx tv) (hs : noSet iter = true) (hv : ∀ i ∈ c.vars, i ∈ own.map (·.2)) :
    DE X W (.DictComp kx vx [⟨tg, iter, ifs, 0⟩] scope pos) (fdc fi c tt tk tv (own.map (·.2))) :=
  PE.imp (pe_dc hc hN hi ok hg ht hk he fun x => folded_val hs) fun σ H Q h => tDc_of hv h
end DL
end
section
/-! EM3: for i, x in enumerate(t), t a tuple. -/
namespace DL
open PySem PySem.Spec PyProof.Rows L2
open Sem (wp)
set_option maxHeartbeats 1000000 in
theorem meets_enum1 {v : Value} {o : Obj} {Hh : Heap → Prop} (B : Begins v o Hh) :
    Meets (Builtin.«enumerate.__new__» ⟨[.type "enumerate", v], []⟩) (fun _ R s => Hh s.heap ∧
      R (.ok (.ret (.ref (s.heap.push o).objs.size))) { s with heap := (s.heap.push o).push { cls := .type "enumerate", data := .fields #[.none, .bool false, .ref s.heap.objs.size, rawInt 0, .none, .none] } }) := by
  refine .of_wp fun prog w A R s h => ?_
  obtain ⟨hp, g, d, tk, os⟩ := s
  obtain ⟨h1, h⟩ := h
  have hsub := sub_enumerate
  have it_ : ∀ {A' : Around} {E : Value → Shared → Prop} {Q : Value → Shared → Prop}, Q (.ref hp.objs.size) ⟨hp.push o, g, d, tk, os⟩ → wpAny (model prog w) A' (pyIter v) Q E ⟨hp, g, d, tk, os⟩ :=
    fun q => B.iter prog w _ _ ⟨hp, g, d, tk, os⟩ _ h1 q
  wp_walk using it_
  refine wpAny_stack_any fun st => wpAny_pure ?_
  split
  · rename_i c _ _ _ _ _
    cases (c == Value.type "enumerate") <;> (wp_walk using it_; exact ⟨_, rfl, h⟩)
  · wp_walk using it_
    exact ⟨_, rfl, h⟩
theorem call_enumT {prog : Program} {w : World} {A : Around} {E : Value → Shared → Prop} {s : Shared} {t : Addr} {items : Array Value} {Q : Value → Shared → Prop} (ht : s.heap.IsTuple t items)
    (h : ∀ h', IsEnum h' (s.heap.objs.size + 1) s.heap.objs.size 0 .none → h'.IsTupleIter s.heap.objs.size t 0 → (∀ b o, s.heap.get? b = some o → h'.get? b = some o) → Q (.ref (s.heap.objs.size + 1)) { s with heap := h' }) :
    wpAny (model prog w) A (call (.type "enumerate") [.ref t]) Q E s := by
  refine callType_new F.called_enumerate (by decide) (F.typeCall_enumerate_1 _) (F.newCall_enumerate_1 _) (fun obj => F.args_object_init_2 obj _) F.entry_enumerate_new (meets_enum1 (begins_tuple t items)) ⟨ht, ?_⟩
  show _ ∧ _
  have sz : (s.heap.push { cls := .type "tuple_iterator", data := .fields #[.ref t, .int 0 0] }).objs.size = s.heap.objs.size + 1 := Heap.size_push ..
  rw [sz]
  have he : IsEnum ((s.heap.push { cls := .type "tuple_iterator", data := .fields #[.ref t, .int 0 0] }).push { cls := .type "enumerate", data := .fields #[.none, .bool false, .ref s.heap.objs.size, rawInt 0, .none, .none] }) (s.heap.objs.size + 1) s.heap.objs.size 0 .none := by
    rw [← sz]
    exact Heap.get?_push_size _ rfl
  exact ⟨⟨_, he, rfl⟩, h _ he ⟨_, Heap.get?_push_of_some _ (Heap.get?_push_size _ rfl), rfl, rfl⟩ fun b o x => Heap.get?_push_of_some _ (Heap.get?_push_of_some _ x)⟩
/-- a tuple, counted -/
def IteT (K : PySem.W.Frag) (a : Addr) : It :=
  ⟨fun i H => ∃ (xs : List V) (x : V), SqT K H a xs ∧ xs[i]? = some x, fun i H v H' => ∃ T x, v = .ref T ∧ H T = none ∧ H' = upd H T (.tup [.int (i : Nat), x]) ∧ ∀ xs, SqT K H a xs → xs[i]? = some x, fun i H => ∃ xs : List V, SqT K H a xs ∧ xs.length = i⟩
theorem turn_enumT {P : Program} {w : World} {K : PySem.W.Frag} {elts : List Expr} {kk : Nat} {tpos : Pos} (a e it : Addr) (ha : a < it) (hie : it < e) :
    Turn P w K (.Tuple elts kk tpos) (IteT K a) [e, it] e (fun i h => (∃ old, IsEnum h e it ((i : Nat) : Int) old) ∧ h.IsTupleIter it a i) where
  mem := by simp
  obj := fun i h ⟨⟨old, he⟩, o, ho, hc, hd⟩ b hb => by
    rcases (by simpa using hb : b = e ∨ b = it) with rfl | rfl
    · exact ⟨_, he, fun v z => by cases z⟩
    · exact ⟨o, ho, fun v z => by rw [hd] at z; cases z⟩
  keep := fun i h h' ⟨⟨old, he⟩, hi⟩ k => ⟨⟨old, k e (by simp) _ he⟩, hi.at fun o q => k it (by simp) o q⟩
  item := by
    intro X hP hw hK hc i pins s σ H E I hf ⟨⟨old, he⟩, hit⟩ ⟨xs, x, hq, hx⟩
    subst hP hw hK
    have hne : e ≠ it := (Nat.ne_of_lt hie).symm
    obtain ⟨its, rv, p, hz⟩ := I.tuple hq
    obtain ⟨u, hu, ru⟩ := rv.get hx
    have hlt : i < its.toArray.size := by simpa using (List.getElem?_eq_some_iff.mp hu).1
    have lte : e < s.heap.objs.size := Heap.lt_size he
    refine wpAny_pyNext_enum_itemD (Draws.tuple (prog := X.prog) (w := X.w) (A := X.A.in1) (show X.A.in1.handled = none from I.ok.hd hc) it a (Nat.ne_of_lt ha) its.toArray) he ⟨hit, p⟩ hlt hne (fun z => by
      rcases (by simpa using z : e = it ∨ e = a) with z | z
      · exact hne z
      · exact Nat.ne_of_gt (Nat.lt_trans ha hie) z) fun y h' tk hy ho st' hT hsz hk => ?_
    have : y = u := by
      have : its.toArray[i]? = some u := by simpa using hu
      rw [this] at hy
      exact (Option.some.inj hy).symm
    subst this
    refine ⟨_, rfl, wpAny_letOwnedTupleGo_enum (s := { s with heap := h', toks := tk + 1 }) ho fun h2 he2 sb => ?_⟩
    have hT2 : h2.get? s.heap.objs.size = some { cls := .type "tuple", data := .seq #[.int i tk, y] } := (sb.2 _ (Nat.ne_of_gt lte)).trans hT
    have new : ObjOk X.prog X.w (upd H s.heap.objs.size (.tup [.int (i : Nat), x])) h2 s.heap.objs.size (.tup [.int (i : Nat), x]) :=
      ⟨by show 2 ≤ sizeLine; decide, [.int i tk, y], .cons ⟨_, rfl⟩ (.cons ru .nil), ⟨_, hT2, rfl, _, rfl⟩⟩
    have I1 : L2.Inv X pins σ (upd H s.heap.objs.size (.tup [.int (i : Nat), x])) { s with heap := h2, toks := tk + 1 } :=
      I.turnedNew (ch := [e, it]) (fun b ob hb q => by
        have n1 : b ≠ e := fun z => hb (by simp [z])
        have n2 : b ≠ it := fun z => hb (by simp [z])
        exact (sb.2 b n1).trans (hk b ob n1 n2 q)) hf (Nat.le_refl _) new
    refine ⟨.ref s.heap.objs.size, _, I1, rfl, ⟨_, x, rfl, I.hok.fresh (Nat.le_refl _), rfl, fun ys hy => by rw [I.tuple_inj hy hq]; exact hx⟩, ⟨⟨y, ?_⟩, st'.1.at fun o q => (sb.2 it (Ne.symm hne)).trans q⟩, fun b hb => ?_⟩
    · rw [show ((i + 1 : Nat) : Int) = (i : Int) + 1 by omega]
      exact he2
    · have lb : b < s.heap.objs.size := by
        rcases (by simpa using hb : b = e ∨ b = it) with rfl | rfl
        · exact lte
        · exact Nat.lt_trans hie lte
      rw [upd_ne (Nat.ne_of_lt lb)]
      exact (hf b hb).1
  done := by
    intro X hP hw hK hc i pins s σ H E I hf ⟨⟨old, he⟩, hit⟩ ⟨xs, hq, hx⟩
    subst hP hw hK
    obtain ⟨its, rv, p, hz⟩ := I.tuple hq
    obtain ⟨f0, f1, f2, f3, f4, f5⟩ := hf it (by simp)
    have hl : i = its.toArray.size := by have := rv.length; simp; omega
    subst hl
    exact wpAny_pyNext_enum_endD (Draws.tuple (prog := X.prog) (w := X.w) (A := X.A.in1) (show X.A.in1.handled = none from I.ok.hd hc) it a (Nat.ne_of_lt ha) its.toArray) he ⟨hit, p⟩ fun h' eb => ⟨rfl, I.turned (t' := s.toks) (fun b o hb q => eb b o hb q) f0 f1 f3 f4 f5⟩
  self := fun A i s Q E ⟨⟨_, he⟩, _⟩ h => wpAny_pyIter_enum he h
def iEnumT (K : PySem.W.Frag) (ta : TA) : TI := fun σ H R => ta σ H fun vs H1 => ∃ a xs, vs = [.ref a] ∧ SqT K H1 a xs ∧ R (IteT K a) H1
theorem pi_enumT {X : Cx} {e : Expr} {ta : TA} {p pos tpos : Pos} {elts : List Expr} {kk : Nat} (hg : Gl X "enumerate") (hm : X.mg "enumerate" = none) (ha : PA X [e] ta) (hs : starEach [e] X.env = [(false, eval e X.env)]) :
    PI X (.Tuple elts kk tpos) (.Call (.Name "enumerate" p) [e] [] pos) (iEnumT X.K ta) := by
  refine ⟨fun pins s σ H R I h => Call_ (ld_blt I hg hm boot_enumerate (PyProof.Rows.callWith_type1 (thn (ha.run pos pins s σ H _ I h) fun us s1 ⟨vs, H1, I1, r1, a, xs, ex, hq, q⟩ => ?_) hs rfl))⟩
  subst ex
  cases r1 with
  | cons r rr =>
    cases rr
    cases r
    obtain ⟨its, rv, p', hz⟩ := I1.tuple hq
    obtain ⟨oa, ea, _⟩ := id p'
    refine call_enumT p' fun h' he hit hk => wpAny_pyIter_enum he ?_
    have I2 : L2.Inv X pins σ H1 { s1 with heap := h' } := I1.kept (t' := s1.toks) hk
    refine ⟨s1.heap.objs.size + 1, [s1.heap.objs.size + 1, s1.heap.objs.size], _, _, H1, rfl, I2, turn_enumT a (s1.heap.objs.size + 1) s1.heap.objs.size (Heap.lt_size ea) (Nat.lt_succ_self _), ⟨⟨.none, he⟩, hit⟩, fun b hb => ?_, q⟩
    have hle : s1.heap.objs.size ≤ b := by
      rcases (by simpa using hb : b = s1.heap.objs.size + 1 ∨ b = s1.heap.objs.size) with rfl | rfl
      · exact Nat.le_succ _
      · exact Nat.le_refl _
    exact I1.fpOk hle (I1.hok.fresh hle)
end DL
end
section
/-! EM4: starred items; enumerate, zip, items; a dict locked. -/
namespace DL
open PySem PySem.Spec PyProof.Rows L2
section
variable {X : Cx} {W : WG} {a b e o : Expr} {es : List Expr} {fa fb : FF D} {fs : FF (List D)} {p pos : Pos} {tg : Expr}
/-! *x in a display -/
def fstar (f : FF D) (fs : FF (List D)) : FF (List D) := fun env st => (f env st).bind fun d st1 => match seqA st1 d with
  | some xs => (fs env st1).bind fun es st2 => .ok (xs ++ es) st2
  | none => .stuck
theorem da_star (ha : DE X W a fa) (h : DA X W es fs) : DA X W (.Starred a p :: es) (fstar fa fs) := by
  refine PA.imp (StX.pa_star ha h rfl) fun σ H Q h => ?_
  obtain ⟨ρ, env, st, gd, o⟩ := h
  refine ⟨ρ, env, st, gd, (OutR.bind (R := RelD X.K) o).mono ?_⟩
  rintro v H1 ⟨ρ1, d, st1, -, e1, s1, r1, o1⟩
  split at o1
  · rename_i xs hx
    obtain ⟨q, vs, rfl, h1, h2⟩ := seqA_ok s1 r1 hx
    refine ⟨q, vs, rfl, h1.symm, ρ1, env, st1, gd.ext e1 s1, (OutR.bind (R := RelDs X.K) o1).mono ?_⟩
    rintro us H2 ⟨ρ2, ds, st2, -, e2, s2, r2, o2⟩
    exact o2.now s2 ((h2.ext e2).append r2)
  · exact o1.elim
/-! enumerate -/
def cntF : Nat → List D → List D
  | _, [] => []
  | i, x :: r => .pr [.int i, x] :: cntF (i + 1) r
theorem cntF_len : ∀ (xs : List D) (k : Nat), (cntF k xs).length = xs.length
  | [], _ => rfl
  | _ :: r, k => by simp [cntF, cntF_len r]
theorem cntF_at : ∀ (xs : List D) (k i : Nat) (d : D), (cntF k xs)[i]? = some d → ∃ x, xs[i]? = some x ∧ d = .pr [.int ((k + i : Nat) : Int), x]
  | [], _, i, d, h => by simp [cntF] at h
  | x :: r, k, 0, d, h => by simp [cntF] at h; exact ⟨x, rfl, by simp [← h]⟩
  | x :: r, k, i + 1, d, h => by
    obtain ⟨y, h1, h2⟩ := cntF_at r (k + 1) i d (by simpa [cntF] using h)
    exact ⟨y, by simpa using h1, by rw [h2, show k + 1 + i = k + (i + 1) by omega]⟩
/-- a pair that the machine makes -/
theorem made_pr {K : PySem.W.Frag} {ρ : Pl} {H : Hp} {st : Store} {T : Addr} {ds : List D} {vs : List V} (rs : RelSt K ρ H st) (h : H T = none) (r : RelDs K ρ H ds vs) : ∃ ρ', Ext ρ H ρ' (upd H T (.tup vs)) ∧ RelSt K ρ' (upd H T (.tup vs)) st ∧ RelD K ρ' (upd H T (.tup vs)) (.pr ds) (.ref T) :=
  ⟨ρ, Ext.new rs h, rs.new h, new_pr rs h r⟩
theorem itd_enumT {K : PySem.W.Frag} {a : Addr} {xs : List D} : ItD K (IteT K a) (fun ρ H => RelD K ρ H (.tup xs) (.ref a)) ⟨cntF 0 xs, fun _ => true⟩ where
  stay := fun ρ H ρ' H' s r => r.stay s.toStay
  stop := fun ρ H st i rs hc r hi => by
    obtain ⟨q, vs, e, h1, h2⟩ := tup_ok r
    cases e
    exact ⟨vs, h1, by rw [hi, cntF_len, h2.length]⟩
  go := fun ρ H st i rs hc r hi => by
    obtain ⟨q, vs, e, h1, h2⟩ := tup_ok r
    cases e
    obtain ⟨v, h3, _⟩ := h2.get (List.getElem?_eq_getElem (by rw [cntF_len] at hi; exact hi))
    exact ⟨vs, v, h1, h3⟩
  yld := fun ρ H st i d x H' rs hc r hd y => by
    obtain ⟨q, vs, e, h1, h2⟩ := tup_ok r
    cases e
    obtain ⟨x0, hx, rfl⟩ := cntF_at _ _ _ _ hd
    obtain ⟨T, v, rfl, hT, rfl, hv⟩ := y
    obtain ⟨v', h3, h4⟩ := h2.get hx
    have := hv vs h1
    rw [h3] at this
    cases this
    rw [Nat.zero_add]
    exact made_pr rs hT (.cons (.int _) (.cons h4 .nil))
theorem itd_enumL {K : PySem.W.Frag} {a : Addr} {d0 : D} {xs : List D} {st0 : Store} (h0 : seqL st0 d0 = some xs) : ItD K (L2.Ite K a) (fun ρ H => RelD K ρ H d0 (.ref a)) ⟨cntF 0 xs, stands d0 xs⟩ where
  stay := fun ρ H ρ' H' s r => r.stay s.toStay
  stop := fun ρ H st i rs hc r hi => by
    obtain ⟨q, vs, e, h1, h2⟩ := seqL_ok rs r (seqL_later h0 hc)
    cases e
    exact ⟨vs, h1, by rw [hi, cntF_len, h2.length]; exact Nat.le_refl _⟩
  go := fun ρ H st i rs hc r hi => by
    obtain ⟨q, vs, e, h1, h2⟩ := seqL_ok rs r (seqL_later h0 hc)
    cases e
    obtain ⟨v, h3, _⟩ := h2.get (List.getElem?_eq_getElem (by rw [cntF_len] at hi; exact hi))
    exact ⟨vs, v, h1, h3⟩
  yld := fun ρ H st i d x H' rs hc r hd y => by
    obtain ⟨q, vs, e, h1, h2⟩ := seqL_ok rs r (seqL_later h0 hc)
    cases e
    obtain ⟨x0, hx, rfl⟩ := cntF_at _ _ _ _ hd
    obtain ⟨T, v, rfl, hT, rfl, hv⟩ := y
    obtain ⟨v', h3, h4⟩ := h2.get hx
    have := hv vs h1
    rw [h3] at this
    cases this
    rw [Nat.zero_add]
    exact made_pr rs hT (.cons (.int _) (.cons h4 .nil))
def fenum (f : FF D) : FF Items := fun env st => (f env st).bind fun d st1 => match d with
  | .tup xs => .ok ⟨cntF 0 xs, fun _ => true⟩ st1
  | d => match seqL st1 d with
    | some xs => .ok ⟨cntF 0 xs, stands d xs⟩ st1
    | none => .stuck
theorem PI.or_ {w w' : TI} (h : PI X tg e w) (h' : PI X tg e w') : PI X tg e (fun σ H R => w σ H R ∨ w' σ H R) := PI.or h h'
theorem di_enum {elts : List Expr} {kk : Nat} {tpos : Pos} (hg : Gl X "enumerate") (hm : X.mg "enumerate" = none) (ha : DE X W a fa) (hs : PySem.W.isStarred a = false) : DI X W (.Tuple elts kk tpos) (.Call (.Name "enumerate" p) [a] [] pos) (fenum fa) := by
  have st1 : starEach [a] X.env = [(false, eval a X.env)] := by rw [star_plain hs]; rfl
  refine PI.imp (PI.or (pi_enumT hg hm (da_cons ha da_nil hs) st1) (pi_enum hg hm (da_cons ha da_nil hs) st1)) fun σ H R q => ?_
  obtain ⟨ρ, env, st, gd, o⟩ := q
  unfold fenum at o
  cases hf : fa env st with
  | exc x st1 =>
    rw [hf] at o
    exact .inl ⟨ρ, env, st, gd, by unfold fcons; rw [hf]; exact o⟩
  | stuck => rw [hf] at o; exact o.elim
  | ok d st1 =>
    rw [hf] at o
    simp only [Res.bind] at o
    split at o
    · rename_i xs
      refine .inl ⟨ρ, env, st, gd, ?_⟩
      unfold fcons
      rw [hf]
      intro ρ1 H1 vs e1 s1 r1
      obtain ⟨v, rfl, r2⟩ := r1.one
      obtain ⟨q, ws, rfl, h1, h2⟩ := tup_ok r2
      exact ⟨q, ws, rfl, h1, o ρ1 H1 _ _ e1 s1 r2 itd_enumT rfl⟩
    · rename_i d' _
      split at o
      · rename_i xs hx
        refine .inr ⟨ρ, env, st, gd, ?_⟩
        unfold fcons
        rw [hf]
        intro ρ1 H1 vs e1 s1 r1
        obtain ⟨v, rfl, r2⟩ := r1.one
        obtain ⟨q, ws, rfl, h1, h2⟩ := seqL_ok s1 r2 hx
        exact ⟨q, ws, rfl, h1, o ρ1 H1 _ _ e1 s1 r2 (itd_enumL hx) (stands_now hx)⟩
      · exact o.elim
/-! zip -/
def zipF : List D → List D → List D
  | x :: r, y :: s => .pr [x, y] :: zipF r s
  | _, _ => []
theorem zipF_len : ∀ (xs ys : List D), (zipF xs ys).length = min xs.length ys.length
  | [], ys => by simp [zipF]
  | x :: r, [] => by simp [zipF]
  | x :: r, y :: s => by simp only [zipF, List.length_cons, zipF_len r s]; omega
theorem zipF_at : ∀ (xs ys : List D) (i : Nat) (d : D), (zipF xs ys)[i]? = some d → ∃ x y, xs[i]? = some x ∧ ys[i]? = some y ∧ d = .pr [x, y]
  | [], ys, i, d, h => by simp [zipF] at h
  | x :: r, [], i, d, h => by simp [zipF] at h
  | x :: r, y :: s, 0, d, h => by simp [zipF] at h; exact ⟨x, y, rfl, rfl, h.symm⟩
  | x :: r, y :: s, i + 1, d, h => by
    obtain ⟨u, v, h1, h2, h3⟩ := zipF_at r s i d (by simpa [zipF] using h)
    exact ⟨u, v, by simpa using h1, by simpa using h2, h3⟩
theorem itd_zipT {K : PySem.W.Frag} {a b : Addr} {xs ys : List D} : ItD K (RZ.ItzT K a b) (fun ρ H => RelD K ρ H (.tup xs) (.ref a) ∧ RelD K ρ H (.tup ys) (.ref b)) ⟨zipF xs ys, fun _ => true⟩ where
  stay := fun ρ H ρ' H' s r => ⟨r.1.stay s.toStay, r.2.stay s.toStay⟩
  stop := fun ρ H st i rs hc ⟨r, r'⟩ hi => by
    obtain ⟨q, vs, e, h1, h2⟩ := tup_ok r
    cases e
    obtain ⟨q, us, e, h3, h4⟩ := tup_ok r'
    cases e
    have l1 := h2.length
    have l2 := h4.length
    have l3 := zipF_len xs ys
    refine ⟨vs, us, h1, h3, ?_⟩
    simp only at hi
    omega
  go := fun ρ H st i rs hc ⟨r, r'⟩ hi => by
    obtain ⟨q, vs, e, h1, h2⟩ := tup_ok r
    cases e
    obtain ⟨q, us, e, h3, h4⟩ := tup_ok r'
    cases e
    have l3 := zipF_len xs ys
    simp only at hi
    obtain ⟨v, h5, _⟩ := h2.get (List.getElem?_eq_getElem (show i < xs.length by omega))
    obtain ⟨u, h6, _⟩ := h4.get (List.getElem?_eq_getElem (show i < ys.length by omega))
    exact ⟨vs, us, v, u, h1, h3, h5, h6⟩
  yld := fun ρ H st i d x H' rs hc ⟨r, r'⟩ hd y => by
    obtain ⟨q, vs, e, h1, h2⟩ := tup_ok r
    cases e
    obtain ⟨q, us, e, h3, h4⟩ := tup_ok r'
    cases e
    obtain ⟨x0, y0, hx, hy, rfl⟩ := zipF_at _ _ _ _ hd
    obtain ⟨T, v, u, rfl, hT, rfl, hv, hu⟩ := y
    obtain ⟨v', k1, k2⟩ := h2.get hx
    obtain ⟨u', k3, k4⟩ := h4.get hy
    have z1 := hv vs h1
    have z2 := hu us h3
    rw [k1] at z1; cases z1
    rw [k3] at z2; cases z2
    exact made_pr rs hT (.cons k2 (.cons k4 .nil))
theorem itd_zipL {K : PySem.W.Frag} {a b : Addr} {d0 d1 : D} {xs ys : List D} {st0 : Store} (h0 : seqL st0 d0 = some xs) (h0' : seqL st0 d1 = some ys) : ItD K (L2.Itz K a b) (fun ρ H => RelD K ρ H d0 (.ref a) ∧ RelD K ρ H d1 (.ref b)) ⟨zipF xs ys, fun st => stands d0 xs st && stands d1 ys st⟩ where
  stay := fun ρ H ρ' H' s r => ⟨r.1.stay s.toStay, r.2.stay s.toStay⟩
  stop := fun ρ H st i rs hc ⟨r, r'⟩ hi => by
    simp only [Bool.and_eq_true] at hc
    obtain ⟨q, vs, e, h1, h2⟩ := seqL_ok rs r (seqL_later h0 hc.1)
    cases e
    obtain ⟨q, us, e, h3, h4⟩ := seqL_ok rs r' (seqL_later h0' hc.2)
    cases e
    have l1 := h2.length
    have l2 := h4.length
    have l3 := zipF_len xs ys
    refine ⟨vs, us, h1, h3, ?_⟩
    simp only at hi
    omega
  go := fun ρ H st i rs hc ⟨r, r'⟩ hi => by
    simp only [Bool.and_eq_true] at hc
    obtain ⟨q, vs, e, h1, h2⟩ := seqL_ok rs r (seqL_later h0 hc.1)
    cases e
    obtain ⟨q, us, e, h3, h4⟩ := seqL_ok rs r' (seqL_later h0' hc.2)
    cases e
    have l3 := zipF_len xs ys
    simp only at hi
    obtain ⟨v, h5, _⟩ := h2.get (List.getElem?_eq_getElem (show i < xs.length by omega))
    obtain ⟨u, h6, _⟩ := h4.get (List.getElem?_eq_getElem (show i < ys.length by omega))
    exact ⟨vs, us, v, u, h1, h3, h5, h6⟩
  yld := fun ρ H st i d x H' rs hc ⟨r, r'⟩ hd y => by
    simp only [Bool.and_eq_true] at hc
    obtain ⟨q, vs, e, h1, h2⟩ := seqL_ok rs r (seqL_later h0 hc.1)
    cases e
    obtain ⟨q, us, e, h3, h4⟩ := seqL_ok rs r' (seqL_later h0' hc.2)
    cases e
    obtain ⟨x0, y0, hx, hy, rfl⟩ := zipF_at _ _ _ _ hd
    obtain ⟨T, v, u, rfl, hT, rfl, hv, hu⟩ := y
    obtain ⟨v', k1, k2⟩ := h2.get hx
    obtain ⟨u', k3, k4⟩ := h4.get hy
    have z1 := hv vs h1
    have z2 := hu us h3
    rw [k1] at z1; cases z1
    rw [k3] at z2; cases z2
    exact made_pr rs hT (.cons k2 (.cons k4 .nil))
def fzip (fs : FF (List D)) : FF Items := fun env st => (fs env st).bind fun ds st1 => match ds with
  | [.tup xs, .tup ys] => .ok ⟨zipF xs ys, fun _ => true⟩ st1
  | [x, y] => match seqL st1 x, seqL st1 y with
    | some xs, some ys => .ok ⟨zipF xs ys, fun st => stands x xs st && stands y ys st⟩ st1
    | _, _ => .stuck
  | _ => .stuck
theorem di_zip {elts : List Expr} {kk : Nat} {tpos : Pos} (hg : Gl X "zip") (hm : X.mg "zip" = none) (ha : DA X W [a, b] fs) (hs : PySem.W.isStarred a = false) (hs2 : PySem.W.isStarred b = false) : DI X W (.Tuple elts kk tpos) (.Call (.Name "zip" p) [a, b] [] pos) (fzip fs) := by
  refine PI.imp (RZ.pi_zipA hg hm ha (star_plain hs) (by rw [star_plain hs2]; rfl)) fun σ H R q => ?_
  obtain ⟨ρ, env, st, gd, o⟩ := q
  refine ⟨ρ, env, st, gd, ?_⟩
  unfold fzip at o
  cases hf : fs env st with
  | exc x st1 => rw [hf] at o; exact o
  | stuck => rw [hf] at o; exact o.elim
  | ok ds st1 =>
    rw [hf] at o
    simp only [Res.bind] at o
    intro ρ1 H1 vs e1 s1 r1
    split at o
    · rename_i xs ys
      obtain ⟨v, u, rfl, r2, r3⟩ := r1.two
      obtain ⟨q, ws, rfl, h1, h2⟩ := tup_ok r2
      obtain ⟨q', us, rfl, h3, h4⟩ := tup_ok r3
      exact ⟨q, q', ws, us, rfl, .inr ⟨h1, h3, o ρ1 H1 _ _ e1 s1 ⟨r2, r3⟩ itd_zipT rfl⟩⟩
    · rename_i x y _
      split at o
      · rename_i xs ys hx hy
        obtain ⟨v, u, rfl, r2, r3⟩ := r1.two
        obtain ⟨q, ws, rfl, h1, h2⟩ := seqL_ok s1 r2 hx
        obtain ⟨q', us, rfl, h3, h4⟩ := seqL_ok s1 r3 hy
        exact ⟨q, q', ws, us, rfl, .inl ⟨h1, h3, o ρ1 H1 _ _ e1 s1 ⟨r2, r3⟩ (itd_zipL hx hy) (by rw [Bool.and_eq_true]; exact ⟨stands_now hx, stands_now hy⟩)⟩⟩
      · exact o.elim
    · exact o.elim
/-! d.items(), d locked -/
def kD : Key → D
  | .inl i => .int i
  | .inr x => .str x
theorem kD_rel {K : PySem.W.Frag} {ρ : Pl} {H : Hp} (k : Key) : RelD K ρ H (kD k) (kV k) := by
  cases k with
  | inl i => exact .int i
  | inr x => exact .str x
theorem RelKV.len {K : PySem.W.Frag} {ρ : Pl} {H : Hp} {kvs : List (Key × D)} {vvs : List (Key × V)} (r : RelKV K ρ H kvs vvs) : vvs.length = kvs.length := by
  have := congrArg List.length r.1
  simpa using this
theorem RelKV.at_ {K : PySem.W.Frag} {ρ : Pl} {H : Hp} {kvs : List (Key × D)} {vvs : List (Key × V)} {i : Nat} {k : Key} {v : V} (r : RelKV K ρ H kvs vvs) (h : vvs[i]? = some (k, v)) : ∃ d, kvs[i]? = some (k, d) ∧ RelD K ρ H d v := by
  have hl : i < kvs.length := by rw [← r.len]; exact (List.getElem?_eq_some_iff.mp h).1
  have h1 : (kvs.map (·.1))[i]? = some k := by rw [← r.1, List.getElem?_map, h]; rfl
  rw [List.getElem?_map, List.getElem?_eq_getElem hl] at h1
  obtain ⟨v', h2, h3⟩ := r.2.get (i := i) (d := kvs[i].2) (by rw [List.getElem?_map, List.getElem?_eq_getElem hl]; rfl)
  rw [List.getElem?_map, h] at h2
  cases h2
  refine ⟨kvs[i].2, ?_, h3⟩
  rw [List.getElem?_eq_getElem hl]
  have h4 : kvs[i].1 = k := by simpa using h1
  rw [← h4]
theorem itd_items {K : PySem.W.Frag} {a : Addr} {ob : Obj} {kvs : List (Key × D)} {vvs : List (Key × V)} : ItD K (L2.Iti a ob vvs) (fun ρ H => H a = some (.frz ob (.dK vvs)) ∧ RelKV K ρ H kvs vvs) ⟨kvs.map fun kv => .pr [kD kv.1, kv.2], fun _ => true⟩ where
  stay := fun ρ H ρ' H' s r => ⟨s.fz _ _ _ r.1, r.2.1, r.2.2.stay s.toStay⟩
  stop := fun ρ H st i rs hc r hi => ⟨r.1, by rw [hi, r.2.len]; simp⟩
  go := fun ρ H st i rs hc r hi => ⟨r.1, by rw [r.2.len]; simpa using hi⟩
  yld := fun ρ H st i d x H' rs hc r hd y => by
    obtain ⟨T, k, v, hv, rfl, hT, rfl⟩ := y
    obtain ⟨d', h1, h2⟩ := r.2.at_ hv
    rw [List.getElem?_map, h1] at hd
    cases hd
    exact made_pr rs hT (.cons (kD_rel k) (.cons h2 .nil))
def fitemsI (f : FF D) : FF Items := fun env st => (f env st).bind fun d st1 => match d with
  | .obj n => match st1[n]? with
    | some (.dF kvs) => .ok ⟨kvs.map fun kv => .pr [kD kv.1, kv.2], fun _ => true⟩ st1
    | _ => .stuck
  | _ => .stuck
theorem di_items {elts : List Expr} {kk : Nat} {tpos apos cpos : Pos} (ha : DE X W o fa) (hsup : superish o = false) (hline : (apos.endLine == cpos.line) = true) : DI X W (.Tuple elts kk tpos) (.Call (.Attribute o "items" apos) [] [] cpos) (fitemsI fa) := by
  refine PI.imp (L2.pi_items ha (base_plain hsup) hline) fun σ H R q => ?_
  obtain ⟨ρ, env, st, gd, o⟩ := q
  refine ⟨ρ, env, st, gd, (?_ : OutE _ _ _ _ _ _ _)⟩
  unfold fitemsI at o
  cases hf : fa env st with
  | exc x st1 => rw [hf] at o; exact o
  | stuck => rw [hf] at o; exact o.elim
  | ok d st1 =>
    rw [hf] at o
    simp only [Res.bind] at o
    intro ρ1 H1 v e1 s1 r1
    split at o
    · rename_i n
      split at o
      · rename_i kvs hn
        cases r1 with
        | @obj _ q hq =>
          obtain ⟨ob, vvs, k1, k2, k3⟩ := s1.at_ _ _ _ hq hn
          exact ⟨q, ob, vvs, rfl, k1, o ρ1 H1 _ _ e1 s1 ⟨k1, k2, k3⟩ itd_items rfl⟩
      · exact o.elim
    · exact o.elim
/-- while f is reckoned the dict that fe names is locked -/
def flock (fe f : FF D) : FF D := fun env st => match fe env st with
  | .ok (.obj n) _ => match st[n]? with
    | some (.dk kvs) => match f env (st.set n (.dF kvs)) with
      | .ok d st2 => match st2[n]? with
        | some (.dF _) => .ok d (st2.set n (.dk kvs))
        | _ => .stuck
      | _ => .stuck
    | _ => .stuck
  | _ => .stuck
theorem de_lock {e : Expr} {f : FF D} (fe : FF D) (h : DE X W e f) : DE X W e (flock fe f) := by
  refine PE.imp (pe_lock h) fun σ H Q q => ?_
  obtain ⟨ρ, env, st, gd, o⟩ := q
  unfold flock at o
  split at o
  · rename_i n st0 hn
    split at o
    · rename_i kvs hk
      split at o
      · rename_i d st2 hf
        split at o
        · rename_i kvs2 hk2
          have hl : n < ρ.r.length := by rw [gd.st.len]; exact (List.getElem?_eq_some_iff.mp hk).1
          have hp : ρ.r[n]? = some ρ.r[n] := List.getElem?_eq_getElem hl
          generalize ρ.r[n] = p at hp
          obtain ⟨vvs, k1, k2, k3⟩ := gd.st.at_ _ _ _ hp hk
          refine ⟨p, .dK vvs, k1, trivial, fun od => ?_⟩
          have m0 : Stay ρ H ρ (upd H p (.frz od (.dK vvs))) := Stay.mut hp
          have e0 : Ext ρ H ρ (upd H p (.frz od (.dK vvs))) := Ext.mut gd.st hp (fun ob u z => by rw [k1] at z; cases z)
          have s0 := gd.st.set (o := .frz od (.dK vvs)) (d := .dF kvs) hp ⟨_, _, upd_same, k2, k3.stay m0⟩
          refine ⟨ρ, env, st.set n (.dF kvs), gd.ext e0 s0, ?_⟩
          rw [hf]
          intro ρ2 H2 v e2 s2 r2
          have hp2 : ρ2.r[n]? = some p := e2.pre _ _ hp
          have fz2 : H2 p = some (.frz od (.dK vvs)) := e2.fz _ _ _ upd_same
          refine ⟨fz2, ?_⟩
          have m2 : Stay ρ2 H2 ρ2 (upd H2 p (.dK vvs)) := Stay.mut hp2
          have inr : p ∈ ρ.r := List.mem_of_getElem? hp
          have ex : Ext ρ H ρ2 (upd H2 p (.dK vvs)) := {
            pre := e2.pre
            keep := fun a w ha ht hoff => by
              have na : a ≠ p := fun z => hoff.1 (by rw [z]; exact inr)
              have := e2.keep a w (by rw [upd_ne na]; exact ha) ht hoff
              exact ⟨by rw [upd_ne na]; exact this.1, this.2⟩
            hh := e2.hh
            hid := fun a ha => by
              have na : a ≠ p := fun z => gd.st.dis p inr (by rw [← z]; exact ha)
              rw [upd_ne na, e2.hid a ha, upd_ne na]
            tt := e2.tt
            fz := fun a ob u ha => by
              have na : a ≠ p := fun z => by rw [z, k1] at ha; cases ha
              rw [upd_ne na]
              exact e2.fz _ _ _ (by rw [upd_ne na]; exact ha) }
          exact o ρ2 _ v ex (s2.set hp2 ⟨vvs, upd_same, k2, ((k3.stay m0).ext e2).stay m2⟩) (r2.stay m2)
        · exact o.elim
      · exact o.elim
    · exact o.elim
  · exact o.elim
end
end DL
end
section
/-! EM5: dict(t), t a tuple of pairs. -/
namespace DL
open PySem PySem.Spec PyProof.Rows L2
section
variable {X : Cx}
/-- a tuple without names of its own -/
def PlK (K : PySem.W.Frag) (H : Hp) (a : Addr) (vs : List V) : Prop := PlT H a vs ∨ (SqT K (fun _ => none) a vs ∧ ∀ o, K.lookup a = some o → o.dict = none)
theorem plain_seq {pins : List (Addr × Obj)} {σ : L2.St} {H : Hp} {s : Shared} {a : Addr} {vs : List V} (I : L2.Inv X pins σ H s) (h : PlK X.K H a vs) : ∃ its : List Value, Vals vs its ∧ PlainSeq "tuple" s.heap a its.toArray ∧ vs.length ≤ sizeLine := by
  rcases h with ⟨ob, h, hd⟩ | ⟨h, hd⟩
  · obtain ⟨e, hz, its, r, o, ho, hc, n, hs⟩ := (show _ ∧ _ from I.hok a _ h)
    rw [e] at ho
    cases ho
    exact ⟨its, r, ⟨ob, n, e, hc, hd, hs⟩, hz⟩
  · have hs : SqT X.K H a vs := by
      rcases h with h | h
      · rcases h with h | ⟨o, h⟩ <;> cases h
      · exact .inr h
    obtain ⟨its, r, ⟨o, ho, hc, n, hq⟩, hz⟩ := I.tuple hs
    refine ⟨its, r, ⟨o, n, ho, hc, ?_, hq⟩, hz⟩
    rcases h with h | ⟨o', _, _, h1, _⟩
    · rcases h with h | ⟨o, h⟩ <;> cases h
    · have := I.kIn a o' h1
      rw [this] at ho
      cases ho
      exact hd _ h1
theorem chosen {α β : Type} : ∀ {P : Nat → α → β → Prop} (l : List α), (∀ j x, l[j]? = some x → ∃ y, P j x y) → ∃ r : List β, r.length = l.length ∧ ∀ j y, r[j]? = some y → ∃ x, l[j]? = some x ∧ P j x y
  | _, [], _ => ⟨[], rfl, fun j y e => by simp at e⟩
  | P, x :: l, h => by
    obtain ⟨y, hy⟩ := h 0 x rfl
    obtain ⟨r, h1, h2⟩ := chosen (P := fun j => P (j + 1)) l (fun j z e => h (j + 1) z (by simpa using e))
    refine ⟨y :: r, by simp [h1], fun j z e => ?_⟩
    cases j with
    | zero => cases (show some y = some z from e); exact ⟨x, rfl, hy⟩
    | succ j =>
      obtain ⟨w, h3, h4⟩ := h2 j z (by simpa using e)
      exact ⟨w, by simpa using h3, h4⟩
theorem call_dictT (hcalm : X.calm = true) : CallR X (.type "dict") (fun xs H Q => ∃ (a : Addr) (ps : List Addr) (kvs : List (Key × V)), xs = [.ref a] ∧ PlK X.K H a (ps.map V.ref) ∧ Paired (fun p kv => SqT X.K H p [kV kv.1, kv.2]) ps kvs ∧ ∀ p, H p = none → Q (.ref p) (upd H p (.dK (mergeK [] kvs)))) := by
  intro pins s σ H xs us Q I r q
  obtain ⟨a, ps, kvs, rfl, ha, hp, q⟩ := q
  obtain ⟨u, rfl, ru⟩ := vals1 r
  cases ru
  obtain ⟨its, rv, pl, hz⟩ := plain_seq I ha
  obtain rfl := refs_at rv
  obtain ⟨prs, rel, hl, hpr⟩ := pairs_of I hp
  rw [List.length_map] at hz
  obtain ⟨raw, rl, rawAt⟩ := chosen (P := fun j (q : Key × Value) (y : Value × Value) => y.2 = q.2 ∧ ∃ b, ps[j]? = some b ∧ IsTup s.heap b #[y.1, q.2] ∧ keyIs q.1 y.1 = true) prs (fun j q e => by
    obtain ⟨b, u, e1, e2, e3⟩ := hpr j q e
    exact ⟨(u, q.2), rfl, b, e1, e2, e3⟩)
  rw [hl] at rl
  refine PySem.call_dict_pairs (knd := mixKind X.prog X.w) (kvs := prs) (PairArg.tuple a (ps.map Value.ref).toArray (fun j => (ps[j]?).getD 0) raw) (I.ok.hd hcalm) ⟨pl, by rw [rl]; simp, fun j k v e => ?_⟩ ⟨by rw [hl, rl], fun i key v e => ?_⟩ (by rw [rl]; exact hz) fun h' tk hd' k => ?_
  · obtain ⟨q', e1, e2, b, e3, e4, e5⟩ := rawAt j _ e
    cases e2
    exact ⟨by simp [e3], .inl (by show s.heap.IsTuple ((ps[j]?).getD 0) _; rw [e3]; exact e4)⟩
  · obtain ⟨q', e1, e2, b, e3, e4, e5⟩ := rawAt i _ e
    cases e2
    exact ⟨q'.1, e1, e5⟩
  · have hm : (s.heap.objs.size == sysModules) = false := beq_eq_false_iff_ne.mpr (Nat.ne_of_gt I.big)
    have hlen : (mergeK [] kvs).length ≤ sizeLine := by
      have := length_mergeK kvs ([] : List (Key × V))
      have := rel.length
      simp only [List.length_nil] at *
      omega
    exact ⟨.ref s.heap.objs.size, _, I.laid (t' := tk) (o := .dK (mergeK [] kvs)) (fun b o e => k b o (by simp) e) (Nat.le_refl _) ⟨hlen, hm, merged [] prs, KV.merge rel .nil, hd'⟩, rfl, q _ (I.hok.fresh (Nat.le_refl _))⟩
theorem tup_plain {K : PySem.W.Frag} {ρ : Pl} {H : Hp} {v : V} {xs : List D} (r : RelD K ρ H (.tup xs) v) : ∃ a vs, v = .ref a ∧ PlK K H a vs ∧ RelDs K ρ H xs vs := by
  cases r with
  | tup h n t => exact ⟨_, _, rfl, .inl h, t⟩
  | tupK h d t => exact ⟨_, _, rfl, .inr ⟨h, d⟩, t⟩
/-- dict(x): a list or a tuple of pairs -/
def dictD3 (ds : List D) (st : Store) : Option (D × Store) := match ds with
  | [.tup xs] => match pairsD xs with
    | some kvs => some (.obj st.length, st ++ [.dk (mergeD [] kvs)])
    | none => none
  | _ => none
def dictD2 (ds : List D) (st : Store) : Option (D × Store) := match ds with
  | [.tup _] => dictD3 ds st
  | _ => dictD ds st
theorem cd_dictT (hc : X.calm = true) : CallD X (.type "dict") dictD3 := CallD.by (call_dictT hc) fun ρ H st ds vs Q d st' rs rd e q => by
  unfold dictD3 at e
  split at e
  · rename_i xs
    split at e
    · rename_i kvs hk
      cases e
      obtain ⟨v, rfl, r1⟩ := rd.one
      obtain ⟨a, us, rfl, h3, h4⟩ := tup_plain r1
      obtain ⟨ps, vvs, rfl, h6, h7⟩ := pairsD_ok h4 hk
      refine ⟨a, ps, vvs, rfl, h3, h6, fun p np => ?_⟩
      have em : Ext ρ H (ρ.add p) (upd H p (.dK (mergeK [] vvs))) := Ext.newO rs np
      have km : RelKV X.K (ρ.add p) (upd H p (.dK (mergeK [] vvs))) (mergeD [] kvs) (mergeK [] vvs) := RelKV.merge (h7.ext em) .nil
      exact q _ _ _ em (rs.newO np ⟨_, upd_same, km.1, km.2⟩) (.obj (rs.last _))
    · cases e
  · cases e
theorem cd_dict2 (hc : X.calm = true) : CallD X (.type "dict") dictD2 := CallD.or (cd_dict hc) (cd_dictT hc) fun ds st => by
  unfold dictD2
  split
  · exact .inr (.inr rfl)
  · exact .inr (.inl rfl)
end
end DL
end
section
/-! EG1: next((b for a, b in t if a == y), z): t a tuple of pairs of ints. -/
namespace GnX
open PySem PySem.Spec PyProof.Rows L2 GxR
/-- a tuple of pairs, walked -/
theorem walksU_pairs {prog : Program} {w : World} {A : Around} (hh : A.handled = none) (I ax : Addr) (hne : ax ≠ I) (items : Array Value) (Ts : Nat → Addr) (vals : Nat → Array Value)
    (hit : ∀ j, j < items.size → items[j]? = some (.ref (Ts j))) (hTI : ∀ j, j < items.size → Ts j ≠ I) :
    WalksU prog w A I (I :: ax :: (List.range items.size).map Ts) [I] items.size (fun j v => v = vals j)
      (fun j h => h.IsTupleIter I ax j ∧ h.IsTuple ax items ∧ ∀ k, k < items.size → h.IsTuple (Ts k) (vals k))
      (fun j T h => (j < items.size ∧ T = Ts j) ∧ h.IsTupleIter I ax (j + 1) ∧ h.IsTuple ax items ∧ ∀ k, k < items.size → h.IsTuple (Ts k) (vals k)) where
  sub := fun b hb => by simp at hb; simp [hb]
  frame := fun _ _ _ st hk => ⟨st.1.at fun o e => hk I (by simp) o e, st.2.1.at fun o e => hk ax (by simp) o e,
    fun k hk' => (st.2.2 k hk').at fun o e => hk (Ts k) (List.mem_cons_of_mem _ (List.mem_cons_of_mem _ (List.mem_map.mpr ⟨k, List.mem_range.mpr hk', rfl⟩))) o e⟩
  item := fun i s Q E hi st hQ => by
    refine wpAny_pyNext_tuple_item st.1 st.2.1 (x := .ref (Ts i)) (hit i hi) fun h' hit' hs' => ?_
    have tup : ∀ k, k < items.size → h'.IsTuple (Ts k) (vals k) := fun k hk' => (st.2.2 k hk').extBut hs'.extBut (hTI k hk')
    exact hQ (Ts i) (vals i) h' s.toks rfl (tup i hi) ⟨⟨hi, rfl⟩, hit', st.2.1.extBut hs'.extBut hne, tup⟩ fun b o hb e => hs'.extBut b o (fun h => hb (by simp [h])) e
  go := fun _ _ _ _ _ s Q _ hm hQ => letGo_tupleiter hm.2.1 (hQ s.heap hm.2 fun _ _ _ e => e)
  apart := fun j T _ hm hmem => by
    rcases List.mem_cons.mp hmem with e | e
    · exact hTI j hm.1.1 (hm.1.2 ▸ e)
    · cases e
  done := fun s Q E st hQ => wpAny_pyNext_tuple_end hh st.1 st.2.1 (by simp) fun h' he' => hQ h' s.toks fun b o hb e => he' b o (fun h => hb (by simp [h])) e
  self := fun _ _ _ _ st hQ => wpAny_pyIter_tupleiter st.1 hQ
section
variable {prog : Program} {w : World} {A : Around} {E : Value → Shared → Prop} {s : Shared}
/-- next(g, d), g a generator -/
theorem call_next_gen {g : Addr} {dflt : Value} {fp wr : List Addr} {G : Array GenState → Array GenState → Prop} {n : Nat} {F : Nat → Value → Prop} {St : Nat → Shared → Prop} {Q : Value → Shared → Prop}
    (hT : s.TypeIs (.ref g) "generator") (W : WalksS prog w A.in1 g fp wr G n F St) (hst : St 0 s) (h0 : 0 < n → ∀ v s', F 0 v → Moved wr G s s' → Q v s') (h1 : n = 0 → ∀ s', Moved wr G s s' → Q dflt s') :
    wpAny (model prog w) A (call (.builtin "next") [.ref g, dflt]) Q E s := by
  refine Calls.call_function_entry (by decide +kernel) (by decide +kernel) PySem.W.kdk_entry_next (PySem.W.kdk_args_next2 _ _) ?_
  unfold Builtin.«next»
  refine wpAny_bind (m := someArgs "next" 1 2 _) (wpAny_of_eq (a := [Value.ref g, dflt]) (by first | rfl | kernel_rfl!) ?_)
  dsimp only
  refine wpAny_bind (wpAny_specialOf (name := Str.ofString "__next__") hT slot_gen_next.lookup ?_)
  refine wpAny_ite_split (fun hab => absurd hab (by decide)) (fun _ => ?_)
  by_cases hn : 0 < n
  · refine wpAny_bind (W.item 0 s _ _ hn hst fun v s' hv _ hm => ?_)
    exact wpAny_pure ⟨v, rfl, h0 hn v s' hv hm⟩
  · have hn0 : n = 0 := by omega
    subst hn0
    refine wpAny_bind (W.done s _ _ hst fun s' hm => ?_)
    exact wpAny_pure ⟨dflt, rfl, h1 rfl s' hm⟩
end
end GnX
end
section
/-! EG2: the generator of next((b for a, b in t if a == y), z), made and ready. -/
namespace GnX
open PySem PySem.Spec PyProof.Rows L2
open GxR (sh_eta keeps_refl)
open LamX (TabB TabS Tabs ExtN CodeO codeO_ne among_app)
structure GenS2 (env : Env) (scope : Scope) (xa xb y : Str) : Prop where
  kind : scope.kind = .function
  co : scope.isCoroutine = false
  cell : ∀ q ∈ scope.names, q.2 ≠ .cell
  dot : scope.names.lookup (".0" : Str) = some NameKind.local
  la : scope.names.lookup xa = some .local
  lb : scope.names.lookup xb = some .local
  ab : xa ≠ xb
  fy : scope.names.lookup y = some .free
  my : (y, NameKind.free) ∈ scope.names
  free : ∀ q ∈ scope.names, q.2 = .free → ∃ c, env.cells.lookup q.1 = some c
/-- the values are pairs of ints -/
def PairsV (K : PySem.W.Frag) (H : Hp) (xs : List V) (ps : List (Int × Int)) : Prop := xs.length = ps.length ∧ ∀ (j : Nat) (p : Int × Int), ps[j]? = some p → ∃ b, xs[j]? = some (.ref b) ∧ SqT K H b [.int p.1, .int p.2]
def firstOf (ps : List (Int × Int)) (z : Int) : Option Int := (ps.find? fun p => p.1 == z).map (·.2)
def pzOf (ps : List (Int × Int)) (z : Int) (j : Nat) : Bool := match ps[j]? with
  | some p => p.1 == z
  | none => false
theorem pass0 (ps : List (Int × Int)) (z : Int) : passing (pzOf ps z) ps.length 0 = (List.range ps.length).filter (pzOf ps z) := by
  unfold passing
  rw [List.drop_zero]
theorem first_some {ps : List (Int × Int)} {z : Int} {i : Nat} (h : (passing (pzOf ps z) ps.length 0)[0]? = some i) : ∃ p, ps[i]? = some p ∧ firstOf ps z = some p.2 := by
  rw [pass0, ← List.head?_eq_getElem?, List.head?_filter, List.find?_range_eq_some] at h
  obtain ⟨h1, h2, h3⟩ := h
  have hi : i < ps.length := by simpa using h2
  refine ⟨ps[i], List.getElem?_eq_getElem hi, ?_⟩
  unfold firstOf
  have e : ps.find? (fun p => p.1 == z) = some ps[i] := by
    rw [List.find?_eq_some_iff_getElem]
    refine ⟨?_, i, hi, rfl, fun j hj => ?_⟩
    · unfold pzOf at h1
      rw [List.getElem?_eq_getElem hi] at h1
      exact h1
    · have := h3 j hj
      unfold pzOf at this
      rw [List.getElem?_eq_getElem (by omega)] at this
      exact this
  rw [e]
  rfl
theorem first_none {ps : List (Int × Int)} {z : Int} (h : (passing (pzOf ps z) ps.length 0).length = 0) : firstOf ps z = none := by
  rw [pass0] at h
  have h2 := List.length_eq_zero_iff.mp h
  unfold firstOf
  have e : ps.find? (fun p => p.1 == z) = none := by
    rw [List.find?_eq_none]
    intro p hp
    obtain ⟨j, hj, rfl⟩ := List.getElem_of_mem hp
    have := List.filter_eq_nil_iff.mp h2 j (List.mem_range.mpr hj)
    unfold pzOf at this
    rw [List.getElem?_eq_getElem hj] at this
    exact this
  rw [e]
  rfl
section
variable {X : Cx} {pins : List (Addr × Obj)} {σ : L2.St} {H : Hp} {s : Shared}
/-- the table's object is written, the code object at c is new and known from now on; all else is kept -/
theorem inv_tableG {P c : Addr} {q : Str} {ps more : Array Value} {h' : Heap} {g' : Array GenState} {d' : Drawn} {t' : Nat} (I : Inv X pins σ H s) (hP : H P = some (.tbl ps)) (k : ∀ b o, b ≠ P → s.heap.get? b = some o → h'.get? b = some o)
    (hm : h'.get? P = some { cls := .none, data := .fields (ps ++ more) }) (hc : s.heap.objs.size ≤ c) (ho : ∃ (oc : Obj) (vs : Array Value) (t : Tok), h'.get? c = some oc ∧ oc.data = .fields vs ∧ vs[1]? = some (.str q t)) (hg : AllBare g') :
    Inv X pins σ (upd (upd H P (.tbl (ps ++ more))) c (CodeO c q)) { s with heap := h', gens := g', drawn := d', toks := t' } := by
  have nC : H c = none := I.hok.fresh hc
  have nPc : P ≠ c := ne_of_none hP nC
  have at_ : ∀ b, b ≠ P → b ≠ c → upd (upd H P (.tbl (ps ++ more))) c (CodeO c q) b = H b := fun b h1 h2 => by rw [upd_ne h2, upd_ne h1]
  have atP : upd (upd H P (.tbl (ps ++ more))) c (CodeO c q) P = some (.tbl (ps ++ more)) := by rw [upd_ne nPc, upd_same]
  have nP : ∀ b u, H b = some u → (∀ q, u ≠ .tbl q) → b ≠ P := fun b u e q z => by
    rw [z, hP] at e
    exact q ps (Option.some.inj e).symm
  have nN : ∀ b, H b = none → b ≠ P := fun b e z => by
    rw [z, hP] at e
    cases e
  have lt' : ∀ b o, s.heap.get? b = some o → b ≠ c := fun b o e z => by
    rw [z] at e
    exact Nat.lt_irrefl _ (Nat.lt_of_lt_of_le (Heap.lt_size e) hc)
  have sm : ∀ b u, H b = some u → b ≠ c := fun b u e => ne_of_none e nC
  refine I.step (g' := g') (d' := d') (ch := []) (fun b hb => absurd hb (by simp)) (fun b o _ _ _ e n => k b o (nN b n) e) (fun b o _ _ _ e n => ⟨o.slots, k b o (nN b n) e⟩)
    (fun b o _ e n => by rw [at_ b (nN b n) (lt' b o e)]; exact n) (fun b o _ e => ?_) (fun b xs e => by rw [at_ b (nP b _ e (fun q z => by cases z)) (sm b _ e)]; exact e) (fun b o u e => by rw [at_ b (nP b _ e (fun q z => by cases z)) (sm b _ e)]; exact e) (fun b qs e => ?_) (fun m hn => ?_) (fun b u e => ?_) hg
  · by_cases hb : b = P
    · rw [hb]
      exact ⟨_, hm⟩
    · exact ⟨o, k b o hb e⟩
  · by_cases hb : b = P
    · rw [hb, hP] at e
      cases e
      rw [hb, atP]
      exact ⟨more, rfl⟩
    · rw [at_ b hb (sm b _ e), e]
      exact ⟨#[], by simp⟩
  · obtain ⟨ob, es, ep, ho, r⟩ := hn
    exact ⟨ob, es, ep, k _ ob (nN _ I.free) ho, r⟩
  · by_cases hb : b = c
    · rw [hb, upd_same] at e
      cases e
      rw [hb]
      obtain ⟨oc, vs, t, e1, e2, e3⟩ := ho
      exact ⟨⟨oc, vs, t, e1, e2, e3⟩, ⟨oc, e1⟩, fun h1 h2 ⟨oc, vs, t, a, b, c⟩ st => ⟨oc, vs, t, st _ a, b, c⟩⟩
    · by_cases hb2 : b = P
      · rw [hb2, atP] at e
        cases e
        rw [hb2]
        exact hm
      · rw [at_ b hb2 hb] at e
        refine (I.hok b u e).stay (fun d v hd q => k d v ?_ q) (fun d q => by rw [at_ d (nP d _ q (fun q z => by cases z)) (sm d _ q)]; exact q) fun d xs q => by rw [at_ d (nP d _ q (fun q z => by cases z)) (sm d _ q)]; exact q
        rcases hd with z | z
        · rw [z]
          exact hb2
        · exact nP d _ z (fun q z => by cases z)
/-- the generator g, ready to be walked, in the state s5; H1: what was held before -/
def ReadyT (X : Cx) (T : List (Addr × Str)) (pins : List (Addr × Obj)) (σ : L2.St) (H1 : Hp) (ps : List (Int × Int)) (z : Int) (g : Addr) (s5 : Shared) : Prop :=
  ∃ (fp wr : List Addr) (G : Array GenState → Array GenState → Prop) (n : Nat) (F : Nat → Value → Prop) (St : Nat → Shared → Prop),
    WalksS X.prog X.w X.A.in1 g fp wr G n F St ∧ St 0 s5 ∧ s5.TypeIs (.ref g) "generator" ∧
    (0 < n → ∃ q, firstOf ps z = some q ∧ ∀ v, F 0 v → ∃ t, v = .int q t) ∧ (n = 0 → firstOf ps z = none) ∧
    ∀ s', Moved wr G s5 s' → ∃ H2, ExtN H1 H2 ∧ Tabs T H2 ∧ Inv X pins σ H2 s'
theorem gen_pairs {T : List (Addr × Str)} {c P : Addr} {iter : Expr} {xa xb y : Str} {pa pb pt p1 p2 p3 p4 gpos : Pos} {kt i : Nat} {scope : Scope} {te : TE} {k : Nat} {Q' : Value → Shared → Prop} {R : List (Int × Int) → Int → Hp → Prop}
    (hr : Room k X.A) (TB : TabB X.base X.mg c P) (hcode : X.env.code = .ref c) (hmT : (P, X.env.qual ++ "<genexpr>") ∈ T) (hu : ∀ p ∈ T, p.1 = P → p.2 = X.env.qual ++ "<genexpr>") (S : GenS2 X.env scope xa xb y) (hi : PE X iter te) (hN : X.N[i]? = some y) (hvis : Vis X.env.scope y) (hck : X.env.kindOf y = some .cell)
    (hda : (xa == ("__debug__" : Str)) = false) (hdb : (xb == ("__debug__" : Str)) = false) (hdy : (y == ("__debug__" : Str)) = false) (hcy : (y == ("__classdict__" : Str)) = false)
    (hs : ∀ v, genFold iter X.env v = pure v) (I : Inv X pins σ H s)
    (h : te σ H fun v H1 => ∃ a xs ps z, v = .ref a ∧ SqT X.K H1 a xs ∧ PairsV X.K H1 xs ps ∧ σ[i]? = some (some (.int z)) ∧ Tabs T H1 ∧ R ps z H1)
    (hQ : ∀ ps z H1 g s5, R ps z H1 → ReadyT X T pins σ H1 ps z g s5 → Q' (.ref g) s5) :
    wpAny (model X.prog X.w) X.A (eval (.GeneratorExp (.Name xb p4) [⟨.Tuple [.Name xa pa, .Name xb pb] kt pt, iter, [.Compare (.Name xa p1) [.Eq] [.Name y p2] p3], 0⟩] scope gpos) X.env) Q' X.xe s := by
  refine wpAny_GeneratorExp_walksQT hr.hd S.co (closure_ok S.free) S.cell S.dot S.la S.lb S.ab S.kind (by have := hr.dp; omega) ?_ hs
  refine thn (hi.run pins s σ H _ I h) fun xv s1 ⟨v, H1, I1, r1, q1⟩ => ?_
  obtain ⟨a, xs, ps, z, rfl, hsq, ⟨hlen, hpv⟩, hz, hT, q1⟩ := q1
  obtain ⟨tb, hP, ht, ha⟩ := hT _ hmT
  obtain rfl : xv = Value.ref a := r1
  obtain ⟨its, rv, tp, -⟩ := I1.tuple hsq
  have tp' : s1.heap.IsTuple a its.toArray := tp
  refine wpAny_pyIter_tuple tp' ?_
  generalize ho : ({ cls := .type "tuple_iterator", data := .fields #[.ref a, .int 0 0] } : Obj) = o
  have hPs : s1.heap.get? P = some { cls := .none, data := .fields tb } := I1.hok P _ hP
  have hPlt : P < s1.heap.objs.size := Heap.lt_size hPs
  have notP : ∀ b its', s1.heap.IsTuple b its' → b ≠ P := fun b its' ⟨ob, e, hc, _⟩ zz => by
    rw [zz, hPs] at e
    cases e
    cases hc
  -- the pairs
  have lenI : its.length = ps.length := by rw [← rv.length, hlen]
  have hpair : ∀ j : Nat, ∃ T : Addr × Array Value, ∀ p, ps[j]? = some p → its[j]? = some (.ref T.1) ∧ s1.heap.IsTuple T.1 T.2 ∧ ∃ t t', T.2 = #[.int p.1 t, .int p.2 t'] := fun j => by
    cases hj : ps[j]? with
    | none => exact ⟨(0, #[]), fun p e => by cases e⟩
    | some p =>
      obtain ⟨b, hb, hsb⟩ := hpv j p hj
      obtain ⟨u, hu, ru⟩ := rv.get hb
      obtain ⟨its2, rv2, tp2, -⟩ := I1.tuple hsb
      obtain ⟨u1, u2, rfl⟩ : ∃ u1 u2, its2 = [u1, u2] := by
        match its2, rv2.length with
        | [u1, u2], _ => exact ⟨u1, u2, rfl⟩
      obtain ⟨w1, hw1, r1⟩ := rv2.get (i := 0) rfl
      obtain ⟨w2, hw2, r2⟩ := rv2.get (i := 1) rfl
      cases hw1
      cases hw2
      obtain ⟨t1, rfl⟩ := r1
      obtain ⟨t2, rfl⟩ := r2
      refine ⟨(b, #[.int p.1 t1, .int p.2 t2]), fun p' e => ?_⟩
      cases e
      exact ⟨by rw [hu]; exact congrArg some ru, tp2, t1, t2, rfl⟩
  obtain ⟨TV, hTV⟩ : ∃ TV : Nat → Addr × Array Value, ∀ j p, ps[j]? = some p → its[j]? = some (.ref (TV j).1) ∧ s1.heap.IsTuple (TV j).1 (TV j).2 ∧ ∃ t t', (TV j).2 = #[.int p.1 t, .int p.2 t'] :=
    ⟨fun j => Classical.choose (hpair j), fun j => Classical.choose_spec (hpair j)⟩
  have at_ : ∀ j, j < its.toArray.size → ∃ p, ps[j]? = some p := fun j hj => ⟨ps[j]'(by simpa [lenI] using hj), List.getElem?_eq_getElem _⟩
  have cd : PySem.W.CodeHd (s1.heap.push o) c P := TB.code.keeps fun b u e => Heap.get?_push_of_some _ (I1.bk b u e)
  have lim2 : (s1.heap.push o).NoLimit := I1.nolimit.push o
  have hP2 : (s1.heap.push o).get? P = some { cls := .none, data := .fields tb } := Heap.get?_push_of_some _ hPs
  have hIa : a ≠ s1.heap.objs.size := fun e => by
    obtain ⟨ob, e1, _⟩ := tp'
    exact Nat.lt_irrefl _ (e ▸ Heap.lt_size e1)
  have hTI : ∀ j, j < its.toArray.size → (TV j).1 ≠ s1.heap.objs.size := fun j hj e => by
    obtain ⟨p, hp⟩ := at_ j hj
    obtain ⟨-, ⟨ob, e1, _⟩, -⟩ := hTV j p hp
    exact Nat.lt_irrefl _ (e ▸ Heap.lt_size e1)
  have W0 : ∀ A' : Around, A'.handled = none → WalksU X.prog X.w A' s1.heap.objs.size (s1.heap.objs.size :: a :: (List.range its.toArray.size).map fun j => (TV j).1) [s1.heap.objs.size] its.toArray.size (fun j v => v = (TV j).2) _ _ := fun A' hA =>
    walksU_pairs hA s1.heap.objs.size a hIa its.toArray (fun j => (TV j).1) (fun j => (TV j).2) (fun j hj => by
      obtain ⟨p, hp⟩ := at_ j hj
      rw [List.getElem?_toArray]
      exact (hTV j p hp).1) hTI
  -- the captured name
  obtain ⟨cy, hcy1⟩ := S.free _ S.my rfl
  have hcell : ∃ t, s1.heap.IsCell cy (some (.int z t)) := by
    obtain ⟨m, hm, hl⟩ := I1.loc
    obtain ⟨u, ru, lk⟩ := hl i y _ hN hz hvis
    obtain ⟨t, rfl⟩ := ru
    rcases lk with ⟨e, _⟩ | ⟨_, c2, e2, hc2⟩
    · rw [hck] at e; cases e
    · rw [hcy1] at e2
      cases e2
      exact ⟨t, hc2⟩
  obtain ⟨tz, hcell⟩ := hcell
  have hclo : (cloFrom X.env.cells scope.names []).lookup y = some cy := NdefX.clo_has S.free S.my hcy1
  have hcyP : cy ≠ P := fun zz => by
    obtain ⟨ob, e, hd⟩ := hcell
    rw [zz, hPs] at e
    cases e
    cases hd
  have sz2 : (s1.heap.push o).objs.size = s1.heap.objs.size + 1 := Heap.size_push ..
  have eN : its.toArray.size = ps.length := by simpa using lenI
  refine ⟨lim2, ?_⟩
  have key : ∀ (Kf : Value → Shared → Prop), (∀ (code : Value) (h3 : Heap) (tk : Nat) (ps' : Array Value), Heap.ExtBut P (s1.heap.push o) h3 → (s1.heap.push o).objs.size ≤ h3.objs.size → h3.get? P = some { cls := .none, data := .fields ps' } →
      (ps' = tb ∨ ∃ c' : Addr, ps' = tb ++ #[rawInt gpos.line, rawInt gpos.col, .ref c'] ∧ s1.heap.objs.size + 1 ≤ c' ∧ c' < h3.objs.size ∧ ∃ (oc : Obj) (vs : Array Value) (t : Tok), h3.get? c' = some oc ∧ oc.data = .fields vs ∧ vs[1]? = some (.str (X.env.qual ++ "<genexpr>") t)) →
      Kf code { s1 with heap := h3, toks := tk }) → wpAny (model X.prog X.w) X.A (genexprCode X.env gpos (X.env.qual ++ "<genexpr>") scope) Kf X.xe { s1 with heap := s1.heap.push o } := fun Kf cont => by
    cases hf : codeAmong gpos tb.toList with
    | none =>
      refine wpAny_genexprCodeX hcode (cd.code hP2 ht) (cd.tab hP2) hf fun c' h' tk hx hge hlt hco' hrec htab' _ => ?_
      obtain ⟨c2, oc, vs, t, e2, hoc, hd, hv⟩ := hrec
      cases e2
      exact cont _ h' tk _ hx (Nat.le_trans hge (Nat.le_of_lt hlt)) htab'.2 (.inr ⟨c', rfl, by rw [← sz2]; exact hge, hlt, oc, vs, t, hoc, hd, hv⟩)
    | some cv =>
      refine wpAny_genexprCode_hit hcode (cd.code hP2 ht) hf ?_
      exact cont cv (s1.heap.push o) s1.toks tb (Heap.ExtBut.refl _ _) (Nat.le_refl _) hP2 (.inl rfl)
  refine key _ fun code h3 tk ps' hx hsz hP3 hmore => ?_
  obtain ⟨bm, ob, e1, e2, e3, e4, e5, e6, e7, e8⟩ := TB.bm
  have hcP : cStatics ≠ P := fun e => by
    obtain ⟨_, hns, _⟩ := I1.nolimit
    obtain ⟨o', es, ep, ho, hd, _⟩ := hns
    rw [e, hPs] at ho
    cases ho
    cases hd
  have hcl : cStatics < s1.heap.objs.size := let ⟨_, hns, _⟩ := I1.nolimit; hns.lt
  have sz3 : s1.heap.objs.size + 1 ≤ h3.objs.size := by rw [← sz2]; exact hsz
  have keep3 : ∀ b u, b ≠ P → s1.heap.get? b = some u → h3.get? b = some u := fun b u hb e => hx b u hb (Heap.get?_push_of_some _ e)
  have ltup : ∀ b its', s1.heap.IsTuple b its' → b < s1.heap.objs.size := fun b its' ⟨ob, e, _⟩ => Heap.lt_size e
  have hfpP : ∀ b ∈ (s1.heap.objs.size :: a :: (List.range its.toArray.size).map fun j => (TV j).1), b ≠ P ∧ b ≤ s1.heap.objs.size := fun b hb => by
    rcases List.mem_cons.mp hb with e | hb
    · rw [e]; exact ⟨fun z => Nat.lt_irrefl _ (z ▸ hPlt), Nat.le_refl _⟩
    · rcases List.mem_cons.mp hb with e | hb
      · rw [e]; exact ⟨notP _ _ tp', Nat.le_of_lt (ltup _ _ tp')⟩
      · obtain ⟨j, hj, rfl⟩ := List.mem_map.mp hb
        obtain ⟨p, hp⟩ := at_ j (List.mem_range.mp hj)
        exact ⟨notP _ _ (hTV j p hp).2.1, Nat.le_of_lt (ltup _ _ (hTV j p hp).2.1)⟩
  refine wpAny_builtinsFor (m := X.mg) (by rw [I1.ok.glob]; exact ((I1.mod.glob.keeps I1.bk).push o).extBut hx TB.gP) e1 e2 (keep3 _ _ e4 (I1.bk _ _ e5)) e6 e7 e8 ?_
  refine ⟨s1.heap.objs.size, _, [s1.heap.objs.size], its.toArray.size, _, _, _, pzOf ps z, (fun i y => ∃ p t, ps[i]? = some p ∧ y = .int p.2 t), rfl, (fun A' hA => (W0 A' hA).bound), ?_, ?_, ?_, lim2.extBut hx hcP, ?_, ?_, ?_⟩
  · rintro j vals ⟨hj, rfl⟩
    obtain ⟨p, hp⟩ := at_ j hj
    obtain ⟨-, -, t, t', e⟩ := hTV j p hp
    exact ⟨_, _, e⟩
  · refine (W0 X.A hr.hd).frame 0 (s1.heap.push o) h3 ⟨⟨o, Heap.get?_push_size _ (by rw [← ho]; rfl), by rw [← ho], by rw [← ho]; rfl⟩, tp'.at fun u e => Heap.get?_push_of_some _ e, fun j hj => ?_⟩ fun b hb u e => hx b u (hfpP b hb).1 e
    obtain ⟨p, hp⟩ := at_ j hj
    exact (hTV j p hp).2.1.at fun u e => Heap.get?_push_of_some _ e
  · intro b hb
    have := (hfpP b hb).2
    show b < h3.objs.size
    have h9 : s1.heap.objs.size + 1 ≤ h3.objs.size := sz2 ▸ hsz
    exact Nat.lt_of_le_of_lt this h9
  · intro zz
    rcases List.mem_cons.mp zz with e | e
    · exact Nat.ne_of_lt hcl e
    · cases e
  · intro href hhref
    have hk2 : ∀ (s₂ : Shared), (∀ b ∈ List.range h3.objs.size, b ∉ [s1.heap.objs.size] → ∀ o, href.get? b = some o → s₂.heap.get? b = some o) → s₂.heap.IsCell cy (some (.int z tz)) := fun s₂ hk => by
      obtain ⟨oc, e, hd⟩ := hcell
      have lt := Heap.lt_size e
      refine ⟨oc, hk cy (List.mem_range.mpr (Nat.lt_of_lt_of_le lt (Nat.le_trans (Nat.le_succ _) sz3))) (fun zz => ?_) oc (hhref cy oc (keep3 cy oc hcyP e)), hd⟩
      rcases List.mem_cons.mp zz with e1 | e1
      · rw [e1] at lt; exact Nat.lt_irrefl _ lt
      · cases e1
    refine ⟨fun A' E' j va vb s₂ m₂ hA hPv hn hma hmb hk => ?_, fun A' E' j va vb s₂ m₂ hA hPv hp hn hma hmb hk => ?_⟩
    · obtain ⟨hj, hv⟩ := hPv
      obtain ⟨p, hp⟩ := at_ j hj
      obtain ⟨-, -, t, t', e⟩ := hTV j p hp
      rw [e] at hv
      simp only [Array.mk.injEq, List.cons.injEq, and_true] at hv
      obtain ⟨rfl, rfl⟩ := hv
      simp only [List.forIn_cons, List.forIn_nil, if_true]
      refine wpAny_bind (wpAny_bind (wpAny_isTrue_Compare1 ?_))
      refine wpAny_Name (wpAny_loadName_local S.kind S.la hn hma ?_) hda
      refine wpAny_Name (wpAny_loadName_free S.kind S.fy hclo (hk2 s₂ hk) ?_ hcy) hdy
      refine eq_int (wpAny_truthy_bool ?_)
      refine wpAny_pure (wpAny_pure ⟨?_, keeps_refl _⟩)
      unfold pzOf
      rw [hp]
    · obtain ⟨hj, hv⟩ := hPv
      obtain ⟨p, hp⟩ := at_ j hj
      obtain ⟨-, -, t, t', e⟩ := hTV j p hp
      rw [e] at hv
      simp only [Array.mk.injEq, List.cons.injEq, and_true] at hv
      obtain ⟨rfl, rfl⟩ := hv
      exact wpAny_Name (wpAny_loadName_local S.kind S.lb hn hmb ⟨⟨p, t', hp, rfl⟩, keeps_refl _⟩) hdb
  · intro g h5 tk5 gs hgb hag hsz5 hk5 W5 hat
    rw [eN] at W5 hat
    refine hQ ps z H1 g _ q1 ⟨_, _, _, _, _, _, W5.in4_1, hat, hat.1.typeIs, fun hn => ?_, fun hn => first_none hn, fun s' hm => ?_⟩
    · obtain ⟨i0, hi0⟩ : ∃ i0, (passing (pzOf ps z) ps.length 0)[0]? = some i0 := ⟨_, List.getElem?_eq_getElem hn⟩
      obtain ⟨p, hp, hf⟩ := first_some hi0
      refine ⟨p.2, hf, fun v hv => ?_⟩
      obtain ⟨i1, hi1, p', t', hp', rfl⟩ := hv
      rw [hi0] at hi1
      cases hi1
      rw [hp] at hp'
      cases hp'
      exact ⟨t', rfl⟩
    · have nwr : ∀ b u, s1.heap.get? b = some u → b ∉ h3.objs.size :: [s1.heap.objs.size] := fun b u e hb => by
        have hl := Heap.lt_size e
        rcases List.mem_cons.mp hb with z | z
        · rw [z] at hl
          have h9 : (h3.objs.size : Nat) < s1.heap.objs.size := hl
          omega
        · rcases List.mem_cons.mp z with z | z
          · rw [z] at hl
            exact Nat.lt_irrefl _ hl
          · cases z
      have kp : ∀ b u, b ≠ P → s1.heap.get? b = some u → s'.heap.get? b = some u := fun b u hb e => hm.heap b u (nwr b u e) (hk5 b u (keep3 b u hb e))
      have hPs' : s'.heap.get? P = some { cls := .none, data := .fields ps' } := hm.heap P _ (nwr P _ hPs) (hk5 P _ hP3)
      have hbare := AllBare.movedS (I1.bare.push hgb) hm
      rcases hmore with em | ⟨c', em, hc1, hc2, oc, vs, t, hoc, hd, hv⟩
      · have J := GxR.inv_tab (more := #[]) (h' := s'.heap) (g' := s'.gens) (d' := s'.drawn) (t' := s'.toks) I1 hP kp (by rw [hPs', em, Array.append_empty]) hbare
        rw [sh_eta s1 s' hm.os, Array.append_empty] at J
        have eH : upd H1 P (.tbl tb) = H1 := by
          funext b
          by_cases hb : b = P
          · rw [hb, upd_same, hP]
          · rw [upd_ne hb]
        rw [eH] at J
        exact ⟨H1, LamX.ExtN.refl H1, hT, J⟩
      · have nC : H1 c' = none := I1.hok.fresh (Nat.le_trans (Nat.le_succ _) hc1)
        have hoc' : s'.heap.get? c' = some oc := hm.heap c' oc (fun zz => by
          rcases List.mem_cons.mp zz with e | e
          · exact Nat.lt_irrefl _ (e ▸ hc2)
          · rcases List.mem_cons.mp e with e | e
            · rw [e] at hc1; exact Nat.lt_irrefl _ hc1
            · cases e) (hk5 c' oc hoc)
        have J := inv_tableG (c := c') (q := X.env.qual ++ "<genexpr>") (more := #[rawInt gpos.line, rawInt gpos.col, .ref c']) (h' := s'.heap) (g' := s'.gens) (d' := s'.drawn) (t' := s'.toks) I1 hP kp (by rw [hPs', em]) (Nat.le_trans (Nat.le_succ _) hc1) ⟨oc, vs, t, hoc', hd, hv⟩ hbare
        rw [sh_eta s1 s' hm.os] at J
        have hE : ExtN H1 (upd (upd H1 P (.tbl (tb ++ #[rawInt gpos.line, rawInt gpos.col, .ref c']))) c' (CodeO c' (X.env.qual ++ "<genexpr>"))) := fun b o e n => by
          rw [upd_ne (ne_of_none e nC), upd_ne (fun z => n tb (Option.some.inj (e.symm.trans (by rw [z]; exact hP))))]
          exact e
        have eL : (tb ++ #[rawInt gpos.line, rawInt gpos.col, .ref c']).toList = tb.toList ++ [rawInt gpos.line, rawInt gpos.col, .ref c'] := by simp
        refine ⟨_, hE, fun p hp => ?_, J⟩
        by_cases hb : p.1 = P
        · rw [hu p hp hb, hb]
          refine ⟨_, by rw [upd_ne (ne_of_none hP nC), upd_same], by rw [eL]; exact PySem.TriplesOk_snoc _ _ _ _ ht, fun p' cv hcv => ?_⟩
          rw [eL] at hcv
          rcases among_app _ ht hcv with z | z
          · obtain ⟨c0, e1, e2⟩ := ha p' cv z
            exact ⟨c0, e1, hE _ _ e2 codeO_ne⟩
          · exact ⟨c', z, upd_same⟩
        · obtain ⟨ps2, a1, a2, a3⟩ := hT p hp
          refine ⟨ps2, by rw [upd_ne (ne_of_none a1 nC), upd_ne hb]; exact a1, a2, fun p' cv hcv => ?_⟩
          obtain ⟨c0, e1, e2⟩ := a3 p' cv hcv
          exact ⟨c0, e1, hE _ _ e2 codeO_ne⟩
end
end GnX
end
section
/-! EG4: next((b for a, b in t if a == y), z) as a function of data. -/
namespace DL
open PySem PySem.Spec PyProof.Rows L2
open LamX (Tabs TabS ExtN TabB)
open GnX (firstOf GenS2 PairsV ReadyT gen_pairs call_next_gen)
def prI : D → Option (Int × Int)
  | .tup [.int p, .int q] => some (p, q)
  | _ => none
def pairsI : List D → Option (List (Int × Int))
  | [] => some []
  | d :: r => match prI d, pairsI r with
    | some p, some ps => some (p :: ps)
    | _, _ => none
def prsD : D → Option (List (Int × Int))
  | .tup ds => pairsI ds
  | _ => none
def fnextg (fi : FF D) (i : Nat) (z0 : Int) : FF D := fun env st => (fi env st).bind fun d st1 => match prsD d with
  | some ps => (match env[i]? with
    | some (some (.int z)) => .ok (.int ((firstOf ps z).getD z0)) st1
    | _ => .stuck)
  | none => .stuck
/-- the generator expression's scope, told by the text -/
structure GenSt (sc scope : Scope) (xa xb y : Str) : Prop where
  kind : scope.kind = .function
  co : scope.isCoroutine = false
  cell : ∀ q ∈ scope.names, q.2 ≠ .cell
  dot : scope.names.lookup (".0" : Str) = some NameKind.local
  la : scope.names.lookup xa = some .local
  lb : scope.names.lookup xb = some .local
  ab : xa ≠ xb
  fy : scope.names.lookup y = some .free
  my : (y, NameKind.free) ∈ scope.names
  free : ∀ q ∈ scope.names, q.2 = .free → sc.names.lookup q.1 = some .cell ∨ sc.names.lookup q.1 = some .free
  cy : sc.names.lookup y = some .cell
def genSB (sc scope : Scope) (xa xb y : Str) : Bool :=
  decide (scope.kind = .function) && !scope.isCoroutine && (scope.names.all fun q => !decide (q.2 = .cell) && (!decide (q.2 = .free) || decide (sc.names.lookup q.1 = some .cell) || decide (sc.names.lookup q.1 = some .free))) &&
  decide (scope.names.lookup (".0" : Str) = some NameKind.local) && decide (scope.names.lookup xa = some .local) && decide (scope.names.lookup xb = some .local) && !decide (xa = xb) && decide (scope.names.lookup y = some .free) && decide ((y, NameKind.free) ∈ scope.names) && decide (sc.names.lookup y = some .cell)
theorem genS_by {sc scope : Scope} {xa xb y : Str} (h : genSB sc scope xa xb y = true) : GenSt sc scope xa xb y := by
  unfold genSB at h
  simp only [Bool.and_eq_true, Bool.or_eq_true, Bool.not_eq_true', decide_eq_true_eq, decide_eq_false_iff_not, List.all_eq_true] at h
  obtain ⟨⟨⟨⟨⟨⟨⟨⟨⟨h1, h2⟩, h3⟩, h4⟩, h5⟩, h6⟩, h7⟩, h8⟩, h9⟩, h10⟩ := h
  refine ⟨h1, h2, fun q hq => (h3 q hq).1, h4, h5, h6, h7, h8, h9, fun q hq e => ?_, h10⟩
  rcases (h3 q hq).2 with (z | z) | z
  · exact absurd e z
  · exact .inl z
  · exact .inr z
theorem GenSt.has {X : Cx} {scope : Scope} {xa xb y : Str} (S : GenSt X.env.scope scope xa xb y) (ok : X.Ok) : GenS2 X.env scope xa xb y :=
  ⟨S.kind, S.co, S.cell, S.dot, S.la, S.lb, S.ab, S.fy, S.my, fun q hq e => by
    rcases S.free q hq e with k | k
    · exact ok.has _ (.inl k)
    · exact ok.has _ (.inr k)⟩
def isCallE : Expr → Bool
  | .Call _ _ _ _ => true
  | _ => false
theorem fold_call {e : Expr} (h : isCallE e = true) (env : PySem.Env) : ∀ v, genFold e env v = pure v := by
  cases e <;> first | (intro v; rfl) | cases h
/-- where a generator expression may be made -/
def GenCtx (X : Cx) (T : List (Addr × Str)) : Prop := ∃ (c P : Addr) (k : Nat), Room k X.A ∧ X.env.code = .ref c ∧ TabB X.base X.mg c P ∧ (P, X.env.qual ++ ("<genexpr>" : Str)) ∈ T ∧ ∀ p ∈ T, p.1 = P → p.2 = X.env.qual ++ ("<genexpr>" : Str)
section
variable {X : Cx} {W : WG} {ρ : Pl} {H : Hp}
theorem prI_ok {d : D} {v : V} {p : Int × Int} (e : prI d = some p) (r : RelD X.K ρ H d v) : ∃ b, v = .ref b ∧ SqT X.K H b [.int p.1, .int p.2] := by
  unfold prI at e
  split at e
  · rename_i p q
    cases e
    obtain ⟨a, vs, rfl, h, t⟩ := tup_ok r
    cases t with
    | cons t1 t2 =>
      cases t2 with
      | cons t2 t3 =>
        cases t3
        cases t1
        cases t2
        exact ⟨a, rfl, h⟩
  · cases e
theorem pairsI_ok : ∀ {ds : List D} {vs : List V} {ps : List (Int × Int)}, pairsI ds = some ps → RelDs X.K ρ H ds vs → PairsV X.K H vs ps
  | [], _, _, e, r => by
    cases e
    cases r
    exact ⟨rfl, fun j p h => by simp at h⟩
  | d :: ds, _, _, e, r => by
    unfold pairsI at e
    split at e
    · rename_i p ps e1 e2
      cases e
      cases r with
      | cons r1 r2 =>
        obtain ⟨b, rfl, hb⟩ := prI_ok e1 r1
        obtain ⟨l, h⟩ := pairsI_ok e2 r2
        refine ⟨by simp [l], fun j q hq => ?_⟩
        cases j with
        | zero =>
          simp only [List.getElem?_cons_zero, Option.some.injEq] at hq
          subst hq
          exact ⟨b, rfl, hb⟩
        | succ j =>
          simp only [List.getElem?_cons_succ] at hq
          obtain ⟨b2, h1, h2⟩ := h j q hq
          exact ⟨b2, by simpa using h1, h2⟩
    · cases e
theorem de_nextg {c P : Addr} {iter : Expr} {xa xb y : Str} {p pa pb pt p1 p2 p3 p4 p5 gpos pos : Pos} {kt i j k : Nat} {z0 : Int} {scope : Scope} {fi : FF D}
    (hr : Room k X.A) (hg : Gl X "next") (hm : X.mg "next" = none) (TB : TabB X.base X.mg c P) (hcode : X.env.code = .ref c) (hmT : (P, X.env.qual ++ "<genexpr>") ∈ W.T) (hu : ∀ p ∈ W.T, p.1 = P → p.2 = X.env.qual ++ "<genexpr>")
    (S : GenSt X.env.scope scope xa xb y) (hi : DE X W iter fi) (hN : X.N[i]? = some y) (hvis : Vis X.env.scope y)
    (hda : (xa == ("__debug__" : Str)) = false) (hdb : (xb == ("__debug__" : Str)) = false) (hdy : (y == ("__debug__" : Str)) = false) (hcy : (y == ("__classdict__" : Str)) = false)
    (hs : ∀ v, genFold iter X.env v = pure v)
    (he : starEach [.GeneratorExp (.Name xb p4) [⟨.Tuple [.Name xa pa, .Name xb pb] kt pt, iter, [.Compare (.Name xa p1) [.Eq] [.Name y p2] p3], 0⟩] scope gpos, .Constant (.int z0) j p5] X.env = (false, eval (.GeneratorExp (.Name xb p4) [⟨.Tuple [.Name xa pa, .Name xb pb] kt pt, iter, [.Compare (.Name xa p1) [.Eq] [.Name y p2] p3], 0⟩] scope gpos) X.env) :: starEach [.Constant (.int z0) j p5] X.env := by rfl) :
    DE X W (.Call (.Name "next" p) [.GeneratorExp (.Name xb p4) [⟨.Tuple [.Name xa pa, .Name xb pb] kt pt, iter, [.Compare (.Name xa p1) [.Eq] [.Name y p2] p3], 0⟩] scope gpos, .Constant (.int z0) j p5] [] pos) (fnextg fi i z0) := by
  refine ⟨fun pins s σ H Q I h => ?_⟩
  obtain ⟨ρ, env, st, gd, o⟩ := h
  refine wpAny_Call_Name_kw (ld_blt (u := .builtin "next") I hg hm (by first | rfl | decide +kernel) ?_ (by decide) (by decide))
  refine PyProof.Rows.callWith_builtin1 ?_ he (by rfl)
  rw [he]
  show wpAny _ _ (spliced ((false, eval (.GeneratorExp (.Name xb p4) [⟨.Tuple [.Name xa pa, .Name xb pb] kt pt, iter, [.Compare (.Name xa p1) [.Eq] [.Name y p2] p3], 0⟩] scope gpos) X.env) :: backTo pos (starEach [.Constant (.int z0) j p5] X.env))) _ _ s
  refine Calls.spliced_cons (gen_pairs (T := W.T) (R := fun ps z H1 => ∀ H2, ExtN H1 H2 → Tabs W.T H2 → Q (.int ((firstOf ps z).getD z0)) H2) hr TB hcode hmT hu (S.has I.ok) hi hN hvis S.cy hda hdb hdy hcy hs I ?_ fun ps z H1 g s5 hR hG => ?_)
  · refine ⟨ρ, env, st, gd, (OutR.bind (R := RelD X.K) o).mono ?_⟩
    rintro v H1 ⟨ρ1, d, st1, -, e1, s1, r1, o1⟩
    cases hp : prsD d with
    | none => rw [hp] at o1; exact o1.elim
    | some ps =>
      rw [hp] at o1
      dsimp only at o1
      split at o1
      · rename_i z hz
        obtain ⟨vz, hσ, rz⟩ := gd.env.at_ i _ hz
        cases rz
        cases d with
        | tup ds =>
          obtain ⟨a, vs, rfl, hsq, t⟩ := tup_ok r1
          refine ⟨a, vs, ps, z, rfl, hsq, pairsI_ok hp t, hσ, by have := s1.tabs; rw [e1.tt, gd.tt] at this; exact this, fun H2 eN T2 => ?_⟩
          -- what was tracked stands, but for the tables
          have sy : Stay ρ1 H1 ρ1 H2 := ⟨fun _ _ h => h, fun b u e t n => ⟨eN b u e (fun ps z => by rw [z] at t; cases t), n⟩⟩
          have kp : ∀ b ∈ ρ1.r, H2 b = H1 b := fun b hb => by
            obtain ⟨n, hn⟩ := List.mem_iff_getElem?.mp hb
            obtain ⟨d, _, q⟩ := s1.mem hn
            obtain ⟨u, hu', ht, _⟩ := q.noTbl
            rw [hu']
            exact eN b u hu' (fun ps z => by rw [z] at ht; cases ht)
          have hid1 : ∀ b ∈ ρ1.h, H2 b = H1 b := fun b hb => by
            obtain ⟨u, hu'⟩ := s1.hid b hb
            rw [hu']
            exact eN b u hu' fun ps z => (by obtain ⟨o, q, nt⟩ := s1.ht b hb; rw [hu', z] at q; cases q; cases nt.tbl)
          have ex1 : Ext ρ1 H1 ρ1 H2 := ⟨sy.pre, sy.keep, rfl, hid1, rfl, fun b ob u z => eN b _ z fun ps y => by cases y⟩
          have rs1 : RelSt X.K ρ1 H2 st1 := ⟨s1.len, s1.nd, fun n b u e1 e2 => (s1.at_ n b u e1 e2).stay sy (kp b (List.mem_of_getElem? e1)), s1.dis, fun b hb => (by rw [hid1 b hb]; exact s1.hid b hb), (by rw [e1.tt, gd.tt]; exact T2), fun b hb => (by rw [hid1 b hb]; exact s1.ht b hb)⟩
          exact o1 ρ1 H2 _ ex1 rs1 (.int _)
        | _ => cases hp
      · exact o1.elim
  · obtain ⟨fp, wr, G, n, F, St, Wk, hst, hT, h0, h1, hI⟩ := hG
    show wpAny _ _ (spliced ((false, eval (.Constant (.int z0) j p5) X.env) :: backTo pos (starEach [] X.env))) _ _ _
    refine Calls.spliced_cons (wpAny_Constant_int ?_)
    refine Calls.spliced_nil ?_
    refine call_next_gen hT Wk ?_ (fun hn v s' hv hmv => ?_) (fun hn s' hmv => ?_)
    · exact Wk.frame 0 s5 s5.heap _ hst (Nat.le_succ _) fun b _ u e => e
    · obtain ⟨q, hq, hvq⟩ := h0 hn
      obtain ⟨t, rfl⟩ := hvq v hv
      obtain ⟨H2, eN, T2, J⟩ := hI s' ⟨hmv.heap, hmv.gens, hmv.drawn, hmv.os, Nat.le_trans (Nat.le_succ _) hmv.toks⟩
      have := hR H2 eN T2
      rw [hq] at this
      exact ⟨.int q, H2, J, ⟨t, rfl⟩, this⟩
    · obtain ⟨H2, eN, T2, J⟩ := hI s' ⟨hmv.heap, hmv.gens, hmv.drawn, hmv.os, Nat.le_trans (Nat.le_succ _) hmv.toks⟩
      have := hR H2 eN T2
      rw [h1 hn] at this
      exact ⟨.int z0, H2, J, ⟨_, rfl⟩, this⟩
end
end DL
end
section
/-! ES1: sets of texts in the heap: a new one, one text more. -/
namespace SX
open PySem PySem.Spec PyProof.Rows L2
def txtOf (e : Int × Value) : Option Str := match e.2 with
  | .str x _ => some x
  | _ => none
/-- a row of the table of a set of texts -/
def TxtRow (w : World) (e : Int × Value) : Prop := ∃ (x : Str) (tk : Tok), e.2 = .str x tk ∧ e.1 = hashStr w x
/-- the texts L, each once, in the set at a -/
structure TxtTab (w : World) (L : List Str) (es : Array (Int × Value)) (t : SetTable) : Prop where
  rows : ∀ e ∈ es.toList, TxtRow w e
  mem : (es.toList.map txtOf).Perm (L.map some)
  nd : L.Nodup
  few : es.size < scanBound
  fits : t.fits es.size = true
  ris : Ris t.place.toList
  led : w.params.followText "set-order" = true ∨ t.led = true
def TxtSet (w : World) (h : Heap) (a : Addr) (L : List Str) : Prop := ∃ (o : Obj) (es : Array (Int × Value)) (ep : Nat) (t : SetTable), h.get? a = some o ∧ o.ExactSet ∧ o.data = .set es ep t ∧ TxtTab w L es t
theorem TxtSet.keep {w : World} {h h' : Heap} {a : Addr} {L : List Str} (T : TxtSet w h a L) (k : ∀ o, h.get? a = some o → h'.get? a = some o) : TxtSet w h' a L := by
  obtain ⟨o, es, ep, t, ho, rest⟩ := T
  exact ⟨o, es, ep, t, k o ho, rest⟩
theorem TxtTab.size {w : World} {L : List Str} {es : Array (Int × Value)} {t : SetTable} (T : TxtTab w L es t) : es.size = L.length := by
  have := T.mem.length_eq
  simpa using this
section
variable {P : Program} {w : World} {A : Around} {E : Value → Shared → Prop} {s : Shared} {a : Addr} {L : List Str}
theorem row_is {e : Int × Value} (r : TxtRow w e) (x : Str) : (strKind P w).is x e.2 = true ↔ txtOf e = some x := by
  obtain ⟨y, tk, e1, -⟩ := r
  unfold txtOf
  rw [e1]
  show ((y == x) = true) ↔ some y = some x
  rw [beq_iff_eq, Option.some.injEq]
theorem rows_elems {l : List (Int × Value)} (r : ∀ e ∈ l, TxtRow w e) : ElemsOf (strKind P w) l := by
  intro e he
  obtain ⟨x, tk, e1, e2⟩ := r e he
  rw [e1]
  exact ⟨⟨x, beq_self_eq_true x, e2⟩, rfl⟩
theorem TxtTab.has {es : Array (Int × Value)} {t : SetTable} (T : TxtTab w L es t) (x : Str) : x ∈ L ↔ ∃ e ∈ es.toList, (strKind P w).is x e.2 = true := by
  have m : x ∈ L ↔ some x ∈ es.toList.map txtOf := by
    rw [T.mem.mem_iff, List.mem_map]
    exact ⟨fun h => ⟨x, h, rfl⟩, fun ⟨y, h, e⟩ => Option.some.inj e ▸ h⟩
  rw [m, List.mem_map]
  exact ⟨fun ⟨e, h, q⟩ => ⟨e, h, (row_is (T.rows e h) x).mpr q⟩, fun ⟨e, h, q⟩ => ⟨e, h, (row_is (T.rows e h) x).mp q⟩⟩
theorem TxtSet.setOf (T : TxtSet w s.heap a L) : s.heap.SetOf (strKind P w) a (fun x => decide (x ∈ L)) L.length := by
  obtain ⟨o, es, ep, t, ho, hx, hd, T⟩ := T
  exact ⟨o, es, ep, t, ho, hx, hd, rows_elems T.rows, fun x => by rw [decide_eq_true_eq]; exact T.has x, T.few, T.fits, T.size⟩
/-- the table stored, and laid anew where it is too full -/
theorem stored {note : Bool → Sem Unit} (quietNote : ∀ (b : Bool) (s₁ : Shared) (Q' : Unit → Shared → Prop), Q' () s₁ → wpAny (model P w) A (note b) Q' E s₁) {o : Obj} {es es' : Array (Int × Value)} {ep : Nat} {t t' : SetTable} {L' : List Str} {wasDummy : Bool} {R : Option Bool → Shared → Prop}
    (ho : s.heap.get? a = some o) (hx : o.ExactSet) (hd : o.data = .set es ep t) (T : TxtTab w L' es' t') (fin : ∀ h', Heap.SameBut a s.heap h' → TxtSet w h' a L' → R (some true) { s with heap := h' }) :
    wpAny (model P w) A (do
      storeSet a es' t'
      if (!wasDummy && t'.tooFull) = true then do
        note (relayAll t' es' (SetTable.grown es'.size)).2.2
        storeSet a (relayAll t' es' (SetTable.grown es'.size)).1 (relayAll t' es' (SetTable.grown es'.size)).2.1
        pure (some true)
      else pure (some true)) R E s := by
  have at1 := L2.store_at (es' := es') (t' := t') ho hd
  have but1 := Heap.SameBut.update s.heap a (Obj.putSet es' t')
  refine wpAny_bind (wpAny_storeSet_of ho hd ?_ (fits_of_scanBound T.few))
  by_cases full : (!wasDummy && t'.tooFull) = true
  · rw [if_pos full]
    have ⟨q1, q2, q3, q4⟩ := And.intro (relayAll_perm t' es' (SetTable.grown es'.size)) (And.intro (relayAll_fits t' es' (SetTable.grown es'.size)) (And.intro (relayAll_ris t' es' (SetTable.grown es'.size)) (relayAll_led t' es' (SetTable.grown es'.size))))
    generalize relayAll t' es' (SetTable.grown es'.size) = r at q1 q2 q3 q4 ⊢
    obtain ⟨es2, t2, b⟩ := r
    simp only at q1 q2 q3 q4 ⊢
    have sz : es2.size = es'.size := by simpa using q1.length_eq
    have few2 : es2.size < scanBound := sz ▸ T.few
    refine wpAny_bind (quietNote b _ _ (wpAny_bind (wpAny_storeSet_of at1 rfl ?_ (fits_of_scanBound few2))))
    have at2 := L2.store_at (es' := es2) (t' := t2) at1 rfl
    refine wpAny_pure (fin _ (but1.trans (Heap.SameBut.update _ a _)) ⟨_, es2, _, t2, at2, hx, rfl, fun e he => T.rows e (q1.mem_iff.mp he), (q1.map txtOf).trans T.mem, T.nd, few2, q2, q3, ?_⟩)
    rw [q4]
    exact T.led
  · rw [if_neg full]
    exact wpAny_pure (fin _ but1 ⟨_, es', _, t', at1, hx, rfl, T⟩)
theorem quiet_note {word : String} (b : Bool) (s₁ : Shared) (Q' : Unit → Shared → Prop) (q : Q' () s₁) : wpAny (model P w) A (match b with | true => rule word | false => pure ()) Q' E s₁ := by
  cases b
  · exact wpAny_pure q
  · exact wpAny_rule q
def putTxt (L : List Str) (x : Str) : List Str := if x ∈ L then L else L ++ [x]
/-- one text more -/
theorem add_hashed {x : Str} {tk : Tok} {Q : Bool → Shared → Prop} (T : TxtSet w s.heap a L) (room : L.length + 1 < scanBound) (fin : ∀ h' b, Heap.SameBut a s.heap h' → TxtSet w h' a (putTxt L x) → Q b { s with heap := h' }) :
    wpAny (model P w) A (setAddHashed a (.str x tk) ((strKind P w).hash x)) Q E s := by
  obtain ⟨o, es, ep, t, ho, hx, hd, T⟩ := T
  have isx : (strKind P w).is x (.str x tk) = true := beq_self_eq_true x
  have scan : (Value.str x tk).scannable = true := rfl
  have els : ElemsOf (strKind P w) es.toList := rows_elems T.rows
  unfold setAddHashed setAddHashedIn
  refine wpAny_holding (wpAny_bind (wpAny_setState_of ho hd T.fits ?_))
  dsimp only
  rw [byScan_of scan T.few els, if_pos rfl]
  unfold setAddByScan
  refine wpAny_bind (wpAny_bind (wpAny_rule (wpAny_bind (wpAny_setScan_of isx ho hd T.fits els ?_))))
  cases found : List.findIdx? (fun e => (strKind P w).is x e.2) es.toList with
  | some j =>
    obtain ⟨lt, is2, -⟩ := List.findIdx?_eq_some_iff_getElem.mp found
    have there : x ∈ L := (T.has (P := P) x).mpr ⟨_, List.getElem_mem lt, is2⟩
    refine wpAny_pure (wpAny_pure (fin s.heap _ (Heap.SameBut.refl a s.heap) ?_))
    unfold putTxt
    rw [if_pos there]
    exact ⟨o, es, ep, t, ho, hx, hd, T⟩
  | none =>
    have new : x ∉ L := fun z => by
      obtain ⟨e, he, q⟩ := (T.has (P := P) x).mp z
      exact absurd q (by rw [List.findIdx?_eq_none_iff.mp found e he]; decide)
    have ⟨q1, q2, q3, q4⟩ := And.intro (layNew_perm t es ((strKind P w).hash x) (.str x tk)) (And.intro (layNew_fits t es ((strKind P w).hash x) (.str x tk)) (And.intro (layNew_ris t es ((strKind P w).hash x) (.str x tk) T.ris) (layNew_led t es ((strKind P w).hash x) (.str x tk))))
    dsimp only
    generalize layNew t es ((strKind P w).hash x) (.str x tk) = lay at q1 q2 q3 q4 ⊢
    obtain ⟨es1, t1, dm, gave⟩ := lay
    simp only at q1 q2 q3 q4 ⊢
    have perm : es1.toList.Perm (es.toList ++ [((strKind P w).hash x, .str x tk)]) := by rw [Array.toList_push] at q1; exact q1
    have eput : putTxt L x = L ++ [x] := if_neg new
    have T1 : TxtTab w (L ++ [x]) es1 t1 := by
      refine ⟨fun e he => ?_, ?_, ?_, ?_, q2, q3, by rw [q4]; exact T.led⟩
      · rcases List.mem_append.mp (perm.mem_iff.mp he) with z | z
        · exact T.rows e z
        · rw [List.mem_singleton.mp z]; exact ⟨x, tk, rfl, rfl⟩
      · have := perm.map txtOf
        rw [List.map_append] at this
        rw [List.map_append]
        exact this.trans (T.mem.append_right _)
      · exact List.nodup_append.mpr ⟨T.nd, by simp, fun y hy z hz e => new (by rw [List.mem_singleton.mp hz] at e; exact e ▸ hy)⟩
      · have : es1.size = es.size + 1 := by simpa using perm.length_eq
        rw [this, T.size]
        exact room
    rw [eput] at fin
    have done : ∀ h', Heap.SameBut a s.heap h' → TxtSet w h' a (L ++ [x]) → Q true { s with heap := h' } := fun h' b r => fin h' true b r
    refine wpAny_bind (quiet_note _ _ _ ?_)
    by_cases pl : t1.plain = true
    · rw [if_pos pl]
      refine wpAny_bind ?_
      rw [hashByValue_scannable 8 scan]
      refine wpAny_pure (stored (fun b s₁ Q' q => quiet_note b s₁ Q' q) ho hx hd ?_ (fun h' b r => wpAny_pure (done h' b r)))
      split
      · exact T1
      · exact ⟨T1.rows, T1.mem, T1.nd, T1.few, SetTable.fits_plain_off T1.fits, T1.ris, T1.led⟩
    · rw [if_neg pl]
      refine wpAny_bind (wpAny_pure (stored (fun b s₁ Q' q => quiet_note b s₁ Q' q) ho hx hd ?_ (fun h' b r => wpAny_pure (done h' b r))))
      exact T1
end
end SX
end
section
/-! ES2: the layer's sets of texts: one text more, a set comprehension of texts, sorted of the set. -/
namespace SX
open PySem PySem.Spec PyProof.Rows L2
section
variable {P : Program} {w : World} {A : Around} {E : Value → Shared → Prop} {s : Shared} {a : Addr} {L : List Str}
/-- set.add of a text -/
theorem call_add {x : Str} {tk : Tok} {Q : Value → Shared → Prop} (T : TxtSet w s.heap a L) (room : L.length + 1 < scanBound) (fin : ∀ h', Heap.SameBut a s.heap h' → TxtSet w h' a (putTxt L x) → Q .none { s with heap := h', toks := s.toks + 1 }) :
    wpAny (model P w) A (call (.builtin "set.add") [.ref a, .str x tk]) Q E s := by
  have as_set := T.setOf (P := P)
  refine wpAny_call_entry F.slot_set_add as_set.typeIs F.entry_set_add ?_ (F.args_set_add_2 _ _)
  unfold Builtin.«set.add» Builtin.Frozenset.oneOther
  simp only [List.isEmpty_nil, bind_assoc]
  unfold Builtin.Frozenset.addrOf setAdd
  refine wpAny_bind (wpAny_pure (wpAny_bind (wpAny_pure (wpAny_bind (wpAny_holding (wpAny_bind ((strKind P w).pyHash (k := x) (beq_self_eq_true x) ?_)))))))
  refine add_hashed (s := { s with toks := s.toks + 1 }) T room fun h' b sb r => ?_
  show wpAny _ _ (ret Value.none) _ _ _
  exact wpAny_pure ⟨_, rfl, fin h' sb r⟩
theorem fresh_set {h : Heap} (w : World) : TxtSet w (h.push { cls := .type "set", dict := none, data := .set #[] 0 (.fresh 0 0 (!w.params.followText "set-order")) }) h.objs.size [] := by
  refine ⟨_, #[], 0, _, Heap.get?_push_size _ rfl, ⟨rfl, rfl, rfl⟩, rfl, ⟨fun e he => (by simp at he), List.Perm.nil, List.nodup_nil, by decide, rfl, List.Pairwise.nil, ?_⟩⟩
  cases hb : w.params.followText "set-order"
  · exact .inr rfl
  · exact .inl rfl
theorem strs_of : ∀ (l : List Value) (xs : List (Option Str)), (∀ v ∈ l, ∃ x tk, v = Value.str x tk) → l.map (fun v => txtOf (0, v)) = xs → ∃ ys, xs = ys.map some ∧ StrsAre l ys
  | [], xs, _, e => ⟨[], by rw [← e]; rfl, .nil⟩
  | v :: l, xs, h, e => by
    obtain ⟨x, tk, rfl⟩ := h v List.mem_cons_self
    obtain ⟨ys, e1, e2⟩ := strs_of l _ (fun u hu => h u (List.mem_cons_of_mem _ hu)) rfl
    exact ⟨x :: ys, by rw [← e, List.map_cons, e1]; rfl, .cons x tk e2⟩
/-- sorted of the set -/
theorem sorted_txts {Q : Value → Shared → Prop} (T : TxtSet w s.heap a L) (hh : A.handled = none) (few : L.length < 64)
    (fin : ∀ s' p (out : Array Value) (c : Nat) (ys : List Str), (∀ b o, s.heap.get? b = some o → s'.heap.get? b = some o) → s'.gens = s.gens → s'.os = s.os → s.heap.objs.size ≤ p → s'.heap.get? p = some (seqObj "list" out c) → StrsAre out.toList ys → ys.Perm L → sortedS ys = true → Q (.ref p) s') :
    wpAny (model P w) A (call (.builtin "sorted") [.ref a]) Q E s := by
  obtain ⟨o, es, ep, t, ho, hx, hd, T⟩ := T
  refine Calls.call_function_entry kind_sorted plain_sorted entry_sorted (args_sorted1 _) ?_
  unfold Builtin.«sorted»
  refine wpAny_bind (m := checkCount "sorted" 1 1 _) (wpAny_pure (wpAny_bind (collect_set (A := A.in1) hh ⟨o, ho, hx.1, hd⟩ T.fits T.few T.ris T.led fun s1 vs old big g1 o1 perm => ?_)))
  have len : vs.length = L.length := by rw [perm.length_eq, List.length_map, Array.length_toList, T.size]
  have every : ∀ v ∈ vs, ∃ x tk, v = Value.str x tk := fun v hv => by
    obtain ⟨e, he, q⟩ := List.mem_map.mp (perm.mem_iff.mp hv)
    obtain ⟨x, tk, e1, -⟩ := T.rows e he
    exact ⟨x, tk, q ▸ e1⟩
  obtain ⟨ys, ey, are⟩ := strs_of vs _ every rfl
  have yL : ys.Perm L := by
    have z0 := perm.map fun v => txtOf (0, v)
    rw [List.map_map] at z0
    have z : (ys.map some).Perm (L.map some) := by
      rw [← ey]
      exact z0.trans T.mem
    have := z.filterMap id
    rwa [List.filterMap_map, List.filterMap_map, show (id ∘ some : Str → Option Str) = some from rfl, List.filterMap_some, List.filterMap_some] at this
  refine wpAny_bind (wpAny_newList ?_ (by rw [len, sizeLine_eq]; omega))
  have lay : (s1.heap.push (seqObj "list" vs.toArray 0)).get? s1.heap.objs.size = some (seqObj "list" vs.toArray 0) := Heap.get?_push_size _ rfl
  refine wpAny_bind (wpAny_holding (wpAny_call_entry slot_list_sort ⟨_, lay, rfl⟩ entry_list_sort (list_sort_treeK strKind_oneLt lay are.keysOf (fun v₁ v₂ rest e => keyKind_strs (ss := ys) (by rw [← e]; exact are)) (by rw [len]; exact few) fun st' p1 p2 => ⟨_, rfl, ?_⟩) (args_list_sort _)))
  obtain ⟨zs, z1, z2, z3⟩ := sorted_out_str are p1 p2
  obtain ⟨c, hc⟩ := sortedHeap_at (vs := vs) (out := (arrOf st').map (·.2)) lay
  refine wpAny_pure ⟨_, rfl, fin _ s1.heap.objs.size _ c zs (fun b u e => ?_) g1 o1 big hc z1 (z2.trans yL) z3⟩
  have e1 := old b u e
  have lt := Heap.lt_size e1
  show (sortedHeap (s1.heap.push (seqObj "list" vs.toArray 0)) s1.heap.objs.size vs _).get? b = some u
  rw [sortedHeap_old (Nat.ne_of_lt lt) (by rw [size_push']; exact Nat.lt_succ_of_lt lt)]
  exact Heap.get?_push_of_some _ e1
end
/-- the set of texts as a tracked object -/
def TxtO (w : World) (a : Addr) (L : List Str) : HO := .ext fun h => TxtSet w h a L
theorem TxtO.new {w : World} {P : Program} {H : Hp} {h : Heap} {a : Addr} {L : List Str} (T : TxtSet w h a L) : ObjOk P w H h a (TxtO w a L) := by
  have ⟨o, _, _, _, ho, _⟩ := T
  exact ⟨T, ⟨o, ho⟩, fun h1 h2 p k => TxtSet.keep p k⟩
section
variable {X : Cx} {pins : List (Addr × Obj)} {σ : L2.St} {H : Hp} {s : Shared}
theorem TxtO.get {a : Addr} {L : List Str} (I : Inv X pins σ H s) (ha : H a = some (TxtO X.w a L)) : TxtSet X.w s.heap a L := (I.hok a _ ha).1
theorem add_ok {E : Value → Shared → Prop} {D : Addr} {L : List Str} {x : Str} {u : Value} {Q : Value → Shared → Prop} (I : Inv X pins σ H s) (hD : H D = some (TxtO X.w D L)) (room : L.length + 1 < scanBound) (ru : RelV (.str x) u)
    (fin : ∀ s', Inv X pins σ (upd H D (TxtO X.w D (putTxt L x))) s' → Q .none s') : wpAny (model X.prog X.w) X.A (call (.builtin "set.add") [.ref D, u]) Q E s := by
  obtain ⟨tk, rfl⟩ := ru
  refine call_add (TxtO.get I hD) room fun h' sb T => fin _ (I.write (e := D) (t' := s.toks + 1) (by rw [hD]; trivial) (.inl rfl) (fun b o ne e => (sb.2 b ne).trans e) ?_ (TxtO.new T))
  have ⟨o, _, _, _, ho, _⟩ := T
  exact ⟨o, ho⟩
/-- sorted(s) -/
def rSortTxt (w : World) : List V → Hp → VK → Prop := fun vs H Q => ∃ (a : Addr) (L : List Str), vs = [.ref a] ∧ H a = some (TxtO w a L) ∧ L.length < 64 ∧ ∀ (ys : List Str) (p : Addr), ys.Perm L → sortedS ys = true → H p = none → Q (.ref p) (upd H p (.lst (ys.map V.str)))
theorem vals_strs : ∀ {vs : List Value} {ys : List Str}, StrsAre vs ys → Vals (ys.map V.str) vs
  | _, _, .nil => .nil
  | _, _, .cons x t h => .cons ⟨t, rfl⟩ (vals_strs h)
theorem cr_sortTxt (hc : X.calm = true) : CallR X (.builtin "sorted") (rSortTxt X.w) := by
  intro pins s σ H xs us Q I r h
  obtain ⟨a, L, rfl, ha, few, q⟩ := h
  cases r with
  | cons rx rr =>
    cases rr
    cases rx
    refine sorted_txts (TxtO.get I ha) (I.ok.hd hc) few fun s' p out c ys old g1 o1 big hp are perm srt => ?_
    have len : ys.length ≤ sizeLine := by rw [perm.length_eq, sizeLine_eq]; omega
    have free : H p = none := I.hok.fresh big
    have new : ObjOk X.prog X.w (upd H p (.lst (ys.map V.str))) s'.heap p (.lst (ys.map V.str)) := ⟨by rw [List.length_map]; exact len, out.toList, c, vals_strs are, hp⟩
    exact ⟨.ref p, upd H p (.lst (ys.map V.str)), I.call' (ch := []) o1 (Un.laid old big free) (I.hok.laid old big new) (by rw [g1]; exact I.bare) (fun _ z => nomatch z), rfl, q ys p perm srt free⟩
end
end SX
end
section
/-! ES3: a set comprehension whose elements are texts. -/
namespace SX
open PySem PySem.Spec PyProof.Rows L2 PpSet
variable {X : Cx}
/-- one turn's end: what goes on from there -/
def tScT (w : World) (wi : TI) (g : TG) (tt : TT) (te : TE) (vs : List Nat) : TE := fun σ H Q => wi σ H fun J H1 => ∀ D, H1 D = none → ∃ W : Nat → Nat → Hp → Prop, (∃ m, W 0 m (upd H1 D (TxtO w D []))) ∧ ∀ i m H, W i m H →
  (J.stop i H ∧ Q (.ref D) H) ∨ (J.go i H ∧ ∃ Nx : Hp → Prop, (∀ H', Nx H' → ∃ m', m' < m ∧ W (i + 1) m' H') ∧ ∀ x H', J.yld i H x H' → g x (wipe σ vs) H' fun σ2 H2 => wipe σ2 vs = wipe σ vs ∧ tt σ2 H2 fun b H3 =>
    if b = true then te σ2 H3 fun y H4 => ∃ (c : Str) (L : List Str), y = .str c ∧ H4 D = some (TxtO w D L) ∧ L.length + 1 < scanBound ∧ Nx (upd H4 D (TxtO w D (putTxt L c))) else Nx H3)
abbrev newS (w : World) (h : Heap) : Heap := h.push { cls := .type "set", dict := none, data := .set #[] 0 (.fresh 0 0 (!w.params.followText "set-order")) }
theorem pe_scT {elt tg iter : Expr} {ifs : List Expr} {scope : Scope} {own : List (Str × Nat)} {pos : Pos} {wi : TI} {g : TG} {tt : TT} {te : TE} (calm : X.calm = true) (nd : X.N.Nodup) (walks : PI X tg iter wi) (blk : BlkOk X.N X.env.scope scope own)
    (pg : ∀ (s : Shared) (H : Hp) (C : Addr) (cl : List (Str × Addr)) (fp : List Addr), PG (X.blk s H scope (compEnvC scope cl C X.env) fp) tg g)
    (pt : ∀ (s : Shared) (H : Hp) (C : Addr) (cl : List (Str × Addr)) (fp : List Addr), PTs (X.blk s H scope (compEnvC scope cl C X.env) fp) ifs tt)
    (pe : ∀ (s : Shared) (H : Hp) (C : Addr) (cl : List (Str × Addr)) (fp : List Addr), PE (X.blk s H scope (compEnvC scope cl C X.env) fp) elt te) (plainIter : ∀ x, foldedSetIterable iter X.env x = pure x) :
    PE X (.SetComp elt [⟨tg, iter, ifs, 0⟩] scope pos) (tScT X.w wi g tt te (own.map (·.2))) := by
  refine ⟨fun pins s σ H Q I want => ?_⟩
  have cellsThere : ∀ y ∈ scope.names, y.2 = .free → ∃ c, X.env.cells.lookup y.1 = some c := fun y hy e => (blk.free y hy e).elim (fun k => I.ok.has _ (.inl k)) fun k => I.ok.has _ (.inr k)
  rw [eval_SetComp]
  refine wpAny_comprehension_free (use := none) rfl plainIter (closure_ok cellsThere) blk.kind (fun y hy e => by rw [blk.uniq y hy, e]) (thn (walks.run pins s σ H _ I want) fun xv s1 r1 => thn r1 fun itv s2 r2 => ?_)
  obtain ⟨it, fp, tn, J, Hb, rfl, Ib, T, st0, foot, rest⟩ := r2
  obtain ⟨D, hD⟩ : ∃ D, s2.heap.objs.size = D := ⟨_, rfl⟩
  have freeD : Hb D = none := Ib.hok.fresh (Nat.le_of_eq hD)
  obtain ⟨W, ⟨m0, w0⟩, turns⟩ := rest D freeD
  refine newSet_ok (newEnv_comp ?_)
  obtain ⟨s3, hs3⟩ : ∃ s3 : Shared, ({ s2 with heap := newS X.w s2.heap } : Shared) = s3 := ⟨_, rfl⟩
  have heap3 : s3.heap = newS X.w s2.heap := by rw [← hs3]
  have I3 : Inv X pins σ (upd Hb D (TxtO X.w D [])) s3 := by
    subst hs3
    exact Ib.laid (t' := s2.toks) (fun b o e => Heap.get?_push_of_some _ e) (Nat.le_of_eq hD) (by rw [← hD]; exact TxtO.new (fresh_set X.w))
  obtain ⟨H3, hH3⟩ : ∃ H3, upd Hb D (TxtO X.w D []) = H3 := ⟨_, rfl⟩
  rw [hH3] at I3 w0
  have foot3 : ∀ b ∈ fp, FpOk X pins H3 b ∧ b < s3.heap.objs.size := by
    intro b hb
    obtain ⟨o, e, -⟩ := T.obj _ _ st0 b hb
    have lt := Heap.lt_size e
    refine ⟨⟨?_, (foot b hb).2⟩, by rw [heap3]; show b < (s2.heap.push _).objs.size; rw [Heap.size_push]; exact Nat.lt_succ_of_lt lt⟩
    rw [← hH3, upd_ne (by rw [← hD]; exact Nat.ne_of_lt lt)]
    exact (foot b hb).1
  have st3 : tn 0 s3.heap := T.keep _ _ _ st0 fun b _ o e => by rw [heap3]; exact Heap.get?_push_of_some _ e
  obtain ⟨cells, hcells⟩ : ∃ cells, cellsFrom (s3.heap.objs.size + 1) scope.names (cloFrom X.env.cells scope.names []) = cells := ⟨_, rfl⟩
  have inBlk := block_start I3 blk nd foot3
  have g3 := pg s3 H3 s3.heap.objs.size cells fp
  have t3 := pt s3 H3 s3.heap.objs.size cells fp
  have e3 := pe s3 H3 s3.heap.objs.size cells fp
  rw [hcells] at inBlk
  have gone : ∀ b ∈ fp, H3 b = none := fun b hb => (foot3 b hb).1.1
  have goal : codeAny (model X.prog X.w) X.A (.compStart (.SetComp elt [⟨tg, iter, ifs, 0⟩] scope pos) 0 (.ref it) (.ref D) (compEnvC scope cells s3.heap.objs.size X.env)) (compPost (model X.prog X.w) X.A X.xe none (EP X pins σ Q) (.ref D) s3.heap.objs.size)
      { s3 with heap := pushCells (s3.heap.push { cls := .type "dict", data := .dict #[] }) scope.names } := by
    obtain ⟨ce, hce⟩ : ∃ ce, compEnvC scope cells s3.heap.objs.size X.env = ce := ⟨_, rfl⟩
    rw [hce] at inBlk g3 t3 e3 ⊢
    have loc : ce.locals = s3.heap.objs.size := by rw [← hce]; rfl
    obtain ⟨s4, hs4⟩ : ∃ s4 : Shared, ({ s3 with heap := pushCells (s3.heap.push { cls := .type "dict", data := .dict #[] }) scope.names } : Shared) = s4 := ⟨_, rfl⟩
    rw [hs4] at inBlk ⊢
    have st4 : tn 0 s4.heap := T.keep _ _ _ st3 fun b _ o e => by rw [← hs4]; exact pushCells_keeps _ _ _ _ (Heap.get?_push_of_some _ e)
    have feet : ∀ {σ' : L2.St} {H' : Hp} {s' : Shared}, Inv (X.blk s3 H3 scope ce fp) [] σ' H' s' → (∀ b ∈ fp, H' b = none) → ∀ b ∈ fp, FpOk (X.blk s3 H3 scope ce fp) [] H' b := fun {σ' H' s'} J' none' b hb =>
      ⟨none' b hb, (J'.ok.exf b hb).1, J'.ok.exfs b hb, .inl hb, fun x c e => (J'.ok.exf b hb).2 x c e, fun p hp => absurd (show p ∈ ([] : List (Addr × Obj)) ++ [] from hp) (by simp)⟩
    have run : codeAny (model X.prog X.w) X.A (.compLoop (.SetComp elt [⟨tg, iter, ifs, 0⟩] scope pos) 0 (.ref it) (.ref D) ce) (compPost (model X.prog X.w) X.A X.xe none (EP X pins σ Q) (.ref D) s3.heap.objs.size) s4 := by
      refine compLoopS_any (fun n s' => ∃ i H', Inv (X.blk s3 H3 scope ce fp) [] (wipe σ (own.map (·.2))) H' s' ∧ tn i s'.heap ∧ (∀ b ∈ fp, H' b = none) ∧ W i n H') ?_ m0 ⟨0, H3, inBlk, st4, gone, w0⟩
      rintro n s5 ⟨i, H5, I5, st5, none5, w5⟩
      obtain ⟨stop, fin⟩ | ⟨go, Nx, next, step⟩ := turns i n H5 w5
      · refine thnF (T.done (X.blk s3 H3 scope ce fp) rfl rfl rfl calm i [] s5 _ H5 (fun _ _ => False) I5 (feet I5 none5) st5 stop) fun r s6 ⟨er, I6⟩ => ?_
        subst er
        have back : Inv X pins σ H5 s6 := I3.call' (ch := fp) I6.os I6.base I6.hok I6.bare fun b hb => have q := (foot3 b hb).1.2; ⟨q.2.2.1, q.1, q.2.2.2.1, q.2.2.2.2⟩
        have noC : H5 s3.heap.objs.size = none := loc ▸ (show H5 ce.locals = none from I6.free)
        obtain ⟨m, hn, -⟩ := I6.loc
        have ns : s6.heap.Ns s3.heap.objs.size m := loc ▸ (show s6.heap.Ns ce.locals m from hn)
        obtain ⟨f0, f1, f2, f3, f4, f5⟩ := I3.fpOk (Nat.le_refl _) noC
        exact ⟨m, ns, fun h'' sb => ⟨.ref D, H5, back.turned (t' := s6.toks) (fun b o hb e => (sb.2 b hb).trans e) f0 f1 f3 f4 f5, rfl, fin⟩⟩
      · refine thnF (T.item (X.blk s3 H3 scope ce fp) rfl rfl rfl calm i [] s5 _ H5 (fun _ _ => False) I5 (feet I5 none5) st5 go) fun r s6 ⟨u, er, r6⟩ => ?_
        subst er
        refine thnF r6 fun _ s7 ⟨x, H7, I7, rx, y7, st7, none7⟩ => ?_
        refine thnF (g3.run _ s7 _ H7 x u _ (I7.pinned (feet I7 none7) (T.obj _ _ st7)) rx (step x H7 y7)) fun _ s8 ⟨σ8, H8, I8, same8, q8⟩ => thnF (t3.run _ s8 σ8 H8 _ I8 q8) fun b s9 ⟨H9, I9, q9⟩ => ?_
        have on : ∀ {s' : Shared} {H' : Hp}, Inv (X.blk s3 H3 scope ce fp) ([] ++ pinsAt fp s7.heap) σ8 H' s' → Nx H' → ∃ m, m < n ∧ ∃ i H', Inv (X.blk s3 H3 scope ce fp) [] (wipe σ (own.map (·.2))) H' s' ∧ tn i s'.heap ∧ (∀ b ∈ fp, H' b = none) ∧ W i m H' := by
          intro s' H' J' nx
          obtain ⟨m', lt, w'⟩ := next H' nx
          have still : ∀ b ∈ fp, ∀ o, s7.heap.get? b = some o → s'.heap.get? b = some o ∧ H' b = none := fun b hb o e =>
            have z := J'.pin (b, o) (List.mem_append_right _ (List.mem_append_right _ (mem_pinsAt hb e)))
            ⟨z.1, z.2.1⟩
          refine ⟨m', lt, i + 1, H', (J'.unpinned (pins := [])).weak (by rw [← same8, wipe_length]) (fun j v e => (wipe_some (same8 ▸ e)).1), T.keep _ _ _ st7 fun b hb o e => (still b hb o e).1, fun b hb => ?_, w'⟩
          obtain ⟨o, e, -⟩ := T.obj _ _ st7 b hb
          exact (still b hb o e).2
        cases b
        · exact on I9 q9
        · refine thnF (e3.run _ s9 σ8 H9 _ I9 q9) fun z s10 ⟨yv, H10, I10, rz, c, L, ey, atD, room, nx⟩ => ?_
          subst ey
          exact add_ok (X := X.blk s3 H3 scope ce fp) I10 atD room rz fun s11 I11 => on I11 nx
    exact codeAny_compStart_set run (T.self X.A 0 _ _ _ st4 run)
  rw [← hcells] at goal
  subst hs3
  rw [hD]
  exact goal
end SX
end
section
/-! ES4: sorted of a set comprehension of texts, as a function of data. -/
namespace DL
open PySem PySem.Spec PyProof.Rows L2 SX Srt SrtO
open LamX (Tabs TabS ExtN)
section
variable {K : PySem.W.Frag} {W : WG} {ρ ρ' ρ1 : Pl} {H H' H1 : Hp} {σ : L2.St}
/-- an object that is being made at p, and that nobody knows yet -/
structure Hiding (K : PySem.W.Frag) (ρ0 : Pl) (H0 : Hp) (p : Addr) (ρ : Pl) (H : Hp) (st : Store) (o : HO) : Prop where
  free : H0 p = none
  stay : StayF ρ0 H0 ρ H
  hh : ρ.h = p :: ρ0.h
  hid : ∀ a ∈ ρ0.h, H a = H0 a
  st : RelSt K ρ H st
  at_ : H p = some o
  tt : ρ.T = ρ0.T
theorem Hiding.start {st : Store} {p : Addr} {o : HO} (r : RelSt K ρ H st) (h : H p = none) (ho : hidable o) : Hiding K ρ H p (ρ.hide p) (upd H p o) st o := by
  have old : ∀ {a : Addr} {u : HO}, H a = some u → upd H p o a = some u := fun {a u} e => by rw [upd_ne (ne_of_none e h)]; exact e
  have sy : StayF ρ H (ρ.hide p) (upd H p o) := ⟨⟨fun _ _ e => e, fun a u e _ n => ⟨old e, n.1, fun m => (List.mem_cons.mp m).elim (ne_of_none e h) n.2⟩⟩, fun a ob u e => old e⟩
  refine ⟨h, sy, rfl, fun a ha => ?_, ⟨r.len, r.nd, fun n a u e1 e2 => ?_, fun a ha hm => ?_, fun a ha => ?_, r.tabs.ext fun b u e => old e, fun a ha => ?_⟩, upd_same, rfl⟩
  · obtain ⟨u, e⟩ := r.hid a ha
    exact upd_ne (ne_of_none e h)
  · obtain ⟨w, q⟩ := (r.at_ n a u e1 e2).there
    exact (r.at_ n a u e1 e2).stay sy.toStay (upd_ne (ne_of_none q h))
  · rcases List.mem_cons.mp hm with m | m
    · exact (r.notin h).1 (m ▸ ha)
    · exact r.dis a ha m
  · rcases List.mem_cons.mp ha with m | m
    · exact ⟨_, by rw [m]; exact upd_same⟩
    · obtain ⟨u, e⟩ := r.hid a m
      exact ⟨u, old e⟩
  · rcases List.mem_cons.mp ha with m | m
    · exact ⟨o, by rw [m]; exact upd_same, ho⟩
    · obtain ⟨u, e, q⟩ := r.ht a m
      exact ⟨u, old e, q⟩
theorem Hiding.ext {ρ0 : Pl} {H0 : Hp} {p : Addr} {st st' : Store} {o : HO} (m : Hiding K ρ0 H0 p ρ H st o) (e : Ext ρ H ρ' H') (s : RelSt K ρ' H' st') : Hiding K ρ0 H0 p ρ' H' st' o :=
  ⟨m.free, m.stay.trans e.stayF, e.hh.trans m.hh, fun a ha => (e.hid a (by rw [m.hh]; exact List.mem_cons_of_mem _ ha)).trans (m.hid a ha), s, (e.hid p (by rw [m.hh]; exact List.mem_cons_self)).trans m.at_, e.tt.trans m.tt⟩
theorem Hiding.put {ρ0 : Pl} {H0 : Hp} {p : Addr} {st : Store} {o o' : HO} (m : Hiding K ρ0 H0 p ρ H st o) (ho : hidable o) (ho' : hidable o') : Hiding K ρ0 H0 p ρ (upd H p o') st o' ∧ StayF ρ H ρ (upd H p o') := by
  have hm : p ∈ ρ.h := by rw [m.hh]; exact List.mem_cons_self
  have other : ∀ {a : Addr} {u : HO}, H a = some u → o ≠ u → upd H p o' a = some u := fun {a u} e q => by
    rw [upd_ne fun z => by rw [z, m.at_] at e; exact q (Option.some.inj e)]
    exact e
  have sy : StayF ρ H ρ (upd H p o') := ⟨⟨fun _ _ e => e, fun a u e _ n => ⟨by rw [upd_ne (a := p) (b := a) fun z => n.2 (by rw [z]; exact hm)]; exact e, n⟩⟩, fun a ob u e => other e (ho.frz ob u)⟩
  have np : ∀ a ∈ ρ.r, a ≠ p := fun a ha z => m.st.dis a ha (by rw [z]; exact hm)
  have tb : Tabs ρ.T (upd H p o') := by
    intro q hq
    obtain ⟨ps, h1, h2, h3⟩ := m.st.tabs q hq
    refine ⟨ps, other h1 (fun z => by rw [z] at ho; cases ho.tbl), h2, fun pos cv hcv => ?_⟩
    obtain ⟨c, e1, e2⟩ := h3 pos cv hcv
    refine ⟨c, e1, ?_⟩
    exact other e2 (ho.code c _)
  refine ⟨⟨m.free, m.stay.trans sy, m.hh, fun a ha => ?_, ⟨m.st.len, m.st.nd, fun n a u e1 e2 => (m.st.at_ n a u e1 e2).stay sy.toStay (upd_ne (np a (List.mem_of_getElem? e1))), m.st.dis, fun a ha => ?_, tb, fun a ha => ?_⟩, upd_same, m.tt⟩, sy⟩
  · have h1 := m.hid a ha
    obtain ⟨u, e⟩ := m.st.hid a (by rw [m.hh]; exact List.mem_cons_of_mem _ ha)
    rw [upd_ne fun z => by rw [z, m.at_] at h1; rw [← z] at h1; have := m.free; rw [← z, ← h1] at this; cases this]
    exact h1
  · by_cases z : a = p
    · exact ⟨_, by rw [z]; exact upd_same⟩
    · obtain ⟨u, e⟩ := m.st.hid a ha
      exact ⟨u, by rw [upd_ne z]; exact e⟩
  · by_cases z : a = p
    · exact ⟨o', by rw [z]; exact upd_same, ho'⟩
    · obtain ⟨u, e, q⟩ := m.st.ht a ha
      exact ⟨u, by rw [upd_ne z]; exact e, q⟩
theorem Hiding.done {ρ0 : Pl} {H0 : Hp} {p : Addr} {st : Store} {o : HO} (m : Hiding K ρ0 H0 p ρ H st o) : Ext ρ0 H0 ⟨ρ.r, ρ0.h, ρ.T⟩ H ∧ RelSt K ⟨ρ.r, ρ0.h, ρ.T⟩ H st := by
  have sy : Stay ρ H ⟨ρ.r, ρ0.h, ρ.T⟩ H := ⟨fun _ _ e => e, fun a u e _ n => ⟨e, n.1, fun z => n.2 (by rw [m.hh]; exact List.mem_cons_of_mem _ z)⟩⟩
  have sy2 := m.stay.toStay.trans sy
  have up : ∀ {a : Addr}, a ∈ ρ0.h → a ∈ ρ.h := fun {a} z => by rw [m.hh]; exact List.mem_cons_of_mem _ z
  exact ⟨⟨sy2.pre, sy2.keep, rfl, m.hid, m.tt, m.stay.fz⟩, ⟨m.st.len, m.st.nd, fun n a u e1 e2 => (m.st.at_ n a u e1 e2).stay sy rfl, fun a ha hb => m.st.dis a ha (up hb), fun a ha => m.st.hid a (up ha), m.st.tabs, fun a ha => m.st.ht a (up ha)⟩⟩
end
theorem TxtO.hidable (w : World) (a : Addr) (L : List Str) : hidable (TxtO w a L) := by
  refine ⟨rfl, fun c q h => ?_, fun ob u h => by cases h⟩
  unfold TxtO LamX.CodeO at h
  injection h with h
  let cell : Obj := { cls := .none, data := .fields #[.none, .str q 0] }
  let hp : Heap := { objs := (Array.replicate c { cls := .none, data := .freed }).push cell }
  have at_c : hp.get? c = some cell := by
    have e : hp.objs[c]? = some cell := by
      show ((Array.replicate c ({ cls := .none, data := .freed } : Obj)).push cell)[c]? = some cell
      rw [Array.getElem?_push, if_pos (by simp)]
    unfold Heap.get?
    rw [e]
  have yes : ∃ (oc : Obj) (vs : Array Value) (t : Tok), hp.get? c = some oc ∧ oc.data = .fields vs ∧ vs[1]? = some (.str q t) := ⟨cell, _, 0, at_c, rfl, rfl⟩
  have no : TxtSet w hp a L := (congrFun h hp).mpr yes
  obtain ⟨o, es, ep, t, ho, -, hd, -⟩ := no
  by_cases e : a = c
  · rw [e, at_c] at ho
    cases ho
    cases hd
  · have none_ : hp.get? a = none := by
      unfold Heap.get?
      simp only [hp]
      rcases Nat.lt_trichotomy a c with z | z | z
      · rw [Array.getElem?_push, if_neg (by simpa using e)]
        simp [z]
      · exact absurd z e
      · rw [Array.getElem?_eq_none (by simp; omega)]
    rw [none_] at ho
    cases ho
/-! texts in order -/
def ltS (x y : Str) : Bool := decide (x.cps.toList < y.cps.toList)
def sortS (l : List Str) : List Str := isort ltS l
/-- the texts of a set comprehension -/
def scL (chk : Store → Bool) (c : CT) (tt : FF Bool) (te : FF D) (env0 : Env') : List D → List Str → Store → Option (List Str × Store)
  | [], acc, st => if chk st then some (acc, st) else none
  | x :: r, acc, st => if chk st then (match bindT c x env0 with
    | some env1 => match tt env1 st with
      | .ok true st1 => match te env1 st1 with
        | .ok (.str y) st2 => if acc.length < 63 then scL chk c tt te env0 r (putTxt acc y) st2 else none
        | _ => none
      | .ok false st1 => scL chk c tt te env0 r acc st1
      | _ => none
    | none => none) else none
def fsortSC (fi : FF Items) (c : CT) (tt : FF Bool) (te : FF D) (vs : List Nat) : FF D := fun env st => (fi env st).bind fun it st1 => match scL it.chk c tt te (wipeE env vs) it.xs [] st1 with
  | some (acc, st2) => .ok (.lst ((sortS acc).map D.str)) st2
  | none => .stuck
theorem scL_chk {chk : Store → Bool} {c : CT} {tt : FF Bool} {te : FF D} {env0 : Env'} {l : List D} {acc : List Str} {st : Store} {r : List Str × Store} (h : scL chk c tt te env0 l acc st = some r) : chk st = true := by
  cases l <;> (unfold scL at h; split at h; assumption; cases h)
theorem put_len (l : List Str) (x : Str) : (putTxt l x).length ≤ l.length + 1 := by
  unfold putTxt
  split
  · omega
  · simp
theorem ltS_key (x y : Str) : ltS x y = ltKey (.inr x) (.inr y) := rfl
theorem swo_S : Swo ltS := by
  refine ⟨fun x y h => ltKey_asym (a := .inr x) (b := .inr y) h, fun x y z h1 h2 => ?_⟩
  cases h : ltS z x with
  | false => rfl
  | true =>
    cases h3 : ltS x y with
    | true =>
      have := ltKey_trans (a := .inr z) (b := .inr x) (c := .inr y) h h3
      rw [ltS_key] at h2
      rw [this] at h2
      cases h2
    | false =>
      have e : (.inr x : L2.Key) = .inr y := ltKey_tri h3 h1
      cases e
      rw [h] at h2
      cases h2
theorem ltS_tri {x y : Str} (h1 : ltS x y = false) (h2 : ltS y x = false) : x = y := Sum.inr.inj (ltKey_tri (a := .inr x) (b := .inr y) h1 h2)
abbrev upS (l : List Str) : Prop := l.Pairwise fun a b => ltS b a = false
theorem up_uniq : ∀ (l1 l2 : List Str), l1.Perm l2 → upS l1 → upS l2 → l1 = l2
  | [], l2, p, _, _ => (List.nil_perm.mp p).symm
  | a :: r, [], p, _, _ => absurd p.length_eq (by simp)
  | a :: r, b :: s, p, h1, h2 => by
    have e : a = b := by
      rcases List.mem_cons.mp (p.mem_iff.mp List.mem_cons_self) with m | m
      · exact m
      · rcases List.mem_cons.mp (p.mem_iff.mpr List.mem_cons_self) with m2 | m2
        · exact m2.symm
        · exact ltS_tri ((List.pairwise_cons.mp h2).1 a m) ((List.pairwise_cons.mp h1).1 b m2)
    subst e
    rw [up_uniq r s (List.perm_cons a |>.mp p) (List.pairwise_cons.mp h1).2 (List.pairwise_cons.mp h2).2]
theorem rises_up : ∀ (r : List Str) (x : Str), risingS x r = true → upS (x :: r)
  | [], x, _ => List.pairwise_singleton _ _
  | y :: r, x, h => by
    unfold risingS at h
    simp only [Bool.and_eq_true, Bool.not_eq_true'] at h
    have h2 := rises_up r y h.2
    have hxy : ltS y x = false := by
      have := h.1
      rw [ltCps_eq] at this
      exact this
    refine List.pairwise_cons.mpr ⟨fun z hz => ?_, h2⟩
    rcases List.mem_cons.mp hz with rfl | hz
    · exact hxy
    · exact swo_S.tr x y z hxy ((List.pairwise_cons.mp h2).1 z hz)
theorem sorted_up {l : List Str} (h : sortedS l = true) : upS l := by
  cases l with
  | nil => exact List.Pairwise.nil
  | cons x r => exact rises_up r x h
theorem sort_uniq {ys L : List Str} (p : ys.Perm L) (h : sortedS ys = true) : ys = sortS L := by
  have q := isort_ok swo_S L
  exact up_uniq ys _ (p.trans q.2.perm.symm) (sorted_up h) q.1
end DL
end
section
/-! ES5: sorted({elt for .. in .. if ..}), elt a text. -/
namespace DL
open PySem PySem.Spec PyProof.Rows L2 SX
variable {X : Cx} {W : WG}
theorem tScT_of {K : PySem.W.Frag} {w : World} {fi : FF Items} {c : CT} {tt : FF Bool} {te : FF D} {vs : List Nat} {σ : L2.St} {H : Hp} {Q : VK} (hv : ∀ i ∈ c.vars, i ∈ vs) (h : lE K W (fsortSC fi c tt te vs) σ H Q) :
    tScT w (lI K W fi) (gCT K c) (lT K W.nf tt) (lE K W.nf te) vs σ H fun v H2 => rSortTxt w [v] H2 Q := by
  obtain ⟨ρ, env, st, g, o⟩ := h
  refine ⟨ρ, env, st, g, ?_⟩
  unfold fsortSC at o
  cases hf : fi env st with
  | exc x st1 => rw [hf] at o; exact o
  | stuck => rw [hf] at o; exact o.elim
  | ok it st1 =>
    rw [hf] at o
    intro ρ1 H1 J P e1 s1 hP hI hchk Da nD
    have o1 : OutE K W ρ1 H1 σ (match scL it.chk c tt te (wipeE env vs) it.xs [] st1 with
      | some (acc, st2) => .ok (.lst ((sortS acc).map D.str)) st2
      | none => .stuck) Q := OutR.from_ e1 o
    have g1 := g.ext e1 s1
    have mk0 := Hiding.start s1 nD (TxtO.hidable w Da [])
    have reach : ∀ {ρ2 : Pl} {H2 : Hp}, Stay ρ1 H1 ρ2 H2 → RelEnv K ρ2 H2 (wipeE env vs) (wipe σ vs) := fun s => (g1.env.stay s).wiped vs
    refine ⟨fun i n H2 => ∃ ρ2 st2 acc, n = it.xs.length - i ∧ i ≤ it.xs.length ∧ Hiding K ρ1 H1 Da ρ2 H2 st2 (TxtO w Da acc) ∧ acc.length < 64 ∧ P ρ2 H2 ∧ ∃ r, scL it.chk c tt te (wipeE env vs) (it.xs.drop i) acc st2 = some r ∧ OutE K W ρ1 H1 σ (.ok (.lst ((sortS r.1).map D.str)) r.2) Q, ?_, ?_⟩
    · cases hr : scL it.chk c tt te (wipeE env vs) it.xs [] st1 with
      | none => rw [hr] at o1; exact o1.elim
      | some r => rw [hr] at o1; exact ⟨_, _, st1, [], rfl, Nat.zero_le _, mk0, by decide, hI.stay _ _ _ _ mk0.stay hP, r, by simpa using hr, o1⟩
    · rintro i n H2 ⟨ρ2, st2, acc, rfl, hle, mk, hl, hP2, r, hr, o2⟩
      have hc2 := scL_chk hr
      by_cases hlt : i < it.xs.length
      · refine .inr ⟨hI.go ρ2 H2 st2 i mk.st hc2 hP2 hlt, _, fun H' q => q, fun x H' y => ?_⟩
        obtain ⟨ρ3, e3, s3, r3⟩ := hI.yld ρ2 H2 st2 i _ x H' mk.st hc2 hP2 (List.getElem?_eq_getElem hlt) y
        have mk3 := mk.ext e3 s3
        rw [List.drop_eq_getElem_cons hlt] at hr
        unfold scL at hr
        rw [if_pos hc2] at hr
        split at hr
        · rename_i env1 hb
          refine ct_walk (reach mk3.stay.toStay) r3 hb fun σ' re' hl' hk' => ⟨?_, ρ3, env1, st2, ⟨re', s3, e3.tt.trans (mk.tt.trans g1.tt), .none rfl rfl⟩, ?_⟩
          · have : wipe σ' vs = wipe (wipe σ vs) vs := wipe_ext hl' fun j hj => hk' j fun z => hj (hv j z)
            rw [this]
            exact wipe_ext (wipe_length _ _) fun j hj => by rw [wipe_get, if_neg hj]
          · split at hr
            · rename_i st3 ht
              rw [ht]
              intro ρ4 H4 k e4 s4 r4
              cases r4
              rw [if_pos rfl]
              have mk4 := mk3.ext e4 s4
              refine ⟨ρ4, env1, st3, ⟨re'.ext e4, s4, (e3.trans e4).tt.trans (mk.tt.trans g1.tt), .none rfl rfl⟩, ?_⟩
              split at hr
              · rename_i y st4 hy
                rw [hy]
                split at hr
                · rename_i hlen
                  intro ρ5 H5 v e5 s5 r5
                  have mk5 := mk4.ext e5 s5
                  obtain ⟨mk6, sy⟩ := mk5.put (TxtO.hidable w Da acc) (TxtO.hidable w Da (putTxt acc y))
                  have ev : v = .str y := by cases r5; rfl
                  have hroom : acc.length + 1 < scanBound := by unfold scanBound; omega
                  refine ⟨y, acc, ev, mk5.at_, hroom, _, (by omega : it.xs.length - (i + 1) < it.xs.length - i), ρ5, st4, _, rfl, hlt, mk6, by have := put_len acc y; omega, hI.stay _ _ _ _ ((e3.trans (e4.trans e5)).stayF.trans sy) hP2, r, hr, o2⟩
                · cases hr
              · cases hr
            · rename_i st3 ht
              rw [ht]
              intro ρ4 H4 k e4 s4 r4
              cases r4
              rw [if_neg Bool.false_ne_true]
              exact ⟨_, (by omega : it.xs.length - (i + 1) < it.xs.length - i), ρ4, st3, acc, rfl, hlt, mk3.ext e4 s4, hl, hI.stay _ _ _ _ (e3.trans e4).stayF hP2, r, hr, o2⟩
            · cases hr
        · cases hr
      · have hi' : i = it.xs.length := by omega
        subst hi'
        refine .inl ⟨hI.stop ρ2 H2 st2 _ mk.st hc2 hP2 rfl, ?_⟩
        rw [List.drop_length] at hr
        unfold scL at hr
        rw [if_pos hc2] at hr
        cases hr
        obtain ⟨h1, h2⟩ := mk.done
        refine ⟨Da, acc, rfl, mk.at_, hl, fun ys p perm srt hp => ?_⟩
        rw [sort_uniq perm srt]
        have e2 := Ext.new (o := .lst ((sortS acc).map V.str)) h2 hp
        refine o2 _ _ _ (h1.trans e2) (h2.new hp) ?_
        have rel : ∀ l : List Str, RelDs K ⟨ρ2.r, ρ1.h, ρ2.T⟩ (upd H2 p (.lst ((sortS acc).map V.str))) (l.map D.str) (l.map V.str) := fun l => by
          induction l with
          | nil => exact .nil
          | cons x l ih => exact .cons (.str x) ih
        exact .lst upd_same (h2.notin hp) (rel _)
theorem de_sortSC {pos p cpos : Pos} {tg iter elt : Expr} {fi : FF Items} {c : CT} {tt : FF Bool} {te : FF D} {scope : Scope} {own : List (Str × Nat)} {ifs : List Expr} (hg : Gl X "sorted") (hm : X.mg "sorted" = none) (hc : X.calm = true) (hN : X.N.Nodup) (hi : DI X W tg iter fi) (ok : BlkOk X.N X.env.scope scope own)
    (hgt : ∀ (s : Shared) (H : Hp) (C : Addr) (cl : List (Str × Addr)) (fp : List Addr), PG (X.blk s H scope (compEnvC scope cl C X.env) fp) tg (gCT X.K c))
    (ht : ∀ (s : Shared) (H : Hp) (C : Addr) (cl : List (Str × Addr)) (fp : List Addr), PTs (X.blk s H scope (compEnvC scope cl C X.env) fp) ifs (lT X.K W.nf tt))
    (he : ∀ (s : Shared) (H : Hp) (C : Addr) (cl : List (Str × Addr)) (fp : List Addr), DE (X.blk s H scope (compEnvC scope cl C X.env) fp) W.nf elt te) (hs : noSet iter = true) (hv : ∀ i ∈ c.vars, i ∈ own.map (·.2)) :
    DE X W (.Call (.Name "sorted" p) [.SetComp elt [⟨tg, iter, ifs, 0⟩] scope cpos] [] pos) (fsortSC fi c tt te (own.map (·.2))) :=
  PE.imp (pe_callB (cr_sortTxt hc) hg hm PyProof.Rows.Boot.«sorted» (pa_cons (pe_scT hc hN hi ok hgt ht he fun x => folded_val hs) pa_nil (by rfl)) (by decide) (by decide) (by rfl) (by rfl)) fun σ H Q h => tScT_of (w := X.w) hv h
end DL
end
section
/-! ES6: a tuple or a list unpacked into targets, one of them with a star. -/
namespace DL
open PySem PySem.Spec PySem.W PyProof.Rows L2 SX
section
variable {X : Cx} {W : WG} {pos : Pos}
/-- what the targets before a star, the star's own and k behind it get: the star's a new list -/
def gTupS (K : PySem.W.Frag) (n k : Nat) (t : TGs) : TG := fun v σ H Q => ∃ a xs, v = .ref a ∧ (SqL K H a xs ∨ SqT K H a xs) ∧ n + k ≤ xs.length ∧ xs.length ≤ 16384 ∧ ∀ p, H p = none → t (xs.take n ++ [.ref p] ++ xs.drop (xs.length - k)) σ (upd H p (.lst ((xs.drop n).take (xs.length - n - k)))) Q
section
variable {s : Shared} {its : Array Value} {n k : Nat} {pins : List (Addr × Obj)} {σ : L2.St} {H : Hp} {xs : List V} {Qv : List Value → Shared → Prop} {E : Value → Shared → Prop}
/-- what is left is collected: the new list, the values in order -/
theorem star_rest {h₂ : Heap} {tk : Nat} (rv : Vals xs its.toList) (lx : its.size = xs.length) (hle : n + k ≤ xs.length) (hsz : xs.length ≤ 16384) (I1 : Inv X pins σ H { s with heap := h₂, toks := tk })
    (fin : ∀ p s', H p = none → Inv X pins σ (upd H p (.lst ((xs.drop n).take (xs.length - n - k)))) s' → Vals (xs.take n ++ [.ref p] ++ xs.drop (xs.length - k)) (its.toList.take n ++ [.ref p] ++ its.toList.drop (xs.length - k)) → Qv (its.toList.take n ++ [.ref p] ++ its.toList.drop (xs.length - k)) s') :
    wpAny (model X.prog X.w) X.A (newList ((its.toList.drop n).take (xs.length - n - k)) >>= fun d => pure (its.toList.take n ++ [d] ++ its.toList.drop (xs.length - k))) Qv E { s with heap := h₂, toks := tk } := by
  have lm : ((its.toList.drop n).take (xs.length - n - k)).length ≤ xs.length := by
    rw [List.length_take, List.length_drop, Array.length_toList]
    omega
  refine wpAny_bind (wpAny_newList (wpAny_pure ?_) (by rw [sizeLine_eq]; omega))
  have vm : Vals ((xs.drop n).take (xs.length - n - k)) ((its.toList.drop n).take (xs.length - n - k)) := (rv.drop n).take _
  have I2 := I1.laid (t' := tk) (fun c o e => Heap.get?_push_of_some { cls := .type "list", data := .seq ((its.toList.drop n).take (xs.length - n - k)).toArray } e) (Nat.le_refl _)
    (show ObjOk X.prog X.w (upd H h₂.objs.size (.lst ((xs.drop n).take (xs.length - n - k)))) _ _ (.lst ((xs.drop n).take (xs.length - n - k))) from ⟨by rw [vm.length, sizeLine_eq]; omega, (its.toList.drop n).take (xs.length - n - k), 0, vm, Heap.get?_push_size _ rfl⟩)
  refine fin _ _ (I1.hok.fresh (Nat.le_refl _)) I2 ?_
  exact ((rv.take n).append (.cons (show RelV (.ref h₂.objs.size) (.ref h₂.objs.size) from rfl) .nil)).append (rv.drop _)
/-- a tuple taken apart, one target with a star -/
theorem star_tup {a : Addr} (hc : X.calm = true) (I : Inv X pins σ H s) (hl : IsTup s.heap a its) (rv : Vals xs its.toList) (lx : its.size = xs.length) (hle : n + k ≤ xs.length) (hsz : xs.length ≤ 16384)
    (fin : ∀ p s', H p = none → Inv X pins σ (upd H p (.lst ((xs.drop n).take (xs.length - n - k)))) s' → Vals (xs.take n ++ [.ref p] ++ xs.drop (xs.length - k)) (its.toList.take n ++ [.ref p] ++ its.toList.drop (xs.length - k)) → Qv (its.toList.take n ++ [.ref p] ++ its.toList.drop (xs.length - k)) s') :
    wpAny (model X.prog X.w) X.A (unpackItems (.ref a) (n + 1 + k) (some n)) Qv E s := by
  have hlt : a ≠ s.heap.objs.size := by obtain ⟨o, ho, _⟩ := hl; exact Nat.ne_of_lt (Heap.lt_size ho)
  have hh := I.ok.hd hc
  unfold unpackItems
  apply wpAny_bind
  unfold notIterableAtAll
  apply wpAny_bind
  apply wpAny_specialOf hl.typeIs slot_tuple_iter.lookup
  apply wpAny_pure
  simp only [Bool.false_eq_true, if_false]
  refine wpAny_bind (wpAny_holding (iter_tuple hl ?_))
  refine wpAny_bind (wpAny_holding (draw_tuple hlt n 0 _ _ ⟨_, Heap.get?_push_size _ rfl, rfl, rfl⟩ (hl.push _) (by omega) fun h₁ hit₁ hs₁ => ?_))
  have hl₁ : IsTup h₁ a its := (hl.push _).extBut hs₁.extBut hlt
  rw [Nat.zero_add] at hit₁
  have hit₁' := hit₁
  obtain ⟨oi, hoi, _⟩ := hit₁'
  have hl₁' := hl₁
  obtain ⟨ol, hol, _⟩ := hl₁'
  rw [List.drop_zero]
  have hfl : (its.toList.take n).length = n := by rw [List.length_take, Array.length_toList]; omega
  rw [if_neg (show ¬ ((its.toList.take n).length < n) by rw [hfl]; omega)]
  refine wpAny_bind (wpAny_holding (kun_collect (s := { s with heap := h₁ }) (T := "tuple_iterator") (.inr (.inr (.inr rfl))) (Walks.tuple (A := X.A.in1) hh s.heap.objs.size a hlt its) (fun j u st => st.1.typeIs) (k := n) (by omega) ⟨hit₁, hl₁⟩ (Heap.lt_size hoi) (Heap.lt_size hol) (fun h₂ tk hk => ?_) (by rw [sizeLine_eq]; omega)))
  have hrl : (its.toList.drop n).length = its.size - n := by rw [List.length_drop, Array.length_toList]
  show wpAny _ _ (if (its.toList.drop n).length < n + 1 + k - 1 - n then _ else _) _ _ _
  rw [if_neg (by omega)]
  show wpAny _ _ (newList ((its.toList.drop n).take ((its.toList.drop n).length - (n + 1 + k - 1 - n))) >>= fun d => pure (its.toList.take n ++ [d] ++ (its.toList.drop n).drop ((its.toList.drop n).length - (n + 1 + k - 1 - n)))) _ _ _
  have z : (its.toList.drop n).length - (n + 1 + k - 1 - n) = xs.length - n - k := by rw [hrl]; omega
  rw [z, List.drop_drop, show n + (xs.length - n - k) = xs.length - k by omega]
  have he : Heap.ExtBut s.heap.objs.size s.heap h₂ := fun b o hb e => hk b o hb (hs₁.extBut b o hb (Heap.get?_push_of_some _ e))
  exact star_rest (s := s) rv lx hle hsz (I.kept (t' := tk) fun b o e => he b o (Nat.ne_of_lt (Heap.lt_size e)) e) fin
/-- a list taken apart -/
theorem star_lst {a : Addr} (hc : X.calm = true) (I : Inv X pins σ H s) (hl : s.heap.IsList a its) (rv : Vals xs its.toList) (lx : its.size = xs.length) (hle : n + k ≤ xs.length) (hsz : xs.length ≤ 16384)
    (fin : ∀ p s', H p = none → Inv X pins σ (upd H p (.lst ((xs.drop n).take (xs.length - n - k)))) s' → Vals (xs.take n ++ [.ref p] ++ xs.drop (xs.length - k)) (its.toList.take n ++ [.ref p] ++ its.toList.drop (xs.length - k)) → Qv (its.toList.take n ++ [.ref p] ++ its.toList.drop (xs.length - k)) s') :
    wpAny (model X.prog X.w) X.A (unpackItems (.ref a) (n + 1 + k) (some n)) Qv E s := by
  have hlt : a ≠ s.heap.objs.size := by obtain ⟨o, ho, _⟩ := hl; exact Nat.ne_of_lt (Heap.lt_size ho)
  have hh := I.ok.hd hc
  unfold unpackItems
  apply wpAny_bind
  unfold notIterableAtAll
  apply wpAny_bind
  apply wpAny_specialOf hl.typeIs slot_list_iter.lookup
  apply wpAny_pure
  simp only [Bool.false_eq_true, if_false]
  refine wpAny_bind (wpAny_holding (wpAny_pyIter_list (l := a) (items := its) hl ?_))
  refine wpAny_bind (wpAny_holding (kun_draw hlt n 0 _ _ ⟨_, Heap.get?_push_size _ rfl, rfl, rfl⟩ (hl.push _) (by omega) fun h₁ hit₁ hs₁ => ?_))
  have hl₁ : h₁.IsList a its := (hl.push _).extBut hs₁.extBut hlt
  rw [Nat.zero_add] at hit₁
  have hit₁' := hit₁
  obtain ⟨oi, hoi, _⟩ := hit₁'
  have hl₁' := hl₁
  obtain ⟨ol, hol, _⟩ := hl₁'
  rw [List.drop_zero]
  have hfl : (its.toList.take n).length = n := by rw [List.length_take, Array.length_toList]; omega
  rw [if_neg (show ¬ ((its.toList.take n).length < n) by rw [hfl]; omega)]
  refine wpAny_bind (wpAny_holding (kun_collect (s := { s with heap := h₁ }) (T := "list_iterator") (.inr (.inr (.inl rfl))) (Walks.list (A := X.A.in1) hh s.heap.objs.size a hlt its) (fun j u st => st.1.typeIs) (k := n) (by omega) ⟨hit₁, hl₁⟩ (Heap.lt_size hoi) (Heap.lt_size hol) (fun h₂ tk hk => ?_) (by rw [sizeLine_eq]; omega)))
  have hrl : (its.toList.drop n).length = its.size - n := by rw [List.length_drop, Array.length_toList]
  show wpAny _ _ (if (its.toList.drop n).length < n + 1 + k - 1 - n then _ else _) _ _ _
  rw [if_neg (by omega)]
  show wpAny _ _ (newList ((its.toList.drop n).take ((its.toList.drop n).length - (n + 1 + k - 1 - n))) >>= fun d => pure (its.toList.take n ++ [d] ++ (its.toList.drop n).drop ((its.toList.drop n).length - (n + 1 + k - 1 - n)))) _ _ _
  have z : (its.toList.drop n).length - (n + 1 + k - 1 - n) = xs.length - n - k := by rw [hrl]; omega
  rw [z, List.drop_drop, show n + (xs.length - n - k) = xs.length - k by omega]
  have he : Heap.ExtBut s.heap.objs.size s.heap h₂ := fun b o hb e => hk b o hb (hs₁.extBut b o hb (Heap.get?_push_of_some _ e))
  exact star_rest (s := s) rv lx hle hsz (I.kept (t' := tk) fun b o e => he b o (Nat.ne_of_lt (Heap.lt_size e)) e) fin
end
theorem pg_tupS {es : List Expr} {c : _} {t : TGs} {n k : Nat} (hc : X.calm = true) (h : PGs X es t)
    (hn : (assignEach es X.env).length = n + 1 + k) (hst : (assignEach es X.env).findIdx? (·.1) = some n) : PG X (.Tuple es c pos) (gTupS X.K n k t) := by
  refine ⟨fun pins s σ H v u Q I r hw => ?_⟩
  obtain ⟨a, xs, e1, hq, hle, hsz, hw⟩ := hw
  subst e1
  cases r
  rw [PyProof.Rows.assign_Tuple]
  refine wpAny_bind (wpAny_standAt ?_)
  unfold unpack
  rw [hn, hst]
  refine wpAny_bind (wpAny_holding ?_)
  rcases hq with hq | hq
  · obtain ⟨its0, rv, hl, hz⟩ := I.list hq
    obtain ⟨its, ei⟩ : ∃ its : Array Value, its = its0.toArray := ⟨_, rfl⟩
    have ei2 : its0 = its.toList := by rw [ei]
    rw [← ei] at hl
    rw [ei2] at rv
    have lx : its.size = xs.length := by
      have := rv.length
      simpa using this.symm
    exact star_lst hc I hl.isList rv lx hle hsz fun p s' np I2 vv => h.run pins s' σ _ _ _ Q I2 vv (hw p np)
  · obtain ⟨its0, rv, hl, hz⟩ := I.tuple hq
    obtain ⟨its, ei⟩ : ∃ its : Array Value, its = its0.toArray := ⟨_, rfl⟩
    have ei2 : its0 = its.toList := by rw [ei]
    rw [← ei] at hl
    rw [ei2] at rv
    have lx : its.size = xs.length := by
      have := rv.length
      simpa using this.symm
    exact star_tup hc I hl rv lx hle hsz fun p s' np I2 vv => h.run pins s' σ _ _ _ Q I2 vv (hw p np)
def gtupS (n k : Nat) (fs : FGs) : FG := fun d env st => match (match d with | .pr ds => some ds | d => seqA st d) with
  | some ds => if n + k ≤ ds.length ∧ ds.length ≤ 16384 then fs (ds.take n ++ [.lst ((ds.drop n).take (ds.length - n - k))] ++ ds.drop (ds.length - k)) env st else none
  | none => none
theorem rds_take {K : PySem.W.Frag} {ρ : Pl} {H : Hp} : ∀ (n : Nat) {ds : List D} {vs : List V}, RelDs K ρ H ds vs → RelDs K ρ H (ds.take n) (vs.take n)
  | 0, _, _, _ => .nil
  | n + 1, _, _, .nil => .nil
  | n + 1, _, _, .cons a b => .cons a (rds_take n b)
theorem rds_drop {K : PySem.W.Frag} {ρ : Pl} {H : Hp} : ∀ (n : Nat) {ds : List D} {vs : List V}, RelDs K ρ H ds vs → RelDs K ρ H (ds.drop n) (vs.drop n)
  | 0, _, _, r => r
  | n + 1, _, _, .nil => .nil
  | n + 1, _, _, .cons a b => rds_drop n b
theorem rds_app {K : PySem.W.Frag} {ρ : Pl} {H : Hp} : ∀ {ds es : List D} {vs ws : List V}, RelDs K ρ H ds vs → RelDs K ρ H es ws → RelDs K ρ H (ds ++ es) (vs ++ ws)
  | _, _, _, _, .nil, b => b
  | _, _, _, _, .cons p q, b => .cons p (rds_app q b)
theorem dg_tupS {c : _} {n k : Nat} {fs : FGs} {es : List Expr} (hc : X.calm = true) (h : DGs X W es fs) (hn : (assignEach es X.env).length = n + 1 + k) (hst : (assignEach es X.env).findIdx? (·.1) = some n) : DG X W (.Tuple es c pos) (gtupS n k fs) := by
  refine PG.imp (pg_tupS hc h hn hst) fun v σ H Q h => ?_
  obtain ⟨ρ, env, st, d, g, r, o⟩ := h
  have fin : ∀ {ds : List D} {vs : List V}, RelDs X.K ρ H ds vs → OutG X.K W ρ H (fs (ds.take n ++ [.lst ((ds.drop n).take (ds.length - n - k))] ++ ds.drop (ds.length - k)) env st) Q → ∀ p, H p = none → lGs X.K W fs (vs.take n ++ [.ref p] ++ vs.drop (vs.length - k)) σ (upd H p (.lst ((vs.drop n).take (vs.length - n - k)))) Q := fun {ds vs} r o p np => by
    rw [← r.length]
    have em := Ext.new g.st np (o := .lst ((vs.drop n).take (ds.length - n - k)))
    refine ⟨ρ, env, st, _, g.ext em (g.st.new np), rds_app (rds_app ((rds_take n r).ext em) (.cons (new_lst g.st np (rds_take _ (rds_drop n r))) .nil)) ((rds_drop _ r).ext em), ?_⟩
    cases hf : fs (ds.take n ++ [.lst ((ds.drop n).take (ds.length - n - k))] ++ ds.drop (ds.length - k)) env st with
    | none => rw [hf] at o; exact o.elim
    | some p =>
      rw [hf] at o
      exact fun ρ2 H2 σ2 e2 g2 => o ρ2 H2 σ2 (em.trans e2) g2
  unfold gtupS at o
  split at o
  · rename_i ds hd
    split at o
    · rename_i hl
      split at hd
      · cases hd
        obtain ⟨p, vs, rfl, h1, h2⟩ := pr_ok r
        exact ⟨p, vs, rfl, .inr h1, by rw [← h2.length]; exact hl.1, by rw [← h2.length]; exact hl.2, fin h2 o⟩
      · obtain ⟨p, vs, rfl, h1, h2⟩ := seqA_ok g.st r hd
        exact ⟨p, vs, rfl, h1, by rw [← h2.length]; exact hl.1, by rw [← h2.length]; exact hl.2, fin h2 o⟩
    · exact o.elim
  · exact o.elim
/-- targets, the one with a star without it; how many stand before it and behind -/
def unstar : List Expr → Option (List Expr × Nat × Nat)
  | [] => none
  | e :: r => match e with
    | .Starred t _ => if PySem.W.isStarred t || !starless r then none else some (t :: r, 0, r.length)
    | e => (unstar r).map fun x => (e :: x.1, x.2.1 + 1, x.2.2)
theorem assign_all {env : PySem.Env} : ∀ {es : List Expr}, starless es = true → (assignEach es env).length = es.length
  | [], _ => rfl
  | e :: r, h => by
    unfold starless at h
    rw [List.all_cons, Bool.and_eq_true, Bool.not_eq_true'] at h
    rw [assign_plain h.1, List.length_cons, List.length_cons, assign_all h.2]
theorem unstar_ok {env : PySem.Env} : ∀ {es fs : List Expr} {n k : Nat}, unstar es = some (fs, n, k) → starless fs = true ∧ (assignEach es env).map (·.2) = (assignEach fs env).map (·.2) ∧ (assignEach es env).length = n + 1 + k ∧ (assignEach es env).findIdx? (·.1) = some n
  | [], _, _, _, h => by cases h
  | e :: r, fs, n, k, h => by
    unfold unstar at h
    split at h
    · rename_i t p
      split at h
      · cases h
      · rename_i hs
        cases h
        rw [Bool.or_eq_true, Bool.not_eq_true', not_or] at hs
        have hs' : PySem.W.isStarred t = false := by simpa using hs.1
        have hr : starless r = true := by simpa using hs.2
        refine ⟨by unfold starless at hr ⊢; rw [List.all_cons, hs', hr]; rfl, ?_, ?_, ?_⟩
        · rw [assign_plain hs']
          rfl
        · show (assignEach r env).length + 1 = _
          rw [assign_all hr]
          omega
        · rfl
    · rename_i e' hne
      have hs' : PySem.W.isStarred e = false := by
        cases e <;> first | rfl | exact absurd rfl (hne _ _)
      rw [Option.map_eq_some_iff] at h
      obtain ⟨⟨gs, m, j⟩, hg, e1⟩ := h
      cases e1
      obtain ⟨a1, a2, a3, a4⟩ := unstar_ok (env := env) hg
      refine ⟨?_, ?_, ?_, ?_⟩
      · unfold starless at a1 ⊢
        rw [List.all_cons, a1, hs']
        rfl
      · rw [assign_plain hs', assign_plain hs']
        simp [a2]
      · rw [assign_plain hs']
        simp only [List.length_cons, a3]
        omega
      · rw [assign_plain hs', List.findIdx?_cons]
        simp only [Bool.false_eq_true, if_false, a4, Option.map_some]
theorem pgs_unstar {es fs : List Expr} {t : TGs} (he : (assignEach es X.env).map (·.2) = (assignEach fs X.env).map (·.2)) (h : PGs X fs t) : PGs X es t := by
  refine ⟨fun pins s σ H vs us Q I r q => ?_⟩
  rw [he]
  exact h.run pins s σ H vs us Q I r q
end
end DL
end
section
/-! ES7: sorted of a dict whose keys are texts. -/
namespace DL
open PySem PySem.Spec PyProof.Rows L2
def txtKeys : List Key → Option (List Str)
  | [] => some []
  | .inr x :: r => (txtKeys r).map (x :: ·)
  | .inl _ :: _ => none
theorem txtKeys_ok : ∀ {ks : List Key} {xs : List Str}, txtKeys ks = some xs → ks = xs.map Sum.inr
  | [], xs, h => by cases h; rfl
  | .inr x :: r, xs, h => by
    unfold txtKeys at h
    rw [Option.map_eq_some_iff] at h
    obtain ⟨ys, hy, rfl⟩ := h
    rw [txtKeys_ok hy]
    rfl
  | .inl _ :: _, _, h => by cases h
theorem txtKeys_map : ∀ xs : List Str, txtKeys (xs.map Sum.inr) = some xs
  | [] => rfl
  | x :: r => by
    rw [List.map_cons]
    unfold txtKeys
    rw [txtKeys_map r]
    rfl
/-- sorted of a list of tuples, or of a dict whose keys are texts -/
def sortedDX (ds : List D) (st : Store) : Option (D × Store) := match ds with
  | [x] => match dctO st x with
    | some kvs => match txtKeys (kvs.map (·.1)) with
      | some ks => if ks.length < 64 then some (.lst ((sortS ks).map D.str), st) else none
      | none => none
    | none => sortedD [x] st
  | _ => none
theorem sortedDX_lst (xs : List D) (st : Store) : sortedDX [.lst xs] st = sortedD [.lst xs] st := rfl
theorem rds_strs {K : PySem.W.Frag} {ρ : Pl} {H : Hp} : ∀ xs : List Str, RelDs K ρ H (xs.map D.str) (xs.map V.str)
  | [] => .nil
  | x :: r => .cons (.str x) (rds_strs r)
theorem cd_sortedX {X : Cx} (hc : X.calm = true) : CallD X (.builtin "sorted") sortedDX := by
  intro pins s σ H vs us Q I rx q
  obtain ⟨ρ, st, ds, rs, rd, q⟩ := q
  cases hk : (match ds with | [x] => dctO st x | _ => none) with
  | none =>
    refine cd_sorted pins s σ H vs us Q I rx ⟨ρ, st, ds, rs, rd, ?_⟩
    have e : sortedDX ds st = sortedD ds st := by
      unfold sortedDX
      split
      · rename_i x
        have hk : dctO st x = none := hk
        rw [hk]
      · rename_i h
        unfold sortedD
        split
        · rename_i x
          exact absurd rfl (h x)
        · rfl
    rw [e] at q
    exact q
  | some kvs =>
    split at hk
    · rename_i x
      unfold sortedDX at q
      simp only [hk] at q
      cases hx : txtKeys (kvs.map (·.1)) with
      | none => simp only [hx] at q
      | some ks =>
        simp only [hx] at q
        split at q
        · rename_i d st' e
          split at e
          · rename_i hl
            cases e
            obtain ⟨v, rfl, r1⟩ := rd.one
            obtain ⟨a, vvs, rfl, h1, h2, h3⟩ := dctO_ok rs r1 hk
            refine call_sortedD hc pins s σ H _ us Q I rx ⟨a, vvs, ks, rfl, .inl h1, h2.trans (txtKeys_ok hx), hl, fun ys p pm so np => ?_⟩
            rw [sort_uniq pm so]
            exact q _ _ _ (Ext.new rs np) (rs.new np) (new_lst rs np (rds_strs _))
          · cases e
        · exact q.elim
    · cases hk
end DL
end
section
/-! ES8: set(a tuple of texts). -/
namespace SX
open PySem PySem.Spec PyProof.Rows L2
/-- texts put one after the other -/
def putTxts (L xs : List Str) : List Str := xs.foldl putTxt L
theorem putTxts_len : ∀ (xs L : List Str), (putTxts L xs).length ≤ L.length + xs.length
  | [], L => by simp [putTxts]
  | x :: r, L => by
    have h1 := putTxts_len r (putTxt L x)
    have h2 := DL.put_len L x
    show (putTxts (putTxt L x) r).length ≤ _
    rw [List.length_cons]
    omega
theorem putTxts_take {xs : List Str} {i : Nat} {x : Str} (h : xs[i]? = some x) (L : List Str) : putTxt (putTxts L (xs.take i)) x = putTxts L (xs.take (i + 1)) := by
  unfold putTxts
  rw [List.take_succ, h, List.foldl_append]
  rfl
section
variable {P : Program} {w : World} {A : Around} {R : Result → Shared → Prop} {I : Addr} {fp wr : List Addr} {G : Array GenState → Array GenState → Prop} {n : Nat} {Pv : Nat → Value → Prop} {St : Nat → Shared → Prop}
theorem loopTxt (W : WalksS P w A.in1 I fp wr G n Pv St) (S : Addr) (hSf : S ∉ fp) (xs : List Str) (hsz : xs.length = n) (hn1 : n + 1 < scanBound)
    (hval : ∀ i v, Pv i v → ∃ x t, xs[i]? = some x ∧ v = .str x t) :
    ∀ (k i : Nat) (s : Shared), n - i = k → i ≤ n → St i s → TxtSet w s.heap S (putTxts [] (xs.take i)) →
      (∀ s', Moved (S :: wr) G s s' → TxtSet w s'.heap S (putTxts [] xs) → R (.ok (.ret .none)) s') →
      codeAny (model P w) A (.builtin "set.update.loop" ⟨[.ref S, .ref I], []⟩) R s := by
  have hSw : S ∉ wr := fun h => hSf (W.sub _ h)
  have hsub : ∀ b ∈ wr, b ∈ S :: wr := fun b hb => List.mem_cons_of_mem _ hb
  intro k
  induction k with
  | zero =>
    intro i s hk hi hst hS hR
    have hin : i = n := by omega
    subst hin
    refine codeAny_builtin PyProof.Rows.F.entry_set_update_loop ?_
    rw [Around.under_plainId PyProof.Rows.F.plain_set_update_loop _]
    show wpAny _ A.in1 (pyNext (.ref I) >>= _) _ _ s
    refine wpAny_bind (W.done s _ _ hst fun s' hm => ?_)
    show wpAny _ A.in1 (ret Value.none) _ _ s'
    rw [List.take_of_length_le (by omega)] at hS
    exact wpAny_pure (hR s' (hm.mono hsub) (hS.keep fun o e => hm.heap S _ hSw e))
  | succ k ih =>
    intro i s hk hi hst hS hR
    have hlt : i < n := by omega
    refine codeAny_builtin PyProof.Rows.F.entry_set_update_loop ?_
    rw [Around.under_plainId PyProof.Rows.F.plain_set_update_loop _]
    show wpAny _ A.in1 (pyNext (.ref I) >>= _) _ _ s
    refine wpAny_bind (W.item i s _ _ hlt hst fun v s' hP hst' hm => ?_)
    obtain ⟨x, t, hx, rfl⟩ := hval i v hP
    have hS' : TxtSet w s'.heap S (putTxts [] (xs.take i)) := hS.keep fun o e => hm.heap S _ hSw e
    show wpAny _ A.in1 (holding [Value.str x t] (setAdd S (.str x t)) >>= _) _ _ s'
    refine wpAny_bind (wpAny_holding ?_)
    unfold setAdd
    refine wpAny_holding ?_
    refine wpAny_bind ((PySem.strKind P w).pyHash (k := x) (strKind_is _ _ _ _) ?_)
    have hle := putTxts_len (xs.take i) []
    rw [List.length_take, List.length_nil] at hle
    refine add_hashed (s := { s' with toks := s'.toks + 1 }) hS' (by omega) fun h' b hsb hS2 => ?_
    rw [putTxts_take hx] at hS2
    refine wpAny_pure ⟨plainId_quiet PyProof.Rows.F.plain_set_update_loop _, ih (i + 1) _ (by omega) hlt (W.frame _ s' _ _ hst' (Nat.le_succ _) fun b hb o e => ?_) hS2 fun s'' hm'' hS'' => ?_⟩
    · rw [hsb.2 b (fun h : b = S => hSf (by rw [← h]; exact hb))]; exact e
    · refine hR s'' (Moved.trans W.gtrans ((hm.mono hsub).then_heap (Nat.le_succ _) fun b o hb e => ?_) hm'') hS''
      rw [hsb.2 b (fun h : b = S => hb (by rw [h]; exact List.mem_cons_self))]; exact e
end
section
variable {P : Program} {w : World} {A : Around} {E : Value → Shared → Prop} {s : Shared}
set_option maxHeartbeats 3200000 in
theorem call_setTxts {l : Addr} {items : Array Value} {xs : List Str} {Q : Value → Shared → Prop}
    (hh : A.handled = none) (hl : s.heap.IsTuple l items) (hi : PyProof.Rows.StrsAre items.toList xs) (hn1 : xs.length + 1 < scanBound)
    (h : ∀ (h' : Heap) (tk : Nat), TxtSet w h' s.heap.objs.size (putTxts [] xs) →
      (∀ b o, b < s.heap.objs.size → s.heap.get? b = some o → h'.get? b = some o) → Q (.ref s.heap.objs.size) { s with heap := h', toks := tk }) :
    wpAny (model P w) A (call (.type "set") [.ref l]) Q E s := by
  obtain ⟨c, tl, hmro⟩ := PySem.F.called_set.mro
  have hmade := PySem.F.called_set.made
  have hsub := PySem.F.called_set.sub
  refine wpAny_call (codeAny_of_tree ?_)
  show wpAny _ _ (callAny (.type "set") _) _ _ _
  refine wpAny_pure ⟨Code.quiet_builtin _ (by decide +kernel), codeAny_builtin PySem.F.entry_type_call ?_⟩
  rw [Around.under_plain (weight_type_call_type "set" [.ref l] []) rfl]
  have h1 := PySem.F.called_set.notType
  have h2 := PySem.F.called_set.canCreate
  have hct := PySem.F.typeCall_set_1 (.ref l)
  repeat (any_goals (first | assumption | wp_step))

  refine codeAny_mono (code_set_led1 (.ref l) (E := E) (Q₁ := fun obj s₁ => obj = .ref s.heap.objs.size ∧ s₁ = { s with heap := s.heap.push { cls := .type "set", dict := none, data := .set #[] 0 (.fresh 0 0 (!w.params.followText "set-order")) } }) ⟨rfl, rfl⟩) fun r s₁ hr => ?_
  cases r with
  | error e => exact hr
  | ok fl =>
    cases fl with
    | ret obj =>
      obtain ⟨rfl, rfl⟩ := hr
      have hS : (s.heap.push { cls := .type "set", dict := none, data := .set #[] 0 (.fresh 0 0 (!w.params.followText "set-order")) }).get? s.heap.objs.size = some { cls := .type "set", dict := none, data := .set #[] 0 (.fresh 0 0 (!w.params.followText "set-order")) } := Heap.get?_push_size _ rfl
      have hT : Shared.TypeIs { s with heap := s.heap.push { cls := .type "set", dict := none, data := .set #[] 0 (.fresh 0 0 (!w.params.followText "set-order")) } } (.ref s.heap.objs.size) "set" := ⟨_, hS, rfl⟩
      have hli := PySem.F.called_set.init.lookup
      have hbi := PySem.F.called_set.init.bind (.ref s.heap.objs.size)
      repeat (any_goals (first | assumption | wp_step))

      refine codeAny_mono (codeAny_call_builtin (R := wants (fun r s₂ => r = .none ∧ ∃ h' tk, s₂ = { s with heap := h', toks := tk } ∧
          TxtSet w h' s.heap.objs.size (putTxts [] xs) ∧
          (∀ b o, b < s.heap.objs.size → s.heap.get? b = some o → h'.get? b = some o)) E) PySem.F.called_set.init.plain PySem.F.entry_set_init (check_set_init_1 hT ?_)) fun r₂ s₂ hr₂ => ?_
      · obtain ⟨ol, hol, hcl, nl, hdl⟩ := hl
        obtain ⟨ocls, odict, odata, oslots⟩ := ol
        simp only at hcl hdl
        subst hcl; subst hdl
        have hol' : (s.heap.push { cls := .type "set", dict := none, data := .set #[] 0 (.fresh 0 0 (!w.params.followText "set-order")) }).get? l = some { cls := .type "tuple", dict := odict, data := .seq items nl, slots := oslots } := Heap.get?_push_of_some _ hol
        have hsls := PySem.F.sub_tuple_set
        have hslf := PySem.F.sub_tuple_frozenset
        have hne : (Value.type "tuple" == Value.type "dict") = false := by decide
        have hl1 : (s.heap.push { cls := .type "set", dict := none, data := .set #[] 0 (.fresh 0 0 (!w.params.followText "set-order")) }).IsTuple l items := ⟨_, hol', rfl, nl, rfl⟩
        unfold Builtin.«set.__init__» noKeywords Builtin.Frozenset.updateFrom
        generalize hPI : pyIter = PI
        wp_walk
        subst hPI

        refine wpAny_pyIter_tuple hl1 ?_
        refine wpAny_bind (wpAny_runValue ?_)
        have hlS : l < s.heap.objs.size := Heap.lt_size hol
        have hh3 : A.in1.in1.in1.handled = none := by simp [hh]
        have hneI : l ≠ (s.heap.push { cls := .type "set", dict := none, data := .set #[] 0 (.fresh 0 0 (!w.params.followText "set-order")) }).objs.size := by
          rw [Heap.size_push]; exact Nat.ne_of_lt (Nat.lt_succ_of_lt hlS)
        have hSf : s.heap.objs.size ∉ [(s.heap.push { cls := .type "set", dict := none, data := .set #[] 0 (.fresh 0 0 (!w.params.followText "set-order")) }).objs.size, l] := by
          rw [Heap.size_push]; simp only [List.mem_cons, List.mem_singleton, List.not_mem_nil, or_false, not_or]
          exact ⟨Nat.ne_of_lt (Nat.lt_succ_self _), Nat.ne_of_gt hlS⟩
        have hsz : xs.length = items.size := by rw [← StrsAre.len_eq hi, Array.length_toList]
        have hval : ∀ (i : Nat) (v : Value), items[i]? = some v → ∃ x t, xs[i]? = some x ∧ v = .str x t := fun i v hv => by
          have hlt := (Array.getElem?_eq_some_iff.mp hv).1
          obtain ⟨t, e⟩ := SS.strs_at hi i v (by rw [Array.getElem?_toList]; exact hv)
          have e2 : xs[i]? = some (xs[i]'(by omega)) := List.getElem?_eq_getElem (by omega)
          refine ⟨_, t, e2, ?_⟩
          rw [e, List.getD_eq_getElem?_getD, e2]
          rfl
        refine loopTxt ((Walks.tuple hh3 _ l hneI items).toS) s.heap.objs.size
          hSf xs hsz (by rw [← hsz]; exact hn1) hval (items.size - 0) 0 _ (by omega) (Nat.zero_le _)
          ⟨⟨_, Heap.get?_push_size _ rfl, rfl, rfl⟩, (hl1.push _)⟩ ?hS0 ?hR
        case hS0 =>
          exact (fresh_set (h := s.heap) w).keep fun o e => Heap.get?_push_of_some _ e
        case hR =>
          intro s' hm hS'
          obtain ⟨h', g', d', tk', os'⟩ := s'
          have eg : g' = s.gens := hm.gens
          have ed : d' = s.drawn := hm.drawn
          have eo : os' = s.os := hm.os
          subst eg; subst ed; subst eo
          show wpAny _ _ _ _ _ _
          refine wpAny_pure ?_
          show wpAny _ _ (ret Value.none) _ _ _
          refine wpAny_pure ⟨rfl, h', tk', rfl, hS', fun b o hb e => ?_⟩
          have hb1 : b ≠ s.heap.objs.size := Nat.ne_of_lt hb
          have hb2 : b ≠ (s.heap.push { cls := .type "set", dict := none, data := .set #[] 0 (.fresh 0 0 (!w.params.followText "set-order")) }).objs.size := by
            rw [Heap.size_push]; exact Nat.ne_of_lt (Nat.lt_succ_of_lt hb)
          exact hm.heap b o (by simp only [List.mem_cons, List.mem_singleton, List.not_mem_nil, or_false, not_or]; exact ⟨hb1, hb2⟩) (Heap.get?_push_of_some _ (Heap.get?_push_of_some _ e))

      · cases r₂ with
        | error e => exact hr₂
        | ok fl₂ =>
          cases fl₂ with
          | ret r =>
            obtain ⟨rfl, h', tk, rfl, hS', hk'⟩ := hr₂
            repeat (any_goals (first | assumption | wp_step))
            exact h _ _ hS' hk'
          | _ => exact hr₂.elim
    | _ => exact hr.elim
end
end SX
end
section
namespace SX
open PySem PySem.Spec PyProof.Rows L2
section
variable {X : Cx}
def rSetTxt (K : PySem.W.Frag) (w : World) : List V → Hp → VK → Prop := fun vs H Q => ∃ (a : Addr) (xs : List Str), vs = [.ref a] ∧ SqT K H a (xs.map V.str) ∧ xs.length < 62 ∧ ∀ p, H p = none → Q (.ref p) (upd H p (TxtO w p (putTxts [] xs)))
theorem strs_vals : ∀ {xs : List Str} {us : List Value}, Vals (xs.map V.str) us → StrsAre us xs
  | [], _, h => by cases h; exact .nil
  | x :: r, _, h => by
    rw [List.map_cons] at h
    cases h with
    | cons a b =>
      obtain ⟨t, e⟩ := (show ∃ t, _ = Value.str x t from a)
      rw [e]
      exact .cons x t (strs_vals b)
theorem cr_setTxt (hc : X.calm = true) : CallR X (.type "set") (rSetTxt X.K X.w) := by
  intro pins s σ H vs us Q I r h
  obtain ⟨a, xs, rfl, hs, hl, q⟩ := h
  rw [Vals.ref1 r]
  obtain ⟨its, rv, ht, hz⟩ := I.tuple hs
  refine call_setTxts (P := X.prog) (w := X.w) (xs := xs) (I.ok.hd hc) (let ⟨o, ho, c, n, d⟩ := ht; ⟨o, ho, c, n, d⟩) (by simpa using strs_vals rv) (by unfold scanBound; omega) fun h' tk T k => ?_
  exact ⟨.ref s.heap.objs.size, upd H s.heap.objs.size (TxtO X.w s.heap.objs.size (putTxts [] xs)), I.laid (t' := tk) (fun b o e => k b o (Heap.lt_size e) e) (Nat.le_refl _) (TxtO.new T), rfl, q _ (I.hok.fresh (Nat.le_refl _))⟩
end
end SX
namespace DL
open PySem PySem.Spec PyProof.Rows L2 SX
def txtsD : List D → Option (List Str)
  | [] => some []
  | .str x :: r => (txtsD r).map (x :: ·)
  | _ :: _ => none
theorem txtsD_ok {K : PySem.W.Frag} {ρ : Pl} {H : Hp} : ∀ {ds : List D} {xs : List Str} {vs : List V}, txtsD ds = some xs → RelDs K ρ H ds vs → vs = xs.map V.str
  | [], xs, vs, h, r => by
    cases h
    cases r
    rfl
  | d :: ds, xs, vs, h, r => by
    unfold txtsD at h
    split at h
    · cases h
      rename_i e
      cases e
    · rename_i x r' e
      cases e
      rw [Option.map_eq_some_iff] at h
      obtain ⟨ys, hy, rfl⟩ := h
      cases r with
      | cons a b =>
        cases a
        rw [txtsD_ok hy b]
        rfl
    · cases h
theorem txtsD_map : ∀ xs : List Str, txtsD (xs.map D.str) = some xs
  | [] => rfl
  | x :: r => by
    rw [List.map_cons]
    unfold txtsD
    rw [txtsD_map r]
    rfl
/-- sorted(set(..)) of a tuple of texts -/
def fsortSet (f : FF D) : FF D := fun env st => (f env st).bind fun d st1 => match d with
  | .tup ds => match txtsD ds with
    | some xs => if xs.length < 62 then .ok (.lst ((sortS (putTxts [] xs)).map D.str)) st1 else .stuck
    | none => .stuck
  | _ => .stuck
theorem rds_strsX {K : PySem.W.Frag} {ρ : Pl} {H : Hp} : ∀ xs : List Str, RelDs K ρ H (xs.map D.str) (xs.map V.str)
  | [] => .nil
  | x :: r => .cons (.str x) (rds_strsX r)
theorem de_sortSet {X : Cx} {W : WG} {e : Expr} {fe : FF D} {p p2 pos pos2 : Pos} (hc : X.calm = true) (hg : Gl X "sorted") (hm : X.mg "sorted" = none) (hg2 : Gl X "set") (hm2 : X.mg "set" = none) (he : DE X W e fe) (hs : PySem.W.isStarred e = false) :
    DE X W (.Call (.Name "sorted" p) [.Call (.Name "set" p2) [e] [] pos2] [] pos) (fsortSet fe) := by
  refine PE.imp (pe_callB (cr_sortTxt hc) hg hm PyProof.Rows.Boot.«sorted» (pa_cons (pe_callTy (cr_setTxt hc) hg2 hm2 (by kernel_rfl) (pa_cons he pa_nil (by rw [star_plain hs])) (by decide) (by decide) (by rw [star_plain hs]) (by rfl)) pa_nil (by rfl)) (by decide) (by decide) (by rfl) (by rfl)) fun σ H Q h => ?_
  obtain ⟨ρ, env, st, g, o⟩ := h
  refine ⟨ρ, env, st, g, (OutR.bind (R := RelD X.K) o).mono ?_⟩
  rintro v H1 ⟨ρ1, d, st1, -, e1, s1, r1, o1⟩
  split at o1
  · rename_i ds
    split at o1
    · rename_i xs hx
      split at o1
      · rename_i hl
        obtain ⟨a, vs, rfl, h1, h2⟩ := tup_ok r1
        have := txtsD_ok hx h2
        subst this
        refine ⟨a, xs, rfl, h1, hl, fun q nq => ⟨q, putTxts [] xs, rfl, upd_same, by have := putTxts_len xs []; simp only [List.length_nil] at this; omega, fun ys z pm so nz => ?_⟩⟩
        rw [sort_uniq pm so]
        exact o1 _ _ _ ((Ext.new s1 nq).trans (Ext.new (s1.new nq) nz)) ((s1.new nq).new nz) (new_lst (s1.new nq) nz (rds_strsX _))
      · exact o1.elim
    · exact o1.elim
  · exact o1.elim
end DL
end
section
/-! ES10: a dict comprehension whose keys are tuples of ints and texts. -/
namespace SX
open PySem PySem.Spec PyProof.Rows L2 PpSet
/-- the keys L, each once, in the dict at a -/
def DtRows (P : Program) (w : World) (h : Heap) (a : Addr) (L : List (List L2.Key × Addr)) : Prop :=
  (a == sysModules) = false ∧ ∃ (xs : List (List L2.Key × Addr × Value)) (o : Obj) (es : Array DictEntry) (ep : Nat), xs.map (fun x => (x.1, x.2.1)) = L ∧ h.get? a = some o ∧ o.ExactDict ∧ o.data = .dict es ep ∧ es.toList = xs.map (entryOfKey (tupleKind (mixKind P w))) ∧ (xs.map (·.1)).Nodup
theorem DtRows.keep {P : Program} {w : World} {h h' : Heap} {a : Addr} {L : List (List L2.Key × Addr)} (T : DtRows P w h a L) (k : ∀ o, h.get? a = some o → h'.get? a = some o) : DtRows P w h' a L := by
  obtain ⟨z, xs, o, es, ep, e, ho, r⟩ := T
  exact ⟨z, xs, o, es, ep, e, k o ho, r⟩
def DtO (P : Program) (w : World) (a : Addr) (L : List (List L2.Key × Addr)) : HO := .ext fun h => DtRows P w h a L
theorem DtO.new {P : Program} {w : World} {P' : Program} {w' : World} {H : Hp} {h : Heap} {a : Addr} {L : List (List L2.Key × Addr)} (T : DtRows P w h a L) : ObjOk P' w' H h a (DtO P w a L) := by
  have ⟨_, _, o, _, _, _, ho, _⟩ := T
  exact ⟨T, ⟨o, ho⟩, fun h1 h2 p k => DtRows.keep p k⟩
abbrev newDi (h : Heap) : Heap := h.push { cls := .type "dict", data := .dict #[] }
theorem fresh_dt {P : Program} {w : World} (h : Heap) (hb : sysModules < h.objs.size) : DtRows P w (newDi h) h.objs.size [] :=
  ⟨beq_eq_false_iff_ne.mpr (Ne.symm (Nat.ne_of_lt hb)), [], _, #[], 0, rfl, Heap.get?_push_size _ rfl, ⟨rfl, rfl, rfl⟩, rfl, rfl, List.nodup_nil⟩
def putDt (L : List (List L2.Key × Addr)) (k : List L2.Key) (b : Addr) : List (List L2.Key × Addr) := if (L.any fun p => decide (p.1 = k)) = true then L else L ++ [(k, b)]
section
variable {X : Cx} {pins : List (Addr × Obj)} {σ : L2.St} {H : Hp} {s : Shared}
theorem key_sq {b : Addr} {ks : List L2.Key} (I : Inv X pins σ H s) (h : SqT X.K H b (ks.map kV)) : (tupleKind (mixKind X.prog X.w)).is s.heap ks b := by
  obtain ⟨its, r, ⟨o, h1, h2, n, h3⟩, _⟩ := I.tuple h
  exact ⟨o, its.toArray, n, h1, h2, h3, by simpa using items_are r⟩
theorem dt_set {E : Value → Shared → Prop} {D b : Addr} {L : List (List L2.Key × Addr)} {k : List L2.Key} {u r : Value} {Q : Unit → Shared → Prop} (hu : X.A.units < cLine) (I : Inv X pins σ H s) (hD : H D = some (DtO X.prog X.w D L)) (room : L.length + 1 < 64)
    (keys : ∀ p ∈ L, SqT X.K H p.2 (p.1.map kV)) (hk : SqT X.K H b (k.map kV)) (ru : RelV (.ref b) u) (fin : ∀ s', Inv X pins σ (upd H D (DtO X.prog X.w D (putDt L k b))) s' → Q () s') :
    wpAny (model X.prog X.w) X.A (dictSet D u r) Q E s := by
  obtain rfl : u = Value.ref b := ru
  obtain ⟨zs, xs, o, es, ep, e, ho, hx, hd, he, hn⟩ := (I.hok D _ hD).1
  subst e
  have dd : s.heap.DictOfH (tupleKind (mixKind X.prog X.w)) D xs := ⟨o, es, ep, ho, hx, hd, he, fun x hx => key_sq I (keys (x.1, x.2.1) (List.mem_map_of_mem hx)), hn⟩
  rw [List.length_map] at room
  refine wpAny_dictSet_heap (hsz := by rw [sizeLine_eq]; omega) hu (key_sq I hk) dd fun h' dd' hs => fin _ ?_
  have T : DtRows X.prog X.w h' D (putDt (xs.map fun x => (x.1, x.2.1)) k b) := by
    obtain ⟨o', es', ep', ho', hx', hd', he', _, hn'⟩ := dd'
    refine ⟨zs, _, o', es', ep', ?_, ho', hx', hd', he', hn'⟩
    unfold storedH putDt
    by_cases c : (atKey xs k).isSome = true
    · rw [if_pos c, if_pos ?_, List.map_map]
      · refine List.map_congr_left fun x _ => ?_
        show ((putAt k r x).1, (putAt k r x).2.1) = (x.1, x.2.1)
        unfold putAt
        split <;> rfl
      · unfold atKey at c
        rw [Option.isSome_map] at c
        obtain ⟨x, hx⟩ := Option.isSome_iff_exists.mp c
        have h1 := List.mem_of_find?_eq_some hx
        have h2 := List.find?_some hx
        exact List.any_eq_true.mpr ⟨(x.1, x.2.1), List.mem_map_of_mem h1, h2⟩
    · rw [if_neg c, if_neg ?_, List.map_append]
      · rfl
      · intro z
        obtain ⟨p, hp, e⟩ := List.any_eq_true.mp z
        obtain ⟨x, hx, rfl⟩ := List.mem_map.mp hp
        refine c ?_
        unfold atKey
        rw [Option.isSome_map]
        exact List.find?_isSome.mpr ⟨x, hx, e⟩
  have he : ∃ q, h'.get? D = some q := let ⟨_, _, q, _, _, _, hq, _⟩ := T; ⟨q, hq⟩
  exact d_write I (by rw [hD]; trivial) hs he (DtO.new T)
end
variable {X : Cx}
/-- {k: v for target in iter if ..}, keys tuples -/
def tDcT (K : PySem.W.Frag) (P : Program) (w : World) (wi : TI) (g : TG) (tt : TT) (tk tv : TE) (vs : List Nat) : TE := fun σ H Q => wi σ H fun J H1 => ∀ D, H1 D = none → ∃ W : Nat → Nat → Hp → Prop, (∃ m, W 0 m (upd H1 D (DtO P w D []))) ∧ ∀ i m H, W i m H →
  (J.stop i H ∧ Q (.ref D) H) ∨ (J.go i H ∧ ∃ Nx : Hp → Prop, (∀ H', Nx H' → ∃ m', m' < m ∧ W (i + 1) m' H') ∧ ∀ x H', J.yld i H x H' → g x (wipe σ vs) H' fun σ2 H2 => wipe σ2 vs = wipe σ vs ∧ tt σ2 H2 fun b H3 =>
    if b = true then tk σ2 H3 fun y H4 => tv σ2 H4 fun z H5 => ∃ (c : List L2.Key) (bk : Addr) (L : List (List L2.Key × Addr)), y = .ref bk ∧ H5 D = some (DtO P w D L) ∧ L.length + 1 < 64 ∧ (∀ p ∈ L, SqT K H5 p.2 (p.1.map kV)) ∧ SqT K H5 bk (c.map kV) ∧ Nx (upd H5 D (DtO P w D (putDt L c bk))) else Nx H3)
theorem pe_dcT {kx vx tg iter : Expr} {ifs : List Expr} {scope : Scope} {own : List (Str × Nat)} {pos : Pos} {wi : TI} {g : TG} {tt : TT} {tk tv : TE} (hu : X.A.units < cLine) (calm : X.calm = true) (nd : X.N.Nodup) (walks : PI X tg iter wi) (blk : BlkOk X.N X.env.scope scope own)
    (pg : ∀ (s : Shared) (H : Hp) (C : Addr) (cl : List (Str × Addr)) (fp : List Addr), PG (X.blk s H scope (compEnvC scope cl C X.env) fp) tg g)
    (pt : ∀ (s : Shared) (H : Hp) (C : Addr) (cl : List (Str × Addr)) (fp : List Addr), PTs (X.blk s H scope (compEnvC scope cl C X.env) fp) ifs tt)
    (pk : ∀ (s : Shared) (H : Hp) (C : Addr) (cl : List (Str × Addr)) (fp : List Addr), PE (X.blk s H scope (compEnvC scope cl C X.env) fp) kx tk)
    (pv : ∀ (s : Shared) (H : Hp) (C : Addr) (cl : List (Str × Addr)) (fp : List Addr), PE (X.blk s H scope (compEnvC scope cl C X.env) fp) vx tv) (plainIter : ∀ x, foldedSetIterable iter X.env x = pure x) :
    PE X (.DictComp kx vx [⟨tg, iter, ifs, 0⟩] scope pos) (tDcT X.K X.prog X.w wi g tt tk tv (own.map (·.2))) := by
  refine ⟨fun pins s σ H Q I want => ?_⟩
  have cellsThere : ∀ y ∈ scope.names, y.2 = .free → ∃ c, X.env.cells.lookup y.1 = some c := fun y hy e => (blk.free y hy e).elim (fun k => I.ok.has _ (.inl k)) fun k => I.ok.has _ (.inr k)
  rw [arm_eval_DictComp]
  refine wpAny_comprehension_free (use := none) rfl plainIter (closure_ok cellsThere) blk.kind (fun y hy e => by rw [blk.uniq y hy, e]) (thn (walks.run pins s σ H _ I want) fun xv s1 r1 => thn r1 fun itv s2 r2 => ?_)
  obtain ⟨it, fp, tn, J, Hb, rfl, Ib, T, st0, foot, rest⟩ := r2
  obtain ⟨D, hD⟩ : ∃ D, s2.heap.objs.size = D := ⟨_, rfl⟩
  have freeD : Hb D = none := Ib.hok.fresh (Nat.le_of_eq hD)
  obtain ⟨W, ⟨m0, w0⟩, turns⟩ := rest D freeD
  refine wpAny_newObj_type (newEnv_comp ?_)
  obtain ⟨s3, hs3⟩ : ∃ s3 : Shared, ({ s2 with heap := newDi s2.heap } : Shared) = s3 := ⟨_, rfl⟩
  have heap3 : s3.heap = newDi s2.heap := by rw [← hs3]
  have I3 : Inv X pins σ (upd Hb D (DtO X.prog X.w D [])) s3 := by
    subst hs3
    exact Ib.laid (t' := s2.toks) (fun b o e => Heap.get?_push_of_some _ e) (Nat.le_of_eq hD) (by rw [← hD]; exact DtO.new (fresh_dt _ Ib.big))
  obtain ⟨H3, hH3⟩ : ∃ H3, upd Hb D (DtO X.prog X.w D []) = H3 := ⟨_, rfl⟩
  rw [hH3] at I3 w0
  have foot3 : ∀ b ∈ fp, FpOk X pins H3 b ∧ b < s3.heap.objs.size := by
    intro b hb
    obtain ⟨o, e, -⟩ := T.obj _ _ st0 b hb
    have lt := Heap.lt_size e
    refine ⟨⟨?_, (foot b hb).2⟩, by rw [heap3]; show b < (s2.heap.push _).objs.size; rw [Heap.size_push]; exact Nat.lt_succ_of_lt lt⟩
    rw [← hH3, upd_ne (by rw [← hD]; exact Nat.ne_of_lt lt)]
    exact (foot b hb).1
  have st3 : tn 0 s3.heap := T.keep _ _ _ st0 fun b _ o e => by rw [heap3]; exact Heap.get?_push_of_some _ e
  obtain ⟨cells, hcells⟩ : ∃ cells, cellsFrom (s3.heap.objs.size + 1) scope.names (cloFrom X.env.cells scope.names []) = cells := ⟨_, rfl⟩
  have inBlk := block_start I3 blk nd foot3
  have g3 := pg s3 H3 s3.heap.objs.size cells fp
  have t3 := pt s3 H3 s3.heap.objs.size cells fp
  have k3 := pk s3 H3 s3.heap.objs.size cells fp
  have v3 := pv s3 H3 s3.heap.objs.size cells fp
  rw [hcells] at inBlk
  have gone : ∀ b ∈ fp, H3 b = none := fun b hb => (foot3 b hb).1.1
  have goal : codeAny (model X.prog X.w) X.A (.compStart (.DictComp kx vx [⟨tg, iter, ifs, 0⟩] scope pos) 0 (.ref it) (.ref D) (compEnvC scope cells s3.heap.objs.size X.env)) (compPost (model X.prog X.w) X.A X.xe none (EP X pins σ Q) (.ref D) s3.heap.objs.size)
      { s3 with heap := pushCells (s3.heap.push { cls := .type "dict", data := .dict #[] }) scope.names } := by
    obtain ⟨ce, hce⟩ : ∃ ce, compEnvC scope cells s3.heap.objs.size X.env = ce := ⟨_, rfl⟩
    rw [hce] at inBlk g3 t3 k3 v3 ⊢
    have loc : ce.locals = s3.heap.objs.size := by rw [← hce]; rfl
    obtain ⟨s4, hs4⟩ : ∃ s4 : Shared, ({ s3 with heap := pushCells (s3.heap.push { cls := .type "dict", data := .dict #[] }) scope.names } : Shared) = s4 := ⟨_, rfl⟩
    rw [hs4] at inBlk ⊢
    have st4 : tn 0 s4.heap := T.keep _ _ _ st3 fun b _ o e => by rw [← hs4]; exact pushCells_keeps _ _ _ _ (Heap.get?_push_of_some _ e)
    have feet : ∀ {σ' : L2.St} {H' : Hp} {s' : Shared}, Inv (X.blk s3 H3 scope ce fp) [] σ' H' s' → (∀ b ∈ fp, H' b = none) → ∀ b ∈ fp, FpOk (X.blk s3 H3 scope ce fp) [] H' b := fun {σ' H' s'} J' none' b hb =>
      ⟨none' b hb, (J'.ok.exf b hb).1, J'.ok.exfs b hb, .inl hb, fun x c e => (J'.ok.exf b hb).2 x c e, fun p hp => absurd (show p ∈ ([] : List (Addr × Obj)) ++ [] from hp) (by simp)⟩
    have run : codeAny (model X.prog X.w) X.A (.compLoop (.DictComp kx vx [⟨tg, iter, ifs, 0⟩] scope pos) 0 (.ref it) (.ref D) ce) (compPost (model X.prog X.w) X.A X.xe none (EP X pins σ Q) (.ref D) s3.heap.objs.size) s4 := by
      refine compLoop_anyD (fun n s' => ∃ i H', Inv (X.blk s3 H3 scope ce fp) [] (wipe σ (own.map (·.2))) H' s' ∧ tn i s'.heap ∧ (∀ b ∈ fp, H' b = none) ∧ W i n H') ?_ m0 ⟨0, H3, inBlk, st4, gone, w0⟩
      rintro n s5 ⟨i, H5, I5, st5, none5, w5⟩
      obtain ⟨stop, fin⟩ | ⟨go, Nx, next, step⟩ := turns i n H5 w5
      · refine thnF (T.done (X.blk s3 H3 scope ce fp) rfl rfl rfl calm i [] s5 _ H5 (fun _ _ => False) I5 (feet I5 none5) st5 stop) fun r s6 ⟨er, I6⟩ => ?_
        subst er
        have back : Inv X pins σ H5 s6 := I3.call' (ch := fp) I6.os I6.base I6.hok I6.bare fun b hb => have q := (foot3 b hb).1.2; ⟨q.2.2.1, q.1, q.2.2.2.1, q.2.2.2.2⟩
        have noC : H5 s3.heap.objs.size = none := loc ▸ (show H5 ce.locals = none from I6.free)
        obtain ⟨m, hn, -⟩ := I6.loc
        have ns : s6.heap.Ns s3.heap.objs.size m := loc ▸ (show s6.heap.Ns ce.locals m from hn)
        obtain ⟨f0, f1, f2, f3, f4, f5⟩ := I3.fpOk (Nat.le_refl _) noC
        exact ⟨m, ns, fun h'' sb => ⟨.ref D, H5, back.turned (t' := s6.toks) (fun b o hb e => (sb.2 b hb).trans e) f0 f1 f3 f4 f5, rfl, fin⟩⟩
      · refine thnF (T.item (X.blk s3 H3 scope ce fp) rfl rfl rfl calm i [] s5 _ H5 (fun _ _ => False) I5 (feet I5 none5) st5 go) fun r s6 ⟨u, er, r6⟩ => ?_
        subst er
        refine thnF r6 fun _ s7 ⟨x, H7, I7, rx, y7, st7, none7⟩ => ?_
        refine thnF (g3.run _ s7 _ H7 x u _ (I7.pinned (feet I7 none7) (T.obj _ _ st7)) rx (step x H7 y7)) fun _ s8 ⟨σ8, H8, I8, same8, q8⟩ => thnF (t3.run _ s8 σ8 H8 _ I8 q8) fun b s9 ⟨H9, I9, q9⟩ => ?_
        have on : ∀ {s' : Shared} {H' : Hp}, Inv (X.blk s3 H3 scope ce fp) ([] ++ pinsAt fp s7.heap) σ8 H' s' → Nx H' → ∃ m, m < n ∧ ∃ i H', Inv (X.blk s3 H3 scope ce fp) [] (wipe σ (own.map (·.2))) H' s' ∧ tn i s'.heap ∧ (∀ b ∈ fp, H' b = none) ∧ W i m H' := by
          intro s' H' J' nx
          obtain ⟨m', lt, w'⟩ := next H' nx
          have still : ∀ b ∈ fp, ∀ o, s7.heap.get? b = some o → s'.heap.get? b = some o ∧ H' b = none := fun b hb o e =>
            have z := J'.pin (b, o) (List.mem_append_right _ (List.mem_append_right _ (mem_pinsAt hb e)))
            ⟨z.1, z.2.1⟩
          refine ⟨m', lt, i + 1, H', (J'.unpinned (pins := [])).weak (by rw [← same8, wipe_length]) (fun j v e => (wipe_some (same8 ▸ e)).1), T.keep _ _ _ st7 fun b hb o e => (still b hb o e).1, fun b hb => ?_, w'⟩
          obtain ⟨o, e, -⟩ := T.obj _ _ st7 b hb
          exact (still b hb o e).2
        cases b
        · exact on I9 q9
        · refine thnF (k3.run _ s9 σ8 H9 _ I9 q9) fun z s10 ⟨yk, H10, I10, rz, q10⟩ => thnF (v3.run _ s10 σ8 H10 _ I10 q10) fun z2 s11 ⟨yv, H11, I11, rz2, c, bk, L, ey, atD, room, keys, ck, nx⟩ => ?_
          subst ey
          exact dt_set (X := X.blk s3 H3 scope ce fp) hu I11 atD room keys ck rz fun s12 I12 => on I12 nx
    exact codeAny_compStart_dict run (T.self X.A 0 _ _ _ st4 run)
  rw [← hcells] at goal
  subst hs3
  rw [hD]
  exact goal
end SX
end
section
/-! ES11: sorted of a dict whose keys are tuples. -/
namespace SX
open PySem PySem.Spec PyProof.Rows L2 Srt SrtO
section
variable {P : Program} {w : World} {A : Around} {E : Value → Shared → Prop} {s : Shared}
/-- sorted of what is collected -/
theorem sorted_collect {a : Addr} {vs : List Value} {ltv : Value → Value → Bool} {Q : Value → Shared → Prop} (O : Swo ltv) (hz : vs.length ≤ sizeLine)
    (hcol : ∀ {R : List Value → Shared → Prop}, (∀ h' tk, (∀ b o, s.heap.get? b = some o → h'.get? b = some o) → R vs { s with heap := h', toks := tk }) → wpAny (model P w) A.in1 (collect (.ref a)) R (fun e s' => E e s') s)
    (hS : 2 ≤ vs.length → ∀ (h₁ : Heap) (tk : Nat) (b : Addr), h₁.get? b = some (seqObj "list" vs.toArray 0) → (∀ c o, s.heap.get? c = some o → c ≠ b ∧ h₁.get? c = some o) → SortableO P w A.in1.in1 { s with heap := h₁, toks := tk } b vs ltv)
    (h : ∀ (out : List Value) (h0 h' : Heap) (tk c : Nat), Srtd ltv out → Stb ltv out vs → (∀ b o, s.heap.get? b = some o → h0.get? b = some o) → (∀ b o, h0.get? b = some o → h'.get? b = some o) → h'.get? h0.objs.size = some (seqObj "list" out.toArray c) → Q (.ref h0.objs.size) { s with heap := h', toks := tk }) :
    wpAny (model P w) A (call (.builtin "sorted") [.ref a]) Q E s := by
  refine Calls.call_function_entry kind_sorted plain_sorted entry_sorted (args_sorted1 _) ?_
  unfold Builtin.«sorted»
  refine wpAny_bind (m := checkCount "sorted" 1 1 _) (wpAny_pure ?_)
  refine wpAny_bind (hcol fun h' tk kp => ?_)
  refine wpAny_bind (wpAny_newList ?_ hz)
  have hoL : (h'.push (seqObj "list" vs.toArray 0)).get? h'.objs.size = some (seqObj "list" vs.toArray 0) := Heap.get?_push_size _ rfl
  have keep : ∀ c o, s.heap.get? c = some o → c ≠ h'.objs.size ∧ (h'.push (seqObj "list" vs.toArray 0)).get? c = some o := fun c o e => ⟨Nat.ne_of_lt (Heap.lt_size (kp c o e)), Heap.get?_push_of_some _ (kp c o e)⟩
  show wpAny _ _ _ _ _ { s with heap := h'.push (seqObj "list" vs.toArray 0), toks := tk }
  refine wpAny_bind (wpAny_holding (wpAny_call_entry slot_list_sort ⟨_, hoL, rfl⟩ entry_list_sort (list_sort_ord (s := { s with heap := h'.push (seqObj "list" vs.toArray 0), toks := tk }) O hoL hz (fun h2 => hS h2 _ tk _ hoL keep) fun out hs hb => ⟨_, rfl, ?_⟩) (args_list_sort _)))
  obtain ⟨e', he'⟩ := sortedHeap_at (vs := vs) (out := out.toArray) hoL
  refine wpAny_pure ⟨_, rfl, h out h' _ _ e' hs hb kp (fun b o e => ?_) he'⟩
  have hb : b < h'.objs.size := Heap.lt_size e
  rw [sortedHeap_old (Nat.ne_of_lt hb) (by rw [size_push']; exact Nat.lt_succ_of_lt hb)]
  exact Heap.get?_push_of_some _ e
end
end SX
namespace DL
open PySem PySem.Spec PyProof.Rows L2 SX Srt SrtO
variable {X : Cx}
def rSortDT (X : Cx) : List V → Hp → VK → Prop := fun vs H Q => ∃ (a : Addr) (L : List (List L2.Key × Addr)) (ds : List D) (ρ : Pl) (st : Store), vs = [.ref a] ∧ RelSt X.K ρ H st ∧ H a = some (DtO X.prog X.w a L) ∧ RelDs X.K ρ H ds (L.map fun p => V.ref p.2) ∧ sortable ds = true ∧ L.length ≤ 1000 ∧
  ∀ ρ' H' v, Ext ρ H ρ' H' → RelSt X.K ρ' H' st → RelD X.K ρ' H' (.lst (isort (fun x y => lexK (tk x) (tk y)) ds)) v → Q v H'
theorem cr_sortDT (calm : X.calm = true) : CallR X (.builtin "sorted") (rSortDT X) := by
  intro pins s σ H vs us Q I rx q
  obtain ⟨a, L, ds, ρ, st, rfl, rs, ha, rd, hs, hl, q⟩ := q
  obtain ⟨u, rfl, ru⟩ := vals1 rx
  obtain rfl : u = Value.ref a := ru
  obtain ⟨zs, xs, o, es, ep, eL, ho, hx, hd, he, hn⟩ := (I.hok a _ ha).1
  have lx : xs.length = L.length := by rw [← eL, List.length_map]
  have rv : Vals (L.map fun p => V.ref p.2) (L.map fun p => Value.ref p.2) := by
    clear rd eL lx ha q hl
    induction L with
    | nil => exact .nil
    | cons p r ih => exact .cons rfl ih
  obtain ⟨T, t1, t2, t3, t4⟩ := tri_of rd rv
  have every : ∀ t ∈ T, (tupKeys t.1).isSome = true := fun t ht => by
    rcases sortable_ok hs with h | ⟨b, sh, h⟩
    · rw [h] at t1
      rw [List.map_eq_nil_iff.mp t1] at ht
      cases ht
    · exact (h t.1 (by rw [← t1]; exact List.mem_map_of_mem ht)).1
  have look : ∀ t ∈ T, keysAt s.heap t.2.2 = tk t.1 := fun t ht => (kt_of I (t4 t ht) (every t ht)).keys
  have O := swo_key (keysAt s.heap)
  have OT := swo_key fun t : D × V × Value => keysAt s.heap t.2.2
  have l1 : es.size = xs.length := size_of_entries he
  have hsz : (L.map fun p => Value.ref p.2).length ≤ sizeLine := by rw [List.length_map, sizeLine_eq]; omega
  refine sorted_collect (a := a) (vs := L.map fun p => Value.ref p.2) O hsz (fun {R} k => ?_) (fun h2' h₁ tk b' ha' kk => ?_) fun out h0 h' tk c hsd hsb kp kp2 hp => ?_
  · refine PySem.W.kdu_collect (A := X.A.in1) (kdl_raw zs hx hd) (I.ok.hd calm) ho (by rw [l1, lx, sizeLine_eq]; omega) fun h' tk acc hk hacc => ?_
    have ea : acc.toList = xs.map fun x => Value.ref x.2.1 := by
      have hlen : acc.toList.length = xs.length := by rw [Array.length_toList, hacc.1]; exact l1
      apply List.ext_getElem?
      intro j
      rw [List.getElem?_map]
      cases hj : acc.toList[j]? with
      | none =>
        have h1 := List.getElem?_eq_none_iff.mp hj
        rw [List.getElem?_eq_none (by omega)]
        all_goals rfl
      | some v =>
        obtain ⟨en, hen, hv⟩ := hacc.2 j v (by rw [← Array.getElem?_toList]; exact hj)
        have qe := entry_at he j
        rw [hen] at qe
        cases hb : xs[j]? with
        | none =>
          rw [hb] at qe
          exact nomatch (show some en = none from qe)
        | some b =>
          rw [hb] at qe
          have e2 : en = entryOfKey (tupleKind (mixKind X.prog X.w)) b := Option.some.inj qe
          rw [hv, e2]
          all_goals rfl
    have ea2 : (L.map fun p => Value.ref p.2) = xs.map fun x => Value.ref x.2.1 := by
      rw [← eL, List.map_map]
      all_goals rfl
    rw [ea, ← ea2]
    exact k h' tk hk
  · rcases sortable_ok hs with h | ⟨b, sh, h⟩
    · exfalso
      rw [h] at t1
      rw [← t3, List.map_eq_nil_iff.mp t1] at h2'
      simp at h2'
    · refine kt_sortable (s := { s with heap := h₁, toks := tk }) (b := b) (sh := sh) (by omega) (fun v hv => ?_) fun o e => ?_
      · rw [← t3] at hv
        obtain ⟨t, ht, rfl⟩ := List.mem_map.mp hv
        rw [look t ht]
        exact ⟨(kt_of I (t4 t ht) (every t ht)).keeps fun b o e _ => (kk b o e).2, (h t.1 (by rw [← t1]; exact List.mem_map_of_mem ht)).2⟩
      · have e' : some o = some (seqObj "list" (L.map fun p => Value.ref p.2).toArray 0) := e.symm.trans ha'
        cases e'
        intro c
        exact absurd (Value.type.inj c) (by decide)
  · have hT := isort_ok OT T
    have eo : out = (isort (fun t u : D × V × Value => lexK (keysAt s.heap t.2.2) (keysAt s.heap u.2.2)) T).map (·.2.2) := by
      refine stb_uniq O hsd (srtd_map (lt := fun v u => lexK (keysAt s.heap v) (keysAt s.heap u)) hT.1) (hsb.trans (Stb.symm ?_))
      have := Stb.map O (fun t : D × V × Value => t.2.2) hT.2
      rw [t3] at this
      exact this
    have ed : isort (fun x y => lexK (DL.tk x) (DL.tk y)) ds = (isort (fun t u : D × V × Value => lexK (keysAt s.heap t.2.2) (keysAt s.heap u.2.2)) T).map (·.1) := by
      rw [← t1]
      refine (isort_map (lt := fun x y => lexK (DL.tk x) (DL.tk y)) (fun t : D × V × Value => t.1) T []).trans (congrArg (List.map fun t : D × V × Value => t.1) ?_)
      exact isort_congr (P := (· ∈ T)) (fun x y hx hy => by rw [look x hx, look y hy]) T [] (fun x hx => hx) fun x hx => by cases hx
    have every4 : ∀ t ∈ isort (fun t u : D × V × Value => lexK (keysAt s.heap t.2.2) (keysAt s.heap u.2.2)) T, Tri X.K ρ H t := fun t ht => t4 t ((isort_mem OT).mp ht)
    obtain ⟨b1, b2⟩ := tri_back every4
    rw [← ed] at b1
    rw [← eo] at b2
    have I0 : L2.Inv X pins σ H { s with heap := h0, toks := tk } := I.kept kp
    have np : H h0.objs.size = none := I0.hok.fresh (Nat.le_refl _)
    refine ⟨.ref h0.objs.size, upd H h0.objs.size (.lst _), I0.laid (t' := tk) kp2 (Nat.le_refl _) ⟨?_, out, c, b2, hp⟩, rfl, q ρ _ _ (Ext.new rs np) (rs.new np) (new_lst rs np b1)⟩
    rw [List.length_map, isort_len OT, ← List.length_map (f := fun t : D × V × Value => t.2.1), t2, List.length_map, sizeLine_eq]
    omega
end DL
end
section
/-! ES12: sorted({key: value for .. in ..}), the keys tuples. -/
namespace DL
open PySem PySem.Spec PyProof.Rows L2 SX
theorem DtO.hidable (P : Program) (w : World) (a : Addr) (L : List (List L2.Key × Addr)) : hidable (DtO P w a L) := by
  refine ⟨rfl, fun c q h => ?_, fun ob u h => by cases h⟩
  unfold DtO LamX.CodeO at h
  injection h with h
  let cell : Obj := { cls := .none, data := .fields #[.none, .str q 0] }
  let hp : Heap := { objs := (Array.replicate c { cls := .none, data := .freed }).push cell }
  have at_c : hp.get? c = some cell := by
    have e : hp.objs[c]? = some cell := by
      show ((Array.replicate c ({ cls := .none, data := .freed } : Obj)).push cell)[c]? = some cell
      rw [Array.getElem?_push, if_pos (by simp)]
    unfold Heap.get?
    rw [e]
  have yes : ∃ (oc : Obj) (vs : Array Value) (t : Tok), hp.get? c = some oc ∧ oc.data = .fields vs ∧ vs[1]? = some (.str q t) := ⟨cell, _, 0, at_c, rfl, rfl⟩
  have no : DtRows P w hp a L := (congrFun h hp).mpr yes
  obtain ⟨-, xs, o, es, ep, -, ho, -, hd, -⟩ := no
  by_cases e : a = c
  · rw [e, at_c] at ho
    cases ho
    cases hd
  · have none_ : hp.get? a = none := by
      unfold Heap.get?
      simp only [hp]
      rcases Nat.lt_trichotomy a c with z | z | z
      · rw [Array.getElem?_push, if_neg (by simpa using e)]
        simp [z]
      · exact absurd z e
      · rw [Array.getElem?_eq_none (by simp; omega)]
    rw [none_] at ho
    cases ho
def putTup (acc : List D) (y : D) : List D := if (acc.any fun d => decide (tk d = tk y)) = true then acc else acc ++ [y]
theorem putTup_len (acc : List D) (y : D) : (putTup acc y).length ≤ acc.length + 1 := by
  unfold putTup
  split
  · omega
  · simp
/-- the keys of a dict comprehension, all of them tuples -/
def dcK (chk : Store → Bool) (c : CT) (te tv : FF D) (env0 : Env') : List D → List D → Store → Option (List D × Store)
  | [], acc, st => if chk st then some (acc, st) else none
  | x :: r, acc, st => if chk st then (match bindT c x env0 with
    | some env1 => match te env1 st with
      | .ok y st1 => match tv env1 st1 with
        | .ok _ st2 => if (tupKeys y).isSome && decide (acc.length < 62) then dcK chk c te tv env0 r (putTup acc y) st2 else none
        | _ => none
      | _ => none
    | none => none) else none
theorem dcK_chk {chk : Store → Bool} {c : CT} {te tv : FF D} {env0 : Env'} {l acc : List D} {st : Store} {r : List D × Store} (h : dcK chk c te tv env0 l acc st = some r) : chk st = true := by
  cases l <;> (unfold dcK at h; split at h; assumption; cases h)
def fsortDT (fi : FF Items) (c : CT) (te tv : FF D) (vs : List Nat) : FF D := fun env st => (fi env st).bind fun it st1 => match dcK it.chk c te tv (wipeE env vs) it.xs [] st1 with
  | some (acc, st2) => if sortable acc then .ok (.lst (isort (fun x y => lexK (tk x) (tk y)) acc)) st2 else .stuck
  | none => .stuck
/-- what the table holds, and what is told of it -/
structure DtRel (K : PySem.W.Frag) (ρ : Pl) (H : Hp) (acc : List D) (L : List (List L2.Key × Addr)) : Prop where
  rel : RelDs K ρ H acc (L.map fun p => V.ref p.2)
  keys : L.map (·.1) = acc.map tk
  tups : ∀ d ∈ acc, (tupKeys d).isSome = true
theorem DtRel.stay {K : PySem.W.Frag} {ρ ρ' : Pl} {H H' : Hp} {acc : List D} {L : List (List L2.Key × Addr)} (m : DtRel K ρ H acc L) (s : Stay ρ H ρ' H') : DtRel K ρ' H' acc L := ⟨m.rel.stay s, m.keys, m.tups⟩
theorem key_at {K : PySem.W.Frag} {ρ : Pl} {H : Hp} {y : D} {v : V} (r : RelD K ρ H y v) (h : (tupKeys y).isSome = true) : ∃ b, v = .ref b ∧ SqT K H b ((tk y).map kV) := by
  obtain ⟨ks, hk⟩ := Option.isSome_iff_exists.mp h
  have e : tk y = ks := by unfold tk; rw [hk]; rfl
  rw [e]
  cases y with
  | tup xs =>
    obtain ⟨a, vs, e1, h1, h2⟩ := tup_ok r
    rw [keysD_ok h2 hk] at h1
    exact ⟨a, e1, h1⟩
  | _ => cases hk
theorem DtRel.len {K : PySem.W.Frag} {ρ : Pl} {H : Hp} {acc : List D} {L : List (List L2.Key × Addr)} (m : DtRel K ρ H acc L) : L.length = acc.length := by
  have := congrArg List.length m.keys
  simpa using this
theorem DtRel.sq {K : PySem.W.Frag} {ρ : Pl} {H : Hp} : ∀ {acc : List D} {L : List (List L2.Key × Addr)}, DtRel K ρ H acc L → ∀ p ∈ L, SqT K H p.2 (p.1.map kV)
  | [], [], _, p, hp => by cases hp
  | [], _ :: _, m, _, _ => by have := m.len; simp at this
  | _ :: _, [], m, _, _ => by have := m.len; simp at this
  | d :: acc, q :: L, m, p, hp => by
    obtain ⟨r, k, t⟩ := m
    rw [List.map_cons] at r k
    rw [List.map_cons, List.cons.injEq] at k
    cases r with
    | cons r1 r2 =>
      rcases List.mem_cons.mp hp with rfl | hp
      · obtain ⟨b, e, h⟩ := key_at r1 (t d List.mem_cons_self)
        cases e
        rw [← k.1] at h
        exact h
      · exact DtRel.sq ⟨r2, k.2, fun x hx => t x (List.mem_cons_of_mem _ hx)⟩ p hp
theorem DtRel.put {K : PySem.W.Frag} {ρ : Pl} {H : Hp} {acc : List D} {L : List (List L2.Key × Addr)} (m : DtRel K ρ H acc L) {y : D} {b : Addr} (r : RelD K ρ H y (.ref b)) (h : (tupKeys y).isSome = true) : DtRel K ρ H (putTup acc y) (putDt L (tk y) b) := by
  have e : (L.any fun p => decide (p.1 = tk y)) = (acc.any fun d => decide (tk d = tk y)) := by
    have h1 : (L.any fun p => decide (p.1 = tk y)) = (L.map (·.1)).any fun k => decide (k = tk y) := by rw [List.any_map]; rfl
    have h2 : (acc.any fun d => decide (tk d = tk y)) = (acc.map tk).any fun k => decide (k = tk y) := by rw [List.any_map]; rfl
    rw [h1, h2, m.keys]
  unfold putTup putDt
  rw [e]
  split
  · exact m
  · refine ⟨?_, ?_, fun d hd => ?_⟩
    · rw [List.map_append]
      exact m.rel.append (.cons r .nil)
    · rw [List.map_append, List.map_append, m.keys]
      rfl
    · rcases List.mem_append.mp hd with hd | hd
      · exact m.tups d hd
      · rw [List.mem_singleton.mp hd]
        exact h
variable {X : Cx} {W : WG}
theorem tDcT_of {fi : FF Items} {c : CT} {te tv : FF D} {vs : List Nat} {σ : L2.St} {H : Hp} {Q : VK} (hv : ∀ i ∈ c.vars, i ∈ vs) (h : lE X.K W (fsortDT fi c te tv vs) σ H Q) :
    tDcT X.K X.prog X.w (lI X.K W fi) (gCT X.K c) (lT X.K W.nf ftrue) (lE X.K W.nf te) (lE X.K W.nf tv) vs σ H fun v H2 => rSortDT X [v] H2 Q := by
  obtain ⟨ρ, env, st, g, o⟩ := h
  refine ⟨ρ, env, st, g, ?_⟩
  unfold fsortDT at o
  cases hf : fi env st with
  | exc x st1 => rw [hf] at o; exact o
  | stuck => rw [hf] at o; exact o.elim
  | ok it st1 =>
    rw [hf] at o
    intro ρ1 H1 J P e1 s1 hP hI hchk Da nD
    have o1 : OutE X.K W ρ1 H1 σ (match dcK it.chk c te tv (wipeE env vs) it.xs [] st1 with
      | some (acc, st2) => if sortable acc then .ok (.lst (isort (fun x y => lexK (tk x) (tk y)) acc)) st2 else .stuck
      | none => .stuck) Q := OutR.from_ e1 o
    have g1 := g.ext e1 s1
    have mk0 := Hiding.start s1 nD (DtO.hidable X.prog X.w Da [])
    have reach : ∀ {ρ2 : Pl} {H2 : Hp}, Stay ρ1 H1 ρ2 H2 → RelEnv X.K ρ2 H2 (wipeE env vs) (wipe σ vs) := fun s => (g1.env.stay s).wiped vs
    refine ⟨fun i n H2 => ∃ ρ2 st2 acc L, n = it.xs.length - i ∧ i ≤ it.xs.length ∧ Hiding X.K ρ1 H1 Da ρ2 H2 st2 (DtO X.prog X.w Da L) ∧ acc.length < 63 ∧ DtRel X.K ρ2 H2 acc L ∧ P ρ2 H2 ∧ ∃ r, dcK it.chk c te tv (wipeE env vs) (it.xs.drop i) acc st2 = some r ∧ sortable r.1 = true ∧ OutE X.K W ρ1 H1 σ (.ok (.lst (isort (fun x y => lexK (tk x) (tk y)) r.1)) r.2) Q, ?_, ?_⟩
    · cases hr : dcK it.chk c te tv (wipeE env vs) it.xs [] st1 with
      | none => rw [hr] at o1; exact o1.elim
      | some r =>
        rw [hr] at o1
        simp only at o1
        split at o1
        · rename_i hs
          exact ⟨_, _, st1, [], [], rfl, Nat.zero_le _, mk0, by decide, ⟨.nil, rfl, fun d hd => by cases hd⟩, hI.stay _ _ _ _ mk0.stay hP, r, by simpa using hr, hs, o1⟩
        · exact o1.elim
    · rintro i n H2 ⟨ρ2, st2, acc, L, rfl, hle, mk, hl, dr, hP2, r, hr, hs, o2⟩
      have hc2 := dcK_chk hr
      by_cases hlt : i < it.xs.length
      · refine .inr ⟨hI.go ρ2 H2 st2 i mk.st hc2 hP2 hlt, _, fun H' q => q, fun x H' y => ?_⟩
        obtain ⟨ρ3, e3, s3, r3⟩ := hI.yld ρ2 H2 st2 i _ x H' mk.st hc2 hP2 (List.getElem?_eq_getElem hlt) y
        have mk3 := mk.ext e3 s3
        rw [List.drop_eq_getElem_cons hlt] at hr
        unfold dcK at hr
        rw [if_pos hc2] at hr
        split at hr
        · rename_i env1 hb
          refine ct_walk (reach mk3.stay.toStay) r3 hb fun σ' re' hl' hk' => ⟨?_, ρ3, env1, st2, ⟨re', s3, e3.tt.trans (mk.tt.trans g1.tt), .none rfl rfl⟩, ?_⟩
          · have : wipe σ' vs = wipe (wipe σ vs) vs := wipe_ext hl' fun j hj => hk' j fun z => hj (hv j z)
            rw [this]
            exact wipe_ext (wipe_length _ _) fun j hj => by rw [wipe_get, if_neg hj]
          · intro ρ4 H4 k e4 s4 r4
            cases r4
            rw [if_pos rfl]
            have mk4 := mk3.ext e4 s4
            refine ⟨ρ4, env1, st2, ⟨re'.ext e4, s4, (e3.trans e4).tt.trans (mk.tt.trans g1.tt), .none rfl rfl⟩, ?_⟩
            split at hr
            · rename_i y st4 hy
              rw [hy]
              intro ρ5 H5 v e5 s5 r5
              have mk5 := mk4.ext e5 s5
              refine ⟨ρ5, env1, st4, ⟨(re'.ext e4).ext e5, s5, ((e3.trans e4).trans e5).tt.trans (mk.tt.trans g1.tt), .none rfl rfl⟩, ?_⟩
              split at hr
              · rename_i z st5 hz
                rw [hz]
                split at hr
                · rename_i hlen
                  rw [Bool.and_eq_true, decide_eq_true_eq] at hlen
                  intro ρ6 H6 v2 e6 s6 r6
                  have mk6 := mk5.ext e6 s6
                  have dr6 : DtRel X.K ρ6 H6 acc L := dr.stay (e3.trans (e4.trans (e5.trans e6))).stay
                  have r56 := RelD.stay e6.stay r5
                  obtain ⟨b, eb, hsq⟩ := key_at r56 hlen.1
                  subst eb
                  obtain ⟨mk7, sy⟩ := mk6.put (DtO.hidable X.prog X.w Da L) (DtO.hidable X.prog X.w Da (putDt L (tk y) b))
                  have hL : L.length + 1 < 64 := by have := dr6.len; omega
                  refine ⟨tk y, b, L, rfl, mk6.at_, hL, dr6.sq, hsq, _, (by omega : it.xs.length - (i + 1) < it.xs.length - i), ρ6, st5, putTup acc y, putDt L (tk y) b, rfl, hlt, mk7, by have := putTup_len acc y; omega, (dr6.put r56 hlen.1).stay sy.toStay, hI.stay _ _ _ _ ((e3.trans (e4.trans (e5.trans e6))).stayF.trans sy) hP2, r, hr, hs, o2⟩
                · cases hr
              · cases hr
            · cases hr
        · cases hr
      · have hi' : i = it.xs.length := by omega
        subst hi'
        refine .inl ⟨hI.stop ρ2 H2 st2 _ mk.st hc2 hP2 rfl, ?_⟩
        rw [List.drop_length] at hr
        unfold dcK at hr
        rw [if_pos hc2] at hr
        cases hr
        obtain ⟨h1, h2⟩ := mk.done
        have sy : Stay ρ2 H2 ⟨ρ2.r, ρ1.h, ρ2.T⟩ H2 := ⟨fun _ _ e => e, fun a u e _ n => ⟨e, n.1, fun z => n.2 (by rw [mk.hh]; exact List.mem_cons_of_mem _ z)⟩⟩
        have dr2 := dr.stay sy
        exact ⟨Da, L, acc, _, st2, rfl, h2, mk.at_, dr2.rel, hs, by have := dr.len; omega, fun ρ' H' v e s rl => o2 ρ' H' v (h1.trans e) s rl⟩
theorem de_sortDT {pos p cpos : Pos} {tg iter kx vx : Expr} {fi : FF Items} {c : CT} {te tv : FF D} {scope : Scope} {own : List (Str × Nat)} (hu : X.A.units < cLine) (hg : Gl X "sorted") (hm : X.mg "sorted" = none) (hc : X.calm = true) (hN : X.N.Nodup) (hi : DI X W tg iter fi) (ok : BlkOk X.N X.env.scope scope own)
    (hgt : ∀ (s : Shared) (H : Hp) (C : Addr) (cl : List (Str × Addr)) (fp : List Addr), PG (X.blk s H scope (compEnvC scope cl C X.env) fp) tg (gCT X.K c))
    (ht : ∀ (s : Shared) (H : Hp) (C : Addr) (cl : List (Str × Addr)) (fp : List Addr), PTs (X.blk s H scope (compEnvC scope cl C X.env) fp) [] (lT X.K W.nf ftrue))
    (hk : ∀ (s : Shared) (H : Hp) (C : Addr) (cl : List (Str × Addr)) (fp : List Addr), DE (X.blk s H scope (compEnvC scope cl C X.env) fp) W.nf kx te)
    (hvv : ∀ (s : Shared) (H : Hp) (C : Addr) (cl : List (Str × Addr)) (fp : List Addr), DE (X.blk s H scope (compEnvC scope cl C X.env) fp) W.nf vx tv) (hs : noSet iter = true) (hv : ∀ i ∈ c.vars, i ∈ own.map (·.2)) :
    DE X W (.Call (.Name "sorted" p) [.DictComp kx vx [⟨tg, iter, [], 0⟩] scope cpos] [] pos) (fsortDT fi c te tv (own.map (·.2))) :=
  PE.imp (pe_callB (cr_sortDT hc) hg hm PyProof.Rows.Boot.«sorted» (pa_cons (pe_dcT hu hc hN hi ok hgt ht hk hvv fun x => folded_val hs) pa_nil (by rfl)) (by decide) (by decide) (by rfl) (by rfl)) fun σ H Q h => tDcT_of hv h
end DL
end
section
/-! DL13: the evaluator: a def's text as a function of data. -/
namespace DL
open PySem PySem.Spec PyProof.Rows L2
open LamX (lamSB)
/-- what a name of the module holds -/
inductive GV where
  | val (d : D)
  | blt (id : String)
  | typ (T : String)
  | obj
abbrev Sem1 := List D → Store → Option (D × Store)
/-- the text around: names of the module; calls of defs, by how many are given and by keywords; which lists have numbers -/
structure EC where
  G : Str → Option GV
  cal : Str → Nat → List Str → Option SemX
  mu : Pos → Bool
  /-- which class is one of another -/
  sub : Str → Str → Option Bool
  /-- the fields of the exceptions of a class -/
  exf : Str → Option (List Str)
  /-- a def that gets a lambda -/
  lamc : Str → Option ((Store → Res D) → Store → Res D)
  /-- the calls of a lambda's body -/
  calL : Str → Nat → List Str → Option SemX
  /-- a def that takes any number of values -/
  calv : Str → Option SemX
  /-- methods: which way, class, name -/
  met : Nat → Str → Str → Nat → List Str → Option SemX
  /-- classes that are called -/
  mak : Str → Nat → List Str → Option SemX
  /-- .. in a lambda's body -/
  metL : Nat → Str → Str → Nat → List Str → Option SemX
  makL : Str → Nat → List Str → Option SemX
  /-- slots -/
  fld : Str → Str → Option Nat
  /-- which class is one of a built-in class -/
  subT : Str → String → Option Bool
def EC.low (C : EC) : EC := { C with cal := C.calL, lamc := fun _ => none, calL := fun _ _ _ => none, calv := fun _ => none, met := C.metL, mak := C.makL, metL := fun _ _ _ _ _ => none, makL := fun _ _ _ => none }
/-- a def or a block: its names by slots, its scope -/
structure SC where
  N : List Str
  sc : Scope
  fn : Str → Bool
  /-- no exception is in hand -/
  calm : Bool
  /-- the exception in hand -/
  ex : Option (Str × XD)
  /-- the lambda that may be called here; .. in a try -/
  lam : Option (Str × (Store → Res D))
  lat : Option (Str × (Store → Res D))
  /-- lambdas may be made -/
  lamOn : Bool
  /-- generator expressions may be made -/
  genOn : Bool
  /-- names that are not stored -/
  prot : List Str
def ixN' (N : List Str) (x : Str) : Option Nat := match N with
  | [] => none
  | y :: r => if y = x then some 0 else (ixN' r x).map (· + 1)
def isVis (k : Option NameKind) : Bool := match k with
  | some .local => true
  | some .cell => true
  | some .free => true
  | _ => false
def isLoc (k : Option NameKind) : Bool := match k with
  | some .local => true
  | some .cell => true
  | _ => false
def okName (x : Str) : Bool := !(x == ("__debug__" : Str)) && !(x == ("__classdict__" : Str)) && !decide (x = "__name__")
def fstuck {α : Type} : FF α := fun _ _ => .stuck
def sstuck : FS := fun _ _ => .stuck
/-- the slot of a name that may be read -/
def slotR (S : SC) (x : Str) : Option Nat := if isVis (S.sc.names.lookup x) && okName x then ixN' S.N x else none
/-- .. that may be stored -/
def SC.owned (S : SC) (x : Str) : Bool := (match S.ex with | some p => decide (p.1 = x) | none => false) || decide (x ∈ S.prot)
def slotW (S : SC) (x : Str) : Option Nat := if (isLoc (S.sc.names.lookup x) && (S.fn x || decide (S.sc.names.lookup x = some .local))) && !S.owned x then ixN' S.N x else none
/-- a block's names -/
def SC.blk (S : SC) (scope : Scope) : SC := ⟨S.N, relS scope S.sc, fun x => scope.names.lookup x == some .cell, true, none, none, none, S.lamOn, false, []⟩
/-- .. of a lambda; .. of a try's body, of an except suite -/
def SC.lamS (S : SC) (scope : Scope) : SC := ⟨S.N, scope, fun _ => false, true, none, none, none, false, false, []⟩
def SC.try_ (S : SC) : SC := { S with lam := S.lat, lamOn := false, genOn := false }
def SC.suite (S : SC) (n : Str) (x : XD) : SC := { S with calm := false, ex := some (n, x), lam := none, lat := none, lamOn := false, genOn := false }
def SC.suite0 (S : SC) : SC := { S with calm := false, lam := none, lat := none, lamOn := false, genOn := false }
def kwNames : List Keyword → Option (List Str)
  | [] => some []
  | k :: r => match k.arg, kwNames r with | some n, some ns => some (n :: ns) | _, _ => none
/-- values by place and by name -/
def fapp (f g : FF (List D)) : FF (List D) := fun env st => (f env st).bind fun ds st1 => (g env st1).bind fun es st2 => .ok (ds ++ es) st2
/-- no x.items() -/
def noItG : List Comprehension → Bool
  | [⟨_, .Call (.Attribute _ m _) [] [] _, _, _⟩] => !decide (m = "items")
  | _ => true
def isTupE : Expr → Bool
  | .Tuple _ _ _ => true
  | _ => false
/-- a name of the module -/
def glob (C : EC) (S : SC) (x : Str) : Option GV := if decide (S.sc.names.lookup x = some .globalImplicit) && okName x then C.G x else none
def fname (C : EC) (S : SC) (x : Str) : FF D := match slotR S x with
  | some i => fvar i
  | none => match glob C S x with
    | some (.val d) => fcon d
    | some (.typ T) => fcon (.ty T)
    | some .obj => fcon (.glb x)
    | _ => fstuck
def fconst : Const → FF D
  | .none => fcon .non
  | .bool b => fcon (.bl b)
  | .int i => fcon (.int i)
  | .str x => fcon (.str x)
  | _ => fstuck
/-- the built-in functions -/
def bltD (id : String) : Option Sem1 := match id with
  | "isinstance" => some isiD
  | "len" => some lenD
  | "ord" => some ordD
  | "min" => some (min2D false)
  | "max" => some (min2D true)
  | "all" => some (allD false)
  | "any" => some (allD true)
  | "sum" => some sumD
  | "sorted" => some sortedDX
  | "repr" => some reprD
  | _ => none
/-- .. that may be called with an exception in hand -/
def bltN (id : String) : Option Sem1 := match id with
  | "isinstance" => some isiD
  | "len" => some lenD
  | "ord" => some ordD
  | "repr" => some reprD
  | _ => none
def bltS (calm : Bool) (id : String) : Option Sem1 := if calm then bltD id else bltN id
def tyN (T : String) : Option Sem1 := match T with
  | "int" => some intD
  | "str" => some strD2
  | "tuple" => some tupleD
  | _ => none
def tyD (m : Bool) (T : String) : Option Sem1 := match T with
  | "int" => some intD
  | "str" => some strD2
  | "list" => some (listD m)
  | "tuple" => some tupleD
  | "dict" => some dictD2
  | _ => none
def tyS (calm m : Bool) (T : String) : Option Sem1 := if calm then tyD m T else tyN T
/-- the class of an exception, asked -/
def exIs (C : EC) (S : SC) : List Expr → Option Bool
  | [.Name n _, .Name c _] => match S.ex with
    | some (m, x) => if decide (n = m) && (C.exf x.cls).isSome && okName n then (match glob C S c with
      | some .obj => C.sub x.cls c
      | some (.typ T) => C.subT x.cls T
      | _ => none) else none
    | none => none
  | [.Name n _, .Tuple [.Name c _, .Name d _] _ _] => match S.ex with
    | some (m, x) => if decide (n = m) && (C.exf x.cls).isSome && okName n then (match glob C S c, glob C S d with
      | some .obj, some .obj => (match C.sub x.cls c, C.sub x.cls d with | some b1, some b2 => some (b1 || b2) | _, _ => none)
      | _, _ => none) else none
    | none => none
  | _ => none
/-- sorted(set(e)) -/
def setArg (C : EC) (S : SC) (x : Str) (id : String) : List Expr → Option Expr
  | [.Call (.Name y _) [e] [] _] => if S.calm && decide (x = ("sorted" : Str)) && decide (id = "sorted") && decide (y = ("set" : Str)) && !PySem.W.isStarred e then (match glob C S y with
    | some (.typ T) => if decide (T = "set") then some e else none
    | _ => none) else none
  | _ => none
/-- one way, or else the other -/
def forElse (f g : FF D) : FF D := fun env st => match f env st with
  | .stuck => g env st
  | r => r
/-- a call of a def whose name is a local one -/
def fcallV (C : EC) (i n : Nat) (ks : List Str) (fs : FF (List D)) : FF D := fun env st => match env[i]? with
  | some (some (.glb y)) => match C.cal y n ks with
    | some g => (fs env st).bind fun ds st1 => g ds st1
    | none => .stuck
  | _ => .stuck
/-- params without any -/
def noParams : Arguments → Bool
  | ⟨[], [], none, [], [], none, []⟩ => true
  | _ => false
/-- the methods of lists, dicts, texts -/
def mthD (mu : Bool) (m : Str) (n : Nat) : Option (String × (D → Sem1)) :=
  if m = "append" then (if n = 1 then some ("list", appendD) else none) else if m = "extend" then (if n = 1 then some ("list", extendD) else none) else if m = "pop" then (if n = 1 then some ("list", popAtD) else if n = 0 then some ("list", popD) else none)
  else if m = "index" then (if n = 1 then some ("list", indexD) else none) else if m = "get" then (if n = 1 ∨ n = 2 then some ("dict", getD1) else none) else if m = "upper" then (if n = 0 then some ("str", upperD) else none) else if m = "split" then (if n = 1 then some ("str", splitD mu) else none) else if m = "join" then (if n = 1 then some ("str", joinD) else none) else none
def mthK (mu : Bool) (m : Str) (args : List Expr) (kws : List Keyword) : Option (String × (D → Sem1)) := match kws with
  | [] => mthD mu m args.length
  | _ => none
def ownOf (N : List Str) : List (Str × NameKind) → List (Str × Nat)
  | [] => []
  | (y, k) :: r => if isLoc (some k) then (match ixN' N y with | some i => (y, i) :: ownOf N r | none => ownOf N r) else ownOf N r
def ctOf (S : SC) : Expr → Option CT
  | .Name x _ => (slotW S x).map .one
  | .Tuple es _ _ => (slots es).map .tup
  | _ => none
where slots : List Expr → Option (List Nat)
  | [] => some []
  | .Name x _ :: r => match slotW S x, slots r with | some i, some is => some (i :: is) | _, _ => none
  | _ => none
/-- two or three plain names from as many values: stored at once; none: the machine's own way is not known -/
def swp (ts vs : List Expr) (sc : Scope) : Option (Option (List Str)) :=
  if !(ts.length == 2 || ts.length == 3) || vs.length != ts.length then some none else
  if vs.any PySem.W.isStarred then some none else
  let names := ts.filterMap fun
    | .Name id pos => if sc.names.lookup id == some .local && pos.line == (ts.head?.map (·.pos.line)).getD 0 then some id else none
    | _ => none
  if names.length != ts.length || names.eraseDups.length != names.length then some none else
  if vs.all (foldedForSure 8) then some none else if vs.all (constantsAlone 8) then none else some (some names)
/-- list(range(..)) -/
def rgArgs (C : EC) (S : SC) (x : Str) (T : String) (args : List Expr) : Option (Expr × Option Expr) := match args with
  | [.Call (.Name y _) as [] _] => if decide (x = "list") && decide (T = "list") && decide (y = "range") && starless as then (match glob C S y, as with
    | some (.typ "range"), [a] => some (a, none)
    | some (.typ "range"), [a, b] => some (a, some b)
    | _, _ => none) else none
  | _ => none
mutual
def ev (C : EC) (S : SC) : Nat → Expr → FF D
  | 0, _ => fstuck
  | n + 1, e => match e with
    | .Name x _ => fname C S x
    | .Constant c _ _ => fconst c
    | .BinOp a op b pos => fbin (binM (C.mu pos) op) (ev C S n a) (ev C S n b)
    | .UnaryOp .Not a _ => fnotV (ev C S n a)
    | .UnaryOp .USub a _ => fneg (ev C S n a)
    | .BoolOp op vs _ => evB C S n op vs
    | .Compare l [op] [r] _ => if behindInMarks op r then fstuck else fbin (cmpD op) (ev C S n l) (ev C S n r)
    | .Compare l [op, op'] [b, c] _ => if lastMarks [op, op'] [b, c] then fstuck else fchain (cmpD op) (cmpD op') (ev C S n l) (ev C S n b) (ev C S n c)
    | .IfExp t a b _ => fif (evT C S n t) (ev C S n a) (ev C S n b)
    | .Tuple es _ _ => if starless es then ftup (evA C S n es) else ftup (evS C S n es)
    | .List es pos => if starless es then flst (C.mu pos) (evA C S n es) else flst (C.mu pos) (evS C S n es)
    | .Dict [none, some k] [e, v] _ => fdstar (ev C S n e) (ev C S n k) (ev C S n v)
    | .Dict keys values _ => if keys.isEmpty then (if values.isEmpty then fdict0 else fstuck) else if decide (keys.length = values.length) && decide (keys.length ≤ 15) then (match evPs C S n keys values with | some trs => fdict trs | none => fstuck) else fstuck
    | .Subscript a (.Slice lo hi none _) pos => fslice (C.mu pos) (ev C S n a) (evP C S n lo) (evP C S n hi)
    | .Subscript a (.Slice lo hi (some k) _) pos => fstep (C.mu pos) (ev C S n a) (evP C S n lo) (evP C S n hi) (evP C S n (some k))
    | .Subscript a b _ => if PlainB b then fbin ixD (ev C S n a) (ev C S n b) else fstuck
    | .Attribute (.Name x _) f _ => (match S.ex with
      | some (m, xd) => if x = m then (match C.exf xd.cls, xd.fs.lookup f with | some fl, some d => if decide (f ∈ fl) && okName x then fcon d else fstuck | _, _ => fstuck) else fattr C.fld f (fname C S x)
      | none => fattr C.fld f (fname C S x))
    | .Attribute o f _ => if superish o then fstuck else fattr C.fld f (ev C S n o)
    | .Call (.Name x _) [.GeneratorExp (.Name xc _) [⟨.Tuple [.Name xa _, .Name xb _] _ _, iter, [.Compare (.Name xd _) [.Eq] [.Name y _] _], 0⟩] scope _, .Constant (.int z0) _ _] [] _ =>
      if S.calm && S.genOn && decide (x = ("next" : Str)) && genSB S.sc scope xa xb y && decide (xc = xb) && decide (xd = xa) && okName xa && okName xb && isCallE iter then (match glob C S x, slotR S y with
      | some (.blt id), some i => if decide (id = "next") then fnextg (ev C S n iter) i z0 else fstuck
      | _, _ => fstuck) else fstuck
    | .Call (.Name x _) [.SetComp elt [⟨tg, iter, ifs, 0⟩] scope _] [] _ =>
      if S.calm && decide (x = ("sorted" : Str)) && noSet iter && blkC S.N S.sc scope (ownOf S.N scope.names) then (match glob C S x, ctOf (S.blk scope) tg, ifs with
      | some (.blt id), some c, [] => if decide (id = "sorted") && (c.vars.all fun i => decide (i ∈ (ownOf S.N scope.names).map (·.2))) then fsortSC (evI C S n (isTupE tg) iter) c ftrue (ev C (S.blk scope) n elt) ((ownOf S.N scope.names).map (·.2)) else fstuck
      | some (.blt id), some c, [t] => if decide (id = "sorted") && (c.vars.all fun i => decide (i ∈ (ownOf S.N scope.names).map (·.2))) then fsortSC (evI C S n (isTupE tg) iter) c (evT C (S.blk scope) n t) (ev C (S.blk scope) n elt) ((ownOf S.N scope.names).map (·.2)) else fstuck
      | _, _, _ => fstuck) else fstuck
    | .Call (.Name x _) [.DictComp kx vx [⟨tg, iter, [], 0⟩] scope _] [] _ =>
      if S.calm && decide (x = ("sorted" : Str)) && noSet iter && blkC S.N S.sc scope (ownOf S.N scope.names) then (match glob C S x, ctOf (S.blk scope) tg with
      | some (.blt id), some c => if decide (id = "sorted") && (c.vars.all fun i => decide (i ∈ (ownOf S.N scope.names).map (·.2))) then forElse (fsortDT (evI C S n (isTupE tg) iter) c (ev C (S.blk scope) n kx) (ev C (S.blk scope) n vx) ((ownOf S.N scope.names).map (·.2)))
        (fcallO sortedDX (fcons (fdc (evI C S n (isTupE tg) iter) c ftrue (ev C (S.blk scope) n kx) (ev C (S.blk scope) n vx) ((ownOf S.N scope.names).map (·.2))) fnil)) else fstuck
      | _, _ => fstuck) else fstuck
    | .Call (.Name x _) [.Lambda params body scope _] [] _ => if S.calm && S.lamOn && noParams params && lamSB S.sc scope then (match glob C S x, C.lamc x with
      | some .obj, some L => fun env st => L (fun st1 => ev C.low (S.lamS scope) n body env st1) st
      | _, _ => fstuck) else fstuck
    | .Call (.Name x _) args kws pos => if starless args then (match glob C S x, kwNames kws with
      | some .obj, some ks => if S.calm then (match C.cal x args.length ks with | some g => fcallX g (fapp (evA C S n args) (evK C S n kws)) | none => (match ks, C.calv x with | [], some g => fcallX g (fapp (evA C S n args) (evK C S n kws)) | _, _ => (match C.mak x args.length ks with | some g => fcallX g (fapp (evA C S n args) (evK C S n kws)) | none => fstuck))) else fstuck
      | some (.blt id), some [] => if args.isEmpty then fstuck else match (if decide (id = "isinstance") && decide (x = ("isinstance" : Str)) then exIs C S args else none) with
        | some b => fcon (.bl b)
        | none => match setArg C S x id args with
          | some e => fsortSet (ev C S n e)
          | none => match bltS S.calm id with | some g => fcallO g (evA C S n args) | none => fstuck
      | some (.typ T), some [] => if args.isEmpty then fstuck else match rgArgs C S x T args with
        | some (a, none) => if S.calm then flistRg1 (C.mu pos) (ev C S n a) else fstuck
        | some (a, some b) => if S.calm then flistRg2 (C.mu pos) (ev C S n a) (ev C S n b) else fstuck
        | none => match tyS S.calm (C.mu pos) T with | some g => fcallO g (evA C S n args) | none => fstuck
      | none, some ks => (match S.lam with
        | some (m, h) => if x = m && args.isEmpty && kws.isEmpty then (fun _ st => h st) else fstuck
        | none => match slotR S x with
          | some i => if S.calm && !args.isEmpty then fcallV C i args.length ks (fapp (evA C S n args) (evK C S n kws)) else fstuck
          | none => fstuck)
      | _, _ => fstuck) else (match glob C S x, kws, C.calv x with
      | some .obj, [], some g => if S.calm then (match args with
        | [.Starred e _] => fcallX g (fstar (ev C S n e) fnil)
        | e :: r => if PySem.W.isStarred e || starless r then fstuck else fcallX g (evS C S n (e :: r))
        | [] => fstuck) else fstuck
      | _, _, _ => fstuck)
    | .Call (.Attribute o m apos) args kws cpos => if starless args && !superish o && (apos.endLine == cpos.line) && decide (args.length + kws.length < 28) then (match mthK (C.mu cpos) m args kws with
      | some (T, g) => fmeth T g (ev C S n o) (evA C S n args)
      | none => match kwNames kws with
        | some ks => if S.calm then fmethU C.met m args.length ks (ev C S n o) (fapp (evA C S n args) (evK C S n kws)) else fstuck
        | none => fstuck) else fstuck
    | .ListComp elt [⟨tg, iter, ifs, 0⟩] scope pos => evLk C S n iter (if S.calm && noSet iter && blkC S.N S.sc scope (ownOf S.N scope.names) then (match ctOf (S.blk scope) tg, ifs with
      | some c, [] => if c.vars.all fun i => decide (i ∈ (ownOf S.N scope.names).map (·.2)) then flc (C.mu pos) (evI C S n (isTupE tg) iter) c ftrue (ev C (S.blk scope) n elt) ((ownOf S.N scope.names).map (·.2)) else fstuck
      | some c, [t] => if c.vars.all fun i => decide (i ∈ (ownOf S.N scope.names).map (·.2)) then flc (C.mu pos) (evI C S n (isTupE tg) iter) c (evT C (S.blk scope) n t) (ev C (S.blk scope) n elt) ((ownOf S.N scope.names).map (·.2)) else fstuck
      | _, _ => fstuck) else fstuck)
    | .DictComp kx vx [⟨tg, iter, ifs, 0⟩] scope _ => evLk C S n iter (if S.calm && noSet iter && blkC S.N S.sc scope (ownOf S.N scope.names) then (match ctOf (S.blk scope) tg, ifs with
      | some c, [] => if c.vars.all fun i => decide (i ∈ (ownOf S.N scope.names).map (·.2)) then fdc (evI C S n (isTupE tg) iter) c ftrue (ev C (S.blk scope) n kx) (ev C (S.blk scope) n vx) ((ownOf S.N scope.names).map (·.2)) else fstuck
      | some c, [t] => if c.vars.all fun i => decide (i ∈ (ownOf S.N scope.names).map (·.2)) then fdc (evI C S n (isTupE tg) iter) c (evT C (S.blk scope) n t) (ev C (S.blk scope) n kx) (ev C (S.blk scope) n vx) ((ownOf S.N scope.names).map (·.2)) else fstuck
      | _, _ => fstuck) else fstuck)
    | _ => fstuck
/-- .. in x.items(): the dict is locked meanwhile -/
def evLk (C : EC) (S : SC) : Nat → Expr → FF D → FF D
  | 0, _, _ => fstuck
  | n + 1, iter, f => match iter with
    | .Call (.Attribute o m _) [] [] _ => if decide (m = "items") then flock (ev C S n o) f else f
    | _ => f
def evB (C : EC) (S : SC) : Nat → BoolOp → List Expr → FF D
  | 0, _, _ => fstuck
  | n + 1, op, vs => match vs with
    | [] => fstuck
    | [a] => ev C S n a
    | a :: b :: r => match op with
      | .And => fandV (ev C S n a) (evB C S n .And (b :: r))
      | .Or => forV (ev C S n a) (evB C S n .Or (b :: r))
def evT (C : EC) (S : SC) : Nat → Expr → FF Bool
  | 0, _ => fstuck
  | n + 1, e => match e with
    | .UnaryOp .Not a _ => fnot (evT C S n a)
    | .BoolOp op vs _ => evW C S n op vs
    | .Compare l [op] [r] _ => if behindInMarks op r then fstuck else fbool (fbin (cmpD op) (ev C S n l) (ev C S n r))
    | .Compare l [op, op'] [b, c] _ => if lastMarks [op, op'] [b, c] then fstuck else fbool (fchain (cmpD op) (cmpD op') (ev C S n l) (ev C S n b) (ev C S n c))
    | e => if plainTest e then ftru (ev C S n e) else fstuck
def evW (C : EC) (S : SC) : Nat → BoolOp → List Expr → FF Bool
  | 0, _, _ => fstuck
  | n + 1, op, vs => match vs with
    | [] => fstuck
    | [a] => evT C S n a
    | a :: b :: r => match op with
      | .And => fand (evT C S n a) (evW C S n .And (b :: r))
      | .Or => for_ (evT C S n a) (evW C S n .Or (b :: r))
def evA (C : EC) (S : SC) : Nat → List Expr → FF (List D)
  | 0, _ => fstuck
  | n + 1, es => match es with
    | [] => fnil
    | e :: r => fcons (ev C S n e) (evA C S n r)
/-- items of a display, some starred -/
def evS (C : EC) (S : SC) : Nat → List Expr → FF (List D)
  | 0, _ => fstuck
  | n + 1, es => match es with
    | [] => fnil
    | .Starred e _ :: r => fstar (ev C S n e) (evS C S n r)
    | e :: r => fcons (ev C S n e) (evS C S n r)
def evK (C : EC) (S : SC) : Nat → List Keyword → FF (List D)
  | 0, _ => fstuck
  | n + 1, es => match es with
    | [] => fnil
    | k :: r => fcons (ev C S n k.value) (evK C S n r)
def evP (C : EC) (S : SC) : Nat → Option Expr → FF (Option Int)
  | 0, _ => fstuck
  | n + 1, e => match e with
    | none => fpartN
    | some e => fpart (ev C S n e)
def evPs (C : EC) (S : SC) : Nat → List (Option Expr) → List Expr → Option (List (FF D × FF D))
  | 0, _, _ => none
  | n + 1, ks, vs => match ks, vs with
    | [], [] => some []
    | some k :: ks, v :: vs => (evPs C S n ks vs).map ((ev C S n k, ev C S n v) :: ·)
    | _, _ => none
def evI (C : EC) (S : SC) : Nat → Bool → Expr → FF Items
  | 0, _, _ => fstuck
  | n + 1, tt, e => match e with
    | .Call (.Name x _) args [] _ => if decide (x = "range") then (match glob C S x, args with
        | some (.typ "range"), [a] => if PySem.W.isStarred a then fstuck else frange1 (ev C S n a)
        | some (.typ "range"), [a, b] => if PySem.W.isStarred a || PySem.W.isStarred b then fstuck else frange2 (ev C S n a) (ev C S n b)
        | some (.typ "range"), [a, b, c] => if PySem.W.isStarred a || PySem.W.isStarred b || PySem.W.isStarred c then fstuck else frange3 (evA C S n [a, b, c])
        | _, _ => fstuck) else if decide (x = "enumerate") && tt then (match glob C S x, args with
        | some (.typ "enumerate"), [a] => if PySem.W.isStarred a then fstuck else fenum (ev C S n a)
        | _, _ => fstuck) else if decide (x = "zip") && tt then (match glob C S x, args with
        | some (.typ "zip"), [a, b] => if PySem.W.isStarred a || PySem.W.isStarred b then fstuck else fzip (evA C S n [a, b])
        | _, _ => fstuck) else fitems (ev C S n e)
    | .Call (.Attribute o m apos) [] [] cpos => if decide (m = "items") && tt && !superish o && (apos.endLine == cpos.line) then fitemsI (ev C S n o) else fitems (ev C S n e)
    | e => fitems (ev C S n e)
end
mutual
def evG (C : EC) (S : SC) : Nat → Expr → FG
  | 0, _ => fun _ _ _ => none
  | n + 1, e => match e with
    | .Name x _ => match slotW S x with | some i => gname i | none => fun _ _ _ => none
    | .Tuple es _ _ => if S.calm && starless es then gtup es.length (evGs C S n es) else if S.calm then (match unstar es with
      | some (fs, a, b) => gtupS a b (evGs C S n fs)
      | none => fun _ _ _ => none) else fun _ _ _ => none
    | .Subscript a b _ => if PlainB b then gsub (ev C S n a) (ev C S n b) else fun _ _ _ => none
    | .Attribute a f _ => gattr C.fld f (ev C S n a)
    | _ => fun _ _ _ => none
def evGs (C : EC) (S : SC) : Nat → List Expr → FGs
  | 0, _ => fun _ _ _ => none
  | n + 1, es => match es with
    | [] => gnil
    | e :: r => gcons (evG C S n e) (evGs C S n r)
end
theorem evLk_no {C : EC} {S : SC} {tg iter : Expr} {ifs : List Expr} {b : Nat} {f : FF D} (h : noItG [⟨tg, iter, ifs, b⟩] = true) (m : Nat) : evLk C S m iter f = f ∨ evLk C S m iter f = fstuck := by
  cases m with
  | zero => right; unfold evLk; rfl
  | succ m =>
    left
    unfold evLk
    split
    · unfold noItG at h
      split
      · rename_i q
        simp only [q] at h
        cases h
      · rfl
    · rfl
end DL
end
section
/-! DL14: what the evaluator leans on: the context, calls of defs by place and by name. -/
namespace DL
open PySem PySem.Spec PyProof.Rows L2
/-- how a def's parameters get n values by place and as many by the names ks; dfl: the defaults, behind the values in their written order -/
def KB (K : PySem.W.Frag) (fd : FuncData) (n : Nat) (ks ps : List Str) (perm : List Nat) (dfl : List D) : Prop :=
  ∃ (dvs : List Value) (dv : List V), Vals dv dvs ∧ (∀ (ρ : Pl) (H : Hp), RelDs K ρ H dfl dv) ∧
    ∀ (s : Shared) (us ws : List Value), K.In s.heap → us.length = n → ws.length = ks.length → BindsTo s fd ⟨us, ks.zip ws⟩ (ps.zip (pick perm ((us ++ ws) ++ dvs)))
theorem KB.plain {K : PySem.W.Frag} {fd : FuncData} {n : Nat} {ks ps : List Str} {perm : List Nat} (h : ∀ (s : Shared) (us ws : List Value), K.In s.heap → us.length = n → ws.length = ks.length → BindsTo s fd ⟨us, ks.zip ws⟩ (ps.zip (pick perm (us ++ ws)))) : KB K fd n ks ps perm [] :=
  ⟨[], [], .nil, fun _ _ => .nil, fun s us ws a b c => by rw [List.append_nil]; exact h s us ws a b c⟩
/-- what a call by n values in place and by the names ks promises: g of the values in their written order -/
def Prom (P : Program) (w : World) (K : PySem.W.Frag) (mg : Str → Option Value) (base : Heap) (T : List (Addr × Str)) (k : Nat) (f : Addr) (n : Nat) (ks : List Str) (g : SemX) : Prop :=
  ∀ (A : Around) (outer : List PySem.Env) (s : Shared) (H : Hp) (us ws : List Value) (vs zs : List V) (Q : VK) (E : XK), Room k A → A.guards = some [] → Env0 P w K mg base A outer s H → us.length = n → ws.length = ks.length → Vals vs us → Vals zs ws → rX K T g (vs ++ zs) H Q E →
    codeAny (model P w) A (.call (.ref f) ⟨us, ks.zip ws⟩) (CR (L2.CX P w) outer P w H s Q E) s
theorem Prom.mono {P : Program} {w : World} {K : PySem.W.Frag} {mg : Str → Option Value} {base : Heap} {T : List (Addr × Str)} {j k : Nat} {f : Addr} {n : Nat} {ks : List Str} {g : SemX} (h : Prom P w K mg base T j f n ks g) (hj : j ≤ k) : Prom P w K mg base T k f n ks g :=
  fun A outer s H us ws vs zs Q E hr => h A outer s H us ws vs zs Q E (hr.mono hj)
theorem vals_app {vs zs : List V} {us ws : List Value} (r : Vals vs us) (rz : Vals zs ws) : Vals (vs ++ zs) (us ++ ws) := by
  induction r with
  | nil => exact rz
  | cons a _ ih => exact .cons a ih
theorem Prom.of_fnG {P : Program} {w : World} {K : PySem.W.Frag} {mg : Str → Option Value} {base : Heap} {T : List (Addr × Str)} {k : Nat} {f : Addr} {fd : FuncData} {n : Nat} {ks ps : List Str} {perm : List Nat} {dfl : List D} {g g0 : SemX} (F : FnG P w K mg base (L2.CX P w) k f fd ps (spR K T ps.length g0)) (hb : KB K fd n ks ps perm dfl)
    (hg0 : ∀ ds st, ds.length = n + ks.length → g ds st ≠ .stuck → (pick perm (ds ++ dfl)).length = ps.length ∧ g ds st = g0 (pick perm (ds ++ dfl)) st) : Prom P w K mg base T k f n ks g := by
  intro A outer s H us ws vs zs Q E hr hgd e0 hn hk r rz h
  obtain ⟨ρ, st, ds, ht, rs, rd, q⟩ := h
  obtain ⟨dvs, dv, r0, rd0, bind⟩ := hb
  have hl : ds.length = n + ks.length := by rw [rd.length, List.length_append, ← hn, ← hk, r.length, rz.length]
  have hne : g ds st ≠ .stuck := fun z => by rw [z] at q; exact q.elim
  obtain ⟨h1, h2⟩ := hg0 ds st hl hne
  have rp := (rd.append (rd0 ρ H)).pick perm
  have kin : K.In s.heap := e0.mod.kin.keeps fun b o q => (e0.bs b o q).1
  refine F.run A outer s H ⟨us, ks.zip ws⟩ _ _ Q E hr hgd e0 (bind s us ws kin hn hk) (Vals.pick (vals_app (vals_app r rz) r0) perm) ⟨?_, ρ, st, _, ht, rs, rp, ?_⟩
  · rw [← rp.length]; exact h1
  · rw [← h2]; exact q
/-- a def that may be called: g its function, of the values in their written order -/
def CalOk (X : Cx) (T : List (Addr × Str)) (x : Str) (n : Nat) (ks : List Str) (g : SemX) : Prop :=
  ∃ (f : Addr) (k : Nat), X.mg x = some (.ref f) ∧ GlbAt X.K x f ∧ PySem.W.keepIn X.K (.ref f) = true ∧ Room k X.A ∧ Prom X.prog X.w X.K X.mg X.base T k f n ks g
section
variable {X : Cx} {W : WG} {a e : Expr} {es : List Expr} {kws : List Keyword} {fa : FF D} {fs fk : FF (List D)} {pos p : Pos}
abbrev DK (X : Cx) (W : WG) (kws : List Keyword) (f : FF (List D)) : Prop := PK X kws (lA X.K W f)
theorem PK.imp {t t' : TA} (h : PK X kws t) (i : ∀ σ H Q, t' σ H Q → t σ H Q) : PK X kws t' := ⟨fun pos pins s σ H Q I q => h.run pos pins s σ H Q I (i _ _ _ q)⟩
theorem dk_nil : DK X W [] fnil := PK.imp pk_nil fun σ H Q ⟨ρ, env, st, g, o⟩ => o.now g.st .nil
theorem dk_cons {k : Keyword} (he : DE X W k.value fa) (hr : DK X W kws fs) : DK X W (k :: kws) (fcons fa fs) := by
  obtain ⟨nm, e, kpos⟩ := k
  refine PK.imp (pk_cons he hr) fun σ H Q h => ?_
  obtain ⟨ρ, env, st, gd, o⟩ := h
  refine ⟨ρ, env, st, gd, (OutR.bind (R := RelD X.K) o).mono ?_⟩
  rintro v H1 ⟨ρ1, d, st1, -, e1, s1, r1, o1⟩
  refine ⟨ρ1, env, st1, gd.ext e1 s1, (OutR.bind (R := RelDs X.K) o1).mono ?_⟩
  rintro vs H2 ⟨ρ2, ds, st2, -, e2, s2, r2, o2⟩
  exact o2.now s2 (.cons (r1.ext e2) r2)
theorem kw_names : ∀ {kws : List Keyword} {ks : List Str} {env : PySem.Env} {pos : Pos}, kwNames kws = some ks → (backToKw pos (keywordEach kws env)).all (·.1.isSome) = true ∧ (backToKw pos (keywordEach kws env)).filterMap (·.1) = ks ∧ (backToKw pos (keywordEach kws env)).any (·.1.isNone) = false
  | [], _, _, _, e => by cases e; exact ⟨rfl, rfl, rfl⟩
  | ⟨nm, v, kp⟩ :: r, ks, env, pos, e => by
    unfold kwNames at e
    split at e
    · rename_i n ns e1 e2
      cases e
      cases e1
      obtain ⟨h1, h2, h3⟩ := kw_names (env := env) (pos := pos) e2
      refine ⟨?_, ?_, ?_⟩
      · show ((true : Bool) && (backToKw pos (keywordEach r env)).all (·.1.isSome)) = true
        rw [h1]; rfl
      · show n :: (backToKw pos (keywordEach r env)).filterMap (·.1) = _
        rw [h2]
      · show ((false : Bool) || (backToKw pos (keywordEach r env)).any (·.1.isNone)) = false
        rw [h3]; rfl
    · cases e
theorem kw_len : ∀ {kws : List Keyword} {ks : List Str}, kwNames kws = some ks → ks.length = kws.length
  | [], _, e => by cases e; rfl
  | ⟨nm, v, kp⟩ :: r, ks, e => by
    unfold kwNames at e
    split at e
    · rename_i n ns e1 e2
      cases e
      simp [kw_len e2]
    · cases e
theorem run_calok {T : List (Addr × Str)} {n : Nat} {ks : List Str} {g : SemX} {pins : List (Addr × Obj)} {s : Shared} {σ : L2.St} {H : Hp} {Q : VK} {us ws : List Value} {vs zs : List V} {f : Addr} {k : Nat} (hr : Room k X.A)
    (F : Prom X.prog X.w X.K X.mg X.base T k f n ks g) (hgd : X.A.guards = some []) (tk : Takes X W.w)
    (I : L2.Inv X pins σ H s) (r : Vals vs us) (rz : Vals zs ws) (hn : us.length = n) (hk : ws.length = ks.length)
    (h : rX X.K T g (vs ++ zs) H Q (fun cls d H' => W.w cls d σ H')) : wpAny (model X.prog X.w) X.A (call (.ref f) us (ks.zip ws)) (EP X pins σ Q) X.xe s := by
  refine wpAny_call (codeAny_mono (F X.A X.stack s H us ws vs zs Q (fun cls d H' => W.w cls d σ H') hr hgd I.env0 hn hk r rz h) fun r s' q => ?_)
  cases r with
  | error e => exact tk e s' (XE.of_call I (fun cls d H' h => h) q)
  | ok fl =>
    cases fl with
    | ret u => exact I.after q
    | next => exact False.elim q
    | brk => exact False.elim q
    | cont => exact False.elim q
/-- arguments as many as are written -/
def LenF (fs : FF (List D)) (n : Nat) : Prop := ∀ env st ds st1, fs env st = .ok ds st1 → ds.length = n
theorem lenF_nil : LenF fnil 0 := fun env st ds st1 h => by cases h; rfl
theorem lenF_cons {n : Nat} (h : LenF fs n) : LenF (fcons fa fs) (n + 1) := fun env st ds st1 e => by
  unfold fcons at e
  cases h1 : fa env st with
  | ok d st2 =>
    rw [h1] at e
    simp only [Res.bind] at e
    cases h2 : fs env st2 with
    | ok ds2 st3 =>
      rw [h2] at e
      simp only [Res.ok.injEq] at e
      obtain ⟨rfl, rfl⟩ := e
      simp [h env st2 ds2 st3 h2]
    | exc x st3 => rw [h2] at e; cases e
    | stuck => rw [h2] at e; cases e
  | exc x st2 => rw [h1] at e; cases e
  | stuck => rw [h1] at e; cases e
theorem fcall_app {g : SemX} (fs fk : FF (List D)) (env : Env') (st : Store) : fcallX g (fapp fs fk) env st = (fs env st).bind fun ds st1 => (fk env st1).bind fun es st2 => g (ds ++ es) st2 := by
  unfold fcallX fapp
  cases fs env st with
  | ok ds st1 =>
    simp only [Res.bind]
    cases fk env st1 <;> rfl
  | exc x st1 => rfl
  | stuck => rfl
theorem outX_of {K : PySem.W.Frag} {ρ : Pl} {H : Hp} {σ : L2.St} {r : Res D} {Q : VK} (o : OutE K W ρ H σ r Q) : OutX K ρ H r Q (fun cls d H' => W.w cls d σ H') := by
  cases r with
  | ok d st => exact o
  | exc x st => exact o
  | stuck => exact o
/-- the values of a call, then the call -/
theorem call_body {T : List (Addr × Str)} {n : Nat} {ks : List Str} {g : SemX} {f : Addr} {k : Nat} (hr : Room k X.A) (FG : Prom X.prog X.w X.K X.mg X.base T k f n ks g)
    (hgd : X.A.guards = some []) (tk : Takes X W.w) (hkp : PySem.W.keepIn X.K (.ref f) = true) (hT : W.T = T)
    (ha : DA X W es fs) (hk : DK X W kws fk) (hst : starless es = true) (hn : kwNames kws = some ks) (h0 : es = [] → fs = fnil ∨ fs = fstuck) (la : LenF fs n) (lk : LenF fk ks.length)
    {pins : List (Addr × Obj)} {s : Shared} {σ : L2.St} {H : Hp} {Q : VK} (I : L2.Inv X pins σ H s) (h : lE X.K W (fcallX g (fapp fs fk)) σ H Q) :
    wpAny (model X.prog X.w) X.A (callWith pos (.ref f) [] (backTo pos (starEach es X.env)) (backToKw pos (keywordEach kws X.env))) (EP X pins σ Q) X.xe s := by
  obtain ⟨ρ, env, st, gd, o⟩ := h
  rw [fcall_app] at o
  obtain ⟨k1, k2, k3⟩ := kw_names (env := X.env) (pos := pos) hn
  have snd : ∀ {s1 : Shared} {H1 : Hp} {vs : List V} {us : List Value}, L2.Inv X pins σ H1 s1 → Vals vs us → (∃ ρ1 ds st1, fs env st = .ok ds st1 ∧ Ext ρ H ρ1 H1 ∧ RelSt X.K ρ1 H1 st1 ∧ RelDs X.K ρ1 H1 ds vs ∧ OutR (RelD X.K) X.K W ρ1 H1 σ ((fk env st1).bind fun es st2 => g (ds ++ es) st2) Q) →
      wpAny (model X.prog X.w) X.A (evalAll ((backToKw pos (keywordEach kws X.env)).map (·.2))) (fun ks' s₂ => X.K.In s₂.heap ∧ wpAny (model X.prog X.w) X.A (call (.ref f) us (((backToKw pos (keywordEach kws X.env)).filterMap (·.1)).zip ks')) (EP X pins σ Q) X.xe s₂) X.xe s1 := by
    rintro s1 H1 vs us I1 r1 ⟨ρ1, ds, st1, e0, e1, s1', rd1, o1⟩
    refine thn (hk.run pos pins s1 σ H1 _ I1 ⟨ρ1, env, st1, gd.ext e1 s1', OutR.bind (R := RelDs X.K) o1⟩) ?_
    rintro ws s2 ⟨zs, H2, I2, rz, ρ2, es2, st2, e2, e3, s2', rd2, o2⟩
    refine ⟨I2.kIn, ?_⟩
    rw [k2]
    refine run_calok hr FG hgd tk I2 r1 rz (by rw [← r1.length, ← rd1.length]; exact la _ _ _ _ e0) (by rw [← rz.length, ← rd2.length]; exact lk _ _ _ _ e2) ⟨ρ2, st2, ds ++ es2, ?_, s2', (rd1.ext e3).append rd2, outX_of o2⟩
    rw [(e1.trans e3).tt, gd.tt, hT]
  cases es with
  | nil =>
    rcases h0 rfl with h0 | h0 <;> subst h0
    rotate_left
    · exact o.elim
    exact PySem.W.callWith_KW0 (h₀ := X.base) (first := []) I.ok.mod.kin hkp k1 (snd I .nil ⟨ρ, [], st, rfl, Ext.refl, gd.st, .nil, o⟩) (by rw [k3]; rfl)
  | cons a es =>
    unfold starless at hst
    rw [List.all_cons, Bool.and_eq_true, Bool.not_eq_true'] at hst
    refine PySem.W.callWith_KW (h₀ := X.base) (first := []) I.ok.mod.kin hkp k1 (thn (ha.run pos pins s σ H _ I ⟨ρ, env, st, gd, OutR.bind (R := RelDs X.K) o⟩) ?_) ?_ (star_plain hst.1)
    · rintro us s1 ⟨vs, H1, I1, r1, q⟩
      exact snd I1 r1 q
    · rw [star_plain hst.1, k3, Bool.or_false]
      show ((false : Bool) || (backTo pos (starEach es X.env)).any (·.1)) = false
      rw [plain_star hst.2]; rfl
theorem de_fn {T : List (Addr × Str)} {x : Str} {n : Nat} {ks : List Str} {g : SemX} (F : CalOk X T x n ks g) (hT : W.T = T) (tk : Takes X W.w) (hgd : X.A.guards = some []) (hg : Gl X x) (ha : DA X W es fs) (hk : DK X W kws fk) (hst : starless es = true) (hn : kwNames kws = some ks) (h0 : es = [] → fs = fnil ∨ fs = fstuck) (la : LenF fs n) (lk : LenF fk ks.length)
    (hdb : (x == ("__debug__" : Str)) = false) : DE X W (.Call (.Name x p) es kws pos) (fcallX g (fapp fs fk)) := by
  obtain ⟨f, k, hm, _, hkp, hr, FG⟩ := F
  exact ⟨fun pins s σ H Q I h => wpAny_Call_Name_kw (ld_glob I hg hm (call_body hr FG hgd tk hkp hT ha hk hst hn h0 la lk I h) hdb)⟩
/-- a def that a local name holds -/
theorem de_fnV {C : EC} {T : List (Addr × Str)} {x : Str} {i n : Nat} {ks : List Str} (F : ∀ y g, C.cal y n ks = some g → CalOk X T y n ks g) (hT : W.T = T) (tk : Takes X W.w) (hgd : X.A.guards = some []) (hN : X.N[i]? = some x) (hv : Vis X.env.scope x) (ha : DA X W es fs) (hk : DK X W kws fk) (hst : starless es = true) (hn : kwNames kws = some ks) (h0 : es = [] → fs = fnil ∨ fs = fstuck) (la : LenF fs n) (lk : LenF fk ks.length)
    (hdb : (x == ("__debug__" : Str)) = false) (hcd : (x == ("__classdict__" : Str)) = false) : DE X W (.Call (.Name x p) es kws pos) (fcallV C i n ks (fapp fs fk)) := by
  refine ⟨fun pins s σ H Q I h => wpAny_Call_Name_kw ?_⟩
  obtain ⟨ρ, env, st, gd, o⟩ := h
  unfold fcallV at o
  split at o
  · rename_i y hy
    split at o
    · rename_i g hc
      obtain ⟨f, k, hm, hgl, hkp, hr, FG⟩ := F y g hc
      obtain ⟨v, h1, h2⟩ := gd.env.at_ i _ hy
      cases h2 with
      | @glb _ a hga =>
        have : a = f := by
          unfold GlbAt at hga hgl
          rw [hga] at hgl
          exact Value.ref.inj (Option.some.inj (Option.some.inj hgl))
        subst this
        refine thn ((pe_var (pos := p) hN hv hdb hcd).run pins s σ H (fun v H1 => v = .ref a ∧ H1 = H) I ⟨_, h1, rfl, rfl⟩) ?_
        rintro u s1 ⟨v, H1, I1, r1, rfl, rfl⟩
        obtain rfl : u = Value.ref a := r1
        exact call_body hr FG hgd tk hkp hT ha hk hst hn h0 la lk I1 ⟨ρ, env, st, gd, o⟩
    · exact o.elim
  · exact o.elim
end
end DL
end
section
/-! EO3: the call of a method, of a class method, of a class. -/
namespace DL
open PySem PySem.Spec PyProof.Rows L2
/-- how a method stands in its class: 0 a def, read off an instance with slots; 1 a class method, read off the class -/
def MAt (K : PySem.W.Frag) (C : Addr) (m : Str) (f : Addr) : Nat → Prop
  | 0 => SlX.SCls K C ∧ Meth K C m f
  | 1 => ∃ mc p, ClX.CRead K C mc ∧ ClX.CMet K C mc m p f
  | _ => False
def MetOk (X : Cx) (T : List (Addr × Str)) (kd : Nat) (c m : Str) (n : Nat) (ks : List Str) (g : SemX) : Prop :=
  ∃ (C f : Addr) (k : Nat), GlbAt X.K c C ∧ MAt X.K C m f kd ∧ Room k X.A ∧ Prom X.prog X.w X.K X.mg X.base T k f (n + 1) ks g
/-- a class that may be called: g, of the written values -/
def MakOk (X : Cx) (T : List (Addr × Str)) (x : Str) (n : Nat) (ks : List Str) (g : SemX) : Prop :=
  ∃ (C f : Addr) (k ns : Nat) (g0 : SemX), X.mg x = some (.ref C) ∧ GlbAt X.K x C ∧ Mk X.K C f ∧ Room (k + 1) X.A ∧ Prom X.prog X.w X.K X.mg X.base T k f (n + 1) ks g0 ∧ g = mkD x ns g0
section
variable {X : Cx} {W : WG} {e o : Expr} {es : List Expr} {kws : List Keyword} {fo : FF D} {fs fk : FF (List D)} {pos p apos : Pos} {m : Str}
/-- what a call's values come to, then the call -/
theorem args_call {n : Nat} {ks : List Str} {G : SemX} {P : Heap → Prop} {fv : Value} {first : List Value} {QQ : Value → Shared → Prop} (hk0 : ∀ h, P h → ∃ k, (k = Keeper.frame ∨ k = Keeper.machine ∨ k = Keeper.boundFrame) ∧ PySem.W.Looks (model X.prog X.w) h (keeperOf fv) k)
    (ha : DA X W es fs) (hk : DK X W kws fk) (hst : starless es = true) (hn : kwNames kws = some ks) (h0 : es = [] → fs = fnil ∨ fs = fstuck) (la : LenF fs n) (lk : LenF fk ks.length)
    {pins : List (Addr × Obj)} {s : Shared} {σ : L2.St} {H : Hp} {Q : VK} {ρ : Pl} {env : Env'} {st : Store} (I : L2.Inv X pins σ H s) (gd : Good X.K W ρ H env σ st) (hP : ∀ H2 s2, L2.Inv X pins σ H2 s2 → P s2.heap)
    (h : OutE X.K W ρ H σ ((fs env st).bind fun ds st1 => (fk env st1).bind fun es st2 => G (ds ++ es) st2) Q)
    (hc : ∀ (s2 : Shared) (H2 : Hp) (us ws : List Value) (vs zs : List V) (ρ2 : Pl) (st2 : Store) (ds : List D), L2.Inv X pins σ H2 s2 → Vals vs us → Vals zs ws → us.length = n → ws.length = ks.length → Ext ρ H ρ2 H2 → RelSt X.K ρ2 H2 st2 → RelDs X.K ρ2 H2 ds (vs ++ zs) → OutE X.K W ρ2 H2 σ (G ds st2) Q → wpAny (model X.prog X.w) X.A (call fv (first ++ us) (ks.zip ws)) QQ X.xe s2) :
    wpAny (model X.prog X.w) X.A (callWith pos fv first (backTo pos (starEach es X.env)) (backToKw pos (keywordEach kws X.env))) QQ X.xe s := by
  obtain ⟨k1, k2, k3⟩ := kw_names (env := X.env) (pos := pos) hn
  have snd : ∀ {s1 : Shared} {H1 : Hp} {vs : List V} {us : List Value}, L2.Inv X pins σ H1 s1 → Vals vs us → (∃ ρ1 ds st1, fs env st = .ok ds st1 ∧ Ext ρ H ρ1 H1 ∧ RelSt X.K ρ1 H1 st1 ∧ RelDs X.K ρ1 H1 ds vs ∧ OutR (RelD X.K) X.K W ρ1 H1 σ ((fk env st1).bind fun es st2 => G (ds ++ es) st2) Q) →
      wpAny (model X.prog X.w) X.A (evalAll ((backToKw pos (keywordEach kws X.env)).map (·.2))) (fun ks' s₂ => P s₂.heap ∧ wpAny (model X.prog X.w) X.A (call fv (first ++ us) (((backToKw pos (keywordEach kws X.env)).filterMap (·.1)).zip ks')) QQ X.xe s₂) X.xe s1 := by
    rintro s1 H1 vs us I1 r1 ⟨ρ1, ds, st1, e0, e1, s1', rd1, o1⟩
    refine thn (hk.run pos pins s1 σ H1 _ I1 ⟨ρ1, env, st1, gd.ext e1 s1', OutR.bind (R := RelDs X.K) o1⟩) ?_
    rintro ws s2 ⟨zs, H2, I2, rz, ρ2, es2, st2, e2, e3, s2', rd2, o2⟩
    refine ⟨hP _ _ I2, ?_⟩
    rw [k2]
    exact hc s2 H2 us ws vs zs ρ2 st2 (ds ++ es2) I2 r1 rz (by rw [← r1.length, ← rd1.length]; exact la _ _ _ _ e0) (by rw [← rz.length, ← rd2.length]; exact lk _ _ _ _ e2) (e1.trans e3) s2' ((rd1.ext e3).append rd2) o2
  cases es with
  | nil =>
    rcases h0 rfl with h0 | h0 <;> subst h0
    rotate_left
    · exact h.elim
    exact PySem.W.callWith_of (by rw [k3]; rfl) hk0 (evalArgs_kw2_nil k1 (snd I .nil ⟨ρ, [], st, rfl, Ext.refl, gd.st, .nil, h⟩))
  | cons a es =>
    unfold starless at hst
    rw [List.all_cons, Bool.and_eq_true, Bool.not_eq_true'] at hst
    refine PySem.W.callWith_of ?_ hk0 (evalArgs_kw2 k1 (thn (ha.run pos pins s σ H _ I ⟨ρ, env, st, gd, OutR.bind (R := RelDs X.K) h⟩) ?_) (star_plain hst.1))
    · rw [star_plain hst.1, k3, Bool.or_false]
      show ((false : Bool) || (backTo pos (starEach es X.env)).any (·.1)) = false
      rw [plain_star hst.2]; rfl
    · rintro us s1 ⟨vs, H1, I1, r1, q⟩
      exact snd I1 r1 q
theorem few_kw {es : List Expr} {kws : List Keyword} {ks : List Str} {env : PySem.Env} {cpos : Pos} (h : starless es = true) (hn : kwNames kws = some ks) (hl : es.length + kws.length < 28) : methodCallForm (es.length + kws.length) (backTo cpos (starEach es env)) (backToKw cpos (keywordEach kws env)) = true := by
  obtain ⟨k1, k2, k3⟩ := kw_names (env := env) (pos := cpos) hn
  unfold methodCallForm
  rw [Bool.and_eq_true, Bool.and_eq_true]
  refine ⟨⟨star_all h, k1⟩, ?_⟩
  rw [decide_eq_true_eq]
  split <;> omega
theorem meth_eval {es : List Expr} {kws : List Keyword} {ks : List Str} {env : PySem.Env} (hs : superish o = false) (hline : (apos.endLine == pos.line) = true) (h : starless es = true) (hn : kwNames kws = some ks) (hl : es.length + kws.length < 28) :
    ∃ pl, eval (.Call (.Attribute o m apos) es kws pos) env = (do
      let ov ← eval o env
      standAt apos.atName
      let (f, first) ← holding [ov] (getMethod ov m pl)
      callWith pos f first (backTo pos (starEach es env)) (backToKw pos (keywordEach kws env))) := by
  have hpos : methodCallPos true o env apos pos = pure pos := by unfold methodCallPos; simp [hline]
  refine ⟨(do return (← importBound o env).getD true), ?_⟩
  rw [arm_eval_Call, base_plain hs]
  unfold methodCall
  rw [few_kw h hn hl, hpos]
  rfl
theorem de_methU {ks : List Str} {T : List (Addr × Str)} {met : Nat → Str → Str → Nat → List Str → Option SemX} (F : ∀ kd c g, met kd c m es.length ks = some g → MetOk X T kd c m es.length ks g) (hT : W.T = T) (tk : Takes X W.w) (hgd : X.A.guards = some []) (ho : DE X W o fo)
    (ha : DA X W es fs) (hk : DK X W kws fk) (hst : starless es = true) (hn : kwNames kws = some ks) (h0 : es = [] → fs = fnil ∨ fs = fstuck) (la : LenF fs es.length) (lk : LenF fk ks.length) (hs : superish o = false) (hline : (apos.endLine == pos.line) = true) (hl : es.length + kws.length < 28) :
    DE X W (.Call (.Attribute o m apos) es kws pos) (fmethU met m es.length ks fo (fapp fs fk)) := by
  refine ⟨fun pins s σ H Q I h => ?_⟩
  obtain ⟨pl, he⟩ := meth_eval (m := m) (env := X.env) hs hline hst hn hl
  obtain ⟨ρ, env, st, gd, q⟩ := h
  refine PySem.W.methodCall_KW (pl := pl) (thn (ho.run pins s σ H _ I ⟨ρ, env, st, gd, OutR.bind (R := RelD X.K) q⟩) ?_) he
  rintro ov s1 ⟨v, H1, I1, rv, ρ1, d, st1, -, e1, rs1, r1, o1⟩
  have gd1 := gd.ext e1 rs1
  unfold metOf1 at o1
  have fin : ∀ g : SemX, OutE X.K W ρ1 H1 σ ((fapp fs fk env st1).bind fun ds st2 => g (d :: ds) st2) Q → OutE X.K W ρ1 H1 σ ((fs env st1).bind fun ds st1 => (fk env st1).bind fun es st2 => (fun ds st2 => g (d :: ds) st2) (ds ++ es) st2) Q := fun g o => by
    have := fcall_app (g := fun ds st2 => g (d :: ds) st2) fs fk env st1
    rw [← this]
    exact o
  split at o1
  · rename_i g hg
    split at hg
    · rename_i n' c fs' hi
      obtain ⟨a, C, dx, vs, rfl, h1, h2, h3, h4, h5, h6⟩ := insAt_ok rs1 r1 hi
      obtain ⟨C', f, k, g1, ⟨g2, g3⟩, g4, g5⟩ := F _ _ _ hg
      cases g1.uniq h2
      obtain rfl : ov = Value.ref a := rv
      refine SlX.getmethsl_ok I1 (.inr ⟨h3, h4⟩) g2 g3 ?_
      refine args_call (P := X.K.In) (first := [.ref a]) (G := fun ds st2 => g (d :: ds) st2) (PySem.W.keeps_K g3.kp) ha hk hst hn h0 la lk I1 gd1 (fun H2 s2 I2 => I2.kIn) (fin g o1) fun s2 H2 us ws vs' zs ρ2 st2 ds I2 r rz l1 l2 ex rs2 rd2 o2 => ?_
      exact run_calok (us := .ref a :: us) (vs := .ref a :: vs') g4 g5 hgd tk I2 (.cons rfl r) rz (by simp [l1]) l2 ⟨ρ2, st2, d :: ds, by rw [ex.tt, gd1.tt, hT], rs2, .cons (r1.ext ex) rd2, outX_of o2⟩
    · split at hg
      · rename_i c hi
        obtain ⟨C', f, k, g1, ⟨mc, pp, g2, g3⟩, g4, g5⟩ := F _ _ _ hg
        cases r1 with
        | glb hgl =>
          cases g1.uniq hgl
          obtain rfl : ov = Value.ref C' := rv
          refine ClX.getmethcm_ok I1 g2 g3 fun s2 I2 => ?_
          refine args_call (P := PySem.W.MethP X.K s1.heap.objs.size f (.ref C')) (first := []) (G := fun ds st2 => g (.glb c :: ds) st2) (PySem.W.keeps_M g3.fi) ha hk hst hn h0 la lk I2 gd1 (fun H2 s2 I2 => ⟨ClX.pin_at I2, I2.kIn⟩) (fin g o1) fun s3 H3 us ws vs' zs ρ2 st2 ds I3 r rz l1 l2 ex rs2 rd2 o2 => ?_
          have I4 := ClX.unpin I3
          refine wpAny_call (PySem.W.method_call (ClX.pin_at I3) (codeAny_mono (g5 X.A X.stack s3 H3 (.ref C' :: us) ws (.ref C' :: vs') zs Q (fun cls d H' => W.w cls d σ H') g4 hgd I4.env0 (by simp [l1]) l2 (.cons rfl r) rz ⟨ρ2, st2, .glb c :: ds, by rw [ex.tt, gd1.tt, hT], rs2, .cons (.glb hgl) rd2, outX_of o2⟩) fun r s' q => ?_))
          cases r with
          | error e => exact tk e s' (XE.of_call I4 (fun cls d H' h => h) q)
          | ok fl =>
            cases fl with
            | ret u => exact I4.after q
            | next => exact False.elim q
            | brk => exact False.elim q
            | cont => exact False.elim q
      · cases hg
  · exact o1.elim
/-- the call of a class -/
theorem run_mk {T : List (Addr × Str)} {n k ns : Nat} {ks : List Str} {g : SemX} {cn : Str} {C f : Addr} (M : Mk X.K C f) (F : Prom X.prog X.w X.K X.mg X.base T k f (n + 1) ks g) (hr : Room (k + 1) X.A) (hgd : X.A.guards = some []) (tk : Takes X W.w) (hgl : GlbAt X.K cn C)
    {pins : List (Addr × Obj)} {s : Shared} {σ : L2.St} {H : Hp} {Q : VK} {us ws : List Value} {vs zs : List V} {ρ : Pl} {st : Store} {ds : List D} (I : L2.Inv X pins σ H s) (r : Vals vs us) (rz : Vals zs ws) (hn : us.length = n) (hk : ws.length = ks.length) (rs : RelSt X.K ρ H st) (hT : ρ.T = T) (rd : RelDs X.K ρ H ds (vs ++ zs))
    (o : OutE X.K W ρ H σ (mkD cn ns g ds st) Q) : wpAny (model X.prog X.w) X.A (call (.ref C) us (ks.zip ws)) (EP X pins σ Q) X.xe s := by
  obtain ⟨x, hx⟩ : ∃ x, x = s.heap.objs.size + 1 := ⟨_, rfl⟩
  obtain ⟨dx, hdx⟩ : ∃ dx, dx = s.heap.objs.size := ⟨_, rfl⟩
  have nx : H x = none := by rw [hx]; exact I.hok.fresh (Nat.le_succ _)
  have ndx : H dx = none := by rw [hdx]; exact I.hok.fresh (Nat.le_refl _)
  have ne : dx ≠ x := by rw [hx, hdx]; exact Nat.ne_of_lt (Nat.lt_succ_self _)
  have I2 := Inv.made (C := C) I
  rw [← hx, ← hdx] at I2
  have get : ((s.heap.push PySem.W.emptyDict).push (PySem.W.instObj C dx)).get? x = some { PySem.W.instObj C dx with slots := #[] } := by
    have := Heap.get?_push_size (s.heap.push PySem.W.emptyDict) (o := PySem.W.instObj C dx) rfl
    rw [Heap.size_push, ← hx] at this
    exact this
  have I3 := SlX.inv_slot (a := x) (C := C) (dx := dx) (vs := []) (vs' := []) (sl' := #[]) (h' := (s.heap.push PySem.W.emptyDict).push (PySem.W.instObj C dx)) (t' := s.toks) I2 (.inl ⟨upd_same, rfl⟩) (fun b u _ _ e => e) (fun m h => h) get (SlX.SlR.nil _)
  have eH : SlX.slH (upd (upd H dx (.own x)) x (.ins C dx [])) x C dx [] = upd (upd H dx (.xd [])) x (SlX.SlO x C dx []) := by
    funext b
    unfold SlX.slH
    by_cases hb : b = x
    · rw [hb, upd_same, upd_same]
    · rw [upd_ne hb, upd_ne hb]
      by_cases hd : b = dx
      · rw [hd, upd_same, upd_same]
      · rw [upd_ne hd, upd_ne hd, upd_ne hb, upd_ne hd]
  rw [eH] at I3
  have rs1 := rs.new (o := .xd []) ndx
  have ex1 := Ext.new rs (o := .xd []) ndx
  have nx1 : (upd H dx (.xd [])) x = none := by rw [upd_ne (Ne.symm ne)]; exact nx
  have off := rs.notin ndx
  have ex2 := Ext.newO rs1 (o := SlX.SlO x C dx []) nx1
  have rs2 := RelSt.newO (o := SlX.SlO x C dx []) (d := .ins cn (List.replicate ns none)) rs1 nx1 ⟨C, dx, [], hgl, upd_same, by rw [upd_ne ne]; exact upd_same, ⟨fun m => by
    rcases List.mem_append.mp m with m | m
    · exact off.1 m
    · exact ne (by simpa using m), off.2⟩, fun i d h => by
    rw [List.getElem?_replicate] at h
    split at h <;> cases h⟩
  have hlast := rs1.last x
  have ex := ex1.trans ex2
  have hgd' : (X.A.under (.builtin "type.__call__" ⟨.ref C :: us, ks.zip ws⟩)).guards = some [] := by
    first | exact hgd | simpa [Around.under, Code.isGuard] using hgd
  have I3' : L2.Inv X pins σ (upd (upd H dx (.xd [])) x (SlX.SlO x C dx [])) { s with heap := (s.heap.push PySem.W.emptyDict).push (PySem.W.instObj C s.heap.objs.size) } := by rw [← hdx]; exact I3
  have want : rX X.K T g (.ref x :: (vs ++ zs)) (upd (upd H dx (.xd [])) x (SlX.SlO x C dx [])) (fun v H2 => v = .non ∧ Q (.ref x) H2) (fun cls d H' => W.w cls d σ H') := by
    refine ⟨ρ.add x, _, .obj st.length :: ds, hT, rs2, .cons (.obj hlast) (rd.ext ex), ?_⟩
    unfold mkD at o
    cases hg : g (.obj st.length :: ds) (st ++ [.ins cn (List.replicate ns none)]) with
    | ok d st' =>
      rw [hg] at o
      cases d with
      | non =>
        intro ρ' H' v e s' q
        cases q
        exact ⟨rfl, o ρ' H' _ (ex.trans e) s' (.obj (e.pre _ _ hlast))⟩
      | _ => exact o.elim
    | exc y st' =>
      rw [hg] at o
      exact fun ρ' H' cls d e s' q => o ρ' H' cls d (ex.trans e) s' q
    | stuck => rw [hg] at o; exact o.elim
  refine wpAny_call (make_map (f := f) I.kIn M.makes M.init (beq_iff_eq.mp M.fn) ?_)
  rw [← hx]
  refine codeAny_mono (F _ X.stack _ _ (.ref x :: us) ws (.ref x :: vs) zs _ _ (hr.make C us (ks.zip ws)) hgd' (I3'.env0.make C us (ks.zip ws)) (by simp [hn]) hk (.cons rfl r) rz want) fun r s' hq' => ?_
  cases r with
  | error e => exact tk e s' (XE.of_call I3' (fun cls d H' h => h) hq')
  | ok fl =>
    cases fl with
    | ret u =>
      obtain ⟨v, H', I4, rv, ev, q3⟩ := I3'.after hq'
      subst ev
      exact ⟨rv, ⟨V.ref x, H', I4, rfl, q3⟩⟩
    | next => exact False.elim hq'
    | brk => exact False.elim hq'
    | cont => exact False.elim hq'
theorem de_mak {T : List (Addr × Str)} {x : Str} {n : Nat} {ks : List Str} {g : SemX} (F : MakOk X T x n ks g) (hT : W.T = T) (tk : Takes X W.w) (hgd : X.A.guards = some []) (hg : Gl X x) (ha : DA X W es fs) (hk : DK X W kws fk) (hst : starless es = true) (hn : kwNames kws = some ks) (h0 : es = [] → fs = fnil ∨ fs = fstuck) (la : LenF fs n) (lk : LenF fk ks.length)
    (hdb : (x == ("__debug__" : Str)) = false) : DE X W (.Call (.Name x p) es kws pos) (fcallX g (fapp fs fk)) := by
  obtain ⟨C, f, k, ns, g0, hm, hgl, M, hr, FP, rfl⟩ := F
  refine ⟨fun pins s σ H Q I h => wpAny_Call_Name_kw (ld_glob I hg hm ?_ hdb)⟩
  obtain ⟨ρ, env, st, gd, o⟩ := h
  rw [fcall_app] at o
  refine args_call (P := X.K.In) (first := []) (PySem.W.keeps_K M.kp) ha hk hst hn h0 la lk I gd (fun H2 s2 I2 => I2.kIn) o fun s2 H2 us ws vs zs ρ2 st2 ds I2 r rz l1 l2 ex rs2 rd2 o2 => ?_
  exact run_mk M FP hr hgd tk hgl I2 r rz l1 l2 rs2 (by rw [ex.tt, gd.tt, hT]) rd2 o2
end
end DL
end
section
/-! EX2: a def whose last parameter takes what is left over; calls with a star. -/
namespace DL
open PySem PySem.Spec PyProof.Rows L2
open StX (run_bnd un_laid env0_laid cxUp star_any)
/-- what such a def reckons: m values, then a tuple of the others -/
def vaS (m : Nat) (g : SemX) : SemX := fun ds st => if m ≤ ds.length ∧ ds.length ≤ 16777216 then g (ds.take m ++ [.tup (ds.drop m)]) st else .stuck
theorem OutX.from_ {K : PySem.W.Frag} {ρ ρ1 : Pl} {H H1 : Hp} {r : Res D} {Q : VK} {E : XK} (e : Ext ρ H ρ1 H1) (h : OutX K ρ H r Q E) : OutX K ρ1 H1 r Q E := by
  cases r with
  | ok d st => exact fun ρ' H' v e' => h ρ' H' v (e.trans e')
  | exc x st => exact fun ρ' H' c d e' => h ρ' H' c d (e.trans e')
  | stuck => exact h
theorem prom_star {P : Program} {w : World} {K : PySem.W.Frag} {mg : Str → Option Value} {base : Heap} {T : List (Addr × Str)} {k : Nat} {x qual pv : Str} {st : Stmt} {f : Addr} {fd : FuncData} {N ps : List Str} {g : SemX} (F : Fun K x qual st f fd) (S : FnScope N (ps ++ [pv]) (defScope st))
    (hb : ∀ us rest : List Value, us.length = ps.length → bindArgs fd ⟨us ++ rest, []⟩ = (newTuple rest >>= fun t => pure (ps.zip us ++ [(pv, t)])))
    (body : ∀ (cdv : Value) (A : Around) (outer : List PySem.Env) (s : Shared) (H : Hp) (vs : List V) (Q : VK) (E : XK), fd.code = cdv → Room k (A.deeper (envOfC qual (defScope st) s.heap.objs.size f cdv)) → A.guards = some [] → spR K T (ps ++ [pv]).length g vs H Q E →
      ∃ t, PSs (cxOf (L2.CX P w) P w K mg base N qual (defScope st) f cdv A outer s H E) (defBody st) t ∧ t { nx := fun _ H' => Q .non H', rt := Q } (start N vs) H) (n : Nat) : Prom P w K mg base T (k + 1) f n [] (vaS ps.length g) := by
  intro A outer s H us ws vs zs Q E hr hgd e0 hn hk r rz h
  obtain rfl : ws = [] := List.eq_nil_of_length_eq_zero hk
  cases rz
  rw [List.append_nil] at h
  obtain ⟨ρ, st0, ds, ht, rs, rd, q⟩ := h
  unfold vaS at q
  split at q
  rotate_left
  · exact q.elim
  rename_i hl
  obtain ⟨oc, od, kV, doc, pm, an, cdv, ct, osl, rfl, lk, hcd⟩ := F.ex
  have lv : vs.length = ds.length := rd.length.symm
  have lu : us.length = ds.length := by rw [← r.length]; exact lv
  have r1 : Vals (vs.take ps.length) (us.take ps.length) := r.take _
  have r2 : Vals (vs.drop ps.length) (us.drop ps.length) := r.drop _
  have hl1 : (us.take ps.length).length = ps.length := by rw [List.length_take]; omega
  have hz : (vs.drop ps.length).length ≤ sizeLine := by rw [List.length_drop, sizeLine_eq]; omega
  have hnew : H s.heap.objs.size = none := e0.hok.fresh (Nat.le_refl _)
  refine run_bnd lk hcd S hr e0 (G := fun xs H2 => ∃ (p : Addr) (ob : Obj), H p = none ∧ ob.dict = none ∧ xs = vs.take ps.length ++ [V.ref p] ∧ H2 = upd H p (.frz ob (.tup (vs.drop ps.length)))) (fun A' Ex Q' h => ?_) fun s2 H2 xs ⟨p, ob, hp, hd, ex, eH⟩ hr' => ?_
  · have eu : us = us.take ps.length ++ us.drop ps.length := (List.take_append_drop _ _).symm
    show wpAny _ _ (bindArgs _ ⟨us, []⟩) _ _ _
    rw [eu, hb _ _ hl1]
    refine wpAny_bind (wpAny_newTuple (wpAny_pure ?_) (by rw [← r2.length]; exact hz))
    have new : ObjOk P w (upd H s.heap.objs.size (.frz ({ cls := .type "tuple", data := .seq (us.drop ps.length).toArray } : Obj) (.tup (vs.drop ps.length)))) (s.heap.push ({ cls := .type "tuple", data := .seq (us.drop ps.length).toArray } : Obj)) s.heap.objs.size (.frz ({ cls := .type "tuple", data := .seq (us.drop ps.length).toArray } : Obj) (.tup (vs.drop ps.length))) :=
      ⟨Heap.get?_push_size _ rfl, hz, us.drop ps.length, r2, ⟨_, Heap.get?_push_size _ rfl, rfl, _, rfl⟩⟩
    have un := un_laid (fs := frs outer) (s := s) (o := ({ cls := .type "tuple", data := .seq (us.drop ps.length).toArray } : Obj)) (u := .frz ({ cls := .type "tuple", data := .seq (us.drop ps.length).toArray } : Obj) (.tup (vs.drop ps.length))) hnew
    have z := h _ _ (vs.take ps.length ++ [V.ref s.heap.objs.size]) (us.take ps.length ++ [Value.ref s.heap.objs.size]) (env0_laid e0 new) un rfl (fun e s' => cxUp outer s H _ _ E e s' un (fun b o q => Heap.get?_push_of_some _ q) rfl) (r1.append (.cons rfl .nil))
      (by rw [List.length_append, List.length_append, List.length_take]; simp; omega) ⟨_, _, hnew, rfl, rfl, rfl⟩
    rw [List.zip_append hl1.symm] at z
    exact z
  · subst ex eH
    have em : Ext ρ H ρ (upd H p (.frz ob (.tup (vs.drop ps.length)))) := Ext.new rs hp
    refine body cdv A outer s2 _ _ Q E rfl hr' hgd ⟨by simp; omega, ρ, st0, ds.take ps.length ++ [.tup (ds.drop ps.length)], ht, rs.new hp, ((rd.take _).ext em).append (.cons (new_tup rs hp hd (rd.drop _)) .nil), OutX.from_ em q⟩
/-- a def that takes any number of values -/
def CalV (X : Cx) (T : List (Addr × Str)) (x : Str) (g : SemX) : Prop :=
  ∃ (f : Addr) (k : Nat), X.mg x = some (.ref f) ∧ GlbAt X.K x f ∧ PySem.W.keepIn X.K (.ref f) = true ∧ Room k X.A ∧ ∀ n, Prom X.prog X.w X.K X.mg X.base T k f n [] g
section
variable {X : Cx} {W : WG} {e : Expr} {es : List Expr} {fa : FF D} {fs : FF (List D)} {pos p sp_ : Pos} {T : List (Addr × Str)} {x : Str} {g : SemX}
theorem star_some : ∀ {es : List Expr} {env : PySem.Env} {pos : Pos}, starless es = false → (backTo pos (starEach es env)).any (·.1) = true
  | [], _, _, h => by cases h
  | e :: es, env, pos, h => by
    unfold starless at h
    rw [List.all_cons] at h
    cases hs : PySem.W.isStarred e with
    | false =>
      rw [hs] at h
      rw [star_plain hs]
      show ((false : Bool) || (backTo pos (starEach es env)).any (·.1)) = true
      rw [Bool.false_or]
      exact star_some (by unfold starless; rw [Bool.not_false, Bool.true_and] at h; exact h)
    | true =>
      cases e <;> first | cases hs | skip
      show ((true : Bool) || _) = true
      exact Bool.true_or _
/-- f(a, .., *y, ..) -/
theorem de_fnS2 (F : CalV X T x g) (hT : W.T = T) (tk : Takes X W.w) (hgd : X.A.guards = some []) (hg : Gl X x) (ha : DA X W (e :: es) fs) (hs : PySem.W.isStarred e = false) (hst : starless es = false) (hdb : (x == ("__debug__" : Str)) = false) :
    DE X W (.Call (.Name x p) (e :: es) [] pos) (fcallX g fs) := by
  obtain ⟨f, k, hm, _, hkp, hr, FP⟩ := F
  refine ⟨fun pins s σ H Q I h => ?_⟩
  obtain ⟨ρ, env, st, gd, o⟩ := h
  refine wpAny_Call_Name_kw (ld_glob I hg hm ?_ hdb)
  refine PySem.W.callWith_S2 (h₀ := X.base) I.ok.mod.kin hkp (thn (ha.run pos pins s σ H _ I ⟨ρ, env, st, gd, OutR.bind (R := RelDs X.K) o⟩) ?_) (star_plain hs) (star_some hst)
  rintro us s1 ⟨vs, H1, I1, r, ρ1, ds, st1, -, e1, s1', rd, o1⟩
  refine ⟨I1.kIn, run_calok (ks := []) (ws := []) (zs := []) hr (FP us.length) hgd tk I1 r .nil rfl rfl ⟨ρ1, st1, ds, by rw [e1.tt, gd.tt, hT], s1', by rw [List.append_nil]; exact rd, outX_of o1⟩⟩
/-- f(*y) -/
theorem de_fnS1 (F : CalV X T x g) (hT : W.T = T) (tk : Takes X W.w) (hgd : X.A.guards = some []) (hg : Gl X x) (he : DE X W e fa) (hdb : (x == ("__debug__" : Str)) = false) :
    DE X W (.Call (.Name x p) [.Starred e sp_] [] pos) (fcallX g (fstar fa fnil)) := by
  obtain ⟨f, k, hm, _, hkp, hr, FP⟩ := F
  refine ⟨fun pins s σ H Q I h => ?_⟩
  obtain ⟨ρ, env, st, gd, o⟩ := h
  have o : OutE X.K W ρ H σ ((fa env st).bind fun d st1 => match seqA st1 d with
    | some xs => g xs st1
    | none => .stuck) Q := by
    unfold fcallX fstar at o
    cases hfa : fa env st with
    | ok d st1 =>
      rw [hfa] at o
      simp only [Res.bind] at o ⊢
      cases hx : seqA st1 d with
      | some xs => rw [hx] at o; simpa [fnil, Res.bind] using o
      | none => rw [hx] at o; exact o
    | exc x st1 => rw [hfa] at o; exact o
    | stuck => rw [hfa] at o; exact o
  refine wpAny_Call_Name_kw (ld_glob I hg hm ?_ hdb)
  refine PySem.W.callWith_S (h₀ := X.base) I.ok.mod.kin hkp (thn (he.run pins s σ H _ I ⟨ρ, env, st, gd, OutR.bind (R := RelD X.K) o⟩) ?_) (by rfl)
  rintro v s1 ⟨y, H1, I1, ry, ρ1, d, st1, -, e1, s1', rd, o1⟩
  cases hx : seqA st1 d with
  | none => rw [hx] at o1; exact o1.elim
  | some xs =>
    rw [hx] at o1
    obtain ⟨a, ws, rfl, h1, h2⟩ := seqA_ok s1' rd hx
    obtain rfl : v = Value.ref a := ry
    exact star_any I1 h1.symm fun us s2 I2 rv => ⟨I2.kIn, run_calok (ks := []) (ws := []) (zs := []) hr (FP us.length) hgd tk I2 rv .nil rfl rfl ⟨ρ1, st1, xs, by rw [e1.tt, gd.tt, hT], s1', by rw [List.append_nil]; exact h2, outX_of o1⟩⟩
end
end DL
end
section
/-! DL15: the evaluator is right. -/
namespace DL
open PySem PySem.Spec PyProof.Rows L2
/-- what a module's name stands for -/
def GOk (X : Cx) (x : Str) : GV → Prop
  | .val d => ∃ v u, X.mg x = some u ∧ RelV v u ∧ ∀ ρ H, RelD X.K ρ H d v
  | .blt id => X.mg x = none ∧ bootBuiltins x = some (.builtin id)
  | .typ T => X.mg x = none ∧ bootBuiltins x = some (.type T)
  | .obj => ∃ f, X.mg x = some (.ref f) ∧ GlbAt X.K x f
/-- a def that gets a lambda: L, what it makes of what the lambda gives; j: the room that the lambda's body has -/
def LamcOk (X : Cx) (W : WG) (x : Str) (L : (Store → Res D) → Store → Res D) (j : Nat) : Prop := ∀ (params : Arguments) (body : Expr) (scope : Scope) (lpos p pos : Pos) (fb : FF D), Gl X x → noParams params = true → LamX.LamS X.env.scope scope →
  (∀ (A : Around) (outer : List PySem.Env) (s : Shared) (H : Hp) (E : XK) (f c' : Addr), Room j (A.deeper (LamX.lamEnv X scope s.heap.objs.size f c')) → A.guards = some [] → DE (LamX.lamCx X A outer s H E scope f c') (W.lamW E) body fb) →
  DE X W (.Call (.Name x p) [.Lambda params body scope lpos] [] pos) (fun env st => L (fun st1 => fb env st1) st)
/-- contexts in which the same lambdas are made: a def, its blocks -/
structure SimX (X X' : Cx) : Prop where
  prog : X'.prog = X.prog
  w : X'.w = X.w
  K : X'.K = X.K
  mg : X'.mg = X.mg
  base : X'.base = X.base
  A : X'.A = X.A
  code : X'.env.code = X.env.code
  qual : X'.env.qual = X.env.qual
theorem SimX.refl (X : Cx) : SimX X X := ⟨rfl, rfl, rfl, rfl, rfl, rfl, rfl, rfl⟩
/-- the calls of a lambda's body -/
structure LowOk (C : EC) (X : Cx) (T : List (Addr × Str)) (j : Nat) : Prop where
  cal : ∀ X' : Cx, X'.prog = X.prog → X'.w = X.w → X'.K = X.K → X'.mg = X.mg → X'.base = X.base → Room j X'.A → ∀ y n ks g, C.calL y n ks = some g → CalOk X' T y n ks g
  met : ∀ X' : Cx, X'.prog = X.prog → X'.w = X.w → X'.K = X.K → X'.mg = X.mg → X'.base = X.base → Room j X'.A → ∀ kd c m n ks g, C.metL kd c m n ks = some g → MetOk X' T kd c m n ks g
  mak : ∀ X' : Cx, X'.prog = X.prog → X'.w = X.w → X'.K = X.K → X'.mg = X.mg → X'.base = X.base → Room j X'.A → ∀ y n ks g, C.makL y n ks = some g → MakOk X' T y n ks g
structure CtxOk (C : EC) (S : SC) (X : Cx) (W : WG) : Prop where
  N : X.N = S.N
  nd : S.N.Nodup
  sc : X.env.scope = S.sc
  kind : S.sc.kind = .function
  fn : X.fn = S.fn
  calm : S.calm = true → X.calm = true ∧ W.g = none ∧ Room 2 X.A
  gd : X.A.guards = some []
  un : X.A.units + 80 < cLine
  tk : Takes X W.w
  own : PassesOwn (model X.prog X.w) X.A X.env X.xe
  glob : ∀ x v, C.G x = some v → GOk X x v
  cal : S.calm = true → ∀ x n ks g, C.cal x n ks = some g → CalOk X W.T x n ks g
  calv : S.calm = true → ∀ x g, C.calv x = some g → CalV X W.T x g
  met : S.calm = true → ∀ kd c m n ks g, C.met kd c m n ks = some g → MetOk X W.T kd c m n ks g
  mak : S.calm = true → ∀ x n ks g, C.mak x n ks = some g → MakOk X W.T x n ks g
  fld : ∀ c f i, C.fld c f = some i → FldOk X c f i
  subT : ∀ x t b, C.subT x t = some b → ∀ Ca, GlbAt X.K x Ca → PySem.W.kitOne X.K (.ref Ca) (.type t) = some b
  exs : ∀ x flds, C.exf x = some flds → ExOk X x flds
  sub : ∀ x c b, C.sub x c = some b → ∀ Ca D, GlbAt X.K x Ca → GlbAt X.K c D → PySem.W.kitOne X.K (.ref Ca) (.ref D) = some b ∧ PySem.W.exmOne X.K (.ref Ca) (.ref D) = some b
  lamc : S.lamOn = true → ∀ x L, C.lamc x = some L → ∃ j, 2 ≤ j ∧ LowOk C X W.T j ∧ ∀ (X' : Cx) (W' : WG), SimX X X' → W'.T = W.T → LamcOk X' W' x L j
  gen : S.genOn = true → GenCtx X W.T
  ex : ∀ n x, S.ex = some (n, x) → SuiteOk X W n x
  fr : ∀ x i, S.owned x = false → X.N[i]? = some x → Free W i
  lam : ∀ a h, S.lam = some (a, h) → ∀ p1 p2 : Pos, DE X W (.Call (.Name a p1) [] [] p2) (flamc h)
  lat : ∀ a h, S.lat = some (a, h) → ∀ (pn : List (Addr × Obj)) (xe : Value → Shared → Prop) (W' : WG), W'.g = none → W'.T = W.T → W'.l = W.l → Takes (X.tr pn xe) W'.w → ∀ p1 p2 : Pos, DE (X.tr pn xe) W' (.Call (.Name a p1) [] [] p2) (flamc h)
theorem ExOk.a {X : Cx} {x : Str} {flds : List Str} (h : ExOk X x flds) {C : Addr} (g : GlbAt X.K x C) : ExcA X.K C flds := by
  obtain ⟨C', _, _, _, _, h1, h2, _⟩ := h
  cases h1.uniq g
  exact h2
theorem takes_nf {X : Cx} : Takes X (fun _ _ _ _ => False) := fun _ _ ⟨_, _, _, _, _, _, _, _, _, _, _, _, _, _, _, _, w⟩ => w.elim
theorem free_nf {W : WG} {i : Nat} : Free W.nf i := ⟨fun x e => (by cases e), fun l e => (by cases e)⟩
theorem CtxOk.blk {C : EC} {S : SC} {X : Cx} {W : WG} (h : CtxOk C S X W) (hc : S.calm = true) {scope : Scope} (hk : scope.kind = .function) (s : Shared) (H : Hp) (A : Addr) (cl : List (Str × Addr)) (fp : List Addr) : CtxOk C (S.blk scope) (X.blk s H scope (compEnvC scope cl A X.env) fp) W.nf where
  N := h.N
  nd := h.nd
  sc := by
    show relS scope X.env.scope = relS scope S.sc
    rw [h.sc]
  kind := by show (relS scope S.sc).kind = _; exact hk
  fn := rfl
  calm := fun _ => ⟨(h.calm hc).1, rfl, (h.calm hc).2.2⟩
  gd := h.gd
  un := h.un
  tk := takes_nf
  own := .never
  glob := h.glob
  cal := fun _ => h.cal hc
  calv := fun _ => h.calv hc
  met := fun _ => h.met hc
  mak := fun _ => h.mak hc
  fld := h.fld
  subT := h.subT
  exs := h.exs
  sub := h.sub
  lamc := fun hl x L e => by
    obtain ⟨j, j2, hc, hL⟩ := h.lamc hl x L e
    exact ⟨j, j2, ⟨hc.cal, hc.met, hc.mak⟩, fun X' W' s t => hL X' W' ⟨s.prog, s.w, s.K, s.mg, s.base, s.A, s.code, s.qual⟩ t⟩
  gen := fun e => by cases e
  ex := fun n x e => by cases e
  fr := fun x i _ _ => free_nf
  lam := fun a h e => by cases e
  lat := fun a h e => by cases e
theorem ixN'_ok : ∀ {N : List Str} {x : Str} {i : Nat}, ixN' N x = some i → N[i]? = some x
  | [], _, _, h => by cases h
  | y :: r, x, i, h => by
    unfold ixN' at h
    split at h
    · rename_i e
      cases h; subst e; rfl
    · rw [Option.map_eq_some_iff] at h
      obtain ⟨j, h1, rfl⟩ := h
      simpa using ixN'_ok h1
section
variable {C : EC} {S : SC} {X : Cx} {W W₁ : WG} {x : Str} {i : Nat} {p : Pos}
theorem isLoc_ok {k : Option NameKind} (h : isLoc k = true) : k = some .local ∨ k = some .cell := by
  unfold isLoc at h; split at h <;> first | exact .inl rfl | exact .inr rfl | cases h
theorem isVis_ok {k : Option NameKind} (h : isVis k = true) : k = some .local ∨ k = some .cell ∨ k = some .free := by
  unfold isVis at h; split at h <;> first | exact .inl rfl | exact .inr (.inl rfl) | exact .inr (.inr rfl) | cases h
theorem okName_ok (h : okName x = true) : (x == ("__debug__" : Str)) = false ∧ (x == ("__classdict__" : Str)) = false ∧ x ≠ "__name__" := by
  unfold okName at h
  simp only [Bool.and_eq_true, Bool.not_eq_true', decide_eq_false_iff_not] at h
  exact ⟨h.1.1, h.1.2, h.2⟩
theorem slotR_ok (c : CtxOk C S X W) (h : slotR S x = some i) : X.N[i]? = some x ∧ Vis X.env.scope x ∧ (x == ("__debug__" : Str)) = false ∧ (x == ("__classdict__" : Str)) = false := by
  unfold slotR at h
  split at h
  · rename_i q
    rw [Bool.and_eq_true] at q
    obtain ⟨h1, h2, -⟩ := okName_ok q.2
    exact ⟨by rw [c.N]; exact ixN'_ok h, by rw [c.sc]; exact isVis_ok q.1, h1, h2⟩
  · cases h
theorem slotW_ok (c : CtxOk C S X W) (h : slotW S x = some i) : X.N[i]? = some x ∧ Loc X.env.scope x ∧ (X.fn x = true ∨ X.env.scope.names.lookup x = some .local) ∧ Free W i := by
  unfold slotW at h
  split at h
  · rename_i q
    rw [Bool.and_eq_true, Bool.not_eq_true'] at q
    obtain ⟨q, q2⟩ := q
    simp only [Bool.and_eq_true, Bool.or_eq_true, decide_eq_true_eq] at q
    have hN : X.N[i]? = some x := by rw [c.N]; exact ixN'_ok h
    exact ⟨hN, by rw [c.sc]; exact isLoc_ok q.1, by rw [c.fn, c.sc]; exact q.2, c.fr x i q2 hN⟩
  · cases h
theorem glob_ok (c : CtxOk C S X W) {v : GV} (h : glob C S x = some v) : Gl X x ∧ GOk X x v ∧ (x == ("__debug__" : Str)) = false ∧ x ≠ "__name__" := by
  unfold glob at h
  split at h
  · rename_i q
    rw [Bool.and_eq_true, decide_eq_true_eq] at q
    obtain ⟨h1, h2, h3⟩ := okName_ok q.2
    exact ⟨by show X.env.scope.names.lookup x = _; rw [c.sc]; exact q.1, c.glob x v h, h1, h3⟩
  · cases h
theorem de_stuck {e : Expr} : DE X W e fstuck := ⟨fun _ _ _ _ _ _ ⟨_, _, _, _, o⟩ => o.elim⟩
theorem dt_stuck {e : Expr} : DT X W e fstuck := ⟨fun _ _ _ _ _ _ ⟨_, _, _, _, o⟩ => o.elim⟩
theorem dw_stuck {e : Expr} : DW X W e fstuck := ⟨fun _ _ _ _ _ _ _ ⟨_, _, _, _, o⟩ => o.elim⟩
theorem da_stuck {es : List Expr} : DA X W es fstuck := ⟨fun _ _ _ _ _ _ _ ⟨_, _, _, _, o⟩ => o.elim⟩
theorem dk_stuck {es : List Keyword} : DK X W es fstuck := ⟨fun _ _ _ _ _ _ _ ⟨_, _, _, _, o⟩ => o.elim⟩
theorem dp_stuck {e : Option Expr} : DP X W e fstuck := ⟨fun _ _ _ _ _ _ ⟨_, _, _, _, o⟩ => o.elim⟩
theorem di_stuck {tg e : Expr} : DI X W tg e fstuck := ⟨fun _ _ _ _ _ _ ⟨_, _, _, _, o⟩ => o.elim⟩
theorem ds_stuck {s : Stmt} : DS X W s sstuck := ⟨fun _ _ _ _ _ _ ⟨_, _, _, _, o⟩ => o.elim⟩
theorem dss_stuck {s : List Stmt} : DSs X W s sstuck := ⟨fun _ _ _ _ _ _ ⟨_, _, _, _, o⟩ => o.elim⟩
theorem dg_none {e : Expr} : DG X W e (fun _ _ _ => none) := ⟨fun _ _ _ _ _ _ _ _ _ ⟨_, _, _, _, _, _, o⟩ => o.elim⟩
theorem dgs_none {e : List Expr} : DGs X W e (fun _ _ _ => none) := ⟨fun _ _ _ _ _ _ _ _ _ ⟨_, _, _, _, _, _, o⟩ => o.elim⟩
theorem de_name (c : CtxOk C S X W) : DE X W (.Name x p) (fname C S x) := by
  unfold fname
  split
  · rename_i i h
    obtain ⟨h1, h2, h3, h4⟩ := slotR_ok c h
    exact de_var h1 h2 h3 h4
  · split
    · rename_i d h
      obtain ⟨h1, ⟨v, u, h2, h3, h4⟩, h5, h6⟩ := glob_ok c h
      exact de_con (pe_glob h1 h2 h3 h5) h4
    · rename_i T h
      obtain ⟨h1, ⟨h2, h3⟩, h5, h6⟩ := glob_ok c h
      exact de_con (pe_bltn (v := .ty T) h1 h2 h3 rfl h6 h5) fun _ _ => .ty T
    · rename_i h
      obtain ⟨h1, ⟨f, h2, h3⟩, h5, h6⟩ := glob_ok c h
      exact de_con (pe_glob (v := .ref f) h1 h2 rfl h5) fun _ _ => .glb h3
    · exact de_stuck
theorem de_const {k : Const} {j} : DE X W (.Constant k j p) (fconst k) := by
  unfold fconst
  split
  · exact de_non
  · exact de_bl
  · exact de_int
  · exact de_str
  · exact de_stuck
theorem blt_ok (c : CtxOk C S X W) (hc : X.calm = true) {id : String} {g : Sem1} (h : bltD id = some g) : CallD X (.builtin id) g := by
  unfold bltD at h
  split at h <;> cases h
  · exact cd_isi
  · exact cd_len
  · exact cd_ord
  · exact cd_min2 hc
  · exact cd_max2 hc
  · exact cd_all hc
  · exact cd_any hc
  · exact cd_sum hc
  · exact cd_sortedX hc
  · exact cd_repr c.gd c.un
theorem bltS_ok (c : CtxOk C S X W) {id : String} {g : Sem1} (h : bltS S.calm id = some g) : CallD X (.builtin id) g := by
  unfold bltS at h
  split at h
  · rename_i hc
    exact blt_ok c (c.calm hc).1 h
  · unfold bltN at h
    split at h <;> cases h
    · exact cd_isi
    · exact cd_len
    · exact cd_ord
    · exact cd_repr c.gd c.un
theorem ty_ok (c : CtxOk C S X W) (hc : X.calm = true) {m : Bool} {T : String} {g : Sem1} (h : tyD m T = some g) : CallD X (.type T) g := by
  unfold tyD at h
  split at h <;> cases h
  · exact cd_int
  · exact cd_str2
  · exact cd_list m
  · exact cd_tuple
  · exact cd_dict2 hc
theorem tyS_ok (c : CtxOk C S X W) {m : Bool} {T : String} {g : Sem1} (h : tyS S.calm m T = some g) : CallD X (.type T) g := by
  unfold tyS at h
  split at h
  · rename_i hc
    exact ty_ok c (c.calm hc).1 h
  · unfold tyN at h
    split at h <;> cases h
    · exact cd_int
    · exact cd_str2
    · exact cd_tuple
theorem own_vars {N : List Str} : ∀ {names : List (Str × NameKind)}, True := trivial
end
end DL
end
section
/-! DL16: the evaluator of expressions is right. -/
namespace DL
open PySem PySem.Spec PyProof.Rows L2
structure EvOk (C : EC) (n : Nat) : Prop where
  e : ∀ {S : SC} {X : Cx} {W : WG} (e : Expr), CtxOk C S X W → DE X W e (ev C S n e)
  b : ∀ {S : SC} {X : Cx} {W : WG} (op : BoolOp) (vs : List Expr) (p : Pos), CtxOk C S X W → DE X W (.BoolOp op vs p) (evB C S n op vs)
  t : ∀ {S : SC} {X : Cx} {W : WG} (e : Expr), CtxOk C S X W → DT X W e (evT C S n e)
  w : ∀ {S : SC} {X : Cx} {W : WG} (op : BoolOp) (vs : List Expr) (p : Pos), CtxOk C S X W → DW X W (.BoolOp op vs p) (evW C S n op vs)
  a : ∀ {S : SC} {X : Cx} {W : WG} (es : List Expr), CtxOk C S X W → starless es = true → DA X W es (evA C S n es)
  al : ∀ {S : SC} (es : List Expr), LenF (evA C S n es) es.length
  k : ∀ {S : SC} {X : Cx} {W : WG} (es : List Keyword), CtxOk C S X W → DK X W es (evK C S n es)
  kl : ∀ {S : SC} (es : List Keyword), LenF (evK C S n es) es.length
  p : ∀ {S : SC} {X : Cx} {W : WG} (e : Option Expr), CtxOk C S X W → DP X W e (evP C S n e)
  ps : ∀ {S : SC} {X : Cx} {W : WG} (ks : List (Option Expr)) (vs : List Expr) (trs : List (FF D × FF D)) (p : Pos), CtxOk C S X W → evPs C S n ks vs = some trs → PPs X p ks vs (trs.map fun q => (lE X.K W q.1, lE X.K W q.2)) ∧ ks.all (·.isSome) = true
  i : ∀ {S : SC} {X : Cx} {W : WG} (tg e : Expr), CtxOk C S X W → DI X W tg e (evI C S n (isTupE tg) e)
  s : ∀ {S : SC} {X : Cx} {W : WG} (es : List Expr), CtxOk C S X W → DA X W es (evS C S n es)
  l : ∀ {S : SC} {X : Cx} {W : WG} (e iter : Expr) (f : FF D), DE X W e f → DE X W e (evLk C S n iter f)
theorem lenF_stuck {n : Nat} : LenF fstuck n := fun _ _ _ _ h => by cases h
theorem ev0 (C : EC) : EvOk C 0 where
  e := fun e c => by unfold ev; exact de_stuck
  b := fun op vs p c => by unfold evB; exact de_stuck
  t := fun e c => by unfold evT; exact dt_stuck
  w := fun op vs p c => by unfold evW; exact dw_stuck
  a := fun es c _ => by unfold evA; exact da_stuck
  al := fun es => by unfold evA; exact lenF_stuck
  k := fun es c => by unfold evK; exact dk_stuck
  kl := fun es => by unfold evK; exact lenF_stuck
  p := fun e c => by unfold evP; exact dp_stuck
  ps := fun ks vs trs p c h => by unfold evPs at h; cases h
  i := fun tg e c => by unfold evI; exact di_stuck
  s := fun es c => by unfold evS; exact da_stuck
  l := fun e iter f h => by unfold evLk; exact de_stuck
section
variable {C : EC} {S : SC} {X : Cx} {W : WG} {n : Nat}
theorem blk_kind {N : List Str} {sc scope : Scope} {own : List (Str × Nat)} (h : blkC N sc scope own = true) : scope.kind = .function := (blkOk_by h).kind
theorem slotsW_ok (c : CtxOk C S X W) : ∀ {es : List Expr} {is : List Nat}, ctOf.slots S es = some is → PGs X es (gNames is) ∧ starless es = true ∧ is.length = es.length
  | [], is, h => by
    unfold ctOf.slots at h; cases h; exact ⟨pgs_nil, rfl, rfl⟩
  | e :: r, is, h => by
    unfold ctOf.slots at h
    split at h
    · rename_i h0; cases h0
    · rename_i x p r' h0
      cases h0
      split at h
      · rename_i i is' h1 h2
        cases h
        obtain ⟨q1, q2, q3⟩ := slotsW_ok c h2
        obtain ⟨w1, w2, w3, -⟩ := slotW_ok c h1
        refine ⟨pgs_cons (pg_name (by rw [c.N]; exact c.nd) w1 w2 w3) q1 rfl, ?_, by simp [q3]⟩
        unfold starless at q2 ⊢
        rw [List.all_cons, q2]; rfl
      · cases h
    · cases h
theorem ctOf_ok (c : CtxOk C S X W) (hc : X.calm = true) {tg : Expr} {ct : CT} (h : ctOf S tg = some ct) : PG X tg (gCT X.K ct) := by
  unfold ctOf at h
  split at h
  · rw [Option.map_eq_some_iff] at h
    obtain ⟨i, h1, rfl⟩ := h
    obtain ⟨w1, w2, w3, -⟩ := slotW_ok c h1
    exact pg_name (by rw [c.N]; exact c.nd) w1 w2 w3
  · rw [Option.map_eq_some_iff] at h
    obtain ⟨is, h1, rfl⟩ := h
    obtain ⟨q1, q2, q3⟩ := slotsW_ok c h1
    show PG X _ (gTup X.K is.length (gNames is))
    rw [q3]
    exact pg_tup hc q1 (assignEach_len q2).1 (assignEach_len q2).2
  · cases h
end
end DL
end
section
/-! DL17: the evaluator of expressions is right: one step more. -/
namespace DL
open PySem PySem.Spec PyProof.Rows L2
section
variable {C : EC} {S : SC} {X : Cx} {W : WG} {n : Nat}
theorem meth_ok (c : CtxOk C S X W) {m : Str} {k : Nat} {T : String} {g : D → Sem1} {mu : Bool} (h : mthD mu m k = some (T, g)) :
    ∃ id, PlainAttrs T ∧ Slot T m id ∧ typeOf (.builtin id) = pure (.type "method_descriptor") ∧ (T = "str" ∨ T = "list" ∨ T = "dict") ∧ MtD X id g ∧ (k = 0 ∨ k = 1 ∨ k = 2) := by
  unfold mthD at h
  split at h
  · rename_i e; subst e
    split at h <;> cases h
    rename_i e; subst e
    exact ⟨"list.append", PySem.F.plainAttrs_list, PySem.F.slot_list_append, PySem.F.type_list_append, .inr (.inl rfl), md_append, .inr (.inl rfl)⟩
  · split at h
    · rename_i e; subst e
      split at h <;> cases h
      rename_i e; subst e
      exact ⟨"list.extend", PySem.F.plainAttrs_list, PySem.F.slot_list_extend, PySem.F.type_list_extend, .inr (.inl rfl), md_extend, .inr (.inl rfl)⟩
    · split at h
      · rename_i e; subst e
        split at h
        · cases h
          rename_i e; subst e
          exact ⟨"list.pop", PySem.F.plainAttrs_list, PySem.F.slot_list_pop, PySem.F.type_list_pop, .inr (.inl rfl), md_popAt, .inr (.inl rfl)⟩
        · split at h <;> cases h
          rename_i e; subst e
          exact ⟨"list.pop", PySem.F.plainAttrs_list, PySem.F.slot_list_pop, PySem.F.type_list_pop, .inr (.inl rfl), md_pop, .inl rfl⟩
      · split at h
        · rename_i e; subst e
          split at h <;> cases h
          rename_i e; subst e
          exact ⟨"list.index", PySem.F.plainAttrs_list, PySem.F.slot_list_index, PySem.F.type_list_index, .inr (.inl rfl), md_index (by have := c.un; omega), .inr (.inl rfl)⟩
        · split at h
          · rename_i e; subst e
            split at h <;> cases h
            rename_i e
            exact ⟨"dict.get", PySem.F.plainAttrs_dict, PySem.F.slot_dict_get, PySem.F.type_dict_get, .inr (.inr rfl), md_get (by have := c.un; omega), .inr e⟩
          · split at h
            · rename_i e; subst e
              split at h <;> cases h
              rename_i e; subst e
              exact ⟨"str.upper", PySem.F.plainAttrs_str, PySem.F.slot_str_upper, PySem.F.type_str_upper, .inl rfl, md_upper, .inl rfl⟩
            · split at h
              · rename_i e; subst e
                split at h <;> cases h
                rename_i e; subst e
                exact ⟨"str.split", PySem.F.plainAttrs_str, PySem.F.slot_str_split, PySem.F.type_str_split, .inl rfl, md_split mu, .inr (.inl rfl)⟩
              · split at h
                · rename_i e; subst e
                  split at h <;> cases h
                  rename_i e; subst e
                  exact ⟨"str.join", PySem.F.plainAttrs_str, PySem.F.slot_str_join, PySem.F.type_str_join, .inl rfl, md_join, .inr (.inl rfl)⟩
                · cases h
theorem ev_b (ih : EvOk C n) (op : BoolOp) (vs : List Expr) (p : Pos) (c : CtxOk C S X W) : DE X W (.BoolOp op vs p) (evB C S (n + 1) op vs) := by
  unfold evB
  split
  · exact de_stuck
  · exact de_one (ih.e _ c)
  · split
    · exact de_and (ih.e _ c) (ih.b _ _ _ c)
    · exact de_or (ih.e _ c) (ih.b _ _ _ c)
theorem ev_w (ih : EvOk C n) (op : BoolOp) (vs : List Expr) (p : Pos) (c : CtxOk C S X W) : DW X W (.BoolOp op vs p) (evW C S (n + 1) op vs) := by
  unfold evW
  split
  · exact dw_stuck
  · exact dw_one (ih.t _ c)
  · split
    · exact dw_and (ih.t _ c) (ih.w _ _ _ c)
    · exact dw_or (ih.t _ c) (ih.w _ _ _ c)
theorem starless_cons {e : Expr} {es : List Expr} (h : starless (e :: es) = true) : PySem.W.isStarred e = false ∧ starless es = true := by
  unfold starless at h ⊢
  rw [List.all_cons, Bool.and_eq_true, Bool.not_eq_true'] at h
  exact h
theorem ev_a (ih : EvOk C n) (es : List Expr) (c : CtxOk C S X W) (hs : starless es = true) : DA X W es (evA C S (n + 1) es) := by
  unfold evA
  split
  · exact da_nil
  · exact da_cons (ih.e _ c) (ih.a _ c (starless_cons hs).2) (starless_cons hs).1
theorem ev_al (ih : EvOk C n) (es : List Expr) : LenF (evA C S (n + 1) es) es.length := by
  unfold evA
  split
  · exact lenF_nil
  · exact lenF_cons (ih.al _)
theorem ev_k (ih : EvOk C n) (es : List Keyword) (c : CtxOk C S X W) : DK X W es (evK C S (n + 1) es) := by
  unfold evK
  split
  · exact dk_nil
  · exact dk_cons (ih.e _ c) (ih.k _ c)
theorem ev_kl (ih : EvOk C n) (es : List Keyword) : LenF (evK C S (n + 1) es) es.length := by
  unfold evK
  split
  · exact lenF_nil
  · exact lenF_cons (ih.kl _)
theorem ev_p (ih : EvOk C n) (e : Option Expr) (c : CtxOk C S X W) : DP X W e (evP C S (n + 1) e) := by
  unfold evP
  split
  · exact dp_none
  · exact dp_some (ih.e _ c)
theorem ev_ps (ih : EvOk C n) (ks : List (Option Expr)) (vs : List Expr) (trs : List (FF D × FF D)) (p : Pos) (c : CtxOk C S X W) (h : evPs C S (n + 1) ks vs = some trs) : PPs X p ks vs (trs.map fun q => (lE X.K W q.1, lE X.K W q.2)) ∧ ks.all (·.isSome) = true := by
  unfold evPs at h
  split at h
  · cases h; exact ⟨pps_nil, rfl⟩
  · rw [Option.map_eq_some_iff] at h
    obtain ⟨t, h1, rfl⟩ := h
    obtain ⟨h2, h3⟩ := ih.ps _ _ _ p c h1
    exact ⟨pps_cons (ih.e _ c) (ih.e _ c) h2, by rw [List.all_cons, h3]; rfl⟩
  · cases h
theorem ev_s (ih : EvOk C n) (es : List Expr) (c : CtxOk C S X W) : DA X W es (evS C S (n + 1) es) := by
  unfold evS
  split
  · exact da_nil
  · exact da_star (ih.e _ c) (ih.s _ c)
  · rename_i e r hne
    exact da_cons (ih.e _ c) (ih.s _ c) (by
      unfold PySem.W.isStarred
      split
      · rename_i e' p
        exact (hne e' p rfl).elim
      · rfl)
theorem ev_l (C : EC) (S : SC) (n : Nat) (e iter : Expr) (f : FF D) (h : DE X W e f) : DE X W e (evLk C S (n + 1) iter f) := by
  unfold evLk
  split
  · split
    · exact de_lock _ h
    · exact h
  · exact h
theorem isTup_ok {tg : Expr} (h : isTupE tg = true) : ∃ es k p, tg = .Tuple es k p := by
  cases tg <;> first | (cases h; done) | exact ⟨_, _, _, rfl⟩
theorem ev_i (ih : EvOk C n) (tg e : Expr) (c : CtxOk C S X W) : DI X W tg e (evI C S (n + 1) (isTupE tg) e) := by
  unfold evI
  split
  · rename_i x args _ _
    split
    · rename_i hx
      rw [decide_eq_true_eq] at hx
      subst hx
      split
      · rename_i a h
        obtain ⟨h1, ⟨h2, h3⟩, h5, h6⟩ := glob_ok c h
        split
        · exact di_stuck
        · rename_i hs
          exact di_range1 h1 h2 (ih.e _ c) (by simpa using hs)
      · rename_i a b h
        obtain ⟨h1, ⟨h2, h3⟩, h5, h6⟩ := glob_ok c h
        split
        · exact di_stuck
        · rename_i hs
          simp only [Bool.or_eq_true, not_or, Bool.not_eq_true] at hs
          exact di_range2 h1 h2 (ih.e _ c) (ih.e _ c) hs.1 hs.2
      · rename_i a b d h
        obtain ⟨h1, ⟨h2, h3⟩, h5, h6⟩ := glob_ok c h
        split
        · exact di_stuck
        · rename_i hs
          simp only [Bool.or_eq_true, not_or, Bool.not_eq_true] at hs
          exact di_range3 h1 h2 (ih.a _ c (by simp [starless, hs.1.1, hs.1.2, hs.2])) hs.1.1 hs.1.2 hs.2
      · exact di_stuck
    · split
      · rename_i hx
        rw [Bool.and_eq_true, decide_eq_true_eq] at hx
        obtain ⟨rfl, ht⟩ := hx
        obtain ⟨es, k, p, rfl⟩ := isTup_ok ht
        split
        · rename_i a h
          obtain ⟨h1, ⟨h2, h3⟩, h5, h6⟩ := glob_ok c h
          split
          · exact di_stuck
          · rename_i hs
            exact di_enum h1 h2 (ih.e _ c) (by simpa using hs)
        · exact di_stuck
      · split
        · rename_i hx
          rw [Bool.and_eq_true, decide_eq_true_eq] at hx
          obtain ⟨rfl, ht⟩ := hx
          obtain ⟨es, k, p, rfl⟩ := isTup_ok ht
          split
          · rename_i a b h
            obtain ⟨h1, ⟨h2, h3⟩, h5, h6⟩ := glob_ok c h
            split
            · exact di_stuck
            · rename_i hs
              simp only [Bool.or_eq_true, not_or, Bool.not_eq_true] at hs
              exact di_zip h1 h2 (ih.a _ c (by unfold starless; simp [hs.1, hs.2])) hs.1 hs.2
          · exact di_stuck
        · exact di_val (ih.e _ c)
  · split
    · rename_i q
      simp only [Bool.and_eq_true, decide_eq_true_eq, Bool.not_eq_true'] at q
      obtain ⟨⟨⟨rfl, ht⟩, h2⟩, h3⟩ := q
      obtain ⟨es, k, p, rfl⟩ := isTup_ok ht
      exact di_items (ih.e _ c) h2 h3
    · exact di_val (ih.e _ c)
  · exact di_val (ih.e _ c)
theorem un65 (c : CtxOk C S X W) : X.A.units + 65 < cLine := by have := c.un; omega
theorem ev_t (ih : EvOk C n) (e : Expr) (c : CtxOk C S X W) : DT X W e (evT C S (n + 1) e) := by
  unfold evT
  split
  · exact dt_not (ih.t _ c)
  · exact (ih.w _ _ _ c).pt
  · split
    · exact dt_stuck
    · rename_i h
      exact dt_cmp (od_cmp (un65 c) _) (ih.e _ c) (ih.e _ c) (by simpa using h)
  · split
    · exact dt_stuck
    · rename_i h
      exact dt_chain (od_cmp (un65 c) _) (od_cmp (un65 c) _) (ih.e _ c) (ih.e _ c) (ih.e _ c) (by simpa using h)
  · split
    · rename_i h
      exact dt_tru (ih.e _ c) h
    · exact dt_stuck
end
end DL
end
section
/-! DL18: the evaluator of expressions is right: all of it. -/
namespace DL
open PySem PySem.Spec PyProof.Rows L2
section
variable {C : EC} {S : SC} {X : Cx} {W : WG} {n : Nat}
theorem lc_ok (ih : EvOk C n) (c : CtxOk C S X W) {elt tg iter : Expr} {ifs : List Expr} {scope : Scope} {pos : Pos} {ct : CT} {tt : FF Bool} (hs : noSet iter = true) (hb : blkC S.N S.sc scope (ownOf S.N scope.names) = true) (hct : ctOf (S.blk scope) tg = some ct)
    (hv : (ct.vars.all fun i => decide (i ∈ (ownOf S.N scope.names).map (·.2))) = true) (hcl : S.calm = true) (ht : ∀ X' (W' : WG), CtxOk C (S.blk scope) X' W' → PTs X' ifs (lT X'.K W' tt)) :
    DE X W (.ListComp elt [⟨tg, iter, ifs, 0⟩] scope pos) (flc (C.mu pos) (evI C S n (isTupE tg) iter) ct tt (ev C (S.blk scope) n elt) ((ownOf S.N scope.names).map (·.2))) := by
  have hk := blk_kind hb
  refine de_lc (C.mu pos) (c.calm hcl).1 (by rw [c.N]; exact c.nd) (ih.i _ _ c) (by rw [c.N, c.sc]; exact blkOk_by hb) (fun s H A cl fp => ctOf_ok (c.blk hcl hk s H A cl fp) (c.calm hcl).1 hct) (fun s H A cl fp => ht _ _ (c.blk hcl hk s H A cl fp)) (fun s H A cl fp => ih.e _ (c.blk hcl hk s H A cl fp)) hs ?_
  rw [List.all_eq_true] at hv
  exact fun i hi => by simpa using hv i hi
theorem dc_ok (ih : EvOk C n) (c : CtxOk C S X W) {kx vx tg iter : Expr} {ifs : List Expr} {scope : Scope} {pos : Pos} {ct : CT} {tt : FF Bool} (hs : noSet iter = true) (hb : blkC S.N S.sc scope (ownOf S.N scope.names) = true) (hct : ctOf (S.blk scope) tg = some ct)
    (hv : (ct.vars.all fun i => decide (i ∈ (ownOf S.N scope.names).map (·.2))) = true) (hcl : S.calm = true) (ht : ∀ X' (W' : WG), CtxOk C (S.blk scope) X' W' → PTs X' ifs (lT X'.K W' tt)) :
    DE X W (.DictComp kx vx [⟨tg, iter, ifs, 0⟩] scope pos) (fdc (evI C S n (isTupE tg) iter) ct tt (ev C (S.blk scope) n kx) (ev C (S.blk scope) n vx) ((ownOf S.N scope.names).map (·.2))) := by
  have hk := blk_kind hb
  refine de_dc (c.calm hcl).1 (by rw [c.N]; exact c.nd) (ih.i _ _ c) (by rw [c.N, c.sc]; exact blkOk_by hb) (fun s H A cl fp => ctOf_ok (c.blk hcl hk s H A cl fp) (c.calm hcl).1 hct) (fun s H A cl fp => ht _ _ (c.blk hcl hk s H A cl fp)) (fun s H A cl fp => ih.e _ (c.blk hcl hk s H A cl fp)) (fun s H A cl fp => ih.e _ (c.blk hcl hk s H A cl fp)) hs ?_
  rw [List.all_eq_true] at hv
  exact fun i hi => by simpa using hv i hi
theorem ssc_ok (ih : EvOk C n) (c : CtxOk C S X W) {elt tg iter : Expr} {ifs : List Expr} {scope : Scope} {pos p cpos : Pos} {ct : CT} {tt : FF Bool} (hg : Gl X "sorted") (hm : X.mg "sorted" = none) (hs : noSet iter = true) (hb : blkC S.N S.sc scope (ownOf S.N scope.names) = true) (hct : ctOf (S.blk scope) tg = some ct)
    (hv : (ct.vars.all fun i => decide (i ∈ (ownOf S.N scope.names).map (·.2))) = true) (hcl : S.calm = true) (ht : ∀ X' (W' : WG), CtxOk C (S.blk scope) X' W' → PTs X' ifs (lT X'.K W' tt)) :
    DE X W (.Call (.Name "sorted" p) [.SetComp elt [⟨tg, iter, ifs, 0⟩] scope cpos] [] pos) (fsortSC (evI C S n (isTupE tg) iter) ct tt (ev C (S.blk scope) n elt) ((ownOf S.N scope.names).map (·.2))) := by
  have hk := blk_kind hb
  refine de_sortSC hg hm (c.calm hcl).1 (by rw [c.N]; exact c.nd) (ih.i _ _ c) (by rw [c.N, c.sc]; exact blkOk_by hb) (fun s H A cl fp => ctOf_ok (c.blk hcl hk s H A cl fp) (c.calm hcl).1 hct) (fun s H A cl fp => ht _ _ (c.blk hcl hk s H A cl fp)) (fun s H A cl fp => ih.e _ (c.blk hcl hk s H A cl fp)) hs ?_
  rw [List.all_eq_true] at hv
  exact fun i hi => by simpa using hv i hi
theorem de_forElse {e : Expr} {f g : FF D} (h1 : DE X W e f) (h2 : DE X W e g) : DE X W e (forElse f g) := by
  refine ⟨fun pins s σ H Q I h => ?_⟩
  obtain ⟨ρ, env, st, g0, o⟩ := h
  unfold forElse at o
  cases hf : f env st with
  | stuck => rw [hf] at o; exact h2.run pins s σ H Q I ⟨ρ, env, st, g0, o⟩
  | ok d st1 => rw [hf] at o; exact h1.run pins s σ H Q I ⟨ρ, env, st, g0, by rw [hf]; exact o⟩
  | exc x st1 => rw [hf] at o; exact h1.run pins s σ H Q I ⟨ρ, env, st, g0, by rw [hf]; exact o⟩
theorem sdt_ok (ih : EvOk C n) (c : CtxOk C S X W) {kx vx tg iter : Expr} {scope : Scope} {pos p cpos : Pos} {ct : CT} (hg : Gl X "sorted") (hm : X.mg "sorted" = none) (hs : noSet iter = true) (hb : blkC S.N S.sc scope (ownOf S.N scope.names) = true) (hct : ctOf (S.blk scope) tg = some ct)
    (hv : (ct.vars.all fun i => decide (i ∈ (ownOf S.N scope.names).map (·.2))) = true) (hcl : S.calm = true) :
    DE X W (.Call (.Name "sorted" p) [.DictComp kx vx [⟨tg, iter, [], 0⟩] scope cpos] [] pos) (fsortDT (evI C S n (isTupE tg) iter) ct (ev C (S.blk scope) n kx) (ev C (S.blk scope) n vx) ((ownOf S.N scope.names).map (·.2))) := by
  have hk := blk_kind hb
  refine de_sortDT (by have := c.un; omega) hg hm (c.calm hcl).1 (by rw [c.N]; exact c.nd) (ih.i _ _ c) (by rw [c.N, c.sc]; exact blkOk_by hb) (fun s H A cl fp => ctOf_ok (c.blk hcl hk s H A cl fp) (c.calm hcl).1 hct) (fun s H A cl fp => dts_nil) (fun s H A cl fp => ih.e _ (c.blk hcl hk s H A cl fp)) (fun s H A cl fp => ih.e _ (c.blk hcl hk s H A cl fp)) hs ?_
  rw [List.all_eq_true] at hv
  exact fun i hi => by simpa using hv i hi
theorem rgArgs_ok (c : CtxOk C S X W) (hc : X.calm = true) {x : Str} {T : String} {args : List Expr} {a : Expr} {ob : Option Expr} {p pos : Pos} (hg : glob C S x = some (.typ T)) (h : rgArgs C S x T args = some (a, ob)) :
    True ∧ True ∧ True ∧ ((ob = none → ∀ (m : Bool) {fa : FF D}, DE X W a fa → DE X W (.Call (.Name x p) args [] pos) (flistRg1 m fa)) ∧
      ∀ b, ob = some b → ∀ (m : Bool) {fa fb : FF D}, DE X W a fa → DE X W b fb → DE X W (.Call (.Name x p) args [] pos) (flistRg2 m fa fb)) := by
  refine ⟨trivial, trivial, trivial, ?_⟩
  unfold rgArgs at h
  split at h
  · rename_i y py as pr
    split at h
    · rename_i q
      simp only [Bool.and_eq_true, decide_eq_true_eq] at q
      obtain ⟨⟨⟨rfl, rfl⟩, rfl⟩, q4⟩ := q
      obtain ⟨h1, ⟨h2, h3⟩, h5, h6⟩ := glob_ok c hg
      split at h
      · rename_i a' hr
        cases h
        obtain ⟨k1, ⟨k2, k3⟩, k5, k6⟩ := glob_ok c hr
        exact ⟨fun _ m fa ha => de_listRg1 m hc h1 h2 k1 k2 ha (starless_cons q4).1, fun b e => (by cases e)⟩
      · rename_i a' b' hr
        cases h
        obtain ⟨k1, ⟨k2, k3⟩, k5, k6⟩ := glob_ok c hr
        refine ⟨fun e => (by cases e), fun b e m fa fb ha hb => ?_⟩
        · cases e
          exact de_listRg2 m hc h1 h2 k1 k2 ha hb (starless_cons q4).1 (starless_cons (starless_cons q4).2).1
      · cases h
    · cases h
  · cases h
theorem noParams_ok {ps : Arguments} (h : noParams ps = true) : ps = ⟨[], [], none, [], [], none, []⟩ := by
  unfold noParams at h
  split at h
  · rfl
  · cases h
/-- the context of a lambda's body -/
theorem CtxOk.lamS (c : CtxOk C S X W) {scope : Scope} (Ls : LamX.LamS X.env.scope scope) {j : Nat} (h2 : 2 ≤ j) (hcal : LowOk C X W.T j)
    (A : Around) (outer : List PySem.Env) (s : Shared) (H : Hp) (E : XK) (f c' : Addr) (hr : Room j (A.deeper (LamX.lamEnv X scope s.heap.objs.size f c'))) (hg : A.guards = some []) : CtxOk C.low (S.lamS scope) (LamX.lamCx X A outer s H E scope f c') (W.lamW E) where
  N := c.N
  nd := c.nd
  sc := rfl
  kind := Ls.kind
  fn := rfl
  calm := fun _ => ⟨rfl, rfl, hr.mono h2⟩
  gd := hg
  un := by have := hr.un; show (A.deeper _).units + 80 < cLine; omega
  tk := takes_of rfl rfl rfl rfl
  own := passes_of rfl
  glob := c.glob
  cal := fun _ x n ks g e => hcal.cal (LamX.lamCx X A outer s H E scope f c') rfl rfl rfl rfl rfl hr x n ks g e
  calv := fun _ x g e => by cases e
  met := fun _ kd d m n ks g e => hcal.met (LamX.lamCx X A outer s H E scope f c') rfl rfl rfl rfl rfl hr kd d m n ks g e
  mak := fun _ x n ks g e => hcal.mak (LamX.lamCx X A outer s H E scope f c') rfl rfl rfl rfl rfl hr x n ks g e
  fld := c.fld
  subT := c.subT
  exs := c.exs
  sub := c.sub
  lamc := fun e => by cases e
  gen := fun e => by cases e
  ex := fun n x e => by cases e
  fr := fun x i _ _ => ⟨fun x e => (by cases e), fun l e => (by cases e)⟩
  lam := fun a h e => by cases e
  lat := fun a h e => by cases e
theorem ev_e (ih : EvOk C n) (ihl : EvOk C.low n) (e : Expr) (c : CtxOk C S X W) : DE X W e (ev C S (n + 1) e) := by
  unfold ev
  split
  · exact de_name c
  · exact de_const
  · exact de_bin (od_binM _ _) (ih.e _ c) (ih.e _ c)
  · exact de_not (ih.e _ c)
  · exact de_neg (ih.e _ c)
  · exact ih.b _ _ _ c
  · split
    · exact de_stuck
    · rename_i h
      exact de_cmp (od_cmp (un65 c) _) (ih.e _ c) (ih.e _ c) (by simpa using h)
  · split
    · exact de_stuck
    · rename_i h
      exact de_chain (od_cmp (un65 c) _) (od_cmp (un65 c) _) (ih.e _ c) (ih.e _ c) (ih.e _ c) (by simpa using h)
  · exact de_if (ih.t _ c) (ih.e _ c) (ih.e _ c)
  · split
    · rename_i h; exact de_tup (ih.a _ c h)
    · exact de_tup (ih.s _ c)
  · split
    · rename_i h; exact de_lst _ (ih.a _ c h)
    · exact de_lst _ (ih.s _ c)
  · exact de_dstar (ih.e _ c) (ih.e _ c) (ih.e _ c)
  · split
    · rename_i h
      split
      · rename_i h'
        cases List.isEmpty_iff.mp h
        cases List.isEmpty_iff.mp h'
        exact de_dict0
      · exact de_stuck
    · rename_i h
      split
      · rename_i h'
        simp only [Bool.and_eq_true, decide_eq_true_eq] at h'
        split
        · rename_i trs ht
          obtain ⟨h1, h2⟩ := ih.ps _ _ _ _ c ht
          exact de_dict h1 h2 h'.1 (fun z => h (by rw [z]; rfl)) h'.2
        · exact de_stuck
      · exact de_stuck
  · exact de_slice _ (ih.e _ c) (ih.p _ c) (ih.p _ c)
  · exact de_step _ (ih.e _ c) (ih.p _ c) (ih.p _ c) (ih.p _ c)
  · split
    · rename_i h
      exact de_ix (id_all (un65 c)) (ih.e _ c) (ih.e _ c) (plainIx_of h)
    · exact de_stuck
  · rename_i _ x p f pos
    split
    · rename_i m xd hex
      split
      · rename_i hxm
        subst hxm
        split
        · rename_i fl d hfl hl
          split
          · rename_i hf
            rw [Bool.and_eq_true, decide_eq_true_eq] at hf
            obtain ⟨o1, o2, -⟩ := okName_ok hf.2
            exact de_exattr (c.ex _ _ hex) (fun C' g => (c.exs _ _ hfl).a g) hf.1 hl o1 o2
          · exact de_stuck
        · exact de_stuck
      · exact de_attr (c.fld · f ·) (de_name c) rfl
    · exact de_attr (c.fld · f ·) (de_name c) rfl
  · rename_i _ o f pos _
    split
    · exact de_stuck
    · rename_i hs
      exact de_attr (c.fld · f ·) (ih.e _ c) (by simpa using hs)
  · rename_i _ x p xc p4 xa pa xb pb kt pt iter xd p1 y p2 p3 scope gpos z0 j5 p5 pos
    split
    · rename_i h
      simp only [Bool.and_eq_true, decide_eq_true_eq] at h
      obtain ⟨⟨⟨⟨⟨⟨⟨⟨h1, h2⟩, h3⟩, h4⟩, h5⟩, h6⟩, h7⟩, h8⟩, h9⟩ := h
      subst h3 h5 h6
      split
      · rename_i id i hg hi
        split
        · obtain ⟨c0, P, k, g1, g2, g3, g4, g5⟩ := c.gen h2
          obtain ⟨s1, s2, s3, s4⟩ := slotR_ok c hi
          have hm : X.mg ("next" : Str) = none := (glob_ok c hg).2.1.1
          exact de_nextg (k := k) g1 (glob_ok c hg).1 hm g3 g2 g4 g5 (by rw [c.sc]; exact genS_by h4) (ih.e _ c) s1 s2 (okName_ok h7).1 (okName_ok h8).1 s3 s4 (fold_call h9 _)
        · exact de_stuck
      · exact de_stuck
    · exact de_stuck
  · rename_i _ x p elt tg iter ifs scope cpos pos
    split
    · rename_i h
      simp only [Bool.and_eq_true, decide_eq_true_eq] at h
      obtain ⟨⟨⟨h1, h2⟩, h3⟩, h4⟩ := h
      subst h2
      split
      · rename_i id ct hg hct
        split
        · rename_i q
          rw [Bool.and_eq_true] at q
          exact ssc_ok ih c (glob_ok c hg).1 (glob_ok c hg).2.1.1 h3 h4 hct q.2 h1 fun X' W' c' => dts_nil
        · exact de_stuck
      · rename_i id ct t hg hct
        split
        · rename_i q
          rw [Bool.and_eq_true] at q
          exact ssc_ok ih c (glob_ok c hg).1 (glob_ok c hg).2.1.1 h3 h4 hct q.2 h1 fun X' W' c' => pts_one (ih.t t c')
        · exact de_stuck
      · exact de_stuck
    · exact de_stuck
  · rename_i _ x p kx vx tg iter scope cpos pos
    split
    · rename_i h
      simp only [Bool.and_eq_true, decide_eq_true_eq] at h
      obtain ⟨⟨⟨h1, h2⟩, h3⟩, h4⟩ := h
      subst h2
      split
      · rename_i id ct hg hct
        split
        · rename_i q
          rw [Bool.and_eq_true, decide_eq_true_eq] at q
          obtain ⟨rfl, q2⟩ := q
          obtain ⟨g1, ⟨g2, g3⟩, g5, g6⟩ := glob_ok c hg
          exact de_forElse (sdt_ok ih c g1 g2 h3 h4 hct q2 h1) (de_callB (cd_sortedX (c.calm h1).1) g1 g2 g3 (da_cons (dc_ok ih c h3 h4 hct q2 h1 fun X' W' c' => dts_nil) da_nil rfl) g6 g5 (by rfl))
        · exact de_stuck
      · exact de_stuck
    · exact de_stuck
  · rename_i _ x p params body scope lpos pos
    split
    · rename_i h
      simp only [Bool.and_eq_true] at h
      obtain ⟨⟨⟨h1, h2⟩, h3⟩, h4⟩ := h
      split
      · rename_i L hg hL
        obtain ⟨j, j2, hcal, hLam⟩ := c.lamc h2 x L hL
        have Ls : LamX.LamS X.env.scope scope := by rw [c.sc]; exact LamX.lamS_by h4
        exact hLam X W (SimX.refl X) rfl params body scope lpos p pos _ (glob_ok c hg).1 h3 Ls fun A outer s H E f c' hr hg => ihl.e _ (c.lamS Ls j2 hcal A outer s H E f c' hr hg)
      · exact de_stuck
    · exact de_stuck
  · rename_i _ x p args kws pos _ _ _ _
    split
    · rename_i hst
      have h0 : args = [] → evA C S n args = fnil ∨ evA C S n args = fstuck := fun e => by
        subst e
        cases n with
        | zero => right; unfold evA; rfl
        | succ n => left; unfold evA; rfl
      split
      · rename_i ks hg hk
        split
        · rename_i hcl
          split
          · rename_i g hc
            obtain ⟨h1, -, h5, h6⟩ := glob_ok c hg
            exact de_fn (c.cal hcl _ _ _ _ hc) rfl c.tk c.gd h1 (ih.a _ c hst) (ih.k _ c) hst hk h0 (ih.al _) (by rw [kw_len hk]; exact ih.kl _) h5
          · split
            · obtain ⟨h1, -, h5, h6⟩ := glob_ok c hg
              rename C.calv x = some _ => hc
              obtain ⟨f, k, v1, v2, v3, v4, v5⟩ := c.calv hcl _ _ hc
              exact de_fn (ks := []) ⟨f, k, v1, v2, v3, v4, v5 args.length⟩ rfl c.tk c.gd h1 (ih.a _ c hst) (ih.k _ c) hst hk h0 (ih.al _) (by have := kw_len hk; rw [this]; exact ih.kl _) h5
            · split
              · obtain ⟨h1, -, h5, h6⟩ := glob_ok c hg
                rename C.mak x args.length _ = some _ => hmk
                exact de_mak (c.mak hcl _ _ _ _ hmk) rfl c.tk c.gd h1 (ih.a _ c hst) (ih.k _ c) hst hk h0 (ih.al _) (by rw [kw_len hk]; exact ih.kl _) h5
              · exact de_stuck
        · exact de_stuck
      · rename_i id hg hk
        have hkw : kws = [] := by
          have := kw_len hk
          exact List.eq_nil_of_length_eq_zero this.symm
        subst hkw
        split
        · exact de_stuck
        · rename_i hne
          obtain ⟨h1, ⟨h2, h3⟩, h5, h6⟩ := glob_ok c hg
          split
          · rename_i b hb
            split at hb
            · rename_i hid
              rw [Bool.and_eq_true, decide_eq_true_eq, decide_eq_true_eq] at hid
              obtain ⟨rfl, rfl⟩ := hid
              unfold exIs at hb
              split at hb
              · rename_i nm pn cn pc
                split at hb
                · rename_i m xd hex
                  split at hb
                  · rename_i q
                    simp only [Bool.and_eq_true, decide_eq_true_eq] at q
                    obtain ⟨⟨rfl, q2⟩, q3⟩ := q
                    obtain ⟨fl, hfl⟩ := Option.isSome_iff_exists.mp q2
                    obtain ⟨o1, o2, -⟩ := okName_ok q3
                    split at hb
                    · rename_i hgc
                      obtain ⟨k1, ⟨D, k2, k3⟩, k5, k6⟩ := glob_ok c hgc
                      exact de_exis (c.ex _ _ hex) (fun C' g => (c.exs _ _ hfl).a g) (fun C' g => (c.sub _ _ _ hb C' D g k3).1) h1 h2 k1 k2 k5 o1 o2
                    · rename_i t hgc
                      obtain ⟨k1, ⟨k2, k3⟩, k5, k6⟩ := glob_ok c hgc
                      exact de_exisT (c.ex _ _ hex) (fun C' g => (c.exs _ _ hfl).a g) (fun C' g => c.subT _ _ _ hb C' g) h1 h2 k1 k2 k3 k5 k6 o1 o2
                    · cases hb
                  · cases hb
                · cases hb
              · rename_i nm pn cn pc dn pd kt pt
                split at hb
                · rename_i m xd hex
                  split at hb
                  · rename_i q
                    simp only [Bool.and_eq_true, decide_eq_true_eq] at q
                    obtain ⟨⟨rfl, q2⟩, q3⟩ := q
                    obtain ⟨fl, hfl⟩ := Option.isSome_iff_exists.mp q2
                    obtain ⟨o1, o2, -⟩ := okName_ok q3
                    split at hb
                    · rename_i hgc hgd
                      obtain ⟨k1, ⟨D1, k2, k3⟩, k5, k6⟩ := glob_ok c hgc
                      obtain ⟨j1, ⟨D2, j2, j3⟩, j5, j6⟩ := glob_ok c hgd
                      split at hb
                      · rename_i b1 b2 hb1 hb2
                        cases hb
                        exact de_exisP (c.ex _ _ hex) (fun C' g => (c.exs _ _ hfl).a g) (fun C' g => (c.sub _ _ _ hb1 C' D1 g k3).1) (fun C' g => (c.sub _ _ _ hb2 C' D2 g j3).1) h1 h2 k1 k2 k5 j1 j2 j5 o1 o2
                      · cases hb
                    · cases hb
                  · cases hb
                · cases hb
              · cases hb
            · cases hb
          · split
            · rename_i e hse
              unfold setArg at hse
              split at hse
              · rename_i y py e' py2
                split at hse
                · rename_i q
                  simp only [Bool.and_eq_true, decide_eq_true_eq, Bool.not_eq_true'] at q
                  obtain ⟨⟨⟨⟨q1, rfl⟩, rfl⟩, rfl⟩, q5⟩ := q
                  split at hse
                  · rename_i T hT
                    split at hse
                    · cases hse
                      obtain ⟨k1, ⟨k2, k3⟩, k5, k6⟩ := glob_ok c hT
                      exact de_sortSet (c.calm q1).1 h1 h2 k1 k2 (ih.e _ c) q5
                    · cases hse
                  · cases hse
                · cases hse
              · cases hse
            · split
              · rename_i g hb
                cases args with
                | nil => exact absurd rfl hne
                | cons a es => exact de_callB (bltS_ok c hb) h1 h2 h3 (ih.a _ c hst) h6 h5 hst
              · exact de_stuck
      · rename_i T hg hk
        have hkw : kws = [] := by
          have := kw_len hk
          exact List.eq_nil_of_length_eq_zero this.symm
        subst hkw
        split
        · exact de_stuck
        · rename_i hne
          split
          · rename_i a hr
            split
            · rename_i hcl
              obtain ⟨q1, q2, q3, q4⟩ := rgArgs_ok c (c.calm hcl).1 hg hr
              exact q4.1 rfl (C.mu _) (ih.e _ c)
            · exact de_stuck
          · rename_i a b hr
            split
            · rename_i hcl
              obtain ⟨q1, q2, q3, q4⟩ := rgArgs_ok c (c.calm hcl).1 hg hr
              exact q4.2 b rfl (C.mu _) (ih.e _ c) (ih.e _ c)
            · exact de_stuck
          · split
            · rename_i g hb
              obtain ⟨h1, ⟨h2, h3⟩, h5, h6⟩ := glob_ok c hg
              cases args with
              | nil => exact absurd rfl hne
              | cons a es => exact de_callTy (tyS_ok c hb) h1 h2 h3 (ih.a _ c hst) h6 h5 hst
            · exact de_stuck
      · rename_i ks hg hk
        split
        · rename_i m h hlam
          split
          · rename_i q
            simp only [Bool.and_eq_true, decide_eq_true_eq, List.isEmpty_iff] at q
            obtain ⟨⟨rfl, rfl⟩, rfl⟩ := q
            exact c.lam _ _ hlam _ _
          · exact de_stuck
        · split
          · rename_i i hi
            split
            · rename_i q
              rw [Bool.and_eq_true] at q
              obtain ⟨s1, s2, s3, s4⟩ := slotR_ok c hi
              exact de_fnV (fun y g e => c.cal q.1 y _ _ g e) rfl c.tk c.gd s1 s2 (ih.a _ c hst) (ih.k _ c) hst hk h0 (ih.al _) (by rw [kw_len hk]; exact ih.kl _) s3 s4
            · exact de_stuck
          · exact de_stuck
      · exact de_stuck
    · rename_i hst
      split
      · have hg : glob C S x = some .obj := by assumption
        rename C.calv x = some _ => hv
        split
        · rename_i hcl
          obtain ⟨h1, -, h5, h6⟩ := glob_ok c hg
          split
          · exact de_fnS1 (c.calv hcl _ _ hv) rfl c.tk c.gd h1 (ih.e _ c) h5
          · rename_i e r _
            split
            · exact de_stuck
            · rename_i q
              rw [Bool.or_eq_true, not_or, Bool.not_eq_true, Bool.not_eq_true] at q
              exact de_fnS2 (c.calv hcl _ _ hv) rfl c.tk c.gd h1 (ih.s _ c) q.1 q.2 h5
          · exact de_stuck
        · exact de_stuck
      · exact de_stuck
  · rename_i _ o m apos args kws cpos
    split
    · rename_i h
      simp only [Bool.and_eq_true, Bool.not_eq_true', decide_eq_true_eq] at h
      obtain ⟨⟨⟨h1, h2⟩, h3⟩, h4'⟩ := h
      have h4 : args.length < 29 := by omega
      split
      · rename_i T g hm
        unfold mthK at hm
        split at hm
        rotate_left
        · cases hm
        obtain ⟨id, pa, slot, hty, hT, mt, hk⟩ := meth_ok c hm
        cases args with
        | nil =>
          have := de_meth0 pa slot hty hT mt (ih.e o c) h2 h3
          cases n with
          | zero =>
            unfold ev
            exact ⟨fun _ _ _ _ _ _ ⟨_, _, _, _, o⟩ => o.elim⟩
          | succ k =>
            have e0 : evA C S (k + 1) [] = fnil := by unfold evA; rfl
            rw [e0]; exact this
        | cons a es => exact de_meth pa slot hty hT mt (ih.e _ c) (ih.a _ c h1) h2 h3 h1 h4
      · split
        · rename_i ks hk
          split
          · rename_i hcl
            have h0 : args = [] → evA C S n args = fnil ∨ evA C S n args = fstuck := fun e => by
              subst e
              cases n with
              | zero => right; unfold evA; rfl
              | succ n => left; unfold evA; rfl
            exact de_methU (fun kd d g e => c.met hcl _ _ _ _ _ _ e) rfl c.tk c.gd (ih.e _ c) (ih.a _ c h1) (ih.k _ c) h1 hk h0 (ih.al _) (by rw [kw_len hk]; exact ih.kl _) h2 h3 h4'
          · exact de_stuck
        · exact de_stuck
    · exact de_stuck
  · refine ih.l _ _ _ ?_
    split
    · rename_i h
      simp only [Bool.and_eq_true] at h
      split
      · rename_i ct hc
        split
        · rename_i hv
          exact lc_ok ih c h.1.2 h.2 hc hv h.1.1 fun X' W' c' => dts_nil
        · exact de_stuck
      · rename_i ct t hc
        split
        · rename_i hv
          exact lc_ok ih c h.1.2 h.2 hc hv h.1.1 fun X' W' c' => pts_one (ih.t _ c')
        · exact de_stuck
      · exact de_stuck
    · exact de_stuck
  · refine ih.l _ _ _ ?_
    split
    · rename_i h
      simp only [Bool.and_eq_true] at h
      split
      · rename_i ct hc
        split
        · rename_i hv
          exact dc_ok ih c h.1.2 h.2 hc hv h.1.1 fun X' W' c' => dts_nil
        · exact de_stuck
      · rename_i ct t hc
        split
        · rename_i hv
          exact dc_ok ih c h.1.2 h.2 hc hv h.1.1 fun X' W' c' => pts_one (ih.t _ c')
        · exact de_stuck
      · exact de_stuck
    · exact de_stuck
  · exact de_stuck
theorem ev_all : ∀ n (C : EC), EvOk C n
  | 0, C => ev0 C
  | n + 1, C => have ih := ev_all n C; ⟨ev_e ih (ev_all n C.low), ev_b ih, ev_t ih, ev_w ih, ev_a ih, ev_al ih, ev_k ih, ev_kl ih, ev_p ih, ev_ps ih, ev_i ih, ev_s ih, ev_l C _ n⟩
theorem ev_ok (C : EC) (n : Nat) : EvOk C n := ev_all n C
end
end DL
end
section
/-! DL19: the evaluator of targets is right; stores at once. -/
namespace DL
open PySem PySem.Spec PyProof.Rows L2
section
variable {C : EC} {S : SC} {X : Cx} {W : WG} {n : Nat}
theorem evG_ok (C : EC) : ∀ n, (∀ {S : SC} {X : Cx} {W : WG} (e : Expr), CtxOk C S X W → DG X W e (evG C S n e)) ∧ (∀ {S : SC} {X : Cx} {W : WG} (es : List Expr), CtxOk C S X W → starless es = true → DGs X W es (evGs C S n es))
  | 0 => ⟨fun e c => by unfold evG; exact dg_none, fun es c _ => by unfold evGs; exact dgs_none⟩
  | n + 1 => by
    obtain ⟨h1, h2⟩ := evG_ok C n
    refine ⟨fun {S} {X} {W} e c => ?_, fun {S} {X} {W} es c hs => ?_⟩
    · unfold evG
      split
      · split
        · rename_i i h
          obtain ⟨w1, w2, w3, w4⟩ := slotW_ok c h
          exact dg_name (by rw [c.N]; exact c.nd) w1 w2 w3 w4
        · exact dg_none
      · split
        · rename_i h
          rw [Bool.and_eq_true] at h
          exact dg_tup (c.calm h.1).1 (h2 _ c h.2) h.2
        · split
          · rename_i hc
            split
            · rename_i fs a b hu
              obtain ⟨u1, u2, u3, u4⟩ := unstar_ok (env := X.env) hu
              exact dg_tupS (c.calm hc).1 (pgs_unstar u2 (h2 _ c u1)) u3 u4
            · exact dg_none
          · exact dg_none
      · rename_i a b p
        split
        · rename_i h
          refine dg_sub (W := W) (by have := c.un; omega) ((ev_ok C n).e _ c) ((ev_ok C n).e _ c) fun v => ?_
          cases b <;> first | rfl | cases h
        · exact dg_none
      · exact dg_attr (fun d i h => c.fld d _ i h) ((ev_ok C n).e _ c)
      · exact dg_none
    · unfold evGs
      split
      · exact dgs_nil
      · exact dgs_cons (h1 _ c) (h2 _ c (starless_cons hs).2) (starless_cons hs).1
/-- how two or three plain names are stored, as the machine reckons it -/
theorem blk_fn (c : CtxOk C S X W) : X.env.blockKind = .function := by
  unfold Env.blockKind
  rw [c.sc, c.kind]
  rfl
theorem swp_ok (c : CtxOk C S X W) {ts vs : List Expr} {k k' : Nat} {p p' : Pos} {r : Option (List Str)} (h : swp ts vs S.sc = some r) : swappedStores [.Tuple ts k p] (.Tuple vs k' p') X.env = pure r := by
  have hb := blk_fn c
  have hk : ∀ id : Str, X.env.kindOf id = S.sc.names.lookup id := fun id => by show X.env.scope.names.lookup id = _; rw [c.sc]
  have hbb : (X.env.blockKind != ScopeKind.function) = false := by rw [hb]; rfl
  unfold swp at h
  unfold swappedStores
  simp only [hbb, hk, Bool.or_false]
  split at h
  · rename_i h1
    cases h
    rw [if_pos h1]
  · rename_i h1
    rw [if_neg h1]
    split at h
    · rename_i h2
      cases h
      rw [if_pos]
      exact h2
    · rename_i h2
      rw [if_neg (by exact h2)]
      dsimp only at h
      generalize hn : (List.filterMap _ ts) = names at h
      split at h
      · rename_i h3
        cases h
        rw [if_pos h3]
      · rename_i h3
        rw [if_neg h3]
        split at h
        · rename_i h4
          cases h
          rw [if_pos h4]
        · rename_i h4
          rw [if_neg h4]
          split at h
          · cases h
          · rename_i h5
            cases h
            rw [if_neg h5]
end
end DL
end
section
/-! DL20: names stored at once. -/
namespace DL
open PySem PySem.Spec PyProof.Rows L2
def FS.le (f g : FS) : Prop := ∀ env st, f env st = .stuck ∨ f env st = g env st
theorem lS_le {K : PySem.W.Frag} {W : WG} {f g : FS} (h : FS.le f g) (Dn : Ends) (σ : L2.St) (H : Hp) (q : lS K W f Dn σ H) : lS K W g Dn σ H := by
  obtain ⟨ρ, env, st, gd, o⟩ := q
  refine ⟨ρ, env, st, gd, ?_⟩
  rcases h env st with e | e
  · rw [e] at o; exact o.elim
  · rw [← e]; exact o
section
variable {C : EC} {S : SC} {X : Cx} {W : WG} {n : Nat}
theorem evGs_names : ∀ (n : Nat) (l : List (Str × Pos)) (is : List Nat) (ds : List D) (env : Env') (st : Store), l.map (fun x => slotW S x.1) = is.map some →
    evGs C S n (l.map fun x => .Name x.1 x.2) ds env st = none ∨ ∃ env', setAll is ds env = some env' ∧ evGs C S n (l.map fun x => .Name x.1 x.2) ds env st = some (env', st)
  | 0, _, _, _, _, _, _ => .inl (by unfold evGs; rfl)
  | n + 1, [], is, ds, env, st, h => by
    cases is with
    | cons _ _ => cases h
    | nil =>
      unfold evGs
      cases ds with
      | nil => exact .inr ⟨env, rfl, rfl⟩
      | cons _ _ => exact .inl rfl
  | n + 1, x :: l, is, ds, env, st, h => by
    cases is with
    | nil => cases h
    | cons i is =>
      simp only [List.map_cons, List.cons.injEq] at h
      show evGs C S (n + 1) (.Name x.1 x.2 :: l.map fun x => .Name x.1 x.2) ds env st = none ∨ _
      unfold evGs
      cases ds with
      | nil => exact .inl rfl
      | cons d ds =>
        cases n with
        | zero =>
          left
          show gcons (evG C S 0 _) _ (d :: ds) env st = none
          unfold evG
          rfl
        | succ m =>
          have e1 : evG C S (m + 1) (.Name x.1 x.2) = gname i := by
            unfold evG
            simp only [h.1]
          have := evGs_names (m + 1) l is ds (env.set i (some d)) st h.2
          rcases this with q | ⟨env', q1, q2⟩
          · left
            show gcons (evG C S (m + 1) _) _ (d :: ds) env st = none
            rw [e1]
            exact q
          · right
            refine ⟨env', q1, ?_⟩
            show gcons (evG C S (m + 1) _) _ (d :: ds) env st = _
            rw [e1]
            exact q2
/-- stores of names, as one does them: one after the other -/
theorem fasg_names (hcl : S.calm = true) (l : List (Str × Pos)) (is : List Nat) (vs : List Expr) (k k' : Nat) (p p' : Pos) (h : l.map (fun x => slotW S x.1) = is.map some) (hst : starless vs = true) (env : Env') (st : Store) :
    fasg (ev C S n (.Tuple vs k' p')) (evG C S n (.Tuple (l.map fun x => .Name x.1 x.2) k p)) env st = .stuck ∨
    fasg (ev C S n (.Tuple vs k' p')) (evG C S n (.Tuple (l.map fun x => .Name x.1 x.2) k p)) env st = (evA C S (n - 1) vs env st).toS env fun ds st1 => match setAll is ds env with
      | some env' => .nx env' st1
      | none => .stuck := by
  cases n with
  | zero => left; unfold ev; rfl
  | succ m =>
    rw [Nat.add_sub_cancel]
    unfold ev
    · simp only [hst, if_true]
      unfold fasg ftup
      cases hv : evA C S m vs env st with
      | stuck => left; rfl
      | exc x st1 => right; rfl
      | ok ds st1 =>
        simp only [Res.bind]
        by_cases hl : ds.length ≤ 16777216
        · rw [if_pos hl]
          show Opt.toS (evG C S (m + 1) (.Tuple (l.map fun x => .Name x.1 x.2) k p) (.tup ds) env st1) = .stuck ∨ Opt.toS (evG C S (m + 1) (.Tuple (l.map fun x => .Name x.1 x.2) k p) (.tup ds) env st1) = _
          unfold evG
          have hs2 : starless (l.map fun x => Expr.Name x.1 x.2) = true := by
            unfold starless
            rw [List.all_eq_true]
            intro e he
            rw [List.mem_map] at he
            obtain ⟨x, -, rfl⟩ := he
            rfl
          simp only [hcl, hs2, Bool.and_self, if_true]
          unfold gtup
          simp only
          split
          · rcases evGs_names m l is ds env st1 h with q | ⟨env', q1, q2⟩
            · left; rw [q]; rfl
            · right; rw [q2]; simp only [Res.toS, q1]; rfl
          · left; rfl
        · rw [if_neg hl]; left; rfl
theorem eraseDups2 {x y : Str} (h : [x, y].eraseDups.length = 2) : x ≠ y := by
  rintro rfl
  simp [List.eraseDups_cons] at h
theorem eraseDups3 {x y z : Str} (h : [x, y, z].eraseDups.length = 3) : x ≠ y ∧ x ≠ z ∧ y ≠ z := by
  refine ⟨?_, ?_, ?_⟩ <;> rintro rfl
  · by_cases hz : z = x
    · subst hz; simp [List.eraseDups_cons] at h
    · simp [List.eraseDups_cons, hz] at h
  · by_cases hz : y = x
    · subst hz; simp [List.eraseDups_cons] at h
    · simp [List.eraseDups_cons, hz] at h
  · by_cases hz : y = x
    · subst hz; simp [List.eraseDups_cons] at h
    · simp [List.eraseDups_cons, hz] at h
def isName : Expr → Bool
  | .Name _ _ => true
  | _ => false
theorem isName_ok {e : Expr} (h : isName e = true) : ∃ x p, e = .Name x p := by
  cases e <;> first | exact ⟨_, _, rfl⟩ | cases h
theorem ix_inj (c : CtxOk C S X W) {x y : Str} {i j : Nat} (h1 : X.N[i]? = some x) (h2 : X.N[j]? = some y) (h : x ≠ y) : i ≠ j := by
  rintro rfl
  rw [h1] at h2
  cases h2
  exact h rfl
theorem fm_all {α β : Type} {f : α → Option β} : ∀ {l : List α}, (l.filterMap f).length = l.length → l.map f = (l.filterMap f).map some
  | [], _ => rfl
  | a :: l, h => by
    rw [List.filterMap_cons] at h ⊢
    cases e : f a with
    | none =>
      rw [e] at h
      have := List.length_filterMap_le f l
      simp only [List.length_cons] at h
      omega
    | some b =>
      rw [e] at h
      simp only [List.length_cons, Nat.add_right_cancel_iff] at h
      simp only [List.map_cons, e, fm_all h]
theorem swp_some {ts vs : List Expr} {names : List Str} (h : swp ts vs S.sc = some (some names)) : (ts.length = 2 ∨ ts.length = 3) ∧ vs.length = ts.length ∧ names.eraseDups.length = ts.length ∧
    ∃ line : Nat, ts.map (fun e => match e with
    | .Name id pos => if S.sc.names.lookup id == some .local && pos.line == line then some id else none
    | _ => none) = names.map some := by
  unfold swp at h
  split at h
  · cases h
  · rename_i h1
    split at h
    · cases h
    · dsimp only at h
      generalize (Option.map (fun x => x.pos.line) ts.head?).getD 0 = line at h
      split at h
      · cases h
      · rename_i h3
        split at h
        · cases h
        · split at h
          · cases h
          · cases h
            simp only [Bool.or_eq_true, Bool.not_eq_true', bne_iff_ne, ne_eq, not_or, Bool.not_eq_false, beq_iff_eq, Decidable.not_not] at h1 h3
            exact ⟨h1.1, h1.2, h3.2.trans h3.1, line, fm_all h3.1⟩
theorem slotW_local {x : Str} (ho : S.owned x = false) (h : S.sc.names.lookup x = some .local) {i : Nat} (hi : ixN' S.N x = some i) : slotW S x = some i := by
  unfold slotW
  rw [h]
  simp [isLoc, hi, ho]
theorem swp_local {x y : Str} {p : Pos} {line : Nat} (h : (if S.sc.names.lookup x == some .local && p.line == line then some x else none) = some y) : x = y ∧ S.sc.names.lookup x = some .local := by
  split at h
  · rename_i q
    cases h
    simp only [Bool.and_eq_true, beq_iff_eq] at q
    exact ⟨rfl, q.1⟩
  · cases h
def slotsIn (S : SC) (ts : List Expr) : Bool := ts.all fun | .Name x _ => (ixN' S.N x).isSome && !S.owned x | _ => false
theorem slotsIn_ok {e : Expr} {es : List Expr} (h : slotsIn S (e :: es) = true) : (∃ x p i, e = .Name x p ∧ ixN' S.N x = some i ∧ S.owned x = false) ∧ slotsIn S es = true := by
  unfold slotsIn at h ⊢
  rw [List.all_cons, Bool.and_eq_true] at h
  refine ⟨?_, h.2⟩
  have h1 := h.1
  split at h1
  · rename_i x p
    rw [Bool.and_eq_true, Bool.not_eq_true'] at h1
    obtain ⟨i, hi⟩ := Option.isSome_iff_exists.mp h1.1
    exact ⟨x, p, i, rfl, hi, h1.2⟩
  · cases h1
theorem ds_swap (ih : ∀ m, EvOk C m) (c : CtxOk C S X W) (hcl : S.calm = true) {ts vs : List Expr} {k k' : Nat} {p p' pos : Pos} {names : List Str} (h : swp ts vs S.sc = some (some names)) (hn : slotsIn S ts = true) (hst : starless vs = true) :
    DS X W (.Assign [.Tuple ts k p] (.Tuple vs k' p') pos) (fasg (ev C S n (.Tuple vs k' p')) (evG C S n (.Tuple ts k p))) := by
  have hw := swp_ok c (k := k) (k' := k') (p := p) (p' := p') h
  obtain ⟨hl, hv, h2, line, h3⟩ := swp_some h
  have hN : X.N.Nodup := by rw [c.N]; exact c.nd
  rcases hl with hl | hl
  · match ts, vs, hl, hv with
    | [t1, t2], [a, b], _, _ =>
      obtain ⟨⟨x, px, i, e1, hi, ox⟩, hn1⟩ := slotsIn_ok hn
      obtain ⟨⟨y, py, j, e2, hj, oy⟩, -⟩ := slotsIn_ok hn1
      subst e1; subst e2
      have hlen : names.length = 2 := by have := congrArg List.length h3; simpa using this.symm
      match names, hlen, h3 with
      | [x', y'], _, h3 =>
        simp only [List.map_cons, List.map_nil, List.cons.injEq, and_true] at h3
        obtain ⟨rfl, hx⟩ := swp_local h3.1
        obtain ⟨rfl, hy⟩ := swp_local h3.2
        have hxy := eraseDups2 h2
        have i1 : X.N[i]? = some x := by rw [c.N]; exact ixN'_ok hi
        have j1 : X.N[j]? = some y := by rw [c.N]; exact ixN'_ok hj
        refine PS.imp (ds_par (fs := evA C S (n - 1) [a, b]) (c.calm hcl).1 hN i1 j1 (ix_inj c i1 j1 hxy) (by rw [c.sc]; exact hx) (by rw [c.sc]; exact hy) ((ih (n - 1)).a _ c hst) (c.fr _ _ ox i1) (c.fr _ _ oy j1) hw) (lS_le fun env st => ?_)
        rcases fasg_names (n := n) (C := C) (S := S) hcl [(x, px), (y, py)] [i, j] [a, b] k k' p p' (by simp [slotW_local ox hx hi, slotW_local oy hy hj]) hst env st with q | q
        · exact .inl q
        · right
          refine Eq.trans q ?_
          unfold fpar
          congr 1
          funext ds st1
          rcases ds with _ | ⟨d, _ | ⟨e, _ | ⟨f, ds⟩⟩⟩ <;> rfl
  · match ts, vs, hl, hv with
    | [t1, t2, t3], [a, b, d], _, _ =>
      obtain ⟨⟨x, px, i, e1, hi, ox⟩, hn1⟩ := slotsIn_ok hn
      obtain ⟨⟨y, py, j, e2, hj, oy⟩, hn2⟩ := slotsIn_ok hn1
      obtain ⟨⟨z, pz, l, e3, hl, oz⟩, -⟩ := slotsIn_ok hn2
      subst e1; subst e2; subst e3
      have hlen : names.length = 3 := by have := congrArg List.length h3; simpa using this.symm
      match names, hlen, h3 with
      | [x', y', z'], _, h3 =>
        simp only [List.map_cons, List.map_nil, List.cons.injEq, and_true] at h3
        obtain ⟨rfl, hx⟩ := swp_local h3.1
        obtain ⟨rfl, hy⟩ := swp_local h3.2.1
        obtain ⟨rfl, hz⟩ := swp_local h3.2.2
        obtain ⟨hxy, hxz, hyz⟩ := eraseDups3 h2
        have i1 : X.N[i]? = some x := by rw [c.N]; exact ixN'_ok hi
        have j1 : X.N[j]? = some y := by rw [c.N]; exact ixN'_ok hj
        have l1 : X.N[l]? = some z := by rw [c.N]; exact ixN'_ok hl
        refine PS.imp (ds_par3 (fs := evA C S (n - 1) [a, b, d]) (c.calm hcl).1 hN i1 j1 l1 (ix_inj c i1 j1 hxy) (ix_inj c i1 l1 hxz) (ix_inj c j1 l1 hyz) (by rw [c.sc]; exact hx) (by rw [c.sc]; exact hy) (by rw [c.sc]; exact hz) ((ih (n - 1)).a _ c hst) (c.fr _ _ ox i1) (c.fr _ _ oy j1) (c.fr _ _ oz l1) hw) (lS_le fun env st => ?_)
        rcases fasg_names (n := n) (C := C) (S := S) hcl [(x, px), (y, py), (z, pz)] [i, j, l] [a, b, d] k k' p p' (by simp [slotW_local ox hx hi, slotW_local oy hy hj, slotW_local oz hz hl]) hst env st with q | q
        · exact .inl q
        · right
          refine Eq.trans q ?_
          unfold fpar3
          congr 1
          funext ds st1
          rcases ds with _ | ⟨d, _ | ⟨e, _ | ⟨f, _ | ⟨g, ds⟩⟩⟩⟩ <;> rfl
end
end DL
end
section
/-! DL21: the evaluator of statements, and that it is right. -/
namespace DL
open PySem PySem.Spec PyProof.Rows L2
def isSeqE : Expr → Bool
  | .Tuple _ _ _ => true
  | .List _ _ => true
  | _ => false
def lcSwap (S : SC) (x : Str) (py pc : Pos) (scope : Scope) : Bool := (S.sc.names.lookup x == some .local) && (py.line == pc.line) && !(scope.names.any fun (n, k) => n == x && (k == .local || k == .cell))
/-- how values are stored -/
def asgOk (S : SC) (tg e : Expr) : Bool := !PySem.W.isStarred tg && (match e with
  | .Tuple vs _ _ => (match tg with
    | .Tuple ts _ _ => (match swp ts vs S.sc with
      | some none => true
      | some (some _) => S.calm && slotsIn S ts && starless vs
      | none => false)
    | tg => !isSeqE tg)
  | .ListComp _ gs _ _ => S.calm && noItG gs && (match tg with
    | .Name x _ => (slotW S x).isSome
    | _ => true)
  | e => noComp e)
mutual
def exS (C : EC) (S : SC) : Nat → Stmt → FS
  | 0, _ => sstuck
  | n + 1, s => match s with
    | .Pass _ => fskip
    | .Break _ => fun env st => .bk env st
    | .Continue _ => fun env st => .ct env st
    | .Return none _ => fun _ st => .rt .non st
    | .Return (some e) _ => fret (ev C S n e)
    | .Expr e _ => if noComp e then fdrop (ev C S n e) else sstuck
    | .If c a b _ => fifS (evT C S n c) (exSs C S n a) (exSs C S n b)
    | .Assign [tg] e _ => if asgOk S tg e then fasg (ev C S n e) (evG C S n tg) else sstuck
    | .AugAssign (.Name x _) op e _ => match slotW S x with | some i => faug i op (ev C S n e) | none => sstuck
    | .AugAssign (.Subscript a b _) op e _ => if PlainB b then faugS op (ev C S n a) (ev C S n b) (ev C S n e) else sstuck
    | .For tg iter body [] _ => if S.calm && noSet iter then ffor (evI C S n (isTupE tg) iter) (evG C S n tg) (exSs C S n body) else sstuck
    | .While c body [] _ => whileL (evT C S n c) (exSs C S n body) 100000
    | .Match e cs _ => fmatch (ev C S n e) (exC C S n cs)
    | .Raise (some (.Call (.Name x _) args [] _)) none _ => if S.calm && starless args && !args.isEmpty then (match glob C S x, C.exf x with
      | some .obj, some fl => fraise x fl (evA C S n args)
      | _, _ => sstuck) else sstuck
    | .Try body [.ExceptHandler (some (.Name c _)) (some nm) (b0 :: suite) _] [] [] _ => if S.calm && decide (S.sc.names.lookup nm = some .local) && !S.owned nm then (match glob C S c, ixN' S.N nm with
      | some .obj, some i => ftryAs (fun x => if (C.exf x).isSome then C.sub x c else none) i (exSs C S.try_ n body) (fun x => exSs C (S.suite nm x) n (b0 :: suite))
      | _, _ => sstuck) else sstuck
    | .Try body [.ExceptHandler (some (.Name c _)) none (b0 :: suite) _] [] [] _ => if S.calm then (match glob C S c with
      | some .obj => ftry1 (fun x => C.sub x c) (exSs C S.try_ n body) (exSs C S.suite0 n (b0 :: suite))
      | _ => sstuck) else sstuck
    | _ => sstuck
def exSs (C : EC) (S : SC) : Nat → List Stmt → FS
  | 0, _ => sstuck
  | n + 1, ss => match ss with
    | [] => fskip
    | s :: r => fseq (exS C S n s) (exSs C S n r)
def exC (C : EC) (S : SC) : Nat → List MatchCase → D → FS
  | 0, _ => fun _ => sstuck
  | n + 1, cs => match cs with
    | [] => fun _ => fskip
    | ⟨p, none, body⟩ :: r => fcase p (exSs C S n body) (exC C S n r)
    | _ => fun _ => sstuck
end
theorem sw_none1 {tg e : Expr} {env : PySem.Env} (h : isTupE e = false) : swappedStores [tg] e env = pure none := by
  cases e <;> first | (cases h; done) | (cases tg <;> rfl)
theorem sw_none2 {tg e : Expr} {env : PySem.Env} (h : isSeqE tg = false) : swappedStores [tg] e env = pure none := by
  cases tg <;> first | (cases h; done) | (cases e <;> rfl)
section
variable {C : EC} {S : SC} {X : Cx} {W : WG} {n : Nat}
theorem ds_stuckF {s : Stmt} {f : FS} (h : ∀ env st, f env st = .stuck) : DS X W s f := ⟨fun _ _ _ _ _ _ ⟨_, env, st, _, o⟩ => by rw [h env st] at o; exact o.elim⟩
theorem sw_lc (c : CtxOk C S X W) {elt : Expr} {gs : List Comprehension} {scope : Scope} {pc : Pos} {tg : Expr} {l : Nat} (h : ∀ x py, tg = .Name x py → lcSwap S x py pc scope = false) : swapsWithSole [tg] (.ListComp elt gs scope pc) l X.env = pure false := by
  show swapsWith (.ListComp elt gs scope pc) (some tg) l X.env = pure false
  cases tg with
  | Name x py =>
    have h1 := h x py rfl
    have hb := blk_fn c
    have hk : X.env.kindOf x = S.sc.names.lookup x := by show X.env.scope.names.lookup x = _; rw [c.sc]
    unfold swapsWith
    simp only [hb, hk]
    refine congrArg pure ?_
    unfold lcSwap at h1
    simp only [Expr.pos]
    rw [show (ScopeKind.function == ScopeKind.function) = true from rfl, Bool.true_and]
    exact h1
  | _ => rfl
/-- name = [..] on one line -/
theorem ds_lcset (c : CtxOk C S X W) (hcl : S.calm = true) {elt : Expr} {gs : List Comprehension} {scope : Scope} {pc py pos : Pos} {x : Str} (hs : (slotW S x).isSome = true) (hni : noItG gs = true) (h : lcSwap S x py pc scope = true) :
    DS X W (.Assign [.Name x py] (.ListComp elt gs scope pc) pos) (fasg (ev C S n (.ListComp elt gs scope pc)) (evG C S n (.Name x py))) := by
  obtain ⟨i, hi⟩ := Option.isSome_iff_exists.mp hs
  cases n with
  | zero => exact ds_stuckF fun env st => by unfold ev; rfl
  | succ m =>
    have e1 : evG C S (m + 1) (.Name x py) = gname i := by unfold evG; simp only [hi]
    rw [e1]
    obtain ⟨w1, w2, w3, w4⟩ := slotW_ok c hi
    unfold lcSwap at h
    simp only [Bool.and_eq_true, Bool.not_eq_true', beq_iff_eq] at h
    have hN : X.N.Nodup := by rw [c.N]; exact c.nd
    have hloc : X.env.scope.names.lookup x = some .local := by rw [c.sc]; exact h.1.1
    have hsw : swapsWith (.ListComp elt gs scope pc) (some (.Name x py)) pos.line X.env = pure true := sw_true (by rw [c.sc]; exact c.kind) hloc (by simpa using h.1.2) h.2
    have key : ∀ (tg iter : Expr) (ifs : List Expr) (ct : CT) (tt : FF Bool), gs = [⟨tg, iter, ifs, 0⟩] → noSet iter = true → blkC S.N S.sc scope (ownOf S.N scope.names) = true → ctOf (S.blk scope) tg = some ct →
        (ct.vars.all fun i => decide (i ∈ (ownOf S.N scope.names).map (·.2))) = true → (∀ X' (W' : WG), CtxOk C (S.blk scope) X' W' → PTs X' ifs (lT X'.K W' tt)) →
        DS X W (.Assign [.Name x py] (.ListComp elt gs scope pc) pos) (fasg (flc (C.mu pc) (evI C S m (isTupE tg) iter) ct tt (ev C (S.blk scope) m elt) ((ownOf S.N scope.names).map (·.2))) (gname i)) := by
      intro tg iter ifs ct tt hgs hs hb hct hv ht
      subst hgs
      have hk := blk_kind hb
      refine ds_setLc (C.mu pc) (c.calm hcl).1 hN w1 hloc hsw ((ev_ok C m).i _ _ c) (by rw [c.N, c.sc]; exact blkOk_by hb) (fun s H A cl fp => ctOf_ok (c.blk hcl hk s H A cl fp) (c.calm hcl).1 hct) (fun s H A cl fp => ht _ _ (c.blk hcl hk s H A cl fp)) (fun s H A cl fp => (ev_ok C m).e _ (c.blk hcl hk s H A cl fp)) hs ?_ w4
      rw [List.all_eq_true] at hv
      exact fun i hi => by simpa using hv i hi
    have stk : ∀ g, DS X W (.Assign [.Name x py] (.ListComp elt gs scope pc) pos) (fasg fstuck g) := fun g => ds_stuckF fun env st => rfl
    unfold ev
    split <;> try exact stk _
    all_goals first | (rename_i q; cases q; done) | skip
    rename_i q
    cases q
    rcases evLk_no hni m with q | q
    rotate_left
    · rw [q]; exact stk _
    rw [q]
    split
    · rename_i h'
      simp only [Bool.and_eq_true] at h'
      split
      · rename_i ct hc
        split
        · rename_i hv
          exact key _ _ _ ct ftrue rfl h'.1.2 h'.2 hc hv fun X' W' c' => dts_nil
        · exact stk _
      · rename_i ct t hc
        split
        · rename_i hv
          exact key _ _ _ ct _ rfl h'.1.2 h'.2 hc hv fun X' W' c' => pts_one ((ev_ok C m).t _ c')
        · exact stk _
      · exact stk _
    · exact stk _
end
end DL
end
section
/-! DL22: the evaluator of statements is right; a def by its text. -/
namespace DL
open PySem PySem.Spec PyProof.Rows L2
section
variable {C : EC} {S : SC} {X : Cx} {W : WG} {n : Nat}
theorem isTup_no {e : Expr} (h : ∀ vs k p, e ≠ .Tuple vs k p) : isTupE e = false := by
  cases e <;> first | rfl | exact absurd rfl (h _ _ _)
theorem ds_asgOk (c : CtxOk C S X W) {tg e : Expr} {pos : Pos} (h : asgOk S tg e = true) : DS X W (.Assign [tg] e pos) (fasg (ev C S n e) (evG C S n tg)) := by
  unfold asgOk at h
  rw [Bool.and_eq_true, Bool.not_eq_true'] at h
  obtain ⟨h1, h⟩ := h
  have he := (ev_ok C n).e e c
  have hg := (evG_ok C n).1 tg c
  split at h
  · split at h
    · split at h
      · rename_i hs
        exact ds_asg he hg rfl (swp_ok c hs) h1
      · rename_i hs
        simp only [Bool.and_eq_true] at h
        exact ds_swap (ev_ok C) c h.1.1 hs h.1.2 h.2
      · cases h
    · rw [Bool.not_eq_true'] at h
      exact ds_asg he hg rfl (sw_none2 h) h1
  · rename_i elt gs scope pc
    simp only [Bool.and_eq_true] at h
    obtain ⟨⟨hcl, hni⟩, h⟩ := h
    by_cases hx : ∃ x py, tg = .Name x py ∧ lcSwap S x py pc scope = true
    · obtain ⟨x, py, rfl, hl⟩ := hx
      exact ds_lcset c hcl h hni hl
    · refine ds_asg he hg (sw_lc c fun x py e => ?_) (sw_none1 rfl) h1
      cases hl : lcSwap S x py pc scope with
      | false => rfl
      | true => exact absurd ⟨x, py, e, hl⟩ hx
  · rename_i e' hn _
    exact ds_asg he hg (swaps_no h) (sw_none1 (isTup_no fun vs k p q => by first | exact hn _ _ _ q | (subst q; exact hn _ _ _ rfl))) h1
/-- a def's own frame -/
structure StOk (X : Cx) : Prop where
  stk : X.stack = X.env :: X.outer
  fr : X.env.frame = some X.env.locals
theorem CtxOk.tr_ (c : CtxOk C S X W) (hcl : S.calm = true) {pn : List (Addr × Obj)} {xe : Value → Shared → Prop} {W' : WG} (h1 : W'.g = none) (h2 : W'.T = W.T) (h3 : W'.l = W.l) (tk : Takes (X.tr pn xe) W'.w) (own : PassesOwn (model X.prog X.w) X.A X.env xe) : CtxOk C S.try_ (X.tr pn xe) W' where
  N := c.N
  nd := c.nd
  sc := c.sc
  kind := c.kind
  fn := c.fn
  calm := fun _ => ⟨(c.calm hcl).1, h1, (c.calm hcl).2.2⟩
  gd := c.gd
  un := c.un
  tk := tk
  own := own
  glob := c.glob
  cal := fun _ x n ks g e => by rw [h2]; exact c.cal hcl x n ks g e
  calv := fun _ x g e => by rw [h2]; exact c.calv hcl x g e
  met := fun _ kd d m n ks g e => by rw [h2]; exact c.met hcl kd d m n ks g e
  mak := fun _ x n ks g e => by rw [h2]; exact c.mak hcl x n ks g e
  fld := c.fld
  subT := c.subT
  exs := c.exs
  sub := c.sub
  lamc := fun e => by cases e
  gen := fun e => by cases e
  ex := fun n x e => by
    obtain ⟨i, a, dd, C', oe, pn', X0, _, hg, _⟩ := (c.ex n x e).ex
    rw [(c.calm hcl).2.1] at hg
    cases hg
  fr := fun x i ho hN => ⟨fun y e => (by rw [h1] at e; cases e), fun l e => (c.fr x i ho hN).2 l (by rw [← h3]; exact e)⟩
  lam := fun a h e => c.lat a h e pn xe W' h1 h2 h3 tk
  lat := fun a h e pn' xe' W'' g1 g2 g3 tk' => c.lat a h e pn' xe' W'' g1 (g2.trans h2) (g3.trans h3) tk'
theorem CtxOk.suite_ (c : CtxOk C S X W) (hcl : S.calm = true) {n : Str} {x : XD} {i : Nat} {a dd Ca : Addr} {oe : Obj} {pn : List (Addr × Obj)} (hi : X.N[i]? = some n) (hn : S.sc.names.lookup n = some .local) (hz : Zc (.ref Ca) (some dd) oe) (hf : ∃ vs, oe.data = .fields vs) (hg : GlbAt X.K x.cls Ca) :
    CtxOk C (S.suite n x) (X.suite a ((a, oe) :: pn)) ⟨fun _ _ _ _ => False, some ⟨i, a, dd, x.fs⟩, W.T, W.l⟩ where
  N := c.N
  nd := c.nd
  sc := c.sc
  kind := c.kind
  fn := c.fn
  calm := fun e => by cases e
  gd := c.gd
  un := c.un
  tk := takes_nf
  own := .never
  glob := c.glob
  cal := fun e => by cases e
  calv := fun e => by cases e
  met := fun e => by cases e
  mak := fun e => by cases e
  fld := c.fld
  subT := c.subT
  exs := c.exs
  sub := c.sub
  lamc := fun e => by cases e
  gen := fun e => by cases e
  ex := fun m y e => by
    cases e
    exact ⟨i, a, dd, Ca, oe, pn, X, rfl, rfl, hi, hz, hf, hg, .inl (by show X.env.scope.names.lookup n = _; rw [c.sc]; exact hn)⟩
  fr := fun y j ho hN => by
    have h1 : n ≠ y ∧ y ∉ S.prot := by
      unfold SC.owned SC.suite at ho
      simpa using ho
    have h2 : S.owned y = false := by
      unfold SC.owned
      cases he : S.ex with
      | none => simp [h1.2]
      | some p =>
        obtain ⟨i', a', dd', C', oe', pn', X0, _, hg', _⟩ := (c.ex p.1 p.2 he).ex
        rw [(c.calm hcl).2.1] at hg'
        cases hg'
    refine ⟨fun z e => ?_, (c.fr y j h2 hN).2⟩
    cases e
    intro hij
    subst hij
    have : X.N[i]? = some y := hN
    rw [hi] at this
    exact h1.1 (Option.some.inj this)
  lam := fun a h e => by cases e
  lat := fun a h e => by cases e
theorem CtxOk.suite0_ (c : CtxOk C S X W) (hcl : S.calm = true) {a : Addr} {oe : Obj} {pn : List (Addr × Obj)} : CtxOk C S.suite0 (X.suite a ((a, oe) :: pn)) ⟨fun _ _ _ _ => False, none, W.T, W.l⟩ where
  N := c.N
  nd := c.nd
  sc := c.sc
  kind := c.kind
  fn := c.fn
  calm := fun e => by cases e
  gd := c.gd
  un := c.un
  tk := takes_nf
  own := .never
  glob := c.glob
  cal := fun e => by cases e
  calv := fun e => by cases e
  met := fun e => by cases e
  mak := fun e => by cases e
  fld := c.fld
  subT := c.subT
  exs := c.exs
  sub := c.sub
  lamc := fun e => by cases e
  gen := fun e => by cases e
  ex := fun m y e => by
    obtain ⟨i', a', dd', C', oe', pn', X0, _, hg', _⟩ := (c.ex m y e).ex
    rw [(c.calm hcl).2.1] at hg'
    cases hg'
  fr := fun y j ho hN => ⟨fun z e => (by cases e), (c.fr y j ho hN).2⟩
  lam := fun a h e => by cases e
  lat := fun a h e => by cases e
theorem names_of (c : CtxOk C S X W) {x : Str} {f : Addr} (h : glob C S x = some .obj) (hm : X.mg x = some (.ref f)) : Names X x (.ref f) := by
  obtain ⟨h1, _, h5, _⟩ := glob_ok c h
  exact ⟨h1, h5, .inl hm⟩
theorem StOk.tr {pn : List (Addr × Obj)} {xe : Value → Shared → Prop} (s : StOk X) : StOk (X.tr pn xe) := ⟨s.stk, s.fr⟩
theorem StOk.suite {a : Addr} {pn : List (Addr × Obj)} (s : StOk X) : StOk (X.suite a pn) := ⟨s.stk, s.fr⟩
theorem exS_ok (C : EC) : ∀ n, (∀ {S : SC} {X : Cx} {W : WG} (s : Stmt), CtxOk C S X W → StOk X → DS X W s (exS C S n s)) ∧ (∀ {S : SC} {X : Cx} {W : WG} (ss : List Stmt), CtxOk C S X W → StOk X → DSs X W ss (exSs C S n ss)) ∧ (∀ {S : SC} {X : Cx} {W : WG} (cs : List MatchCase), CtxOk C S X W → StOk X → MC X W cs (exC C S n cs))
  | 0 => ⟨fun s c _ => by unfold exS; exact ds_stuck, fun ss c _ => by unfold exSs; exact dss_stuck, fun cs c _ => by
      unfold exC
      exact fun pins s σ H ρ env st d v v' first Dn I g r rv o => o.elim⟩
  | n + 1 => by
    obtain ⟨h1, h2, h3⟩ := exS_ok C n
    have he := ev_ok C n
    refine ⟨fun {S} {X} {W} s c so => ?_, fun {S} {X} {W} ss c so => ?_, fun {S} {X} {W} cs c so => ?_⟩
    · have hN : X.N.Nodup := by rw [c.N]; exact c.nd
      unfold exS
      split
      · exact ds_pass
      · exact ds_break
      · exact ds_continue
      · exact ds_retN
      · exact ds_ret (he.e _ c)
      · split
        · rename_i h; exact ds_expr (he.e _ c) h
        · exact ds_stuck
      · exact ds_if (he.t _ c) (h2 _ c so) (h2 _ c so)
      · split
        · rename_i h; exact ds_asgOk c h
        · exact ds_stuck
      · split
        · rename_i i h
          obtain ⟨w1, w2, w3, w4⟩ := slotW_ok c h
          exact ds_aug hN w1 w2 (he.e _ c) w3 w4
        · exact ds_stuck
      · rename_i a b p op e p2
        split
        · rename_i h
          refine ds_augS (by have := c.un; omega) (he.e _ c) (he.e _ c) (he.e _ c) ?_
          cases b <;> first | (intros; rfl) | cases h
        · exact ds_stuck
      · split
        · rename_i h
          rw [Bool.and_eq_true] at h
          exact ds_for c.own (c.calm h.1).1 (he.i _ _ c) ((evG_ok C n).1 _ c) (h2 _ c so) h.2
        · exact ds_stuck
      · exact ds_while _ c.own (he.t _ c) (h2 _ c so)
      · exact ds_match (he.e _ c) (h3 _ c so)
      · rename_i x px args pos pos2
        split
        · rename_i h
          simp only [Bool.and_eq_true, Bool.not_eq_true'] at h
          obtain ⟨⟨k1, k2⟩, k3⟩ := h
          split
          · rename_i fl hg hx
            obtain ⟨g1, -, g5, -⟩ := glob_ok c hg
            cases args with
            | nil => cases k3
            | cons e es => exact ds_raise (c.calm k1).1 c.tk (c.exs _ _ hx) (c.calm k1).2.2 g1 (he.a _ c k2) k2 g5
          · exact ds_stuck
        · exact ds_stuck
      · rename_i body cx np nm b0 suite pos' pos
        split
        · rename_i h
          simp only [Bool.and_eq_true, decide_eq_true_eq, Bool.not_eq_true'] at h
          obtain ⟨⟨k1, k2⟩, k3⟩ := h
          split
          · rename_i i hg hi
            obtain ⟨g1, ⟨D', g2, g3⟩, g5, g6⟩ := glob_ok c hg
            have hNi : X.N[i]? = some nm := by rw [c.N]; exact ixN'_ok hi
            have hli := (c.fr nm i k3 hNi).2
            refine ds_tryAs (D := D') so.stk so.fr hN hNi (by show X.env.scope.names.lookup nm = _; rw [c.sc]; exact k2) (names_of c hg g2) c.tk (c.calm k1).2.1 hli (fun W' pn xe w1 w2 w3 tk own => h2 _ (c.tr_ k1 w1 w2 w3 tk own) so.tr)
              (fun x a dd Ca oe pn hz hf hgl _ => h2 _ (c.suite_ k1 hNi k2 hz hf hgl) so.suite) (fun x b Ca hs hgl => ?_)
            split at hs
            · exact (c.sub _ _ _ hs Ca D' hgl g3).2
            · cases hs
          · exact ds_stuck
        · exact ds_stuck
      · rename_i body cx np b0 suite pos' pos
        split
        · rename_i k1
          split
          · rename_i hg
            obtain ⟨g1, ⟨D', g2, g3⟩, g5, g6⟩ := glob_ok c hg
            exact ds_try1 (D := D') so.stk so.fr (names_of c hg g2) c.tk (c.calm k1).2.1 (fun W' pn xe w1 w2 w3 tk own => h2 _ (c.tr_ k1 w1 w2 w3 tk own) so.tr) (fun a oe pn => h2 _ (c.suite0_ k1) so.suite) (fun x b Ca hs hgl => (c.sub _ _ _ hs Ca D' hgl g3).2)
          · exact ds_stuck
        · exact ds_stuck
      · exact ds_stuck
    · unfold exSs
      split
      · exact dss_nil
      · exact dss_cons (h1 _ c so) (h2 _ c so)
    · unfold exC
      split
      · exact mc_nil
      · exact mc_cons (by have := c.un; omega) (h2 _ c so) (h3 _ c so)
      · exact fun pins s σ H ρ env st d v v' first Dn I g r rv o => o.elim
end
end DL
end
section
/-! DL23: a def as a function of data; a table of defs. -/
namespace DL
open PySem PySem.Spec PyProof.Rows L2
/-- a def of the module: pure, nothing of its store is seen; lam, it makes lambdas -/
structure FE where
  N : List Str
  ps : List Str
  sc : Scope
  body : List Stmt
  pure : Bool
  lam : Bool
  /-- it makes generator expressions -/
  gen : Bool
  /-- defaults -/
  dfl : List D
  /-- the last parameter takes what is left over -/
  va : Bool
def startD (N : List Str) (ds : List D) : Env' := ds.map some ++ List.replicate (N.length - ds.length) none
def endX : RS → Res D
  | .rt d st => .ok d st
  | .nx _ st => .ok .non st
  | .exc x _ st => .exc x st
  | _ => .stuck
def FE.S (f : FE) : SC := ⟨f.N, f.sc, fun _ => true, true, none, none, none, f.lam, f.gen, []⟩
def runFE (C : EC) (n : Nat) (f : FE) : SemX := fun ds st => if ds.length = f.ps.length then endX (exSs C f.S n f.body (startD f.N ds) st) else .stuck
def semFE (C : EC) (n : Nat) (f : FE) : SemX := if f.pure then pureS (runFE C n f) else runFE C n f
/-- a def that gets a lambda as its one value -/
def lamFE (C : EC) (n : Nat) (f : FE) (h : Store → Res D) : FS := exSs C ⟨f.N, f.sc, fun _ => true, true, none, none, f.ps.head?.map fun a => (a, h), false, false, f.ps⟩ n f.body
/-- what a module's names stand for -/
def GOk2 (K : PySem.W.Frag) (mg : Str → Option Value) (x : Str) : GV → Prop
  | .val d => ∃ v u, mg x = some u ∧ RelV v u ∧ ∀ ρ H, RelD K ρ H d v
  | .blt id => mg x = none ∧ bootBuiltins x = some (.builtin id)
  | .typ T => mg x = none ∧ bootBuiltins x = some (.type T)
  | .obj => ∃ f, mg x = some (.ref f) ∧ GlbAt K x f
def ExOk2 (P : Program) (w : World) (K : PySem.W.Frag) (mg : Str → Option Value) (base : Heap) (x : Str) (flds : List Str) : Prop := ∃ (C fI : Addr) (fd : FuncData) (me : Str), mg x = some (.ref C) ∧ GlbAt K x C ∧ ExcA K C flds ∧ PySem.W.findIn K (.ref C) "__init__" = some (some (.ref fI)) ∧ PySem.W.typeIn K (.ref fI) = some (.type "function") ∧
  FnOk P w K mg base (L2.CX P w) 1 fI fd (me :: flds) (spInit C flds) ∧ L2.Binds K fd (me :: flds) []
def CalOk2 (P : Program) (w : World) (K : PySem.W.Frag) (mg : Str → Option Value) (base : Heap) (T : List (Addr × Str)) (k : Nat) (x : Str) (n : Nat) (ks : List Str) (g : SemX) : Prop :=
  ∃ (f : Addr), mg x = some (.ref f) ∧ GlbAt K x f ∧ PySem.W.keepIn K (.ref f) = true ∧ Prom P w K mg base T k f n ks g
/-- the defs of a text and what else its names are -/
structure Tab where
  T : List (Str × FE)
  sh : Str → Nat → List Str → Option (List Nat)
  G : Str → Option GV
  mu : Pos → Bool
  sub : Str → Str → Option Bool
  exf : Str → Option (List Str)
  lamT : List (Str × FE)
  fuel : Nat
  /-- methods: class and name; 0 a def, 1 a class method -/
  M : List ((Str × Str) × Nat × FE)
  shM : Str → Str → Nat → List Str → Option (List Nat)
  /-- classes that are called: how many slots -/
  cls : List (Str × Nat)
  fld : Str → Str → Option Nat
  subT : Str → String → Option Bool
/-- values, then the defaults -/
def withD (dfl ds : List D) : List D := match dfl with
  | [] => ds
  | d :: r => ds ++ (d :: r)
theorem withD_eq (dfl ds : List D) : withD dfl ds = ds ++ dfl := by
  cases dfl with
  | nil => exact (List.append_nil _).symm
  | cons d r => rfl
/-- the calls of a level from those of the level below -/
def Tab.calOf (t : Tab) (E : EC) : Str → Nat → List Str → Option SemX := fun x n ks => match t.T.lookup x, t.sh x n ks with
  | some fe, some perm => some fun ds st => if (pick perm (withD fe.dfl ds)).length = fe.ps.length then semFE E t.fuel fe (pick perm (withD fe.dfl ds)) st else .stuck
  | _, _ => none
/-- a def called with these values, the parameters in this order -/
def Tab.calF (t : Tab) (E : EC) (fe : FE) (perm : List Nat) : SemX := fun ds st => if (pick perm (withD fe.dfl ds)).length = fe.ps.length then semFE E t.fuel fe (pick perm (withD fe.dfl ds)) st else .stuck
/-- .. of methods -/
def Tab.metOf (t : Tab) (E : EC) : Nat → Str → Str → Nat → List Str → Option SemX := fun kd c m n ks => match t.M.lookup (c, m), t.shM c m n ks with
  | some (kd', fe), some perm => if kd = kd' ∧ kd < 2 then some (t.calF E fe perm) else none
  | _, _ => none
/-- .. of classes -/
def Tab.makOf (t : Tab) (E : EC) : Str → Nat → List Str → Option SemX := fun x n ks => match t.cls.lookup x, t.M.lookup (x, ("__init__" : Str)), t.shM x "__init__" n ks with
  | some ns, some (2, fe), some perm => some (mkD x ns (t.calF E fe perm))
  | _, _, _ => none
/-- .. of the defs that take any number of values -/
def Tab.calvOf (t : Tab) (E : EC) : Str → Option SemX := fun x => match t.T.lookup x with
  | some fe => if fe.va then some (vaS (fe.ps.length - 1) (semFE E t.fuel fe)) else none
  | none => none
def Tab.lamOf (t : Tab) (E : EC) : Str → Option ((Store → Res D) → Store → Res D) := fun x => match t.lamT.lookup x with
  | some fe => some fun h st => endL (lamFE E t.fuel fe h (List.replicate fe.N.length none) st)
  | none => none
def Tab.ec (t : Tab) : Nat → EC
  | 0 => ⟨t.G, fun _ _ _ => none, t.mu, t.sub, t.exf, fun _ => none, fun _ _ _ => none, fun _ => none, fun _ _ _ _ _ => none, fun _ _ _ => none, fun _ _ _ _ _ => none, fun _ _ _ => none, t.fld, t.subT⟩
  | 1 => ⟨t.G, t.calOf (t.ec 0), t.mu, t.sub, t.exf, fun _ => none, fun _ _ _ => none, t.calvOf (t.ec 0), t.metOf (t.ec 0), fun _ _ _ => none, fun _ _ _ _ _ => none, fun _ _ _ => none, t.fld, t.subT⟩
  | k + 2 => ⟨t.G, t.calOf (t.ec (k + 1)), t.mu, t.sub, t.exf, t.lamOf (t.ec (k + 1)), (t.ec k).cal, t.calvOf (t.ec (k + 1)), t.metOf (t.ec (k + 1)), t.makOf (t.ec k), (t.ec k).met, (t.ec k).mak, t.fld, t.subT⟩
/-- a def that gets a lambda, as it stands in the module -/
structure LamFn (K : PySem.W.Frag) (mg : Str → Option Value) (x : Str) (fe : FE) : Prop where
  ex : ∃ (g : Addr) (a : Str) (pg : Arguments) (dV kV doc pm cdv ct oc : Value) (an od : Option Addr) (osl : Array (Option Value)), mg x = some (.ref g) ∧ GlbAt K x g ∧ PySem.W.keepIn K (.ref g) = true ∧
    K.lookup g = some ⟨oc, od, .func (PySem.W.fnOf x x pg fe.body fe.sc dV kV doc pm an cdv ct), osl⟩ ∧ PySem.W.codeIn K cdv x = true ∧ L2.Binds K (PySem.W.fnOf x x pg fe.body fe.sc dV kV doc pm an cdv ct) [a] [] ∧ fe.ps = [a] ∧ FnScope fe.N [a] fe.sc ∧ fe.N[0]? = some a ∧ Vis fe.sc a ∧
    (a == ("__debug__" : Str)) = false ∧ (a == ("__classdict__" : Str)) = false ∧ (x == ("__debug__" : Str)) = false
/-- the code of a def that makes lambdas -/
def MakeOk (mg : Str → Option Value) (base : Heap) (Tl : List (Addr × Str)) (fd : FuncData) (qual wd : Str) : Prop := ∃ c P : Addr, fd.code = .ref c ∧ LamX.TabB base mg c P ∧ (P, (qual ++ (".<locals>." : Str)) ++ wd) ∈ Tl ∧ ∀ p ∈ Tl, p.1 = P → p.2 = (qual ++ (".<locals>." : Str)) ++ wd
/-- how a def binds whose last parameter takes what is left over -/
def VaOk (fd : FuncData) (ps : List Str) : Prop := ∃ (ps0 : List Str) (pv : Str), ps = ps0 ++ [pv] ∧ ∀ us rest : List Value, us.length = ps0.length → bindArgs fd ⟨us ++ rest, []⟩ = (newTuple rest >>= fun t => pure (ps0.zip us ++ [(pv, t)]))
/-- where a method's def stands -/
def MetFd (K : PySem.W.Frag) (C : Addr) (m : Str) (f : Addr) (kd : Nat) : Prop := if kd < 2 then MAt K C m f kd else PySem.W.findIn K (.ref C) m = some (some (.ref f))
structure TabOk (t : Tab) (P : Program) (w : World) (K : PySem.W.Frag) (mg : Str → Option Value) (base : Heap) (Tl : List (Addr × Str)) : Prop where
  glob : ∀ x v, t.G x = some v → GOk2 K mg x v
  exs : ∀ x flds, t.exf x = some flds → ExOk2 P w K mg base x flds
  sub : ∀ x c b, t.sub x c = some b → ∀ Ca D, GlbAt K x Ca → GlbAt K c D → PySem.W.kitOne K (.ref Ca) (.ref D) = some b ∧ PySem.W.exmOne K (.ref Ca) (.ref D) = some b
  lamT : ∀ x fe, t.lamT.lookup x = some fe → LamFn K mg x fe
  fld : ∀ c f i, t.fld c f = some i → ∃ Ca p, GlbAt K c Ca ∧ SlX.SCls K Ca ∧ SlX.Slot1 K Ca f p i
  subT : ∀ x t' b, t.subT x t' = some b → ∀ Ca, GlbAt K x Ca → PySem.W.kitOne K (.ref Ca) (.type t') = some b
  cls : ∀ x ns, t.cls.lookup x = some ns → ∃ C f, mg x = some (.ref C) ∧ GlbAt K x C ∧ Mk K C f
  met : ∀ c m kd fe, t.M.lookup (c, m) = some (kd, fe) → ∃ (C f : Addr) (fd : FuncData) (nm qual : Str) (st : Stmt), GlbAt K c C ∧ MetFd K C m f kd ∧ Fun K nm qual st f fd ∧ defScope st = fe.sc ∧ defBody st = fe.body ∧ FnScope fe.N fe.ps fe.sc ∧ (fe.lam = true → MakeOk mg base Tl fd qual "<lambda>") ∧ (fe.gen = true → MakeOk mg base Tl fd qual "<genexpr>") ∧
    ∀ n ks perm, t.shM c m n ks = some perm → KB K fd (n + 1) ks fe.ps perm fe.dfl
  fn : ∀ x fe, t.T.lookup x = some fe → ∃ (f : Addr) (fd : FuncData) (qual : Str) (st : Stmt), mg x = some (.ref f) ∧ GlbAt K x f ∧ PySem.W.keepIn K (.ref f) = true ∧ Fun K x qual st f fd ∧ defScope st = fe.sc ∧ defBody st = fe.body ∧ FnScope fe.N fe.ps fe.sc ∧ (fe.lam = true → MakeOk mg base Tl fd qual "<lambda>") ∧ (fe.gen = true → MakeOk mg base Tl fd qual "<genexpr>") ∧
    (fe.va = true → VaOk fd fe.ps) ∧ ∀ n ks perm, t.sh x n ks = some perm → KB K fd n ks fe.ps perm fe.dfl
section
variable {t : Tab} {P : Program} {w : World} {K : PySem.W.Frag} {mg : Str → Option Value} {base : Heap} {Tl : List (Addr × Str)}
theorem Tab.ec_G : ∀ k, (t.ec k).G = t.G
  | 0 => rfl
  | 1 => rfl
  | _ + 2 => rfl
theorem Tab.ec_sub : ∀ k, (t.ec k).sub = t.sub
  | 0 => rfl
  | 1 => rfl
  | _ + 2 => rfl
theorem Tab.ec_exf : ∀ k, (t.ec k).exf = t.exf
  | 0 => rfl
  | 1 => rfl
  | _ + 2 => rfl
theorem Tab.ec_fld : ∀ k, (t.ec k).fld = t.fld
  | 0 => rfl
  | 1 => rfl
  | _ + 2 => rfl
theorem Tab.ec_subT : ∀ k, (t.ec k).subT = t.subT
  | 0 => rfl
  | 1 => rfl
  | _ + 2 => rfl
theorem start_rel {K : PySem.W.Frag} {ρ : Pl} {H : Hp} {N : List Str} {ds : List D} {vs : List V} (r : RelDs K ρ H ds vs) : RelEnv K ρ H (startD N ds) (L2.start N vs) := by
  unfold startD L2.start
  refine ⟨by simp [r.length], fun i d h => ?_⟩
  by_cases hi : i < ds.length
  · rw [List.getElem?_append_left (by simpa using hi), List.getElem?_map] at h
    cases hd : ds[i]? with
    | none => rw [hd] at h; cases h
    | some d' =>
      rw [hd] at h
      cases h
      obtain ⟨v, h1, h2⟩ := r.get hd
      exact ⟨v, by rw [List.getElem?_append_left (by simpa [← r.length] using hi), List.getElem?_map, h1]; rfl, h2⟩
  · rw [List.getElem?_append_right (by simpa using hi), List.getElem?_replicate] at h
    split at h <;> cases h
def CalV2 (P : Program) (w : World) (K : PySem.W.Frag) (mg : Str → Option Value) (base : Heap) (T : List (Addr × Str)) (k : Nat) (x : Str) (g : SemX) : Prop :=
  ∃ (f : Addr), mg x = some (.ref f) ∧ GlbAt K x f ∧ PySem.W.keepIn K (.ref f) = true ∧ ∀ n, Prom P w K mg base T k f n [] g
def MetOk2 (P : Program) (w : World) (K : PySem.W.Frag) (mg : Str → Option Value) (base : Heap) (T : List (Addr × Str)) (k kd : Nat) (c m : Str) (n : Nat) (ks : List Str) (g : SemX) : Prop :=
  ∃ (C f : Addr), GlbAt K c C ∧ MAt K C m f kd ∧ Prom P w K mg base T k f (n + 1) ks g
def MakOk2 (P : Program) (w : World) (K : PySem.W.Frag) (mg : Str → Option Value) (base : Heap) (T : List (Addr × Str)) (k : Nat) (x : Str) (n : Nat) (ks : List Str) (g : SemX) : Prop :=
  ∃ (C f : Addr) (j ns : Nat) (g0 : SemX), mg x = some (.ref C) ∧ GlbAt K x C ∧ Mk K C f ∧ j + 1 ≤ k ∧ Prom P w K mg base T j f (n + 1) ks g0 ∧ g = mkD x ns g0
/-- the calls of level k hold -/
structure CalAll (t : Tab) (P : Program) (w : World) (K : PySem.W.Frag) (mg : Str → Option Value) (base : Heap) (Tl : List (Addr × Str)) (k : Nat) : Prop where
  cal : ∀ x n ks g, (t.ec k).cal x n ks = some g → CalOk2 P w K mg base Tl (k + 2) x n ks g
  calv : ∀ x g, (t.ec k).calv x = some g → CalV2 P w K mg base Tl (k + 2) x g
  met : ∀ kd c m n ks g, (t.ec k).met kd c m n ks = some g → MetOk2 P w K mg base Tl (k + 2) kd c m n ks g
  mak : ∀ x n ks g, (t.ec k).mak x n ks = some g → MakOk2 P w K mg base Tl (k + 2) x n ks g
theorem met_room {X : Cx} {T : List (Addr × Str)} {k kd : Nat} {c m : Str} {n : Nat} {ks : List Str} {g : SemX} (h : MetOk2 X.prog X.w X.K X.mg X.base T k kd c m n ks g) (hr : Room k X.A) : MetOk X T kd c m n ks g := by
  obtain ⟨C, f, a1, a2, a3⟩ := h
  exact ⟨C, f, k, a1, a2, hr, a3⟩
theorem mak_room {X : Cx} {T : List (Addr × Str)} {k : Nat} {x : Str} {n : Nat} {ks : List Str} {g : SemX} (h : MakOk2 X.prog X.w X.K X.mg X.base T k x n ks g) (hr : Room k X.A) : MakOk X T x n ks g := by
  obtain ⟨C, f, j, ns, g0, a1, a2, a3, a4, a5, a6⟩ := h
  exact ⟨C, f, j, ns, g0, a1, a2, a3, hr.mono a4, a5, a6⟩
theorem calv_room {X : Cx} {T : List (Addr × Str)} {k : Nat} {x : Str} {g : SemX} (h : CalV2 X.prog X.w X.K X.mg X.base T k x g) (hr : Room k X.A) : CalV X T x g := by
  obtain ⟨f, a1, a2, a3, a4⟩ := h
  exact ⟨f, k, a1, a2, a3, hr, a4⟩
theorem cal_room {X : Cx} {T : List (Addr × Str)} {k : Nat} {x : Str} {n : Nat} {ks : List Str} {g : SemX} (h : CalOk2 X.prog X.w X.K X.mg X.base T k x n ks g) (hr : Room k X.A) : CalOk X T x n ks g := by
  obtain ⟨f, a1, a2, a3, a4⟩ := h
  exact ⟨f, k, a1, a2, a3, hr, a4⟩
/-- the context of a def that gets a lambda -/
theorem ctx_lamDef (M : TabOk t P w K mg base Tl) {k : Nat} (hc : CalAll t P w K mg base Tl k) {fe : FE} {a : Str} (hps : fe.ps = [a]) (Sg : FnScope fe.N [a] fe.sc) (hNg : fe.N[0]? = some a) {X : Cx} (h1 : X.prog = P) (h2 : X.w = w) (h3 : X.K = K) (h4 : X.mg = mg) (h5 : X.base = base) (hg : X.A.guards = some [])
    {x : Str} {g : Addr} {cdv : Value} {s : Shared} {H : Hp} (hr : Room (k + 2) (X.A.deeper (envOfC x fe.sc s.heap.objs.size g cdv))) {h : Store → Res D} {Wc : WG} (w1 : Wc.w = fun _ _ _ _ => False) (w2 : Wc.g = none) (w3 : Wc.T = Tl) (w4 : ∀ l, Wc.l = some l → l.i = 0)
    (act : ∀ (pn : List (Addr × Obj)) (xe : Value → Shared → Prop) (W' : WG), W'.g = none → W'.T = Wc.T → W'.l = Wc.l → Takes ((lamDef X fe.N x fe.sc g cdv s H).tr pn xe) W'.w → ∀ p1 p2 : Pos, DE ((lamDef X fe.N x fe.sc g cdv s H).tr pn xe) W' (.Call (.Name a p1) [] [] p2) (flamc h)) :
    CtxOk (t.ec k) ⟨fe.N, fe.sc, fun _ => true, true, none, none, fe.ps.head?.map fun a => (a, h), false, false, fe.ps⟩ (lamDef X fe.N x fe.sc g cdv s H) Wc := by
  subst h1 h2 h3 h4 h5
  refine ⟨rfl, Sg.nd, rfl, Sg.kind, rfl, fun _ => ⟨rfl, w2, hr.mono (by omega)⟩, hg, by have := hr.un; show (X.A.deeper _).units + 80 < cLine; omega, by rw [w1]; exact takes_nf, .never, fun y v e => ?_, fun _ y n ks g' e => cal_room (by rw [w3]; exact hc.cal _ _ _ _ e) hr, fun _ y g' e => calv_room (by rw [w3]; exact hc.calv _ _ e) hr, fun _ kd d m n ks g' e => met_room (by rw [w3]; exact hc.met _ _ _ _ _ _ e) hr, fun _ y n ks g' e => mak_room (by rw [w3]; exact hc.mak _ _ _ _ e) hr, fun d f i e => M.fld d f i (by rw [← Tab.ec_fld k]; exact e), fun y t' b e => M.subT y t' b (by rw [← Tab.ec_subT k]; exact e), fun y fl e => ?_, fun y c b e => ?_, fun e => (by cases e), fun e => (by cases e), fun n y e => (by cases e), fun y i ho hN => ⟨fun z e => (by rw [w2] at e; cases e), fun l e => ?_⟩, fun a h e => (by cases e), fun a' h' e => ?_⟩
  · rw [Tab.ec_G] at e
    have := M.glob y v e
    cases v <;> exact this
  · rw [Tab.ec_exf] at e
    exact M.exs y fl e
  · rw [Tab.ec_sub] at e
    exact M.sub y c b e
  · rw [w4 l e]
    intro hi
    subst hi
    have e0 : fe.N[0]? = some y := hN
    rw [hNg] at e0
    have : a = y := Option.some.inj e0
    subst this
    unfold SC.owned at ho
    rw [hps] at ho
    simp at ho
  · rw [hps] at e
    cases e
    exact act
/-- what a def that gets a lambda promises where it is called -/
theorem lamc_ok (M : TabOk t P w K mg base Tl) {k : Nat} (hc : CalAll t P w K mg base Tl k) {X : Cx} {W : WG} (h1 : X.prog = P) (h2 : X.w = w) (h3 : X.K = K) (h4 : X.mg = mg) (h5 : X.base = base) (hg : X.A.guards = some []) (hr : Room (k + 3) X.A) (hT : W.T = Tl) {c Pt : Addr} (hcode : X.env.code = .ref c) (TB : LamX.TabB X.base X.mg c Pt)
    (hm : (Pt, X.env.qual ++ ("<lambda>" : Str)) ∈ Tl) (hu : ∀ p ∈ Tl, p.1 = Pt → p.2 = X.env.qual ++ ("<lambda>" : Str)) {x : Str} {fe : FE} (hx : t.lamT.lookup x = some fe) : LamcOk X W x (fun h st => endL (lamFE (t.ec k) t.fuel fe h (List.replicate fe.N.length none) st)) (k + 1) := by
  obtain ⟨g, a, pg, dV, kV, doc, pm, cdv, ct, oc, an, od, osl, m1, m2, m3, m4, m5, m6, m7, m8, m9, m10, m11, m12, m13⟩ := (M.lamT x fe hx).ex
  intro params body scope lpos p pos fb hgl hp Ls hb
  have hps := noParams_ok hp
  subst hps
  have := de_lamcall (L := lamFE (t.ec k) t.fuel fe) (fb := fb) (k := k + 1) (p := p) (pos := pos) (lpos := lpos) (params := ⟨[], [], none, [], [], none, []⟩) hgl (by rw [h4]; exact m1) (by rw [h3]; exact m3) (by rw [h3]; exact m4) (by rw [h3]; exact m5) (by rw [h3]; exact m6) m8 m9 m10 TB hcode (by rw [hT]; exact hm) (by rw [hT]; exact hu) hr hg Ls rfl (fun _ _ _ _ _ => rfl)
    (fun h s H Wc w1 w2 w3 w4 hr' act => (exS_ok (t.ec k) t.fuel).2.1 fe.body (ctx_lamDef M hc m7 m8 m9 h1 h2 h3 h4 h5 hg hr' w1 w2 (w3.trans hT) w4 act) ⟨rfl, rfl⟩) hb m13 m11 m12
  exact this
/-- the context of a def's body -/
theorem ctx_of (M : TabOk t P w K mg base Tl) : ∀ {k : Nat}, CalAll t P w K mg base Tl k → (∀ j, j < k → CalAll t P w K mg base Tl j) → ∀ {fe : FE} {qual : Str} {sc : Scope} {f : Addr} {cdv : Value} {A : Around} {outer : List PySem.Env} {s : Shared} {H : Hp} {E : XK}, sc = fe.sc → fe.N.Nodup → fe.sc.kind = .function →
    Room (k + 2) (A.deeper (envOfC qual sc s.heap.objs.size f cdv)) → A.guards = some [] → (fe.lam = true → ∃ c Pt : Addr, cdv = .ref c ∧ LamX.TabB base mg c Pt ∧ (Pt, (qual ++ (".<locals>." : Str)) ++ ("<lambda>" : Str)) ∈ Tl ∧ ∀ p ∈ Tl, p.1 = Pt → p.2 = (qual ++ (".<locals>." : Str)) ++ ("<lambda>" : Str)) → (fe.gen = true → ∃ c Pt : Addr, cdv = .ref c ∧ LamX.TabB base mg c Pt ∧ (Pt, (qual ++ (".<locals>." : Str)) ++ ("<genexpr>" : Str)) ∈ Tl ∧ ∀ p ∈ Tl, p.1 = Pt → p.2 = (qual ++ (".<locals>." : Str)) ++ ("<genexpr>" : Str)) →
    CtxOk (t.ec k) fe.S (cxOf (L2.CX P w) P w K mg base fe.N qual sc f cdv A outer s H E) ⟨fun cls d _ H => E cls d H, none, Tl, none⟩ := by
  intro k hc hlow fe qual sc f cdv A outer s H E hsc nd hk hr hg hmk hgn
  subst hsc
  refine ⟨rfl, nd, rfl, hk, rfl, fun _ => ⟨rfl, rfl, hr.mono (by omega)⟩, hg, by have := hr.un; show (A.deeper _).units + 80 < cLine; omega, takes_of rfl rfl rfl rfl, passes_of rfl, fun y v e => ?_, fun _ y n ks g' e => cal_room (hc.cal _ _ _ _ e) hr, fun _ y g' e => calv_room (hc.calv _ _ e) hr, fun _ kd d m n ks g' e => met_room (hc.met _ _ _ _ _ _ e) hr, fun _ y n ks g' e => mak_room (hc.mak _ _ _ _ e) hr, fun d f i e => M.fld d f i (by rw [← Tab.ec_fld k]; exact e), fun y t' b e => M.subT y t' b (by rw [← Tab.ec_subT k]; exact e), fun y fl e => ?_, fun y c b e => ?_, fun hl y L e => ?_, fun hl => ?_, fun n y e => (by cases e), fun y i ho hN => ⟨fun z e => (by cases e), fun l e => (by cases e)⟩, fun a h e => (by cases e), fun a' h' e => (by cases e)⟩
  · rw [Tab.ec_G] at e
    have := M.glob y v e
    cases v <;> exact this
  · rw [Tab.ec_exf] at e
    exact M.exs y fl e
  · rw [Tab.ec_sub] at e
    exact M.sub y c b e
  · match k, hc, hlow, hr, e with
    | 0, _, _, _, e => cases e
    | 1, _, _, _, e => cases e
    | k + 2, hc, hlow, hr, e =>
      change t.lamOf (t.ec (k + 1)) y = some L at e
      unfold Tab.lamOf at e
      split at e
      · rename_i fe' hy
        cases e
        obtain ⟨c, Pt, rfl, TB, hm, hu⟩ := hmk hl
        refine ⟨k + 2, by omega, ⟨fun X' e1 e2 e3 e4 e5 hr' z n ks g' e => ?_, fun X' e1 e2 e3 e4 e5 hr' kd z m n ks g' e => ?_, fun X' e1 e2 e3 e4 e5 hr' z n ks g' e => ?_⟩, ?_⟩
        · have hcl := (hlow k (by omega)).cal z n ks g' e
          subst e1 e2 e3 e4 e5
          exact cal_room hcl hr'
        · have hcl := (hlow k (by omega)).met kd z m n ks g' e
          subst e1 e2 e3 e4 e5
          exact met_room hcl hr'
        · have hcl := (hlow k (by omega)).mak z n ks g' e
          subst e1 e2 e3 e4 e5
          exact mak_room hcl hr'
        · intro X' W' sx wt
          have q := sx.qual
          refine lamc_ok M (hlow (k + 1) (by omega)) sx.prog sx.w sx.K sx.mg sx.base (by rw [sx.A]; exact hg) (X := X') (by rw [sx.A]; exact hr) wt (sx.code) (c := c) (Pt := Pt) (by rw [sx.base, sx.mg]; exact TB) (by rw [q]; exact hm) (by rw [q]; exact hu) hy
      · cases e
  · obtain ⟨c, Pt, rfl, TB, hm, hu⟩ := hgn hl
    exact ⟨c, Pt, k + 2, hr, rfl, TB, hm, hu⟩
/-- a def's body -/
theorem body_ev (M : TabOk t P w K mg base Tl) {k : Nat} (hc : CalAll t P w K mg base Tl k) (hlow : ∀ j, j < k → CalAll t P w K mg base Tl j) {x qual : Str} {st : Stmt} {f : Addr} {fd : FuncData} {fe : FE} (F : Fun K x qual st f fd) (hs : defScope st = fe.sc) (hb : defBody st = fe.body) (S : FnScope fe.N fe.ps fe.sc) (hm : fe.lam = true → MakeOk mg base Tl fd qual "<lambda>") (hgn : fe.gen = true → MakeOk mg base Tl fd qual "<genexpr>") :
    ∀ (cdv : Value) (A : Around) (outer : List PySem.Env) (s : Shared) (H : Hp) (vs : List V) (Q : VK) (E : XK), fd.code = cdv → Room (k + 2) (A.deeper (envOfC qual (defScope st) s.heap.objs.size f cdv)) → A.guards = some [] → spR K Tl fe.ps.length (semFE (t.ec k) t.fuel fe) vs H Q E →
      ∃ tt, PSs (cxOf (L2.CX P w) P w K mg base fe.N qual (defScope st) f cdv A outer s H E) (defBody st) tt ∧ tt { nx := fun _ H' => Q .non H', rt := Q } (L2.start fe.N vs) H := by
  intro cdv A outer s H vs Q E hcd room gd want
  obtain ⟨hl, want⟩ := want
  have want2 : rX K Tl (runFE (t.ec k) t.fuel fe) vs H Q E := by
    unfold semFE at want
    split at want
    · exact rX_pure want
    · exact want
  obtain ⟨ρ, st0, ds, ht, rs, rd, q⟩ := want2
  have c := ctx_of (E := E) (qual := qual) (f := f) (cdv := cdv) (outer := outer) (s := s) (H := H) M hc hlow hs S.nd S.kind room gd (fun hl => by
    obtain ⟨c, Pt, e, r⟩ := hm hl
    exact ⟨c, Pt, hcd.symm.trans e, r⟩) (fun hl => by
    obtain ⟨c, Pt, e, r⟩ := hgn hl
    exact ⟨c, Pt, hcd.symm.trans e, r⟩)
  have walk := (exS_ok (t.ec k) t.fuel).2.1 fe.body c ⟨rfl, rfl⟩
  refine ⟨lS K _ (exSs (t.ec k) fe.S t.fuel fe.body), by rw [hb]; exact walk, ρ, startD fe.N ds, st0, ⟨start_rel rd, rs, ht, ⟨fun z e => (by cases e), fun l e => (by cases e)⟩⟩, ?_⟩
  have hl2 : ds.length = fe.ps.length := by rw [rd.length]; exact hl
  unfold runFE at q
  rw [if_pos hl2] at q
  show OutS K _ ρ H (exSs (t.ec k) fe.S t.fuel fe.body (startD fe.N ds) st0) _
  cases hr : exSs (t.ec k) fe.S t.fuel fe.body (startD fe.N ds) st0 with
  | nx env st1 => rw [hr] at q; exact fun ρ' H' σ' e g => q ρ' H' .non e g.st .non
  | rt d st1 => rw [hr] at q; exact fun ρ' H' v e s r => q ρ' H' v e s r
  | exc x env st1 => rw [hr] at q; exact fun ρ' H' σ' cls dx e g r => q ρ' H' cls dx e g.st r
  | _ => rw [hr] at q; exact q.elim
/-- a def's promise -/
theorem fnG_ev (M : TabOk t P w K mg base Tl) {k : Nat} (hc : CalAll t P w K mg base Tl k) (hlow : ∀ j, j < k → CalAll t P w K mg base Tl j) {x qual : Str} {st : Stmt} {f : Addr} {fd : FuncData} {fe : FE} (F : Fun K x qual st f fd) (hs : defScope st = fe.sc) (hb : defBody st = fe.body) (S : FnScope fe.N fe.ps fe.sc) (hm : fe.lam = true → MakeOk mg base Tl fd qual "<lambda>") (hgn : fe.gen = true → MakeOk mg base Tl fd qual "<genexpr>") :
    FnG P w K mg base (L2.CX P w) (k + 3) f fd fe.ps (spR K Tl fe.ps.length (semFE (t.ec k) t.fuel fe)) :=
  fnG_of F (by rw [hs]; exact S) (fun vs H Q E h => h.1) (body_ev M hc hlow F hs hb S hm hgn)
theorem cal_all (M : TabOk t P w K mg base Tl) : ∀ k, CalAll t P w K mg base Tl k := by
  intro k
  induction k using Nat.strongRecOn with
  | _ k ih =>
    have key : ∀ j, j < k → ∀ x n ks g, t.calOf (t.ec j) x n ks = some g → CalOk2 P w K mg base Tl (k + 2) x n ks g := fun j hj x n ks g e => by
      unfold Tab.calOf at e
      split at e
      · rename_i fe perm h1 h2
        cases e
        obtain ⟨f, fd, qual, st, a1, a2, a3, a4, a5, a6, a7, a8, a8g, -, a9⟩ := M.fn x fe h1
        refine ⟨f, a1, a2, a3, Prom.of_fnG ((fnG_ev M (ih j hj) (fun i hi => ih i (by omega)) a4 a5 a6 a7 a8 a8g).mono (by omega)) (a9 n ks perm h2) fun ds st hl e => ?_⟩
        rw [withD_eq] at e ⊢
        split at e
        · rename_i hp
          rw [if_pos hp]
          exact ⟨hp, rfl⟩
        · exact absurd rfl e
      · cases e
    have keyv : ∀ j, j < k → ∀ x g, t.calvOf (t.ec j) x = some g → CalV2 P w K mg base Tl (k + 2) x g := fun j hj x g e => by
      unfold Tab.calvOf at e
      split at e
      · rename_i fe h1
        split at e
        · rename_i hv
          cases e
          obtain ⟨f, fd, qual, st, a1, a2, a3, a4, a5, a6, a7, a8, a8g, av, a9⟩ := M.fn x fe h1
          obtain ⟨ps0, pv, e1, e2⟩ := av hv
          refine ⟨f, a1, a2, a3, fun n => ?_⟩
          have bd := body_ev M (ih j hj) (fun i hi => ih i (by omega)) a4 a5 a6 a7 a8 a8g
          have hl : fe.ps.length - 1 = ps0.length := by rw [e1]; simp
          rw [e1] at bd
          rw [hl]
          exact (prom_star (k := j + 2) a4 (by rw [a5, ← e1]; exact a7) e2 bd n).mono (by omega)
        · cases e
      · cases e
    have keym : ∀ j, j < k → ∀ c m kd fe perm n ks, t.M.lookup (c, m) = some (kd, fe) → t.shM c m n ks = some perm → ∃ C f, GlbAt K c C ∧ MetFd K C m f kd ∧ Prom P w K mg base Tl (j + 3) f (n + 1) ks (t.calF (t.ec j) fe perm) := fun j hj c m kd fe perm n ks h1 h2 => by
      obtain ⟨C, f, fd, nm, qual, st, a1, a2, a4, a5, a6, a7, a8, a8g, a9⟩ := M.met c m kd fe h1
      refine ⟨C, f, a1, a2, Prom.of_fnG (fnG_ev M (ih j hj) (fun i hi => ih i (by omega)) a4 a5 a6 a7 a8 a8g) (a9 n ks perm h2) fun ds st hl e => ?_⟩
      unfold Tab.calF at e ⊢
      rw [withD_eq] at e ⊢
      split at e
      · rename_i hp
        rw [if_pos hp]
        exact ⟨hp, rfl⟩
      · exact absurd rfl e
    have keyM : ∀ j, j < k → ∀ kd c m n ks g, t.metOf (t.ec j) kd c m n ks = some g → MetOk2 P w K mg base Tl (k + 2) kd c m n ks g := fun j hj kd c m n ks g e => by
      unfold Tab.metOf at e
      split at e
      · rename_i kd' fe perm h1 h2
        split at e
        · rename_i hkd
          obtain ⟨hkd, hlt⟩ := hkd
          subst hkd
          cases e
          obtain ⟨C, f, g1, g2, g3⟩ := keym j hj c m kd fe perm n ks h1 h2
          unfold MetFd at g2
          rw [if_pos hlt] at g2
          exact ⟨C, f, g1, g2, g3.mono (by omega)⟩
        · cases e
      · cases e
    have keyK : ∀ j, j + 1 < k → ∀ x n ks g, t.makOf (t.ec j) x n ks = some g → MakOk2 P w K mg base Tl (k + 2) x n ks g := fun j hj x n ks g e => by
      unfold Tab.makOf at e
      split at e
      · rename_i ns fe perm h0 h1 h2
        cases e
        obtain ⟨C, f, g1, g2, g3⟩ := keym j (by omega) x "__init__" 2 fe perm n ks h1 h2
        obtain ⟨C', f', m1, m2, m3⟩ := M.cls x ns h0
        cases g1.uniq m2
        have hf : f' = f := by
          have i2 := m3.init
          unfold MetFd at g2
          rw [if_neg (by omega)] at g2
          rw [g2] at i2
          exact (Value.ref.inj (Option.some.inj (Option.some.inj i2))).symm
        subst hf
        exact ⟨C, f', j + 3, ns, _, m1, m2, m3, by omega, g3, rfl⟩
      · cases e
    match k, key, keyv, keyM, keyK with
    | 0, _, _, _, _ => exact ⟨fun x n ks g h => (by cases h), fun x g h => (by cases h), fun kd c m n ks g h => (by cases h), fun x n ks g h => (by cases h)⟩
    | 1, key, keyv, keyM, keyK => exact ⟨key 0 (by omega), keyv 0 (by omega), keyM 0 (by omega), fun x n ks g h => (by cases h)⟩
    | k + 2, key, keyv, keyM, keyK => exact ⟨key (k + 1) (by omega), keyv (k + 1) (by omega), keyM (k + 1) (by omega), keyK k (by omega)⟩
end
end DL
end
section
/-! EL24: the law's own call: from a function of data to the statement; the tables of code objects that lambdas grow. -/
namespace DL
open PySem PySem.Spec PyProof.Rows L2
/-- what the machine must show behind the law's call -/
def LawEnd (s : Shared) : Result → Shared → Prop := fun r s' => r = .ok (.ret (.bool true)) ∧ OldK s.heap s'.heap ∧ s'.os = s.os ∧ AllBare s'.gens
/-- an object that the law's walk tracks from its start: a list, or a table that is still empty -/
def Cov (o : Obj) : Prop := (∃ vs n, o.data = .seq vs n) ∨ o.data = .fields #[]
theorem Cov.no_dict {o : Obj} (h : Cov o) {es : Array DictEntry} {ep : Nat} (d : o.data = .dict es ep) : False := by
  rcases h with ⟨_, _, h⟩ | h <;> · rw [h] at d; cases d
theorem Cov.no_plain {o : Obj} (h : Cov o) (d : o.data = .plain) : False := by
  rcases h with ⟨_, _, h⟩ | h <;> · rw [h] at d; cases d
theorem Cov.no_code {o : Obj} (h : Cov o) {vs : Array Value} {v : Value} (d : o.data = .fields vs) (q : vs[11]? = some v) : False := by
  rcases h with ⟨_, _, h⟩ | h
  · rw [h] at d; cases d
  · rw [h] at d; cases d; simp at q
/-- a def whose code holds lambdas: its code, its table -/
structure TabF (h : Heap) (K : PySem.W.Frag) (c P : Addr) : Prop where
  tab : h.get? P = some { cls := .none, data := .fields #[] }
  nK : K.lookup P = none
  code : PySem.W.CodeHd h c P
/-- the module of the built-in names, as the main module names it -/
def BmOk (h : Heap) (mg : Str → Option Value) : Prop := ∃ (bm : Addr) (ob : Obj), mg "__builtins__" = some (.ref bm) ∧ bm ≠ builtinsNs ∧ h.get? bm = some ob ∧ ob.cls = .type "module" ∧ ob.dict = some builtinsNs ∧ ob.data = .plain
section
variable {P : Program} {w : World} {K : PySem.W.Frag} {mg mb : Str → Option Value} {k : Nat} {fa a : Addr} {fd : FuncData} {x : Str} {g : SemX} {s : Shared} {vs : List Value} {ns : List Int} {H : Hp} {cs : List (Addr × Addr)} {Tl : List (Addr × Str)}
theorem hid_get (one : ∀ b o, s.heap.get? b = some o → H b ≠ none → Cov o ∧ K.lookup b = none) {b : Addr} {o : Obj} (e : s.heap.get? b = some o) (n : Cov o → False) : (hidT s.heap H).get? b = some o := by
  refine hidT_get e ?_
  by_cases z : H b = none
  · exact z
  · exact (n (one b o e z).1).elim
theorem hid_ns (one : ∀ b o, s.heap.get? b = some o → H b ≠ none → Cov o ∧ K.lookup b = none) {b : Addr} {m : Str → Option Value} (h : s.heap.Ns b m) : (hidT s.heap H).Ns b m := by
  obtain ⟨o, es, ep, e, d, r⟩ := h
  exact ⟨o, es, ep, hid_get one e fun c => c.no_dict d, d, r⟩
/-- the heap as the law's frame may see it: all but what H tracks -/
theorem hid_ok (KX : K.In s.heap) (h1 : s.heap.Ns mainGlobals mg) (h2 : s.heap.Ns builtinsNs mb) (h3 : ∀ y : Str, y ≠ "__name__" → mb y = bootBuiltins y) (h4 : s.heap.NoLimit)
    (one : ∀ b o, s.heap.get? b = some o → H b ≠ none → Cov o ∧ K.lookup b = none) : Mod K mg (hidT s.heap H) := by
  have kin : K.In (hidT s.heap H) := by
    intro b o e
    refine hidT_get (KX b o e) ?_
    by_cases n : H b = none
    · exact n
    · have := (one b o (KX b o e) n).2
      rw [e] at this; cases this
  obtain ⟨mc, l1, l2⟩ := h4
  exact ⟨kin, hid_ns one h1, ⟨mb, hid_ns one h2, h3⟩, mc, hid_ns one l1, l2⟩
/-- a table there -/
theorem hid_tab (h1 : s.heap.Ns mainGlobals mg) (hb : BmOk s.heap mg) (one : ∀ b o, s.heap.get? b = some o → H b ≠ none → Cov o ∧ K.lookup b = none) {c Pt : Addr} (f : TabF s.heap K c Pt) : LamX.TabB (hidT s.heap H) mg c Pt := by
  obtain ⟨om, es, ep, em, dm, _⟩ := h1
  obtain ⟨bm, ob, b1, b2, b3, b4, b5, b6⟩ := hb
  have t0 := f.tab
  refine ⟨?_, ⟨bm, ob, b1, b2, fun z => ?_, fun z => ?_, hid_get one b3 fun c => c.no_plain b6, b4, b5, b6⟩, fun z => ?_⟩
  · obtain ⟨o, us, file, tf, flags, tg, inF, text, tt, e1, e2, e3, e4, r⟩ := f.code
    exact ⟨o, us, file, tf, flags, tg, inF, text, tt, hid_get one e1 fun c => c.no_code e3 e4, e2, e3, e4, r⟩
  · subst z
    rw [em] at b3; cases b3
    rw [dm] at b6; cases b6
  · subst z
    rw [t0] at b3; cases b3
    cases b6
  · rw [← z, em] at t0
    cases t0
    cases dm
/-- the call, from a tracked heap that tracks nothing but the script and the tables -/
theorem run_at (KX : K.In s.heap) (h1 : s.heap.Ns mainGlobals mg) (h2 : s.heap.Ns builtinsNs mb) (h3 : ∀ y : Str, y ≠ "__name__" → mb y = bootBuiltins y) (h4 : s.heap.NoLimit) (h5 : s.gens = #[]) (hbm : BmOk s.heap mg) (hr : Room k callerA) (hcs : ∀ p ∈ cs, TabF s.heap K p.1 p.2)
    (one : ∀ b o, s.heap.get? b = some o → H b ≠ none → Cov o ∧ K.lookup b = none) (fz : ∀ b, H b = none ∨ (∃ o xs, H b = some (.frz o (.lst xs))) ∨ (H b = some (.tbl #[]) ∧ ∃ c, TabF s.heap K c b)) (hok : HOk P w H s.heap)
    (F : ∀ base : Heap, K.In base → base.Ns mainGlobals mg → (∀ p ∈ cs, LamX.TabB base mg p.1 p.2) → FnG P w K mg base (L2.CX P w) k fa fd [x] (spR K Tl 1 g)) (hbind : ∀ (s : Shared) (u : Value), BindsTo s fd ⟨[u], []⟩ [(x, u)])
    (want : rX K Tl g [.ref a] H (fun v _ => v = .bl true) fun _ _ _ => False) : codeAny (model P w) callerA (.call (.ref fa) ⟨[.ref a], []⟩) (LawEnd s) s := by
  have md := hid_ok KX h1 h2 h3 h4 one
  have start0 : Env0 P w K mg (hidT s.heap H) callerA [] s H := {
    frames := rfl
    mod := md
    bs := fun b o e => of_hidT e
    bsz := Nat.le_of_eq (hidT_size _ _)
    funs := trivial
    frf := fun b hb => by cases hb
    hok := hok
    bare := .of_eq h5 }
  have ran := (F _ md.kin (hid_ns one h1) fun p hp => hid_tab h1 hbm one (hcs p hp)).run callerA [] s H ⟨[.ref a], []⟩ [.ref a] [.ref a] _ (fun _ _ _ => False) hr rfl start0 (hbind s (.ref a)) (.cons rfl .nil) ⟨rfl, want⟩
  refine codeAny_mono ran ?_
  intro r s' h
  match r, h with
  | .error e, h =>
    obtain ⟨_, _, _, _, _, _, _, _, _, _, _, _, q⟩ := (show L2.CX P w [] H s (fun _ _ _ => False) e s' from h)
    exact q.elim
  | .ok .next, h => exact h.elim
  | .ok .brk, h => exact h.elim
  | .ok .cont, h => exact h.elim
  | .ok (.ret u), ⟨v, H', os, bare, un, hok', rv, q⟩ =>
    cases (show v = .bl true from q)
    cases (show u = Value.bool true from rv)
    have step : ∀ b o, s.heap.get? b = some o → s'.heap.get? b = some o ∨ (∃ c more, TabF s.heap K c b ∧ s'.heap.get? b = some { cls := .none, data := .fields more }) := fun b o e => by
      rcases fz b with z | ⟨ob, xs, z⟩ | ⟨z, c, f⟩
      · exact .inl (un.keep b o e z (fun m => by cases m) (fun m => by cases m))
      · have e1 := (hok b _ z).1
        have e2 := (hok' b _ (un.frzs b ob _ z)).1
        rw [e] at e1; cases e1
        exact .inl e2
      · obtain ⟨more, q⟩ := un.tbls b #[] z
        exact .inr ⟨c, _, f, hok' b _ q⟩
    refine ⟨rfl, ⟨fun b o e => ?_, fun b o e => ?_⟩, os, bare⟩
    · rcases step b o e with q | ⟨c, more, f, q⟩
      · exact .inl q
      · have t0 := f.tab
        rw [e] at t0
        cases t0
        exact .inr (.inl ⟨(f.code.tab f.tab).isCodeTable, rfl, #[], more, rfl, by rw [Array.empty_append]; exact q⟩)
    · rcases step b o e with q | ⟨c, more, f, q⟩
      · exact ⟨_, q⟩
      · exact ⟨_, q⟩
theorem ints_vals : ∀ {vs : List Value} {ns : List Int}, IntsAre vs ns → Vals (ns.map V.int) vs
  | _, _, .nil => .nil
  | _, _, .cons n t h => .cons ⟨t, rfl⟩ (ints_vals h)
theorem ints_data {K : PySem.W.Frag} {ρ : Pl} {H : Hp} : ∀ ns : List Int, RelDs K ρ H (ns.map D.int) (ns.map V.int)
  | [] => .nil
  | n :: ns => .cons (.int n) (ints_data ns)
/-- the law's call: its function of data says True of every such script -/
theorem head_call (KX : K.In s.heap) (h1 : s.heap.Ns mainGlobals mg) (h2 : s.heap.Ns builtinsNs mb) (h3 : ∀ y : Str, y ≠ "__name__" → mb y = bootBuiltins y) (h4 : s.heap.NoLimit) (h5 : s.gens = #[]) (hbm : BmOk s.heap mg) (hr : Room k callerA) (hcs : ∀ p ∈ cs, TabF s.heap K p.1 p.2) (hTl : ∀ p ∈ Tl, p.1 ∈ cs.map (·.2))
    (ha : s.heap.get? a = some { cls := .type "list", data := .seq vs.toArray }) (hi : IntsAre vs ns) (hl : ns.length ≤ sizeLine)
    (F : ∀ base : Heap, K.In base → base.Ns mainGlobals mg → (∀ p ∈ cs, LamX.TabB base mg p.1 p.2) → FnG P w K mg base (L2.CX P w) k fa fd [x] (spR K Tl 1 g)) (hbind : ∀ (s : Shared) (u : Value), BindsTo s fd ⟨[u], []⟩ [(x, u)])
    (want : ∃ st, g [.scr (ns.map D.int)] [] = .ok (.bl true) st) : codeAny (model P w) callerA (.call (.ref fa) ⟨[.ref a], []⟩) (LawEnd s) s := by
  obtain ⟨st, want⟩ := want
  have rv := ints_vals hi
  have anT : a ∉ cs.map (·.2) := fun m => by
    obtain ⟨p, hp, e⟩ := List.mem_map.mp m
    have := (hcs p hp).tab
    rw [e, ha] at this
    have z : Data.seq vs.toArray _ = Data.fields #[] := congrArg Obj.data (Option.some.inj this)
    cases z
  have inT : ∀ {b : Addr}, b ∈ cs.map (·.2) → ∃ c, TabF s.heap K c b := fun {b} m => by
    obtain ⟨p, hp, e⟩ := List.mem_map.mp m
    subst e
    exact ⟨_, hcs p hp⟩
  have said : ∀ {H : Hp}, (∀ b ∈ cs.map (·.2), H b = some (.tbl #[])) → (∀ ρ : Pl, ρ = ⟨[], [], Tl⟩ → RelD K ρ H (.scr (ns.map D.int)) (.ref a)) → rX K Tl g [.ref a] H (fun v _ => v = .bl true) fun _ _ _ => False := by
    intro H hT q
    refine ⟨⟨[], [], Tl⟩, [], _, rfl, ⟨rfl, List.nodup_nil, fun n a o e => (by simp at e), fun b hb => (by cases hb), fun b hb => (by cases hb), fun p hp => .nil (hT _ (hTl p hp)), fun b hb => (by cases hb)⟩, .cons (q _ rfl) .nil, ?_⟩
    rw [want]
    exact fun ρ' H' v e s' r => by cases r; rfl
  cases hk : K.lookup a with
  | some o =>
    have same := KX a o hk
    rw [ha] at same
    cases same
    refine run_at (cs := cs) (H := fun b => if b ∈ cs.map (·.2) then some (.tbl #[]) else none) KX h1 h2 h3 h4 h5 hbm hr hcs (fun b o e n => ?_) (fun b => ?_) (fun b u z => ?_) F hbind (said (fun b hb => if_pos hb) fun ρ _ => ?_)
    · by_cases hb : b ∈ cs.map (·.2)
      · obtain ⟨c, f⟩ := inT hb
        have := f.tab
        rw [e] at this; cases this
        exact ⟨.inr rfl, f.nK⟩
      · exact absurd (if_neg hb) n
    · by_cases hb : b ∈ cs.map (·.2)
      · exact .inr (.inr ⟨if_pos hb, inT hb⟩)
      · exact .inl (if_neg hb)
    · by_cases hb : b ∈ cs.map (·.2)
      · cases (if_pos hb).symm.trans z
        obtain ⟨c, f⟩ := inT hb
        exact f.tab
      · cases (if_neg hb).symm.trans z
    · exact .scrK (.inr ⟨_, vs.toArray, _, hk, rfl, rfl, rfl, by rw [List.size_toArray, hi.length]; exact hl, by simpa using rv⟩) (ints_data ns)
  | none =>
    let Ha : Hp := fun b => if b = a then some (.frz { cls := .type "list", data := .seq vs.toArray } (.lst (ns.map V.int))) else if b ∈ cs.map (·.2) then some (.tbl #[]) else none
    have atA : Ha a = some (.frz { cls := .type "list", data := .seq vs.toArray } (.lst (ns.map V.int))) := if_pos rfl
    have atT : ∀ {b : Addr}, b ∈ cs.map (·.2) → Ha b = some (.tbl #[]) := fun {b} hb => (if_neg fun z => anT (by rw [← z]; exact hb)).trans (if_pos hb)
    have atN : ∀ {b : Addr}, b ≠ a → b ∉ cs.map (·.2) → Ha b = none := fun {b} h h' => (if_neg h).trans (if_neg h')
    refine run_at (cs := cs) (H := Ha) KX h1 h2 h3 h4 h5 hbm hr hcs (fun b o e n => ?_) (fun b => ?_) (fun b u z => ?_) F hbind (said (fun b hb => atT hb) fun ρ hρ => ?_)
    · by_cases hb : b = a
      · subst hb
        rw [ha] at e
        cases e
        exact ⟨.inl ⟨_, _, rfl⟩, hk⟩
      · by_cases ht : b ∈ cs.map (·.2)
        · obtain ⟨c, f⟩ := inT ht
          have := f.tab
          rw [e] at this; cases this
          exact ⟨.inr rfl, f.nK⟩
        · exact absurd (atN hb ht) n
    · by_cases hb : b = a
      · subst hb
        exact .inr (.inl ⟨_, _, atA⟩)
      · by_cases ht : b ∈ cs.map (·.2)
        · exact .inr (.inr ⟨atT ht, inT ht⟩)
        · exact .inl (atN hb ht)
    · by_cases hb : b = a
      · subst hb
        cases atA.symm.trans z
        exact ⟨ha, by rw [List.length_map]; exact hl, vs, _, rv, ha⟩
      · by_cases ht : b ∈ cs.map (·.2)
        · cases (atT ht).symm.trans z
          obtain ⟨c, f⟩ := inT ht
          exact f.tab
        · cases (atN hb ht).symm.trans z
    · subst hρ
      exact .scr (.inr ⟨_, atA⟩) ⟨fun m => (by cases m), fun m => (by cases m)⟩ (ints_data ns)
end
/-- the statement's walk -/
theorem walkD {l : PySem.W.OpenLaw} {n k : Nat} {q : Program} {loose : List Str} {XP : (Str → Option Value) → Heap → Prop} {YP : World → Heap → Prop} {d : DefRec} {K : Params → PySem.W.Frag} {x : Str} {g : SemX}
    (hn : l.most = some n) (hn2 : n ≤ sizeLine) (hdf : d.params.defaults = []) (hr : Room k callerA) (hY : ∀ (w : World) (h : Heap), YP w h → (K w.params).In h)
    (F : ∀ (w : World) (mg : Str → Option Value) (fa : Addr) (h : Heap), YP w h → (K w.params).In h → h.Ns mainGlobals mg → mg d.name = some (.ref fa) →
      ∃ (fd : FuncData) (cs : List (Addr × Addr)) (Tl : List (Addr × Str)), (∀ p ∈ cs, TabF h (K w.params) p.1 p.2) ∧ (∀ p ∈ Tl, p.1 ∈ cs.map (·.2)) ∧ (∀ (s : Shared) (u : Value), BindsTo s fd ⟨[u], []⟩ [(x, u)]) ∧
        ∀ base : Heap, (K w.params).In base → base.Ns mainGlobals mg → (∀ p ∈ cs, LamX.TabB base mg p.1 p.2) → FnG l.prog w (K w.params) mg base (L2.CX l.prog w) k fa fd [x] (spR (K w.params) Tl 1 g))
    (want : ∀ ns : List Int, ns.length ≤ n → (∀ i ∈ ns, Builtin.Int.intBits i ≤ 1048576) → ∃ st, g [.scr (ns.map D.int)] [] = .ok (.bl true) st) :
    PySem.W.WalkO q loose XP YP l.row.toRowW d [] (fun f vs => PySem.call f vs) := by
  refine Att.attach_callB hn hdf ?_
  intro w s₀ s₁ mg mb fa o pm cd doc a vs ns G Y ho hd hcd hmg hobj hints hlen hbits hg
  have KX := hY w _ Y
  obtain ⟨fd, cs, Tl, hcs, hTl, hb, hF⟩ := F w mg fa _ Y KX G.T.g hmg
  exact head_call KX G.T.g G.T.b G.T.builtins G.T.nolimit hg G.T.bmain hr hcs hTl hobj hints (Nat.le_trans hlen hn2) hF hb (want ns hlen hbits)
end DL
end
section
/-! DL25: match by texts, for mirrors. -/
namespace DL
open PySem L2
def spats : List Str → D → Store → Option Bool
  | [], _, _ => some false
  | x :: r, d, st => match eqB d (.str x) st with
    | some true => some true
    | some false => spats r d st
    | none => none
def fcaseOr (xs : List Str) (f : FS) (g : D → FS) : D → FS := fun d env st => match spats xs d st with
  | some true => f env st
  | some false => g d env st
  | none => .stuck
def fcase1 (x : Str) (f : FS) (g : D → FS) : D → FS := fun d env st => match eqB d (.str x) st with
  | some true => f env st
  | some false => g d env st
  | none => .stuck
def fcaseAny (f : FS) (g : D → FS) : D → FS := fun d env st => f env st
end DL
end
section
/-! DLP1: plain data: sizes, texts. -/
namespace DL
open PySem L2 PyProof.Rows
mutual
/-- nothing but None, bools, ints, texts, tuples, lists; the ints have at most 62 digits -/
def good : D → Bool
  | .non => true
  | .bl _ => true
  | .int i => decide (i.natAbs < 10 ^ 62)
  | .str x => PyData.strOk x
  | .tup xs => goods xs
  | .lst xs => goods xs
  | .ty _ => false
  | .glb _ => false
  | .scr _ => false
  | .obj _ => false
  | .pr _ => false
def goods : List D → Bool
  | [] => true
  | x :: r => good x && goods r
end
mutual
/-- how long its text is at most -/
def wt : D → Nat
  | .int _ => 70
  | .str x => 10 * x.length + 10
  | .tup xs => 5 + wts xs
  | .lst xs => 5 + wts xs
  | .non => 10
  | .bl _ => 10
  | .ty _ => 10
  | .glb _ => 10
  | .scr _ => 10
  | .obj _ => 10
  | .pr _ => 10
def wts : List D → Nat
  | [] => 0
  | x :: r => wt x + 2 + wts r
end
mutual
/-- how deep it is nested -/
def dp : D → Nat
  | .tup xs => dps xs + 1
  | .lst xs => dps xs + 1
  | .non => 0
  | .bl _ => 0
  | .int _ => 0
  | .str _ => 0
  | .ty _ => 0
  | .glb _ => 0
  | .scr _ => 0
  | .obj _ => 0
  | .pr _ => 0
def dps : List D → Nat
  | [] => 0
  | x :: r => max (dp x) (dps r)
end
theorem goods_mem : ∀ {xs : List D} {x : D}, goods xs = true → x ∈ xs → good x = true
  | y :: r, x, h, m => by
    simp only [goods, Bool.and_eq_true] at h
    rcases List.mem_cons.mp m with rfl | m
    · exact h.1
    · exact goods_mem h.2 m
theorem goods_all : ∀ {xs : List D}, (∀ x ∈ xs, good x = true) → goods xs = true
  | [], _ => rfl
  | x :: r, h => by
    simp only [goods, h x List.mem_cons_self, goods_all fun y hy => h y (List.mem_cons_of_mem _ hy), Bool.and_self]
theorem goods_append {xs ys : List D} (h1 : goods xs = true) (h2 : goods ys = true) : goods (xs ++ ys) = true := goods_all fun x hx => by
  rcases List.mem_append.mp hx with m | m
  · exact goods_mem h1 m
  · exact goods_mem h2 m
theorem wts_append (xs ys : List D) : wts (xs ++ ys) = wts xs + wts ys := by
  induction xs with
  | nil => simp [wts]
  | cons x r ih => simp only [List.cons_append, wts, ih]; omega
theorem dps_append (xs ys : List D) : dps (xs ++ ys) = max (dps xs) (dps ys) := by
  induction xs with
  | nil => simp [dps]
  | cons x r ih => simp only [List.cons_append, dps, ih]; omega
theorem wt_mem : ∀ {xs : List D} {x : D}, x ∈ xs → wt x + 2 ≤ wts xs
  | y :: r, x, m => by
    simp only [wts]
    rcases List.mem_cons.mp m with rfl | m
    · omega
    · have := wt_mem m; omega
theorem dp_mem : ∀ {xs : List D} {x : D}, x ∈ xs → dp x ≤ dps xs
  | y :: r, x, m => by
    simp only [dps]
    rcases List.mem_cons.mp m with rfl | m
    · omega
    · have := dp_mem m; omega
theorem len_wts : ∀ xs : List D, xs.length ≤ wts xs
  | [] => Nat.zero_le _
  | x :: r => by simp only [List.length_cons, wts]; have := len_wts r; omega
/-! texts -/
theorem join_le (ts : List Str) : (Str.join ", " ts).length ≤ piled ts := by
  cases ts with
  | nil => decide +kernel
  | cons t r => have := join_length_add (t :: r) (by simp); omega
theorem tupleText_le (ts : List Str) : (tupleText ts).length ≤ piled ts + 3 := by
  unfold tupleText
  rw [strLen_append, strLen_append]
  have := join_le ts
  have e1 : ((("(" : String) : Str)).length = 1 := rfl
  have e2 : ((if ts.length == 1 then ",)" else ")" : String) : Str).length ≤ 2 := by split <;> decide +kernel
  omega
theorem listText_le (ts : List Str) : (listText ts).length ≤ piled ts + 3 := by
  rw [listText_eq_join, strLen_append, strLen_append]
  have := join_le ts
  have e1 : ((("[" : String) : Str)).length = 1 := rfl
  have e2 : ((("]" : String) : Str)).length = 1 := rfl
  omega
mutual
theorem good_P : ∀ {d : D}, good d = true → ∃ p, toP d = some p ∧ p.showable = true ∧ p.canLay0 = true ∧ p.depth = dp d ∧ p.shown.length ≤ wt d
  | .non, _ => ⟨.none, rfl, by simp [PyData.showable], by simp [PyData.canLay0], by simp [PyData.depth, dp], by rw [PyData.shown_none]; decide +kernel⟩
  | .bl b, _ => ⟨.bool b, rfl, by simp [PyData.showable], by simp [PyData.canLay0], by simp [PyData.depth, dp], by
      rw [PyData.shown_bool]; cases b <;> decide +kernel⟩
  | .int i, h => by
    simp only [good, decide_eq_true_eq] at h
    refine ⟨.int i, rfl, ?_, by simp [PyData.canLay0], by simp [PyData.depth, dp], ?_⟩
    · simp only [PyData.showable, decide_eq_true_eq]
      have h2 : i.natAbs < 2 ^ 1919 := Nat.lt_of_lt_of_le h (by decide +kernel)
      by_cases h0 : i.natAbs = 0
      · rw [h0]; decide
      · have := (Nat.log2_lt h0).mpr h2
        omega
    · rw [PyData.shown_int]
      have := int_text_length_le10 (k := 62) (by decide) h
      have e : ((toString i : String) : Str).length = (toString i).length := PySem.ofString_length _
      show ((toString i : String) : Str).length ≤ 70
      omega
  | .str x, h => by
    simp only [good] at h
    refine ⟨.str x, rfl, by simp [PyData.showable], by simpa [PyData.canLay0] using h, by simp [PyData.depth, dp], ?_⟩
    have hx : ∀ c ∈ x.cps.toList, c < 16 ^ 8 := fun c hc => by
      unfold PyData.strOk at h
      rw [Array.all_eq_true_iff_forall_mem] at h
      have := h c (by simpa using hc)
      have := of_decide_eq_true this
      omega
    have := PySem.StrLaws.reprText_len x hx
    simp only [PyData.shown, wt]
    omega
  | .tup xs, h => by
    simp only [good] at h
    obtain ⟨ps, e, h1, h2, h3, h4⟩ := goods_P h
    refine ⟨.tuple ps, by simp [toP, e], by simpa [PyData.showable] using h1, by simpa [PyData.canLay0] using h2, by simp [PyData.depth, dp, h3], ?_⟩
    have := tupleText_le (PyData.shownAll ps)
    simp only [PyData.shown, wt]
    omega
  | .lst xs, h => by
    simp only [good] at h
    obtain ⟨ps, e, h1, h2, h3, h4⟩ := goods_P h
    refine ⟨.list ps, by simp [toP, e], by simpa [PyData.showable] using h1, by simpa [PyData.canLay0] using h2, by simp [PyData.depth, dp, h3], ?_⟩
    have := listText_le (PyData.shownAll ps)
    simp only [PyData.shown, wt]
    omega
  | .ty _, h => by cases h
  | .glb _, h => by cases h
  | .scr _, h => by cases h
  | .obj _, h => by cases h
theorem goods_P : ∀ {ds : List D}, goods ds = true → ∃ ps, toPs ds = some ps ∧ PyData.showableAll ps = true ∧ PyData.canLayAll0 ps = true ∧ PyData.depthAll ps = dps ds ∧ piled (PyData.shownAll ps) ≤ wts ds
  | [], _ => ⟨[], rfl, rfl, rfl, rfl, Nat.le_refl _⟩
  | d :: ds, h => by
    simp only [goods, Bool.and_eq_true] at h
    obtain ⟨p, a1, a2, a3, a4, a5⟩ := good_P h.1
    obtain ⟨ps, b1, b2, b3, b4, b5⟩ := goods_P h.2
    refine ⟨p :: ps, by simp [toPs, a1, b1], by simp [PyData.showableAll, a2, b2], by simp [PyData.canLayAll0, a3, b3], by simp [PyData.depthAll, dps, a4, b4], ?_⟩
    simp only [PyData.shownAll, piled_cons, wts]
    omega
end
end DL
end
section
/-! DLQ: the combinators, step by step, for simp. -/
namespace DL
open PySem L2
section
variable {α β : Type} {a : α} {st : Store} {env : Env'} {fa fb fc : FF D} {fs fk : FF (List D)} {ta tb : FF Bool} {s1 s2 : FS}
@[simp] theorem bind_ok (k : α → Store → Res β) : (Res.ok a st).bind k = k a st := rfl
@[simp] theorem bind_stuck (k : α → Store → Res β) : (Res.stuck : Res α).bind k = .stuck := rfl
@[simp] theorem toS_ok (k : α → Store → RS) : (Res.ok a st).toS env k = k a st := rfl
@[simp] theorem toS_stuck (k : α → Store → RS) : (Res.stuck : Res α).toS env k = .stuck := rfl
@[simp] theorem fvar0 (d : D) : fvar 0 (some d :: env) st = .ok d st := rfl
@[simp] theorem fvarS (o : Option D) (i : Nat) : fvar (i + 1) (o :: env) st = fvar i env st := rfl
@[simp] theorem fvar1 (o : Option D) : fvar 1 (o :: env) st = fvar 0 env st := rfl
@[simp] theorem fvar2 (o : Option D) : fvar 2 (o :: env) st = fvar 1 env st := rfl
@[simp] theorem fvar3 (o : Option D) : fvar 3 (o :: env) st = fvar 2 env st := rfl
@[simp] theorem fvar4 (o : Option D) : fvar 4 (o :: env) st = fvar 3 env st := rfl
@[simp] theorem fvar5 (o : Option D) : fvar 5 (o :: env) st = fvar 4 env st := rfl
@[simp] theorem fvar6 (o : Option D) : fvar 6 (o :: env) st = fvar 5 env st := rfl
@[simp] theorem fvar7 (o : Option D) : fvar 7 (o :: env) st = fvar 6 env st := rfl
@[simp] theorem fvar8 (o : Option D) : fvar 8 (o :: env) st = fvar 7 env st := rfl
@[simp] theorem fvar9 (o : Option D) : fvar 9 (o :: env) st = fvar 8 env st := rfl
@[simp] theorem fvar10 (o : Option D) : fvar 10 (o :: env) st = fvar 9 env st := rfl
@[simp] theorem fvar11 (o : Option D) : fvar 11 (o :: env) st = fvar 10 env st := rfl
@[simp] theorem fvar12 (o : Option D) : fvar 12 (o :: env) st = fvar 11 env st := rfl
@[simp] theorem fvar13 (o : Option D) : fvar 13 (o :: env) st = fvar 12 env st := rfl
@[simp] theorem fvar14 (o : Option D) : fvar 14 (o :: env) st = fvar 13 env st := rfl
@[simp] theorem fcon_ (d : D) : fcon d env st = .ok d st := rfl
@[simp] theorem fnil_ : fnil env st = .ok [] st := rfl
@[simp] theorem fcons_ : fcons fa fs env st = (fa env st).bind fun d st1 => (fs env st1).bind fun ds st2 => .ok (d :: ds) st2 := rfl
@[simp] theorem fapp_ : fapp fs fk env st = (fs env st).bind fun ds st1 => (fk env st1).bind fun es st2 => .ok (ds ++ es) st2 := rfl
@[simp] theorem fcallO_ (g : Sem1) : fcallO g fs env st = (fs env st).bind fun ds st1 => ofO (g ds st1) := rfl
@[simp] theorem fcallX_ (g : SemX) : fcallX g fs env st = (fs env st).bind fun ds st1 => g ds st1 := rfl
@[simp] theorem endX_exc (x : XD) : endX (.exc x env st) = .exc x st := rfl
@[simp] theorem bind_exc (x : XD) (k : α → Store → Res β) : (Res.exc x st).bind k = .exc x st := rfl
@[simp] theorem toS_exc (x : XD) (k : α → Store → RS) : (Res.exc x st : Res α).toS env k = .exc x env st := rfl
@[simp] theorem fraise_ (x : Str) (fl : List Str) : fraise x fl fs env st = (fs env st).toS env fun ds st1 => if ds.length = fl.length then .exc ⟨x, (fl.zip ds).reverse⟩ env st1 else .stuck := rfl
@[simp] theorem ofO_some (d : D) : ofO (some (d, st)) = .ok d st := rfl
@[simp] theorem ofO_none : ofO (none : Option (D × Store)) = .stuck := rfl
@[simp] theorem fbin_ (g : D → D → Store → Res D) : fbin g fa fb env st = (fa env st).bind fun x st1 => (fb env st1).bind fun y st2 => g x y st2 := rfl
@[simp] theorem ftup_ : ftup fs env st = (fs env st).bind fun ds st1 => if ds.length ≤ 16777216 then .ok (.tup ds) st1 else .stuck := rfl
@[simp] theorem flst_ (m : Bool) : flst m fs env st = (fs env st).bind fun ds st1 => if ds.length ≤ 16777216 then (if m then .ok (.obj st1.length) (st1 ++ [.lst ds]) else .ok (.lst ds) st1) else .stuck := rfl
@[simp] theorem fseq_ : fseq s1 s2 env st = match s1 env st with
    | .nx env1 st1 => s2 env1 st1
    | r => r := rfl
@[simp] theorem fskip_ : fskip env st = .nx env st := rfl
@[simp] theorem fret_ : fret fa env st = (fa env st).toS env fun d st1 => .rt d st1 := rfl
@[simp] theorem fdrop_ : fdrop fa env st = (fa env st).toS env fun _ st1 => .nx env st1 := rfl
@[simp] theorem fifS_ : fifS ta s1 s2 env st = (ta env st).toS env fun k st1 => if k then s1 env st1 else s2 env st1 := rfl
@[simp] theorem fif_ : fif ta fa fb env st = (ta env st).bind fun k st1 => if k then fa env st1 else fb env st1 := rfl
@[simp] theorem fnot_ : fnot ta env st = (ta env st).bind fun k st1 => .ok (!k) st1 := rfl
@[simp] theorem fand_ : fand ta tb env st = (ta env st).bind fun k st1 => if k then tb env st1 else .ok false st1 := rfl
@[simp] theorem for__ : for_ ta tb env st = (ta env st).bind fun k st1 => if k then .ok true st1 else tb env st1 := rfl
@[simp] theorem fasg_ (g : FG) : fasg fa g env st = (fa env st).toS env fun d st1 => Opt.toS (g d env st1) := rfl
@[simp] theorem optS_some (p : Env' × Store) : Opt.toS (some p) = .nx p.1 p.2 := rfl
@[simp] theorem gname_ (i : Nat) (d : D) : gname i d env st = some (env.set i (some d), st) := rfl
@[simp] theorem fmatch_ (g : D → FS) : fmatch fa g env st = (fa env st).toS env fun d st1 => g d env st1 := rfl
@[simp] theorem endX_rt (d : D) : endX (.rt d st) = .ok d st := rfl
@[simp] theorem endX_nx : endX (.nx env st) = .ok .non st := rfl
@[simp] theorem fandV_ : fandV fa fb env st = (fa env st).bind fun d st1 => match d with
    | .bl true => fb env st1
    | .bl false => .ok (.bl false) st1
    | _ => .stuck := rfl
@[simp] theorem forV_ : forV fa fb env st = (fa env st).bind fun d st1 => match d with
    | .bl true => .ok (.bl true) st1
    | .bl false => fb env st1
    | _ => .stuck := rfl
@[simp] theorem fnotV_ : fnotV fa env st = (fa env st).bind fun d st1 => match d with
    | .bl k => .ok (.bl (!k)) st1
    | _ => .stuck := rfl
@[simp] theorem fneg_ : fneg fa env st = (fa env st).bind fun d st1 => match d with
    | .int i => .ok (.int (-i)) st1
    | _ => .stuck := rfl
@[simp] theorem fbool_ : fbool fa env st = (fa env st).bind fun d st1 => match d with
    | .bl k => .ok k st1
    | _ => .stuck := rfl
@[simp] theorem ftru_ : ftru fa env st = (fa env st).bind fun d st1 => match truD st1 d with
    | some k => .ok k st1
    | none => .stuck := rfl
@[simp] theorem fchain_ (g g' : D → D → Store → Res D) : fchain g g' fa fb fc env st = (fa env st).bind fun x st1 => (fb env st1).bind fun y st2 => (g x y st2).bind fun k st3 => match k with
    | .bl true => (fc env st3).bind fun z st4 => g' y z st4
    | .bl false => .ok (.bl false) st3
    | _ => .stuck := rfl
theorem fandV_bl {b c : Bool} (h1 : fa env st = .ok (.bl b) st) (h2 : b = true → fb env st = .ok (.bl c) st) : fandV fa fb env st = .ok (.bl (b && c)) st := by
  rw [fandV_, h1]
  cases b with
  | true => simpa using h2 rfl
  | false => rfl
end
/-! what the built-ins say of plain values -/
@[simp] theorem truD_bl (st : Store) (b : Bool) : truD st (.bl b) = some b := rfl
@[simp] theorem ge_int (i j : Int) (st : Store) : cmpD .GtE (.int i) (.int j) st = .ok (.bl (decide (j ≤ i))) st := rfl
@[simp] theorem gt_int (i j : Int) (st : Store) : cmpD .Gt (.int i) (.int j) st = .ok (.bl (decide (j < i))) st := rfl
@[simp] theorem le_int (i j : Int) (st : Store) : cmpD .LtE (.int i) (.int j) st = .ok (.bl (decide (i ≤ j))) st := rfl
@[simp] theorem lt_int (i j : Int) (st : Store) : cmpD .Lt (.int i) (.int j) st = .ok (.bl (decide (i < j))) st := rfl
@[simp] theorem eq_int (i j : Int) (st : Store) : cmpD .Eq (.int i) (.int j) st = .ok (.bl (i == j)) st := rfl
@[simp] theorem len_tup (xs : List D) (st : Store) : lenD [.tup xs] st = some (.int xs.length, st) := rfl
@[simp] theorem add_int (i j : Int) (st : Store) : binD2 .Add (.int i) (.int j) st = .ok (.int (i + j)) st := rfl
@[simp] theorem sub_int (i j : Int) (st : Store) : binD2 .Sub (.int i) (.int j) st = .ok (.int (i - j)) st := rfl
@[simp] theorem int_int (i : Int) (st : Store) : intD [.int i] st = some (.int i, st) := rfl
@[simp] theorem isi_non_int (st : Store) : isiD [.non, .ty "int"] st = some (.bl false, st) := rfl
@[simp] theorem isi_non_bool (st : Store) : isiD [.non, .ty "bool"] st = some (.bl false, st) := rfl
@[simp] theorem isi_non_str (st : Store) : isiD [.non, .ty "str"] st = some (.bl false, st) := rfl
@[simp] theorem isi_non_tuple (st : Store) : isiD [.non, .ty "tuple"] st = some (.bl false, st) := rfl
@[simp] theorem isi_non_list (st : Store) : isiD [.non, .ty "list"] st = some (.bl false, st) := rfl
@[simp] theorem isi_bl_int (b : Bool) (st : Store) : isiD [(.bl b), .ty "int"] st = some (.bl true, st) := rfl
@[simp] theorem isi_bl_bool (b : Bool) (st : Store) : isiD [(.bl b), .ty "bool"] st = some (.bl true, st) := rfl
@[simp] theorem isi_bl_str (b : Bool) (st : Store) : isiD [(.bl b), .ty "str"] st = some (.bl false, st) := rfl
@[simp] theorem isi_bl_tuple (b : Bool) (st : Store) : isiD [(.bl b), .ty "tuple"] st = some (.bl false, st) := rfl
@[simp] theorem isi_bl_list (b : Bool) (st : Store) : isiD [(.bl b), .ty "list"] st = some (.bl false, st) := rfl
@[simp] theorem isi_int_int (i : Int) (st : Store) : isiD [(.int i), .ty "int"] st = some (.bl true, st) := rfl
@[simp] theorem isi_int_bool (i : Int) (st : Store) : isiD [(.int i), .ty "bool"] st = some (.bl false, st) := rfl
@[simp] theorem isi_int_str (i : Int) (st : Store) : isiD [(.int i), .ty "str"] st = some (.bl false, st) := rfl
@[simp] theorem isi_int_tuple (i : Int) (st : Store) : isiD [(.int i), .ty "tuple"] st = some (.bl false, st) := rfl
@[simp] theorem isi_int_list (i : Int) (st : Store) : isiD [(.int i), .ty "list"] st = some (.bl false, st) := rfl
@[simp] theorem isi_str_int (x : Str) (st : Store) : isiD [(.str x), .ty "int"] st = some (.bl false, st) := rfl
@[simp] theorem isi_str_bool (x : Str) (st : Store) : isiD [(.str x), .ty "bool"] st = some (.bl false, st) := rfl
@[simp] theorem isi_str_str (x : Str) (st : Store) : isiD [(.str x), .ty "str"] st = some (.bl true, st) := rfl
@[simp] theorem isi_str_tuple (x : Str) (st : Store) : isiD [(.str x), .ty "tuple"] st = some (.bl false, st) := rfl
@[simp] theorem isi_str_list (x : Str) (st : Store) : isiD [(.str x), .ty "list"] st = some (.bl false, st) := rfl
@[simp] theorem isi_tup_int (xs : List D) (st : Store) : isiD [(.tup xs), .ty "int"] st = some (.bl false, st) := rfl
@[simp] theorem isi_tup_bool (xs : List D) (st : Store) : isiD [(.tup xs), .ty "bool"] st = some (.bl false, st) := rfl
@[simp] theorem isi_tup_str (xs : List D) (st : Store) : isiD [(.tup xs), .ty "str"] st = some (.bl false, st) := rfl
@[simp] theorem isi_tup_tuple (xs : List D) (st : Store) : isiD [(.tup xs), .ty "tuple"] st = some (.bl true, st) := rfl
@[simp] theorem isi_tup_list (xs : List D) (st : Store) : isiD [(.tup xs), .ty "list"] st = some (.bl false, st) := rfl
@[simp] theorem isi_lst_int (xs : List D) (st : Store) : isiD [(.lst xs), .ty "int"] st = some (.bl false, st) := rfl
@[simp] theorem isi_lst_bool (xs : List D) (st : Store) : isiD [(.lst xs), .ty "bool"] st = some (.bl false, st) := rfl
@[simp] theorem isi_lst_str (xs : List D) (st : Store) : isiD [(.lst xs), .ty "str"] st = some (.bl false, st) := rfl
@[simp] theorem isi_lst_tuple (xs : List D) (st : Store) : isiD [(.lst xs), .ty "tuple"] st = some (.bl false, st) := rfl
@[simp] theorem isi_lst_list (xs : List D) (st : Store) : isiD [(.lst xs), .ty "list"] st = some (.bl true, st) := rfl
end DL
end
section
/-! DLQ2: comprehensions and loops over what stands still. -/
namespace DL
open PySem L2
/-- a comprehension with a test: what is kept -/
theorem lcL_pure {chk : Store → Bool} {c : CT} {tt : FF Bool} {te : FF D} {env0 : Env'} {st : Store} {p : D → Bool} {g : D → D} (hc : chk st = true) : ∀ (l acc : List D),
    (∀ x ∈ l, ∃ env1, bindT c x env0 = some env1 ∧ tt env1 st = .ok (p x) st ∧ (p x = true → te env1 st = .ok (g x) st)) → acc.length + l.length ≤ 16777216 →
    lcL chk c tt te env0 l acc st = some (acc ++ (l.filter p).map g, st)
  | [], acc, _, _ => by simp [lcL, hc]
  | x :: l, acc, h, hl => by
    obtain ⟨env1, h1, h2, h3⟩ := h x List.mem_cons_self
    simp only [List.length_cons] at hl
    unfold lcL
    rw [if_pos hc, h1]
    simp only [h2]
    cases hp : p x with
    | true =>
      simp only [h3 hp]
      rw [if_pos (by omega), lcL_pure hc l _ (fun y hy => h y (List.mem_cons_of_mem _ hy)) (by simp; omega)]
      simp [List.filter_cons, hp]
    | false =>
      simp only
      rw [lcL_pure hc l _ (fun y hy => h y (List.mem_cons_of_mem _ hy)) (by omega)]
      simp [List.filter_cons, hp]
/-- the signs of a text -/
def signs (x : Str) : List D := x.cps.toList.map fun c => .str ⟨#[c]⟩
theorem signs_len (x : Str) : (signs x).length = x.length := by simp [signs, Str.length]
theorem lc_str {tt : FF Bool} {te : FF D} {fe : FF D} {env : Env'} {st : Store} {x : Str} {i : Nat} {p : D → Bool} {g : D → D} (h0 : fe env st = .ok (.str x) st) (hl : x.length ≤ 16777216)
    (h : ∀ c ∈ x.cps.toList, ∀ env1, env1 = (env.set i none).set i (some (.str ⟨#[c]⟩)) → tt env1 st = .ok (p (.str ⟨#[c]⟩)) st ∧ (p (.str ⟨#[c]⟩) = true → te env1 st = .ok (g (.str ⟨#[c]⟩)) st)) :
    flc false (fitems fe) (.one i) tt te [i] env st = .ok (.lst (((signs x).filter p).map g)) st := by
  unfold flc fitems
  rw [h0]
  simp only [bind_ok, itemsD]
  rw [lcL_pure (p := p) (g := g) rfl _ [] (fun d hd => ?_) (by simpa [Str.length] using hl)]
  · simp [signs]
  · obtain ⟨c, hc, rfl⟩ := List.mem_map.mp hd
    exact ⟨_, rfl, h c hc _ rfl⟩
theorem all_bls : ∀ bs : List Bool, blsOf (bs.map D.bl) = some bs
  | [] => rfl
  | b :: bs => by simp [blsOf, all_bls bs]
end DL
end
section
/-! DLQ3: ==, repr of plain data. -/
namespace DL
open PySem L2 PyProof.Rows
theorem toPS_good {d : D} (st : Store) (h : good d = true) : toPS st d = toP d := by
  cases d <;> first | rfl | cases h
theorem shaped_good {d : D} {p : PyData} (h : good d = true) (e : toP d = some p) (hd : dp d ≤ 64) : SeqAt.shaped p = true ∧ p.showable = true ∧ p.shown.length ≤ wt d := by
  obtain ⟨q, e1, h1, h2, h3, h4⟩ := good_P h
  rw [e] at e1
  cases e1
  refine ⟨?_, h1, h4⟩
  unfold SeqAt.shaped
  rw [h2, h3]
  simpa using hd
/-- == of plain data -/
theorem eq_good {x y : D} {p q : PyData} (neg : Bool) (st : Store) (hx : good x = true) (hy : good y = true) (dx : dp x ≤ 64) (dy : dp y ≤ 64) (ex : toP x = some p) (ey : toP y = some q) :
    eqD neg x y st = .ok (.bl (if neg then !PyData.eqv p q else PyData.eqv p q)) st := by
  unfold eqD
  rw [toPS_good st hx, toPS_good st hy, ex, ey]
  simp only [(shaped_good hx ex dx).1, (shaped_good hy ey dy).1, Bool.and_self, if_true]
theorem toPs_nil {ds : List D} {ps : List PyData} (e : toPs ds = some ps) : ps.isEmpty = ds.isEmpty := by
  cases ds with
  | nil => cases e; rfl
  | cons d ds =>
    unfold toPs at e
    split at e
    · cases e; rfl
    · cases e
theorem eqvAll_nil (ps : List PyData) : PyData.eqvAll ps [] = ps.isEmpty := by
  cases ps <;> simp [PyData.eqvAll]
theorem eq_nilL {ds : List D} (neg : Bool) (st : Store) (h : goods ds = true) (hd : dps ds ≤ 63) : eqD neg (.lst ds) (.lst []) st = .ok (.bl (if neg then !ds.isEmpty else ds.isEmpty)) st := by
  obtain ⟨ps, e, -⟩ := goods_P h
  rw [eq_good neg st (x := .lst ds) (y := .lst []) (p := .list ps) (q := .list []) h rfl (by simp only [dp]; omega) (by decide) (by simp [toP, e]) rfl]
  simp only [PyData.eqv, eqvAll_nil, toPs_nil e]
theorem eq_nilT {x : D} (neg : Bool) (st : Store) (h : good x = true) (hd : dp x ≤ 64) : eqD neg x (.tup []) st = .ok (.bl (if neg then !(match x with | .tup xs => xs.isEmpty | _ => false) else (match x with | .tup xs => xs.isEmpty | _ => false))) st := by
  obtain ⟨p, e, -⟩ := good_P h
  rw [eq_good neg st (y := .tup []) (q := .tuple []) h rfl hd (by decide) e rfl]
  cases x with
  | tup xs =>
    simp only [toP, Option.map_eq_some_iff] at e
    obtain ⟨ps, e1, rfl⟩ := e
    simp only [PyData.eqv, eqvAll_nil, toPs_nil e1]
  | lst xs =>
    simp only [toP, Option.map_eq_some_iff] at e
    obtain ⟨ps, e1, rfl⟩ := e
    simp only [PyData.eqv]
  | _ => first | (cases e; simp only [PyData.eqv]; done) | cases h
/-- repr of plain data -/
theorem repr_good {x : D} {p : PyData} (st : Store) (h : good x = true) (hd : dp x ≤ 64) (hw : wt x ≤ 16777216) (e : toP x = some p) : reprD [x] st = some (.str p.shown, st) := by
  unfold reprD
  dsimp only
  rw [toPS_good st h, e]
  obtain ⟨h1, h2, h3⟩ := shaped_good h e hd
  simp only [h1, h2, Bool.and_self, Bool.true_and, decide_eq_true_eq]
  rw [if_pos (by omega)]
/-! which texts are the repr of a word -/
theorem flat_id {q : Nat} {L : List Nat} (h92 : 92 ∉ L) : ∀ {l : List Nat}, l.flatMap (Builtin.Str.reprChar q) = L → l = L := by
  intro l e
  have one : ∀ c, Builtin.Str.reprChar q c = [c] ∨ 92 ∈ Builtin.Str.reprChar q c := fun c => by
    unfold Builtin.Str.reprChar
    dsimp only
    split
    · right; simp
    · split
      · right; simp
      · split
        · right; simp
        · split
          · right; simp
          · split
            · left; rfl
            · split
              · right; simp
              · split
                · right; simp
                · right; simp
  have all1 : ∀ c ∈ l, Builtin.Str.reprChar q c = [c] := fun c hc => by
    rcases one c with h | h
    · exact h
    · refine absurd ?_ h92
      rw [← e]
      exact List.mem_flatMap.mpr ⟨c, hc, h⟩
  rw [← e]
  clear e
  induction l with
  | nil => rfl
  | cons c l ih =>
    rw [List.flatMap_cons, all1 c List.mem_cons_self]
    simp only [List.cons_append, List.nil_append]
    congr 1
    exact ih fun c hc => all1 c (List.mem_cons_of_mem _ hc)
theorem foldl_flat (q : Nat) : ∀ (l : List Nat) (acc : Array Nat), (l.foldl (fun out c => out ++ (Builtin.Str.reprChar q c).toArray) acc).toList = acc.toList ++ l.flatMap (Builtin.Str.reprChar q)
  | [], acc => by simp
  | c :: l, acc => by
    rw [List.foldl_cons, foldl_flat q l, List.flatMap_cons]
    simp
theorem reprText_list (x : Str) : (reprText x).cps.toList = reprQuote x :: (x.cps.toList.flatMap (Builtin.Str.reprChar (reprQuote x)) ++ [reprQuote x]) := by
  unfold reprText
  simp only [Array.toList_push, ← Array.foldl_toList, foldl_flat]
  simp
/-- repr of a plain word w: between two ' -/
theorem repr_word {x : Str} {w : List Nat} (h92 : 92 ∉ w) (h : (reprText x).cps.toList = 39 :: (w ++ [39])) : x.cps.toList = w := by
  rw [reprText_list] at h
  simp only [List.cons.injEq] at h
  obtain ⟨h1, h2⟩ := h
  rw [h1] at h2
  exact flat_id h92 (List.append_cancel_right h2)
/-- whose repr is the text of such a word: that word alone -/
theorem shown_word {d : D} {p : PyData} {y : Str} {w : Str} (h92 : 92 ∉ w.cps.toList) (e : toP d = some p) (hy : y.cps.toList = 39 :: (w.cps.toList ++ [39])) (hr : reprText w = y) : (p.shown == y) = (match d with | .str x => x == w | _ => false) := by
  have key : ∀ {z : Str}, 39 ∉ z.cps.toList → (z == y) = false := fun {z} hz => by
    rw [beq_eq_false_iff_ne]
    rintro rfl
    exact hz (by rw [hy]; exact List.mem_cons_self)
  cases d with
  | non => cases e; exact key (by rw [PyData.shown_none]; decide +kernel)
  | bl b => cases e; exact key (by rw [PyData.shown_bool]; cases b <;> decide +kernel)
  | int i => cases e; exact key (by rw [PyData.shown_int]; exact fun h => (intText_free_39 i).mp h)
  | str x =>
    cases e
    show (reprText x == y) = (x == w)
    rw [Bool.eq_iff_iff, beq_iff_eq, beq_iff_eq]
    constructor
    · intro h
      refine str_ext (repr_word h92 ?_)
      rw [h, hy]
    · rintro rfl
      exact hr
  | tup xs =>
    simp only [toP, Option.map_eq_some_iff] at e
    obtain ⟨ps, e1, rfl⟩ := e
    show ((PyData.tuple ps).shown == y) = false
    rw [beq_eq_false_iff_ne]
    intro h
    have h2 := congrArg (fun s : Str => s.cps.toList.head?) h
    simp only [PyData.shown, hy, List.head?_cons] at h2
    unfold tupleText at h2
    have h3 : ((("(" : String) : Str) ++ Str.join ", " (PyData.shownAll ps) ++ ((if (PyData.shownAll ps).length == 1 then ",)" else ")" : String) : Str)).cps.toList.head? = some 40 := by
      simp only [Str.cps_append, Array.toList_append]
      rfl
    rw [h3] at h2
    cases h2
  | lst xs =>
    simp only [toP, Option.map_eq_some_iff] at e
    obtain ⟨ps, e1, rfl⟩ := e
    show ((PyData.list ps).shown == y) = false
    rw [beq_eq_false_iff_ne]
    intro h
    have h2 := congrArg (fun s : Str => s.cps.toList.head?) h
    simp only [PyData.shown, hy, List.head?_cons] at h2
    rw [listText_eq_join] at h2
    have h3 : ((("[" : String) : Str) ++ Str.join ", " (PyData.shownAll ps) ++ (("]" : String) : Str)).cps.toList.head? = some 91 := by
      simp only [Str.cps_append, Array.toList_append]
      rfl
    rw [h3] at h2
    cases h2
  | _ => cases e
end DL
end
section
/-! ELQ4: the texts of plain data are texts. -/
namespace DL
open PySem L2 PyProof.Rows
theorem ok_iff {x : Str} : PyData.strOk x = true ↔ ∀ c ∈ x.cps.toList, c < 0x110000 := by
  unfold PyData.strOk
  rw [Array.all_eq_true_iff_forall_mem]
  constructor
  · intro h c hc
    have := h c (by simpa using hc)
    exact of_decide_eq_true this
  · intro h c hc
    exact decide_eq_true (h c (by simpa using hc))
theorem ok_append {x y : Str} (h1 : PyData.strOk x = true) (h2 : PyData.strOk y = true) : PyData.strOk (x ++ y) = true := by
  rw [ok_iff] at h1 h2 ⊢
  intro c hc
  simp only [Str.cps_append, Array.toList_append] at hc
  rcases List.mem_append.mp hc with m | m
  · exact h1 c m
  · exact h2 c m
theorem ok_join : ∀ {ts : List Str}, (∀ t ∈ ts, PyData.strOk t = true) → PyData.strOk (Str.join ", " ts) = true
  | [], _ => by decide +kernel
  | [t], h => h t List.mem_cons_self
  | t :: u :: r, h => by
    show PyData.strOk (t ++ ", " ++ Str.join ", " (u :: r)) = true
    exact ok_append (ok_append (h t List.mem_cons_self) (by decide +kernel)) (ok_join fun x hx => h x (List.mem_cons_of_mem _ hx))
theorem ok_char {q c d : Nat} (hq : q < 0x110000) (hc : c < 0x110000) (h : d ∈ Builtin.Str.reprChar q c) : d < 0x110000 := by
  have hx : ∀ w, d ∈ List.replicate (w - ((Nat.toDigits 16 c).map Char.toNat).length) 48 ++ (Nat.toDigits 16 c).map Char.toNat → d < 0x110000 := by
    intro w m
    rcases List.mem_append.mp m with m | m
    · rw [List.mem_replicate] at m; omega
    · obtain ⟨ch, -, rfl⟩ := List.mem_map.mp m
      have := ch.valid
      have e : ch.toNat = ch.val.toNat := rfl
      rcases this with v | v
      · rw [e]
        have : ch.val.toNat < 0xd800 := v
        omega
      · rw [e]
        exact v.2
  unfold Builtin.Str.reprChar at h
  dsimp only at h
  split at h
  · simp at h; omega
  · split at h
    · simp at h; omega
    · split at h
      · simp at h; omega
      · split at h
        · simp at h; omega
        · split at h
          · simp at h; omega
          · split at h
            · rcases List.mem_append.mp h with m | m
              · simp at m; omega
              · exact hx 2 m
            · split at h
              · rcases List.mem_append.mp h with m | m
                · simp at m; omega
                · exact hx 4 m
              · rcases List.mem_append.mp h with m | m
                · simp at m; omega
                · exact hx 8 m
theorem quote_lt (x : Str) : reprQuote x < 0x110000 := by
  unfold reprQuote
  split <;> decide
theorem ok_repr {x : Str} (h : PyData.strOk x = true) : PyData.strOk (reprText x) = true := by
  rw [ok_iff] at h ⊢
  intro c hc
  rw [reprText_list] at hc
  rcases List.mem_cons.mp hc with rfl | m
  · exact quote_lt x
  · rcases List.mem_append.mp m with m | m
    · obtain ⟨d, hd, m⟩ := List.mem_flatMap.mp m
      exact ok_char (quote_lt x) (h d hd) m
    · simp at m
      subst m
      exact quote_lt x
mutual
theorem ok_shown : ∀ {p : PyData}, p.canLay0 = true → PyData.strOk p.shown = true
  | .none, _ => by rw [PyData.shown_none]; decide +kernel
  | .bool b, _ => by rw [PyData.shown_bool]; cases b <;> decide +kernel
  | .int i, _ => by
    rw [PyData.shown_int, ok_iff]
    intro c hc
    by_cases h : c < 0x110000
    · exact h
    · exact absurd hc (int_text_free' c ⟨by omega, by omega⟩ i)
  | .str x, h => by
    simp only [PyData.shown]
    exact ok_repr (by simpa [PyData.canLay0] using h)
  | .list xs, h => by
    simp only [PyData.shown]
    rw [listText_eq_join]
    exact ok_append (ok_append (by decide +kernel) (ok_join (oks_shown (by simpa [PyData.canLay0] using h)))) (by decide +kernel)
  | .tuple xs, h => by
    simp only [PyData.shown]
    unfold tupleText
    refine ok_append (ok_append (by decide +kernel) (ok_join (oks_shown (by simpa [PyData.canLay0] using h)))) ?_
    split <;> decide +kernel
  | .dict _, h => by simp [PyData.canLay0] at h
theorem oks_shown : ∀ {ps : List PyData}, PyData.canLayAll0 ps = true → ∀ t ∈ PyData.shownAll ps, PyData.strOk t = true
  | [], _, t, m => by simp [PyData.shownAll] at m
  | p :: ps, h, t, m => by
    simp only [PyData.canLayAll0, Bool.and_eq_true] at h
    simp only [PyData.shownAll, List.mem_cons] at m
    rcases m with rfl | m
    · exact ok_shown h.1
    · exact oks_shown h.2 t m
end
theorem eq_strD (neg : Bool) (w z : Str) (st : Store) (hw : PyData.strOk w = true) (hz : PyData.strOk z = true) : eqD neg (.str w) (.str z) st = .ok (.bl (if neg then !(w == z) else w == z)) st := by
  rw [eq_good neg st (x := .str w) (y := .str z) (p := .str w) (q := .str z) (by simpa [good] using hw) (by simpa [good] using hz) (by simp [dp]) (by simp [dp]) rfl rfl]
  simp only [PyData.eqv]
end DL
end
section
/-! ELQ5: upper of a text is a text; bounds of what is put together. -/
namespace DL
open PySem L2 PyProof.Rows
theorem placed_mem {x : Str} {f : Nat → Nat → List Nat} {d : Nat} (h : d ∈ (placed x f).toList) : ∃ i c, c ∈ x.cps.toList ∧ d ∈ f i c := by
  unfold placed at h
  rw [Array.toList_flatten] at h
  obtain ⟨l, hl, hd⟩ := List.mem_flatten.mp h
  obtain ⟨a, ha, rfl⟩ := List.mem_map.mp hl
  rw [Array.mem_toList_iff, Array.mem_mapIdx] at ha
  obtain ⟨i, hi, rfl⟩ := ha
  exact ⟨i, x.cps[i], by simp, by simpa using hd⟩
theorem shifted_lt : ∀ {l : List (Nat × Nat × Nat)} {c d : Nat}, (l.all fun q => decide (q.2.2 + (q.2.1 - q.1) < 0x110000)) = true → Unicode.shifted l c = some d → d < 0x110000
  | [], _, _, _, e => by cases e
  | (a, b, t) :: r, c, d, h, e => by
    rw [List.all_cons, Bool.and_eq_true, decide_eq_true_eq] at h
    unfold Unicode.shifted at e
    split at e
    · cases e
    · split at e
      · cases e
        have := h.1
        simp only at this
        omega
      · exact shifted_lt h.2 e
theorem upper_lt {c d : Nat} (hc : c < 0x110000) (h : d ∈ Unicode.upperOf c) : d < 0x110000 := by
  unfold Unicode.upperOf Unicode.image at h
  split at h
  · rename_i cs hl
    have := PySem.StrLaws.lookup_all (p := fun l => l.all fun d => decide (d < 0x110000)) UnicodeData.severalUpper c cs (by decide +kernel) hl
    rw [List.all_eq_true] at this
    exact of_decide_eq_true (this d h)
  · simp only [List.mem_singleton] at h
    cases hs : Unicode.shifted UnicodeData.oneUpper c with
    | none => rw [hs] at h; simp at h; omega
    | some e =>
      rw [hs] at h
      simp only [Option.getD_some] at h
      rw [h]
      exact shifted_lt (by decide +kernel) hs
theorem ok_upper {x : Str} (h : PyData.strOk x = true) : PyData.strOk (Txt.upper x) = true := by
  rw [ok_iff] at h ⊢
  intro d hd
  obtain ⟨i, c, hc, hd⟩ := placed_mem (show d ∈ (placed x fun _ c => Unicode.upperOf c).toList from hd)
  exact upper_lt (h c hc) hd
/-! parts of lists -/
theorem wts_sub {xs ys : List D} (h : List.Sublist xs ys) : wts xs ≤ wts ys := by
  induction h with
  | slnil => exact Nat.le_refl _
  | cons a _ ih => simp only [wts]; omega
  | cons_cons a _ ih => simp only [wts]; omega
theorem dps_sub {xs ys : List D} (h : List.Sublist xs ys) : dps xs ≤ dps ys := by
  induction h with
  | slnil => exact Nat.le_refl _
  | cons a _ ih => simp only [dps]; omega
  | cons_cons a _ ih => simp only [dps]; omega
theorem goods_sub {xs ys : List D} (h : List.Sublist xs ys) (g : goods ys = true) : goods xs = true := goods_all fun x hx => goods_mem g (h.subset hx)
theorem cut_sub (xs : List D) (lo hi : Option Int) : List.Sublist (cutD xs lo hi) xs := (List.take_sublist _ _).trans (List.drop_sublist _ _)
theorem wts_rev (xs : List D) : wts xs.reverse = wts xs := by
  induction xs with
  | nil => rfl
  | cons x r ih => rw [List.reverse_cons, wts_append, ih]; simp only [wts]; omega
theorem dps_rev (xs : List D) : dps xs.reverse = dps xs := by
  induction xs with
  | nil => rfl
  | cons x r ih => rw [List.reverse_cons, dps_append, ih]; simp only [dps]; omega
theorem goods_rev {xs : List D} (g : goods xs = true) : goods xs.reverse = true := goods_all fun x hx => goods_mem g (List.mem_reverse.mp hx)
theorem cutS_le (x : Str) (lo hi : Option Int) : (cutS x lo hi).length ≤ x.length ∧ (PyData.strOk x = true → PyData.strOk (cutS x lo hi) = true) := by
  have sub : List.Sublist (cutS x lo hi).cps.toList x.cps.toList := (List.take_sublist _ _).trans (List.drop_sublist _ _)
  refine ⟨?_, fun h => ?_⟩
  · have := sub.length_le
    simpa [Str.length] using this
  · rw [ok_iff] at h ⊢
    exact fun c hc => h c (sub.subset hc)
/-- data of some size: good, of weight w at most, d deep at most -/
structure Sz (x : D) (w d : Nat) : Prop where
  g : good x = true
  w : wt x ≤ w
  d : dp x ≤ d
theorem Sz.mono {x : D} {w d w' d' : Nat} (h : Sz x w d) (h1 : w ≤ w') (h2 : d ≤ d') : Sz x w' d' := ⟨h.g, Nat.le_trans h.w h1, Nat.le_trans h.d h2⟩
theorem atI_mem {xs : List D} {i : Int} (h0 : 0 ≤ i) (h1 : i < xs.length) : ∃ v ∈ xs, atI xs i = some v := by
  have hn : i.toNat < xs.length := by omega
  refine ⟨xs[i.toNat], List.getElem_mem hn, ?_⟩
  unfold atI ixN
  rw [if_pos h0, if_pos (by omega)]
  simp only [Option.bind_some]
  exact List.getElem?_eq_getElem hn
end DL
end
section
/-! DLQ6: objects behind others in a store. -/
namespace DL
open PySem L2 PyProof.Rows
section
variable {A : DO} {R T : Store} {a b c d x : DO}
theorem g1 : (A :: (R ++ a :: T))[R.length + 1]? = some a := by simp
theorem g2 : (A :: (R ++ a :: b :: T))[R.length + 2]? = some b := by
  simp [List.getElem?_append_right]
theorem g3 : (A :: (R ++ a :: b :: c :: T))[R.length + 3]? = some c := by
  simp [List.getElem?_append_right]
theorem g4 : (A :: (R ++ a :: b :: c :: d :: T))[R.length + 4]? = some d := by
  simp [List.getElem?_append_right]
theorem st1 : (A :: (R ++ a :: T)).set (R.length + 1) x = A :: (R ++ x :: T) := by simp [List.set_append]
theorem st2 : (A :: (R ++ a :: b :: T)).set (R.length + 2) x = A :: (R ++ a :: x :: T) := by simp [List.set_append]
theorem st3 : (A :: (R ++ a :: b :: c :: T)).set (R.length + 3) x = A :: (R ++ a :: b :: x :: T) := by simp [List.set_append]
theorem st4 : (A :: (R ++ a :: b :: c :: d :: T)).set (R.length + 4) x = A :: (R ++ a :: b :: c :: x :: T) := by simp [List.set_append]
theorem n0 : (A :: R).length = R.length + 1 := rfl
theorem n1 : (A :: (R ++ [a])).length = R.length + 2 := by simp
theorem n2 : (A :: (R ++ [a, b])).length = R.length + 3 := by simp
theorem n3 : (A :: (R ++ [a, b, c])).length = R.length + 4 := by simp
end
section
variable {st : Store} {n : Nat} {xs : List D} {kvs : List (Key × D)}
theorem o_ty (h : st[n]? = some (.lst xs)) : tyName st (.obj n) = some "list" := by
  unfold tyName; simp only [h]
theorem o_seq (h : st[n]? = some (.lst xs)) : seqL st (.obj n) = some xs := by
  unfold seqL; simp only [h]
theorem o_app (h : st[n]? = some (.lst xs)) (hl : xs.length < 16777216) (y : D) : appendD (.obj n) [y] st = some (.non, st.set n (.lst (xs ++ [y]))) := by
  unfold appendD lstAt
  simp only [h, if_pos hl]
theorem o_ext (h : st[n]? = some (.lst xs)) {ys : List D} {y : D} (hy : seqO st y = some ys) (hl : xs.length + ys.length ≤ 16777216) : extendD (.obj n) [y] st = some (.non, st.set n (.lst (xs ++ ys))) := by
  unfold extendD lstAt
  simp only [h, hy, if_pos hl]
theorem o_pop (h : st[n]? = some (.lst xs)) {i : Int} {v : D} (h0 : 0 ≤ i) (h1 : i < xs.length) (h2 : xs.length ≤ 16777216) (hv : xs[i.toNat]? = some v) : popAtD (.obj n) [.int i] st = some (v, st.set n (.lst (xs.eraseIdx i.toNat))) := by
  unfold popAtD lstAt
  simp only [h]
  rw [if_pos (by omega)]
  have e : seqIndex? i xs.length = some i.toNat := by
    unfold seqIndex?
    have hneg : ¬ i < 0 := by omega
    simp only [hneg, if_false, h0, h1, decide_true, Bool.and_self, if_true]
  rw [e]
  simp only [hv]
theorem o_len (h : st[n]? = some (.lst xs)) : lenD [.obj n] st = some (.int xs.length, st) := by
  show (match seqA st (.obj n) with | some xs => some (D.int xs.length, st) | none => none) = _
  have : seqA st (.obj n) = some xs := by
    show seqL st (.obj n) = _
    exact o_seq h
  rw [this]
theorem o_ix (h : st[n]? = some (.lst xs)) {i : Int} {v : D} (hv : atI xs i = some v) : ixD (.obj n) (.int i) st = .ok v st := by
  unfold ixD
  have e : dctO st (.obj n) = none := by unfold dctO; simp only [h]
  simp only [e]
  unfold ixSeq
  rw [o_seq h]
  simp only [hv]
theorem o_ne (h : st[n]? = some (.lst xs)) (g : goods xs = true) (hd : dps xs ≤ 63) : cmpD .NotEq (.obj n) (.lst []) st = .ok (.bl (!xs.isEmpty)) st := by
  have e := eq_nilL true st g hd
  show eqD true (.obj n) (.lst []) st = _
  have e1 : toPS st (.obj n) = toPS st (.lst xs) := by
    unfold toPS
    rw [o_seq h]
    rfl
  unfold eqD at e ⊢
  rw [e1]
  exact e
end
/-- a loop that goes through, by an invariant -/
theorem forL_inv {chk : Store → Bool} {g : FG} {body : FS} (P : Nat → Env' → Store → Prop) : ∀ (l : List D) (i : Nat) (env : Env') (st : Store),
    (∀ (j : Nat) (x : D) (env : Env') (st : Store), l[j]? = some x → P (i + j) env st → ∃ env1 st1, g x env st = some (env1, st1) ∧ ∃ env2 st2, body env1 st1 = .nx env2 st2 ∧ P (i + j + 1) env2 st2) →
    (∀ (j : Nat) (env : Env') (st : Store), P j env st → chk st = true) → P i env st → ∃ env' st', forL chk g body l env st = .nx env' st' ∧ P (i + l.length) env' st'
  | [], i, env, st, _, hc, h => ⟨env, st, by unfold forL; rw [if_pos (hc _ _ _ h)], h⟩
  | x :: l, i, env, st, hs, hc, h => by
    obtain ⟨env1, st1, e1, env2, st2, e2, h2⟩ := hs 0 x env st rfl h
    obtain ⟨env3, st3, e3, h3⟩ := forL_inv P l (i + 1) env2 st2 (fun j y env st hy hp => by
      have := hs (j + 1) y env st (by simpa using hy) (by rw [show i + (j + 1) = i + 1 + j by omega]; exact hp)
      rw [show i + 1 + j + 1 = i + (j + 1) + 1 by omega]
      exact this) hc h2
    refine ⟨env3, st3, ?_, by rw [show i + (x :: l).length = i + 1 + l.length by simp; omega]; exact h3⟩
    unfold forL
    rw [if_pos (hc _ _ _ h), e1]
    simp only [e2]
    exact e3
@[simp] theorem gtup_ {n : Nat} {fs : FGs} {ds : List D} {env : Env'} {st : Store} : gtup n fs (.tup ds) env st = if ds.length = n then fs ds env st else none := rfl
@[simp] theorem gcons_ {f : FG} {fs : FGs} {d : D} {ds : List D} {env : Env'} {st : Store} : gcons f fs (d :: ds) env st = match f d env st with
    | some (env1, st1) => fs ds env1 st1
    | none => none := by
  unfold gcons
  rfl
@[simp] theorem gnil_ {env : Env'} {st : Store} : gnil [] env st = some (env, st) := rfl
end DL
end
section
/-! ELR: == of plain data with itself, ints of any size. -/
namespace DL
open PySem L2 PyProof.Rows
mutual
/-- nothing but None, bools, ints, texts, tuples, lists -/
def good0 : D → Bool
  | .non => true
  | .bl _ => true
  | .int _ => true
  | .str x => PyData.strOk x
  | .tup xs => goods0 xs
  | .lst xs => goods0 xs
  | .ty _ => false
  | .glb _ => false
  | .scr _ => false
  | .obj _ => false
  | .pr _ => false
def goods0 : List D → Bool
  | [] => true
  | x :: r => good0 x && goods0 r
end
theorem goods0_all : ∀ {xs : List D}, (∀ x ∈ xs, good0 x = true) → goods0 xs = true
  | [], _ => rfl
  | x :: r, h => by simp only [goods0, h x List.mem_cons_self, goods0_all fun y hy => h y (List.mem_cons_of_mem _ hy), Bool.and_self]
mutual
theorem good0_P : ∀ {d : D}, good0 d = true → ∃ p, toP d = some p ∧ p.canLay0 = true ∧ p.depth = dp d ∧ PyData.eqv p p = true
  | .non, _ => ⟨.none, rfl, by simp [PyData.canLay0], by simp [PyData.depth, dp], by simp [PyData.eqv]⟩
  | .bl b, _ => ⟨.bool b, rfl, by simp [PyData.canLay0], by simp [PyData.depth, dp], by cases b <;> simp [PyData.eqv]⟩
  | .int i, h => ⟨.int i, rfl, by simp [PyData.canLay0], by simp [PyData.depth, dp], by simp [PyData.eqv]⟩
  | .str x, h => by
    simp only [good0] at h
    exact ⟨.str x, rfl, by simpa [PyData.canLay0] using h, by simp [PyData.depth, dp], by simp [PyData.eqv]⟩
  | .tup xs, h => by
    simp only [good0] at h
    obtain ⟨ps, e, h2, h3, h4⟩ := goods0_P h
    exact ⟨.tuple ps, by simp [toP, e], by simpa [PyData.canLay0] using h2, by simp [PyData.depth, dp, h3], by simp only [PyData.eqv]; exact h4⟩
  | .lst xs, h => by
    simp only [good0] at h
    obtain ⟨ps, e, h2, h3, h4⟩ := goods0_P h
    exact ⟨.list ps, by simp [toP, e], by simpa [PyData.canLay0] using h2, by simp [PyData.depth, dp, h3], by simp only [PyData.eqv]; exact h4⟩
  | .ty _, h => by cases h
  | .glb _, h => by cases h
  | .scr _, h => by cases h
  | .obj _, h => by cases h
  | .pr _, h => by cases h
theorem goods0_P : ∀ {ds : List D}, goods0 ds = true → ∃ ps, toPs ds = some ps ∧ PyData.canLayAll0 ps = true ∧ PyData.depthAll ps = dps ds ∧ PyData.eqvAll ps ps = true
  | [], _ => ⟨[], rfl, by simp [PyData.canLayAll0], by simp [PyData.depthAll, dps], by simp [PyData.eqvAll]⟩
  | d :: r, h => by
    simp only [goods0, Bool.and_eq_true] at h
    obtain ⟨p, e, a2, a3, a4⟩ := good0_P h.1
    obtain ⟨ps, e', b2, b3, b4⟩ := goods0_P h.2
    exact ⟨p :: ps, by simp [toPs, e, e'], by simp [PyData.canLayAll0, a2, b2], by simp [PyData.depthAll, dps, a3, b3], by simp [PyData.eqvAll, a4, b4]⟩
end
theorem toPS_good0 {d : D} (st : Store) (h : good0 d = true) : toPS st d = toP d := by
  cases d <;> first | rfl | cases h
theorem self_eq0 {x : D} (neg : Bool) (h : good0 x = true) (hd : dp x ≤ 64) (st : Store) : eqD neg x x st = .ok (.bl (!neg)) st := by
  obtain ⟨p, e, h2, h3, h4⟩ := good0_P h
  unfold eqD
  have s : SeqAt.shaped p = true := by
    unfold SeqAt.shaped
    rw [h2, h3]
    simpa using hd
  rw [toPS_good0 st h, e]
  simp only [s, Bool.and_self, if_true, h4]
  cases neg <;> rfl
theorem same_eq0 {x : D} (h : good0 x = true) (hd : dp x ≤ 64) (st : Store) : cmpD .Eq x x st = .ok (.bl true) st := self_eq0 false h hd st
theorem same_ne0 {x : D} (h : good0 x = true) (hd : dp x ≤ 64) (st : Store) : cmpD .NotEq x x st = .ok (.bl false) st := self_eq0 true h hd st
end DL
end
section
/-! ELZ: the walk of a law that comes to defs of the top with tables (lambdas, generator expressions): the top has left each of their tables empty. -/
namespace DL
open PySem PySem.Spec PyProof.Rows L2
/-- the tables of the defs of the top are empty -/
def TabsQ (q : Program) (K : PySem.W.Frag) (mg : Str → Option Value) (h : Heap) : Prop := ∀ x : Str, ((recsOf q).any fun r => r.name == x) = true → ∀ (f c Pt : Addr) (fo co : Obj) (fd : FuncData) (us : Array Value),
  mg x = some (.ref f) → K.lookup f = some fo → fo.data = .func fd → fd.code = .ref c → K.lookup c = some co → co.data = .fields us → us[11]? = some (.ref Pt) → h.get? Pt = some (PySem.W.tabObj #[])
theorem tab_ofQ {q : Program} {h : Heap} {K : PySem.W.Frag} {mg : Str → Option Value} {x : Str} {f c Pt : Addr} {fcl ccl : Value} {fdd cdd : Option Addr} {fsl ccs : Array (Option Value)} {fd : FuncData} {us : Array Value} (X : K.In h) (G : h.Ns mainGlobals mg) (Q : TabsQ q K mg h)
    (hx : ((recsOf q).any fun r => r.name == x) = true) (a : PySem.W.nsIn K mainGlobals x = some (some (.ref f))) (l : K.lookup f = some ⟨fcl, fdd, .func fd, fsl⟩) (hc : fd.code = .ref c) (lkc : K.lookup c = some ⟨ccl, cdd, .fields us, ccs⟩) (h11 : us[11]? = some (.ref Pt))
    (hd : PySem.W.codeHdIn K c Pt = true) (nk : K.lookup Pt = none) : TabF h K c Pt :=
  ⟨Q x hx f c Pt _ _ fd us (PySem.W.mg_of X G a) l rfl hc lkc rfl h11, nk, PySem.W.codeHd_of_K X hd⟩
theorem walkT {l : PySem.W.OpenLaw} {n k : Nat} {q : Program} {loose : List Str} {XP : (Str → Option Value) → Heap → Prop} {YP : World → Heap → Prop} {d : DefRec} {K : Params → PySem.W.Frag} {x : Str} {g : SemX}
    (hn : l.most = some n) (hn2 : n ≤ sizeLine) (hdf : d.params.defaults = []) (hr : Room k callerA) (hY : ∀ (w : World) (h : Heap), YP w h → (K w.params).In h)
    (F : ∀ (w : World) (mg : Str → Option Value) (fa : Addr) (h : Heap), YP w h → (K w.params).In h → h.Ns mainGlobals mg → TabsQ q (K w.params) mg h → mg d.name = some (.ref fa) →
      ∃ (fd : FuncData) (cs : List (Addr × Addr)) (Tl : List (Addr × Str)), (∀ p ∈ cs, TabF h (K w.params) p.1 p.2) ∧ (∀ p ∈ Tl, p.1 ∈ cs.map (·.2)) ∧ (∀ (s : Shared) (u : Value), BindsTo s fd ⟨[u], []⟩ [(x, u)]) ∧
        ∀ base : Heap, (K w.params).In base → base.Ns mainGlobals mg → (∀ p ∈ cs, LamX.TabB base mg p.1 p.2) → FnG l.prog w (K w.params) mg base (L2.CX l.prog w) k fa fd [x] (spR (K w.params) Tl 1 g))
    (want : ∀ ns : List Int, ns.length ≤ n → (∀ i ∈ ns, Builtin.Int.intBits i ≤ 1048576) → ∃ st, g [.scr (ns.map D.int)] [] = .ok (.bl true) st) :
    PySem.W.WalkO q loose XP YP l.row.toRowW d [] (fun f vs => PySem.call f vs) := by
  refine Att.attach_callB hn hdf ?_
  intro w s₀ s₁ mg mb fa o pm cd doc a vs ns G Y ho hd hcd hmg hobj hints hlen hbits hg
  have KX := hY w _ Y
  have Q : TabsQ q (K w.params) mg s₁.heap := by
    intro y hy f c Pt fo co fd us m1 m2 m3 m4 m5 m6 m7
    obtain ⟨r, hr1, hr2⟩ := List.any_eq_true.mp hy
    obtain ⟨f2, fo2, fd2, c2, P2, t1, t2, t3, t4, t5, t6⟩ := G.T.tab r hr1
    have same : r.name = y := beq_iff_eq.mp hr2
    rw [same, m1] at t1
    cases t1
    have q1 := KX _ _ m2
    rw [q1] at t2
    cases t2
    rw [m3] at t3
    cases t3
    rw [m4] at t4
    cases t4
    obtain ⟨⟨co2, us2, z1, z2, z3, z4⟩, hP⟩ := t6
    have q2 := KX _ _ m5
    rw [q2] at z1
    cases z1
    rw [m6] at z3
    cases z3
    rw [m7] at z4
    cases z4
    exact hP
  obtain ⟨fd, cs, Tl, hcs, hTl, hb, hF⟩ := F w mg fa _ Y KX G.T.g Q hmg
  exact head_call KX G.T.g G.T.b G.T.builtins G.T.nolimit hg G.T.bmain hr hcs hTl hobj hints (Nat.le_trans hlen hn2) hF hb (want ns hlen hbits)
end DL
end
section
/-! EZ1: the combinators' steps as lemmas with generic parts. -/
namespace DL.Z
open DL PySem L2 PyProof.Rows
section
variable {A B C F : FF D} {fs gs : FF (List D)} {T U : FF Bool} {s1 s2 b : FS} {env env1 : Env'} {st st1 st2 st3 : Store} {x y z d : D} {ds es : List D}
theorem seq_nx (h : s1 env st = .nx env1 st1) : fseq s1 s2 env st = s2 env1 st1 := by
  unfold fseq
  rw [h]
theorem seq_exc {e : XD} (h : s1 env st = .exc e env1 st1) : fseq s1 s2 env st = .exc e env1 st1 := by
  unfold fseq
  rw [h]
theorem seq_rt (h : s1 env st = .rt d st1) : fseq s1 s2 env st = .rt d st1 := by
  unfold fseq
  rw [h]
theorem con (d : D) : fcon d env st = .ok d st := rfl
theorem var {i : Nat} (h : env[i]? = some (some d)) : fvar i env st = .ok d st := by
  unfold fvar
  rw [h]
theorem cons_ (h : A env st = .ok x st1) (h2 : fs env st1 = .ok ds st2) : fcons A fs env st = .ok (x :: ds) st2 := by
  unfold fcons
  rw [h]
  show (fs env st1).bind _ = _
  rw [h2]
  rfl
theorem nil_ : fnil env st = .ok [] st := rfl
theorem one (h : A env st = .ok x st1) : fcons A fnil env st = .ok [x] st1 := cons_ h nil_
theorem app0 (h : fs env st = .ok ds st1) : fapp fs fnil env st = .ok ds st1 := by
  unfold fapp
  rw [h]
  show Res.ok (ds ++ []) st1 = _
  rw [List.append_nil]
theorem app_ (h : fs env st = .ok ds st1) (h2 : gs env st1 = .ok es st2) : fapp fs gs env st = .ok (ds ++ es) st2 := by
  unfold fapp
  rw [h]
  show (gs env st1).bind _ = _
  rw [h2]
  rfl
theorem cX {g : SemX} (h : fs env st = .ok ds st1) : fcallX g fs env st = g ds st1 := by
  unfold fcallX
  rw [h]
  rfl
theorem callO {g : List D → Store → Option (D × Store)} (h : fs env st = .ok ds st1) (hg : g ds st1 = some (y, st2)) : fcallO g fs env st = .ok y st2 := by
  show (fs env st).bind _ = _
  rw [h]
  show ofO (g ds st1) = _
  rw [hg]
  rfl
theorem bin {g : D → D → Store → Res D} (h : A env st = .ok x st1) (h2 : B env st1 = .ok y st2) : fbin g A B env st = g x y st2 := by
  unfold fbin
  rw [h]
  show (B env st1).bind _ = _
  rw [h2]
  rfl
theorem tup_ (h : fs env st = .ok ds st1) (hl : ds.length ≤ 16777216) : ftup fs env st = .ok (.tup ds) st1 := by
  show (fs env st).bind _ = _
  rw [h]
  show (if ds.length ≤ 16777216 then Res.ok (D.tup ds) st1 else .stuck) = _
  rw [if_pos hl]
theorem lst_ (h : fs env st = .ok ds st1) (hl : ds.length ≤ 16777216) : flst false fs env st = .ok (.lst ds) st1 := by
  show (fs env st).bind _ = _
  rw [h]
  show (if ds.length ≤ 16777216 then (if false = true then _ else Res.ok (D.lst ds) st1) else .stuck) = _
  rw [if_pos hl]
  rfl
theorem lstM (h : fs env st = .ok ds st1) (hl : ds.length ≤ 16777216) : flst true fs env st = .ok (.obj st1.length) (st1 ++ [.lst ds]) := by
  show (fs env st).bind _ = _
  rw [h]
  show (if ds.length ≤ 16777216 then _ else Res.stuck) = _
  rw [if_pos hl]
  rfl
theorem bool_ {k : Bool} (h : F env st = .ok (.bl k) st1) : fbool F env st = .ok k st1 := by
  rw [fbool_, h]
  rfl
theorem tru_ {k : Bool} (h : F env st = .ok (.bl k) st1) : ftru F env st = .ok k st1 := by
  rw [ftru_, h]
  rfl
theorem not_ {k : Bool} (h : T env st = .ok k st1) : fnot T env st = .ok (!k) st1 := by
  rw [fnot_, h]
  rfl
theorem and_f (h : T env st = .ok false st1) : fand T U env st = .ok false st1 := by
  rw [fand_, h]
  rfl
theorem and_t {k : Bool} (h : T env st = .ok true st1) (h2 : U env st1 = .ok k st2) : fand T U env st = .ok k st2 := by
  rw [fand_, h]
  exact h2
theorem or_t (h : T env st = .ok true st1) : for_ T U env st = .ok true st1 := by
  rw [for__, h]
  rfl
theorem or_f {k : Bool} (h : T env st = .ok false st1) (h2 : U env st1 = .ok k st2) : for_ T U env st = .ok k st2 := by
  rw [for__, h]
  exact h2
theorem andV_t (h : A env st = .ok (.bl true) st1) (h2 : B env st1 = .ok y st2) : fandV A B env st = .ok y st2 := by
  rw [fandV_, h]
  exact h2
theorem andV_f (h : A env st = .ok (.bl false) st1) : fandV A B env st = .ok (.bl false) st1 := by
  rw [fandV_, h]
  rfl
theorem orV_t (h : A env st = .ok (.bl true) st1) : forV A B env st = .ok (.bl true) st1 := by
  rw [forV_, h]
  rfl
theorem orV_f (h : A env st = .ok (.bl false) st1) (h2 : B env st1 = .ok y st2) : forV A B env st = .ok y st2 := by
  rw [forV_, h]
  exact h2
theorem if_ {k : Bool} {u v : FS} (h : T env st = .ok k st1) : fifS T u v env st = if k then u env st1 else v env st1 := by
  rw [fifS_, h]
  rfl
theorem if_pass {v : FS} (h : T env st = .ok false st1) : fifS T b v env st = v env st1 := if_ h
theorem if_take {v : FS} (h : T env st = .ok true st1) : fifS T b v env st = b env st1 := if_ h
theorem ifE {k : Bool} (h : T env st = .ok k st1) : fif T A B env st = if k then A env st1 else B env st1 := by
  rw [fif_, h]
  rfl
theorem drop_ (h : F env st = .ok x st1) : fdrop F env st = .nx env st1 := by
  rw [fdrop_, h]
  rfl
theorem drop_exc {e : XD} (h : F env st = .exc e st1) : fdrop F env st = .exc e env st1 := by
  rw [fdrop_, h]
  rfl
theorem ret_ (h : F env st = .ok x st1) : fret F env st = .rt x st1 := by
  rw [fret_, h]
  rfl
theorem ret_exc {e : XD} (h : F env st = .exc e st1) : fret F env st = .exc e env st1 := by
  rw [fret_, h]
  rfl
theorem asg_ {g : FG} (h : F env st = .ok x st1) (hg : g x env st1 = some (env1, st2)) : fasg F g env st = .nx env1 st2 := by
  rw [fasg_, h]
  show Opt.toS (g x env st1) = _
  rw [hg]
  rfl
theorem asg1 {i : Nat} (h : F env st = .ok x st1) : fasg F (gname i) env st = .nx (env.set i (some x)) st1 := asg_ h rfl
theorem asg_exc {g : FG} {e : XD} (h : F env st = .exc e st1) : fasg F g env st = .exc e env st1 := by
  rw [fasg_, h]
  rfl
theorem callX_exc {g : SemX} {e : XD} (h : fs env st = .ok ds st1) (hg : g ds st1 = .exc e st2) : fcallX g fs env st = .exc e st2 := (cX h).trans hg
theorem bin_exc {g : D → D → Store → Res D} {e : XD} (h : A env st = .exc e st1) : fbin g A B env st = .exc e st1 := by
  unfold fbin
  rw [h]
  rfl
theorem meth_ {t : String} {g : D → List D → Store → Option (D × Store)} (h : A env st = .ok x st1) (ht : tyName st1 x = some t) (h2 : fs env st1 = .ok ds st2) (hg : g x ds st2 = some (y, st3)) : fmeth t g A fs env st = .ok y st3 := by
  unfold fmeth
  rw [h]
  show (if tyName st1 x = some t then _ else Res.stuck) = _
  rw [if_pos ht, h2]
  show ofO (g x ds st2) = _
  rw [hg]
  rfl
theorem methU {met : Nat → Str → Str → Nat → List Str → Option SemX} {m : Str} {n : Nat} {ks : List Str} {g : SemX} (h : A env st = .ok x st1) (hm : metOf1 met m n ks x st1 = some g) (h2 : fs env st1 = .ok ds st2) : fmethU met m n ks A fs env st = g (x :: ds) st2 := by
  unfold fmethU
  rw [h]
  simp only [Res.bind, hm, h2]
theorem attr {fld : Str → Str → Option Nat} {f c : Str} {n i : Nat} {vs : List (Option D)} (h : A env st = .ok (.obj n) st1) (ho : st1[n]? = some (.ins c vs)) (hf : fld c f = some i) (hv : vs[i]? = some (some y)) : fattr fld f A env st = .ok y st1 := by
  unfold fattr
  rw [h]
  simp only [Res.bind, insAt, ho, hf, hv]
theorem gattr_ {fld : Str → Str → Option Nat} {f c : Str} {n i : Nat} {vs : List (Option D)} (h : A env st = .ok (.obj n) st1) (ho : st1[n]? = some (.ins c vs)) (hf : fld c f = some i) (hl : i < vs.length) : gattr fld f A d env st = some (env, st1.set n (.ins c (vs.set i (some d)))) := by
  unfold gattr
  rw [h]
  simp only [insAt, ho, hf, if_pos hl]
/-- items of a tuple, of a list written out -/
theorem items_tup {xs : List D} (h : F env st = .ok (.tup xs) st1) : fitems F env st = .ok ⟨xs, fun _ => true⟩ st1 := by
  unfold fitems
  rw [h]
  rfl
theorem for_of {fi : FF Items} {g : FG} {body : FS} {l : List D} {r : RS} (h : fi env st = .ok ⟨l, fun _ => true⟩ st1) (e : forL (fun _ => true) g body l env st1 = r) : ffor fi g body env st = r := by
  unfold ffor
  rw [h]
  exact e
theorem forL_step {chk : Store → Bool} {g : FG} {body : FS} {l : List D} : forL chk g body (x :: l) env st = if chk st then (match g x env st with
    | some (env1, st1) => match body env1 st1 with
      | .nx env2 st2 => forL chk g body l env2 st2
      | .ct env2 st2 => forL chk g body l env2 st2
      | .bk env2 st2 => .nx env2 st2
      | .rt d st2 => .rt d st2
      | .exc x env2 st2 => .exc x env2 st2
      | .stuck => .stuck
    | none => .stuck) else .stuck := rfl
theorem forL_cons {chk : Store → Bool} {g : FG} {body : FS} {l : List D} {env2 : Env'} (hc : chk st = true) (hg : g x env st = some (env1, st1)) (hb : body env1 st1 = .nx env2 st2) : forL chk g body (x :: l) env st = forL chk g body l env2 st2 := by
  rw [forL_step, if_pos hc, hg]
  simp only [hb]
theorem forL_rt {chk : Store → Bool} {g : FG} {body : FS} {l : List D} (hc : chk st = true) (hg : g x env st = some (env1, st1)) (hb : body env1 st1 = .rt d st2) : forL chk g body (x :: l) env st = .rt d st2 := by
  rw [forL_step, if_pos hc, hg]
  simp only [hb]
theorem forL_exc {chk : Store → Bool} {g : FG} {body : FS} {l : List D} {e : XD} {env2 : Env'} (hc : chk st = true) (hg : g x env st = some (env1, st1)) (hb : body env1 st1 = .exc e env2 st2) : forL chk g body (x :: l) env st = .exc e env2 st2 := by
  rw [forL_step, if_pos hc, hg]
  simp only [hb]
theorem forL_nil {chk : Store → Bool} {g : FG} {body : FS} (hc : chk st = true) : forL chk g body [] env st = .nx env st := if_pos hc
end
end DL.Z
end
section
/-! The table of law_k23_lots_refused. -/
namespace DL.P
open PySem PySem.Spec L2
def top (i : Nat) : Stmt := PySem.Challenge.pw_lotback_k23_lots_refused.main.body.getD i (.Pass ⟨0, 0, 0, 0⟩)
def fe_require_usable : FE := ⟨["truth", "word", "at"], ["truth", "word", "at"], defScope (top 44), defBody (top 44), false, false, false, [], false⟩
def fe_check_lots : FE := ⟨["case", "lots", "suspects", "few", "k", "lot"], ["case", "lots"], defScope (top 45), defBody (top 45), false, false, false, [], false⟩
def fe_ways_of : FE := ⟨["case", "lots", "book", "finder", "backs", "t", "row"], ["case", "lots"], defScope (top 49), defBody (top 49), true, false, false, [], false⟩
def fe_sums_of : FE := ⟨["case", "lots", "points", "ways", "wrong"], ["case", "lots", "points"], defScope (top 52), defBody (top 52), true, false, false, [], false⟩
def fe_is_barrier : FE := ⟨["case", "lots", "points", "can_come", "must_come", "can_go", "must_go"], ["case", "lots", "points"], defScope (top 53), defBody (top 53), true, false, false, [], false⟩
def fe_lets_explain : FE := ⟨["case", "lots", "thing", "wrong", "word", "own"], ["case", "lots", "thing"], defScope (top 63), defBody (top 63), true, false, false, [], false⟩
def fe_story_and_barrier : FE := ⟨["case", "lots", "ways", "flow", "points"], ["case", "lots"], defScope (top 74), defBody (top 74), true, false, false, [], false⟩
def fe_story_by : FE := ⟨["case", "lots"], ["case", "lots"], defScope (top 75), defBody (top 75), true, false, false, [], false⟩
def fe_barrier_by : FE := ⟨["case", "lots"], ["case", "lots"], defScope (top 76), defBody (top 76), true, false, false, [], false⟩
def fe_explain_paper : FE := ⟨["case", "lots", "story", "points"], ["case", "lots"], defScope (top 77), defBody (top 77), true, false, false, [], false⟩
def fe__law_feed : FE := ⟨["_law_script"], ["_law_script"], defScope (top 81), defBody (top 81), false, false, false, [], false⟩
def fe__law_draw : FE := ⟨["_law_feed_here", "_law_many", "_law_at", "_law_cell", "_law_mixed", "_law_digit"], ["_law_feed_here", "_law_many"], defScope (top 82), defBody (top 82), false, false, false, [], false⟩
def fe__law_any : FE := ⟨["_law_feed_here", "_law_some"], ["_law_feed_here", "_law_some"], defScope (top 83), defBody (top 83), false, false, false, [], false⟩
def fe__law_document : FE := ⟨["_law_rows"], [], defScope (top 84), defBody (top 84), false, false, false, [], false⟩
def fe__law_refused : FE := ⟨["_law_ask", "_law_found", "e", "_law_sorts", "_law_homes"], ["_law_ask"], defScope (top 85), defBody (top 85), false, false, false, [], false⟩
def fe__law_lots_due : FE := ⟨["_law_case_now", "_law_item", "_law_k", "_law_lot", "_law_one"], ["_law_case_now", "_law_item"], defScope (top 86), defBody (top 86), true, false, false, [], false⟩
def fe__law_asks : FE := ⟨["_law_case_now", "_law_item", "_law_found"], ["_law_case_now", "_law_item"], defScope (top 87), defBody (top 87), false, true, false, [], false⟩
def fe_law : FE := ⟨["_law_script", "_law_feed_here", "_law_case_now", "_law_odd", "_law_two", "_law_items", "_law_item", "_law_ledger", "_law_some", "_law_due", "_law_before"], ["_law_script"], defScope (top 88), defBody (top 88), false, false, false, [], false⟩
def ms_Story_by : Stmt := match top 79 with
  | .ClassDef _ _ _ b .. => b.getD 2 (.Pass ⟨0, 0, 0, 0⟩)
  | _ => .Pass ⟨0, 0, 0, 0⟩
def fe_Story_by : FE := ⟨["cls", "case", "lots", "story"], ["cls", "case", "lots"], defScope ms_Story_by, defBody ms_Story_by, false, false, false, [], false⟩
def T : List (Str × FE) := [(("require_usable" : Str), fe_require_usable),
  (("check_lots" : Str), fe_check_lots),
  (("ways_of" : Str), fe_ways_of),
  (("sums_of" : Str), fe_sums_of),
  (("is_barrier" : Str), fe_is_barrier),
  (("lets_explain" : Str), fe_lets_explain),
  (("story_and_barrier" : Str), fe_story_and_barrier),
  (("story_by" : Str), fe_story_by),
  (("barrier_by" : Str), fe_barrier_by),
  (("explain_paper" : Str), fe_explain_paper),
  (("_law_feed" : Str), fe__law_feed),
  (("_law_draw" : Str), fe__law_draw),
  (("_law_any" : Str), fe__law_any),
  (("_law_document" : Str), fe__law_document),
  (("_law_lots_due" : Str), fe__law_lots_due),
  (("_law_asks" : Str), fe__law_asks),
  (("law" : Str), fe_law)]
def lamT : List (Str × FE) := [(("_law_refused" : Str), fe__law_refused)]
def shapes : List ((Str × Nat × List Str) × List Nat) := [(((("require_usable" : Str), (3 : Nat), ([] : List Str)), ([0, 1, 2] : List Nat))),
  (((("check_lots" : Str), (2 : Nat), ([] : List Str)), ([0, 1] : List Nat))),
  (((("ways_of" : Str), (2 : Nat), ([] : List Str)), ([0, 1] : List Nat))),
  (((("sums_of" : Str), (3 : Nat), ([] : List Str)), ([0, 1, 2] : List Nat))),
  (((("is_barrier" : Str), (3 : Nat), ([] : List Str)), ([0, 1, 2] : List Nat))),
  (((("story_and_barrier" : Str), (2 : Nat), ([] : List Str)), ([0, 1] : List Nat))),
  (((("_law_draw" : Str), (2 : Nat), ([] : List Str)), ([0, 1] : List Nat))),
  (((("story_by" : Str), (0 : Nat), (["lots", "case"] : List Str)), ([1, 0] : List Nat))),
  (((("is_barrier" : Str), (0 : Nat), (["points", "lots", "case"] : List Str)), ([2, 1, 0] : List Nat))),
  (((("barrier_by" : Str), (2 : Nat), ([] : List Str)), ([0, 1] : List Nat))),
  (((("explain_paper" : Str), (0 : Nat), (["lots", "case"] : List Str)), ([1, 0] : List Nat))),
  (((("lets_explain" : Str), (3 : Nat), ([] : List Str)), ([0, 1, 2] : List Nat))),
  (((("_law_feed" : Str), (1 : Nat), ([] : List Str)), ([0] : List Nat))),
  (((("_law_any" : Str), (2 : Nat), ([] : List Str)), ([0, 1] : List Nat))),
  (((("_law_document" : Str), (0 : Nat), ([] : List Str)), ([] : List Nat))),
  (((("_law_lots_due" : Str), (2 : Nat), ([] : List Str)), ([0, 1] : List Nat))),
  (((("_law_asks" : Str), (2 : Nat), ([] : List Str)), ([0, 1] : List Nat))),
  (((("story_by" : Str), (2 : Nat), ([] : List Str)), ([0, 1] : List Nat))),
  (((("explain_paper" : Str), (2 : Nat), ([] : List Str)), ([0, 1] : List Nat)))]
def sh (x : Str) (n : Nat) (ks : List Str) : Option (List Nat) := shapes.lookup (x, n, ks)
def Gs : List (Str × GV) := [(("require_usable" : Str), (.obj : GV)),
  (("check_lots" : Str), (.obj : GV)),
  (("ways_of" : Str), (.obj : GV)),
  (("sums_of" : Str), (.obj : GV)),
  (("is_barrier" : Str), (.obj : GV)),
  (("lets_explain" : Str), (.obj : GV)),
  (("story_and_barrier" : Str), (.obj : GV)),
  (("story_by" : Str), (.obj : GV)),
  (("barrier_by" : Str), (.obj : GV)),
  (("explain_paper" : Str), (.obj : GV)),
  (("_law_feed" : Str), (.obj : GV)),
  (("_law_draw" : Str), (.obj : GV)),
  (("_law_any" : Str), (.obj : GV)),
  (("_law_document" : Str), (.obj : GV)),
  (("_law_refused" : Str), (.obj : GV)),
  (("_law_lots_due" : Str), (.obj : GV)),
  (("_law_asks" : Str), (.obj : GV)),
  (("law" : Str), (.obj : GV)),
  (("Story" : Str), (.obj : GV)),
  (("LotError" : Str), (.obj : GV)),
  (("PaperError" : Str), (.obj : GV)),
  (("CaseError" : Str), (.obj : GV)),
  (("HouseError" : Str), (.obj : GV)),
  (("TextError" : Str), (.obj : GV)),
  (("InvalidPaper" : Str), (.obj : GV)),
  (("NotUsable" : Str), (.obj : GV)),
  (("UnknownLot" : Str), (.obj : GV)),
  (("NoStory" : Str), (.obj : GV)),
  (("isinstance" : Str), (.blt "isinstance" : GV)),
  (("len" : Str), (.blt "len" : GV)),
  (("repr" : Str), (.blt "repr" : GV)),
  (("ValueError" : Str), (.typ "ValueError" : GV)),
  (("enumerate" : Str), (.typ "enumerate" : GV)),
  (("int" : Str), (.typ "int" : GV)),
  (("list" : Str), (.typ "list" : GV)),
  (("str" : Str), (.typ "str" : GV)),
  (("tuple" : Str), (.typ "tuple" : GV))]
def G (x : Str) : Option GV := Gs.lookup x
def mus : List Pos := [⟨530, 17, 530, 74⟩]
def mu (p : Pos) : Bool := mus.any fun r => r.line == p.line && r.col == p.col && r.endLine == p.endLine && r.endCol == p.endCol
def exfs : List (Str × List Str) := [(("InvalidPaper" : Str), (["word", "at"] : List Str)), (("NotUsable" : Str), (["word", "at"] : List Str)), (("NoStory" : Str), (["blamed"] : List Str))]
def subs : List ((Str × Str) × Bool) := [((("InvalidPaper" : Str), ("LotError" : Str)), true),
  ((("InvalidPaper" : Str), ("PaperError" : Str)), true),
  ((("InvalidPaper" : Str), ("CaseError" : Str)), false),
  ((("InvalidPaper" : Str), ("HouseError" : Str)), false),
  ((("InvalidPaper" : Str), ("TextError" : Str)), false),
  ((("InvalidPaper" : Str), ("InvalidPaper" : Str)), true),
  ((("InvalidPaper" : Str), ("NotUsable" : Str)), false),
  ((("InvalidPaper" : Str), ("UnknownLot" : Str)), false),
  ((("InvalidPaper" : Str), ("NoStory" : Str)), false),
  ((("NotUsable" : Str), ("LotError" : Str)), true),
  ((("NotUsable" : Str), ("PaperError" : Str)), false),
  ((("NotUsable" : Str), ("CaseError" : Str)), true),
  ((("NotUsable" : Str), ("HouseError" : Str)), false),
  ((("NotUsable" : Str), ("TextError" : Str)), false),
  ((("NotUsable" : Str), ("InvalidPaper" : Str)), false),
  ((("NotUsable" : Str), ("NotUsable" : Str)), true),
  ((("NotUsable" : Str), ("UnknownLot" : Str)), false),
  ((("NotUsable" : Str), ("NoStory" : Str)), false),
  ((("NoStory" : Str), ("LotError" : Str)), true),
  ((("NoStory" : Str), ("PaperError" : Str)), false),
  ((("NoStory" : Str), ("CaseError" : Str)), true),
  ((("NoStory" : Str), ("HouseError" : Str)), false),
  ((("NoStory" : Str), ("TextError" : Str)), false),
  ((("NoStory" : Str), ("InvalidPaper" : Str)), false),
  ((("NoStory" : Str), ("NotUsable" : Str)), false),
  ((("NoStory" : Str), ("UnknownLot" : Str)), false),
  ((("NoStory" : Str), ("NoStory" : Str)), true)]
def sub (x c : Str) : Option Bool := subs.lookup (x, c)
def exf (x : Str) : Option (List Str) := exfs.lookup x
def mshapes : List ((Str × Str × Nat × List Str) × List Nat) := [((("Story" : Str), ("by" : Str), (1 : Nat), (["lots"] : List Str)), ([0, 1, 2] : List Nat))]
def shM (c m : Str) (n : Nat) (ks : List Str) : Option (List Nat) := mshapes.lookup (c, m, n, ks)
def Ms : List ((Str × Str) × Nat × FE) := [((("Story" : Str), ("by" : Str)), 1, fe_Story_by)]
def clss : List (Str × Nat) := []
def flds : List ((Str × Str) × Nat) := []
def fld (c f : Str) : Option Nat := flds.lookup (c, f)
def subTs : List ((Str × String) × Bool) := [((("InvalidPaper" : Str), ("ValueError" : String)), true), ((("NotUsable" : Str), ("ValueError" : String)), true), ((("NoStory" : Str), ("ValueError" : String)), true)]
def subT (x : Str) (t : String) : Option Bool := subTs.lookup (x, t)
def tab : Tab := ⟨T, sh, G, mu, sub, exf, lamT, 100, Ms, shM, clss, fld, subT⟩
end DL.P
end
section
namespace DL.P
open PySem L2
def C (k : Nat) : EC := tab.ec k
abbrev run (k : Nat) (f : FE) : SemX := semFE (C (k + 3)) 100 f
def cl (k : Nat) (f : FE) (perm : List Nat) : SemX := fun ds st => if (pick perm ds).length = f.ps.length then run k f (pick perm ds) st else .stuck
def clD (k : Nat) (f : FE) (perm : List Nat) : SemX := fun ds st => if (pick perm (withD f.dfl ds)).length = f.ps.length then run k f (pick perm (withD f.dfl ds)) st else .stuck
def clV (k : Nat) (f : FE) : SemX := vaS (f.ps.length - 1) (run k f)
def subX (c : Str) (x : Str) : Option Bool := if (exf x).isSome = true then sub x c else none
def fexis (x : XD) (c : Str) (fs : FF (List D)) : FF D := match (if ((exf x.cls).isSome && true) = true then sub x.cls c else none) with
  | some b => fcon (.bl b)
  | none => fcallO isiD fs
def fexisT (x : XD) (t : String) (fs : FF (List D)) : FF D := match (if ((exf x.cls).isSome && true) = true then subT x.cls t else none) with
  | some b => fcon (.bl b)
  | none => fcallO isiD fs
def fexisP (x : XD) (c d : Str) (fs : FF (List D)) : FF D := match (if ((exf x.cls).isSome && true) = true then (match sub x.cls c, sub x.cls d with | some b1, some b2 => some (b1 || b2) | _, _ => none) else none) with
  | some b => fcon (.bl b)
  | none => fcallO isiD fs
def fexat (x : XD) (f : Str) : FF D := match exf x.cls, x.fs.lookup f with
  | some fl, some d => if (decide (f ∈ fl) && true) = true then fcon d else fstuck
  | _, _ => fstuck
def flamcall (m : (Store → Res D) → FS) (n : Nat) (body : FF D) : FF D := fun env st => endL (m (fun st1 => body env st1) (List.replicate n none) st)
def m__law_refused (k : Nat) (h : Store → Res D) : FS := (fseq (fasg (ftup (fcons (fcon (.str "odd")) fnil)) (gname 1))
 (fseq (ftryAs (subX "LotError") 2
  (fseq (fasg (ftup (fcons (fcon (.str "told")) (fcons (fun _ st => h st) fnil))) (gname 1))
   fskip)
  (fun x => (fseq (fasg (flst false (fcons (fexis x "InvalidPaper" (fcons (fvar 2) (fcons (fcon (.glb "InvalidPaper")) fnil))) (fcons (fexis x "NotUsable" (fcons (fvar 2) (fcons (fcon (.glb "NotUsable")) fnil))) (fcons (fexis x "NoStory" (fcons (fvar 2) (fcons (fcon (.glb "NoStory")) fnil))) fnil)))) (gname 3))
   (fseq (fasg (flst false (fcons (fexis x "PaperError" (fcons (fvar 2) (fcons (fcon (.glb "PaperError")) fnil))) (fcons (fexis x "CaseError" (fcons (fvar 2) (fcons (fcon (.glb "CaseError")) fnil))) (fcons (fexisP x "HouseError" "TextError" (fcons (fvar 2) (fcons (ftup (fcons (fcon (.glb "HouseError")) (fcons (fcon (.glb "TextError")) fnil))) fnil))) fnil)))) (gname 4))
   (fseq (fifS (fand (ftru (fexisT x "ValueError" (fcons (fvar 2) (fcons (fcon (.ty "ValueError")) fnil)))) (fnot (ftru (fexis x "UnknownLot" (fcons (fvar 2) (fcons (fcon (.glb "UnknownLot")) fnil))))))
    (fseq (fifS (fand (fbool (fbin (cmpD .Eq) (fvar 3) (flst false (fcons (fcon (.bl true)) (fcons (fcon (.bl false)) (fcons (fcon (.bl false)) fnil)))))) (fbool (fbin (cmpD .Eq) (fvar 4) (flst false (fcons (fcon (.bl true)) (fcons (fcon (.bl false)) (fcons (fcon (.bl false)) fnil)))))))
     (fseq (fasg (ftup (fcons (fcon (.str "paper")) (fcons (fexat x "word") (fcons (fexat x "at") fnil)))) (gname 1))
     fskip)
     fskip)
    (fseq (fifS (fand (fbool (fbin (cmpD .Eq) (fvar 3) (flst false (fcons (fcon (.bl false)) (fcons (fcon (.bl true)) (fcons (fcon (.bl false)) fnil)))))) (fbool (fbin (cmpD .Eq) (fvar 4) (flst false (fcons (fcon (.bl false)) (fcons (fcon (.bl true)) (fcons (fcon (.bl false)) fnil)))))))
     (fseq (fasg (ftup (fcons (fcon (.str "use")) (fcons (fexat x "word") (fcons (fexat x "at") fnil)))) (gname 1))
     fskip)
     fskip)
    (fseq (fifS (fand (fbool (fbin (cmpD .Eq) (fvar 3) (flst false (fcons (fcon (.bl false)) (fcons (fcon (.bl false)) (fcons (fcon (.bl true)) fnil)))))) (fbool (fbin (cmpD .Eq) (fvar 4) (flst false (fcons (fcon (.bl false)) (fcons (fcon (.bl true)) (fcons (fcon (.bl false)) fnil)))))))
     (fseq (fasg (ftup (fcons (fcon (.str "none")) (fcons (fexat x "blamed") fnil))) (gname 1))
     fskip)
     fskip)
    fskip)))
    fskip)
   fskip)))))
 (fseq (fret (fvar 1))
 fskip)))
theorem mir__law_refused (k : Nat) (h : Store → Res D) : lamFE (C (k + 4)) 100 fe__law_refused h = m__law_refused k h := by kernel_rfl
def m_require_usable (k : Nat) : FS := (fseq (fifS (fnot (ftru (fvar 0)))
  (fseq (fraise "NotUsable" ["word", "at"] (fcons (fvar 1) (fcons (fvar 2) fnil)))
  fskip)
  fskip)
 fskip)
theorem mir_require_usable (k : Nat) : exSs (C (k + 4)) fe_require_usable.S 100 fe_require_usable.body = m_require_usable k := by kernel_rfl
theorem run_require_usable (k : Nat) (x0 x1 x2 : D) (st : Store) : run (k + 1) fe_require_usable [x0, x1, x2] st = endX (m_require_usable k [some x0, some x1, some x2] st) := by
  rw [← mir_require_usable]
  kernel_rfl
def m_check_lots (k : Nat) : FS := (fseq (fasg (fslice false (fvar 0) (fpart (fcon (.int 2))) fpartN) (gtup 2 (gcons (gname 2) (gcons (gname 3) gnil))))
 (fseq (fdrop (fcallX (cl k fe_require_usable [0, 1, 2]) (fapp (fcons (fandV (fcallO isiD (fcons (fvar 1) (fcons (fcon (.ty "tuple")) fnil))) (fbin (cmpD .LtE) (fcallO lenD (fcons (fvar 1) fnil)) (fvar 3))) (fcons (fcon (.str "lots")) (fcons (fneg (fcon (.int 1))) fnil))) fnil)))
 (fseq (ffor (fenum (fvar 1)) (gtup 2 (gcons (gname 4) (gcons (gname 5) gnil)))
  (fseq (fdrop (fcallX (cl k fe_require_usable [0, 1, 2]) (fapp (fcons (fandV (fcallO isiD (fcons (fvar 5) (fcons (fcon (.ty "str")) fnil))) (fandV (fbin (cmpD .In) (fvar 5) (fvar 2)) (forV (fbin (cmpD .Eq) (fvar 4) (fcon (.int 0))) (fbin (cmpD .Lt) (fbin ixD (fvar 1) (fbin (binD2 .Sub) (fvar 4) (fcon (.int 1)))) (fvar 5))))) (fcons (fcon (.str "lots")) (fcons (fvar 4) fnil))) fnil)))
  fskip))
 fskip)))
theorem mir_check_lots (k : Nat) : exSs (C (k + 4)) fe_check_lots.S 100 fe_check_lots.body = m_check_lots k := by kernel_rfl
theorem run_check_lots (k : Nat) (x0 x1 : D) (st : Store) : run (k + 1) fe_check_lots [x0, x1] st = endX (m_check_lots k [some x0, some x1, none, none, none, none] st) := by
  rw [← mir_check_lots]
  kernel_rfl
def m_ways_of (k : Nat) : FS := (fseq (fdrop (fcallX (cl k fe_check_lots [0, 1]) (fapp (fcons (fvar 0) (fcons (fvar 1) fnil)) fnil)))
 (fseq (fasg (fbin ixD (fvar 0) (fcon (.int 0))) (gname 2))
 (fseq (fasg fstuck (gname 3))
 (fseq (fasg (flc false (fitems (fbin ixD (fvar 2) (fcon (.int 1)))) (.one 6) (fbool (fbin (cmpD .Eq) (fbin ixD (fvar 6) (fcon (.int 0))) (fcon (.str "back")))) (fbin ixD (fvar 6) (fcon (.int 1))) [6]) (gname 4))
 (fseq (ffor (fenum (fbin ixD (fvar 2) (fcon (.int 1)))) (gtup 2 (gcons (gname 5) (gcons (gname 6) gnil)))
  (fseq (fdrop (fmethU (C (k + 4)).met "take" 2 [] (fvar 3) (fapp (fcons (fvar 6) (fcons (fvar 5) fnil)) fnil)))
  (fseq (fdrop (fmethU (C (k + 4)).met "give" 2 [] (fvar 3) (fapp (fcons (fvar 5) (fcons (forV (fbin (cmpD .Eq) (fbin ixD (fvar 6) (fcon (.int 0))) (fcon (.str "waste"))) (fandV (fbin (cmpD .Eq) (fbin ixD (fvar 6) (fcon (.int 0))) (fcon (.str "sell"))) (fbin (cmpD .NotIn) (fvar 5) (fvar 4)))) fnil)) fnil)))
  fskip)))
 (fseq (fdrop (fmethU (C (k + 4)).met "end" 0 [] (fvar 3) (fapp fnil fnil)))
 (fseq (fret fstuck)
 fskip)))))))
theorem mir_ways_of (k : Nat) : exSs (C (k + 4)) fe_ways_of.S 100 fe_ways_of.body = m_ways_of k := by kernel_rfl
theorem run_ways_of (k : Nat) (x0 x1 : D) (st : Store) : run (k + 1) fe_ways_of [x0, x1] st = pureS (fun _ _ => endX (m_ways_of k [some x0, some x1, none, none, none, none, none] [])) [x0, x1] st := by
  rw [← mir_ways_of]
  kernel_rfl
def m_sums_of (k : Nat) : FS := (fseq (fasg (fcallX (cl k fe_ways_of [0, 1]) (fapp (fcons (fvar 0) (fcons (fvar 1) fnil)) fnil)) (gname 3))
 (fseq (fasg fstuck (gname 4))
 (fseq (fdrop (fcallX (cl k fe_require_usable [0, 1, 2]) (fapp (fcons (fbin (cmpD .Is) (fvar 4) (fcon .non)) (fcons (fcon (.str "points")) (fcons (fif (fbool (fbin (cmpD .Is) (fvar 4) (fcon .non))) (fneg (fcon (.int 1))) (fvar 4)) fnil))) fnil)))
 (fseq (fret fstuck)
 fskip))))
theorem mir_sums_of (k : Nat) : exSs (C (k + 4)) fe_sums_of.S 100 fe_sums_of.body = m_sums_of k := by kernel_rfl
theorem run_sums_of (k : Nat) (x0 x1 x2 : D) (st : Store) : run (k + 1) fe_sums_of [x0, x1, x2] st = pureS (fun _ _ => endX (m_sums_of k [some x0, some x1, some x2, none, none] [])) [x0, x1, x2] st := by
  rw [← mir_sums_of]
  kernel_rfl
def m_is_barrier (k : Nat) : FS := (fseq (fasg (fcallX (cl k fe_sums_of [0, 1, 2]) (fapp (fcons (fvar 0) (fcons (fvar 1) (fcons (fvar 2) fnil))) fnil)) (gtup 4 (gcons (gname 3) (gcons (gname 4) (gcons (gname 5) (gcons (gname 6) gnil))))))
 (fseq (fret (forV (fbin (cmpD .Gt) (fvar 6) (fvar 3)) (fbin (cmpD .Gt) (fvar 4) (fvar 5))))
 fskip))
theorem mir_is_barrier (k : Nat) : exSs (C (k + 4)) fe_is_barrier.S 100 fe_is_barrier.body = m_is_barrier k := by kernel_rfl
theorem run_is_barrier (k : Nat) (x0 x1 x2 : D) (st : Store) : run (k + 1) fe_is_barrier [x0, x1, x2] st = pureS (fun _ _ => endX (m_is_barrier k [some x0, some x1, some x2, none, none, none, none] [])) [x0, x1, x2] st := by
  rw [← mir_is_barrier]
  kernel_rfl
def m_lets_explain (k : Nat) : FS := (fseq (fdrop (fcallX (cl k fe_check_lots [0, 1]) (fapp (fcons (fvar 0) (fcons (fvar 1) fnil)) fnil)))
 (fseq (fdrop fstuck)
 (fseq (fasg (fvar 2) (gtup 2 (gcons (gname 4) (gcons (gname 5) gnil))))
 (fseq (fdrop fstuck)
 (fseq (fifS (fbool (fbin (cmpD .Eq) (fvar 4) (fcon (.str "story"))))
  (fseq (fdrop fstuck)
  (fseq (fdrop fstuck)
  (fseq (fret (fcon (.bl true)))
  fskip)))
  fskip)
 (fseq (fasg fstuck (gname 3))
 (fseq (fdrop fstuck)
 (fseq (fdrop fstuck)
 (fseq (fret (fcon (.bl false)))
 fskip)))))))))
theorem mir_lets_explain (k : Nat) : exSs (C (k + 4)) fe_lets_explain.S 100 fe_lets_explain.body = m_lets_explain k := by kernel_rfl
theorem run_lets_explain (k : Nat) (x0 x1 x2 : D) (st : Store) : run (k + 1) fe_lets_explain [x0, x1, x2] st = pureS (fun _ _ => endX (m_lets_explain k [some x0, some x1, some x2, none, none, none] [])) [x0, x1, x2] st := by
  rw [← mir_lets_explain]
  kernel_rfl
def m_story_and_barrier (k : Nat) : FS := (fseq (fasg (fcallX (cl k fe_ways_of [0, 1]) (fapp (fcons (fvar 0) (fcons (fvar 1) fnil)) fnil)) (gname 2))
 (fseq (fasg fstuck (gtup 2 (gcons (gname 3) (gcons (gname 4) gnil))))
 (fseq (fret (fif (fbool (fbin (cmpD .Is) (fvar 3) (fcon .non))) (ftup (fcons (fcon .non) (fcons (fvar 4) fnil))) (ftup (fcons fstuck (fcons (fcon .non) fnil)))))
 fskip)))
theorem mir_story_and_barrier (k : Nat) : exSs (C (k + 4)) fe_story_and_barrier.S 100 fe_story_and_barrier.body = m_story_and_barrier k := by kernel_rfl
theorem run_story_and_barrier (k : Nat) (x0 x1 : D) (st : Store) : run (k + 1) fe_story_and_barrier [x0, x1] st = pureS (fun _ _ => endX (m_story_and_barrier k [some x0, some x1, none, none, none] [])) [x0, x1] st := by
  rw [← mir_story_and_barrier]
  kernel_rfl
def m_story_by (k : Nat) : FS := (fseq (fret (fbin ixD (fcallX (cl k fe_story_and_barrier [0, 1]) (fapp (fcons (fvar 0) (fcons (fvar 1) fnil)) fnil)) (fcon (.int 0))))
 fskip)
theorem mir_story_by (k : Nat) : exSs (C (k + 4)) fe_story_by.S 100 fe_story_by.body = m_story_by k := by kernel_rfl
theorem run_story_by (k : Nat) (x0 x1 : D) (st : Store) : run (k + 1) fe_story_by [x0, x1] st = pureS (fun _ _ => endX (m_story_by k [some x0, some x1] [])) [x0, x1] st := by
  rw [← mir_story_by]
  kernel_rfl
def m_barrier_by (k : Nat) : FS := (fseq (fret (fbin ixD (fcallX (cl k fe_story_and_barrier [0, 1]) (fapp (fcons (fvar 0) (fcons (fvar 1) fnil)) fnil)) (fcon (.int 1))))
 fskip)
theorem mir_barrier_by (k : Nat) : exSs (C (k + 4)) fe_barrier_by.S 100 fe_barrier_by.body = m_barrier_by k := by kernel_rfl
theorem run_barrier_by (k : Nat) (x0 x1 : D) (st : Store) : run (k + 1) fe_barrier_by [x0, x1] st = pureS (fun _ _ => endX (m_barrier_by k [some x0, some x1] [])) [x0, x1] st := by
  rw [← mir_barrier_by]
  kernel_rfl
def m_explain_paper (k : Nat) : FS := (fseq (fasg (fcallX (cl k fe_story_and_barrier [0, 1]) (fapp (fcons (fvar 0) (fcons (fvar 1) fnil)) fnil)) (gtup 2 (gcons (gname 2) (gcons (gname 3) gnil))))
 (fseq (fret (fif (fbool (fbin (cmpD .Is) (fvar 2) (fcon .non))) (ftup (fcons (fcon (.str "barrier")) (fcons (fvar 3) fnil))) (ftup (fcons (fcon (.str "story")) (fcons (fvar 2) fnil)))))
 fskip))
theorem mir_explain_paper (k : Nat) : exSs (C (k + 4)) fe_explain_paper.S 100 fe_explain_paper.body = m_explain_paper k := by kernel_rfl
theorem run_explain_paper (k : Nat) (x0 x1 : D) (st : Store) : run (k + 1) fe_explain_paper [x0, x1] st = pureS (fun _ _ => endX (m_explain_paper k [some x0, some x1, none, none] [])) [x0, x1] st := by
  rw [← mir_explain_paper]
  kernel_rfl
def m__law_feed (k : Nat) : FS := (fseq (fret (fdict [((fcon (.str "cells")), (fcallO (listD false) (fcons (fslice false (fvar 0) fpartN (fpart (fcon (.int 63)))) fnil))), ((fcon (.str "at")), (fcon (.int 0))), ((fcon (.str "left")), (fcon (.int 0))), ((fcon (.str "count")), (fcon (.int 0)))]))
 fskip)
theorem mir__law_feed (k : Nat) : exSs (C (k + 4)) fe__law_feed.S 100 fe__law_feed.body = m__law_feed k := by kernel_rfl
theorem run__law_feed (k : Nat) (x0 : D) (st : Store) : run (k + 1) fe__law_feed [x0] st = endX (m__law_feed k [some x0] st) := by
  rw [← mir__law_feed]
  kernel_rfl
def m__law_draw (k : Nat) : FS := (fseq (fasg (fbin (binD2 .Add) (fbin ixD (fvar 0) (fcon (.str "count"))) (fcon (.int 1))) (gsub (fvar 0) (fcon (.str "count"))))
 (fseq (fifS (fbool (fbin (cmpD .Eq) (fbin ixD (fvar 0) (fcon (.str "cells"))) (flst false fnil)))
  (fseq (fret (fbin (binD2 .Mod) (fcallO intD (fcons (fbin ixD (fvar 0) (fcon (.str "count"))) fnil)) (fvar 1)))
  fskip)
  fskip)
 (fseq (fifS (fbool (fbin (cmpD .Gt) (fbin ixD (fvar 0) (fcon (.str "left"))) (fcon (.int 0))))
  (fseq (fasg (fbin (binD2 .Mod) (fcallO intD (fcons (fbin ixD (fvar 0) (fcon (.str "left"))) fnil)) (fvar 1)) (gname 5))
  (fseq (fasg (fbin (binD2 .FloorDiv) (fbin ixD (fvar 0) (fcon (.str "left"))) (fvar 1)) (gsub (fvar 0) (fcon (.str "left"))))
  (fseq (fret (fvar 5))
  fskip)))
  fskip)
 (fseq (fasg (fbin ixD (fvar 0) (fcon (.str "at"))) (gname 2))
 (fseq (fasg (fbin (binD2 .Add) (fvar 2) (fcon (.int 1))) (gsub (fvar 0) (fcon (.str "at"))))
 (fseq (fasg (fbin ixD (fbin ixD (fvar 0) (fcon (.str "cells"))) (fbin (binD2 .Mod) (fcallO intD (fcons (fvar 2) fnil)) (fcallO lenD (fcons (fbin ixD (fvar 0) (fcon (.str "cells"))) fnil)))) (gname 3))
 (fseq (fifS (fand (fbool (fbin (cmpD .GtE) (fvar 3) (fbin (binD2 .Pow) (fcon (.int 10)) (fcon (.int 18))))) (fbool (fbin (cmpD .Lt) (fvar 2) (fcallO lenD (fcons (fbin ixD (fvar 0) (fcon (.str "cells"))) fnil)))))
  (fseq (fasg (fbin (binD2 .FloorDiv) (fvar 3) (fvar 1)) (gsub (fvar 0) (fcon (.str "left"))))
  (fseq (fret (fbin (binD2 .Mod) (fcallO intD (fcons (fvar 3) fnil)) (fvar 1)))
  fskip))
  fskip)
 (fseq (fasg (fbin (binD2 .Mod) (fcallO intD (fcons (fbin (binD2 .Add) (fbin (binD2 .Add) (fbin (binD2 .Mod) (fcallO intD (fcons (fvar 3) fnil)) (fcon (.int 1000001899))) (fbin (binD2 .Mult) (fcon (.int 96857)) (fbin ixD (fvar 0) (fcon (.str "count"))))) (fcon (.int 653))) fnil)) (fcon (.int 2147483543))) (gname 4))
 (fseq (fasg (fbin (binD2 .Mod) (fcallO intD (fcons (fbin (binD2 .Add) (fbin (binD2 .Add) (fbin (binD2 .Pow) (fvar 4) (fcon (.int 3))) (fbin (binD2 .Mult) (fcon (.int 7400621)) (fbin ixD (fvar 0) (fcon (.str "count"))))) (fcon (.int 367))) fnil)) (fcon (.int 2147483477))) (gname 4))
 (fseq (fret (fbin (binD2 .Mod) (fcallO intD (fcons (fbin (binD2 .FloorDiv) (fbin (binD2 .Mod) (fcallO intD (fcons (fbin (binD2 .Add) (fbin (binD2 .Pow) (fvar 4) (fcon (.int 3))) (fbin (binD2 .Mult) (fcon (.int 353)) (fvar 4))) fnil)) (fcon (.int 2147483423))) (fcon (.int 32))) fnil)) (fvar 1)))
 fskip))))))))))
theorem mir__law_draw (k : Nat) : exSs (C (k + 4)) fe__law_draw.S 100 fe__law_draw.body = m__law_draw k := by kernel_rfl
theorem run__law_draw (k : Nat) (x0 x1 : D) (st : Store) : run (k + 1) fe__law_draw [x0, x1] st = endX (m__law_draw k [some x0, some x1, none, none, none, none] st) := by
  rw [← mir__law_draw]
  kernel_rfl
def m__law_any (k : Nat) : FS := (fseq (fret (fbin ixD (fvar 1) (fcallX (cl k fe__law_draw [0, 1]) (fapp (fcons (fvar 0) (fcons (fcallO lenD (fcons (fvar 1) fnil)) fnil)) fnil))))
 fskip)
theorem mir__law_any (k : Nat) : exSs (C (k + 4)) fe__law_any.S 100 fe__law_any.body = m__law_any k := by kernel_rfl
theorem run__law_any (k : Nat) (x0 x1 : D) (st : Store) : run (k + 1) fe__law_any [x0, x1] st = endX (m__law_any k [some x0, some x1] st) := by
  rw [← mir__law_any]
  kernel_rfl
def m__law_document (k : Nat) : FS := (fseq (fasg (ftup (fcons (ftup (fcons (fcon (.str "come")) (fcons (fcon (.str "tank")) (fcons (fcon (.str "ash")) (fcons (fcon (.int 4)) fnil))))) (fcons (ftup (fcons (fcon (.str "come")) (fcons (fcon (.str "tank")) (fcons (fcon (.str "birch")) (fcons (fcon (.int 4)) fnil))))) (fcons (ftup (fcons (fcon (.str "move")) (fcons (fcon (.str "tank")) (fcons (fcon (.str "line")) (fcons (fcon (.int 5)) fnil))))) (fcons (ftup (fcons (fcon (.str "sell")) (fcons (fcon (.str "tank")) (fcons (fcon (.int 2)) fnil)))) fnil))))) (gname 0))
 (fseq (fasg (fbin (binD2 .Add) (fvar 0) (ftup (fcons (ftup (fcons (fcon (.str "come")) (fcons (fcon (.str "line")) (fcons (fcon (.str "cedar")) (fcons (fcon (.int 3)) fnil))))) (fcons (ftup (fcons (fcon (.str "sell")) (fcons (fcon (.str "line")) (fcons (fcon (.int 6)) fnil)))) fnil)))) (gname 0))
 (fseq (fret (ftup (fcons (ftup (fcons (ftup (fcons (ftup (fcons (fcon (.str "line")) (fcons (fcon (.str "pipe")) fnil))) (fcons (ftup (fcons (fcon (.str "tank")) (fcons (fcon (.str "heap")) fnil))) fnil))) (fcons (fvar 0) fnil))) (fcons (ftup (fcons (ftup (fcons (fcon (.str "bad")) (fcons (fcon (.int 5)) fnil))) fnil)) (fcons (ftup (fcons (fcon (.str "ash")) (fcons (fcon (.str "cedar")) fnil))) (fcons (fcon (.int 1)) fnil))))))
 fskip)))
theorem mir__law_document (k : Nat) : exSs (C (k + 4)) fe__law_document.S 100 fe__law_document.body = m__law_document k := by kernel_rfl
theorem run__law_document (k : Nat) (st : Store) : run (k + 1) fe__law_document [] st = endX (m__law_document k [none] st) := by
  rw [← mir__law_document]
  kernel_rfl
def m__law_lots_due (k : Nat) : FS := (fseq (fifS (for_ (fnot (ftru (fcallO isiD (fcons (fvar 1) (fcons (fcon (.ty "tuple")) fnil))))) (fbool (fbin (cmpD .Gt) (fcallO lenD (fcons (fvar 1) fnil)) (fbin ixD (fvar 0) (fcon (.int 3))))))
  (fseq (fret (ftup (fcons (fcon (.str "use")) (fcons (fcon (.str "lots")) (fcons (fneg (fcon (.int 1))) fnil)))))
  fskip)
  fskip)
 (fseq (ffor (fenum (fvar 1)) (gtup 2 (gcons (gname 2) (gcons (gname 3) gnil)))
  (fseq (fifS (for_ (fbool (fbin (cmpD .NotIn) (fcallO reprD (fcons (fvar 3) fnil)) (flc false (fitems (fbin ixD (fvar 0) (fcon (.int 2)))) (.one 4) ftrue (fcallO reprD (fcons (fvar 4) fnil)) [4]))) (fand (fbool (fbin (cmpD .Gt) (fvar 2) (fcon (.int 0)))) (fbool (fbin (cmpD .LtE) (fvar 3) (fbin ixD (fvar 1) (fbin (binD2 .Sub) (fvar 2) (fcon (.int 1))))))))
   (fseq (fret (ftup (fcons (fcon (.str "use")) (fcons (fcon (.str "lots")) (fcons (fvar 2) fnil)))))
   fskip)
   fskip)
  fskip))
 (fseq (fret (fcon .non))
 fskip)))
theorem mir__law_lots_due (k : Nat) : exSs (C (k + 4)) fe__law_lots_due.S 100 fe__law_lots_due.body = m__law_lots_due k := by kernel_rfl
theorem run__law_lots_due (k : Nat) (x0 x1 : D) (st : Store) : run (k + 1) fe__law_lots_due [x0, x1] st = pureS (fun _ _ => endX (m__law_lots_due k [some x0, some x1, none, none, none] [])) [x0, x1] st := by
  rw [← mir__law_lots_due]
  kernel_rfl
def m__law_asks (k : Nat) : FS := (fseq (fasg (flst true (fcons (flamcall (fun h => m__law_refused (k + 1) h) 5 (fcallX (cl k fe_ways_of [0, 1]) (fapp (fcons (fvar 0) (fcons (fvar 1) fnil)) fnil))) fnil)) (gname 2))
 (fseq (fdrop (fmeth "list" appendD (fvar 2) (fcons (flamcall (fun h => m__law_refused (k + 1) h) 5 (fcallX (cl k fe_story_by [1, 0]) (fapp fnil (fcons (fvar 1) (fcons (fvar 0) fnil))))) fnil)))
 (fseq (fdrop (fmeth "list" appendD (fvar 2) (fcons (flamcall (fun h => m__law_refused (k + 1) h) 5 (fcallX (cl k fe_sums_of [0, 1, 2]) (fapp (fcons (fvar 0) (fcons (fvar 1) (fcons (fcon .non) fnil))) fnil))) fnil)))
 (fseq (fdrop (fmeth "list" appendD (fvar 2) (fcons (flamcall (fun h => m__law_refused (k + 1) h) 5 (fcallX (cl k fe_is_barrier [2, 1, 0]) (fapp fnil (fcons (fcon (.int 0)) (fcons (fvar 1) (fcons (fvar 0) fnil)))))) fnil)))
 (fseq (fdrop (fmeth "list" appendD (fvar 2) (fcons (flamcall (fun h => m__law_refused (k + 1) h) 5 (fcallX (cl k fe_barrier_by [0, 1]) (fapp (fcons (fvar 0) (fcons (fvar 1) fnil)) fnil))) fnil)))
 (fseq (fdrop (fmeth "list" appendD (fvar 2) (fcons (flamcall (fun h => m__law_refused (k + 1) h) 5 (fcallX (cl k fe_explain_paper [1, 0]) (fapp fnil (fcons (fvar 1) (fcons (fvar 0) fnil))))) fnil)))
 (fseq (fdrop (fmeth "list" appendD (fvar 2) (fcons (flamcall (fun h => m__law_refused (k + 1) h) 5 (fcallX (cl k fe_lets_explain [0, 1, 2]) (fapp (fcons (fvar 0) (fcons (fvar 1) (fcons (fcon .non) fnil))) fnil))) fnil)))
 (fseq (fdrop (fmeth "list" appendD (fvar 2) (fcons (flamcall (fun h => m__law_refused (k + 1) h) 5 (fmethU (EC.low (C (k + 6))).met "by" 1 ["lots"] (fcon (.glb "Story")) (fapp (fcons (fvar 0) fnil) (fcons (fvar 1) fnil)))) fnil)))
 (fseq (fret (fvar 2))
 fskip)))))))))
theorem mir__law_asks (k : Nat) : exSs (C (k + 6)) fe__law_asks.S 100 fe__law_asks.body = m__law_asks k := by
  unfold m__law_asks
  simp only [← mir__law_refused]
  kernel_rfl
theorem run__law_asks (k : Nat) (x0 x1 : D) (st : Store) : run (k + 3) fe__law_asks [x0, x1] st = endX (m__law_asks k [some x0, some x1, none] st) := by
  rw [← mir__law_asks]
  kernel_rfl
def m_law (k : Nat) : FS := (fseq (fasg (fcallX (cl k fe__law_feed [0]) (fapp (fcons (fvar 0) fnil) fnil)) (gname 1))
 (fseq (fasg (ftup (fcons (fbin ixD (fcallX (cl k fe__law_document []) (fapp fnil fnil)) (fcon (.int 0))) (fcons (ftup (fcons (fcon (.str "ash")) (fcons (fcon (.str "birch")) (fcons (fcon (.str "cedar")) fnil)))) fnil))) (gtup 2 (gcons (gname 7) (gcons (gname 8) gnil))))
 (fseq (fasg (ftup (fcons (fvar 7) (fcons (ftup (fcons (ftup (fcons (fcon (.str "bad")) (fcons (fcon (.int 5)) fnil))) fnil)) (fcons (fvar 8) (fcons (fcon (.int 2)) fnil))))) (gname 2))
 (fseq (fasg (fcallX (cl k fe__law_any [0, 1]) (fapp (fcons (fvar 1) (fcons (flst false (fcons (fcon .non) (fcons (fcon (.int 0)) (fcons (fcon (.str "zz")) (fcons (ftup (fcons (fcon (.str "ash")) fnil)) (fcons (flst false (fcons (fcon (.str "ash")) fnil)) (fcons (fcon (.bl true)) (fcons (fcon (.str "Ash")) (fcons (fcon (.str "")) fnil))))))))) fnil)) fnil)) (gname 3))
 (fseq (fasg (fcallX (cl k fe__law_any [0, 1]) (fapp (fcons (fvar 1) (fcons (flst false (fcons (fslice false (fvar 8) fpartN (fpart (fcon (.int 2)))) (fcons (fslice false (fvar 8) (fpart (fcon (.int 1))) fpartN) (fcons (fstep false (fvar 8) fpartN fpartN (fpart (fcon (.int 2)))) fnil)))) fnil)) fnil)) (gname 4))
 (fseq (fasg (flst false (fcons (fvar 8) (fcons (fstep false (fvar 4) fpartN fpartN (fpart (fneg (fcon (.int 1))))) (fcons (fbin (binD2 .Mult) (fslice false (fvar 4) fpartN (fpart (fcon (.int 1)))) (fcon (.int 2))) (fcons (ftup (fcons (fvar 3) fnil)) (fcons (ftup (fcons (fbin ixD (fvar 4) (fcon (.int 0))) (fcons (fvar 3) fnil))) (fcons (fcallO (listD false) (fcons (fvar 4) fnil)) (fcons (fbin ixD (fvar 4) (fcon (.int 0))) (fcons (flst false (fcons (fvar 3) fnil)) fnil))))))))) (gname 5))
 (fseq (ffor (fitems (fvar 5)) (gname 6)
  (fseq (fasg (ftup (fcons (fcallX (cl k fe__law_lots_due [0, 1]) (fapp (fcons (fvar 2) (fcons (fvar 6) fnil)) fnil)) (fcons (fcallO reprD (fcons (fvar 6) fnil)) fnil))) (gtup 2 (gcons (gname 9) (gcons (gname 10) gnil))))
  (fseq (fifS (for_ (fbool (fbin (cmpD .Is) (fvar 9) (fcon .non))) (for_ (fbool (fbin (cmpD .NotEq) (fcallO reprD (fcons (fcallX (cl k fe__law_asks [0, 1]) (fapp (fcons (fvar 2) (fcons (fvar 6) fnil)) fnil)) fnil)) (fcallO reprD (fcons (fbin (binD2 .Mult) (flst false (fcons (fvar 9) fnil)) (fcon (.int 8))) fnil)))) (fbool (fbin (cmpD .NotEq) (fcallO reprD (fcons (fvar 6) fnil)) (fvar 10)))))
   (fseq (fret (fcon (.bl false)))
   fskip)
   fskip)
  fskip)))
 (fseq (fret (fcon (.bl true)))
 fskip))))))))
theorem mir_law (k : Nat) : exSs (C (k + 4)) fe_law.S 100 fe_law.body = m_law k := by kernel_rfl
theorem run_law (k : Nat) (x0 : D) (st : Store) : run (k + 1) fe_law [x0] st = endX (m_law k [some x0, none, none, none, none, none, none, none, none, none, none] st) := by
  rw [← mir_law]
  kernel_rfl
def m_Story_by (k : Nat) : FS := (fseq (fasg (fcallX (cl k fe_story_by [0, 1]) (fapp (fcons (fvar 1) (fcons (fvar 2) fnil)) fnil)) (gname 3))
 (fseq (fifS (fbool (fbin (cmpD .Is) (fvar 3) (fcon .non)))
  (fseq (fraise "NoStory" ["blamed"] (fcons (fvar 2) fnil))
  fskip)
  fskip)
 (fseq (fret (fcallV (C (k + 4)) 0 2 [] (fapp (fcons (fvar 1) (fcons (fvar 3) fnil)) fnil)))
 fskip)))
theorem mir_Story_by (k : Nat) : exSs (C (k + 4)) fe_Story_by.S 100 fe_Story_by.body = m_Story_by k := by kernel_rfl
theorem run_Story_by (k : Nat) (x0 x1 x2 : D) (st : Store) : run (k + 1) fe_Story_by [x0, x1, x2] st = endX (m_Story_by k [some x0, some x1, some x2, none] st) := by
  rw [← mir_Story_by]
  kernel_rfl
theorem mt_0 (k : Nat) : (C (k + 4)).met 1 "Story" "by" 1 ["lots"] = some (clD k fe_Story_by [0, 1, 2]) := by kernel_rfl
theorem mtl_0 (k : Nat) : (EC.low (C (k + 6))).met 1 "Story" "by" 1 ["lots"] = some (clD k fe_Story_by [0, 1, 2]) := by kernel_rfl
end DL.P
end
section
namespace DL.P
open PySem L2 PyProof.Rows
/-! require_usable, check_lots, by the kernel -/
def reqF : SemX := fun ds st => match pick [0, 1, 2] ds with
  | [x0, x1, x2] => endX (m_require_usable 0 [some x0, some x1, some x2] st)
  | _ => .stuck
theorem reqF_eq (k : Nat) : cl (k + 1) fe_require_usable [0, 1, 2] = reqF := by
  funext ds st
  unfold cl reqF
  generalize pick [0, 1, 2] ds = xs
  match xs with
  | [] => exact if_neg (show ¬ (0 : Nat) = 3 by decide)
  | [_] => exact if_neg (show ¬ (1 : Nat) = 3 by decide)
  | [_, _] => exact if_neg (show ¬ (2 : Nat) = 3 by decide)
  | [a, b, c] => exact (if_pos (show (3 : Nat) = 3 from rfl)).trans (run_require_usable k a b c st)
  | _ :: _ :: _ :: _ :: r => exact if_neg (show ¬ r.length + 4 = 3 by omega)
def chkF : FS := (fseq (fasg (fslice false (fvar 0) (fpart (fcon (.int 2))) fpartN) (gtup 2 (gcons (gname 2) (gcons (gname 3) gnil))))
 (fseq (fdrop (fcallX reqF (fapp (fcons (fandV (fcallO isiD (fcons (fvar 1) (fcons (fcon (.ty "tuple")) fnil))) (fbin (cmpD .LtE) (fcallO lenD (fcons (fvar 1) fnil)) (fvar 3))) (fcons (fcon (.str "lots")) (fcons (fneg (fcon (.int 1))) fnil))) fnil)))
 (fseq (ffor (fenum (fvar 1)) (gtup 2 (gcons (gname 4) (gcons (gname 5) gnil)))
  (fseq (fdrop (fcallX reqF (fapp (fcons (fandV (fcallO isiD (fcons (fvar 5) (fcons (fcon (.ty "str")) fnil))) (fandV (fbin (cmpD .In) (fvar 5) (fvar 2)) (forV (fbin (cmpD .Eq) (fvar 4) (fcon (.int 0))) (fbin (cmpD .Lt) (fbin ixD (fvar 1) (fbin (binD2 .Sub) (fvar 4) (fcon (.int 1)))) (fvar 5))))) (fcons (fcon (.str "lots")) (fcons (fvar 4) fnil))) fnil)))
  fskip))
 fskip)))
theorem chk_eq (k : Nat) : m_check_lots (k + 1) = chkF := by
  unfold m_check_lots chkF
  rw [reqF_eq]
/-- the case of the document's book, three suspects, few 2 -/
def theCase : D := .tup [.tup [.tup [.tup [.str "line", .str "pipe"], .tup [.str "tank", .str "heap"]], .tup [.tup [.str "come", .str "tank", .str "ash", .int 4], .tup [.str "come", .str "tank", .str "birch", .int 4], .tup [.str "move", .str "tank", .str "line", .int 5], .tup [.str "sell", .str "tank", .int 2], .tup [.str "come", .str "line", .str "cedar", .int 3], .tup [.str "sell", .str "line", .int 6]]],
  .tup [.tup [.str "bad", .int 5]], .tup [.str "ash", .str "birch", .str "cedar"], .int 2]
def useX (i : Int) : XD := ⟨"NotUsable", [("at", .int i), ("word", .str "lots")]⟩
def useT (i : Int) : D := .tup [.str "use", .str "lots", .int i]
/-- a value that is no set of lots: what is due of it -/
structure Bad (v : D) (i : Int) : Prop where
  no : noObj v = true
  gd : good v = true
  wt : wt v ≤ 1000
  dp : dp v ≤ 10
  chk : endX (chkF [some theCase, some v, none, none, none, none] []) = .exc (useX i) []
  three : i = -1 ∨ i = 0 ∨ i = 1
  due : endX (m__law_lots_due 0 [some theCase, some v, none, none, none] []) = .ok (useT i) []
def odds : List D := [.non, .int 0, .str "zz", .tup [.str "ash"], .lst [.str "ash"], .bl true, .str "Ash", .str ""]
def twos : List D := [.tup [.str "ash", .str "birch"], .tup [.str "birch", .str "cedar"], .tup [.str "ash", .str "cedar"]]
def ab (t : D) : D × D := match t with | .tup [a, b] => (a, b) | _ => (.non, .non)
def items (o t : D) : List (D × Int) := [(.tup [.str "ash", .str "birch", .str "cedar"], -1), (.tup [(ab t).2, (ab t).1], 1), (.tup [(ab t).1, (ab t).1], 1), (.tup [o], 0), (.tup [(ab t).1, o], 1), (.lst [(ab t).1, (ab t).2], -1), ((ab t).1, -1), (.lst [o], -1)]
theorem bads : ∀ o ∈ odds, ∀ t ∈ twos, ∀ p ∈ items o t, Bad p.1 p.2 := by
  intro o ho t ht p hp
  simp only [odds, List.mem_cons, List.not_mem_nil, or_false] at ho
  simp only [twos, List.mem_cons, List.not_mem_nil, or_false] at ht
  simp only [items, List.mem_cons, List.not_mem_nil, or_false] at hp
  rcases ht with rfl | rfl | rfl <;> simp only [ab] at hp <;> rcases ho with rfl | rfl | rfl | rfl | rfl | rfl | rfl | rfl <;> rcases hp with rfl | rfl | rfl | rfl | rfl | rfl | rfl | rfl <;> exact Bad.mk (by decide +kernel) (by decide +kernel) (by decide +kernel) (by decide +kernel) (by kernel_rfl) (by decide) (by kernel_rfl)
end DL.P
end
section
namespace DL.P
open PySem L2 PyProof.Rows
/-- the feed: its cells, where it is, what is left of a great cell, how many draws -/
structure Feed where
  cells : List Int
  a : Int
  l : Int
  c : Int
def Feed.o (F : Feed) : DO := .dk [(.inr "cells", .lst (F.cells.map D.int)), (.inr "at", .int F.a), (.inr "left", .int F.l), (.inr "count", .int F.c)]
structure Feed.Ok (F : Feed) : Prop where
  a : 0 ≤ F.a
  l : 0 ≤ F.l
  n : F.cells.length ≤ 63
theorem ints_P : ∀ l : List Int, ∃ ps, toPs (l.map D.int) = some ps ∧ PyData.canLayAll0 ps = true ∧ PyData.depthAll ps = 0 ∧ ps.isEmpty = l.isEmpty
  | [] => ⟨[], rfl, rfl, rfl, rfl⟩
  | i :: l => by
    obtain ⟨ps, h1, h2, h3, h4⟩ := ints_P l
    exact ⟨.int i :: ps, by simp [toPs, toP, h1], by simp [PyData.canLayAll0, PyData.canLay0, h2], by simp [PyData.depthAll, PyData.depth, h3], rfl⟩
theorem ne_cells (l : List Int) (st : Store) : cmpD .NotEq (.lst (l.map D.int)) (.lst []) st = .ok (.bl (!l.isEmpty)) st := by
  obtain ⟨ps, h1, h2, h3, h4⟩ := ints_P l
  show eqD true _ _ st = _
  unfold eqD
  have e1 : toPS st (.lst (l.map D.int)) = some (.list ps) := by
    unfold toPS
    simp only [seqL, h1, Option.map_some]
  have e2 : toPS st (.lst []) = some (.list []) := rfl
  rw [e1, e2]
  have s1 : SeqAt.shaped (.list ps) = true := by
    unfold SeqAt.shaped
    simp [PyData.canLay0, PyData.depth, h2, h3]
  have s2 : SeqAt.shaped (.list []) = true := by decide +kernel
  simp only [s1, s2, Bool.and_self, if_true, PyData.eqv, eqvAll_nil, h4]
theorem eq_cells (l : List Int) (st : Store) : cmpD .Eq (.lst (l.map D.int)) (.lst []) st = .ok (.bl l.isEmpty) st := by
  obtain ⟨ps, h1, h2, h3, h4⟩ := ints_P l
  show eqD false _ _ st = _
  unfold eqD
  have e1 : toPS st (.lst (l.map D.int)) = some (.list ps) := by
    unfold toPS
    simp only [seqL, h1, Option.map_some]
  have e2 : toPS st (.lst []) = some (.list []) := rfl
  rw [e1, e2]
  have s1 : SeqAt.shaped (.list ps) = true := by
    unfold SeqAt.shaped
    simp [PyData.canLay0, PyData.depth, h2, h3]
  have s2 : SeqAt.shaped (.list []) = true := by decide +kernel
  simp only [s1, s2, Bool.and_self, if_true, PyData.eqv, eqvAll_nil, h4]
  simp
theorem pow_small {i : Int} (st : Store) (h : 0 ≤ i) (h2 : i < 2 ^ 64) : binD2 .Pow (.int i) (.int 3) st = .ok (.int (i ^ 3)) st := by
  show (if (decide ((0 : Int) ≤ 3) && decide ((3 : Int) ≤ 1000000) && decide (i.natAbs < 2 ^ 64)) = true then Res.ok (D.int (i ^ (3 : Int).toNat)) st else .stuck) = _
  rw [if_pos (by simp; omega)]
  rfl
variable {F : Feed} {rest : Store}
theorem ix_cells (F : Feed) (rest : Store) : ixD (.obj 0) (.str "cells") (F.o :: rest) = .ok (.lst (F.cells.map D.int)) (F.o :: rest) := rfl
theorem ix_at (F : Feed) (rest : Store) : ixD (.obj 0) (.str "at") (F.o :: rest) = .ok (.int F.a) (F.o :: rest) := rfl
theorem ix_left (F : Feed) (rest : Store) : ixD (.obj 0) (.str "left") (F.o :: rest) = .ok (.int F.l) (F.o :: rest) := rfl
theorem ix_count (F : Feed) (rest : Store) : ixD (.obj 0) (.str "count") (F.o :: rest) = .ok (.int F.c) (F.o :: rest) := rfl
theorem set_at (F : Feed) (rest : Store) (i : Int) : setD (.obj 0) (.str "at") (.int i) (F.o :: rest) = some (({ F with a := i } : Feed).o :: rest) := rfl
theorem set_left (F : Feed) (rest : Store) (i : Int) : setD (.obj 0) (.str "left") (.int i) (F.o :: rest) = some (({ F with l := i } : Feed).o :: rest) := rfl
theorem set_count (F : Feed) (rest : Store) (i : Int) : setD (.obj 0) (.str "count") (.int i) (F.o :: rest) = some (({ F with c := i } : Feed).o :: rest) := rfl
@[simp] theorem gsub_ {fo fi : FF D} {env : Env'} {st : Store} {d : D} : gsub fo fi d env st = match fo env st with
  | .ok o st1 => match fi env st1 with
    | .ok i st2 => (setD o i d st2).map fun st3 => (env, st3)
    | _ => none
  | _ => none := rfl
theorem gsub_app {fo fi : FF D} {env : Env'} {st st1 st2 : Store} {o i d : D} (h1 : fo env st = .ok o st1) (h2 : fi env st1 = .ok i st2) : gsub fo fi d env st = (setD o i d st2).map fun st3 => (env, st3) := by
  unfold gsub
  rw [h1]
  simp only [h2]
theorem mod_pos {i j : Int} (st : Store) (h : 0 < j) : binD2 .Mod (.int i) (.int j) st = .ok (.int (i % j)) st := by
  show (if decide (0 < j) = true then _ else _) = _
  rw [if_pos (decide_eq_true h)]
theorem div_pos {i j : Int} (st : Store) (h : 0 < j) (h2 : j < 1073741824) : binD2 .FloorDiv (.int i) (.int j) st = .ok (.int (i / j)) st := by
  show (if (decide (0 < j) && decide (j < 1073741824)) = true then _ else _) = _
  rw [if_pos (by simp [h, h2])]
theorem mul_small {i j : Int} (st : Store) (h : -(2 ^ 64) < i) (h2 : i < 2 ^ 64) : binD2 .Mult (.int i) (.int j) st = .ok (.int (i * j)) st := by
  show (if okMul i j = true then _ else _) = _
  rw [if_pos]
  unfold okMul
  rw [decide_eq_true h, decide_eq_true h2]
  rfl
theorem pow18 (st : Store) : binD2 .Pow (.int 10) (.int 18) st = .ok (.int 1000000000000000000) st := rfl
theorem len_lst (xs : List D) (st : Store) : lenD [.lst xs] st = some (.int xs.length, st) := rfl
theorem ix_lst {xs : List D} {i : Int} {d : D} (st : Store) (h : atI xs i = some d) : ixD (.lst xs) (.int i) st = .ok d st := by
  show (match atI xs i with | some d => Res.ok d st | none => .stuck) = _
  rw [h]
theorem at_mod {xs : List Int} (a : Int) (h : xs ≠ []) : ∃ c, atI (xs.map D.int) (a % (xs.length : Int)) = some (.int c) := by
  have hl : 0 < xs.length := List.length_pos_iff.mpr h
  have h0 : 0 ≤ a % (xs.length : Int) := Int.emod_nonneg _ (by omega)
  have h1 : a % (xs.length : Int) < xs.length := Int.emod_lt_of_pos _ (by omega)
  refine ⟨xs[(a % (xs.length : Int)).toNat]'(by omega), ?_⟩
  unfold atI ixN
  rw [if_pos h0, List.length_map, if_pos (by omega)]
  simp only [Option.bind_some, List.getElem?_map]
  rw [List.getElem?_eq_getElem (by omega)]
  rfl
/-- the last part of a draw: the mixed cell -/
def mixS : FS := (fseq (fasg (fbin (binD2 .Mod) (fcallO intD (fcons (fbin (binD2 .Add) (fbin (binD2 .Add) (fbin (binD2 .Mod) (fcallO intD (fcons (fvar 3) fnil)) (fcon (.int 1000001899))) (fbin (binD2 .Mult) (fcon (.int 96857)) (fbin ixD (fvar 0) (fcon (.str "count"))))) (fcon (.int 653))) fnil)) (fcon (.int 2147483543))) (gname 4))
 (fseq (fasg (fbin (binD2 .Mod) (fcallO intD (fcons (fbin (binD2 .Add) (fbin (binD2 .Add) (fbin (binD2 .Pow) (fvar 4) (fcon (.int 3))) (fbin (binD2 .Mult) (fcon (.int 7400621)) (fbin ixD (fvar 0) (fcon (.str "count"))))) (fcon (.int 367))) fnil)) (fcon (.int 2147483477))) (gname 4))
 (fseq (fret (fbin (binD2 .Mod) (fcallO intD (fcons (fbin (binD2 .FloorDiv) (fbin (binD2 .Mod) (fcallO intD (fcons (fbin (binD2 .Add) (fbin (binD2 .Pow) (fvar 4) (fcon (.int 3))) (fbin (binD2 .Mult) (fcon (.int 353)) (fvar 4))) fnil)) (fcon (.int 2147483423))) (fcon (.int 32))) fnil)) (fvar 1)))
 fskip)))
theorem s_mix (m cell a : Int) (hm : 0 < m) (F : Feed) (rest : Store) (e2 e4 e5 : Option D) : ∃ d, endX (mixS [some (.obj 0), some (.int m), e2, some (.int cell), e4, e5] (F.o :: rest)) = .ok (.int d) (F.o :: rest) ∧ 0 ≤ d ∧ d < m := by
  unfold mixS
  simp only [fseq_, fifS_, fret_, fasg_, fdrop_, fskip_, for__, fand_, fnot_, ftru_, fif_, fbool_, fchain_, fandV_, forV_, fnotV_, fneg_, fcallO_, fapp_, fcons_, fnil_, fcon_, fbin_, ftup_, flst_, fmatch_, fvar0, fvar1, fvar2, fvar3, fvar4, fvar5, fvar6, fvar7, fvar8, fvar9, fvar10, fvar11, fvar12, fvar13, fvar14, bind_ok, bind_stuck, toS_ok, toS_stuck, ofO_some, optS_some, gname_, truD_bl, Bool.not_true, Bool.not_false, Bool.false_eq_true, if_true, if_false, List.cons_append, List.nil_append, List.append_nil, List.set_cons_zero, List.set_cons_succ, endX_rt, endX_nx, fcallX_, toS_exc, bind_exc, endX_exc, ge_int, gt_int, le_int, lt_int, eq_int, add_int, sub_int, int_int, len_tup, isi_non_int, isi_non_bool, isi_non_str, isi_non_tuple, isi_bl_int, isi_bl_bool, isi_bl_str, isi_bl_tuple, isi_int_int, isi_int_bool, isi_int_str, isi_int_tuple, isi_str_int, isi_str_bool, isi_str_str, isi_str_tuple, isi_tup_int, isi_tup_bool, isi_tup_str, isi_tup_tuple, isi_lst_int, isi_lst_bool, isi_lst_str, isi_lst_tuple, ix_count, mod_pos _ (show (0 : Int) < 1000001899 by decide), mul_small _ (show -(2 ^ 64) < (96857 : Int) by decide) (show (96857 : Int) < 2 ^ 64 by decide), mod_pos _ (show (0 : Int) < 2147483543 by decide)]
  generalize hx : (cell % 1000001899 + 96857 * F.c + 653) % 2147483543 = x
  have x1 : 0 ≤ x := by rw [← hx]; exact Int.emod_nonneg _ (by decide)
  have x2 : x < 2147483543 := by rw [← hx]; exact Int.emod_lt_of_pos _ (by decide)
  simp only [fseq_, fifS_, fret_, fasg_, fdrop_, fskip_, for__, fand_, fnot_, ftru_, fif_, fbool_, fchain_, fandV_, forV_, fnotV_, fneg_, fcallO_, fapp_, fcons_, fnil_, fcon_, fbin_, ftup_, flst_, fmatch_, fvar0, fvar1, fvar2, fvar3, fvar4, fvar5, fvar6, fvar7, fvar8, fvar9, fvar10, fvar11, fvar12, fvar13, fvar14, bind_ok, bind_stuck, toS_ok, toS_stuck, ofO_some, optS_some, gname_, truD_bl, Bool.not_true, Bool.not_false, Bool.false_eq_true, if_true, if_false, List.cons_append, List.nil_append, List.append_nil, List.set_cons_zero, List.set_cons_succ, endX_rt, endX_nx, fcallX_, toS_exc, bind_exc, endX_exc, ge_int, gt_int, le_int, lt_int, eq_int, add_int, sub_int, int_int, len_tup, isi_non_int, isi_non_bool, isi_non_str, isi_non_tuple, isi_bl_int, isi_bl_bool, isi_bl_str, isi_bl_tuple, isi_int_int, isi_int_bool, isi_int_str, isi_int_tuple, isi_str_int, isi_str_bool, isi_str_str, isi_str_tuple, isi_tup_int, isi_tup_bool, isi_tup_str, isi_tup_tuple, isi_lst_int, isi_lst_bool, isi_lst_str, isi_lst_tuple, pow_small _ x1 (show x < 2 ^ 64 by omega), ix_count, mul_small _ (show -(2 ^ 64) < (7400621 : Int) by decide) (show (7400621 : Int) < 2 ^ 64 by decide), mod_pos _ (show (0 : Int) < 2147483477 by decide)]
  generalize hy : (x ^ 3 + 7400621 * F.c + 367) % 2147483477 = y
  have y1 : 0 ≤ y := by rw [← hy]; exact Int.emod_nonneg _ (by decide)
  have y2 : y < 2147483477 := by rw [← hy]; exact Int.emod_lt_of_pos _ (by decide)
  simp only [fseq_, fifS_, fret_, fasg_, fdrop_, fskip_, for__, fand_, fnot_, ftru_, fif_, fbool_, fchain_, fandV_, forV_, fnotV_, fneg_, fcallO_, fapp_, fcons_, fnil_, fcon_, fbin_, ftup_, flst_, fmatch_, fvar0, fvar1, fvar2, fvar3, fvar4, fvar5, fvar6, fvar7, fvar8, fvar9, fvar10, fvar11, fvar12, fvar13, fvar14, bind_ok, bind_stuck, toS_ok, toS_stuck, ofO_some, optS_some, gname_, truD_bl, Bool.not_true, Bool.not_false, Bool.false_eq_true, if_true, if_false, List.cons_append, List.nil_append, List.append_nil, List.set_cons_zero, List.set_cons_succ, endX_rt, endX_nx, fcallX_, toS_exc, bind_exc, endX_exc, ge_int, gt_int, le_int, lt_int, eq_int, add_int, sub_int, int_int, len_tup, isi_non_int, isi_non_bool, isi_non_str, isi_non_tuple, isi_bl_int, isi_bl_bool, isi_bl_str, isi_bl_tuple, isi_int_int, isi_int_bool, isi_int_str, isi_int_tuple, isi_str_int, isi_str_bool, isi_str_str, isi_str_tuple, isi_tup_int, isi_tup_bool, isi_tup_str, isi_tup_tuple, isi_lst_int, isi_lst_bool, isi_lst_str, isi_lst_tuple, pow_small _ y1 (show y < 2 ^ 64 by omega), mul_small _ (show -(2 ^ 64) < (353 : Int) by decide) (show (353 : Int) < 2 ^ 64 by decide), mod_pos _ (show (0 : Int) < 2147483423 by decide), div_pos _ (show (0 : Int) < 32 by decide) (show (32 : Int) < 1073741824 by decide), mod_pos _ hm]
  exact ⟨_, rfl, Int.emod_nonneg _ (by omega), Int.emod_lt_of_pos _ hm⟩
theorem draw_parts (k : Nat) : m__law_draw k = (fseq (fasg (fbin (binD2 .Add) (fbin ixD (fvar 0) (fcon (.str "count"))) (fcon (.int 1))) (gsub (fvar 0) (fcon (.str "count"))))
 (fseq (fifS (fbool (fbin (cmpD .Eq) (fbin ixD (fvar 0) (fcon (.str "cells"))) (flst false fnil)))
  (fseq (fret (fbin (binD2 .Mod) (fcallO intD (fcons (fbin ixD (fvar 0) (fcon (.str "count"))) fnil)) (fvar 1)))
  fskip)
  fskip)
 (fseq (fifS (fbool (fbin (cmpD .Gt) (fbin ixD (fvar 0) (fcon (.str "left"))) (fcon (.int 0))))
  (fseq (fasg (fbin (binD2 .Mod) (fcallO intD (fcons (fbin ixD (fvar 0) (fcon (.str "left"))) fnil)) (fvar 1)) (gname 5))
  (fseq (fasg (fbin (binD2 .FloorDiv) (fbin ixD (fvar 0) (fcon (.str "left"))) (fvar 1)) (gsub (fvar 0) (fcon (.str "left"))))
  (fseq (fret (fvar 5))
  fskip)))
  fskip)
 (fseq (fasg (fbin ixD (fvar 0) (fcon (.str "at"))) (gname 2))
 (fseq (fasg (fbin (binD2 .Add) (fvar 2) (fcon (.int 1))) (gsub (fvar 0) (fcon (.str "at"))))
 (fseq (fasg (fbin ixD (fbin ixD (fvar 0) (fcon (.str "cells"))) (fbin (binD2 .Mod) (fcallO intD (fcons (fvar 2) fnil)) (fcallO lenD (fcons (fbin ixD (fvar 0) (fcon (.str "cells"))) fnil)))) (gname 3))
 (fseq (fifS (fand (fbool (fbin (cmpD .GtE) (fvar 3) (fbin (binD2 .Pow) (fcon (.int 10)) (fcon (.int 18))))) (fbool (fbin (cmpD .Lt) (fvar 2) (fcallO lenD (fcons (fbin ixD (fvar 0) (fcon (.str "cells"))) fnil)))))
  (fseq (fasg (fbin (binD2 .FloorDiv) (fvar 3) (fvar 1)) (gsub (fvar 0) (fcon (.str "left"))))
  (fseq (fret (fbin (binD2 .Mod) (fcallO intD (fcons (fvar 3) fnil)) (fvar 1)))
  fskip))
  fskip)
 mixS))))))) := rfl
/-- one draw: a number below m; of the store the feed alone changes -/
theorem s_draw (k : Nat) (m : Int) (hm : 0 < m) (hm2 : m < 1073741824) (F : Feed) (ok : F.Ok) (rest : Store) :
    ∃ (F' : Feed) (d : Int), run (k + 1) fe__law_draw [.obj 0, .int m] (F.o :: rest) = .ok (.int d) (F'.o :: rest) ∧ 0 ≤ d ∧ d < m ∧ F'.Ok := by
  rw [run__law_draw, draw_parts]
  simp only [fseq_, fifS_, fret_, fasg_, fdrop_, fskip_, for__, fand_, fnot_, ftru_, fif_, fbool_, fchain_, fandV_, forV_, fnotV_, fneg_, fcallO_, fapp_, fcons_, fnil_, fcon_, fbin_, ftup_, flst_, fmatch_, fvar0, fvar1, fvar2, fvar3, fvar4, fvar5, fvar6, fvar7, fvar8, fvar9, fvar10, fvar11, fvar12, fvar13, fvar14, bind_ok, bind_stuck, toS_ok, toS_stuck, ofO_some, optS_some, gname_, truD_bl, Bool.not_true, Bool.not_false, Bool.false_eq_true, if_true, if_false, List.cons_append, List.nil_append, List.append_nil, List.set_cons_zero, List.set_cons_succ, endX_rt, endX_nx, fcallX_, toS_exc, bind_exc, endX_exc, ge_int, gt_int, le_int, lt_int, eq_int, add_int, sub_int, int_int, len_tup, isi_non_int, isi_non_bool, isi_non_str, isi_non_tuple, isi_bl_int, isi_bl_bool, isi_bl_str, isi_bl_tuple, isi_int_int, isi_int_bool, isi_int_str, isi_int_tuple, isi_str_int, isi_str_bool, isi_str_str, isi_str_tuple, isi_tup_int, isi_tup_bool, isi_tup_str, isi_tup_tuple, isi_lst_int, isi_lst_bool, isi_lst_str, isi_lst_tuple, ix_count, gsub_, set_count, Option.map_some, ix_cells, eq_cells, List.length_nil, Nat.zero_le]
  by_cases he : F.cells = []
  · have e1 : F.cells.isEmpty = true := by rw [he]; rfl
    simp only [fseq_, fifS_, fret_, fasg_, fdrop_, fskip_, for__, fand_, fnot_, ftru_, fif_, fbool_, fchain_, fandV_, forV_, fnotV_, fneg_, fcallO_, fapp_, fcons_, fnil_, fcon_, fbin_, ftup_, flst_, fmatch_, fvar0, fvar1, fvar2, fvar3, fvar4, fvar5, fvar6, fvar7, fvar8, fvar9, fvar10, fvar11, fvar12, fvar13, fvar14, bind_ok, bind_stuck, toS_ok, toS_stuck, ofO_some, optS_some, gname_, truD_bl, Bool.not_true, Bool.not_false, Bool.false_eq_true, if_true, if_false, List.cons_append, List.nil_append, List.append_nil, List.set_cons_zero, List.set_cons_succ, endX_rt, endX_nx, fcallX_, toS_exc, bind_exc, endX_exc, ge_int, gt_int, le_int, lt_int, eq_int, add_int, sub_int, int_int, len_tup, isi_non_int, isi_non_bool, isi_non_str, isi_non_tuple, isi_bl_int, isi_bl_bool, isi_bl_str, isi_bl_tuple, isi_int_int, isi_int_bool, isi_int_str, isi_int_tuple, isi_str_int, isi_str_bool, isi_str_str, isi_str_tuple, isi_tup_int, isi_tup_bool, isi_tup_str, isi_tup_tuple, isi_lst_int, isi_lst_bool, isi_lst_str, isi_lst_tuple, e1, ix_count, mod_pos _ hm]
    exact ⟨_, _, rfl, Int.emod_nonneg _ (by omega), Int.emod_lt_of_pos _ hm, ok.a, ok.l, ok.n⟩
  have e1 : F.cells.isEmpty = false := by
    cases h : F.cells with
    | nil => exact absurd h he
    | cons _ _ => rfl
  have hl0 : 0 < F.cells.length := List.length_pos_iff.mpr he
  simp only [fseq_, fifS_, fret_, fasg_, fdrop_, fskip_, for__, fand_, fnot_, ftru_, fif_, fbool_, fchain_, fandV_, forV_, fnotV_, fneg_, fcallO_, fapp_, fcons_, fnil_, fcon_, fbin_, ftup_, flst_, fmatch_, fvar0, fvar1, fvar2, fvar3, fvar4, fvar5, fvar6, fvar7, fvar8, fvar9, fvar10, fvar11, fvar12, fvar13, fvar14, bind_ok, bind_stuck, toS_ok, toS_stuck, ofO_some, optS_some, gname_, truD_bl, Bool.not_true, Bool.not_false, Bool.false_eq_true, if_true, if_false, List.cons_append, List.nil_append, List.append_nil, List.set_cons_zero, List.set_cons_succ, endX_rt, endX_nx, fcallX_, toS_exc, bind_exc, endX_exc, ge_int, gt_int, le_int, lt_int, eq_int, add_int, sub_int, int_int, len_tup, isi_non_int, isi_non_bool, isi_non_str, isi_non_tuple, isi_bl_int, isi_bl_bool, isi_bl_str, isi_bl_tuple, isi_int_int, isi_int_bool, isi_int_str, isi_int_tuple, isi_str_int, isi_str_bool, isi_str_str, isi_str_tuple, isi_tup_int, isi_tup_bool, isi_tup_str, isi_tup_tuple, isi_lst_int, isi_lst_bool, isi_lst_str, isi_lst_tuple, e1, ix_left]
  by_cases hl : 0 < F.l
  · rw [decide_eq_true hl]
    simp only [fseq_, fifS_, fret_, fasg_, fdrop_, fskip_, for__, fand_, fnot_, ftru_, fif_, fbool_, fchain_, fandV_, forV_, fnotV_, fneg_, fcallO_, fapp_, fcons_, fnil_, fcon_, fbin_, ftup_, flst_, fmatch_, fvar0, fvar1, fvar2, fvar3, fvar4, fvar5, fvar6, fvar7, fvar8, fvar9, fvar10, fvar11, fvar12, fvar13, fvar14, bind_ok, bind_stuck, toS_ok, toS_stuck, ofO_some, optS_some, gname_, truD_bl, Bool.not_true, Bool.not_false, Bool.false_eq_true, if_true, if_false, List.cons_append, List.nil_append, List.append_nil, List.set_cons_zero, List.set_cons_succ, endX_rt, endX_nx, fcallX_, toS_exc, bind_exc, endX_exc, ge_int, gt_int, le_int, lt_int, eq_int, add_int, sub_int, int_int, len_tup, isi_non_int, isi_non_bool, isi_non_str, isi_non_tuple, isi_bl_int, isi_bl_bool, isi_bl_str, isi_bl_tuple, isi_int_int, isi_int_bool, isi_int_str, isi_int_tuple, isi_str_int, isi_str_bool, isi_str_str, isi_str_tuple, isi_tup_int, isi_tup_bool, isi_tup_str, isi_tup_tuple, isi_lst_int, isi_lst_bool, isi_lst_str, isi_lst_tuple, ix_left, mod_pos _ hm, div_pos _ hm hm2, gsub_, set_left, Option.map_some]
    exact ⟨_, _, rfl, Int.emod_nonneg _ (by omega), Int.emod_lt_of_pos _ hm, ok.a, Int.ediv_nonneg ok.l (by omega), ok.n⟩
  · rw [decide_eq_false hl]
    obtain ⟨cell, hc⟩ := at_mod F.a he
    simp only [fseq_, fifS_, fret_, fasg_, fdrop_, fskip_, for__, fand_, fnot_, ftru_, fif_, fbool_, fchain_, fandV_, forV_, fnotV_, fneg_, fcallO_, fapp_, fcons_, fnil_, fcon_, fbin_, ftup_, flst_, fmatch_, fvar0, fvar1, fvar2, fvar3, fvar4, fvar5, fvar6, fvar7, fvar8, fvar9, fvar10, fvar11, fvar12, fvar13, fvar14, bind_ok, bind_stuck, toS_ok, toS_stuck, ofO_some, optS_some, gname_, truD_bl, Bool.not_true, Bool.not_false, Bool.false_eq_true, if_true, if_false, List.cons_append, List.nil_append, List.append_nil, List.set_cons_zero, List.set_cons_succ, endX_rt, endX_nx, fcallX_, toS_exc, bind_exc, endX_exc, ge_int, gt_int, le_int, lt_int, eq_int, add_int, sub_int, int_int, len_tup, isi_non_int, isi_non_bool, isi_non_str, isi_non_tuple, isi_bl_int, isi_bl_bool, isi_bl_str, isi_bl_tuple, isi_int_int, isi_int_bool, isi_int_str, isi_int_tuple, isi_str_int, isi_str_bool, isi_str_str, isi_str_tuple, isi_tup_int, isi_tup_bool, isi_tup_str, isi_tup_tuple, isi_lst_int, isi_lst_bool, isi_lst_str, isi_lst_tuple, ix_at, gsub_, set_at, Option.map_some, ix_cells, len_lst, List.length_map, mod_pos _ (show (0 : Int) < (F.cells.length : Int) by omega), ix_lst _ hc, pow18]
    by_cases h1 : 1000000000000000000 ≤ cell
    · rw [decide_eq_true h1]
      simp only [fseq_, fifS_, fret_, fasg_, fdrop_, fskip_, for__, fand_, fnot_, ftru_, fif_, fbool_, fchain_, fandV_, forV_, fnotV_, fneg_, fcallO_, fapp_, fcons_, fnil_, fcon_, fbin_, ftup_, flst_, fmatch_, fvar0, fvar1, fvar2, fvar3, fvar4, fvar5, fvar6, fvar7, fvar8, fvar9, fvar10, fvar11, fvar12, fvar13, fvar14, bind_ok, bind_stuck, toS_ok, toS_stuck, ofO_some, optS_some, gname_, truD_bl, Bool.not_true, Bool.not_false, Bool.false_eq_true, if_true, if_false, List.cons_append, List.nil_append, List.append_nil, List.set_cons_zero, List.set_cons_succ, endX_rt, endX_nx, fcallX_, toS_exc, bind_exc, endX_exc, ge_int, gt_int, le_int, lt_int, eq_int, add_int, sub_int, int_int, len_tup, isi_non_int, isi_non_bool, isi_non_str, isi_non_tuple, isi_bl_int, isi_bl_bool, isi_bl_str, isi_bl_tuple, isi_int_int, isi_int_bool, isi_int_str, isi_int_tuple, isi_str_int, isi_str_bool, isi_str_str, isi_str_tuple, isi_tup_int, isi_tup_bool, isi_tup_str, isi_tup_tuple, isi_lst_int, isi_lst_bool, isi_lst_str, isi_lst_tuple, ix_cells, len_lst, List.length_map]
      by_cases h2 : F.a < (F.cells.length : Int)
      · rw [decide_eq_true h2]
        simp only [fseq_, fifS_, fret_, fasg_, fdrop_, fskip_, for__, fand_, fnot_, ftru_, fif_, fbool_, fchain_, fandV_, forV_, fnotV_, fneg_, fcallO_, fapp_, fcons_, fnil_, fcon_, fbin_, ftup_, flst_, fmatch_, fvar0, fvar1, fvar2, fvar3, fvar4, fvar5, fvar6, fvar7, fvar8, fvar9, fvar10, fvar11, fvar12, fvar13, fvar14, bind_ok, bind_stuck, toS_ok, toS_stuck, ofO_some, optS_some, gname_, truD_bl, Bool.not_true, Bool.not_false, Bool.false_eq_true, if_true, if_false, List.cons_append, List.nil_append, List.append_nil, List.set_cons_zero, List.set_cons_succ, endX_rt, endX_nx, fcallX_, toS_exc, bind_exc, endX_exc, ge_int, gt_int, le_int, lt_int, eq_int, add_int, sub_int, int_int, len_tup, isi_non_int, isi_non_bool, isi_non_str, isi_non_tuple, isi_bl_int, isi_bl_bool, isi_bl_str, isi_bl_tuple, isi_int_int, isi_int_bool, isi_int_str, isi_int_tuple, isi_str_int, isi_str_bool, isi_str_str, isi_str_tuple, isi_tup_int, isi_tup_bool, isi_tup_str, isi_tup_tuple, isi_lst_int, isi_lst_bool, isi_lst_str, isi_lst_tuple, div_pos _ hm hm2, set_left, Option.map_some, mod_pos _ hm]
        exact ⟨_, _, rfl, Int.emod_nonneg _ (by omega), Int.emod_lt_of_pos _ hm, by have := ok.a; show 0 ≤ F.a + 1; omega, Int.ediv_nonneg (by omega) (by omega), ok.n⟩
      · rw [decide_eq_false h2]
        simp only [fseq_, fifS_, fret_, fasg_, fdrop_, fskip_, for__, fand_, fnot_, ftru_, fif_, fbool_, fchain_, fandV_, forV_, fnotV_, fneg_, fcallO_, fapp_, fcons_, fnil_, fcon_, fbin_, ftup_, flst_, fmatch_, fvar0, fvar1, fvar2, fvar3, fvar4, fvar5, fvar6, fvar7, fvar8, fvar9, fvar10, fvar11, fvar12, fvar13, fvar14, bind_ok, bind_stuck, toS_ok, toS_stuck, ofO_some, optS_some, gname_, truD_bl, Bool.not_true, Bool.not_false, Bool.false_eq_true, if_true, if_false, List.cons_append, List.nil_append, List.append_nil, List.set_cons_zero, List.set_cons_succ, endX_rt, endX_nx, fcallX_, toS_exc, bind_exc, endX_exc, ge_int, gt_int, le_int, lt_int, eq_int, add_int, sub_int, int_int, len_tup, isi_non_int, isi_non_bool, isi_non_str, isi_non_tuple, isi_bl_int, isi_bl_bool, isi_bl_str, isi_bl_tuple, isi_int_int, isi_int_bool, isi_int_str, isi_int_tuple, isi_str_int, isi_str_bool, isi_str_str, isi_str_tuple, isi_tup_int, isi_tup_bool, isi_tup_str, isi_tup_tuple, isi_lst_int, isi_lst_bool, isi_lst_str, isi_lst_tuple]
        obtain ⟨d, h3, h4, h5⟩ := s_mix m cell 0 hm ({ F with a := F.a + 1, c := F.c + 1 } : Feed) rest (some (.int F.a)) none none
        exact ⟨_, d, h3, h4, h5, by have := ok.a; show 0 ≤ F.a + 1; omega, ok.l, ok.n⟩
    · rw [decide_eq_false h1]
      simp only [fseq_, fifS_, fret_, fasg_, fdrop_, fskip_, for__, fand_, fnot_, ftru_, fif_, fbool_, fchain_, fandV_, forV_, fnotV_, fneg_, fcallO_, fapp_, fcons_, fnil_, fcon_, fbin_, ftup_, flst_, fmatch_, fvar0, fvar1, fvar2, fvar3, fvar4, fvar5, fvar6, fvar7, fvar8, fvar9, fvar10, fvar11, fvar12, fvar13, fvar14, bind_ok, bind_stuck, toS_ok, toS_stuck, ofO_some, optS_some, gname_, truD_bl, Bool.not_true, Bool.not_false, Bool.false_eq_true, if_true, if_false, List.cons_append, List.nil_append, List.append_nil, List.set_cons_zero, List.set_cons_succ, endX_rt, endX_nx, fcallX_, toS_exc, bind_exc, endX_exc, ge_int, gt_int, le_int, lt_int, eq_int, add_int, sub_int, int_int, len_tup, isi_non_int, isi_non_bool, isi_non_str, isi_non_tuple, isi_bl_int, isi_bl_bool, isi_bl_str, isi_bl_tuple, isi_int_int, isi_int_bool, isi_int_str, isi_int_tuple, isi_str_int, isi_str_bool, isi_str_str, isi_str_tuple, isi_tup_int, isi_tup_bool, isi_tup_str, isi_tup_tuple, isi_lst_int, isi_lst_bool, isi_lst_str, isi_lst_tuple]
      obtain ⟨d, h3, h4, h5⟩ := s_mix m cell 0 hm ({ F with a := F.a + 1, c := F.c + 1 } : Feed) rest (some (.int F.a)) none none
      exact ⟨_, d, h3, h4, h5, by have := ok.a; show 0 ≤ F.a + 1; omega, ok.l, ok.n⟩
/-- one of a list's values -/
theorem s_any (k : Nat) {xs : List D} (hx : xs ≠ []) (hl : xs.length < 1073741824) (F : Feed) (ok : F.Ok) (rest : Store) :
    ∃ (F' : Feed) (x : D), run (k + 2) fe__law_any [.obj 0, .lst xs] (F.o :: rest) = .ok x (F'.o :: rest) ∧ x ∈ xs ∧ F'.Ok := by
  have h0 : 0 < xs.length := List.length_pos_iff.mpr hx
  obtain ⟨F', d, h1, h2, h3, h4⟩ := s_draw k (xs.length : Int) (by omega) (by omega) F ok rest
  have hd : d.toNat < xs.length := by omega
  refine ⟨F', xs[d.toNat], ?_, List.getElem_mem hd, h4⟩
  have e : cl (k + 1) fe__law_draw [0, 1] [.obj 0, .int (xs.length : Int)] (F.o :: rest) = .ok (.int d) (F'.o :: rest) := (if_pos rfl).trans h1
  have e2 : atI xs d = some xs[d.toNat] := by
    unfold atI ixN
    rw [if_pos h2, if_pos (by omega)]
    exact List.getElem?_eq_getElem hd
  rw [run__law_any]
  simp only [m__law_any]
  simp only [fseq_, fifS_, fret_, fasg_, fdrop_, fskip_, for__, fand_, fnot_, ftru_, fif_, fbool_, fchain_, fandV_, forV_, fnotV_, fneg_, fcallO_, fapp_, fcons_, fnil_, fcon_, fbin_, ftup_, flst_, fmatch_, fvar0, fvar1, fvar2, fvar3, fvar4, fvar5, fvar6, fvar7, fvar8, fvar9, fvar10, fvar11, fvar12, fvar13, fvar14, bind_ok, bind_stuck, toS_ok, toS_stuck, ofO_some, optS_some, gname_, truD_bl, Bool.not_true, Bool.not_false, Bool.false_eq_true, if_true, if_false, List.cons_append, List.nil_append, List.append_nil, List.set_cons_zero, List.set_cons_succ, endX_rt, endX_nx, fcallX_, toS_exc, bind_exc, endX_exc, ge_int, gt_int, le_int, lt_int, eq_int, add_int, sub_int, int_int, len_tup, isi_non_int, isi_non_bool, isi_non_str, isi_non_tuple, isi_bl_int, isi_bl_bool, isi_bl_str, isi_bl_tuple, isi_int_int, isi_int_bool, isi_int_str, isi_int_tuple, isi_str_int, isi_str_bool, isi_str_str, isi_str_tuple, isi_tup_int, isi_tup_bool, isi_tup_str, isi_tup_tuple, isi_lst_int, isi_lst_bool, isi_lst_str, isi_lst_tuple, len_lst, e, ix_lst _ e2]
end DL.P
end
section
namespace DL.P
open PySem L2 PyProof.Rows
@[simp] theorem fslice_ {m : Bool} {fa : FF D} {lo hi : FF (Option Int)} {env : Env'} {st : Store} : fslice m fa lo hi env st = (fa env st).bind fun x st1 => (lo env st1).bind fun l st2 => (hi env st2).bind fun h st3 => sliceD m x l h st3 := rfl
theorem fpart_ {f : FF D} {env : Env'} {st : Store} : fpart f env st = (f env st).bind fun d st1 => match d with | .int i => .ok (some i) st1 | _ => .stuck := rfl
theorem fpartN_ {env : Env'} {st : Store} : fpartN env st = .ok none st := rfl
/-! the feed -/
def cutI (l : List Int) : List Int := (l.drop (HT.sIx l.length 0 none)).take (HT.sIx l.length l.length (some 63) - HT.sIx l.length 0 none)
theorem cut_ints (l : List Int) : cutD (l.map D.int) none (some 63) = (cutI l).map D.int := by
  unfold cutD cutI
  rw [List.length_map, List.map_take, List.map_drop]
theorem cutI_len (l : List Int) : (cutI l).length ≤ 63 := by
  unfold cutI
  rw [List.length_take]
  have h : HT.sIx l.length l.length (some 63) ≤ 63 := by
    unfold HT.sIx
    simp
    omega
  omega
theorem s_feed (k : Nat) (l : List Int) : run (k + 1) fe__law_feed [.scr (l.map D.int)] [] = .ok (.obj 0) [(⟨cutI l, 0, 0, 0⟩ : Feed).o] := by
  rw [run__law_feed]
  have e : sliceD false (.scr (l.map D.int)) none (some 63) [.dk []] = .ok (.lst ((cutI l).map D.int)) [.dk []] := by
    show Res.ok (D.lst (cutD (l.map D.int) none (some 63))) _ = _
    rw [cut_ints]
  have e2 : listD false [.lst ((cutI l).map D.int)] [.dk []] = some (.lst ((cutI l).map D.int), [.dk []]) := rfl
  unfold Feed.o
  generalize (cutI l).map D.int = cs at e e2
  simp only [m__law_feed]
  simp only [fseq_, fifS_, fret_, fasg_, fdrop_, fskip_, for__, fand_, fnot_, ftru_, fif_, fbool_, fchain_, fandV_, forV_, fnotV_, fneg_, fcallO_, fapp_, fcons_, fnil_, fcon_, fbin_, ftup_, flst_, fmatch_, fvar0, fvar1, fvar2, fvar3, fvar4, fvar5, fvar6, fvar7, fvar8, fvar9, fvar10, fvar11, fvar12, fvar13, fvar14, bind_ok, bind_stuck, toS_ok, toS_stuck, ofO_some, optS_some, gname_, truD_bl, Bool.not_true, Bool.not_false, Bool.false_eq_true, if_true, if_false, List.cons_append, List.nil_append, List.append_nil, List.set_cons_zero, List.set_cons_succ, endX_rt, endX_nx, fcallX_, toS_exc, bind_exc, endX_exc, ge_int, gt_int, le_int, lt_int, eq_int, add_int, sub_int, int_int, len_tup, isi_non_int, isi_non_bool, isi_non_str, isi_non_tuple, isi_bl_int, isi_bl_bool, isi_bl_str, isi_bl_tuple, isi_int_int, isi_int_bool, isi_int_str, isi_int_tuple, isi_str_int, isi_str_bool, isi_str_str, isi_str_tuple, isi_tup_int, isi_tup_bool, isi_tup_str, isi_tup_tuple, isi_lst_int, isi_lst_bool, isi_lst_str, isi_lst_tuple, fdict]
  simp only [fpairs, List.nil_append]
  simp only [fseq_, fifS_, fret_, fasg_, fdrop_, fskip_, for__, fand_, fnot_, ftru_, fif_, fbool_, fchain_, fandV_, forV_, fnotV_, fneg_, fcallO_, fapp_, fcons_, fnil_, fcon_, fbin_, ftup_, flst_, fmatch_, fvar0, fvar1, fvar2, fvar3, fvar4, fvar5, fvar6, fvar7, fvar8, fvar9, fvar10, fvar11, fvar12, fvar13, fvar14, bind_ok, bind_stuck, toS_ok, toS_stuck, ofO_some, optS_some, gname_, truD_bl, Bool.not_true, Bool.not_false, Bool.false_eq_true, if_true, if_false, List.cons_append, List.nil_append, List.append_nil, List.set_cons_zero, List.set_cons_succ, endX_rt, endX_nx, fcallX_, toS_exc, bind_exc, endX_exc, ge_int, gt_int, le_int, lt_int, eq_int, add_int, sub_int, int_int, len_tup, isi_non_int, isi_non_bool, isi_non_str, isi_non_tuple, isi_bl_int, isi_bl_bool, isi_bl_str, isi_bl_tuple, isi_int_int, isi_int_bool, isi_int_str, isi_int_tuple, isi_str_int, isi_str_bool, isi_str_str, isi_str_tuple, isi_tup_int, isi_tup_bool, isi_tup_str, isi_tup_tuple, isi_lst_int, isi_lst_bool, isi_lst_str, isi_lst_tuple, fslice_, fpart_, fpartN_, e, e2]
  rfl
end DL.P
end
section
namespace DL.P
open DL.Z PySem L2 PyProof.Rows
section
variable {v : D} {i : Int} {env : Env'} {F : FF D} {st : Store} {e1 e2 : Option D}
theorem r_chk (k : Nat) (B : Bad v i) : run (k + 2) fe_check_lots [theCase, v] [] = .exc (useX i) [] := by
  rw [run_check_lots, chk_eq]
  exact B.chk
theorem pure_exc {g : Res D} {ds : List D} {st' : Store} (h : noObjs ds = true) (e : g = .exc (useX i) st') : pureS (fun _ _ => g) ds st = .exc (useX i) st := by
  unfold pureS
  rw [if_pos h, e]
  rfl
theorem no2 (B : Bad v i) : noObjs [theCase, v] = true := by
  simp only [noObjs, B.no]
  decide +kernel
theorem no3 (B : Bad v i) {x : D} (h : noObj x = true) : noObjs [theCase, v, x] = true := by
  simp only [noObjs, B.no, h]
  decide +kernel
theorem r_ways (k : Nat) (B : Bad v i) (st : Store) : run (k + 3) fe_ways_of [theCase, v] st = .exc (useX i) st := by
  rw [run_ways_of]
  refine pure_exc (no2 B) (congrArg endX (seq_exc (drop_exc (callX_exc (app0 (cons_ (var rfl) (one (var rfl)))) ((if_pos rfl).trans (r_chk k B))))))
theorem r_sums (k : Nat) (B : Bad v i) {x : D} (h : noObj x = true) (st : Store) : run (k + 4) fe_sums_of [theCase, v, x] st = .exc (useX i) st := by
  rw [run_sums_of]
  refine pure_exc (no3 B h) (congrArg endX (seq_exc (asg_exc (callX_exc (app0 (cons_ (var rfl) (one (var rfl)))) ((if_pos rfl).trans (r_ways k B _))))))
theorem r_bar (k : Nat) (B : Bad v i) {x : D} (h : noObj x = true) (st : Store) : run (k + 5) fe_is_barrier [theCase, v, x] st = .exc (useX i) st := by
  rw [run_is_barrier]
  refine pure_exc (no3 B h) (congrArg endX (seq_exc (asg_exc (callX_exc (app0 (cons_ (var rfl) (cons_ (var rfl) (one (var rfl))))) ((if_pos rfl).trans (r_sums k B h _))))))
theorem r_lets (k : Nat) (B : Bad v i) {x : D} (h : noObj x = true) (st : Store) : run (k + 3) fe_lets_explain [theCase, v, x] st = .exc (useX i) st := by
  rw [run_lets_explain]
  refine pure_exc (no3 B h) (congrArg endX (seq_exc (drop_exc (callX_exc (app0 (cons_ (var rfl) (one (var rfl)))) ((if_pos rfl).trans (r_chk k B))))))
theorem r_sab (k : Nat) (B : Bad v i) (st : Store) : run (k + 4) fe_story_and_barrier [theCase, v] st = .exc (useX i) st := by
  rw [run_story_and_barrier]
  refine pure_exc (no2 B) (congrArg endX (seq_exc (asg_exc (callX_exc (app0 (cons_ (var rfl) (one (var rfl)))) ((if_pos rfl).trans (r_ways k B _))))))
theorem r_sby (k : Nat) (B : Bad v i) (st : Store) : run (k + 5) fe_story_by [theCase, v] st = .exc (useX i) st := by
  rw [run_story_by]
  refine pure_exc (no2 B) (congrArg endX (seq_exc (ret_exc (bin_exc (callX_exc (app0 (cons_ (var rfl) (one (var rfl)))) ((if_pos rfl).trans (r_sab k B _)))))))
theorem r_bby (k : Nat) (B : Bad v i) (st : Store) : run (k + 5) fe_barrier_by [theCase, v] st = .exc (useX i) st := by
  rw [run_barrier_by]
  refine pure_exc (no2 B) (congrArg endX (seq_exc (ret_exc (bin_exc (callX_exc (app0 (cons_ (var rfl) (one (var rfl)))) ((if_pos rfl).trans (r_sab k B _)))))))
theorem r_expl (k : Nat) (B : Bad v i) (st : Store) : run (k + 5) fe_explain_paper [theCase, v] st = .exc (useX i) st := by
  rw [run_explain_paper]
  refine pure_exc (no2 B) (congrArg endX (seq_exc (asg_exc (callX_exc (app0 (cons_ (var rfl) (one (var rfl)))) ((if_pos rfl).trans (r_sab k B _))))))
theorem r_by (k : Nat) (B : Bad v i) (st : Store) : run (k + 6) fe_Story_by [.glb "Story", theCase, v] st = .exc (useX i) st := by
  rw [run_Story_by]
  exact congrArg endX (seq_exc (asg_exc (callX_exc (app0 (cons_ (var rfl) (one (var rfl)))) ((if_pos rfl).trans (r_sby k B _)))))
theorem refused (k : Nat) (h : ∀ st, F env st = .exc (useX i) st) (st : Store) : flamcall (fun h => m__law_refused k h) 5 F env st = .ok (useT i) st := by
  unfold flamcall
  rw [show (fun st1 => F env st1) = fun st => Res.exc (useX i) st from funext h]
  kernel_rfl
theorem app_last {A : FF D} {y : D} {j : Nat} {xs : List D} (he : env[j]? = some (some (.obj st.length))) (hA : A env (st ++ [.lst xs]) = .ok y (st ++ [.lst xs])) (hl : xs.length < 16777216) :
    fdrop (fmeth "list" appendD (fvar j) (fcons A fnil)) env (st ++ [.lst xs]) = .nx env (st ++ [.lst (xs ++ [y])]) := by
  have e : (st ++ [DO.lst xs])[st.length]? = some (.lst xs) := by simp
  refine drop_ (x := .non) (meth_ (var he) (by simp only [tyName, e]) (one hA) ?_)
  unfold appendD lstAt
  simp only [e]
  rw [if_pos hl]
  simp
theorem r_asks (k : Nat) (B : Bad v i) (st : Store) : run (k + 9) fe__law_asks [theCase, v] st = .ok (.obj st.length) (st ++ [.lst (List.replicate 8 (useT i))]) := by
  rw [run__law_asks]
  have c2 : ∀ (f : FE) (k : Nat) (st : Store), f.ps.length = 2 → run k f [theCase, v] st = .exc (useX i) st → cl k f [0, 1] [theCase, v] st = .exc (useX i) st := fun f k st hp h => (if_pos hp.symm).trans h
  have c2' : ∀ (f : FE) (k : Nat) (st : Store), f.ps.length = 2 → run k f [theCase, v] st = .exc (useX i) st → cl k f [1, 0] [v, theCase] st = .exc (useX i) st := fun f k st hp h => (if_pos hp.symm).trans h
  have v0 : ∀ e st, fvar 0 [some theCase, some v, e] st = .ok theCase st := fun e st => rfl
  have v1 : ∀ e st, fvar 1 [some theCase, some v, e] st = .ok v st := fun e st => rfl
  have a2 : ∀ e st, fapp (fcons (fvar 0) (fcons (fvar 1) fnil)) fnil [some theCase, some v, e] st = .ok [theCase, v] st := fun e st => app0 (cons_ (v0 e st) (one (v1 e st)))
  have a2' : ∀ e st, fapp fnil (fcons (fvar 1) (fcons (fvar 0) fnil)) [some theCase, some v, e] st = .ok [v, theCase] st := fun e st => app_ nil_ (cons_ (v1 e st) (one (v0 e st)))
  unfold m__law_asks
  refine (congrArg endX (seq_nx (asg1 (lstM (one (refused (i := i) _ (fun st => callX_exc (a2 none st) (c2 _ _ _ rfl (r_ways (k + 3) B st))) st)) (show (1 : Nat) ≤ 16777216 by decide))))).trans ?_
  let e : Option D := some (.obj st.length)
  refine (congrArg endX (seq_nx (app_last (env := [some theCase, some v, e]) rfl (refused (i := i) _ (fun st => callX_exc (a2' e st) (c2' _ _ _ rfl (r_sby (k + 1) B st))) _) (by show (1 : Nat) < 16777216; decide)))).trans ?_
  refine (congrArg endX (seq_nx (app_last (env := [some theCase, some v, e]) rfl (refused (i := i) _ (fun st => callX_exc (app0 (cons_ (v0 e st) (cons_ (v1 e st) (one (con _))))) ((if_pos rfl).trans (r_sums (k + 2) B rfl st))) _) (by show (2 : Nat) < 16777216; decide)))).trans ?_
  refine (congrArg endX (seq_nx (app_last (env := [some theCase, some v, e]) rfl (refused (i := i) _ (fun st => callX_exc (app_ nil_ (cons_ (con _) (cons_ (v1 e st) (one (v0 e st))))) ((if_pos rfl).trans (r_bar (k + 1) B rfl st))) _) (by show (3 : Nat) < 16777216; decide)))).trans ?_
  refine (congrArg endX (seq_nx (app_last (env := [some theCase, some v, e]) rfl (refused (i := i) _ (fun st => callX_exc (a2 e st) (c2 _ _ _ rfl (r_bby (k + 1) B st))) _) (by show (4 : Nat) < 16777216; decide)))).trans ?_
  refine (congrArg endX (seq_nx (app_last (env := [some theCase, some v, e]) rfl (refused (i := i) _ (fun st => callX_exc (a2' e st) (c2' _ _ _ rfl (r_expl (k + 1) B st))) _) (by show (5 : Nat) < 16777216; decide)))).trans ?_
  refine (congrArg endX (seq_nx (app_last (env := [some theCase, some v, e]) rfl (refused (i := i) _ (fun st => callX_exc (app0 (cons_ (v0 e st) (cons_ (v1 e st) (one (con _))))) ((if_pos rfl).trans (r_lets (k + 3) B rfl st))) _) (by show (6 : Nat) < 16777216; decide)))).trans ?_
  refine (congrArg endX (seq_nx (app_last (env := [some theCase, some v, e]) rfl (refused (i := i) _ (fun st => ?_) _) (by show (7 : Nat) < 16777216; decide)))).trans ?_
  · refine (methU (A := fcon (.glb "Story")) (x := .glb "Story") (met := (EC.low (C (k + 6 + 6))).met) (m := "by") (n := 1) (ks := ["lots"]) (st1 := st) (con _) (g := clD (k + 6) fe_Story_by [0, 1, 2]) (mtl_0 (k + 6)) (app_ (one (v0 e st)) (one (v1 e st)))).trans ?_
    exact (if_pos rfl).trans (r_by k B st)
  · exact congrArg endX (seq_rt (ret_ (var rfl)))
end
end DL.P
end
section
namespace DL.P
open DL.Z PySem L2 PyProof.Rows
section
variable {v : D} {i : Int} {env : Env'} {F : FF D} {st st1 st2 : Store}
theorem r_due (k : Nat) (B : Bad v i) (st : Store) : run (k + 1) fe__law_lots_due [theCase, v] st = .ok (useT i) st := by
  rw [run__law_lots_due]
  unfold pureS
  rw [if_pos (no2 B)]
  have e : endX (m__law_lots_due k [some theCase, some v, none, none, none] []) = .ok (useT i) [] := B.due
  rw [e]
  rfl
/-- two texts that are the same -/
theorem ne_txt {A B : FF D} {x : Str} (h1 : A env st = .ok (.str x) st1) (h2 : B env st1 = .ok (.str x) st2) (hx : PyData.strOk x = true) : fbool (fbin (cmpD .NotEq) A B) env st = .ok false st2 := by
  refine bool_ ((bin h1 h2).trans ?_)
  exact same_ne0 (x := .str x) (by show PyData.strOk x = true; exact hx) (show (0 : Nat) ≤ 64 by decide) st2
theorem toPS_obj {n : Nat} {xs : List D} (h : st[n]? = some (.lst xs)) : toPS st (.obj n) = toPS st (.lst xs) := by
  unfold toPS
  simp only [seqL, h]
theorem repr_obj {n : Nat} {xs : List D} (h : st[n]? = some (.lst xs)) : reprD [.obj n] st = reprD [.lst xs] st := by
  unfold reprD
  simp only [toPS_obj h]
def bodyL (k : Nat) : FS := (fseq (fasg (ftup (fcons (fcallX (cl k fe__law_lots_due [0, 1]) (fapp (fcons (fvar 2) (fcons (fvar 6) fnil)) fnil)) (fcons (fcallO reprD (fcons (fvar 6) fnil)) fnil))) (gtup 2 (gcons (gname 9) (gcons (gname 10) gnil))))
  (fseq (fifS (for_ (fbool (fbin (cmpD .Is) (fvar 9) (fcon .non))) (for_ (fbool (fbin (cmpD .NotEq) (fcallO reprD (fcons (fcallX (cl k fe__law_asks [0, 1]) (fapp (fcons (fvar 2) (fcons (fvar 6) fnil)) fnil)) fnil)) (fcallO reprD (fcons (fbin (binD2 .Mult) (flst false (fcons (fvar 9) fnil)) (fcon (.int 8))) fnil)))) (fbool (fbin (cmpD .NotEq) (fcallO reprD (fcons (fvar 6) fnil)) (fvar 10)))))
   (fseq (fret (fcon (.bl false)))
   fskip)
   fskip)
  fskip))
abbrev lv (s f odd two its lg sm : D) (e6 e9 e10 : Option D) : Env' := [some s, some f, some theCase, some odd, some two, some its, e6, some lg, some sm, e9, e10]
theorem gl8 (B : Bad v i) : good (.lst (List.replicate 8 (useT i))) = true ∧ wt (.lst (List.replicate 8 (useT i))) ≤ 1000000 ∧ dp (.lst (List.replicate 8 (useT i))) ≤ 10 := by
  have h : i = -1 ∨ i = 0 ∨ i = 1 := B.three
  rcases h with rfl | rfl | rfl <;> decide +kernel
theorem turn (k : Nat) (B : Bad v i) (s f odd two its lg sm : D) (e9 e10 : Option D) (st : Store) : ∃ e9' e10' st', bodyL (k + 9) (lv s f odd two its lg sm (some v) e9 e10) st = .nx (lv s f odd two its lg sm (some v) e9' e10') st' := by
  obtain ⟨p, ep, -, hlay, -⟩ := good_P B.gd
  have rv : ∀ st, reprD [v] st = some (.str p.shown, st) := fun st => repr_good st B.gd (by have := B.dp; omega) (by have := B.wt; omega) ep
  obtain ⟨g1, g2, g3⟩ := gl8 B
  obtain ⟨q, eq, -, hlay2, -⟩ := good_P g1
  have rq : ∀ st, reprD [.lst (List.replicate 8 (useT i))] st = some (.str q.shown, st) := fun st => repr_good st g1 (by omega) (by omega) eq
  have d1 : ∀ e9 e10 st, fcallX (cl (k + 9) fe__law_lots_due [0, 1]) (fapp (fcons (fvar 2) (fcons (fvar 6) fnil)) fnil) (lv s f odd two its lg sm (some v) e9 e10) st = .ok (useT i) st := fun e9 e10 st =>
    (cX (app0 (cons_ (var rfl) (one (var rfl))))).trans ((if_pos rfl).trans (r_due (k + 8) B st))
  have s1 : fasg (ftup (fcons (fcallX (cl (k + 9) fe__law_lots_due [0, 1]) (fapp (fcons (fvar 2) (fcons (fvar 6) fnil)) fnil)) (fcons (fcallO reprD (fcons (fvar 6) fnil)) fnil))) (gtup 2 (gcons (gname 9) (gcons (gname 10) gnil))) (lv s f odd two its lg sm (some v) e9 e10) st = .nx (lv s f odd two its lg sm (some v) (some (useT i)) (some (.str p.shown))) st :=
    asg_ (tup_ (cons_ (d1 e9 e10 st) (one (callO (one (var rfl)) (rv st)))) (show (2 : Nat) ≤ 16777216 by decide)) rfl
  let env' : Env' := lv s f odd two its lg sm (some v) (some (useT i)) (some (.str p.shown))
  refine ⟨some (useT i), some (.str p.shown), st ++ [.lst (List.replicate 8 (useT i))], ?_⟩
  unfold bodyL
  rw [seq_nx s1]
  have t1 : fbool (fbin (cmpD .Is) (fvar 9) (fcon .non)) env' st = .ok false st := rfl
  have a1 : fcallO reprD (fcons (fcallX (cl (k + 9) fe__law_asks [0, 1]) (fapp (fcons (fvar 2) (fcons (fvar 6) fnil)) fnil)) fnil) env' st = .ok (.str q.shown) (st ++ [.lst (List.replicate 8 (useT i))]) :=
    callO (one ((cX (app0 (cons_ (var rfl) (one (var rfl))))).trans ((if_pos rfl).trans (r_asks k B st)))) ((repr_obj (by simp)).trans (rq _))
  have a2 : ∀ st, fcallO reprD (fcons (fbin (binD2 .Mult) (flst false (fcons (fvar 9) fnil)) (fcon (.int 8))) fnil) env' st = .ok (.str q.shown) st := fun st =>
    callO (one ((bin (lst_ (one (var rfl)) (show (1 : Nat) ≤ 16777216 by decide)) (con _)).trans rfl)) (rq st)
  have a3 : ∀ st, fcallO reprD (fcons (fvar 6) fnil) env' st = .ok (.str p.shown) st := fun st => callO (one (var rfl)) (rv st)
  have b1 := or_f t1 (or_f (ne_txt a1 (a2 _) (ok_shown hlay2)) (ne_txt (a3 (st ++ [.lst (List.replicate 8 (useT i))])) (var (i := 10) rfl) (ok_shown hlay)))
  rw [seq_nx ((if_pass b1).trans (fskip_ (env := env')))]
  rfl
theorem two_ab {t : D} (h : t ∈ twos) : t = .tup [(ab t).1, (ab t).2] ∧ good0 t = true := by
  simp only [twos, List.mem_cons, List.not_mem_nil, or_false] at h
  rcases h with rfl | rfl | rfl <;> exact ⟨rfl, by decide +kernel⟩
def someD : D := .tup [.str "ash", .str "birch", .str "cedar"]
def ledD : D := match theCase with | .tup (x :: _) => x | _ => .non
theorem its_eq {o t : D} (ho : o ∈ odds) (ht : t ∈ twos) (env : Env') (st : Store) (h4 : env[4]? = some (some t)) (h3 : env[3]? = some (some o)) (h8 : env[8]? = some (some someD)) :
    flst false (fcons (fvar 8) (fcons (fstep false (fvar 4) fpartN fpartN (fpart (fneg (fcon (.int 1))))) (fcons (fbin (binD2 .Mult) (fslice false (fvar 4) fpartN (fpart (fcon (.int 1)))) (fcon (.int 2))) (fcons (ftup (fcons (fvar 3) fnil)) (fcons (ftup (fcons (fbin ixD (fvar 4) (fcon (.int 0))) (fcons (fvar 3) fnil))) (fcons (fcallO (listD false) (fcons (fvar 4) fnil)) (fcons (fbin ixD (fvar 4) (fcon (.int 0))) (fcons (flst false (fcons (fvar 3) fnil)) fnil)))))))) env st = .ok (.lst ((items o t).map (·.1))) st := by
  have v8 : fvar 8 env st = .ok someD st := var h8
  have v4 : fvar 4 env st = .ok t st := var h4
  have v3 : fvar 3 env st = .ok o st := var h3
  have e1 : fstep false (fvar 4) fpartN fpartN (fpart (fneg (fcon (.int 1)))) env st = .ok (.tup [(ab t).2, (ab t).1]) st := by
    unfold fstep
    rw [v4]
    simp only [twos, List.mem_cons, List.not_mem_nil, or_false] at ht
    rcases ht with rfl | rfl | rfl <;> rfl
  have e2 : fbin (binD2 .Mult) (fslice false (fvar 4) fpartN (fpart (fcon (.int 1)))) (fcon (.int 2)) env st = .ok (.tup [(ab t).1, (ab t).1]) st := by
    unfold fbin fslice
    rw [v4]
    simp only [twos, List.mem_cons, List.not_mem_nil, or_false] at ht
    rcases ht with rfl | rfl | rfl <;> rfl
  have e3 : fbin ixD (fvar 4) (fcon (.int 0)) env st = .ok (ab t).1 st := by
    refine (bin v4 (con _)).trans ?_
    simp only [twos, List.mem_cons, List.not_mem_nil, or_false] at ht
    rcases ht with rfl | rfl | rfl <;> rfl
  have e4 : fcallO (listD false) (fcons (fvar 4) fnil) env st = .ok (.lst [(ab t).1, (ab t).2]) st := by
    refine callO (one v4) ?_
    simp only [twos, List.mem_cons, List.not_mem_nil, or_false] at ht
    rcases ht with rfl | rfl | rfl <;> rfl
  exact lst_ (cons_ v8 (cons_ e1 (cons_ e2 (cons_ (tup_ (one v3) (show (1 : Nat) ≤ 16777216 by decide)) (cons_ (tup_ (cons_ e3 (one v3)) (show (2 : Nat) ≤ 16777216 by decide)) (cons_ e4 (cons_ e3 (one (lst_ (one v3) (show (1 : Nat) ≤ 16777216 by decide)))))))))) (show (8 : Nat) ≤ 16777216 by decide)
theorem twos_eq (env : Env') (st : Store) (h8 : env[8]? = some (some someD)) : flst false (fcons (fslice false (fvar 8) fpartN (fpart (fcon (.int 2)))) (fcons (fslice false (fvar 8) (fpart (fcon (.int 1))) fpartN) (fcons (fstep false (fvar 8) fpartN fpartN (fpart (fcon (.int 2)))) fnil))) env st = .ok (.lst twos) st := by
  have v8 : fvar 8 env st = .ok someD st := var h8
  refine lst_ (cons_ (st1 := st) ?_ (cons_ (st1 := st) ?_ (one (st := st) ?_))) (show (3 : Nat) ≤ 16777216 by decide)
  · unfold fslice; rw [v8]; rfl
  · unfold fslice; rw [v8]; rfl
  · unfold fstep; rw [v8]; kernel_rfl
theorem loop (k : Nat) (s f odd two its lg sm : D) : ∀ (l : List (D × Int)), (∀ p ∈ l, Bad p.1 p.2) → ∀ (e6 e9 e10 : Option D) (st : Store), ∃ e6' e9' e10' st', forL (fun _ => true) (gname 6) (bodyL (k + 9)) (l.map (·.1)) (lv s f odd two its lg sm e6 e9 e10) st = .nx (lv s f odd two its lg sm e6' e9' e10') st'
  | [], _, e6, e9, e10, st => ⟨e6, e9, e10, st, rfl⟩
  | p :: l, h, e6, e9, e10, st => by
    obtain ⟨e9', e10', st', h1⟩ := turn k (h p List.mem_cons_self) s f odd two its lg sm e9 e10 st
    obtain ⟨a, b, c, d, h2⟩ := loop k s f odd two its lg sm l (fun q hq => h q (List.mem_cons_of_mem _ hq)) (some p.1) e9' e10' st'
    refine ⟨a, b, c, d, ?_⟩
    exact (forL_cons rfl rfl h1).trans h2
theorem r_doc (k : Nat) (st : Store) : ∃ b c d, run (k + 1) fe__law_document [] st = .ok (.tup [ledD, b, c, d]) st := by
  rw [run__law_document]
  exact ⟨.tup [.tup [.str "bad", .int 5]], .tup [.str "ash", .str "cedar"], .int 1, by kernel_rfl⟩
theorem s_law (k : Nat) (l : List Int) : ∃ st, run (k + 13) fe_law [.scr (l.map D.int)] [] = .ok (.bl true) st := by
  rw [run_law]
  unfold m_law
  obtain ⟨s, hs⟩ : ∃ s, s = D.scr (l.map D.int) := ⟨_, rfl⟩
  have f1 := s_feed (k + 11) l
  rw [← hs] at f1 ⊢
  let F0 : Feed := ⟨cutI l, 0, 0, 0⟩
  have ok0 : F0.Ok := ⟨Int.le_refl _, Int.le_refl _, cutI_len l⟩
  refine Exists.imp (fun st h => (congrArg endX (seq_nx (asg1 ((cX (app0 (one (var rfl)))).trans ((if_pos rfl).trans f1))))).trans h) ?_
  obtain ⟨b, c, d, hd⟩ := r_doc (k + 11) [F0.o]
  refine Exists.imp (fun st h => (congrArg endX (seq_nx (asg_ (tup_ (cons_ (show fbin ixD (fcallX (cl (k + 12) fe__law_document []) (fapp fnil fnil)) (fcon (.int 0)) _ _ = Res.ok ledD [F0.o] from (bin ((cX (app0 nil_)).trans ((if_pos rfl).trans hd)) (con _)).trans rfl) (one (tup_ (cons_ (con _) (cons_ (con _) (one (con _)))) (show (3 : Nat) ≤ 16777216 by decide)))) (show (2 : Nat) ≤ 16777216 by decide)) rfl))).trans h) ?_
  refine Exists.imp (fun st h => (congrArg endX (seq_nx (asg1 (tup_ (cons_ (var rfl) (cons_ (tup_ (one (tup_ (cons_ (con _) (one (con _))) (show (2 : Nat) ≤ 16777216 by decide))) (show (1 : Nat) ≤ 16777216 by decide)) (cons_ (var rfl) (one (con _))))) (show (4 : Nat) ≤ 16777216 by decide))))).trans h) ?_
  obtain ⟨F1, o, hF1, ho, ok1⟩ := s_any (k + 10) (xs := odds) (by decide) (by decide) F0 ok0 []
  have g1 : ∀ env, flst false (fcons (fcon .non) (fcons (fcon (.int 0)) (fcons (fcon (.str "zz")) (fcons (ftup (fcons (fcon (.str "ash")) fnil)) (fcons (flst false (fcons (fcon (.str "ash")) fnil)) (fcons (fcon (.bl true)) (fcons (fcon (.str "Ash")) (fcons (fcon (.str "")) fnil)))))))) env [F0.o] = .ok (.lst odds) [F0.o] := fun env => rfl
  refine Exists.imp (fun st h => (congrArg endX (seq_nx (asg1 ((cX (app0 (cons_ (var rfl) (one (g1 _))))).trans ((if_pos rfl).trans hF1))))).trans h) ?_
  obtain ⟨F2, t, hF2, ht, ok2⟩ := s_any (k + 10) (xs := twos) (by decide) (by decide) F1 ok1 []
  refine Exists.imp (fun st h => (congrArg endX (seq_nx (asg1 ((cX (app0 (cons_ (var rfl) (one (twos_eq _ _ rfl))))).trans ((if_pos rfl).trans hF2))))).trans h) ?_
  refine Exists.imp (fun st h => (congrArg endX (seq_nx (asg1 (its_eq ho ht _ _ rfl rfl rfl)))).trans h) ?_
  obtain ⟨e6, e9, e10, st', hl⟩ := loop (k + 3) s (.obj 0) o t (.lst ((items o t).map (·.1))) ledD someD (items o t) (fun p hp => bads o ho t ht p hp) none none none [F2.o]
  refine ⟨st', (congrArg endX (seq_nx (for_of (l := (items o t).map (·.1)) ?_ hl))).trans ?_⟩
  · rfl
  · rfl
end
end DL.P
end
section
namespace DL.P
open PySem PySem.Spec L2 PyProof.Rows
abbrev lamQ (wd x : Str) : Str := (x ++ (".<locals>." : Str)) ++ wd
def MakeT (cs : List (Addr × Addr)) (Tl : List (Addr × Str)) (fd : FuncData) (qual wd : Str) : Prop := ∃ c Pt : Addr, fd.code = .ref c ∧ (c, Pt) ∈ cs ∧ (Pt, lamQ wd qual) ∈ Tl ∧ ∀ p ∈ Tl, p.1 = Pt → p.2 = lamQ wd qual
abbrev Ent (K : PySem.W.Frag) (mg : Str → Option Value) (cs : List (Addr × Addr)) (Tl : List (Addr × Str)) (x : Str) (fe : FE) : Prop := ∃ (f : Addr) (fd : FuncData) (qual : Str) (st : Stmt), mg x = some (.ref f) ∧ GlbAt K x f ∧ PySem.W.keepIn K (.ref f) = true ∧ Fun K x qual st f fd ∧ defScope st = fe.sc ∧ defBody st = fe.body ∧ FnScope fe.N fe.ps fe.sc ∧
    (fe.lam = true → MakeT cs Tl fd qual "<lambda>") ∧ (fe.gen = true → MakeT cs Tl fd qual "<genexpr>") ∧ (fe.va = true → VaOk fd fe.ps) ∧ ∀ n ks perm, sh x n ks = some perm → KB K fd n ks fe.ps perm fe.dfl
def AllEnt (K : PySem.W.Frag) (mg : Str → Option Value) (cs : List (Addr × Addr)) (Tl : List (Addr × Str)) : List (Str × FE) → Prop
  | [] => True
  | (x, fe) :: r => Ent K mg cs Tl x fe ∧ AllEnt K mg cs Tl r
theorem allEnt_at {K : PySem.W.Frag} {mg : Str → Option Value} {cs : List (Addr × Addr)} {Tl : List (Addr × Str)} : ∀ {l : List (Str × FE)}, AllEnt K mg cs Tl l → ∀ x fe, l.lookup x = some fe → Ent K mg cs Tl x fe
  | [], _, x, fe, h => by cases h
  | (y, f) :: r, a, x, fe, h => by
    rw [List.lookup_cons] at h
    split at h
    · rename_i e
      cases h
      cases (eq_of_beq e)
      exact a.1
    · exact allEnt_at a.2 x fe h
def AllG (K : PySem.W.Frag) (mg : Str → Option Value) : List (Str × GV) → Prop
  | [] => True
  | (x, v) :: r => GOk2 K mg x v ∧ AllG K mg r
theorem allG_at {K : PySem.W.Frag} {mg : Str → Option Value} : ∀ {l : List (Str × GV)}, AllG K mg l → ∀ x v, l.lookup x = some v → GOk2 K mg x v
  | [], _, x, v, h => by cases h
  | (y, f) :: r, a, x, v, h => by
    rw [List.lookup_cons] at h
    split at h
    · rename_i e
      cases h
      cases (eq_of_beq e)
      exact a.1
    · exact allG_at a.2 x v h
def AllX (P : Program) (w : World) (K : PySem.W.Frag) (mg : Str → Option Value) : List (Str × List Str) → Prop
  | [] => True
  | (x, v) :: r => (∀ base : Heap, ExOk2 P w K mg base x v) ∧ AllX P w K mg r
theorem allX_at {P : Program} {w : World} {K : PySem.W.Frag} {mg : Str → Option Value} : ∀ {l : List (Str × List Str)}, AllX P w K mg l → ∀ x v, l.lookup x = some v → ∀ base : Heap, ExOk2 P w K mg base x v
  | [], _, x, v, h => by cases h
  | (y, f) :: r, a, x, v, h => by
    rw [List.lookup_cons] at h
    split at h
    · rename_i e
      cases h
      cases (eq_of_beq e)
      exact a.1
    · exact allX_at a.2 x v h
def SubOk (K : PySem.W.Frag) (x c : Str) (b : Bool) : Prop := ∃ Ca Da : Addr, GlbAt K x Ca ∧ GlbAt K c Da ∧ PySem.W.kitOne K (.ref Ca) (.ref Da) = some b ∧ PySem.W.exmOne K (.ref Ca) (.ref Da) = some b
def AllS (K : PySem.W.Frag) : List ((Str × Str) × Bool) → Prop
  | [] => True
  | (x, b) :: r => SubOk K x.1 x.2 b ∧ AllS K r
theorem allS_at {K : PySem.W.Frag} : ∀ {l : List ((Str × Str) × Bool)}, AllS K l → ∀ x b, l.lookup x = some b → SubOk K x.1 x.2 b
  | [], _, x, v, h => by cases h
  | (y, f) :: r, a, x, v, h => by
    rw [List.lookup_cons] at h
    split at h
    · rename_i e
      cases h
      cases (eq_of_beq e)
      exact a.1
    · exact allS_at a.2 x v h
def AllL (K : PySem.W.Frag) (mg : Str → Option Value) : List (Str × FE) → Prop
  | [] => True
  | (x, fe) :: r => LamFn K mg x fe ∧ AllL K mg r
theorem allL_at {K : PySem.W.Frag} {mg : Str → Option Value} : ∀ {l : List (Str × FE)}, AllL K mg l → ∀ x fe, l.lookup x = some fe → LamFn K mg x fe
  | [], _, x, fe, h => by cases h
  | (y, f) :: r, a, x, fe, h => by
    rw [List.lookup_cons] at h
    split at h
    · rename_i e
      cases h
      cases (eq_of_beq e)
      exact a.1
    · exact allL_at a.2 x fe h
abbrev MEnt (K : PySem.W.Frag) (cs : List (Addr × Addr)) (Tl : List (Addr × Str)) (c m : Str) (kd : Nat) (fe : FE) : Prop := ∃ (C f : Addr) (fd : FuncData) (nm qual : Str) (st : Stmt), GlbAt K c C ∧ MetFd K C m f kd ∧ Fun K nm qual st f fd ∧ defScope st = fe.sc ∧ defBody st = fe.body ∧ FnScope fe.N fe.ps fe.sc ∧
    (fe.lam = true → MakeT cs Tl fd qual "<lambda>") ∧ (fe.gen = true → MakeT cs Tl fd qual "<genexpr>") ∧ ∀ n ks perm, shM c m n ks = some perm → KB K fd (n + 1) ks fe.ps perm fe.dfl
def AllM (K : PySem.W.Frag) (cs : List (Addr × Addr)) (Tl : List (Addr × Str)) : List ((Str × Str) × Nat × FE) → Prop
  | [] => True
  | (x, v) :: r => MEnt K cs Tl x.1 x.2 v.1 v.2 ∧ AllM K cs Tl r
theorem allM_at {K : PySem.W.Frag} {cs : List (Addr × Addr)} {Tl : List (Addr × Str)} : ∀ {l : List ((Str × Str) × Nat × FE)}, AllM K cs Tl l → ∀ x v, l.lookup x = some v → MEnt K cs Tl x.1 x.2 v.1 v.2
  | [], _, x, v, h => by cases h
  | (y, f) :: r, a, x, v, h => by
    rw [List.lookup_cons] at h
    split at h
    · rename_i e
      cases h
      cases (eq_of_beq e)
      exact a.1
    · exact allM_at a.2 x v h
abbrev FlEnt (K : PySem.W.Frag) (c f : Str) (i : Nat) : Prop := ∃ Ca p, GlbAt K c Ca ∧ SlX.SCls K Ca ∧ SlX.Slot1 K Ca f p i
def AllF (K : PySem.W.Frag) : List ((Str × Str) × Nat) → Prop
  | [] => True
  | (x, v) :: r => FlEnt K x.1 x.2 v ∧ AllF K r
theorem allF_at {K : PySem.W.Frag} : ∀ {l : List ((Str × Str) × Nat)}, AllF K l → ∀ x v, l.lookup x = some v → FlEnt K x.1 x.2 v
  | [], _, x, v, h => by cases h
  | (y, f) :: r, a, x, v, h => by
    rw [List.lookup_cons] at h
    split at h
    · rename_i e
      cases h
      cases (eq_of_beq e)
      exact a.1
    · exact allF_at a.2 x v h
abbrev StEnt (K : PySem.W.Frag) (x : Str) (t : String) (b : Bool) : Prop := ∃ Ca : Addr, GlbAt K x Ca ∧ PySem.W.kitOne K (.ref Ca) (.type t) = some b
def AllST (K : PySem.W.Frag) : List ((Str × String) × Bool) → Prop
  | [] => True
  | (x, v) :: r => StEnt K x.1 x.2 v ∧ AllST K r
theorem allST_at {K : PySem.W.Frag} : ∀ {l : List ((Str × String) × Bool)}, AllST K l → ∀ x v, l.lookup x = some v → StEnt K x.1 x.2 v
  | [], _, x, v, h => by cases h
  | (y, f) :: r, a, x, v, h => by
    rw [List.lookup_cons] at h
    split at h
    · rename_i e
      cases h
      cases (eq_of_beq e)
      exact a.1
    · exact allST_at a.2 x v h
abbrev ClEnt (K : PySem.W.Frag) (mg : Str → Option Value) (x : Str) : Prop := ∃ C f : Addr, mg x = some (.ref C) ∧ GlbAt K x C ∧ Mk K C f
def AllC (K : PySem.W.Frag) (mg : Str → Option Value) : List (Str × Nat) → Prop
  | [] => True
  | (x, v) :: r => ClEnt K mg x ∧ AllC K mg r
theorem allC_at {K : PySem.W.Frag} {mg : Str → Option Value} : ∀ {l : List (Str × Nat)}, AllC K mg l → ∀ x v, l.lookup x = some v → ClEnt K mg x
  | [], _, x, v, h => by cases h
  | (y, f) :: r, a, x, v, h => by
    rw [List.lookup_cons] at h
    split at h
    · rename_i e
      cases h
      cases (eq_of_beq e)
      exact a.1
    · exact allC_at a.2 x v h
def AllKB (K : PySem.W.Frag) (fd : FuncData) (ps : List Str) (dfl : List D) : List (Nat × List Str × List Nat) → Prop
  | [] => True
  | (n, ks, perm) :: r => KB K fd n ks ps perm dfl ∧ AllKB K fd ps dfl r
theorem allKB_at {K : PySem.W.Frag} {fd : FuncData} {ps : List Str} {dfl : List D} : ∀ {l : List (Nat × List Str × List Nat)}, AllKB K fd ps dfl l → ∀ p ∈ l, KB K fd p.1 p.2.1 ps p.2.2 dfl
  | [], _, p, h => by cases h
  | q :: r, a, p, h => by
    rcases List.mem_cons.mp h with rfl | h
    · exact a.1
    · exact allKB_at a.2 p h
theorem look_mem {α β : Type} [BEq α] [LawfulBEq α] {a : α} {b : β} : ∀ {l : List (α × β)}, l.lookup a = some b → (a, b) ∈ l
  | [], h => by cases h
  | (y, c) :: r, h => by
    rw [List.lookup_cons] at h
    split at h
    · rename_i e
      cases h
      cases (eq_of_beq e)
      exact List.mem_cons_self
    · exact List.mem_cons_of_mem _ (look_mem h)
theorem kb_of {K : PySem.W.Frag} {fd : FuncData} {ps : List Str} {dfl : List D} {x : Str} {l : List (Nat × List Str × List Nat)} (e : (shapes.filterMap fun p => if p.1.1 == x then some (p.1.2.1, p.1.2.2, p.2) else none) = l) (h : AllKB K fd ps dfl l) (n : Nat) (ks : List Str) (perm : List Nat) (hs : sh x n ks = some perm) : KB K fd n ks ps perm dfl := by
  have m := look_mem hs
  have m2 : (n, ks, perm) ∈ l := by
    rw [← e, List.mem_filterMap]
    exact ⟨_, m, by simp⟩
  exact allKB_at h _ m2
theorem kbM_of {K : PySem.W.Frag} {fd : FuncData} {ps : List Str} {dfl : List D} {c m : Str} {l : List (Nat × List Str × List Nat)} (e : (mshapes.filterMap fun p => if p.1.1 == c && p.1.2.1 == m then some (p.1.2.2.1 + 1, p.1.2.2.2, p.2) else none) = l) (h : AllKB K fd ps dfl l) (n : Nat) (ks : List Str) (perm : List Nat) (hs : shM c m n ks = some perm) : KB K fd (n + 1) ks ps perm dfl := by
  have mm := look_mem hs
  have m2 : (n + 1, ks, perm) ∈ l := by
    rw [← e, List.mem_filterMap]
    exact ⟨_, mm, by simp⟩
  exact allKB_at h _ m2
theorem make_one {c Pt : Addr} {q wd : Str} {fd : FuncData} (h : fd.code = .ref c) : MakeT [(c, Pt)] [(Pt, lamQ wd q)] fd q wd := ⟨c, Pt, h, List.mem_cons_self, List.mem_cons_self, fun p hp _ => by
  rcases List.mem_singleton.mp hp with rfl
  rfl⟩
theorem tl_one {c Pt : Addr} {q : Str} : ∀ p ∈ [((Pt : Addr), (q : Str))], p.1 ∈ ([((c : Addr), (Pt : Addr))] : List (Addr × Addr)).map (·.2) := fun p hp => by
  rcases List.mem_singleton.mp hp with rfl
  exact List.mem_cons_self
theorem tl_no {cs : List (Addr × Addr)} : ∀ p ∈ ([] : List (Addr × Str)), p.1 ∈ cs.map (·.2) := fun p hp => by cases hp
def AllTab (h : Heap) (K : PySem.W.Frag) : List (Addr × Addr) → Prop
  | [] => True
  | p :: r => TabF h K p.1 p.2 ∧ AllTab h K r
theorem allTab_at {h : Heap} {K : PySem.W.Frag} : ∀ {l : List (Addr × Addr)}, AllTab h K l → ∀ p ∈ l, TabF h K p.1 p.2
  | [], _, p, hp => by cases hp
  | q :: r, a, p, hp => by
    rcases List.mem_cons.mp hp with rfl | hp
    · exact a.1
    · exact allTab_at a.2 p hp
theorem tab_of {h : Heap} {K : PySem.W.Frag} {c Pt : Addr} {ccl : Value} {cdd : Option Addr} {ccs : Array (Option Value)} {vs : Array Value} (X : K.In h) (lkc : K.lookup c = some ⟨ccl, cdd, .fields vs, ccs⟩) (h11 : vs[11]? = some (.ref Pt)) (hd : PySem.W.codeHdIn K c Pt = true) (nk : K.lookup Pt = none)
    (ht : h.get? Pt = some (PySem.W.tabObj #[])) : TabF h K c Pt := ⟨ht, nk, PySem.W.codeHd_of_K X hd⟩
section
variable {P : Program} {w : World} {K : PySem.W.Frag} {h : Heap} {mg : Str → Option Value} {cs : List (Addr × Addr)} {Tl : List (Addr × Str)} {f p : Addr} {oc kV dc pm cd ct : Value} {od an : Option Addr} {sl : Array (Option Value)} {n : Nat}
theorem sc_require_usable : FnScope fe_require_usable.N fe_require_usable.ps fe_require_usable.sc := ⟨rfl, rfl, rfl, by decide +kernel, rfl, by decide +kernel, by decide +kernel⟩
theorem en_require_usable (X : K.In h) (G : h.Ns mainGlobals mg) (a : PySem.W.nsIn K mainGlobals "require_usable" = some (some (.ref f)))
    (l : K.lookup f = some ⟨oc, od, .func (PySem.W.fnOf "require_usable" "require_usable" (defArgs (top 44)) (defBody (top 44)) (defScope (top 44)) .none kV dc pm an cd ct), sl⟩)
    (c : PySem.W.codeIn K cd "require_usable" = true) (k : PySem.W.keepIn K (.ref f) = true) : Ent K mg cs Tl "require_usable" fe_require_usable :=
  ⟨f, _, _, _, PySem.W.mg_of X G a, a, k, fun_mk (st := top 44) l c k, rfl, rfl, sc_require_usable, (fun z => by cases z), (fun z => by cases z), (fun z => by cases z), kb_of (l := [((3 : Nat), ([] : List Str), ([0, 1, 2] : List Nat))]) (by decide +kernel) ⟨KB.plain (fun s us ws _ hl hk => match us, ws, hl, hk with | [a, b, c], [], _, _ => BindsTo.of_eq rfl), trivial⟩⟩
theorem sc_check_lots : FnScope fe_check_lots.N fe_check_lots.ps fe_check_lots.sc := ⟨rfl, rfl, rfl, by decide +kernel, rfl, by decide +kernel, by decide +kernel⟩
theorem en_check_lots (X : K.In h) (G : h.Ns mainGlobals mg) (a : PySem.W.nsIn K mainGlobals "check_lots" = some (some (.ref f)))
    (l : K.lookup f = some ⟨oc, od, .func (PySem.W.fnOf "check_lots" "check_lots" (defArgs (top 45)) (defBody (top 45)) (defScope (top 45)) .none kV dc pm an cd ct), sl⟩)
    (c : PySem.W.codeIn K cd "check_lots" = true) (k : PySem.W.keepIn K (.ref f) = true) : Ent K mg cs Tl "check_lots" fe_check_lots :=
  ⟨f, _, _, _, PySem.W.mg_of X G a, a, k, fun_mk (st := top 45) l c k, rfl, rfl, sc_check_lots, (fun z => by cases z), (fun z => by cases z), (fun z => by cases z), kb_of (l := [((2 : Nat), ([] : List Str), ([0, 1] : List Nat))]) (by decide +kernel) ⟨KB.plain (fun s us ws _ hl hk => match us, ws, hl, hk with | [a, b], [], _, _ => BindsTo.of_eq rfl), trivial⟩⟩
theorem sc_ways_of : FnScope fe_ways_of.N fe_ways_of.ps fe_ways_of.sc := ⟨rfl, rfl, rfl, by decide +kernel, rfl, by decide +kernel, by decide +kernel⟩
theorem en_ways_of (X : K.In h) (G : h.Ns mainGlobals mg) (a : PySem.W.nsIn K mainGlobals "ways_of" = some (some (.ref f)))
    (l : K.lookup f = some ⟨oc, od, .func (PySem.W.fnOf "ways_of" "ways_of" (defArgs (top 49)) (defBody (top 49)) (defScope (top 49)) .none kV dc pm an cd ct), sl⟩)
    (c : PySem.W.codeIn K cd "ways_of" = true) (k : PySem.W.keepIn K (.ref f) = true) : Ent K mg cs Tl "ways_of" fe_ways_of :=
  ⟨f, _, _, _, PySem.W.mg_of X G a, a, k, fun_mk (st := top 49) l c k, rfl, rfl, sc_ways_of, (fun z => by cases z), (fun z => by cases z), (fun z => by cases z), kb_of (l := [((2 : Nat), ([] : List Str), ([0, 1] : List Nat))]) (by decide +kernel) ⟨KB.plain (fun s us ws _ hl hk => match us, ws, hl, hk with | [a, b], [], _, _ => BindsTo.of_eq rfl), trivial⟩⟩
theorem sc_sums_of : FnScope fe_sums_of.N fe_sums_of.ps fe_sums_of.sc := ⟨rfl, rfl, rfl, by decide +kernel, rfl, by decide +kernel, by decide +kernel⟩
theorem en_sums_of (X : K.In h) (G : h.Ns mainGlobals mg) (a : PySem.W.nsIn K mainGlobals "sums_of" = some (some (.ref f)))
    (l : K.lookup f = some ⟨oc, od, .func (PySem.W.fnOf "sums_of" "sums_of" (defArgs (top 52)) (defBody (top 52)) (defScope (top 52)) .none kV dc pm an cd ct), sl⟩)
    (c : PySem.W.codeIn K cd "sums_of" = true) (k : PySem.W.keepIn K (.ref f) = true) : Ent K mg cs Tl "sums_of" fe_sums_of :=
  ⟨f, _, _, _, PySem.W.mg_of X G a, a, k, fun_mk (st := top 52) l c k, rfl, rfl, sc_sums_of, (fun z => by cases z), (fun z => by cases z), (fun z => by cases z), kb_of (l := [((3 : Nat), ([] : List Str), ([0, 1, 2] : List Nat))]) (by decide +kernel) ⟨KB.plain (fun s us ws _ hl hk => match us, ws, hl, hk with | [a, b, c], [], _, _ => BindsTo.of_eq rfl), trivial⟩⟩
theorem sc_is_barrier : FnScope fe_is_barrier.N fe_is_barrier.ps fe_is_barrier.sc := ⟨rfl, rfl, rfl, by decide +kernel, rfl, by decide +kernel, by decide +kernel⟩
theorem en_is_barrier (X : K.In h) (G : h.Ns mainGlobals mg) (a : PySem.W.nsIn K mainGlobals "is_barrier" = some (some (.ref f)))
    (l : K.lookup f = some ⟨oc, od, .func (PySem.W.fnOf "is_barrier" "is_barrier" (defArgs (top 53)) (defBody (top 53)) (defScope (top 53)) .none kV dc pm an cd ct), sl⟩)
    (c : PySem.W.codeIn K cd "is_barrier" = true) (k : PySem.W.keepIn K (.ref f) = true) : Ent K mg cs Tl "is_barrier" fe_is_barrier :=
  ⟨f, _, _, _, PySem.W.mg_of X G a, a, k, fun_mk (st := top 53) l c k, rfl, rfl, sc_is_barrier, (fun z => by cases z), (fun z => by cases z), (fun z => by cases z), kb_of (l := [((3 : Nat), ([] : List Str), ([0, 1, 2] : List Nat)), ((0 : Nat), ([("points" : Str), ("lots" : Str), ("case" : Str)] : List Str), ([2, 1, 0] : List Nat))]) (by decide +kernel) ⟨KB.plain (fun s us ws _ hl hk => match us, ws, hl, hk with | [a, b, c], [], _, _ => BindsTo.of_eq rfl), KB.plain (fun s us ws _ hl hk => match us, ws, hl, hk with | [], [a, b, c], _, _ => BindsTo.of_eq rfl), trivial⟩⟩
theorem sc_lets_explain : FnScope fe_lets_explain.N fe_lets_explain.ps fe_lets_explain.sc := ⟨rfl, rfl, rfl, by decide +kernel, rfl, by decide +kernel, by decide +kernel⟩
theorem en_lets_explain (X : K.In h) (G : h.Ns mainGlobals mg) (a : PySem.W.nsIn K mainGlobals "lets_explain" = some (some (.ref f)))
    (l : K.lookup f = some ⟨oc, od, .func (PySem.W.fnOf "lets_explain" "lets_explain" (defArgs (top 63)) (defBody (top 63)) (defScope (top 63)) .none kV dc pm an cd ct), sl⟩)
    (c : PySem.W.codeIn K cd "lets_explain" = true) (k : PySem.W.keepIn K (.ref f) = true) : Ent K mg cs Tl "lets_explain" fe_lets_explain :=
  ⟨f, _, _, _, PySem.W.mg_of X G a, a, k, fun_mk (st := top 63) l c k, rfl, rfl, sc_lets_explain, (fun z => by cases z), (fun z => by cases z), (fun z => by cases z), kb_of (l := [((3 : Nat), ([] : List Str), ([0, 1, 2] : List Nat))]) (by decide +kernel) ⟨KB.plain (fun s us ws _ hl hk => match us, ws, hl, hk with | [a, b, c], [], _, _ => BindsTo.of_eq rfl), trivial⟩⟩
theorem sc_story_and_barrier : FnScope fe_story_and_barrier.N fe_story_and_barrier.ps fe_story_and_barrier.sc := ⟨rfl, rfl, rfl, by decide +kernel, rfl, by decide +kernel, by decide +kernel⟩
theorem en_story_and_barrier (X : K.In h) (G : h.Ns mainGlobals mg) (a : PySem.W.nsIn K mainGlobals "story_and_barrier" = some (some (.ref f)))
    (l : K.lookup f = some ⟨oc, od, .func (PySem.W.fnOf "story_and_barrier" "story_and_barrier" (defArgs (top 74)) (defBody (top 74)) (defScope (top 74)) .none kV dc pm an cd ct), sl⟩)
    (c : PySem.W.codeIn K cd "story_and_barrier" = true) (k : PySem.W.keepIn K (.ref f) = true) : Ent K mg cs Tl "story_and_barrier" fe_story_and_barrier :=
  ⟨f, _, _, _, PySem.W.mg_of X G a, a, k, fun_mk (st := top 74) l c k, rfl, rfl, sc_story_and_barrier, (fun z => by cases z), (fun z => by cases z), (fun z => by cases z), kb_of (l := [((2 : Nat), ([] : List Str), ([0, 1] : List Nat))]) (by decide +kernel) ⟨KB.plain (fun s us ws _ hl hk => match us, ws, hl, hk with | [a, b], [], _, _ => BindsTo.of_eq rfl), trivial⟩⟩
theorem sc_story_by : FnScope fe_story_by.N fe_story_by.ps fe_story_by.sc := ⟨rfl, rfl, rfl, by decide +kernel, rfl, by decide +kernel, by decide +kernel⟩
theorem en_story_by (X : K.In h) (G : h.Ns mainGlobals mg) (a : PySem.W.nsIn K mainGlobals "story_by" = some (some (.ref f)))
    (l : K.lookup f = some ⟨oc, od, .func (PySem.W.fnOf "story_by" "story_by" (defArgs (top 75)) (defBody (top 75)) (defScope (top 75)) .none kV dc pm an cd ct), sl⟩)
    (c : PySem.W.codeIn K cd "story_by" = true) (k : PySem.W.keepIn K (.ref f) = true) : Ent K mg cs Tl "story_by" fe_story_by :=
  ⟨f, _, _, _, PySem.W.mg_of X G a, a, k, fun_mk (st := top 75) l c k, rfl, rfl, sc_story_by, (fun z => by cases z), (fun z => by cases z), (fun z => by cases z), kb_of (l := [((0 : Nat), ([("lots" : Str), ("case" : Str)] : List Str), ([1, 0] : List Nat)), ((2 : Nat), ([] : List Str), ([0, 1] : List Nat))]) (by decide +kernel) ⟨KB.plain (fun s us ws _ hl hk => match us, ws, hl, hk with | [], [a, b], _, _ => BindsTo.of_eq rfl), KB.plain (fun s us ws _ hl hk => match us, ws, hl, hk with | [a, b], [], _, _ => BindsTo.of_eq rfl), trivial⟩⟩
theorem sc_barrier_by : FnScope fe_barrier_by.N fe_barrier_by.ps fe_barrier_by.sc := ⟨rfl, rfl, rfl, by decide +kernel, rfl, by decide +kernel, by decide +kernel⟩
theorem en_barrier_by (X : K.In h) (G : h.Ns mainGlobals mg) (a : PySem.W.nsIn K mainGlobals "barrier_by" = some (some (.ref f)))
    (l : K.lookup f = some ⟨oc, od, .func (PySem.W.fnOf "barrier_by" "barrier_by" (defArgs (top 76)) (defBody (top 76)) (defScope (top 76)) .none kV dc pm an cd ct), sl⟩)
    (c : PySem.W.codeIn K cd "barrier_by" = true) (k : PySem.W.keepIn K (.ref f) = true) : Ent K mg cs Tl "barrier_by" fe_barrier_by :=
  ⟨f, _, _, _, PySem.W.mg_of X G a, a, k, fun_mk (st := top 76) l c k, rfl, rfl, sc_barrier_by, (fun z => by cases z), (fun z => by cases z), (fun z => by cases z), kb_of (l := [((2 : Nat), ([] : List Str), ([0, 1] : List Nat))]) (by decide +kernel) ⟨KB.plain (fun s us ws _ hl hk => match us, ws, hl, hk with | [a, b], [], _, _ => BindsTo.of_eq rfl), trivial⟩⟩
theorem sc_explain_paper : FnScope fe_explain_paper.N fe_explain_paper.ps fe_explain_paper.sc := ⟨rfl, rfl, rfl, by decide +kernel, rfl, by decide +kernel, by decide +kernel⟩
theorem en_explain_paper (X : K.In h) (G : h.Ns mainGlobals mg) (a : PySem.W.nsIn K mainGlobals "explain_paper" = some (some (.ref f)))
    (l : K.lookup f = some ⟨oc, od, .func (PySem.W.fnOf "explain_paper" "explain_paper" (defArgs (top 77)) (defBody (top 77)) (defScope (top 77)) .none kV dc pm an cd ct), sl⟩)
    (c : PySem.W.codeIn K cd "explain_paper" = true) (k : PySem.W.keepIn K (.ref f) = true) : Ent K mg cs Tl "explain_paper" fe_explain_paper :=
  ⟨f, _, _, _, PySem.W.mg_of X G a, a, k, fun_mk (st := top 77) l c k, rfl, rfl, sc_explain_paper, (fun z => by cases z), (fun z => by cases z), (fun z => by cases z), kb_of (l := [((0 : Nat), ([("lots" : Str), ("case" : Str)] : List Str), ([1, 0] : List Nat)), ((2 : Nat), ([] : List Str), ([0, 1] : List Nat))]) (by decide +kernel) ⟨KB.plain (fun s us ws _ hl hk => match us, ws, hl, hk with | [], [a, b], _, _ => BindsTo.of_eq rfl), KB.plain (fun s us ws _ hl hk => match us, ws, hl, hk with | [a, b], [], _, _ => BindsTo.of_eq rfl), trivial⟩⟩
theorem sc__law_feed : FnScope fe__law_feed.N fe__law_feed.ps fe__law_feed.sc := ⟨rfl, rfl, rfl, by decide +kernel, rfl, by decide +kernel, by decide +kernel⟩
theorem en__law_feed (X : K.In h) (G : h.Ns mainGlobals mg) (a : PySem.W.nsIn K mainGlobals "_law_feed" = some (some (.ref f)))
    (l : K.lookup f = some ⟨oc, od, .func (PySem.W.fnOf "_law_feed" "_law_feed" (defArgs (top 81)) (defBody (top 81)) (defScope (top 81)) .none kV dc pm an cd ct), sl⟩)
    (c : PySem.W.codeIn K cd "_law_feed" = true) (k : PySem.W.keepIn K (.ref f) = true) : Ent K mg cs Tl "_law_feed" fe__law_feed :=
  ⟨f, _, _, _, PySem.W.mg_of X G a, a, k, fun_mk (st := top 81) l c k, rfl, rfl, sc__law_feed, (fun z => by cases z), (fun z => by cases z), (fun z => by cases z), kb_of (l := [((1 : Nat), ([] : List Str), ([0] : List Nat))]) (by decide +kernel) ⟨KB.plain (fun s us ws _ hl hk => match us, ws, hl, hk with | [a], [], _, _ => BindsTo.of_eq rfl), trivial⟩⟩
theorem sc__law_draw : FnScope fe__law_draw.N fe__law_draw.ps fe__law_draw.sc := ⟨rfl, rfl, rfl, by decide +kernel, rfl, by decide +kernel, by decide +kernel⟩
theorem en__law_draw (X : K.In h) (G : h.Ns mainGlobals mg) (a : PySem.W.nsIn K mainGlobals "_law_draw" = some (some (.ref f)))
    (l : K.lookup f = some ⟨oc, od, .func (PySem.W.fnOf "_law_draw" "_law_draw" (defArgs (top 82)) (defBody (top 82)) (defScope (top 82)) .none kV dc pm an cd ct), sl⟩)
    (c : PySem.W.codeIn K cd "_law_draw" = true) (k : PySem.W.keepIn K (.ref f) = true) : Ent K mg cs Tl "_law_draw" fe__law_draw :=
  ⟨f, _, _, _, PySem.W.mg_of X G a, a, k, fun_mk (st := top 82) l c k, rfl, rfl, sc__law_draw, (fun z => by cases z), (fun z => by cases z), (fun z => by cases z), kb_of (l := [((2 : Nat), ([] : List Str), ([0, 1] : List Nat))]) (by decide +kernel) ⟨KB.plain (fun s us ws _ hl hk => match us, ws, hl, hk with | [a, b], [], _, _ => BindsTo.of_eq rfl), trivial⟩⟩
theorem sc__law_any : FnScope fe__law_any.N fe__law_any.ps fe__law_any.sc := ⟨rfl, rfl, rfl, by decide +kernel, rfl, by decide +kernel, by decide +kernel⟩
theorem en__law_any (X : K.In h) (G : h.Ns mainGlobals mg) (a : PySem.W.nsIn K mainGlobals "_law_any" = some (some (.ref f)))
    (l : K.lookup f = some ⟨oc, od, .func (PySem.W.fnOf "_law_any" "_law_any" (defArgs (top 83)) (defBody (top 83)) (defScope (top 83)) .none kV dc pm an cd ct), sl⟩)
    (c : PySem.W.codeIn K cd "_law_any" = true) (k : PySem.W.keepIn K (.ref f) = true) : Ent K mg cs Tl "_law_any" fe__law_any :=
  ⟨f, _, _, _, PySem.W.mg_of X G a, a, k, fun_mk (st := top 83) l c k, rfl, rfl, sc__law_any, (fun z => by cases z), (fun z => by cases z), (fun z => by cases z), kb_of (l := [((2 : Nat), ([] : List Str), ([0, 1] : List Nat))]) (by decide +kernel) ⟨KB.plain (fun s us ws _ hl hk => match us, ws, hl, hk with | [a, b], [], _, _ => BindsTo.of_eq rfl), trivial⟩⟩
theorem sc__law_document : FnScope fe__law_document.N fe__law_document.ps fe__law_document.sc := ⟨rfl, rfl, rfl, by decide +kernel, rfl, by decide +kernel, by decide +kernel⟩
theorem en__law_document (X : K.In h) (G : h.Ns mainGlobals mg) (a : PySem.W.nsIn K mainGlobals "_law_document" = some (some (.ref f)))
    (l : K.lookup f = some ⟨oc, od, .func (PySem.W.fnOf "_law_document" "_law_document" (defArgs (top 84)) (defBody (top 84)) (defScope (top 84)) .none kV dc pm an cd ct), sl⟩)
    (c : PySem.W.codeIn K cd "_law_document" = true) (k : PySem.W.keepIn K (.ref f) = true) : Ent K mg cs Tl "_law_document" fe__law_document :=
  ⟨f, _, _, _, PySem.W.mg_of X G a, a, k, fun_mk (st := top 84) l c k, rfl, rfl, sc__law_document, (fun z => by cases z), (fun z => by cases z), (fun z => by cases z), kb_of (l := [((0 : Nat), ([] : List Str), ([] : List Nat))]) (by decide +kernel) ⟨KB.plain (fun s us ws _ hl hk => match us, ws, hl, hk with | [], [], _, _ => BindsTo.of_eq rfl), trivial⟩⟩
theorem sc__law_lots_due : FnScope fe__law_lots_due.N fe__law_lots_due.ps fe__law_lots_due.sc := ⟨rfl, rfl, rfl, by decide +kernel, rfl, by decide +kernel, by decide +kernel⟩
theorem en__law_lots_due (X : K.In h) (G : h.Ns mainGlobals mg) (a : PySem.W.nsIn K mainGlobals "_law_lots_due" = some (some (.ref f)))
    (l : K.lookup f = some ⟨oc, od, .func (PySem.W.fnOf "_law_lots_due" "_law_lots_due" (defArgs (top 86)) (defBody (top 86)) (defScope (top 86)) .none kV dc pm an cd ct), sl⟩)
    (c : PySem.W.codeIn K cd "_law_lots_due" = true) (k : PySem.W.keepIn K (.ref f) = true) : Ent K mg cs Tl "_law_lots_due" fe__law_lots_due :=
  ⟨f, _, _, _, PySem.W.mg_of X G a, a, k, fun_mk (st := top 86) l c k, rfl, rfl, sc__law_lots_due, (fun z => by cases z), (fun z => by cases z), (fun z => by cases z), kb_of (l := [((2 : Nat), ([] : List Str), ([0, 1] : List Nat))]) (by decide +kernel) ⟨KB.plain (fun s us ws _ hl hk => match us, ws, hl, hk with | [a, b], [], _, _ => BindsTo.of_eq rfl), trivial⟩⟩
theorem sc__law_asks : FnScope fe__law_asks.N fe__law_asks.ps fe__law_asks.sc := ⟨rfl, rfl, rfl, by decide +kernel, rfl, by decide +kernel, by decide +kernel⟩
theorem en__law_asks (X : K.In h) (G : h.Ns mainGlobals mg) (a : PySem.W.nsIn K mainGlobals "_law_asks" = some (some (.ref f)))
    (l : K.lookup f = some ⟨oc, od, .func (PySem.W.fnOf "_law_asks" "_law_asks" (defArgs (top 87)) (defBody (top 87)) (defScope (top 87)) .none kV dc pm an cd ct), sl⟩)
    (c : PySem.W.codeIn K cd "_law_asks" = true) (k : PySem.W.keepIn K (.ref f) = true) (mk : MakeT cs Tl (PySem.W.fnOf "_law_asks" "_law_asks" (defArgs (top 87)) (defBody (top 87)) (defScope (top 87)) .none kV dc pm an cd ct) "_law_asks" "<lambda>") : Ent K mg cs Tl "_law_asks" fe__law_asks :=
  ⟨f, _, _, _, PySem.W.mg_of X G a, a, k, fun_mk (st := top 87) l c k, rfl, rfl, sc__law_asks, (fun _ => mk), (fun z => by cases z), (fun z => by cases z), kb_of (l := [((2 : Nat), ([] : List Str), ([0, 1] : List Nat))]) (by decide +kernel) ⟨KB.plain (fun s us ws _ hl hk => match us, ws, hl, hk with | [a, b], [], _, _ => BindsTo.of_eq rfl), trivial⟩⟩
theorem sc_law : FnScope fe_law.N fe_law.ps fe_law.sc := ⟨rfl, rfl, rfl, by decide +kernel, rfl, by decide +kernel, by decide +kernel⟩
theorem en_law (X : K.In h) (G : h.Ns mainGlobals mg) (a : PySem.W.nsIn K mainGlobals "law" = some (some (.ref f)))
    (l : K.lookup f = some ⟨oc, od, .func (PySem.W.fnOf "law" "law" (defArgs (top 88)) (defBody (top 88)) (defScope (top 88)) .none kV dc pm an cd ct), sl⟩)
    (c : PySem.W.codeIn K cd "law" = true) (k : PySem.W.keepIn K (.ref f) = true) : Ent K mg cs Tl "law" fe_law :=
  ⟨f, _, _, _, PySem.W.mg_of X G a, a, k, fun_mk (st := top 88) l c k, rfl, rfl, sc_law, (fun z => by cases z), (fun z => by cases z), (fun z => by cases z), kb_of (l := []) (by decide +kernel) trivial⟩
theorem la__law_refused (X : K.In h) (G : h.Ns mainGlobals mg) (a : PySem.W.nsIn K mainGlobals "_law_refused" = some (some (.ref f)))
    (l : K.lookup f = some ⟨oc, od, .func (PySem.W.fnOf "_law_refused" "_law_refused" (defArgs (top 85)) (defBody (top 85)) (defScope (top 85)) .none kV dc pm an cd ct), sl⟩)
    (c : PySem.W.codeIn K cd "_law_refused" = true) (k : PySem.W.keepIn K (.ref f) = true) : LamFn K mg "_law_refused" fe__law_refused :=
  ⟨⟨f, "_law_ask", defArgs (top 85), .none, kV, dc, pm, cd, ct, oc, an, od, sl, PySem.W.mg_of X G a, a, k, l, c, .all (fun us hl => match us, hl with | [_], _ => rfl), rfl, ⟨rfl, rfl, rfl, by decide +kernel, rfl, by decide +kernel, by decide +kernel⟩, rfl, (by first | exact .inl rfl | exact .inr (.inl rfl)), by decide +kernel, by decide +kernel, by decide +kernel⟩⟩
theorem sc_Story_by : FnScope fe_Story_by.N fe_Story_by.ps fe_Story_by.sc := ⟨rfl, rfl, rfl, by decide +kernel, rfl, by decide +kernel, by decide +kernel⟩
theorem me_Story_by {C : Addr} {rest : List Value} (a : PySem.W.nsIn K mainGlobals "Story" = some (some (.ref C))) (rd : PySem.W.readsIn K C (.type "type") = true) (ga : PySem.W.specialIn K (.ref C) "__getattribute__" = some (some (.builtin "type.__getattribute__"))) (at_ : PySem.W.findCls K (.ref C) (.type "type") "by" = some (.get (.builtin "classmethod.__get__") (.ref p) .none (.ref C))) (rc : PySem.W.recIn K p "classmethod" = some (.ref f :: rest)) (fi : PySem.W.fnIn K f = true)
    (l : K.lookup f = some ⟨oc, od, .func (PySem.W.fnOf "by" "Story.by" (defArgs ms_Story_by) (defBody ms_Story_by) (defScope ms_Story_by) .none kV dc pm an cd ct), sl⟩)
    (c : PySem.W.codeIn K cd "Story.by" = true) (k : PySem.W.keepIn K (.ref f) = true) : MEnt K cs Tl "Story" "by" 1 fe_Story_by :=
  ⟨C, f, _, _, _, _, a, (show MetFd K C "by" f 1 from ⟨_, _, ⟨rd, ga⟩, ⟨at_, ⟨_, rc⟩, fi⟩⟩), fun_mk (st := ms_Story_by) l c k, rfl, rfl, sc_Story_by, (fun z => by cases z), (fun z => by cases z), kbM_of (l := [((2 : Nat), ([("lots" : Str)] : List Str), ([0, 1, 2] : List Nat))]) (by decide +kernel) ⟨KB.plain (fun s us ws _ hl hk => match us, ws, hl, hk with | [a, b], [c], _, _ => BindsTo.of_eq rfl), trivial⟩⟩
theorem gl_require_usable (X : K.In h) (G : h.Ns mainGlobals mg) (a : PySem.W.nsIn K mainGlobals "require_usable" = some (some (.ref f))) : GOk2 K mg "require_usable" .obj := ⟨f, PySem.W.mg_of X G a, a⟩
theorem gl_check_lots (X : K.In h) (G : h.Ns mainGlobals mg) (a : PySem.W.nsIn K mainGlobals "check_lots" = some (some (.ref f))) : GOk2 K mg "check_lots" .obj := ⟨f, PySem.W.mg_of X G a, a⟩
theorem gl_ways_of (X : K.In h) (G : h.Ns mainGlobals mg) (a : PySem.W.nsIn K mainGlobals "ways_of" = some (some (.ref f))) : GOk2 K mg "ways_of" .obj := ⟨f, PySem.W.mg_of X G a, a⟩
theorem gl_sums_of (X : K.In h) (G : h.Ns mainGlobals mg) (a : PySem.W.nsIn K mainGlobals "sums_of" = some (some (.ref f))) : GOk2 K mg "sums_of" .obj := ⟨f, PySem.W.mg_of X G a, a⟩
theorem gl_is_barrier (X : K.In h) (G : h.Ns mainGlobals mg) (a : PySem.W.nsIn K mainGlobals "is_barrier" = some (some (.ref f))) : GOk2 K mg "is_barrier" .obj := ⟨f, PySem.W.mg_of X G a, a⟩
theorem gl_lets_explain (X : K.In h) (G : h.Ns mainGlobals mg) (a : PySem.W.nsIn K mainGlobals "lets_explain" = some (some (.ref f))) : GOk2 K mg "lets_explain" .obj := ⟨f, PySem.W.mg_of X G a, a⟩
theorem gl_story_and_barrier (X : K.In h) (G : h.Ns mainGlobals mg) (a : PySem.W.nsIn K mainGlobals "story_and_barrier" = some (some (.ref f))) : GOk2 K mg "story_and_barrier" .obj := ⟨f, PySem.W.mg_of X G a, a⟩
theorem gl_story_by (X : K.In h) (G : h.Ns mainGlobals mg) (a : PySem.W.nsIn K mainGlobals "story_by" = some (some (.ref f))) : GOk2 K mg "story_by" .obj := ⟨f, PySem.W.mg_of X G a, a⟩
theorem gl_barrier_by (X : K.In h) (G : h.Ns mainGlobals mg) (a : PySem.W.nsIn K mainGlobals "barrier_by" = some (some (.ref f))) : GOk2 K mg "barrier_by" .obj := ⟨f, PySem.W.mg_of X G a, a⟩
theorem gl_explain_paper (X : K.In h) (G : h.Ns mainGlobals mg) (a : PySem.W.nsIn K mainGlobals "explain_paper" = some (some (.ref f))) : GOk2 K mg "explain_paper" .obj := ⟨f, PySem.W.mg_of X G a, a⟩
theorem gl__law_feed (X : K.In h) (G : h.Ns mainGlobals mg) (a : PySem.W.nsIn K mainGlobals "_law_feed" = some (some (.ref f))) : GOk2 K mg "_law_feed" .obj := ⟨f, PySem.W.mg_of X G a, a⟩
theorem gl__law_draw (X : K.In h) (G : h.Ns mainGlobals mg) (a : PySem.W.nsIn K mainGlobals "_law_draw" = some (some (.ref f))) : GOk2 K mg "_law_draw" .obj := ⟨f, PySem.W.mg_of X G a, a⟩
theorem gl__law_any (X : K.In h) (G : h.Ns mainGlobals mg) (a : PySem.W.nsIn K mainGlobals "_law_any" = some (some (.ref f))) : GOk2 K mg "_law_any" .obj := ⟨f, PySem.W.mg_of X G a, a⟩
theorem gl__law_document (X : K.In h) (G : h.Ns mainGlobals mg) (a : PySem.W.nsIn K mainGlobals "_law_document" = some (some (.ref f))) : GOk2 K mg "_law_document" .obj := ⟨f, PySem.W.mg_of X G a, a⟩
theorem gl__law_refused (X : K.In h) (G : h.Ns mainGlobals mg) (a : PySem.W.nsIn K mainGlobals "_law_refused" = some (some (.ref f))) : GOk2 K mg "_law_refused" .obj := ⟨f, PySem.W.mg_of X G a, a⟩
theorem gl__law_lots_due (X : K.In h) (G : h.Ns mainGlobals mg) (a : PySem.W.nsIn K mainGlobals "_law_lots_due" = some (some (.ref f))) : GOk2 K mg "_law_lots_due" .obj := ⟨f, PySem.W.mg_of X G a, a⟩
theorem gl__law_asks (X : K.In h) (G : h.Ns mainGlobals mg) (a : PySem.W.nsIn K mainGlobals "_law_asks" = some (some (.ref f))) : GOk2 K mg "_law_asks" .obj := ⟨f, PySem.W.mg_of X G a, a⟩
theorem gl_law (X : K.In h) (G : h.Ns mainGlobals mg) (a : PySem.W.nsIn K mainGlobals "law" = some (some (.ref f))) : GOk2 K mg "law" .obj := ⟨f, PySem.W.mg_of X G a, a⟩
theorem gl_Story (X : K.In h) (G : h.Ns mainGlobals mg) (a : PySem.W.nsIn K mainGlobals "Story" = some (some (.ref f))) : GOk2 K mg "Story" .obj := ⟨f, PySem.W.mg_of X G a, a⟩
theorem gl_LotError (X : K.In h) (G : h.Ns mainGlobals mg) (a : PySem.W.nsIn K mainGlobals "LotError" = some (some (.ref f))) : GOk2 K mg "LotError" .obj := ⟨f, PySem.W.mg_of X G a, a⟩
theorem gl_PaperError (X : K.In h) (G : h.Ns mainGlobals mg) (a : PySem.W.nsIn K mainGlobals "PaperError" = some (some (.ref f))) : GOk2 K mg "PaperError" .obj := ⟨f, PySem.W.mg_of X G a, a⟩
theorem gl_CaseError (X : K.In h) (G : h.Ns mainGlobals mg) (a : PySem.W.nsIn K mainGlobals "CaseError" = some (some (.ref f))) : GOk2 K mg "CaseError" .obj := ⟨f, PySem.W.mg_of X G a, a⟩
theorem gl_HouseError (X : K.In h) (G : h.Ns mainGlobals mg) (a : PySem.W.nsIn K mainGlobals "HouseError" = some (some (.ref f))) : GOk2 K mg "HouseError" .obj := ⟨f, PySem.W.mg_of X G a, a⟩
theorem gl_TextError (X : K.In h) (G : h.Ns mainGlobals mg) (a : PySem.W.nsIn K mainGlobals "TextError" = some (some (.ref f))) : GOk2 K mg "TextError" .obj := ⟨f, PySem.W.mg_of X G a, a⟩
theorem gl_InvalidPaper (X : K.In h) (G : h.Ns mainGlobals mg) (a : PySem.W.nsIn K mainGlobals "InvalidPaper" = some (some (.ref f))) : GOk2 K mg "InvalidPaper" .obj := ⟨f, PySem.W.mg_of X G a, a⟩
theorem gl_NotUsable (X : K.In h) (G : h.Ns mainGlobals mg) (a : PySem.W.nsIn K mainGlobals "NotUsable" = some (some (.ref f))) : GOk2 K mg "NotUsable" .obj := ⟨f, PySem.W.mg_of X G a, a⟩
theorem gl_UnknownLot (X : K.In h) (G : h.Ns mainGlobals mg) (a : PySem.W.nsIn K mainGlobals "UnknownLot" = some (some (.ref f))) : GOk2 K mg "UnknownLot" .obj := ⟨f, PySem.W.mg_of X G a, a⟩
theorem gl_NoStory (X : K.In h) (G : h.Ns mainGlobals mg) (a : PySem.W.nsIn K mainGlobals "NoStory" = some (some (.ref f))) : GOk2 K mg "NoStory" .obj := ⟨f, PySem.W.mg_of X G a, a⟩
theorem gl_isinstance (X : K.In h) (G : h.Ns mainGlobals mg) (z : PySem.W.nsIn K mainGlobals "isinstance" = some none) : GOk2 K mg "isinstance" (.blt "isinstance") := ⟨PySem.W.mg_none_of X G z, by first | rfl | decide +kernel | kernel_rfl⟩
theorem gl_len (X : K.In h) (G : h.Ns mainGlobals mg) (z : PySem.W.nsIn K mainGlobals "len" = some none) : GOk2 K mg "len" (.blt "len") := ⟨PySem.W.mg_none_of X G z, by first | rfl | decide +kernel | kernel_rfl⟩
theorem gl_repr (X : K.In h) (G : h.Ns mainGlobals mg) (z : PySem.W.nsIn K mainGlobals "repr" = some none) : GOk2 K mg "repr" (.blt "repr") := ⟨PySem.W.mg_none_of X G z, by first | rfl | decide +kernel | kernel_rfl⟩
theorem gl_ValueError (X : K.In h) (G : h.Ns mainGlobals mg) (z : PySem.W.nsIn K mainGlobals "ValueError" = some none) : GOk2 K mg "ValueError" (.typ "ValueError") := ⟨PySem.W.mg_none_of X G z, by first | rfl | decide +kernel | kernel_rfl⟩
theorem gl_enumerate (X : K.In h) (G : h.Ns mainGlobals mg) (z : PySem.W.nsIn K mainGlobals "enumerate" = some none) : GOk2 K mg "enumerate" (.typ "enumerate") := ⟨PySem.W.mg_none_of X G z, by first | rfl | decide +kernel | kernel_rfl⟩
theorem gl_int (X : K.In h) (G : h.Ns mainGlobals mg) (z : PySem.W.nsIn K mainGlobals "int" = some none) : GOk2 K mg "int" (.typ "int") := ⟨PySem.W.mg_none_of X G z, by first | rfl | decide +kernel | kernel_rfl⟩
theorem gl_list (X : K.In h) (G : h.Ns mainGlobals mg) (z : PySem.W.nsIn K mainGlobals "list" = some none) : GOk2 K mg "list" (.typ "list") := ⟨PySem.W.mg_none_of X G z, by first | rfl | decide +kernel | kernel_rfl⟩
theorem gl_str (X : K.In h) (G : h.Ns mainGlobals mg) (z : PySem.W.nsIn K mainGlobals "str" = some none) : GOk2 K mg "str" (.typ "str") := ⟨PySem.W.mg_none_of X G z, by first | rfl | decide +kernel | kernel_rfl⟩
theorem gl_tuple (X : K.In h) (G : h.Ns mainGlobals mg) (z : PySem.W.nsIn K mainGlobals "tuple" = some none) : GOk2 K mg "tuple" (.typ "tuple") := ⟨PySem.W.mg_none_of X G z, by first | rfl | decide +kernel | kernel_rfl⟩
def ini_InvalidPaper : Stmt := match top 7 with
  | .ClassDef _ _ _ b .. => b.getD 0 (.Pass ⟨0, 0, 0, 0⟩)
  | _ => .Pass ⟨0, 0, 0, 0⟩
theorem ex_InvalidPaper {C fI cda cc : Addr} {nm qn : Str} {Na : Addr} {bs bm : List Value} {sn : List Str} {sb : List Value} {ab : Bool} {col : Option Bool} {dd : Option Addr} {k0 k1 k2 k3 k5 : Option Value} {oc1 kV1 dc1 pm1 ct1 ccl cl1 : Value} {od1 an1 cdd cld : Option Addr} {sl1 ccs csl : Array (Option Value)} {vs : Array Value} {file : Str} {tf : Tok}
    (X : K.In h) (G : h.Ns mainGlobals mg) (a : PySem.W.nsIn K mainGlobals "InvalidPaper" = some (some (.ref C)))
    (xL : K.lookup C = some (excClassObj nm qn C Na bs bm true sn sb ab col dd k0 k1 k2 k3 k5 "ValueError.__new__")) (rv : PySem.HandSPX.refsVE bm = true)
    (sa : PySem.W.findIn K (.ref C) "__setattr__" = some (some (.builtin "object.__setattr__"))) (exC : PySem.W.subIn K (.ref C) (.type "BaseException") = some true) (tyC : PySem.W.typeIn K (.ref C) = some (.type "type")) (kC : PySem.W.keepIn K (.ref C) = true)
    (cl : PySem.W.isClsIn K C = true) (ga : PySem.W.findIn K (.ref C) "__getattribute__" = some (some (.builtin "BaseException.__getattribute__"))) (gt : PySem.W.findIn K (.ref C) "__getattr__" = some none) (hd : PySem.W.hasDictIn K C = true)
    (ca : PySem.W.findIn K (.ref C) "__class__" = some (some (.builtin "object.__class__"))) (sg : PySem.W.specialIn K (.builtin "object.__class__") "__get__" = some (some (.builtin "getset_descriptor.__get__"))) (tk : PySem.W.takesIn K (.builtin "object.__class__") = some true) (mr : PySem.W.mroIn K C (.type "object") = some true)
    (f_word : PySem.W.findIn K (.ref C) "word" = some none) (f_at : PySem.W.findIn K (.ref C) "at" = some none)
    (iC : PySem.W.findIn K (.ref C) "__init__" = some (some (.ref fI))) (tI : PySem.W.typeIn K (.ref fI) = some (.type "function"))
    (lkf : K.lookup fI = some ⟨oc1, od1, .func (PySem.W.ksFn "__init__" "InvalidPaper.__init__" (defArgs ini_InvalidPaper) (defBody ini_InvalidPaper) (defScope ini_InvalidPaper) .none kV1 dc1 pm1 an1 (.ref cda) ct1 cc), sl1⟩) (hcd : PySem.W.codeIn K (.ref cda) "InvalidPaper.__init__" = true)
    (lkc : K.lookup cda = some ⟨ccl, cdd, .fields vs, ccs⟩) (hvs : vs[2]? = some (.str file tf)) (hfile : ((P.main.file : Str) == file) = true)
    (lkcell : K.lookup cc = some ⟨cl1, cld, .cell (some (.ref C)), csl⟩) (hsub : PySem.W.mroIn K C (.ref C) = some true) (hm : PySem.W.nsIn K mainGlobals "super" = some none) (htop : (P.main.scope.names.lookup ("super" : Str)).isSome = false) (opq : PySem.W.nsIn K PySem.cStatics "thirdparty.any" = some none)
    (hsup : PySem.W.ks_superIn K C C "__init__" = some (some (.builtin "ValueError.__init__"))) (hB : PySem.W.subIn K (.ref C) (.type "ValueError") = some true) : ∀ base : Heap, ExOk2 P w K mg base "InvalidPaper" [("word" : Str), ("at" : Str)] := fun base => by
  have T : OexC K C := ⟨⟨_, _, _, _, _, _, _, _, _, _, _, _, _, _, _, xL, rv⟩, sa, exC, tyC, kC⟩
  have hfs : ∀ f ∈ ([("word" : Str), ("at" : Str)] : List Str), PySem.W.findIn K (.ref C) f = some none := by
    intro f hf
    simp only [List.mem_cons, List.not_mem_nil, or_false] at hf
    first | (rcases hf with rfl | rfl) | (subst hf)
    all_goals assumption
  have A : ExcA K C [("word" : Str), ("at" : Str)] := ⟨T, cl, ga, gt, hd, ca, sg, tk, mr, hfs, by decide⟩
  refine ⟨C, fI, PySem.W.ksFn "__init__" "InvalidPaper.__init__" (defArgs ini_InvalidPaper) (defBody ini_InvalidPaper) (defScope ini_InvalidPaper) .none kV1 dc1 pm1 an1 (.ref cda) ct1 cc, "self", PySem.W.mg_of X G a, a, A, iC, tI, ?_, ?_⟩
  · exact exc_fn (k := 0) (me := "self") (N := [("self" : Str), ("word" : Str), ("at" : Str), ("__class__" : Str)]) (p0 := ⟨18, 8, 18, 13⟩) (p1 := ⟨18, 8, 18, 15⟩) (p2 := ⟨18, 8, 18, 24⟩) (p3 := ⟨18, 8, 18, 34⟩) (p4 := ⟨18, 8, 18, 34⟩) (x0 := (("word" : Str), (⟨18, 25, 18, 29⟩ : Pos))) (argl := [(("at" : Str), (⟨18, 31, 18, 33⟩ : Pos))]) (y0 := (("word" : Str), (⟨19, 8, 19, 12⟩ : Pos), (⟨19, 8, 19, 17⟩ : Pos), (⟨19, 20, 19, 24⟩ : Pos), (⟨19, 8, 19, 24⟩ : Pos))) (sets := [(("at" : Str), (⟨20, 8, 20, 12⟩ : Pos), (⟨20, 8, 20, 15⟩ : Pos), (⟨20, 18, 20, 20⟩ : Pos), (⟨20, 8, 20, 20⟩ : Pos))]) (by kernel_rfl) rfl T lkf hcd (ar := { arg := "self", annotation := none, pos := ⟨17, 17, 17, 21⟩ }) (by kernel_rfl) rfl lkc hvs hfile lkcell hsub (PySem.W.mg_none_of X G hm) htop opq hsup hB
      (NdefX.nscope_by (by decide +kernel)) (by kernel_rfl) (by decide +kernel) hfs (by decide) (fun env => ⟨_, rfl⟩)
  · exact .all (fun us hl => match us, hl with | [_, _, _], _ => rfl)
def ini_NotUsable : Stmt := match top 8 with
  | .ClassDef _ _ _ b .. => b.getD 0 (.Pass ⟨0, 0, 0, 0⟩)
  | _ => .Pass ⟨0, 0, 0, 0⟩
theorem ex_NotUsable {C fI cda cc : Addr} {nm qn : Str} {Na : Addr} {bs bm : List Value} {sn : List Str} {sb : List Value} {ab : Bool} {col : Option Bool} {dd : Option Addr} {k0 k1 k2 k3 k5 : Option Value} {oc1 kV1 dc1 pm1 ct1 ccl cl1 : Value} {od1 an1 cdd cld : Option Addr} {sl1 ccs csl : Array (Option Value)} {vs : Array Value} {file : Str} {tf : Tok}
    (X : K.In h) (G : h.Ns mainGlobals mg) (a : PySem.W.nsIn K mainGlobals "NotUsable" = some (some (.ref C)))
    (xL : K.lookup C = some (excClassObj nm qn C Na bs bm true sn sb ab col dd k0 k1 k2 k3 k5 "ValueError.__new__")) (rv : PySem.HandSPX.refsVE bm = true)
    (sa : PySem.W.findIn K (.ref C) "__setattr__" = some (some (.builtin "object.__setattr__"))) (exC : PySem.W.subIn K (.ref C) (.type "BaseException") = some true) (tyC : PySem.W.typeIn K (.ref C) = some (.type "type")) (kC : PySem.W.keepIn K (.ref C) = true)
    (cl : PySem.W.isClsIn K C = true) (ga : PySem.W.findIn K (.ref C) "__getattribute__" = some (some (.builtin "BaseException.__getattribute__"))) (gt : PySem.W.findIn K (.ref C) "__getattr__" = some none) (hd : PySem.W.hasDictIn K C = true)
    (ca : PySem.W.findIn K (.ref C) "__class__" = some (some (.builtin "object.__class__"))) (sg : PySem.W.specialIn K (.builtin "object.__class__") "__get__" = some (some (.builtin "getset_descriptor.__get__"))) (tk : PySem.W.takesIn K (.builtin "object.__class__") = some true) (mr : PySem.W.mroIn K C (.type "object") = some true)
    (f_word : PySem.W.findIn K (.ref C) "word" = some none) (f_at : PySem.W.findIn K (.ref C) "at" = some none)
    (iC : PySem.W.findIn K (.ref C) "__init__" = some (some (.ref fI))) (tI : PySem.W.typeIn K (.ref fI) = some (.type "function"))
    (lkf : K.lookup fI = some ⟨oc1, od1, .func (PySem.W.ksFn "__init__" "NotUsable.__init__" (defArgs ini_NotUsable) (defBody ini_NotUsable) (defScope ini_NotUsable) .none kV1 dc1 pm1 an1 (.ref cda) ct1 cc), sl1⟩) (hcd : PySem.W.codeIn K (.ref cda) "NotUsable.__init__" = true)
    (lkc : K.lookup cda = some ⟨ccl, cdd, .fields vs, ccs⟩) (hvs : vs[2]? = some (.str file tf)) (hfile : ((P.main.file : Str) == file) = true)
    (lkcell : K.lookup cc = some ⟨cl1, cld, .cell (some (.ref C)), csl⟩) (hsub : PySem.W.mroIn K C (.ref C) = some true) (hm : PySem.W.nsIn K mainGlobals "super" = some none) (htop : (P.main.scope.names.lookup ("super" : Str)).isSome = false) (opq : PySem.W.nsIn K PySem.cStatics "thirdparty.any" = some none)
    (hsup : PySem.W.ks_superIn K C C "__init__" = some (some (.builtin "ValueError.__init__"))) (hB : PySem.W.subIn K (.ref C) (.type "ValueError") = some true) : ∀ base : Heap, ExOk2 P w K mg base "NotUsable" [("word" : Str), ("at" : Str)] := fun base => by
  have T : OexC K C := ⟨⟨_, _, _, _, _, _, _, _, _, _, _, _, _, _, _, xL, rv⟩, sa, exC, tyC, kC⟩
  have hfs : ∀ f ∈ ([("word" : Str), ("at" : Str)] : List Str), PySem.W.findIn K (.ref C) f = some none := by
    intro f hf
    simp only [List.mem_cons, List.not_mem_nil, or_false] at hf
    first | (rcases hf with rfl | rfl) | (subst hf)
    all_goals assumption
  have A : ExcA K C [("word" : Str), ("at" : Str)] := ⟨T, cl, ga, gt, hd, ca, sg, tk, mr, hfs, by decide⟩
  refine ⟨C, fI, PySem.W.ksFn "__init__" "NotUsable.__init__" (defArgs ini_NotUsable) (defBody ini_NotUsable) (defScope ini_NotUsable) .none kV1 dc1 pm1 an1 (.ref cda) ct1 cc, "self", PySem.W.mg_of X G a, a, A, iC, tI, ?_, ?_⟩
  · exact exc_fn (k := 0) (me := "self") (N := [("self" : Str), ("word" : Str), ("at" : Str), ("__class__" : Str)]) (p0 := ⟨24, 8, 24, 13⟩) (p1 := ⟨24, 8, 24, 15⟩) (p2 := ⟨24, 8, 24, 24⟩) (p3 := ⟨24, 8, 24, 34⟩) (p4 := ⟨24, 8, 24, 34⟩) (x0 := (("word" : Str), (⟨24, 25, 24, 29⟩ : Pos))) (argl := [(("at" : Str), (⟨24, 31, 24, 33⟩ : Pos))]) (y0 := (("word" : Str), (⟨25, 8, 25, 12⟩ : Pos), (⟨25, 8, 25, 17⟩ : Pos), (⟨25, 20, 25, 24⟩ : Pos), (⟨25, 8, 25, 24⟩ : Pos))) (sets := [(("at" : Str), (⟨26, 8, 26, 12⟩ : Pos), (⟨26, 8, 26, 15⟩ : Pos), (⟨26, 18, 26, 20⟩ : Pos), (⟨26, 8, 26, 20⟩ : Pos))]) (by kernel_rfl) rfl T lkf hcd (ar := { arg := "self", annotation := none, pos := ⟨23, 17, 23, 21⟩ }) (by kernel_rfl) rfl lkc hvs hfile lkcell hsub (PySem.W.mg_none_of X G hm) htop opq hsup hB
      (NdefX.nscope_by (by decide +kernel)) (by kernel_rfl) (by decide +kernel) hfs (by decide) (fun env => ⟨_, rfl⟩)
  · exact .all (fun us hl => match us, hl with | [_, _, _], _ => rfl)
def ini_NoStory : Stmt := match top 10 with
  | .ClassDef _ _ _ b .. => b.getD 0 (.Pass ⟨0, 0, 0, 0⟩)
  | _ => .Pass ⟨0, 0, 0, 0⟩
theorem ex_NoStory {C fI cda cc : Addr} {nm qn : Str} {Na : Addr} {bs bm : List Value} {sn : List Str} {sb : List Value} {ab : Bool} {col : Option Bool} {dd : Option Addr} {k0 k1 k2 k3 k5 : Option Value} {oc1 kV1 dc1 pm1 ct1 ccl cl1 : Value} {od1 an1 cdd cld : Option Addr} {sl1 ccs csl : Array (Option Value)} {vs : Array Value} {file : Str} {tf : Tok}
    (X : K.In h) (G : h.Ns mainGlobals mg) (a : PySem.W.nsIn K mainGlobals "NoStory" = some (some (.ref C)))
    (xL : K.lookup C = some (excClassObj nm qn C Na bs bm true sn sb ab col dd k0 k1 k2 k3 k5 "ValueError.__new__")) (rv : PySem.HandSPX.refsVE bm = true)
    (sa : PySem.W.findIn K (.ref C) "__setattr__" = some (some (.builtin "object.__setattr__"))) (exC : PySem.W.subIn K (.ref C) (.type "BaseException") = some true) (tyC : PySem.W.typeIn K (.ref C) = some (.type "type")) (kC : PySem.W.keepIn K (.ref C) = true)
    (cl : PySem.W.isClsIn K C = true) (ga : PySem.W.findIn K (.ref C) "__getattribute__" = some (some (.builtin "BaseException.__getattribute__"))) (gt : PySem.W.findIn K (.ref C) "__getattr__" = some none) (hd : PySem.W.hasDictIn K C = true)
    (ca : PySem.W.findIn K (.ref C) "__class__" = some (some (.builtin "object.__class__"))) (sg : PySem.W.specialIn K (.builtin "object.__class__") "__get__" = some (some (.builtin "getset_descriptor.__get__"))) (tk : PySem.W.takesIn K (.builtin "object.__class__") = some true) (mr : PySem.W.mroIn K C (.type "object") = some true)
    (f_blamed : PySem.W.findIn K (.ref C) "blamed" = some none)
    (iC : PySem.W.findIn K (.ref C) "__init__" = some (some (.ref fI))) (tI : PySem.W.typeIn K (.ref fI) = some (.type "function"))
    (lkf : K.lookup fI = some ⟨oc1, od1, .func (PySem.W.ksFn "__init__" "NoStory.__init__" (defArgs ini_NoStory) (defBody ini_NoStory) (defScope ini_NoStory) .none kV1 dc1 pm1 an1 (.ref cda) ct1 cc), sl1⟩) (hcd : PySem.W.codeIn K (.ref cda) "NoStory.__init__" = true)
    (lkc : K.lookup cda = some ⟨ccl, cdd, .fields vs, ccs⟩) (hvs : vs[2]? = some (.str file tf)) (hfile : ((P.main.file : Str) == file) = true)
    (lkcell : K.lookup cc = some ⟨cl1, cld, .cell (some (.ref C)), csl⟩) (hsub : PySem.W.mroIn K C (.ref C) = some true) (hm : PySem.W.nsIn K mainGlobals "super" = some none) (htop : (P.main.scope.names.lookup ("super" : Str)).isSome = false) (opq : PySem.W.nsIn K PySem.cStatics "thirdparty.any" = some none)
    (hsup : PySem.W.ks_superIn K C C "__init__" = some (some (.builtin "ValueError.__init__"))) (hB : PySem.W.subIn K (.ref C) (.type "ValueError") = some true) : ∀ base : Heap, ExOk2 P w K mg base "NoStory" [("blamed" : Str)] := fun base => by
  have T : OexC K C := ⟨⟨_, _, _, _, _, _, _, _, _, _, _, _, _, _, _, xL, rv⟩, sa, exC, tyC, kC⟩
  have hfs : ∀ f ∈ ([("blamed" : Str)] : List Str), PySem.W.findIn K (.ref C) f = some none := by
    intro f hf
    simp only [List.mem_cons, List.not_mem_nil, or_false] at hf
    first | (rcases hf with rfl) | (subst hf)
    all_goals assumption
  have A : ExcA K C [("blamed" : Str)] := ⟨T, cl, ga, gt, hd, ca, sg, tk, mr, hfs, by decide⟩
  refine ⟨C, fI, PySem.W.ksFn "__init__" "NoStory.__init__" (defArgs ini_NoStory) (defBody ini_NoStory) (defScope ini_NoStory) .none kV1 dc1 pm1 an1 (.ref cda) ct1 cc, "self", PySem.W.mg_of X G a, a, A, iC, tI, ?_, ?_⟩
  · exact exc_fn (k := 0) (me := "self") (N := [("self" : Str), ("blamed" : Str), ("__class__" : Str)]) (p0 := ⟨35, 8, 35, 13⟩) (p1 := ⟨35, 8, 35, 15⟩) (p2 := ⟨35, 8, 35, 24⟩) (p3 := ⟨35, 8, 35, 32⟩) (p4 := ⟨35, 8, 35, 32⟩) (x0 := (("blamed" : Str), (⟨35, 25, 35, 31⟩ : Pos))) (argl := []) (y0 := (("blamed" : Str), (⟨36, 8, 36, 12⟩ : Pos), (⟨36, 8, 36, 19⟩ : Pos), (⟨36, 22, 36, 28⟩ : Pos), (⟨36, 8, 36, 28⟩ : Pos))) (sets := []) (by kernel_rfl) rfl T lkf hcd (ar := { arg := "self", annotation := none, pos := ⟨34, 17, 34, 21⟩ }) (by kernel_rfl) rfl lkc hvs hfile lkcell hsub (PySem.W.mg_none_of X G hm) htop opq hsup hB
      (NdefX.nscope_by (by decide +kernel)) (by kernel_rfl) (by decide +kernel) hfs (by decide) (fun env => ⟨_, rfl⟩)
  · exact .all (fun us hl => match us, hl with | [_, _], _ => rfl)
theorem law_walk {fa : Addr} (X : K.In h) (G : h.Ns mainGlobals mg) (hfa : mg "law" = some (.ref fa))
    (a : PySem.W.nsIn K mainGlobals "law" = some (some (.ref f)))
    (l : K.lookup f = some ⟨oc, od, .func (PySem.W.fnOf "law" "law" (defArgs (top 88)) (defBody (top 88)) (defScope (top 88)) .none kV dc pm an cd ct), sl⟩)
    (c : PySem.W.codeIn K cd "law" = true) (k : PySem.W.keepIn K (.ref f) = true) (hcs : AllTab h K cs) (hTl : ∀ p ∈ Tl, p.1 ∈ cs.map (·.2))
    (hT : AllEnt K mg cs Tl T) (hG : AllG K mg Gs) (hX : AllX P w K mg exfs) (hS : AllS K subs) (hL : AllL K mg lamT) (hF : AllF K flds) (hST : AllST K subTs) (hC : AllC K mg clss) (hM : AllM K cs Tl Ms) :
    ∃ (fd : FuncData) (cs : List (Addr × Addr)) (Tl : List (Addr × Str)), (∀ p ∈ cs, TabF h K p.1 p.2) ∧ (∀ p ∈ Tl, p.1 ∈ cs.map (·.2)) ∧ (∀ (s : Shared) (u : Value), BindsTo s fd ⟨[u], []⟩ [(("_law_script" : Str), u)]) ∧
      ∀ base : Heap, K.In base → base.Ns mainGlobals mg → (∀ p ∈ cs, LamX.TabB base mg p.1 p.2) → FnG P w K mg base (L2.CX P w) 19 fa fd [("_law_script" : Str)] (spR K Tl 1 (run 13 fe_law)) := by
  have e := hfa.symm.trans (PySem.W.mg_of X G a)
  cases e
  have F := fun_mk (st := top 88) l c k
  refine ⟨PySem.W.fnOf "law" "law" (defArgs (top 88)) (defBody (top 88)) (defScope (top 88)) .none kV dc pm an cd ct, cs, Tl, allTab_at hcs, hTl, fun s u => .of_eq rfl, fun base _ _ tb => ?_⟩
  have M : TabOk tab P w K mg base Tl := ⟨allG_at hG, fun x v e => allX_at hX x v e base, fun x c b e Ca Da h1 h2 => by
    obtain ⟨Ca', Da', g1, g2, g3, g4⟩ := allS_at hS (x, c) b e
    cases g1.uniq h1
    cases g2.uniq h2
    exact ⟨g3, g4⟩, allL_at hL, fun c f i e => allF_at hF (c, f) i e, fun x t b e Ca h1 => by
    obtain ⟨Ca', g1, g2⟩ := allST_at hST (x, t) b e
    cases g1.uniq h1
    exact g2, fun x n e => allC_at hC x n e, fun c m kd fe e => by
    obtain ⟨C, f, fd, nm, qual, st, h1, h2, h4, h5, h6, h7, h8, h8g, h9⟩ := allM_at hM (c, m) (kd, fe) e
    refine ⟨C, f, fd, nm, qual, st, h1, h2, h4, h5, h6, h7, fun z => ?_, fun z => ?_, h9⟩
    · obtain ⟨c, Pt, m1, m2, m3, m4⟩ := h8 z
      exact ⟨c, Pt, m1, tb _ m2, m3, m4⟩
    · obtain ⟨c, Pt, m1, m2, m3, m4⟩ := h8g z
      exact ⟨c, Pt, m1, tb _ m2, m3, m4⟩, fun x fe e => by
    obtain ⟨f, fd, qual, st, h1, h2, h3, h4, h5, h6, h7, h8, h8g, hva, h9⟩ := allEnt_at hT x fe e
    refine ⟨f, fd, qual, st, h1, h2, h3, h4, h5, h6, h7, fun z => ?_, fun z => ?_, hva, h9⟩
    · obtain ⟨c, Pt, m1, m2, m3, m4⟩ := h8 z
      exact ⟨c, Pt, m1, tb _ m2, m3, m4⟩
    · obtain ⟨c, Pt, m1, m2, m3, m4⟩ := h8g z
      exact ⟨c, Pt, m1, tb _ m2, m3, m4⟩⟩
  exact fnG_ev (fe := fe_law) M (cal_all M 16) (fun j _ => cal_all M j) F rfl rfl sc_law (fun z => by cases z) (fun z => by cases z)
end
end DL.P
end
section
theorem DL.P.st_mk {K : PySem.W.Frag} {Ca : PySem.Addr} {x : PySem.Str} {t : String} {b : Bool} (h1 : PySem.W.nsIn K PySem.mainGlobals x = some (some (.ref Ca))) (h2 : PySem.W.kitOne K (.ref Ca) (.type t) = some b) : DL.P.StEnt K x t b := ⟨Ca, h1, h2⟩
theorem DL.P.sub_mk {K : PySem.W.Frag} {Ca Da : PySem.Addr} {x c : PySem.Str} {b : Bool} (h1 : PySem.W.nsIn K PySem.mainGlobals x = some (some (.ref Ca))) (h2 : PySem.W.nsIn K PySem.mainGlobals c = some (some (.ref Da))) (h3 : PySem.W.kitOne K (.ref Ca) (.ref Da) = some b) (h4 : PySem.W.exmOne K (.ref Ca) (.ref Da) = some b) : DL.P.SubOk K x c b := ⟨Ca, Da, h1, h2, h3, h4⟩
open PySem PySem.W PyProof.Rows
set_option maxRecDepth 100000 in
set_option maxHeartbeats 0 in
set_option pp.maxSteps 60 in
set_option pp.deepTerms false in
theorem PySem.Challenge.cw_lotback_k23_lots_refused_holds : PySem.Challenge.rw_lotback_k23_lots_refused.Holds := by
  w_on; o_law; k_head; (case hw => w_witness2)
  k_fill
  refine DL.walkD (l := PySem.Challenge.rw_lotback_k23_lots_refused) (k := 19) (x := ("_law_script" : Str)) (g := DL.P.run 13 DL.P.fe_law) rfl (by decide) rfl ⟨rfl, by decide, by decide⟩ (fun w h Y => km_in_of Y) ?F (fun ns _ _ => DL.P.s_law 0 ns)
  case F =>
    intro w mg fa h Y KX G hmg
    refine' DL.P.law_walk KX G hmg ?a ?l ?c ?k ?hcs (DL.P.tl_one (c := 763) (Pt := 759) (q := DL.P.lamQ "<lambda>" "_law_asks")) ?T ?G ?X ?S ?L ?FL ?ST ?CL ?ML
    (case a => k_is); (case l => k_is); (case c => k_is); (case k => k_is)
    case' T => refine' ⟨?e_require_usable, ?e_check_lots, ?e_ways_of, ?e_sums_of, ?e_is_barrier, ?e_lets_explain, ?e_story_and_barrier, ?e_story_by, ?e_barrier_by, ?e_explain_paper, ?e__law_feed, ?e__law_draw, ?e__law_any, ?e__law_document, ?e__law_lots_due, ?e__law_asks, ?e_law, trivial⟩
    case' hcs => refine' ⟨DL.P.tab_of KX ?lkc0 ?h110 ?hd0 ?nk0 ?ht0, trivial⟩
    (case lkc0 => k_is); (case h110 => exact (Eq.refl _)); (case hd0 => kernel_rfl); (case nk0 => kernel_rfl); (case ht0 => exact km_tabs_of Y _ (by k_mem))
    (case e__law_asks => refine' DL.P.en__law_asks KX G ?a ?l ?c ?k ?mk; (case a => k_is); (case l => k_is); (case c => k_is); (case k => k_is); (case mk => exact DL.P.make_one (by rfl)))
    (case e_require_usable => refine' DL.P.en_require_usable KX G ?a ?l ?c ?k; (case a => k_is); (case l => k_is); (case c => k_is); (case k => k_is))
    (case e_check_lots => refine' DL.P.en_check_lots KX G ?a ?l ?c ?k; (case a => k_is); (case l => k_is); (case c => k_is); (case k => k_is))
    (case e_ways_of => refine' DL.P.en_ways_of KX G ?a ?l ?c ?k; (case a => k_is); (case l => k_is); (case c => k_is); (case k => k_is))
    (case e_sums_of => refine' DL.P.en_sums_of KX G ?a ?l ?c ?k; (case a => k_is); (case l => k_is); (case c => k_is); (case k => k_is))
    (case e_is_barrier => refine' DL.P.en_is_barrier KX G ?a ?l ?c ?k; (case a => k_is); (case l => k_is); (case c => k_is); (case k => k_is))
    (case e_lets_explain => refine' DL.P.en_lets_explain KX G ?a ?l ?c ?k; (case a => k_is); (case l => k_is); (case c => k_is); (case k => k_is))
    (case e_story_and_barrier => refine' DL.P.en_story_and_barrier KX G ?a ?l ?c ?k; (case a => k_is); (case l => k_is); (case c => k_is); (case k => k_is))
    (case e_story_by => refine' DL.P.en_story_by KX G ?a ?l ?c ?k; (case a => k_is); (case l => k_is); (case c => k_is); (case k => k_is))
    (case e_barrier_by => refine' DL.P.en_barrier_by KX G ?a ?l ?c ?k; (case a => k_is); (case l => k_is); (case c => k_is); (case k => k_is))
    (case e_explain_paper => refine' DL.P.en_explain_paper KX G ?a ?l ?c ?k; (case a => k_is); (case l => k_is); (case c => k_is); (case k => k_is))
    (case e__law_feed => refine' DL.P.en__law_feed KX G ?a ?l ?c ?k; (case a => k_is); (case l => k_is); (case c => k_is); (case k => k_is))
    (case e__law_draw => refine' DL.P.en__law_draw KX G ?a ?l ?c ?k; (case a => k_is); (case l => k_is); (case c => k_is); (case k => k_is))
    (case e__law_any => refine' DL.P.en__law_any KX G ?a ?l ?c ?k; (case a => k_is); (case l => k_is); (case c => k_is); (case k => k_is))
    (case e__law_document => refine' DL.P.en__law_document KX G ?a ?l ?c ?k; (case a => k_is); (case l => k_is); (case c => k_is); (case k => k_is))
    (case e__law_lots_due => refine' DL.P.en__law_lots_due KX G ?a ?l ?c ?k; (case a => k_is); (case l => k_is); (case c => k_is); (case k => k_is))
    (case e_law => refine' DL.P.en_law KX G ?a ?l ?c ?k; (case a => k_is); (case l => k_is); (case c => k_is); (case k => k_is))
    case G =>
      refine' ⟨?g_require_usable, ?g_check_lots, ?g_ways_of, ?g_sums_of, ?g_is_barrier, ?g_lets_explain, ?g_story_and_barrier, ?g_story_by, ?g_barrier_by, ?g_explain_paper, ?g__law_feed, ?g__law_draw, ?g__law_any, ?g__law_document, ?g__law_refused, ?g__law_lots_due, ?g__law_asks, ?g_law, ?g_Story, ?g_LotError, ?g_PaperError, ?g_CaseError, ?g_HouseError, ?g_TextError, ?g_InvalidPaper, ?g_NotUsable, ?g_UnknownLot, ?g_NoStory, ?g_isinstance, ?g_len, ?g_repr, ?g_ValueError, ?g_enumerate, ?g_int, ?g_list, ?g_str, ?g_tuple, trivial⟩
      (case g_require_usable => refine' DL.P.gl_require_usable KX G ?a; (case a => k_is))
      (case g_check_lots => refine' DL.P.gl_check_lots KX G ?a; (case a => k_is))
      (case g_ways_of => refine' DL.P.gl_ways_of KX G ?a; (case a => k_is))
      (case g_sums_of => refine' DL.P.gl_sums_of KX G ?a; (case a => k_is))
      (case g_is_barrier => refine' DL.P.gl_is_barrier KX G ?a; (case a => k_is))
      (case g_lets_explain => refine' DL.P.gl_lets_explain KX G ?a; (case a => k_is))
      (case g_story_and_barrier => refine' DL.P.gl_story_and_barrier KX G ?a; (case a => k_is))
      (case g_story_by => refine' DL.P.gl_story_by KX G ?a; (case a => k_is))
      (case g_barrier_by => refine' DL.P.gl_barrier_by KX G ?a; (case a => k_is))
      (case g_explain_paper => refine' DL.P.gl_explain_paper KX G ?a; (case a => k_is))
      (case g__law_feed => refine' DL.P.gl__law_feed KX G ?a; (case a => k_is))
      (case g__law_draw => refine' DL.P.gl__law_draw KX G ?a; (case a => k_is))
      (case g__law_any => refine' DL.P.gl__law_any KX G ?a; (case a => k_is))
      (case g__law_document => refine' DL.P.gl__law_document KX G ?a; (case a => k_is))
      (case g__law_refused => refine' DL.P.gl__law_refused KX G ?a; (case a => k_is))
      (case g__law_lots_due => refine' DL.P.gl__law_lots_due KX G ?a; (case a => k_is))
      (case g__law_asks => refine' DL.P.gl__law_asks KX G ?a; (case a => k_is))
      (case g_law => refine' DL.P.gl_law KX G ?a; (case a => k_is))
      (case g_Story => refine' DL.P.gl_Story KX G ?a; (case a => k_is))
      (case g_LotError => refine' DL.P.gl_LotError KX G ?a; (case a => k_is))
      (case g_PaperError => refine' DL.P.gl_PaperError KX G ?a; (case a => k_is))
      (case g_CaseError => refine' DL.P.gl_CaseError KX G ?a; (case a => k_is))
      (case g_HouseError => refine' DL.P.gl_HouseError KX G ?a; (case a => k_is))
      (case g_TextError => refine' DL.P.gl_TextError KX G ?a; (case a => k_is))
      (case g_InvalidPaper => refine' DL.P.gl_InvalidPaper KX G ?a; (case a => k_is))
      (case g_NotUsable => refine' DL.P.gl_NotUsable KX G ?a; (case a => k_is))
      (case g_UnknownLot => refine' DL.P.gl_UnknownLot KX G ?a; (case a => k_is))
      (case g_NoStory => refine' DL.P.gl_NoStory KX G ?a; (case a => k_is))
      (case g_isinstance => refine' DL.P.gl_isinstance KX G ?z; (case z => k_is))
      (case g_len => refine' DL.P.gl_len KX G ?z; (case z => k_is))
      (case g_repr => refine' DL.P.gl_repr KX G ?z; (case z => k_is))
      (case g_ValueError => refine' DL.P.gl_ValueError KX G ?z; (case z => k_is))
      (case g_enumerate => refine' DL.P.gl_enumerate KX G ?z; (case z => k_is))
      (case g_int => refine' DL.P.gl_int KX G ?z; (case z => k_is))
      (case g_list => refine' DL.P.gl_list KX G ?z; (case z => k_is))
      (case g_str => refine' DL.P.gl_str KX G ?z; (case z => k_is))
      (case g_tuple => refine' DL.P.gl_tuple KX G ?z; (case z => k_is))
    case X =>
      refine' ⟨?x_InvalidPaper, ?x_NotUsable, ?x_NoStory, trivial⟩
      case x_InvalidPaper =>
        refine' DL.P.ex_InvalidPaper KX G ?a ?xL ?rv ?sa ?exC ?tyC ?kC ?cl ?ga ?gt ?hd ?ca ?sg ?tk ?mr ?f_word ?f_at ?iC ?tI ?lkf ?hcd ?lkc ?hvs ?hfile ?lkcell ?hsub ?hm ?htop ?opq ?hsup ?hB
        (case a => k_is)
        (case xL => k_is)
        (case rv => decide +kernel)
        (case sa => k_is)
        (case exC => k_is)
        (case tyC => k_is)
        (case kC => k_is)
        (case cl => k_is)
        (case ga => k_is)
        (case gt => k_is)
        (case hd => k_is)
        (case ca => k_is)
        (case sg => k_is)
        (case tk => k_is)
        (case mr => k_is)
        (case f_word => k_is)
        (case f_at => k_is)
        (case iC => k_is)
        (case tI => k_is)
        (case lkf => k_is)
        (case hcd => k_is)
        (case lkc => k_is)
        (case hvs => rfl)
        (case hfile => first | rfl | decide +kernel | kernel_rfl)
        (case lkcell => k_is)
        (case hsub => k_is)
        (case hm => k_is)
        (case htop => first | rfl | decide +kernel | kernel_rfl)
        (case opq => k_is)
        (case hsup => kernel_rfl)
        (case hB => k_is)
      case x_NotUsable =>
        refine' DL.P.ex_NotUsable KX G ?a ?xL ?rv ?sa ?exC ?tyC ?kC ?cl ?ga ?gt ?hd ?ca ?sg ?tk ?mr ?f_word ?f_at ?iC ?tI ?lkf ?hcd ?lkc ?hvs ?hfile ?lkcell ?hsub ?hm ?htop ?opq ?hsup ?hB
        (case a => k_is)
        (case xL => k_is)
        (case rv => decide +kernel)
        (case sa => k_is)
        (case exC => k_is)
        (case tyC => k_is)
        (case kC => k_is)
        (case cl => k_is)
        (case ga => k_is)
        (case gt => k_is)
        (case hd => k_is)
        (case ca => k_is)
        (case sg => k_is)
        (case tk => k_is)
        (case mr => k_is)
        (case f_word => k_is)
        (case f_at => k_is)
        (case iC => k_is)
        (case tI => k_is)
        (case lkf => k_is)
        (case hcd => k_is)
        (case lkc => k_is)
        (case hvs => rfl)
        (case hfile => first | rfl | decide +kernel | kernel_rfl)
        (case lkcell => k_is)
        (case hsub => k_is)
        (case hm => k_is)
        (case htop => first | rfl | decide +kernel | kernel_rfl)
        (case opq => k_is)
        (case hsup => kernel_rfl)
        (case hB => k_is)
      case x_NoStory =>
        refine' DL.P.ex_NoStory KX G ?a ?xL ?rv ?sa ?exC ?tyC ?kC ?cl ?ga ?gt ?hd ?ca ?sg ?tk ?mr ?f_blamed ?iC ?tI ?lkf ?hcd ?lkc ?hvs ?hfile ?lkcell ?hsub ?hm ?htop ?opq ?hsup ?hB
        (case a => k_is)
        (case xL => k_is)
        (case rv => decide +kernel)
        (case sa => k_is)
        (case exC => k_is)
        (case tyC => k_is)
        (case kC => k_is)
        (case cl => k_is)
        (case ga => k_is)
        (case gt => k_is)
        (case hd => k_is)
        (case ca => k_is)
        (case sg => k_is)
        (case tk => k_is)
        (case mr => k_is)
        (case f_blamed => k_is)
        (case iC => k_is)
        (case tI => k_is)
        (case lkf => k_is)
        (case hcd => k_is)
        (case lkc => k_is)
        (case hvs => rfl)
        (case hfile => first | rfl | decide +kernel | kernel_rfl)
        (case lkcell => k_is)
        (case hsub => k_is)
        (case hm => k_is)
        (case htop => first | rfl | decide +kernel | kernel_rfl)
        (case opq => k_is)
        (case hsup => kernel_rfl)
        (case hB => k_is)
    case S =>
      refine' ⟨?s_InvalidPaper_LotError, ?s_InvalidPaper_PaperError, ?s_InvalidPaper_CaseError, ?s_InvalidPaper_HouseError, ?s_InvalidPaper_TextError, ?s_InvalidPaper_InvalidPaper, ?s_InvalidPaper_NotUsable, ?s_InvalidPaper_UnknownLot, ?s_InvalidPaper_NoStory, ?s_NotUsable_LotError, ?s_NotUsable_PaperError, ?s_NotUsable_CaseError, ?s_NotUsable_HouseError, ?s_NotUsable_TextError, ?s_NotUsable_InvalidPaper, ?s_NotUsable_NotUsable, ?s_NotUsable_UnknownLot, ?s_NotUsable_NoStory, ?s_NoStory_LotError, ?s_NoStory_PaperError, ?s_NoStory_CaseError, ?s_NoStory_HouseError, ?s_NoStory_TextError, ?s_NoStory_InvalidPaper, ?s_NoStory_NotUsable, ?s_NoStory_UnknownLot, ?s_NoStory_NoStory, trivial⟩
      (case s_InvalidPaper_LotError => refine' DL.P.sub_mk ?h1 ?h2 ?h3 ?h4; (case h1 => k_is); (case h2 => k_is); (case h3 => kernel_rfl); (case h4 => kernel_rfl))
      (case s_InvalidPaper_PaperError => refine' DL.P.sub_mk ?h1 ?h2 ?h3 ?h4; (case h1 => k_is); (case h2 => k_is); (case h3 => kernel_rfl); (case h4 => kernel_rfl))
      (case s_InvalidPaper_CaseError => refine' DL.P.sub_mk ?h1 ?h2 ?h3 ?h4; (case h1 => k_is); (case h2 => k_is); (case h3 => kernel_rfl); (case h4 => kernel_rfl))
      (case s_InvalidPaper_HouseError => refine' DL.P.sub_mk ?h1 ?h2 ?h3 ?h4; (case h1 => k_is); (case h2 => k_is); (case h3 => kernel_rfl); (case h4 => kernel_rfl))
      (case s_InvalidPaper_TextError => refine' DL.P.sub_mk ?h1 ?h2 ?h3 ?h4; (case h1 => k_is); (case h2 => k_is); (case h3 => kernel_rfl); (case h4 => kernel_rfl))
      (case s_InvalidPaper_InvalidPaper => refine' DL.P.sub_mk ?h1 ?h2 ?h3 ?h4; (case h1 => k_is); (case h2 => k_is); (case h3 => kernel_rfl); (case h4 => kernel_rfl))
      (case s_InvalidPaper_NotUsable => refine' DL.P.sub_mk ?h1 ?h2 ?h3 ?h4; (case h1 => k_is); (case h2 => k_is); (case h3 => kernel_rfl); (case h4 => kernel_rfl))
      (case s_InvalidPaper_UnknownLot => refine' DL.P.sub_mk ?h1 ?h2 ?h3 ?h4; (case h1 => k_is); (case h2 => k_is); (case h3 => kernel_rfl); (case h4 => kernel_rfl))
      (case s_InvalidPaper_NoStory => refine' DL.P.sub_mk ?h1 ?h2 ?h3 ?h4; (case h1 => k_is); (case h2 => k_is); (case h3 => kernel_rfl); (case h4 => kernel_rfl))
      (case s_NotUsable_LotError => refine' DL.P.sub_mk ?h1 ?h2 ?h3 ?h4; (case h1 => k_is); (case h2 => k_is); (case h3 => kernel_rfl); (case h4 => kernel_rfl))
      (case s_NotUsable_PaperError => refine' DL.P.sub_mk ?h1 ?h2 ?h3 ?h4; (case h1 => k_is); (case h2 => k_is); (case h3 => kernel_rfl); (case h4 => kernel_rfl))
      (case s_NotUsable_CaseError => refine' DL.P.sub_mk ?h1 ?h2 ?h3 ?h4; (case h1 => k_is); (case h2 => k_is); (case h3 => kernel_rfl); (case h4 => kernel_rfl))
      (case s_NotUsable_HouseError => refine' DL.P.sub_mk ?h1 ?h2 ?h3 ?h4; (case h1 => k_is); (case h2 => k_is); (case h3 => kernel_rfl); (case h4 => kernel_rfl))
      (case s_NotUsable_TextError => refine' DL.P.sub_mk ?h1 ?h2 ?h3 ?h4; (case h1 => k_is); (case h2 => k_is); (case h3 => kernel_rfl); (case h4 => kernel_rfl))
      (case s_NotUsable_InvalidPaper => refine' DL.P.sub_mk ?h1 ?h2 ?h3 ?h4; (case h1 => k_is); (case h2 => k_is); (case h3 => kernel_rfl); (case h4 => kernel_rfl))
      (case s_NotUsable_NotUsable => refine' DL.P.sub_mk ?h1 ?h2 ?h3 ?h4; (case h1 => k_is); (case h2 => k_is); (case h3 => kernel_rfl); (case h4 => kernel_rfl))
      (case s_NotUsable_UnknownLot => refine' DL.P.sub_mk ?h1 ?h2 ?h3 ?h4; (case h1 => k_is); (case h2 => k_is); (case h3 => kernel_rfl); (case h4 => kernel_rfl))
      (case s_NotUsable_NoStory => refine' DL.P.sub_mk ?h1 ?h2 ?h3 ?h4; (case h1 => k_is); (case h2 => k_is); (case h3 => kernel_rfl); (case h4 => kernel_rfl))
      (case s_NoStory_LotError => refine' DL.P.sub_mk ?h1 ?h2 ?h3 ?h4; (case h1 => k_is); (case h2 => k_is); (case h3 => kernel_rfl); (case h4 => kernel_rfl))
      (case s_NoStory_PaperError => refine' DL.P.sub_mk ?h1 ?h2 ?h3 ?h4; (case h1 => k_is); (case h2 => k_is); (case h3 => kernel_rfl); (case h4 => kernel_rfl))
      (case s_NoStory_CaseError => refine' DL.P.sub_mk ?h1 ?h2 ?h3 ?h4; (case h1 => k_is); (case h2 => k_is); (case h3 => kernel_rfl); (case h4 => kernel_rfl))
      (case s_NoStory_HouseError => refine' DL.P.sub_mk ?h1 ?h2 ?h3 ?h4; (case h1 => k_is); (case h2 => k_is); (case h3 => kernel_rfl); (case h4 => kernel_rfl))
      (case s_NoStory_TextError => refine' DL.P.sub_mk ?h1 ?h2 ?h3 ?h4; (case h1 => k_is); (case h2 => k_is); (case h3 => kernel_rfl); (case h4 => kernel_rfl))
      (case s_NoStory_InvalidPaper => refine' DL.P.sub_mk ?h1 ?h2 ?h3 ?h4; (case h1 => k_is); (case h2 => k_is); (case h3 => kernel_rfl); (case h4 => kernel_rfl))
      (case s_NoStory_NotUsable => refine' DL.P.sub_mk ?h1 ?h2 ?h3 ?h4; (case h1 => k_is); (case h2 => k_is); (case h3 => kernel_rfl); (case h4 => kernel_rfl))
      (case s_NoStory_UnknownLot => refine' DL.P.sub_mk ?h1 ?h2 ?h3 ?h4; (case h1 => k_is); (case h2 => k_is); (case h3 => kernel_rfl); (case h4 => kernel_rfl))
      (case s_NoStory_NoStory => refine' DL.P.sub_mk ?h1 ?h2 ?h3 ?h4; (case h1 => k_is); (case h2 => k_is); (case h3 => kernel_rfl); (case h4 => kernel_rfl))
    case L =>
      refine' ⟨?l__law_refused, trivial⟩
      (case l__law_refused => refine' DL.P.la__law_refused KX G ?a ?l ?c ?k; (case a => k_is); (case l => k_is); (case c => k_is); (case k => k_is))
    case FL =>
      trivial
    case ST =>
      refine' ⟨?st0, ?st1, ?st2, trivial⟩
      (case st0 => refine' DL.P.st_mk ?a ?b; (case a => first | k_is | kernel_rfl | decide +kernel); (case b => first | k_is | kernel_rfl | decide +kernel))
      (case st1 => refine' DL.P.st_mk ?a ?b; (case a => first | k_is | kernel_rfl | decide +kernel); (case b => first | k_is | kernel_rfl | decide +kernel))
      (case st2 => refine' DL.P.st_mk ?a ?b; (case a => first | k_is | kernel_rfl | decide +kernel); (case b => first | k_is | kernel_rfl | decide +kernel))
    case CL =>
      trivial
    case ML =>
      refine' ⟨?ml0, trivial⟩
      (case ml0 => refine' DL.P.me_Story_by ?a ?rd ?ga ?at_ ?rc ?fi ?l ?c ?k; (case a => first | k_is | kernel_rfl | decide +kernel); (case rd => first | k_is | kernel_rfl | decide +kernel); (case ga => first | k_is | kernel_rfl | decide +kernel); (case at_ => first | k_is | kernel_rfl | decide +kernel); (case rc => first | k_is | kernel_rfl | decide +kernel); (case fi => first | k_is | kernel_rfl | decide +kernel); (case l => first | k_is | kernel_rfl | decide +kernel); (case c => first | k_is | kernel_rfl | decide +kernel); (case k => first | k_is | kernel_rfl | decide +kernel))
end
